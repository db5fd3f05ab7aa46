import PyProof.Rows.All
import Wide.All
import OpenK.AllK
import Wide.FinOn
import HandS.ForMost
import HandS.Star
import HandS.More
import HandS.IsInst
import HandS.Exc
import HandS.ExcInit
import HandS.TryMany
import HandS.TryOnly
import HandS.ExcField
import HandS.DictComp
import HandS.Style
import HandS.Flow
import HandS.Wide
import HandS.WideBits
import HandS.TupMul
import HandS.TupAny
import HandS.Conv
import KE.DataCmp
import KE.DataEq
import KE.DataFind
import KE.DataMinMax
import KE.SortCalls
import KE.SortKeyHeap
import KE.SortUse
import KE.DataIsa
import KE.DataAny
import KE.DatumIndex
import KE.KTupSum
import HandS.ExcIs
import HandS.Text
import HandS.Zip
import HandS.Comp
import HandS.Iter
import HandS.SortKw
import PyProof.SeqIndex
import HandS.Small
import KE.GoesMore
import PyProof.Draws
import PyProof.EnumMake
import HandS.Ends
import HandS.HeadEnd
import HandS.Defaults
import HandS.Head0
import HandS.Head1
import HandS.Head2
import HandS.HeadHook1
import HandS.HeadHook2
import KE.KSuper
import KE.KExcSuper
import KE.KExcMake
import PySem.Challenge.RW_skywrought_k72_whole_any_deficits_are_ju
set_option Elab.async false
set_option autoImplicit false
set_option linter.all false
set_option maxRecDepth 100000
set_option maxHeartbeats 4000000
namespace Lg
open PySem PySem.Spec PyProof.Rows L2

inductive D where
  | non | bl (b : Bool) | int (i : Int) | str (x : Str) | tup (xs : List D) | lst (xs : List D) | frl (xs : List D) | dct (kvs : List (Key × D)) | ref (a : Addr) | ins (C : Addr) (fs : List (Str × D)) | bnd (g : Addr) (x : D)

/-- an object that has no dict of its own -/
def NoD (K : PySem.W.Frag) (F : Hp) (a : Addr) : Prop :=
  (∃ o u, F a = some (.frz o u) ∧ o.cls = .type "tuple" ∧ o.dict = none) ∨ ∃ o, K.lookup a = some o ∧ o.cls = .type "tuple" ∧ o.dict = none
def TupR (K : PySem.W.Frag) (F : Hp) (a : Addr) (vs : List V) : Prop := SqT K F a vs ∧ NoD K F a
mutual
def Rep (K : PySem.W.Frag) (F : Hp) : D → V → Prop
  | .non, v => v = .non
  | .bl b, v => v = .bl b
  | .int i, v => v = .int i
  | .str x, v => v = .str x
  | .tup ds, v => ∃ a vs, v = .ref a ∧ TupR K F a vs ∧ RepL K F ds vs
  | .lst ds, v => ∃ a vs, v = .ref a ∧ F a = some (.lst vs) ∧ RepL K F ds vs
  | .frl ds, v => ∃ a vs, v = .ref a ∧ SqL K F a vs ∧ RepL K F ds vs
  | .dct kvs, v => ∃ a kws, v = .ref a ∧ F a = some (.dK kws) ∧ RepKV K F kvs kws
  | .ref a, v => v = .ref a
  | .ins C fs, v => ∃ a dx fs', v = .ref a ∧ F a = some (.ins C dx fs') ∧ RepFs K F fs fs'
  | .bnd g x, v => ∃ q a, v = .ref q ∧ F q = some (.met g a) ∧ Rep K F x (.ref a)
def RepL (K : PySem.W.Frag) (F : Hp) : List D → List V → Prop
  | [], vs => vs = []
  | d :: ds, vs => ∃ v r, vs = v :: r ∧ Rep K F d v ∧ RepL K F ds r
def RepKV (K : PySem.W.Frag) (F : Hp) : List (Key × D) → List (Key × V) → Prop
  | [], vs => vs = []
  | (k, d) :: ds, vs => ∃ v r, vs = (k, v) :: r ∧ Rep K F d v ∧ RepKV K F ds r
def RepFs (K : PySem.W.Frag) (F : Hp) : List (Str × D) → List (Str × V) → Prop
  | [], vs => vs = []
  | (k, d) :: ds, vs => ∃ v r, vs = (k, v) :: r ∧ Rep K F d v ∧ RepFs K F ds r
end

theorem sqT_mono {K : PySem.W.Frag} {F F' : Hp} (s : Same F F') {a : Addr} {xs : List V} (h : SqT K F a xs) : SqT K F' a xs := by
  rcases h with (h | ⟨o, h⟩) | h
  · exact .inl (.inl (s _ _ h))
  · exact .inl (.inr ⟨o, s _ _ h⟩)
  · exact .inr h
theorem noD_mono {K : PySem.W.Frag} {F F' : Hp} (s : Same F F') {a : Addr} (h : NoD K F a) : NoD K F' a := by
  rcases h with ⟨o, u, e, h⟩ | h
  · exact .inl ⟨o, u, s _ _ e, h⟩
  · exact .inr h
theorem tupR_mono {K : PySem.W.Frag} {F F' : Hp} (s : Same F F') {a : Addr} {xs : List V} (h : TupR K F a xs) : TupR K F' a xs := ⟨sqT_mono s h.1, noD_mono s h.2⟩
theorem sqL_mono {K : PySem.W.Frag} {F F' : Hp} (s : Same F F') {a : Addr} {xs : List V} (h : SqL K F a xs) : SqL K F' a xs := s.seq h

section
variable {K : PySem.W.Frag} {F F' : Hp}
mutual
theorem Rep.mono (s : Same F F') : ∀ {d : D} {v : V}, Rep K F d v → Rep K F' d v
  | .non, _, h => h
  | .bl _, _, h => h
  | .int _, _, h => h
  | .str _, _, h => h
  | .tup _, _, h => by
    simp only [Rep] at h ⊢
    obtain ⟨a, vs, e, q, r⟩ := h
    exact ⟨a, vs, e, tupR_mono s q, RepL.mono s r⟩
  | .lst _, _, h => by
    simp only [Rep] at h ⊢
    obtain ⟨a, vs, e, q, r⟩ := h
    exact ⟨a, vs, e, s _ _ q, RepL.mono s r⟩
  | .frl _, _, h => by
    simp only [Rep] at h ⊢
    obtain ⟨a, vs, e, q, r⟩ := h
    exact ⟨a, vs, e, sqL_mono s q, RepL.mono s r⟩
  | .dct _, _, h => by
    simp only [Rep] at h ⊢
    obtain ⟨a, vs, e, q, r⟩ := h
    exact ⟨a, vs, e, s _ _ q, RepKV.mono s r⟩
  | .ref _, _, h => h
  | .ins _ _, _, h => by
    simp only [Rep] at h ⊢
    obtain ⟨a, dx, vs, e, q, r⟩ := h
    exact ⟨a, dx, vs, e, s _ _ q, RepFs.mono s r⟩
  | .bnd _ _, _, h => by
    simp only [Rep] at h ⊢
    obtain ⟨q, a, e, e2, r⟩ := h
    exact ⟨q, a, e, s _ _ e2, r.mono s⟩
theorem RepL.mono (s : Same F F') : ∀ {ds : List D} {vs : List V}, RepL K F ds vs → RepL K F' ds vs
  | [], _, h => h
  | _ :: _, _, h => by
    simp only [RepL] at h ⊢
    obtain ⟨v, r, e, h1, h2⟩ := h
    exact ⟨v, r, e, h1.mono s, RepL.mono s h2⟩
theorem RepKV.mono (s : Same F F') : ∀ {ds : List (Key × D)} {vs : List (Key × V)}, RepKV K F ds vs → RepKV K F' ds vs
  | [], _, h => h
  | (_, _) :: _, _, h => by
    simp only [RepKV] at h ⊢
    obtain ⟨v, r, e, h1, h2⟩ := h
    exact ⟨v, r, e, h1.mono s, RepKV.mono s h2⟩
theorem RepFs.mono (s : Same F F') : ∀ {ds : List (Str × D)} {vs : List (Str × V)}, RepFs K F ds vs → RepFs K F' ds vs
  | [], _, h => h
  | (_, _) :: _, _, h => by
    simp only [RepFs] at h ⊢
    obtain ⟨v, r, e, h1, h2⟩ := h
    exact ⟨v, r, e, h1.mono s, RepFs.mono s h2⟩
end

theorem RepL.length : ∀ {ds : List D} {vs : List V}, RepL K F ds vs → ds.length = vs.length
  | [], _, h => by simp only [RepL] at h; subst h; rfl
  | _ :: _, _, h => by
    simp only [RepL] at h
    obtain ⟨v, r, rfl, _, h2⟩ := h
    simp only [List.length_cons, h2.length]
theorem RepL.get : ∀ {ds : List D} {vs : List V} {i : Nat} {d : D}, RepL K F ds vs → ds[i]? = some d → ∃ v, vs[i]? = some v ∧ Rep K F d v
  | [], _, _, _, _, e => by simp at e
  | _ :: _, _, 0, _, h, e => by
    simp only [RepL] at h
    obtain ⟨v, r, rfl, h1, _⟩ := h
    simp at e; subst e
    exact ⟨v, rfl, h1⟩
  | _ :: _, _, i + 1, _, h, e => by
    simp only [RepL] at h
    obtain ⟨v, r, rfl, _, h2⟩ := h
    obtain ⟨w, e1, r1⟩ := RepL.get (i := i) h2 (by simpa using e)
    exact ⟨w, by simpa using e1, r1⟩
theorem RepL.get' : ∀ {ds : List D} {vs : List V} {i : Nat} {v : V}, RepL K F ds vs → vs[i]? = some v → ∃ d, ds[i]? = some d ∧ Rep K F d v
  | [], _, i, _, h, e => by simp only [RepL] at h; subst h; simp at e
  | _ :: _, _, 0, _, h, e => by
    simp only [RepL] at h
    obtain ⟨v, r, rfl, h1, _⟩ := h
    simp at e; subst e
    exact ⟨_, rfl, h1⟩
  | _ :: _, _, i + 1, _, h, e => by
    simp only [RepL] at h
    obtain ⟨v, r, rfl, _, h2⟩ := h
    obtain ⟨w, e1, r1⟩ := RepL.get' (i := i) h2 (by simpa using e)
    exact ⟨w, by simpa using e1, r1⟩
theorem RepL.append : ∀ {ds es : List D} {vs ws : List V}, RepL K F ds vs → RepL K F es ws → RepL K F (ds ++ es) (vs ++ ws)
  | [], _, _, _, h, g => by simp only [RepL] at h; subst h; exact g
  | _ :: _, _, _, _, h, g => by
    simp only [RepL, List.cons_append] at h ⊢
    obtain ⟨v, r, rfl, h1, h2⟩ := h
    exact ⟨v, _, rfl, h1, RepL.append h2 g⟩
theorem RepL.one {d : D} {v : V} (h : Rep K F d v) : RepL K F [d] [v] := by
  simp only [RepL]; exact ⟨v, [], rfl, h, rfl⟩
theorem RepL.take : ∀ (n : Nat) {ds : List D} {vs : List V}, RepL K F ds vs → RepL K F (ds.take n) (vs.take n)
  | 0, _, _, _ => by simp [RepL]
  | n + 1, [], _, h => by simp only [RepL] at h; subst h; simp [RepL]
  | n + 1, _ :: _, _, h => by
    simp only [RepL] at h
    obtain ⟨v, r, rfl, h1, h2⟩ := h
    simp only [List.take_succ_cons, RepL]
    exact ⟨v, _, rfl, h1, RepL.take n h2⟩
theorem RepL.drop : ∀ (n : Nat) {ds : List D} {vs : List V}, RepL K F ds vs → RepL K F (ds.drop n) (vs.drop n)
  | 0, _, _, h => by simpa using h
  | n + 1, [], _, h => by simp only [RepL] at h; subst h; simp [RepL]
  | n + 1, _ :: _, _, h => by
    simp only [RepL] at h
    obtain ⟨v, r, rfl, h1, h2⟩ := h
    simpa using RepL.drop n h2
theorem RepL.set : ∀ (n : Nat) {ds : List D} {vs : List V} {d : D} {v : V}, RepL K F ds vs → Rep K F d v → RepL K F (ds.set n d) (vs.set n v)
  | _, [], _, _, _, h, _ => by simp only [RepL] at h; subst h; simp [RepL]
  | 0, _ :: _, _, _, _, h, g => by
    simp only [RepL] at h
    obtain ⟨v, r, rfl, h1, h2⟩ := h
    simp only [List.set_cons_zero, RepL]
    exact ⟨_, _, rfl, g, h2⟩
  | n + 1, _ :: _, _, _, _, h, g => by
    simp only [RepL] at h
    obtain ⟨v, r, rfl, h1, h2⟩ := h
    simp only [List.set_cons_succ, RepL]
    exact ⟨_, _, rfl, h1, RepL.set n h2 g⟩
theorem RepL.reverse : ∀ {ds : List D} {vs : List V}, RepL K F ds vs → RepL K F ds.reverse vs.reverse
  | [], _, h => by simp only [RepL] at h; subst h; simp [RepL]
  | _ :: _, _, h => by
    simp only [RepL] at h
    obtain ⟨v, r, rfl, h1, h2⟩ := h
    rw [List.reverse_cons, List.reverse_cons]
    exact RepL.append (RepL.reverse h2) (.one h1)
theorem RepL.ints {is : List Int} : ∀ {vs : List V}, RepL K F (is.map D.int) vs → vs = is.map V.int := by
  induction is with
  | nil => intro vs h; simpa [RepL] using h
  | cons i is ih =>
    intro vs h
    simp only [List.map_cons, RepL, Rep] at h
    obtain ⟨v, r, rfl, rfl, h2⟩ := h
    rw [ih h2]; rfl
theorem RepL.nil_iff {ds : List D} {vs : List V} (h : RepL K F ds vs) : vs = [] ↔ ds = [] := by
  have := h.length
  constructor
  · intro e; subst e; exact List.eq_nil_of_length_eq_zero (by simpa using this)
  · intro e; subst e; exact List.eq_nil_of_length_eq_zero (by simpa using this.symm)
end

/-! ### cells, the logical heap -/
inductive Cell where
  | lst (xs : List D) | dct (kvs : List (Key × D)) | ins (C : Addr) (fs : List (Str × D))
abbrev LH := Addr → Option Cell
def RepC (K : PySem.W.Frag) (F : Hp) : Cell → HO → Prop
  | .lst ds, o => ∃ vs, o = .lst vs ∧ RepL K F ds vs
  | .dct kvs, o => ∃ kws, o = .dK kws ∧ RepKV K F kvs kws
  | .ins C fs, o => ∃ dx fs', o = .ins C dx fs' ∧ RepFs K F fs fs'
theorem RepC.mono {K : PySem.W.Frag} {F F' : Hp} (s : Same F F') {c : Cell} {o : HO} (h : RepC K F c o) : RepC K F' c o := by
  cases c with
  | lst ds => obtain ⟨vs, e, r⟩ := h; exact ⟨vs, e, r.mono s⟩
  | dct ds => obtain ⟨vs, e, r⟩ := h; exact ⟨vs, e, r.mono s⟩
  | ins C ds => obtain ⟨dx, vs, e, r⟩ := h; exact ⟨dx, vs, e, r.mono s⟩
def put (h : LH) (a : Addr) (c : Cell) : LH := fun b => if b = a then some c else h b
theorem put_same {h : LH} {a : Addr} {c : Cell} : put h a c a = some c := by unfold put; rw [if_pos rfl]
theorem put_ne {h : LH} {a b : Addr} {c : Cell} (e : b ≠ a) : put h a c b = h b := by unfold put; rw [if_neg e]
def rid (h : LH) (a : Addr) : LH := fun b => if b = a then none else h b
/-- all that h0 tells, h tells -/
def Sub (h0 h : LH) : Prop := ∀ a c, h0 a = some c → h a = some c
theorem Sub.refl (h : LH) : Sub h h := fun _ _ e => e
theorem Sub.trans {a b c : LH} (x : Sub a b) (y : Sub b c) : Sub a c := fun d e q => y d e (x d e q)
theorem Sub.put {h0 h : LH} {a : Addr} {c : Cell} (n : h0 a = none) (s : Sub h0 h) : Sub h0 (put h a c) := fun b e q => by
  have : b ≠ a := fun z => by subst z; rw [n] at q; cases q
  rw [put_ne this]; exact s b e q

/-- F: what never changes; h: the cells; R: what others hold meanwhile -/
structure Sim (K : PySem.W.Frag) (R : Hp) (F : Hp) (h : LH) (H : Hp) : Prop where
  fz : Same F H
  cl : ∀ a c, h a = some c → F a = none ∧ ∃ o, H a = some o ∧ RepC K F c o
  rs : ∀ a o, R a = some o → H a = some o ∧ F a = none ∧ h a = none
section
variable {K : PySem.W.Frag} {R F F' : Hp} {h h' : LH} {H : Hp} {p a : Addr} {o : HO} {c : Cell}
theorem Sim.sub (S : Sim K R F h H) (s : Sub h' h) : Sim K R F h' H := ⟨S.fz, fun a c e => S.cl a c (s a c e), fun a o e => ⟨(S.rs a o e).1, (S.rs a o e).2.1, by
  cases q : h' a with
  | none => rfl
  | some c => have := s a c q; rw [(S.rs a o e).2.2] at this; cases this⟩⟩
theorem same_new {F : Hp} {p : Addr} {o : HO} (n : F p = none) : Same F (upd F p o) := fun b u e => by rw [upd_ne (ne_of_none e n)]; exact e
theorem Sim.free (S : Sim K R F h H) (n : H p = none) : F p = none ∧ h p = none := by
  refine ⟨S.fz.free n, ?_⟩
  cases q : h p with
  | none => rfl
  | some c => obtain ⟨_, o, e, _⟩ := S.cl p c q; rw [n] at e; cases e
/-- a new object that never changes -/
theorem Sim.frozen (S : Sim K R F h H) (n : H p = none) : Sim K R (upd F p o) h (upd H p o) := by
  have nF := (S.free n).1
  refine ⟨fun b u e => ?_, fun b c e => ?_, fun b u e => ?_⟩
  · by_cases hb : b = p
    · subst hb; rw [upd_same] at e ⊢; exact e
    · rw [upd_ne hb] at e ⊢; exact S.fz b u e
  · obtain ⟨q1, u, q2, q3⟩ := S.cl b c e
    have hb : b ≠ p := ne_of_none q2 n
    exact ⟨by rw [upd_ne hb]; exact q1, u, by rw [upd_ne hb]; exact q2, q3.mono (same_new nF)⟩
  · obtain ⟨q1, q2, q3⟩ := S.rs b u e
    have hb : b ≠ p := ne_of_none q1 n
    exact ⟨by rw [upd_ne hb]; exact q1, by rw [upd_ne hb]; exact q2, q3⟩
/-- a new cell -/
theorem Sim.cell (S : Sim K R F h H) (n : H p = none) (r : RepC K F c o) : Sim K R F (put h p c) (upd H p o) := by
  refine ⟨fun b u e => ?_, fun b c' e => ?_, fun b u e => ?_⟩
  · rw [upd_ne (ne_of_none (S.fz b u e) n)]; exact S.fz b u e
  · by_cases hb : b = p
    · subst hb; rw [put_same] at e; cases e
      exact ⟨(S.free n).1, o, upd_same, r⟩
    · rw [put_ne hb] at e
      obtain ⟨q1, u, q2, q3⟩ := S.cl b c' e
      exact ⟨q1, u, by rw [upd_ne hb]; exact q2, q3⟩
  · obtain ⟨q1, q2, q3⟩ := S.rs b u e
    have hb : b ≠ p := ne_of_none q1 n
    exact ⟨by rw [upd_ne hb]; exact q1, q2, by rw [put_ne hb]; exact q3⟩
/-- a cell is written -/
theorem Sim.write {c0 : Cell} (S : Sim K R F h H) (e0 : h a = some c0) (r : RepC K F c o) : Sim K R F (put h a c) (upd H a o) := by
  obtain ⟨nF, _⟩ := S.cl a c0 e0
  refine ⟨fun b u e => ?_, fun b c' e => ?_, fun b u e => ?_⟩
  · rw [upd_ne (ne_of_none e nF)]; exact S.fz b u e
  · by_cases hb : b = a
    · subst hb; rw [put_same] at e; cases e
      exact ⟨nF, o, upd_same, r⟩
    · rw [put_ne hb] at e
      obtain ⟨q1, u, q2, q3⟩ := S.cl b c' e
      exact ⟨q1, u, by rw [upd_ne hb]; exact q2, q3⟩
  · obtain ⟨q1, q2, q3⟩ := S.rs b u e
    have hb : b ≠ a := fun z => by subst z; rw [q3] at e0; cases e0
    exact ⟨by rw [upd_ne hb]; exact q1, q2, by rw [put_ne hb]; exact q3⟩
/-- a cell is frozen: nobody writes it any more -/
theorem Sim.freeze (S : Sim K R F h H) (e0 : h a = some c) : ∃ o, H a = some o ∧ F a = none ∧ RepC K F c o ∧ Sim K R (upd F a o) (rid h a) H := by
  obtain ⟨nF, o, eH, r⟩ := S.cl a c e0
  refine ⟨o, eH, nF, r, fun b u e => ?_, fun b c' e => ?_, fun b u e => ?_⟩
  · by_cases hb : b = a
    · subst hb; rw [upd_same] at e; cases e; exact eH
    · rw [upd_ne hb] at e; exact S.fz b u e
  · unfold rid at e
    by_cases hb : b = a
    · rw [if_pos hb] at e; cases e
    · rw [if_neg hb] at e
      obtain ⟨q1, u, q2, q3⟩ := S.cl b c' e
      exact ⟨by rw [upd_ne hb]; exact q1, u, q2, q3.mono (same_new nF)⟩
  · obtain ⟨q1, q2, q3⟩ := S.rs b u e
    have hb : b ≠ a := fun z => by subst z; rw [q3] at e0; cases e0
    refine ⟨q1, by rw [upd_ne hb]; exact q2, ?_⟩
    unfold rid
    rw [if_neg hb]; exact q3
/-- a new object that nobody tells of -/
theorem Sim.junk (S : Sim K R F h H) (n : H p = none) : Sim K R F h (upd H p o) := by
  refine ⟨fun b u e => ?_, fun b c' e => ?_, fun b u e => ?_⟩
  · rw [upd_ne (ne_of_none (S.fz b u e) n)]; exact S.fz b u e
  · obtain ⟨q1, u, q2, q3⟩ := S.cl b c' e
    exact ⟨q1, u, by rw [upd_ne (ne_of_none q2 n)]; exact q2, q3⟩
  · obtain ⟨q1, q2, q3⟩ := S.rs b u e
    exact ⟨by rw [upd_ne (ne_of_none q1 n)]; exact q1, q2, q3⟩
/-- a new object that is held aside -/
theorem Sim.hold (S : Sim K R F h H) (n : H p = none) : Sim K (upd R p o) F h (upd H p o) := by
  refine ⟨fun b u e => ?_, fun b c' e => ?_, fun b u e => ?_⟩
  · rw [upd_ne (ne_of_none (S.fz b u e) n)]; exact S.fz b u e
  · obtain ⟨q1, u, q2, q3⟩ := S.cl b c' e
    exact ⟨q1, u, by rw [upd_ne (ne_of_none q2 n)]; exact q2, q3⟩
  · by_cases hb : b = p
    · subst hb
      rw [upd_same] at e ⊢
      exact ⟨e, (S.free n).1, (S.free n).2⟩
    · rw [upd_ne hb] at e
      obtain ⟨q1, q2, q3⟩ := S.rs b u e
      exact ⟨by rw [upd_ne hb]; exact q1, q2, q3⟩
/-- .. is changed -/
theorem Sim.held {u : HO} (S : Sim K (upd R p u) F h H) : Sim K (upd R p o) F h (upd H p o) := by
  obtain ⟨_, nF, nh⟩ := S.rs p u upd_same
  refine ⟨fun b v e => ?_, fun b c' e => ?_, fun b v e => ?_⟩
  · rw [upd_ne (ne_of_none e nF)]; exact S.fz b v e
  · obtain ⟨q1, w, q2, q3⟩ := S.cl b c' e
    have hb : b ≠ p := fun z => by subst z; rw [nh] at e; cases e
    exact ⟨q1, w, by rw [upd_ne hb]; exact q2, q3⟩
  · by_cases hb : b = p
    · subst hb
      rw [upd_same] at e ⊢
      exact ⟨e, nF, nh⟩
    · rw [upd_ne hb] at e
      obtain ⟨q1, q2, q3⟩ := S.rs b v (by rw [upd_ne hb]; exact e)
      exact ⟨by rw [upd_ne hb]; exact q1, q2, q3⟩
/-- .. is let in as frozen -/
theorem Sim.held_frozen (n : R p = none) (S : Sim K (upd R p o) F h H) : Sim K R (upd F p o) h H := by
  obtain ⟨eH, nF, nh⟩ := S.rs p o upd_same
  refine ⟨fun b v e => ?_, fun b c' e => ?_, fun b v e => ?_⟩
  · by_cases hb : b = p
    · subst hb; rw [upd_same] at e; cases e; exact eH
    · rw [upd_ne hb] at e; exact S.fz b v e
  · obtain ⟨q1, w, q2, q3⟩ := S.cl b c' e
    have hb : b ≠ p := fun z => by subst z; rw [nh] at e; cases e
    exact ⟨by rw [upd_ne hb]; exact q1, w, q2, q3.mono (same_new nF)⟩
  · have hb : b ≠ p := ne_of_none e n
    obtain ⟨q1, q2, q3⟩ := S.rs b v (by rw [upd_ne hb]; exact e)
    exact ⟨q1, by rw [upd_ne hb]; exact q2, q3⟩
/-- .. as a cell -/
theorem Sim.held_cell (n : R p = none) (S : Sim K (upd R p o) F h H) (r : RepC K F c o) : Sim K R F (put h p c) H := by
  obtain ⟨eH, nF, nh⟩ := S.rs p o upd_same
  refine ⟨S.fz, fun b c' e => ?_, fun b v e => ?_⟩
  · by_cases hb : b = p
    · subst hb; rw [put_same] at e; cases e
      exact ⟨nF, o, eH, r⟩
    · rw [put_ne hb] at e; exact S.cl b c' e
  · have hb : b ≠ p := ne_of_none e n
    obtain ⟨q1, q2, q3⟩ := S.rs b v (by rw [upd_ne hb]; exact e)
    exact ⟨q1, q2, by rw [put_ne hb]; exact q3⟩
theorem Sim.freeR (S : Sim K R F h H) (n : H p = none) : R p = none := by
  cases q : R p with
  | none => rfl
  | some o => rw [(S.rs p o q).1] at n; cases n
end

/-! ### slots -/
abbrev Sl := List (Option D)
structure RepS (K : PySem.W.Frag) (F : Hp) (ρ : Sl) (σ : L2.St) : Prop where
  len : ρ.length = σ.length
  at_ : ∀ (i : Nat) (d : D), ρ[i]? = some (some d) → ∃ v, σ[i]? = some (some v) ∧ Rep K F d v
section
variable {K : PySem.W.Frag} {F F' : Hp} {ρ : Sl} {σ : L2.St}
theorem RepS.mono (s : Same F F') (r : RepS K F ρ σ) : RepS K F' ρ σ := ⟨r.len, fun i d e => let ⟨v, e1, q⟩ := r.at_ i d e; ⟨v, e1, q.mono s⟩⟩
theorem RepS.set {i : Nat} {d : D} {v : V} (r : RepS K F ρ σ) (q : Rep K F d v) : RepS K F (ρ.set i (some d)) (σ.set i (some v)) := by
  refine ⟨by simp [r.len], fun j d' e => ?_⟩
  by_cases hj : i = j
  · subst hj
    by_cases hi : i < ρ.length
    · rw [List.getElem?_set_self hi] at e
      cases e
      exact ⟨v, List.getElem?_set_self (by rw [← r.len]; exact hi), q⟩
    · rw [List.getElem?_eq_none (by simpa using hi)] at e; cases e
  · rw [List.getElem?_set_ne hj] at e
    obtain ⟨w, e1, q1⟩ := r.at_ j d' e
    exact ⟨w, by rw [List.getElem?_set_ne hj]; exact e1, q1⟩
theorem RepS.start : ∀ {ds : List D} {vs : List V} (n : Nat), RepL K F ds vs → RepS K F (ds.map some ++ List.replicate n none) (vs.map some ++ List.replicate n none) := fun {ds vs} n h => by
  have hl := h.length
  refine ⟨by simp [hl], fun i d e => ?_⟩
  by_cases hi : i < ds.length
  · rw [List.getElem?_append_left (by simpa using hi)] at e
    rw [List.getElem?_map] at e
    cases q : ds[i]? with
    | none => rw [q] at e; cases e
    | some d' =>
      rw [q] at e
      simp only [Option.map_some, Option.some.injEq] at e
      subst e
      obtain ⟨v, e1, r⟩ := h.get q
      exact ⟨v, by rw [List.getElem?_append_left (by simpa [← hl] using hi), List.getElem?_map, e1]; rfl, r⟩
  · rw [List.getElem?_append_right (by simpa using hi)] at e
    rw [List.getElem?_replicate] at e
    split at e <;> cases e
/-- own slots of a block forgotten -/
def wipeS (ρ : Sl) : List Nat → Sl
  | [] => ρ
  | v :: vs => (wipeS ρ vs).set v none
theorem wipeS_len (ρ : Sl) : ∀ vs, (wipeS ρ vs).length = ρ.length
  | [] => rfl
  | v :: vs => by unfold wipeS; rw [List.length_set, wipeS_len ρ vs]
theorem RepS.wiped (r : RepS K F ρ σ) : ∀ vs, RepS K F (wipeS ρ vs) (wipe σ vs)
  | [] => r
  | v :: vs => by
    have ih := RepS.wiped r vs
    unfold wipeS wipe
    refine ⟨by simp [ih.len], fun j d e => ?_⟩
    by_cases hj : v = j
    · subst hj
      by_cases hi : v < (wipeS ρ vs).length
      · rw [List.getElem?_set_self hi] at e; cases e
      · rw [List.getElem?_eq_none (by simpa using hi)] at e; cases e
    · rw [List.getElem?_set_ne hj] at e
      obtain ⟨w, e1, q1⟩ := ih.at_ j d e
      exact ⟨w, by rw [List.getElem?_set_ne hj]; exact e1, q1⟩
end
end Lg
/-! ### data as PyData -/
namespace Lg
open PySem PySem.Spec PyProof.Rows L2
mutual
def D.py : D → Option PyData
  | .non => some .none
  | .bl b => some (.bool b)
  | .int i => some (.int i)
  | .str x => some (.str x)
  | .tup ds => (pyL ds).map .tuple
  | .lst ds => (pyL ds).map .list
  | .frl _ => none
  | .dct _ => none
  | .ref _ => none
  | .ins _ _ => none
  | .bnd _ _ => none
def pyL : List D → Option (List PyData)
  | [] => some []
  | d :: ds => match D.py d, pyL ds with
    | some x, some xs => some (x :: xs)
    | _, _ => none
end
mutual
def unpy : PyData → D
  | .none => .non
  | .bool b => .bl b
  | .int i => .int i
  | .str x => .str x
  | .tuple ds => .tup (unpyL ds)
  | .list ds => .lst (unpyL ds)
  | .dict _ => .non
def unpyL : List PyData → List D
  | [] => []
  | d :: ds => unpy d :: unpyL ds
end
/-- what a list, a tuple holds -/
def seqv (h : LH) : D → Option (List D)
  | .tup ds => some ds
  | .lst ds => some ds
  | .frl ds => some ds
  | .ref a => match h a with
    | some (.lst ds) => some ds
    | _ => none
  | _ => none
/-- what a list holds -/
def lstv (h : LH) : D → Option (List D)
  | .lst ds => some ds
  | .ref a => match h a with
    | some (.lst ds) => some ds
    | _ => none
  | _ => none
/-- what a dict holds -/
def dctv (h : LH) : D → Option (List (Key × D))
  | .dct kvs => some kvs
  | .ref a => match h a with
    | some (.dct kvs) => some kvs
    | _ => none
  | _ => none
/-- a datum, a list's cell resolved -/
def pv1 (h : LH) : D → Option PyData
  | .ref a => match h a with
    | some (.lst ds) => (pyL ds).map .list
    | _ => none
  | d => d.py
def pv1L (h : LH) : List D → Option (List PyData)
  | [] => some []
  | d :: ds => match pv1 h d, pv1L h ds with
    | some x, some xs => some (x :: xs)
    | _, _ => none
def pv_ (h : LH) : D → Option PyData
  | .ref a => match h a with
    | some (.lst ds) => (pv1L h ds).map .list
    | _ => none
  | d => d.py
def keyOf : D → Option Key
  | .int i => some (.inl i)
  | .str x => some (.inr x)
  | _ => none
def look (kvs : List (Key × D)) (k : Key) : Option D := (kvs.find? fun kv => decide (kv.1 = k)).map (·.2)
def putD (kvs : List (Key × D)) (k : Key) (v : D) : List (Key × D) :=
  if (kvs.any fun kv => decide (kv.1 = k)) = true then kvs.map fun kv => if kv.1 = k then (kv.1, v) else kv else kvs ++ [(k, v)]
def dropD (kvs : List (Key × D)) (k : Key) : List (Key × D) := kvs.filter fun kv => decide (kv.1 ≠ k)
def cutD (xs : List D) (lo hi : Option Int) : List D := (xs.drop (HT.sIx xs.length 0 lo)).take (HT.sIx xs.length xs.length hi - HT.sIx xs.length 0 lo)
def truth (h : LH) : D → Option Bool
  | .non => some false
  | .bl b => some b
  | .int i => some (i != 0)
  | .str x => if x.length ≤ sizeLine then some (x.length != 0) else none
  | .tup ds => some (!ds.isEmpty)
  | .lst ds => some (!ds.isEmpty)
  | .frl ds => some (!ds.isEmpty)
  | .dct kvs => some (!kvs.isEmpty)
  | .ref a => match h a with
    | some (.lst ds) => some (!ds.isEmpty)
    | some (.dct kvs) => some (!kvs.isEmpty)
    | _ => none
  | .ins _ _ => none
  | .bnd _ _ => none
/-- an instance: its class, what it holds -/
def insv (h : LH) : D → Option (Addr × List (Str × D))
  | .ins C fs => some (C, fs)
  | .ref a => match h a with
    | some (.ins C fs) => some (C, fs)
    | _ => none
  | _ => none



abbrev QD := D → LH → Prop
abbrev QL := List D → LH → Prop

/-! ### what the operators give -/
def addW (x y : D) (h : LH) (Q : QD) : Prop := match x, y with
  | .int i, .int j => Q (.int (i + j)) h
  | .str a, .str b => a.length + b.length ≤ sizeLine ∧ Q (.str (a ++ b)) h
  | .tup a, .tup b => a.length + b.length ≤ sizeLine ∧ Q (.tup (a ++ b)) h
  | x, y => match lstv h x, lstv h y with
    | some a, some b => a.length + b.length ≤ sizeLine ∧ Q (.lst (a ++ b)) h
    | _, _ => False
def mulW (x y : D) (h : LH) (Q : QD) : Prop := match x, y with
  | .int i, .int j => CMul i j ∧ Q (.int (i * j)) h
  | .tup a, .int k => (-1000 ≤ k ∧ k ≤ 1000 ∧ a.length ≤ 1000) ∧ Q (.tup (List.replicate k.toNat a).flatten) h
  | x, .int k => match lstv h x with
    | some a => (-(2 ^ 63) ≤ k ∧ k < 2 ^ 63 ∧ a.length * k.toNat ≤ sizeLine) ∧ Q (.lst (List.replicate k.toNat a).flatten) h
    | _ => False
  | _, _ => False
def fdivW (i j : Int) (h : LH) (Q : QD) : Prop := if 0 < j then (j < 1073741824 ∧ Q (.int (i / j)) h) else (CDivN i j ∧ Q (.int (i.fdiv j)) h)
def modW (i j : Int) (h : LH) (Q : QD) : Prop := if 0 < j then Q (.int (i % j)) h else (j ≠ 0 ∧ Q (.int (i.fmod j)) h)
def ints2 (x y : D) (Q : Int → Int → Prop) : Prop := match x, y with
  | .int i, .int j => Q i j
  | _, _ => False
def binW (op : Operator) (x y : D) (h : LH) (Q : QD) : Prop := match op with
  | .Add => addW x y h Q
  | .Mult => mulW x y h Q
  | .Sub => ints2 x y fun i j => Q (.int (i - j)) h
  | .FloorDiv => ints2 x y fun i j => fdivW i j h Q
  | .Mod => ints2 x y fun i j => modW i j h Q
  | .Pow => ints2 x y fun i j => CPow i j ∧ Q (.int (i ^ j.toNat)) h
  | .LShift => ints2 x y fun i j => CPow i j ∧ Q (.int (i * 2 ^ j.toNat)) h
  | .RShift => ints2 x y fun i j => 0 ≤ j ∧ Q (.int (i / 2 ^ j.toNat)) h
  | .BitAnd => ints2 x y fun i j => Q (.int (Builtin.bitAnd i j)) h
  | _ => False
def isNon : D → Bool
  | .non => true
  | _ => false
/-- a sign in a text -/
def sgnIn : D → D → Option Bool
  | .str s, .str t => match s.cps.toList with
    | [c] => some (decide (c ∈ t.cps.toList))
    | _ => none
  | _, _ => none
def inData (h : LH) (x y : D) : Option Bool := match dctv h y with
  | some kvs => match keyOf x with
    | some k => some (look kvs k).isSome
    | _ => none
  | _ => match seqv h y with
    | some ds => match pv_ h x, pyL ds with
      | some a, some xs => if min (PyData.depthAll xs) a.depth ≤ 60 then some (xs.any fun z => PyData.eqv z a) else none
      | _, _ => none
    | _ => sgnIn x y
def ordW (h : LH) (x y : D) (Q : PyData → PyData → Prop) : Prop := match pv_ h x, pv_ h y with
  | some a, some b => (PySem.W.alike a b = true ∧ a ≠ .none ∧ min a.depth b.depth ≤ 60) ∧ Q a b
  | _, _ => False
def eqW (x y : D) (h : LH) (Q : Bool → Prop) : Prop := match pv_ h x, pv_ h y with
  | some a, some b => min a.depth b.depth ≤ 60 ∧ Q (PyData.eqv a b)
  | _, _ => False
def ltW (x y : D) (h : LH) (Q : Bool → Prop) : Prop := match x, y with
  | .int i, .int j => Q (decide (i < j))
  | x, y => ordW h x y fun a b => Q (PySem.W.dataLt a b)
def leW (x y : D) (h : LH) (Q : Bool → Prop) : Prop := match x, y with
  | .int i, .int j => Q (decide (i ≤ j))
  | x, y => ordW h x y fun a b => Q (!PySem.W.dataLt b a)
def gtW (x y : D) (h : LH) (Q : Bool → Prop) : Prop := match x, y with
  | .int i, .int j => Q (decide (j < i))
  | x, y => ordW h x y fun a b => Q (PySem.W.dataLt b a)
def geW (x y : D) (h : LH) (Q : Bool → Prop) : Prop := match x, y with
  | .int i, .int j => Q (decide (j ≤ i))
  | x, y => ordW h x y fun a b => Q (!PySem.W.dataLt a b)
def isW (x y : D) (Q : Bool → Prop) : Prop := match y with
  | .non => Q (isNon x)
  | _ => False
def inW (x y : D) (h : LH) (Q : Bool → Prop) : Prop := match inData h x y with
  | some b => Q b
  | _ => False
def cmpW (op : CmpOp) (x y : D) (h : LH) (Q : QD) : Prop := match op with
  | .Eq => eqW x y h fun b => Q (.bl b) h
  | .NotEq => eqW x y h fun b => Q (.bl (!b)) h
  | .Lt => ltW x y h fun b => Q (.bl b) h
  | .LtE => leW x y h fun b => Q (.bl b) h
  | .Gt => gtW x y h fun b => Q (.bl b) h
  | .GtE => geW x y h fun b => Q (.bl b) h
  | .Is => isW x y fun b => Q (.bl b) h
  | .IsNot => isW x y fun b => Q (.bl (!b)) h
  | .In => inW x y h fun b => Q (.bl b) h
  | .NotIn => inW x y h fun b => Q (.bl (!b)) h
def strv : D → Option Str
  | .str z => some z
  | _ => none
def intv : D → Option Int
  | .int i => some i
  | _ => none
def tupv : D → Option (List D)
  | .tup ds => some ds
  | _ => none
def opt {α : Type} (o : Option α) (f : α → Prop) : Prop := match o with
  | some a => f a
  | none => False
def subW (x y : D) (h : LH) (Q : QD) : Prop := match strv x with
  | some z => opt (intv y) fun i => z.length ≤ sizeLine ∧ opt (atI z.cps.toList i) fun c => Q (.str ⟨#[c]⟩) h
  | none => match dctv h x with
    | some kvs => opt (keyOf y) fun k => opt (look kvs k) fun d => Q d h
    | none => opt (seqv h x) fun ds => opt (intv y) fun i => opt (atI ds i) fun d => Q d h
def sliceW (x : D) (lo hi : Option Int) (h : LH) (Q : QD) : Prop := match tupv x with
  | some ds => Q (.tup (cutD ds lo hi)) h
  | none => opt (seqv h x) fun ds => Q (.lst (cutD ds lo hi)) h
def revW (x : D) (h : LH) (Q : QD) : Prop := match tupv x with
  | some ds => Q (.tup ds.reverse) h
  | none => opt (seqv h x) fun ds => Q (.lst ds.reverse) h
def isaD (h : LH) : D → String → Option Bool
  | .non, T => kitB "NoneType" T
  | .bl _, T => kitB "bool" T
  | .int _, T => kitB "int" T
  | .str _, T => kitB "str" T
  | .tup _, T => kitB "tuple" T
  | .lst _, T => kitB "list" T
  | .frl _, T => kitB "list" T
  | .dct _, T => kitB "dict" T
  | .ref a, T => match h a with
    | some (.lst _) => kitB "list" T
    | some (.dct _) => kitB "dict" T
    | _ => none
  | .ins _ _, _ => none
  | .bnd _ _, _ => none

/-! ### built-ins -/
inductive B where
  | len | abs | int | str | repr | min | max | sum | any | all | sorted | tuple | list | divmod | dict
def lenD (h : LH) : D → Option Nat
  | .str x => if x.length ≤ sizeLine then some x.length else none
  | x => match dctv h x with
    | some kvs => some kvs.length
    | _ => (seqv h x).map (·.length)
def allInt : List D → Option (List Int)
  | [] => some []
  | .int i :: r => (allInt r).map (i :: ·)
  | _ :: _ => none
def allBl : List D → Option (List Bool)
  | [] => some []
  | .bl b :: r => (allBl r).map (b :: ·)
  | _ :: _ => none
def pyD (d : D) : PyData := (D.py d).getD .none
def minBy (f : D → PyData) (d : D) (ds : List D) : D := ds.foldl (fun a y => if PySem.W.dataLt (f y) (f a) = true then y else a) d
def maxBy (f : D → PyData) (d : D) (ds : List D) : D := ds.foldl (fun a y => if PySem.W.dataLt (f a) (f y) = true then y else a) d
def one (vs : List D) (f : D → Prop) : Prop := match vs with
  | [x] => f x
  | _ => False
def two (vs : List D) (f : D → D → Prop) : Prop := match vs with
  | [x, y] => f x y
  | _ => False
def intW (x : D) (h : LH) (Q : QD) : Prop := match x with
  | .int i => Q (.int i) h
  | .bl b => Q (.int (if b then 1 else 0)) h
  | _ => False
def strW (x : D) (h : LH) (Q : QD) : Prop := match x with
  | .int i => i.natAbs.log2 < 1920 ∧ Q (.str (toString i)) h
  | .str x => Q (.str x) h
  | x => opt (pv_ h x) fun a => (a.showable = true ∧ a.shown.length ≤ sizeLine ∧ a.depth ≤ 60) ∧ Q (.str a.shown) h
def minW (vs : List D) (h : LH) (Q : QD) : Prop := match vs with
  | [x, y] => opt (intv x) fun i => opt (intv y) fun j => Q (.int (if j < i then j else i)) h
  | vs => one vs fun x => opt (seqv h x) fun ds => match ds with
    | d :: ds => opt (pyL (d :: ds)) fun as => (PySem.W.AlikeAll as ∧ PyData.depthAll as ≤ 60) ∧ Q (minBy pyD d ds) h
    | [] => False
def maxW (vs : List D) (h : LH) (Q : QD) : Prop := match vs with
  | [x, y] => opt (intv x) fun i => opt (intv y) fun j => Q (.int (if j > i then j else i)) h
  | vs => one vs fun x => opt (seqv h x) fun ds => match ds with
    | d :: ds => opt (pyL (d :: ds)) fun as => (PySem.W.AlikeAll as ∧ PyData.depthAll as ≤ 60) ∧ Q (maxBy pyD d ds) h
    | [] => False
def bltW (b : B) (vs : List D) (h : LH) (Q : QD) : Prop := match b with
  | .len => one vs fun x => opt (lenD h x) fun n => Q (.int n) h
  | .abs => one vs fun x => opt (intv x) fun i => Q (.int (if i < 0 then -i else i)) h
  | .int => one vs fun x => intW x h Q
  | .str => one vs fun x => strW x h Q
  | .repr => one vs fun x => opt (pv_ h x) fun a => (a.showable = true ∧ a.shown.length ≤ sizeLine ∧ a.depth ≤ 60) ∧ Q (.str a.shown) h
  | .min => minW vs h Q
  | .max => maxW vs h Q
  | .sum => one vs fun x => opt (seqv h x) fun ds => opt (allInt ds) fun is => Q (.int is.sum) h
  | .any => one vs fun x => opt (lstv h x) fun ds => opt (allBl ds) fun bs => Q (.bl (bs.any id)) h
  | .all => one vs fun x => opt (lstv h x) fun ds => opt (allBl ds) fun bs => Q (.bl (bs.all id)) h
  | .sorted => one vs fun x => opt (seqv h x) fun ds => opt (pyL ds) fun as => (PySem.W.AllAlike as ∧ PySem.W.Sortable as ∧ PyData.depthAll as ≤ 60) ∧ Q (.lst (ds.mergeSort (PySem.W.dataLe false pyD))) h
  | .tuple => one vs fun x => opt (seqv h x) fun ds => Q (.tup ds) h
  | .list => one vs fun x => opt (seqv h x) fun ds => Q (.lst ds) h
  | .divmod => two vs fun x y => opt (intv x) fun i => opt (intv y) fun j => CDivP i j ∧ Q (.tup [.int (i / j), .int (i % j)]) h
  | .dict => False
/-- methods of built-in types -/
inductive M where
  | append | get1 | get2 | count | pop | index | popi
/-- the list's cell at a value -/
def cellL (h : LH) (x : D) (f : Addr → List D → Prop) : Prop := match x with
  | .ref a => match h a with
    | some (.lst ds) => f a ds
    | _ => False
  | _ => False
def cellK (h : LH) (x : D) (f : Addr → List (Key × D) → Prop) : Prop := match x with
  | .ref a => match h a with
    | some (.dct ds) => f a ds
    | _ => False
  | _ => False
def methW (m : M) (x : D) (vs : List D) (h : LH) (Q : QD) : Prop := match m with
  | .append => one vs fun y => cellL h x fun a ds => ds.length < sizeLine ∧ Q .non (put h a (.lst (ds ++ [y])))
  | .pop => vs = [] ∧ cellL h x fun a ds => opt ds.getLast? fun d => Q d (put h a (.lst ds.dropLast))
  | .count => one vs fun y => opt (tupv x) fun ds => opt (pyL ds) fun as => opt (pv_ h y) fun b => min (PyData.depthAll as) b.depth ≤ 60 ∧ Q (.int ((as.countP fun z => PyData.eqv z b : Nat) : Int)) h
  | .index => one vs fun y => opt (lstv h x) fun ds => opt (pyL ds) fun as => opt (pv_ h y) fun b => min (PyData.depthAll as) b.depth ≤ 60 ∧ opt (PySem.SeqAt.dataPlace as b) fun j => Q (.int (j : Nat)) h
  | .popi => one vs fun y => cellL h x fun a ds => opt (intv y) fun i => (-(2 ^ 62) ≤ i ∧ i < 2 ^ 62) ∧ opt (ixN ds.length i) fun j => opt ds[j]? fun d => Q d (put h a (.lst (ds.eraseIdx j)))
  | .get1 => one vs fun k => opt (dctv h x) fun kvs => opt (keyOf k) fun k => Q ((look kvs k).getD .non) h
  | .get2 => two vs fun k d => opt (dctv h x) fun kvs => opt (keyOf k) fun k => Q ((look kvs k).getD d) h
/-- x[i] = v -/
def setW (x i v : D) (h : LH) (Q : LH → Prop) : Prop := match x with
  | .ref a => match h a with
    | some (.lst ds) => opt (intv i) fun i => opt (ixN ds.length i) fun j => Q (put h a (.lst (ds.set j v)))
    | some (.dct kvs) => opt (keyOf i) fun k => kvs.length < sizeLine ∧ Q (put h a (.dct (putD kvs k v)))
    | _ => False
  | _ => False
end Lg

namespace Lg
open PySem PySem.Spec PyProof PyProof.Rows L2
/-! ### new tuples, whose objects have no dict -/
def NewT (H : Hp) (vs : List V) (Q : VK) : Prop := ∀ (p : Addr) (o : Obj), H p = none → o.cls = .type "tuple" → o.dict = none → Q (.ref p) (upd H p (.frz o (.tup vs)))
theorem newTup {F : Hp} {o : Obj} {p : Addr} {vs : List V} {K : PySem.W.Frag} (hc : o.cls = .type "tuple") (hd : o.dict = none) : TupR K (upd F p (.frz o (.tup vs))) p vs :=
  ⟨.inl (.inr ⟨o, upd_same⟩), .inl ⟨o, _, upd_same, hc, hd⟩⟩
section
variable {X : Cx} {pins : List (Addr × Obj)} {σ : L2.St} {H : Hp} {s : Shared} {Q : VK}
theorem newT_at {its : List Value} {vs : List V} {t' : Nat} (I : Inv X pins σ H s) (r : Vals vs its) (hz : vs.length ≤ sizeLine) (q : NewT H vs Q) :
    EP X pins σ Q (.ref s.heap.objs.size) { s with heap := s.heap.push { cls := .type "tuple", data := .seq its.toArray }, toks := t' } :=
  ⟨.ref _, _, I.laid (t' := t') (o := .frz { cls := .type "tuple", data := .seq its.toArray } (.tup vs)) (fun b ob q => Heap.get?_push_of_some _ q) (Nat.le_refl _)
    ⟨Heap.get?_push_size _ rfl, hz, its, r, ⟨_, Heap.get?_push_size _ rfl, rfl, _, rfl⟩⟩, rfl, q _ _ (I.hok.fresh (Nat.le_refl _)) rfl rfl⟩
def rCatN (K : PySem.W.Frag) : R2 := fun x y H Q => ∃ a b xs ys, x = .ref a ∧ y = .ref b ∧ SqT K H a xs ∧ SqT K H b ys ∧ xs.length + ys.length ≤ sizeLine ∧
  (xs = [] → Q (.ref b) H) ∧ (xs ≠ [] → ys = [] → Q (.ref a) H) ∧ (xs ≠ [] → ys ≠ [] → NewT H (xs ++ ys) Q)
theorem op_catN : OpR X (binaryOp .Add) (rCatN X.K) := by
  intro pins s σ H x y v u Q I rx ry h
  obtain ⟨a, b, xs, ys, rfl, rfl, ha, hb, hz, q0, q1, q2⟩ := h
  cases rx
  cases ry
  obtain ⟨its, r1, p1, _⟩ := I.tuple ha
  obtain ⟨its2, r2, p2, _⟩ := I.tuple hb
  by_cases hx : xs = []
  · subst hx
    cases r1
    exact cat_tup0 p1 p2 ⟨.ref b, H, I, rfl, q0 rfl⟩
  · refine HT.cat_tup p1 p2 (fun z => hx (r1.nil_iff.mp z)) (fun z => ⟨.ref a, H, I, rfl, q1 hx (r2.nil_iff.mp z)⟩) (fun z => ?_) (by rw [← r1.length, ← r2.length]; exact hz)
    exact newT_at I (r1.append r2) (by rw [List.length_append]; exact hz) (q2 hx fun w => z (r2.nil_iff.mpr w))
def rRepN (K : PySem.W.Frag) : R2 := fun x y H Q => ∃ l k xs, x = .ref l ∧ y = .int k ∧ SqT K H l xs ∧ -1000 ≤ k ∧ k ≤ 1000 ∧ xs.length ≤ 1000 ∧ (xs = [] ∨ k = 1 → Q (.ref l) H) ∧ (xs ≠ [] → k ≤ 0 → NewT H [] Q) ∧ (xs ≠ [] → 2 ≤ k → NewT H (List.replicate k.toNat xs).flatten Q)
theorem tuple_mul1 (l : Addr) (items : Array Value) (n : Nat) (dd : Option Addr) (sl : Array (Option Value)) (x : Int) (u : Tok) (c0 : (decide (x < -(2 ^ 63)) || decide (x ≥ 2 ^ 63)) = false) (c1 : (items.isEmpty || x == 1) = true) :
    Meets (Builtin.«tuple.__mul__» ⟨[.ref l, .int x u], []⟩) (fun _ R s => s.heap.get? l = some { cls := .type "tuple", dict := dd, data := .seq items n, slots := sl } ∧
      R (.ok (.ret (Value.ref l))) s) :=
  .of_wp fun prog w A R s h => by
    obtain ⟨hp, g, d, tk, os⟩ := s
    obtain ⟨hl, h⟩ := h
    have f1 := AutoSeq1.idx_int
    wp_walk using wpAny_loadPart' hl
    repeat (first
      | (refine wpAny_ite_false (decide_eq_false (by rw [c0]; exact Bool.false_ne_true)) ?_; wp_walk using wpAny_loadPart' hl)
      | (refine wpAny_ite_true (decide_eq_true c1) ?_; wp_walk using wpAny_loadPart' hl)
      | (refine wpAny_ite_true (by simp) ?_; wp_walk using wpAny_loadPart' hl))
    exact ⟨_, rfl, h⟩
theorem tuple_mul0 (l : Addr) (items : Array Value) (n : Nat) (dd : Option Addr) (sl : Array (Option Value)) (x : Int) (u : Tok) (c0 : (decide (x < -(2 ^ 63)) || decide (x ≥ 2 ^ 63)) = false) (c1 : (items.isEmpty || x == 1) = false) (c2 : (decide (x ≤ 0) || items.isEmpty) = true) :
    Meets (Builtin.«tuple.__mul__» ⟨[.ref l, .int x u], []⟩) (fun _ R s => s.heap.get? l = some { cls := .type "tuple", dict := dd, data := .seq items n, slots := sl } ∧
      R (.ok (.ret (Value.ref s.heap.objs.size))) { s with heap := s.heap.push { cls := Value.type "tuple", data := Data.seq #[] }, toks := s.toks }) :=
  .of_wp fun prog w A R s h => by
    obtain ⟨hp, g, d, tk, os⟩ := s
    obtain ⟨hl, h⟩ := h
    have f1 := AutoSeq1.idx_int
    wp_walk using wpAny_loadPart' hl
    repeat (first
      | (refine wpAny_ite_false (decide_eq_false (by rw [c0]; exact Bool.false_ne_true)) ?_; wp_walk using wpAny_loadPart' hl)
      | (refine wpAny_ite_false (decide_eq_false (by rw [c1]; exact Bool.false_ne_true)) ?_; wp_walk using wpAny_loadPart' hl)
      | (refine wpAny_ite_true (decide_eq_true c2) ?_; wp_walk using wpAny_loadPart' hl))
    exact ⟨_, rfl, h⟩
theorem op_repN : OpR X (binaryOp .Mult) (rRepN X.K) := by
  intro pins s σ H x y v u Q I rx ry h
  obtain ⟨l, k, xs, rfl, rfl, hT, h1, h2, hz, qa, qc, qb⟩ := h
  cases rx
  obtain ⟨t, rfl⟩ := ry
  obtain ⟨its, r, ⟨⟨cls, dd, data, sl⟩, ho, hc, n, hd⟩, hs⟩ := I.tuple hT
  simp only at hc hd
  subst hc hd
  have hle : its.length = xs.length := r.length.symm
  have c0 : (decide (k < -(2 ^ 63)) || decide (k ≥ 2 ^ 63)) = false := by
    rw [decide_eq_false (by omega), decide_eq_false (by omega)] <;> rfl
  by_cases k1 : xs = [] ∨ k = 1
  · have c1 : (its.toArray.isEmpty || k == 1) = true := by
      rcases k1 with e | e
      · have : its = [] := List.eq_nil_of_length_eq_zero (by rw [hle, e]; rfl)
        subst this; rfl
      · rw [e]; simp
    exact wpAny_binaryOp_repeat_ref (T := "tuple") (U := "int") (by decide) ⟨_, ho, rfl⟩ (fun s' => typeIs_int s' k t) noFill_tuple_mul F.fills_int_mul F.slot_int_rmul repeat_tuple F.slot_int_index.lookup
      (call_meets F.slot_int_rmul (typeIs_int s k t) F.entry_int_rmul (F.args_int_rmul_2 _ _) (int_rmul_tuple k t l its.toArray n dd sl)
        ⟨ho, rfl, ⟨_, ho, rfl⟩, call_meets F.slot_tuple_mul ⟨_, ho, rfl⟩ F.entry_tuple_mul (F.args_tuple_mul_2 _ _) (tuple_mul1 l its.toArray n dd sl k t c0 c1) ⟨ho, ⟨.ref l, H, I, rfl, qa k1⟩⟩⟩)
  have hne : xs ≠ [] := fun e => k1 (.inl e)
  have hk1 : k ≠ 1 := fun e => k1 (.inr e)
  have hn : its ≠ [] := fun e => hne (by
    rw [e] at hle
    exact List.eq_nil_of_length_eq_zero hle.symm)
  have hi : its.toArray.isEmpty = false := by
    cases its with
    | nil => exact absurd rfl hn
    | cons a b => rfl
  have c1 : (its.toArray.isEmpty || k == 1) = false := by
    rw [hi, Bool.false_or]
    exact beq_eq_false_iff_ne.mpr hk1
  by_cases k0 : k ≤ 0
  · have c2 : (decide (k ≤ 0) || its.toArray.isEmpty) = true := by rw [decide_eq_true k0]; rfl
    exact wpAny_binaryOp_repeat_ref (T := "tuple") (U := "int") (by decide) ⟨_, ho, rfl⟩ (fun s' => typeIs_int s' k t) noFill_tuple_mul F.fills_int_mul F.slot_int_rmul repeat_tuple F.slot_int_index.lookup
      (call_meets F.slot_int_rmul (typeIs_int s k t) F.entry_int_rmul (F.args_int_rmul_2 _ _) (int_rmul_tuple k t l its.toArray n dd sl)
        ⟨ho, rfl, ⟨_, ho, rfl⟩, call_meets F.slot_tuple_mul ⟨_, ho, rfl⟩ F.entry_tuple_mul (F.args_tuple_mul_2 _ _) (tuple_mul0 l its.toArray n dd sl k t c0 c1 c2) ⟨ho, newT_at I (its := []) (vs := []) .nil (Nat.zero_le _) (qc hne k0)⟩⟩)
  have h1 : 2 ≤ k := by omega
  have q := qb hne h1
  have hsz0 : its.toArray.size = xs.length := by rw [List.size_toArray, hle]
  have hm : ((its.toArray.size : Nat) : Int) * k ≤ 1000000 := by
    rw [hsz0]
    have a1 : ((xs.length : Nat) : Int) * k ≤ 1000 * k := Int.mul_le_mul_of_nonneg_right (by omega) (by omega)
    omega
  have flen : (List.replicate k.toNat its).flatten.length ≤ sizeLine := by
    rw [PyProof.Rows.lm_len_rep_flat, hle, sizeLine_eq]
    have a1 : k.toNat * xs.length ≤ 1000 * 1000 := Nat.mul_le_mul (by omega) hz
    omega
  have c2 : (decide (k ≤ 0) || its.toArray.isEmpty) = false := by
    rw [hi, Bool.or_false]
    exact decide_eq_false (by omega)
  have c4 : Builtin.Tuple.tupleTooMany (((its.toArray.size : Nat) : Int) * k) = false := by
    unfold Builtin.Tuple.tupleTooMany
    rw [sizeLine_eq]
    exact decide_eq_false (by omega)
  refine wpAny_binaryOp_repeat_ref (T := "tuple") (U := "int") (by decide) ⟨_, ho, rfl⟩ (fun s' => typeIs_int s' k t) noFill_tuple_mul F.fills_int_mul F.slot_int_rmul repeat_tuple F.slot_int_index.lookup
    (call_meets F.slot_int_rmul (typeIs_int s k t) F.entry_int_rmul (F.args_int_rmul_2 _ _) (int_rmul_tuple k t l its.toArray n dd sl)
      ⟨ho, rfl, ⟨_, ho, rfl⟩, call_meets F.slot_tuple_mul ⟨_, ho, rfl⟩ F.entry_tuple_mul (F.args_tuple_mul_2 _ _) (tuple_mulW l its.toArray n dd sl k t c0 c1 c2 (by omega) c4 (by rw [size_rep, List.size_toArray]; exact flen)) ⟨ho, ?_⟩⟩)
  rw [size_rep]
  exact newT_at I (r.rep k.toNat) (by rw [PyProof.Rows.lm_len_rep_flat, sizeLine_eq]; have a1 : k.toNat * xs.length ≤ 1000 * 1000 := Nat.mul_le_mul (by omega) hz; omega) q
def rSlN (K : PySem.W.Frag) : V → Option Int → Option Int → Hp → VK → Prop := fun x lo hi H Q => ∃ a xs, x = .ref a ∧ SqT K H a xs ∧
  (HT.sIx xs.length 0 lo = 0 ∧ HT.sIx xs.length xs.length hi = xs.length → Q (.ref a) H) ∧ (¬ (HT.sIx xs.length 0 lo = 0 ∧ HT.sIx xs.length xs.length hi = xs.length) → NewT H (cutV xs lo hi) Q)
theorem sl_tupN : SlR X (rSlN X.K) := by
  intro pins s σ H x v vl vu lo hi sl Q I rx hs pl pu h
  obtain ⟨a, xs, rfl, hx, q1, q2⟩ := h
  cases rx
  obtain ⟨its, r, ht, hz⟩ := I.tuple hx
  have hlen : its.toArray.size = xs.length := by rw [List.size_toArray]; exact r.length.symm
  refine ⟨"tuple", _, PyProof.Rows.slot_tuple_getitem.lookup, ht.typeIs, ?_⟩
  by_cases hw : HT.sIx xs.length 0 lo = 0 ∧ HT.sIx xs.length xs.length hi = xs.length
  · exact getItem_tuple_whole ht hs pl pu (by rw [hlen]; exact hw) ⟨.ref a, H, I, rfl, q1 hw⟩
  · refine HT.getItem_tuple_cut ht hs pl pu (by rw [hlen]; exact hw) ?_ (by rw [hlen]; exact hz)
    rw [hlen]
    exact newT_at I ((r.drop (HT.sIx xs.length 0 lo)).take (HT.sIx xs.length xs.length hi - HT.sIx xs.length 0 lo)) (Nat.le_trans (cutV_length xs lo hi) hz) (q2 hw)
theorem call_tupleN : CallR X (.type "tuple") (fun xs H Q => ∃ p ys, xs = [.ref p] ∧ ((SqL X.K H p ys ∧ NewT H ys Q) ∨ (SqT X.K H p ys ∧ Q (.ref p) H))) := by
  intro pins s σ H xs us Q I r h
  obtain ⟨p, ys, rfl, h⟩ := h
  obtain ⟨u, rfl, rx⟩ := vals1 r
  cases rx
  rcases h with ⟨hq, q⟩ | ⟨hq, q⟩
  · obtain ⟨its, r', pl, hz⟩ := I.list hq
    have hlen := r'.length
    refine call_tuple_list pl.isList (fun h' kp => ?_) (by simp only [List.size_toArray] <;> omega)
    have I1 : Inv X pins σ H { s with heap := h' } := I.kept (t' := s.toks) kp
    exact newT_at I1 r' hz q
  · obtain ⟨its, r', pl, hz⟩ := I.tuple hq
    exact call_tuple_same pl ⟨.ref p, H, I, rfl, q⟩
theorem call_divmodN : CallR X (.builtin "divmod") (fun xs H Q => ∃ i j, xs = [.int i, .int j] ∧ CDivP i j ∧ NewT H [.int (i / j), .int (i % j)] Q) := by
  intro pins s σ H xs us Q I r h
  obtain ⟨i, j, rfl, ⟨h1, h2⟩, q⟩ := h
  obtain ⟨u, w', rfl, ⟨t, rfl⟩, ⟨t', rfl⟩⟩ := vals2 r
  refine divmod_int (by omega) ?_ (.inl h2)
  rw [Int.fdiv_eq_ediv_of_nonneg i (by omega), Int.fmod_eq_emod_of_nonneg i (by omega)]
  exact newT_at (vs := [.int (i / j), .int (i % j)]) (its := [.int (i / j) s.toks, .int (i % j) (s.toks + 1)]) I (.cons ⟨_, rfl⟩ (.cons ⟨_, rfl⟩ .nil)) (by simp only [List.length_cons, List.length_nil]; rw [sizeLine_eq]; decide) q
def tTupN (t : TA) : TE := fun σ H Q => t σ H fun xs H1 => xs.length ≤ sizeLine ∧ NewT H1 xs Q
theorem pe_tupN {es : List Expr} {t : TA} {x1 : Nat} {pos : Pos} (h : PA X es t) : PE X (.Tuple es x1 pos) (tTupN t) := by
  refine ⟨fun pins s σ H Q I hq => ?_⟩
  refine wpAny_Tuple_spliced (thn (h.run pos pins s σ H _ I hq) fun us s1 ⟨xs, H1, I1, r, z, q⟩ => ⟨by rw [← r.length]; exact z, ?_⟩)
  exact newT_at (t' := s1.toks) I1 r z q
end
end Lg

/-! ### sorted of a tuple -/
namespace Lg
open PySem PySem.Calls PyProof.Rows PySem.W
section
variable {prog : Program} {w : World} {A : Around} {E : Value → Shared → Prop} {s : Shared}
def tupSH (h' : Heap) (vs : List Value) : Heap := h'.push (seqObj "list" vs.toArray 0)
theorem sorted_tup_vals {κ : Heap → PyProof.Rows.KeyKind} {t : Addr} {vs : List Value} {Q : Value → Shared → Prop} (ht : IsTup s.heap t vs.toArray) (hL : vs.length ≤ sizeLine)
    (S : ∀ h' : Heap, (∀ b o, s.heap.get? b = some o → h'.get? b = some o) → SortsAt prog w A.in1.in1 { s with heap := sortingHeap (tupSH h' vs) h'.objs.size vs } (κ h') vs)
    (h : ∀ h' : Heap, (∀ b o, s.heap.get? b = some o → h'.get? b = some o) → Q (.ref h'.objs.size) { s with heap := sortedHeap (tupSH h' vs) h'.objs.size vs (sortVals (κ h') false vs vs).toArray }) :
    wpAny (model prog w) A (call (.builtin "sorted") [.ref t]) Q E s := by
  obtain ⟨o, ho, hc, n, hd⟩ := ht
  refine call_function_entry_kw kind_sorted plain_sorted entry_sorted (args_sorted1 _) ?_
  unfold Builtin.«sorted»
  refine wpAny_bind (m := checkCount "sorted" 1 1 _) (wpAny_pure ?_)
  refine wpAny_bind (wpAny_collect_seq t (.inr rfl) ho hc hd (fun h' hk => ?_) (by simpa using hL))
  have e : vs.toArray.toList = vs := by simp
  rw [e]
  refine wpAny_bind (wpAny_newList ?_ hL)
  show wpAny _ _ _ _ _ { s with heap := tupSH h' vs }
  refine wpAny_bind (wpAny_holding (wpAny_call_entry_kw slot_list_sort ⟨_, (Heap.get?_push_size (o := seqObj "list" vs.toArray 0) h' rfl), rfl⟩ entry_list_sort ?body (args_list_sort _)))
  case body =>
    show wpAny (model prog w) A.in1.in1 (Builtin.«list.sort» ⟨[.ref h'.objs.size], []⟩) _ _ { s with heap := tupSH h' vs }
    refine list_sort_vals (s := { s with heap := tupSH h' vs }) (κ := κ h') (n := 0) (Heap.get?_push_size h' rfl) (S h' hk) hL ?_
    exact ⟨_, rfl, wpAny_pure ⟨_, rfl, h h' hk⟩⟩
theorem tupSH_old {h h' : Heap} {vs : List Value} (hk : ∀ b o, h.get? b = some o → h'.get? b = some o) {b : Addr} {o : Obj} (e : h.get? b = some o) : (tupSH h' vs).get? b = some o := Heap.get?_push_of_some _ (hk _ _ e)
theorem tupSorted_old {h h' : Heap} {vs out : List Value} (hk : ∀ b o, h.get? b = some o → h'.get? b = some o) {b : Addr} {o : Obj} (e : h.get? b = some o) : (sortedHeap (tupSH h' vs) h'.objs.size vs out.toArray).get? b = some o := by
  have hl := Heap.lt_size (hk _ _ e)
  rw [sortedHeap_old (Nat.ne_of_lt hl) (by unfold tupSH; rw [size_push']; exact Nat.lt_succ_of_lt hl)]
  exact tupSH_old hk e
theorem tupSorted_at (h' : Heap) (vs out : List Value) : ∃ c, (sortedHeap (tupSH h' vs) h'.objs.size vs out.toArray).get? h'.objs.size = some (seqObj "list" out.toArray c) :=
  sortedHeap_at (n := 0) (Heap.get?_push_size h' rfl)
theorem sorted_tup_data {β : Type} {vs : List Value} {bs : List β} {enc : β → PyData} {R : Value → β → Prop} {t : Addr} {Q : Value → Shared → Prop} (ht : IsTup s.heap t vs.toArray) (e : EachIs R vs bs) (er : EachIs (fun v b => ∃ as, Reads s.heap v (enc b) as) vs bs) (hal : AllAlike (bs.map enc)) (hk : Sortable (bs.map enc)) (hL : bs.length ≤ sizeLine)
    (hu : ∀ b, b ∈ bs → A.units + 2 + (enc b).depth < cLine) (h : ∀ out h', (∀ b o, s.heap.get? b = some o → h'.get? b = some o) → out.length = bs.length → EachIs R out (bs.mergeSort (dataLe false enc)) → Q (.ref h'.objs.size) { s with heap := sortedHeap (tupSH h' vs) h'.objs.size vs (List.toArray out) }) :
    wpAny (model prog w) A (call (.builtin "sorted") [.ref t]) Q E s := by
  have er' : ∀ h' : Heap, (∀ b o, s.heap.get? b = some o → h'.get? b = some o) → EachIs (fun v b => ∃ as, Reads (sortingHeap (tupSH h' vs) h'.objs.size vs) v (enc b) as) vs bs := fun h' k => er.mono fun _ _ ⟨as, r⟩ => ⟨as, PyProof.Rows.Reads.keeps (fun b o z => sortingHeap_old (Nat.ne_of_lt (Heap.lt_size (k _ _ z))) (tupSH_old k z)) r⟩
  exact sorted_tup_vals (κ := fun h' => dataKind (sortingHeap (tupSH h' vs) h'.objs.size vs) (bs.map enc)) ht (by rw [e.length]; exact hL)
    (fun h' k => SortsAt.data (s := { s with heap := sortingHeap (tupSH h' vs) h'.objs.size vs }) (each_map (R := fun v d => ∃ as, Reads (sortingHeap (tupSH h' vs) h'.objs.size vs) v d as) enc (er' h' k)) hal hk (bound_map hu))
    (fun h' k => h _ h' k (by rw [sortVals_length false rfl]; exact e.length) (sortVals_data false e (er' h' k) hal))
end
end Lg

namespace Lg
open PySem PySem.Spec PyProof.Rows L2

def Kont (K : PySem.W.Frag) (R F : Hp) (Qd : QD) (Q : VK) : Prop := ∀ F' h' H' d v, Same F F' → Sim K R F' h' H' → Rep K F' d v → Qd d h' → Q v H'
section
variable {K : PySem.W.Frag} {R F : Hp} {h : LH} {H : Hp} {Qd : QD} {Q : VK}
theorem Kont.mono {F' : Hp} (k : Kont K R F Qd Q) (s : Same F F') : Kont K R F' Qd Q := fun F2 h2 H2 d v s2 S r q => k F2 h2 H2 d v (s.trans s2) S r q
theorem Kont.here (k : Kont K R F Qd Q) (S : Sim K R F h H) {d : D} {v : V} (r : Rep K F d v) (q : Qd d h) : Q v H := k F h H d v (Same.refl F) S r q
theorem Kont.i (k : Kont K R F Qd Q) (S : Sim K R F h H) {i : Int} (q : Qd (.int i) h) : Q (.int i) H := k.here S (d := .int i) rfl q
theorem Kont.b (k : Kont K R F Qd Q) (S : Sim K R F h H) {i : Bool} (q : Qd (.bl i) h) : Q (.bl i) H := k.here S (d := .bl i) rfl q
theorem Kont.s (k : Kont K R F Qd Q) (S : Sim K R F h H) {i : Str} (q : Qd (.str i) h) : Q (.str i) H := k.here S (d := .str i) rfl q
theorem Kont.n (k : Kont K R F Qd Q) (S : Sim K R F h H) (q : Qd .non h) : Q .non H := k.here S (d := .non) rfl q
theorem Kont.newL (k : Kont K R F Qd Q) (S : Sim K R F h H) {ds : List D} {vs : List V} (r : RepL K F ds vs) (q : Qd (.lst ds) h) : ∀ p, H p = none → Q (.ref p) (upd H p (.lst vs)) := fun p hp => by
  have s := same_new (o := .lst vs) (S.free hp).1
  exact k _ h _ _ _ s (S.frozen hp) (by simp only [Rep]; exact ⟨p, vs, rfl, upd_same, r.mono s⟩) q
theorem Kont.newT (k : Kont K R F Qd Q) (S : Sim K R F h H) {ds : List D} {vs : List V} (r : RepL K F ds vs) (q : Qd (.tup ds) h) : NewT H vs Q := fun p o hp hc hd => by
  have s := same_new (o := .frz o (.tup vs)) (S.free hp).1
  exact k _ h _ _ _ s (S.frozen hp) (by simp only [Rep]; exact ⟨p, vs, rfl, newTup hc hd, r.mono s⟩) q
theorem Kont.newC (k : Kont K R F Qd Q) (S : Sim K R F h H) {ds : List D} {vs : List V} (r : RepL K F ds vs) (q : ∀ a, h a = none → Qd (.ref a) (put h a (.lst ds))) : ∀ p, H p = none → Q (.ref p) (upd H p (.lst vs)) := fun p hp =>
  k F _ _ (.ref p) _ (Same.refl F) (S.cell (c := .lst ds) hp ⟨vs, rfl, r⟩) rfl (q p (S.free hp).2)
theorem Kont.imp {Qd' : QD} (k : Kont K R F Qd Q) (i : ∀ d h, Qd' d h → Qd d h) : Kont K R F Qd' Q := fun F2 h2 H2 d v s2 S r q => k F2 h2 H2 d v s2 S r (i _ _ q)
end

section
variable {K : PySem.W.Frag} {R F : Hp} {h : LH} {H : Hp} {d : D} {v : V} {ds : List D}
theorem lst_at (S : Sim K R F h H) (r : Rep K F d v) (e : lstv h d = some ds) : ∃ p vs, v = .ref p ∧ H p = some (.lst vs) ∧ RepL K F ds vs := by
  cases d with
  | lst xs =>
    simp only [lstv, Option.some.injEq] at e
    subst e
    simp only [Rep] at r
    obtain ⟨a, vs, e, q, r⟩ := r
    exact ⟨a, vs, e, S.fz _ _ q, r⟩
  | ref a =>
    simp only [Rep] at r
    subst r
    simp only [lstv] at e
    split at e
    · rename_i xs hx
      cases e
      obtain ⟨_, o, ho, vs, rfl, rr⟩ := S.cl a _ hx
      exact ⟨a, vs, rfl, ho, rr⟩
    · cases e
  | _ => simp only [lstv] at e; cases e
theorem seq_at (S : Sim K R F h H) (r : Rep K F d v) (e : seqv h d = some ds) : ∃ p vs, v = .ref p ∧ (SqL K H p vs ∨ SqT K H p vs) ∧ RepL K F ds vs := by
  cases d with
  | lst xs =>
    simp only [seqv, Option.some.injEq] at e
    subst e
    simp only [Rep] at r
    obtain ⟨a, vs, e, q, r⟩ := r
    exact ⟨a, vs, e, .inl (SqL.of (S.fz _ _ q)), r⟩
  | frl xs =>
    simp only [seqv, Option.some.injEq] at e
    subst e
    simp only [Rep] at r
    obtain ⟨a, vs, e, q, r⟩ := r
    exact ⟨a, vs, e, .inl (sqL_mono S.fz q), r⟩
  | tup xs =>
    simp only [seqv, Option.some.injEq] at e
    subst e
    simp only [Rep] at r
    obtain ⟨a, vs, e, q, r⟩ := r
    exact ⟨a, vs, e, .inr (sqT_mono S.fz q.1), r⟩
  | ref a =>
    simp only [Rep] at r
    subst r
    simp only [seqv] at e
    split at e
    · rename_i xs hx
      cases e
      obtain ⟨_, o, ho, vs, rfl, rr⟩ := S.cl a _ hx
      exact ⟨a, vs, rfl, .inl (SqL.of ho), rr⟩
    · cases e
  | _ => simp only [seqv] at e; cases e
theorem tup_at (S : Sim K R F h H) (r : Rep K F (.tup ds) v) : ∃ p vs, v = .ref p ∧ SqT K H p vs ∧ RepL K F ds vs := by
  simp only [Rep] at r
  obtain ⟨a, vs, e, q, r⟩ := r
  exact ⟨a, vs, e, sqT_mono S.fz q.1, r⟩
theorem tup_nod (S : Sim K R F h H) (r : Rep K F (.tup ds) v) : ∃ p, v = .ref p ∧ NoD K H p := by
  simp only [Rep] at r
  obtain ⟨a, vs, e, q, r⟩ := r
  exact ⟨a, e, noD_mono S.fz q.2⟩
theorem dct_at {kvs : List (Key × D)} (S : Sim K R F h H) (r : Rep K F d v) (e : dctv h d = some kvs) : ∃ p kws, v = .ref p ∧ H p = some (.dK kws) ∧ RepKV K F kvs kws := by
  cases d with
  | dct xs =>
    simp only [dctv, Option.some.injEq] at e
    subst e
    simp only [Rep] at r
    obtain ⟨a, vs, e, q, r⟩ := r
    exact ⟨a, vs, e, S.fz _ _ q, r⟩
  | ref a =>
    simp only [Rep] at r
    subst r
    simp only [dctv] at e
    split at e
    · rename_i xs hx
      cases e
      obtain ⟨_, o, ho, vs, rfl, rr⟩ := S.cl a _ hx
      exact ⟨a, vs, rfl, ho, rr⟩
    · cases e
  | _ => simp only [dctv] at e; cases e

theorem look_rep {kvs : List (Key × D)} {kws : List (Key × V)} (r : RepKV K F kvs kws) (k : Key) :
    (look kvs k = none ∧ valV kws k = none) ∨ ∃ d v, look kvs k = some d ∧ valV kws k = some v ∧ Rep K F d v := by
  induction kvs generalizing kws with
  | nil => simp only [RepKV] at r; subst r; exact .inl ⟨rfl, rfl⟩
  | cons p kvs ih =>
    obtain ⟨j, d⟩ := p
    simp only [RepKV] at r
    obtain ⟨v, ws, rfl, h1, h2⟩ := r
    by_cases e : j = k
    · refine .inr ⟨d, v, ?_, valV_pos e, h1⟩
      simp [look, List.find?_cons, e]
    · have e1 : look ((j, d) :: kvs) k = look kvs k := by simp [look, List.find?_cons, e]
      rw [e1, valV_neg (p := (j, v)) e]
      exact ih h2
theorem repKV_len {kvs : List (Key × D)} {kws : List (Key × V)} (r : RepKV K F kvs kws) : kvs.length = kws.length := by
  induction kvs generalizing kws with
  | nil => simp only [RepKV] at r; subst r; rfl
  | cons p kvs ih =>
    obtain ⟨j, d⟩ := p
    simp only [RepKV] at r
    obtain ⟨v, ws, rfl, _, h2⟩ := r
    simp [ih h2]
theorem repKV_append {kvs ks : List (Key × D)} {kws ls : List (Key × V)} (r : RepKV K F kvs kws) (q : RepKV K F ks ls) : RepKV K F (kvs ++ ks) (kws ++ ls) := by
  induction kvs generalizing kws with
  | nil => simp only [RepKV] at r; subst r; exact q
  | cons p kvs ih =>
    obtain ⟨j, d⟩ := p
    simp only [RepKV] at r
    obtain ⟨v, ws, rfl, h1, h2⟩ := r
    simp only [List.cons_append, RepKV]
    exact ⟨v, _, rfl, h1, ih h2⟩
theorem repKV_map {kvs : List (Key × D)} {kws : List (Key × V)} {k : Key} {d : D} {v : V} (r : RepKV K F kvs kws) (q : Rep K F d v) :
    RepKV K F (kvs.map fun kv => if kv.1 = k then (kv.1, d) else kv) (kws.map fun kv => if kv.1 = k then (kv.1, v) else kv) := by
  induction kvs generalizing kws with
  | nil => simp only [RepKV] at r; subst r; simp [RepKV]
  | cons p kvs ih =>
    obtain ⟨j, e⟩ := p
    simp only [RepKV] at r
    obtain ⟨w, ws, rfl, h1, h2⟩ := r
    simp only [List.map_cons]
    by_cases hj : j = k
    · simp only [hj, if_true, RepKV]
      exact ⟨v, _, rfl, q, ih h2⟩
    · simp only [hj, if_false, RepKV]
      exact ⟨w, _, rfl, h1, ih h2⟩
theorem put_rep {kvs : List (Key × D)} {kws : List (Key × V)} {k : Key} {d : D} {v : V} (r : RepKV K F kvs kws) (q : Rep K F d v) : RepKV K F (putD kvs k d) (putK kws k v) := by
  have e : (kvs.any fun kv => decide (kv.1 = k)) = (kws.any fun kv => decide (kv.1 = k)) := by
    induction kvs generalizing kws with
    | nil => simp only [RepKV] at r; subst r; rfl
    | cons p kvs ih =>
      obtain ⟨j, e⟩ := p
      simp only [RepKV] at r
      obtain ⟨w, ws, rfl, _, h2⟩ := r
      simp only [List.any_cons, ih h2]
  unfold putD putK
  rw [← e]
  split
  · exact repKV_map r q
  · refine repKV_append r ?_
    simp only [RepKV]
    exact ⟨v, [], rfl, q, rfl⟩
theorem drop_rep {kvs : List (Key × D)} {kws : List (Key × V)} {k : Key} (r : RepKV K F kvs kws) : RepKV K F (dropD kvs k) (dropK kws k) := by
  induction kvs generalizing kws with
  | nil => simp only [RepKV] at r; subst r; simp [RepKV, dropD, dropK]
  | cons p kvs ih =>
    obtain ⟨j, e⟩ := p
    simp only [RepKV] at r
    obtain ⟨w, ws, rfl, h1, h2⟩ := r
    by_cases hj : j = k
    · have e1 : dropD ((j, e) :: kvs) k = dropD kvs k := by simp [dropD, hj]
      have e2 : dropK ((j, w) :: ws) k = dropK ws k := by simp [dropK, hj]
      rw [e1, e2]
      exact ih h2
    · have e1 : dropD ((j, e) :: kvs) k = (j, e) :: dropD kvs k := by simp [dropD, hj]
      have e2 : dropK ((j, w) :: ws) k = (j, w) :: dropK ws k := by simp [dropK, hj]
      rw [e1, e2]
      simp only [RepKV]
      exact ⟨w, _, rfl, h1, ih h2⟩
theorem key_of {k : Key} {d : D} {v : V} (r : Rep K F d v) (e : keyOf d = some k) : v = kV k := by
  cases d with
  | int i => simp only [keyOf, Option.some.injEq] at e; subst e; exact r
  | str i => simp only [keyOf, Option.some.injEq] at e; subst e; exact r
  | _ => simp only [keyOf] at e; cases e
end

/-! ### data read in the real heap -/
section
variable {X : Cx} {pins : List (Addr × Obj)} {σ : L2.St} {R F : Hp} {h : LH} {H : Hp} {s : Shared}
mutual
theorem py_reads (I : Inv X pins σ H s) (S : Sim X.K R F h H) : ∀ (d : D) {v : V} {u : Value} {a : PyData}, D.py d = some a → Rep X.K F d v → RelV v u → ∃ as, Reads s.heap u a as
  | .non, _, _, _, e, r, rv => by
    simp only [D.py, Option.some.injEq] at e; subst e
    simp only [Rep] at r; subst r
    cases rv; exact ⟨_, .none⟩
  | .bl b, _, _, _, e, r, rv => by
    simp only [D.py, Option.some.injEq] at e; subst e
    simp only [Rep] at r; subst r
    cases rv; exact ⟨_, .bool b⟩
  | .int i, _, _, _, e, r, rv => by
    simp only [D.py, Option.some.injEq] at e; subst e
    simp only [Rep] at r; subst r
    obtain ⟨t, rfl⟩ := rv; exact ⟨_, .int i t⟩
  | .str x, _, _, _, e, r, rv => by
    simp only [D.py, Option.some.injEq] at e; subst e
    simp only [Rep] at r; subst r
    obtain ⟨t, rfl⟩ := rv; exact ⟨_, .str x t⟩
  | .tup ds, _, _, _, e, r, rv => by
    simp only [D.py, Option.map_eq_some_iff] at e
    obtain ⟨xs, e, rfl⟩ := e
    obtain ⟨p, vs, rfl, q, rr⟩ := tup_at S r
    cases rv
    obtain ⟨its, rv, ⟨o, ho, hc, n, hd⟩, _⟩ := I.tuple q
    obtain ⟨as, hr⟩ := pyL_reads I S ds e rr rv
    exact ⟨_, .tuple ho hc hd hr⟩
  | .lst ds, _, _, _, e, r, rv => by
    simp only [D.py, Option.map_eq_some_iff] at e
    obtain ⟨xs, e, rfl⟩ := e
    simp only [Rep] at r
    obtain ⟨p, vs, rfl, q, rr⟩ := r
    cases rv
    obtain ⟨its, rv, ⟨o, n, ho, hc, _, hd⟩, _⟩ := I.list (SqL.of (K := X.K) (S.fz _ _ q))
    obtain ⟨as, hr⟩ := pyL_reads I S ds e rr rv
    exact ⟨_, .list ho hc hd hr⟩
  | .frl _, _, _, _, e, _, _ => by simp only [D.py] at e; cases e
  | .dct _, _, _, _, e, _, _ => by simp only [D.py] at e; cases e
  | .ref _, _, _, _, e, _, _ => by simp only [D.py] at e; cases e
theorem pyL_reads (I : Inv X pins σ H s) (S : Sim X.K R F h H) : ∀ (ds : List D) {vs : List V} {us : List Value} {as : List PyData}, pyL ds = some as → RepL X.K F ds vs → Vals vs us → ∃ bs, ReadsAll s.heap us as bs
  | [], _, _, _, e, r, rv => by
    simp only [pyL, Option.some.injEq] at e; subst e
    simp only [RepL] at r; subst r
    cases rv; exact ⟨_, .nil⟩
  | d :: ds, _, _, _, e, r, rv => by
    simp only [pyL] at e
    split at e
    · rename_i x xs e1 e2
      cases e
      simp only [RepL] at r
      obtain ⟨v, r', rfl, r1, r2⟩ := r
      cases rv with
      | cons rv1 rv2 =>
        obtain ⟨as, q1⟩ := py_reads I S d e1 r1 rv1
        obtain ⟨bs, q2⟩ := pyL_reads I S ds e2 r2 rv2
        exact ⟨_, .cons q1 q2⟩
    · cases e
end
theorem pv1_reads (I : Inv X pins σ H s) (S : Sim X.K R F h H) {d : D} {v : V} {u : Value} {a : PyData} (e : pv1 h d = some a) (r : Rep X.K F d v) (rv : RelV v u) : ∃ as, Reads s.heap u a as := by
  cases d with
  | ref b =>
    simp only [pv1] at e
    split at e
    · rename_i ds hx
      simp only [Option.map_eq_some_iff] at e
      obtain ⟨xs, e, rfl⟩ := e
      simp only [Rep] at r
      subst r
      cases rv
      obtain ⟨_, o, ho, vs, rfl, rr⟩ := S.cl b _ hx
      obtain ⟨its, rv, ⟨o, n, ho, hc, _, hd⟩, _⟩ := I.list (SqL.of (K := X.K) ho)
      obtain ⟨as, hr⟩ := pyL_reads I S ds e rr rv
      exact ⟨_, .list ho hc hd hr⟩
    · cases e
  | non => exact py_reads I S _ e r rv
  | bl _ => exact py_reads I S _ e r rv
  | int _ => exact py_reads I S _ e r rv
  | str _ => exact py_reads I S _ e r rv
  | tup _ => exact py_reads I S _ e r rv
  | lst _ => exact py_reads I S _ e r rv
  | frl _ => exact py_reads I S _ e r rv
  | dct _ => exact py_reads I S _ e r rv
  | ins _ _ => exact py_reads I S _ e r rv
  | bnd _ _ => exact py_reads I S _ e r rv
theorem pv1L_reads (I : Inv X pins σ H s) (S : Sim X.K R F h H) : ∀ (ds : List D) {vs : List V} {us : List Value} {as : List PyData}, pv1L h ds = some as → RepL X.K F ds vs → Vals vs us → ∃ bs, ReadsAll s.heap us as bs
  | [], _, _, _, e, r, rv => by
    simp only [pv1L, Option.some.injEq] at e; subst e
    simp only [RepL] at r; subst r
    cases rv; exact ⟨_, .nil⟩
  | d :: ds, _, _, _, e, r, rv => by
    simp only [pv1L] at e
    split at e
    · rename_i x xs e1 e2
      cases e
      simp only [RepL] at r
      obtain ⟨v, r', rfl, r1, r2⟩ := r
      cases rv with
      | cons rv1 rv2 =>
        obtain ⟨as, q1⟩ := pv1_reads I S e1 r1 rv1
        obtain ⟨bs, q2⟩ := pv1L_reads I S ds e2 r2 rv2
        exact ⟨_, .cons q1 q2⟩
    · cases e
theorem pv_reads (I : Inv X pins σ H s) (S : Sim X.K R F h H) {d : D} {v : V} {u : Value} {a : PyData} (e : pv_ h d = some a) (r : Rep X.K F d v) (rv : RelV v u) : ∃ as, Reads s.heap u a as := by
  cases d with
  | ref b =>
    simp only [pv_] at e
    split at e
    · rename_i ds hx
      simp only [Option.map_eq_some_iff] at e
      obtain ⟨xs, e, rfl⟩ := e
      simp only [Rep] at r
      subst r
      cases rv
      obtain ⟨_, o, ho, vs, rfl, rr⟩ := S.cl b _ hx
      obtain ⟨its, rv, ⟨o, n, ho, hc, _, hd⟩, _⟩ := I.list (SqL.of (K := X.K) ho)
      obtain ⟨as, hr⟩ := pv1L_reads I S ds e rr rv
      exact ⟨_, .list ho hc hd hr⟩
    · cases e
  | non => exact py_reads I S _ e r rv
  | bl _ => exact py_reads I S _ e r rv
  | int _ => exact py_reads I S _ e r rv
  | str _ => exact py_reads I S _ e r rv
  | tup _ => exact py_reads I S _ e r rv
  | lst _ => exact py_reads I S _ e r rv
  | frl _ => exact py_reads I S _ e r rv
  | dct _ => exact py_reads I S _ e r rv
  | ins _ _ => exact py_reads I S _ e r rv
  | bnd _ _ => exact py_reads I S _ e r rv
end
mutual
theorem py_plain : ∀ (d : D) {a : PyData}, D.py d = some a → a.plain = true
  | .non, _, e => by simp only [D.py, Option.some.injEq] at e; subst e; rfl
  | .bl b, _, e => by simp only [D.py, Option.some.injEq] at e; subst e; rfl
  | .int i, _, e => by simp only [D.py, Option.some.injEq] at e; subst e; rfl
  | .str x, _, e => by simp only [D.py, Option.some.injEq] at e; subst e; rfl
  | .tup ds, _, e => by
    simp only [D.py, Option.map_eq_some_iff] at e
    obtain ⟨xs, e, rfl⟩ := e
    simp only [PyData.plain]
    exact pyL_plain ds e
  | .lst ds, _, e => by
    simp only [D.py, Option.map_eq_some_iff] at e
    obtain ⟨xs, e, rfl⟩ := e
    simp only [PyData.plain]
    exact pyL_plain ds e
  | .frl _, _, e => by simp only [D.py] at e; cases e
  | .dct _, _, e => by simp only [D.py] at e; cases e
  | .ref _, _, e => by simp only [D.py] at e; cases e
theorem pyL_plain : ∀ (ds : List D) {as : List PyData}, pyL ds = some as → PyData.plainAll as = true
  | [], _, e => by simp only [pyL, Option.some.injEq] at e; subst e; rfl
  | d :: ds, _, e => by
    simp only [pyL] at e
    split at e
    · rename_i x xs e1 e2
      cases e
      simp only [PyData.plainAll, py_plain d e1, pyL_plain ds e2, Bool.and_self]
    · cases e
end
theorem pv1_plain {h : LH} {d : D} {a : PyData} (e : pv1 h d = some a) : a.plain = true := by
  cases d with
  | ref b =>
    simp only [pv1] at e
    split at e
    · rename_i ds hx
      simp only [Option.map_eq_some_iff] at e
      obtain ⟨xs, e, rfl⟩ := e
      simp only [PyData.plain]
      exact pyL_plain ds e
    · cases e
  | _ => exact py_plain _ e
theorem pv1L_plain {h : LH} : ∀ (ds : List D) {as : List PyData}, pv1L h ds = some as → PyData.plainAll as = true
  | [], _, e => by simp only [pv1L, Option.some.injEq] at e; subst e; rfl
  | d :: ds, _, e => by
    simp only [pv1L] at e
    split at e
    · rename_i x xs e1 e2
      cases e
      simp only [PyData.plainAll, pv1_plain e1, pv1L_plain ds e2, Bool.and_self]
    · cases e
theorem pv_plain {h : LH} {d : D} {a : PyData} (e : pv_ h d = some a) : a.plain = true := by
  cases d with
  | ref b =>
    simp only [pv_] at e
    split at e
    · rename_i ds hx
      simp only [Option.map_eq_some_iff] at e
      obtain ⟨xs, e, rfl⟩ := e
      simp only [PyData.plain]
      exact pv1L_plain ds e
    · cases e
  | _ => exact py_plain _ e
mutual
theorem py_unpy : ∀ (d : D) {a : PyData}, D.py d = some a → unpy a = d
  | .non, _, e => by simp only [D.py, Option.some.injEq] at e; subst e; rfl
  | .bl b, _, e => by simp only [D.py, Option.some.injEq] at e; subst e; rfl
  | .int i, _, e => by simp only [D.py, Option.some.injEq] at e; subst e; rfl
  | .str x, _, e => by simp only [D.py, Option.some.injEq] at e; subst e; rfl
  | .tup ds, _, e => by
    simp only [D.py, Option.map_eq_some_iff] at e
    obtain ⟨xs, e, rfl⟩ := e
    simp only [unpy, pyL_unpy ds e]
  | .lst ds, _, e => by
    simp only [D.py, Option.map_eq_some_iff] at e
    obtain ⟨xs, e, rfl⟩ := e
    simp only [unpy, pyL_unpy ds e]
  | .frl _, _, e => by simp only [D.py] at e; cases e
  | .dct _, _, e => by simp only [D.py] at e; cases e
  | .ref _, _, e => by simp only [D.py] at e; cases e
theorem pyL_unpy : ∀ (ds : List D) {as : List PyData}, pyL ds = some as → unpyL as = ds
  | [], _, e => by simp only [pyL, Option.some.injEq] at e; subst e; rfl
  | d :: ds, _, e => by
    simp only [pyL] at e
    split at e
    · rename_i x xs e1 e2
      cases e
      simp only [unpyL, py_unpy d e1, pyL_unpy ds e2]
    · cases e
end
end Lg

namespace Lg
open PySem PySem.Spec PyProof.Rows L2
def LO (K : PySem.W.Frag) (w : D → D → LH → QD → Prop) : R2 := fun x y H Q => ∃ R F h dx dy Qd, Sim K R F h H ∧ Rep K F dx x ∧ Rep K F dy y ∧ w dx dy h Qd ∧ Kont K R F Qd Q
section
variable {X : Cx}
theorem add_ok : OpR X (binaryOp .Add) (LO X.K (binW .Add)) := by
  intro pins s σ H x y v u Q I rx ry ⟨R, F, h, dx, dy, Qd, S, r1, r2, hw, k⟩
  simp only [binW, addW] at hw
  split at hw
  · rename_i i j
    simp only [Rep] at r1 r2; subst r1 r2
    exact op_add pins s σ H _ _ v u Q I rx ry ⟨i, j, rfl, rfl, k.i S hw⟩
  · rename_i i j
    simp only [Rep] at r1 r2; subst r1 r2
    exact op_add_str pins s σ H _ _ v u Q I rx ry ⟨i, j, rfl, rfl, hw.1, k.s S hw.2⟩
  · rename_i a b
    obtain ⟨p, vs, e1, q1, rr1⟩ := tup_at S r1
    obtain ⟨p', ws, e2, q2, rr2⟩ := tup_at S r2
    have l1 := rr1.length
    have l2 := rr2.length
    refine op_catN pins s σ H _ _ v u Q I rx ry ⟨p, p', vs, ws, e1, e2, q1, q2, by omega, fun e => ?_, fun e e' => ?_, fun e e' => ?_⟩
    · have := rr1.nil_iff.mp e
      subst this
      rw [← e2]; exact k.here S r2 hw.2
    · have := rr2.nil_iff.mp e'
      subst this
      rw [← e1]; exact k.here S r1 (by simpa using hw.2)
    · exact k.newT S (rr1.append rr2) hw.2
  · split at hw
    · rename_i a b ea eb
      obtain ⟨p, vs, e1, q1, rr1⟩ := lst_at S r1 ea
      obtain ⟨p', ws, e2, q2, rr2⟩ := lst_at S r2 eb
      have l1 := rr1.length
      have l2 := rr2.length
      exact op_cat pins s σ H _ _ v u Q I rx ry ⟨p, p', vs, ws, e1, e2, q1, q2, by omega, k.newL S (rr1.append rr2) hw.2⟩
    · exact hw.elim
theorem RepL.flat {K : PySem.W.Frag} {F : Hp} {ds : List D} {vs : List V} (r : RepL K F ds vs) : ∀ n, RepL K F (List.replicate n ds).flatten (List.replicate n vs).flatten
  | 0 => by simp [RepL]
  | n + 1 => by
    simp only [List.replicate_succ, List.flatten_cons]
    exact r.append (RepL.flat r n)
theorem mul_ok : OpR X (binaryOp .Mult) (LO X.K (binW .Mult)) := by
  intro pins s σ H x y v u Q I rx ry ⟨R, F, h, dx, dy, Qd, S, r1, r2, hw, k⟩
  simp only [binW, mulW] at hw
  split at hw
  · rename_i i j
    simp only [Rep] at r1 r2; subst r1 r2
    exact op_mul pins s σ H _ _ v u Q I rx ry ⟨i, j, rfl, rfl, hw.1, k.i S hw.2⟩
  · rename_i a n
    simp only [Rep] at r2; subst r2
    obtain ⟨p, vs, e1, q1, rr1⟩ := tup_at S r1
    have l1 := rr1.length
    obtain ⟨⟨h2, h3, h4⟩, q⟩ := hw
    exact op_repN pins s σ H _ _ v u Q I rx ry ⟨p, n, vs, e1, rfl, q1, h2, h3, by omega, (fun e => by
      rw [← e1]
      rcases e with e | e
      · have := rr1.nil_iff.mp e
        subst this
        exact k.here S r1 (by simpa using q)
      · subst e; exact k.here S r1 (by simpa using q)), (fun _ e => by
      rw [show n.toNat = 0 by omega] at q
      exact k.newT S (ds := []) (vs := []) (by simp [RepL]) q), fun _ _ => k.newT S (rr1.flat _) q⟩
  · rename_i n _ _
    simp only [Rep] at r2; subst r2
    split at hw
    · rename_i a ea
      obtain ⟨p, vs, e1, q1, rr1⟩ := lst_at S r1 ea
      have l1 := rr1.length
      obtain ⟨⟨h2, h3, h4⟩, q⟩ := hw
      exact op_rep pins s σ H _ _ v u Q I rx ry ⟨p, n, vs, e1, rfl, q1, h2, h3, by rw [← l1]; exact h4, k.newL S (rr1.flat _) q⟩
    · exact hw.elim
  · exact hw.elim
theorem ints2_at {K : PySem.W.Frag} {F : Hp} {dx dy : D} {x y : V} {Q : Int → Int → Prop} (r1 : Rep K F dx x) (r2 : Rep K F dy y) (hw : ints2 dx dy Q) : ∃ i j, x = .int i ∧ y = .int j ∧ Q i j := by
  unfold ints2 at hw
  split at hw
  · simp only [Rep] at r1 r2
    exact ⟨_, _, r1, r2, hw⟩
  · exact hw.elim
theorem bin_ok (op : Operator) : OpR X (binaryOp op) (LO X.K (binW op)) := by
  cases op with
  | Add => exact add_ok
  | Mult => exact mul_ok
  | _ =>
    intro pins s σ H x y v u Q I rx ry ⟨R, F, h, dx, dy, Qd, S, r1, r2, hw, k⟩
    first
      | exact (show False from hw).elim
      | (simp only [binW] at hw
         obtain ⟨i, j, rfl, rfl, hw⟩ := ints2_at r1 r2 hw
         first
          | exact op_sub pins s σ H _ _ v u Q I rx ry ⟨i, j, rfl, rfl, k.i S hw⟩
          | exact op_pow pins s σ H _ _ v u Q I rx ry ⟨i, j, rfl, rfl, hw.1, k.i S hw.2⟩
          | exact op_shl pins s σ H _ _ v u Q I rx ry ⟨i, j, rfl, rfl, hw.1, k.i S hw.2⟩
          | exact op_shr pins s σ H _ _ v u Q I rx ry ⟨i, j, rfl, rfl, hw.1, k.i S hw.2⟩
          | exact op_and pins s σ H _ _ v u Q I rx ry ⟨i, j, rfl, rfl, k.i S hw⟩
          | (simp only [fdivW] at hw
             by_cases hj : 0 < j
             · rw [if_pos hj] at hw
               exact op_fdiv pins s σ H _ _ v u Q I rx ry ⟨i, j, rfl, rfl, ⟨hj, hw.1⟩, k.i S hw.2⟩
             · rw [if_neg hj] at hw
               exact op_fdivN pins s σ H _ _ v u Q I rx ry ⟨i, j, rfl, rfl, hw.1, k.i S hw.2⟩)
          | (simp only [modW] at hw
             by_cases hj : 0 < j
             · rw [if_pos hj] at hw
               exact op_mod pins s σ H _ _ v u Q I rx ry ⟨i, j, rfl, rfl, hj, k.i S hw⟩
             · rw [if_neg hj] at hw
               exact op_modN pins s σ H _ _ v u Q I rx ry ⟨i, j, rfl, rfl, hw.1, k.i S hw.2⟩))
theorem isNon_rep {K : PySem.W.Frag} {F : Hp} {d : D} {v : V} (r : Rep K F d v) : decide (v = .non) = isNon d := by
  cases d <;> simp only [Rep] at r
  · subst r; rfl
  · subst r; rfl
  · subst r; rfl
  · subst r; rfl
  · obtain ⟨_, _, rfl, _⟩ := r; rfl
  · obtain ⟨_, _, rfl, _⟩ := r; rfl
  · obtain ⟨_, _, rfl, _⟩ := r; rfl
  · obtain ⟨_, _, rfl, _⟩ := r; rfl
  · subst r; rfl
  · obtain ⟨_, _, _, rfl, _⟩ := r; rfl
  · obtain ⟨_, _, rfl, _⟩ := r; rfl
theorem seq_reads {pins : List (Addr × Obj)} {σ : L2.St} {R F : Hp} {h : LH} {H : Hp} {s : Shared} (I : Inv X pins σ H s) (S : Sim X.K R F h H) {d : D} {v : V} {u : Value} {ds : List D} {as : List PyData} (e : seqv h d = some ds) (e2 : pyL ds = some as)
    (r : Rep X.K F d v) (rv : RelV v u) : ∃ a its bs, u = .ref a ∧ ReadsAll s.heap its.toList as bs ∧ ((s.heap.IsList a its ∧ ∃ bs', Reads s.heap u (.list as) bs') ∨ (s.heap.IsTuple a its ∧ ∃ bs', Reads s.heap u (.tuple as) bs')) := by
  obtain ⟨p, vs, rfl, q, rr⟩ := seq_at S r e
  cases rv
  rcases q with q | q
  · obtain ⟨its, rv, ⟨o, n, ho, hc, hz, hd⟩, _⟩ := I.list q
    obtain ⟨bs, hr⟩ := pyL_reads I S ds e2 rr rv
    exact ⟨p, its.toArray, bs, rfl, hr, .inl ⟨⟨o, ho, hc, n, hd⟩, _, .list ho hc hd hr⟩⟩
  · obtain ⟨its, rv, ⟨o, ho, hc, n, hd⟩, _⟩ := I.tuple q
    obtain ⟨bs, hr⟩ := pyL_reads I S ds e2 rr rv
    exact ⟨p, its.toArray, bs, rfl, hr, .inr ⟨⟨o, ho, hc, n, hd⟩, _, .tuple ho hc hd hr⟩⟩
theorem sgn_at {x y : D} {b : Bool} (h : sgnIn x y = some b) : ∃ (c : Nat) (t : Str), x = .str ⟨#[c]⟩ ∧ y = .str t ∧ b = decide (c ∈ t.cps.toList) := by
  unfold sgnIn at h
  split at h
  · rename_i s t
    split at h
    · rename_i c e
      refine ⟨c, t, ?_, rfl, by cases h; rfl⟩
      have : s.cps = #[c] := Array.toList_inj.mp e
      cases s; simp only at this; subst this; rfl
    · cases h
  · cases h
theorem in_ok (hu : X.A.units + 64 < cLine) : OpR X (compareOp .In) (LO X.K (cmpW .In)) := by
  intro pins s σ H x y v u Q I rx ry ⟨R, F, h, dx, dy, Qd, S, r1, r2, hw, k⟩
  have key : ∀ kvs kk, dctv h dy = some kvs → keyOf dx = some kk → Qd (.bl (look kvs kk).isSome) h → wpAny (model X.prog X.w) X.A (compareOp .In v u) (EP X pins σ Q) X.xe s := by
    intro kvs kk e1 e2 q
    obtain ⟨p, kws, rfl, hp, rr⟩ := dct_at S r2 e1
    have ek := key_of r1 e2
    subst ek
    cases ry
    refine d_in (by omega) I (DGet.k hp) rx fun s' I' => ⟨.bl _, H, I', rfl, ?_⟩
    rcases look_rep rr kk with ⟨l1, l2⟩ | ⟨d, w, l1, l2, _⟩
    · rw [l1] at q; rw [l2]; exact k.b S q
    · rw [l1] at q; rw [l2]; exact k.b S q
  simp only [cmpW, inW] at hw
  split at hw
  · rename_i b hb
    unfold inData at hb
    split at hb
    · rename_i kvs ed
      split at hb
      · rename_i kk ek
        cases hb
        exact key kvs kk ed ek hw
      · cases hb
    · split at hb
      · rename_i ds es
        split at hb
        · rename_i a xs ea ex
          split at hb
          · rename_i hd
            cases hb
            obtain ⟨as, ra⟩ := pv_reads I S ea r1 rx
            obtain ⟨p, its, bs, rfl, _, hc⟩ := seq_reads I S es ex r2 ry
            have px := pyL_plain ds ex
            have pa := pv_plain ea
            have fin : EP X pins σ Q (.bool (xs.any fun z => PyData.eqv z a)) s := ⟨.bl _, H, I, rfl, k.b S hw⟩
            rcases hc with ⟨_, bs', rc⟩ | ⟨_, bs', rc⟩
            · exact PySem.SeqAt.in_list_data rc ra px pa (by omega) fin
            · exact PySem.SeqAt.in_tuple_data rc ra px pa (by omega) fin
          · cases hb
        · cases hb
      · obtain ⟨c, y1, rfl, rfl, rfl⟩ := sgn_at hb
        simp only [Rep] at r1 r2
        subst r1; subst r2
        exact op_in_sign pins s σ H _ _ v u Q I rx ry ⟨c, y1, rfl, rfl, k.b S hw⟩
  · exact hw.elim
theorem notIn_ok (hu : X.A.units + 64 < cLine) : OpR X (compareOp .NotIn) (LO X.K (cmpW .NotIn)) := by
  intro pins s σ H x y v u Q I rx ry ⟨R, F, h, dx, dy, Qd, S, r1, r2, hw, k⟩
  have key : ∀ kvs kk, dctv h dy = some kvs → keyOf dx = some kk → Qd (.bl (!(look kvs kk).isSome)) h → wpAny (model X.prog X.w) X.A (compareOp .NotIn v u) (EP X pins σ Q) X.xe s := by
    intro kvs kk e1 e2 q
    obtain ⟨p, kws, rfl, hp, rr⟩ := dct_at S r2 e1
    have ek := key_of r1 e2
    subst ek
    cases ry
    refine d_notIn (by omega) I (DGet.k hp) rx fun s' I' => ⟨.bl _, H, I', rfl, ?_⟩
    rcases look_rep rr kk with ⟨l1, l2⟩ | ⟨d, w, l1, l2, _⟩
    · rw [l1] at q; rw [l2]; exact k.b S q
    · rw [l1] at q; rw [l2]; exact k.b S q
  simp only [cmpW, inW] at hw
  split at hw
  · rename_i b hb
    unfold inData at hb
    split at hb
    · rename_i kvs ed
      split at hb
      · rename_i kk ek
        cases hb
        exact key kvs kk ed ek hw
      · cases hb
    · split at hb
      · rename_i ds es
        split at hb
        · rename_i a xs ea ex
          split at hb
          · rename_i hd
            cases hb
            obtain ⟨as, ra⟩ := pv_reads I S ea r1 rx
            obtain ⟨p, its, bs, rfl, _, hc⟩ := seq_reads I S es ex r2 ry
            have px := pyL_plain ds ex
            have pa := pv_plain ea
            have fin : EP X pins σ Q (.bool (!xs.any fun z => PyData.eqv z a)) s := ⟨.bl _, H, I, rfl, k.b S hw⟩
            rcases hc with ⟨_, bs', rc⟩ | ⟨_, bs', rc⟩
            · exact PySem.SeqAt.notIn_list_data rc ra px pa (by omega) fin
            · exact PySem.SeqAt.notIn_tuple_data rc ra px pa (by omega) fin
          · cases hb
        · cases hb
      · obtain ⟨c, y1, rfl, rfl, rfl⟩ := sgn_at hb
        simp only [Rep] at r1 r2
        subst r1; subst r2
        exact op_notIn_sign pins s σ H _ _ v u Q I rx ry ⟨c, y1, rfl, rfl, k.b S hw⟩
  · exact hw.elim
theorem cmp_ok (hu : X.A.units + 64 < cLine) (op : CmpOp) : OpR X (compareOp op) (LO X.K (cmpW op)) := by
  cases op with
  | In => exact in_ok hu
  | NotIn => exact notIn_ok hu
  | Is =>
    intro pins s σ H x y v u Q I rx ry ⟨R, F, h, dx, dy, Qd, S, r1, r2, hw, k⟩
    simp only [cmpW, isW] at hw
    split at hw
    case h_2 => exact hw.elim
    simp only [Rep] at r2; subst r2
    exact op_isN pins s σ H _ _ v u Q I rx ry ⟨rfl, by rw [isNon_rep r1]; exact k.b S hw⟩
  | IsNot =>
    intro pins s σ H x y v u Q I rx ry ⟨R, F, h, dx, dy, Qd, S, r1, r2, hw, k⟩
    simp only [cmpW, isW] at hw
    split at hw
    case h_2 => exact hw.elim
    simp only [Rep] at r2; subst r2
    exact op_notN pins s σ H _ _ v u Q I rx ry ⟨rfl, by rw [isNon_rep r1]; exact k.b S hw⟩
  | Eq =>
    intro pins s σ H x y v u Q I rx ry ⟨R, F, h, dx, dy, Qd, S, r1, r2, hw, k⟩
    simp only [cmpW, eqW] at hw
    split at hw
    · rename_i a b ea eb
      obtain ⟨as, ra⟩ := pv_reads I S ea r1 rx
      obtain ⟨bs, rb⟩ := pv_reads I S eb r2 ry
      exact PySem.SeqAt.eq_plain ra rb (pv_plain ea) (pv_plain eb) (by omega) ⟨.bl _, H, I, rfl, k.b S hw.2⟩
    · exact hw.elim
  | NotEq =>
    intro pins s σ H x y v u Q I rx ry ⟨R, F, h, dx, dy, Qd, S, r1, r2, hw, k⟩
    simp only [cmpW, eqW] at hw
    split at hw
    · rename_i a b ea eb
      obtain ⟨as, ra⟩ := pv_reads I S ea r1 rx
      obtain ⟨bs, rb⟩ := pv_reads I S eb r2 ry
      exact PySem.SeqAt.ne_plain ra rb (pv_plain ea) (pv_plain eb) (by omega) ⟨.bl _, H, I, rfl, k.b S hw.2⟩
    · exact hw.elim
  | _ =>
    intro pins s σ H x y v u Q I rx ry ⟨R, F, h, dx, dy, Qd, S, r1, r2, hw, k⟩
    simp only [cmpW, ltW, leW, gtW, geW] at hw
    split at hw
    · rename_i i j
      simp only [Rep] at r1 r2; subst r1 r2
      first
        | exact op_lt pins s σ H _ _ v u Q I rx ry ⟨i, j, rfl, rfl, k.b S hw⟩
        | exact op_le pins s σ H _ _ v u Q I rx ry ⟨i, j, rfl, rfl, k.b S hw⟩
        | exact op_gt pins s σ H _ _ v u Q I rx ry ⟨i, j, rfl, rfl, k.b S hw⟩
        | exact op_ge pins s σ H _ _ v u Q I rx ry ⟨i, j, rfl, rfl, k.b S hw⟩
    · unfold ordW at hw
      split at hw
      · rename_i a b ea eb
        obtain ⟨as, ra⟩ := pv_reads I S ea r1 rx
        obtain ⟨bs, rb⟩ := pv_reads I S eb r2 ry
        obtain ⟨⟨al, nn, dp⟩, q⟩ := hw
        first
          | exact PySem.W.lt_data ra rb al nn (by omega) ⟨.bl _, H, I, rfl, k.b S q⟩
          | exact PySem.W.le_data ra rb al nn (by omega) ⟨.bl _, H, I, rfl, k.b S q⟩
          | exact PySem.W.gt_data ra rb al nn (by omega) ⟨.bl _, H, I, rfl, k.b S q⟩
          | exact PySem.W.ge_data ra rb al nn (by omega) ⟨.bl _, H, I, rfl, k.b S q⟩
      · exact hw.elim
end
end Lg

namespace Lg
open PySem PySem.Spec PyProof.Rows L2
/-- one value -/
def L1 (K : PySem.W.Frag) (w : D → LH → QD → Prop) : V → Hp → VK → Prop := fun x H Q => ∃ R F h dx Qd, Sim K R F h H ∧ Rep K F dx x ∧ w dx h Qd ∧ Kont K R F Qd Q
/-- a list of values -/
def LL (K : PySem.W.Frag) (w : List D → LH → QD → Prop) : List V → Hp → VK → Prop := fun xs H Q => ∃ R F h ds Qd, Sim K R F h H ∧ RepL K F ds xs ∧ w ds h Qd ∧ Kont K R F Qd Q
section
variable {X : Cx}
theorem ix_dict (hu : X.A.units + 64 < cLine) : IxR X (fun x y H Q => ∃ a kvs k v, x = .ref a ∧ y = kV k ∧ H a = some (.dK kvs) ∧ valV kvs k = some v ∧ Q v H) := by
  intro value slice pins s σ H x y v u Q I rx ry ⟨a, kvs, k, w, ex, ey, ha, hv, q⟩ hs
  subst ex ey
  cases rx
  have g : DGet H a (kV k) (some w) := by rw [← hv]; exact DGet.k ha
  exact tail_any (dict_typeIs I g) PySem.F.slot_dict_getitem.lookup (d_getItem (by omega) I g ry fun w' s' I' rw' => ⟨w, H, I', rw', q⟩) hs
theorem atI_rep {K : PySem.W.Frag} {F : Hp} {ds : List D} {vs : List V} {i : Int} {d : D} (r : RepL K F ds vs) (e : atI ds i = some d) : ∃ v, atI vs i = some v ∧ Rep K F d v := by
  unfold atI at e ⊢
  rw [← r.length]
  cases q : ixN ds.length i with
  | none => rw [q] at e; cases e
  | some j =>
    rw [q] at e
    exact r.get e
theorem opt_at {α : Type} {o : Option α} {f : α → Prop} (h : opt o f) : ∃ a, o = some a ∧ f a := by
  cases o with
  | none => exact h.elim
  | some a => exact ⟨a, rfl, h⟩
theorem intv_at {K : PySem.W.Frag} {F : Hp} {d : D} {v : V} {i : Int} (r : Rep K F d v) (e : intv d = some i) : v = .int i := by
  cases d <;> simp only [intv] at e <;> first | cases e | skip
  exact r
theorem strv_at {K : PySem.W.Frag} {F : Hp} {d : D} {v : V} {i : Str} (r : Rep K F d v) (e : strv d = some i) : v = .str i := by
  cases d <;> simp only [strv] at e <;> first | cases e | skip
  exact r
theorem tupv_at {d : D} {ds : List D} (e : tupv d = some ds) : d = .tup ds := by
  cases d <;> simp only [tupv] at e <;> first | cases e | skip
  rfl
theorem sub_ok (hu : X.A.units + 64 < cLine) : IxR X (LO X.K subW) := by
  intro value slice pins s σ H x y v u Q I rx ry ⟨R, F, h, dx, dy, Qd, S, r1, r2, hw, k⟩ hs
  unfold subW at hw
  split at hw
  · rename_i z ez
    obtain ⟨i, ei, hz, hw⟩ := opt_at hw
    obtain ⟨c, hc, hw⟩ := opt_at hw
    exact ix_str value slice pins s σ H _ _ v u Q I rx ry ⟨z, i, c, strv_at r1 ez, intv_at r2 ei, hz, hc, k.s S hw⟩ hs
  · split at hw
    · rename_i kvs ed
      obtain ⟨kk, ek, hw⟩ := opt_at hw
      obtain ⟨d, el, hw⟩ := opt_at hw
      obtain ⟨p, kws, ep, hp, rr⟩ := dct_at S r1 ed
      have ey := key_of r2 ek
      rcases look_rep rr kk with ⟨l1, _⟩ | ⟨d', w, l1, l2, rd⟩
      · rw [el] at l1; cases l1
      · rw [el] at l1; cases l1
        exact ix_dict hu value slice pins s σ H _ _ v u Q I rx ry ⟨p, kws, kk, w, ep, ey, hp, l2, k.here S rd hw⟩ hs
    · obtain ⟨ds, es, hw⟩ := opt_at hw
      obtain ⟨i, ei, hw⟩ := opt_at hw
      obtain ⟨d, ed, hw⟩ := opt_at hw
      obtain ⟨p, vs, ep, q, rr⟩ := seq_at S r1 es
      obtain ⟨w, ew, rw'⟩ := atI_rep rr ed
      rcases q with q | q
      · exact ix_list value slice pins s σ H _ _ v u Q I rx ry ⟨p, vs, i, w, ep, intv_at r2 ei, q, ew, k.here S rw' hw⟩ hs
      · exact ix_tup value slice pins s σ H _ _ v u Q I rx ry ⟨p, vs, i, w, ep, intv_at r2 ei, q, ew, k.here S rw' hw⟩ hs
theorem seqL_at {K : PySem.W.Frag} {R F : Hp} {h : LH} {H : Hp} {d : D} {v : V} {ds : List D} (S : Sim K R F h H) (r : Rep K F d v) (e : seqv h d = some ds) (n : tupv d = none) : ∃ p vs, v = .ref p ∧ SqL K H p vs ∧ RepL K F ds vs := by
  cases d with
  | tup xs => cases n
  | lst xs =>
    obtain ⟨p, vs, e1, q, rr⟩ := lst_at S r (show lstv h (.lst xs) = some ds from e)
    exact ⟨p, vs, e1, SqL.of q, rr⟩
  | frl xs =>
    simp only [seqv, Option.some.injEq] at e
    subst e
    simp only [Rep] at r
    obtain ⟨a, vs, e, q, r⟩ := r
    exact ⟨a, vs, e, sqL_mono S.fz q, r⟩
  | ref a =>
    obtain ⟨p, vs, e1, q, rr⟩ := lst_at S r (show lstv h (.ref a) = some ds from e)
    exact ⟨p, vs, e1, SqL.of q, rr⟩
  | _ => simp only [seqv] at e; cases e
theorem cut_rep {K : PySem.W.Frag} {F : Hp} {ds : List D} {vs : List V} (r : RepL K F ds vs) (lo hi : Option Int) : RepL K F (cutD ds lo hi) (cutV vs lo hi) := by
  unfold cutD cutV
  rw [r.length]
  exact (r.drop _).take _
theorem slice_ok : SlR X (fun x lo hi H Q => L1 X.K (fun d h q => sliceW d lo hi h q) x H Q) := by
  intro pins s σ H x v vl vu lo hi sl Q I rx hs pl pu ⟨R, F, h, dx, Qd, S, r1, hw, k⟩
  simp only [sliceW] at hw
  split at hw
  · rename_i ds et
    have et := tupv_at et
    subst et
    obtain ⟨p, vs, ep, q, rr⟩ := tup_at S r1
    refine sl_tupN pins s σ H x v vl vu lo hi sl Q I rx hs pl pu ⟨p, vs, ep, q, fun e => ?_, fun _ => k.newT S (cut_rep rr lo hi) hw⟩
    have ec : cutD ds lo hi = ds := by
      unfold cutD
      rw [rr.length, e.1, e.2, List.drop_zero, Nat.sub_zero]
      exact List.take_of_length_le (by rw [rr.length]; exact Nat.le_refl _)
    rw [ec] at hw
    rw [← ep]
    exact k.here S r1 hw
  · rename_i et
    obtain ⟨ds, es, hw⟩ := opt_at hw
    obtain ⟨p, vs, ep, q, rr⟩ := seqL_at S r1 es et
    exact sl_list pins s σ H x v vl vu lo hi sl Q I rx hs pl pu ⟨p, vs, ep, q, k.newL S (cut_rep rr lo hi) hw⟩
theorem isa_ty {R F : Hp} {h : LH} {H : Hp} {d : D} {v : V} {T : String} {b : Bool} (S : Sim X.K R F h H) (r : Rep X.K F d v) (e : isaD h d T = some b) : ∃ t, TyX X.K H v (.type t) ∧ kitB t T = some b := by
  cases d <;> simp only [isaD] at e
  · simp only [Rep] at r; subst r; exact ⟨_, .base .non, e⟩
  · simp only [Rep] at r; subst r; exact ⟨_, .base (.bl _), e⟩
  · simp only [Rep] at r; subst r; exact ⟨_, .base (.int _), e⟩
  · simp only [Rep] at r; subst r; exact ⟨_, .base (.str _), e⟩
  · obtain ⟨p, vs, rfl, q, _⟩ := tup_at S r
    rcases q with (q | ⟨o, q⟩) | ⟨o, its, n, q, qc, _⟩
    · exact ⟨_, .base (.tup q), e⟩
    · exact ⟨_, .fTuple q, e⟩
    · exact ⟨_, .kTuple q qc, e⟩
  · simp only [Rep] at r
    obtain ⟨p, vs, rfl, q, _⟩ := r
    exact ⟨_, .base (.lst (S.fz _ _ q)), e⟩
  · simp only [Rep] at r
    obtain ⟨p, vs, rfl, q, _⟩ := r
    rcases sqL_mono S.fz q with (q | ⟨o, q⟩) | ⟨o, its, n, q, qc, _⟩
    · exact ⟨_, .base (.lst q), e⟩
    · exact ⟨_, .base (.frz q), e⟩
    · exact ⟨_, .kList q qc, e⟩
  · simp only [Rep] at r
    obtain ⟨p, vs, rfl, q, _⟩ := r
    exact ⟨_, .base (.dK (S.fz _ _ q)), e⟩
  · simp only [Rep] at r
    subst r
    split at e
    · rename_i ds hx
      obtain ⟨_, o, ho, vs, rfl, _⟩ := S.cl _ _ hx
      exact ⟨_, .base (.lst ho), e⟩
    · rename_i ds hx
      obtain ⟨_, o, ho, vs, rfl, _⟩ := S.cl _ _ hx
      exact ⟨_, .base (.dK ho), e⟩
    · cases e
  · cases e
  · cases e
theorem isa_ok (T : String) : CallR X (.builtin "isinstance") (fun xs H Q => ∃ x, xs = [x, .ty T] ∧ L1 X.K (fun d h q => ∃ b, isaD h d T = some b ∧ q (.bl b) h) x H Q) := by
  intro pins s σ H xs us Q I r ⟨x, ex, R, F, h, dx, Qd, S, r1, ⟨b, eb, q⟩, k⟩
  subst ex
  obtain ⟨t, ty, kb⟩ := isa_ty S r1 eb
  exact call_isi pins s σ H _ us Q I r ⟨x, .ty T, .type t, .type T, b, rfl, .ty T, ty, kit_ty kb, k.b S q⟩
theorem truth_tru {R F : Hp} {h : LH} {H : Hp} {d : D} {v : V} {b : Bool} (S : Sim X.K R F h H) (r : Rep X.K F d v) (e : truth h d = some b) : TruV X.K v H b := by
  have em : ∀ {ds : List D} {vs : List V}, RepL X.K F ds vs → (!ds.isEmpty) = !vs.isEmpty := fun {ds vs} rr => by
    have := rr.length
    cases ds <;> cases vs <;> simp_all
  cases d <;> simp only [truth] at e
  · simp only [Rep] at r; subst r; simpa [TruV] using e.symm
  · simp only [Rep] at r; subst r; simpa [TruV] using e.symm
  · simp only [Rep] at r; subst r; simpa [TruV] using e.symm
  · rename_i x
    simp only [Rep] at r; subst r
    split at e
    · rename_i hz
      cases e
      refine ⟨hz, ?_⟩
      by_cases z : x.length = 0
      · simp [z]
      · have : ((x.length : Int) != 0) = true := by simp; omega
        rw [this]; simp [z]
    · cases e
  · obtain ⟨p, vs, rfl, q, rr⟩ := tup_at S r
    cases e
    exact .inr (.inl ⟨vs, q, em rr⟩)
  · simp only [Rep] at r
    obtain ⟨p, vs, rfl, q, rr⟩ := r
    cases e
    exact .inl ⟨vs, SqL.of (S.fz _ _ q), em rr⟩
  · simp only [Rep] at r
    obtain ⟨p, vs, rfl, q, rr⟩ := r
    cases e
    exact .inl ⟨vs, sqL_mono S.fz q, em rr⟩
  · simp only [Rep] at r
    obtain ⟨p, vs, rfl, q, rr⟩ := r
    cases e
    refine .inr (.inr ⟨vs, S.fz _ _ q, ?_⟩)
    have := repKV_len rr
    rename_i kvs
    cases kvs <;> cases vs <;> simp_all
  · simp only [Rep] at r
    subst r
    split at e
    · rename_i ds hx
      cases e
      obtain ⟨_, o, ho, vs, rfl, rr⟩ := S.cl _ _ hx
      exact .inl ⟨vs, SqL.of ho, em rr⟩
    · rename_i ds hx
      cases e
      obtain ⟨_, o, ho, vs, rfl, rr⟩ := S.cl _ _ hx
      refine .inr (.inr ⟨vs, ho, ?_⟩)
      have := repKV_len rr
      cases ds <;> cases vs <;> simp_all
    · cases e
  · cases e
  · cases e
end
end Lg

namespace Lg
open PySem PySem.Spec PyProof.Rows L2
section
variable {X : Cx}
theorem pyL_map : ∀ {ds : List D} {as : List PyData}, pyL ds = some as → as = ds.map pyD
  | [], _, e => by simp only [pyL, Option.some.injEq] at e; subst e; rfl
  | d :: ds, _, e => by
    simp only [pyL] at e
    split at e
    · rename_i x xs e1 e2
      cases e
      rw [List.map_cons, ← pyL_map e2]
      simp [pyD, e1]
    · cases e
theorem pyL_at : ∀ {ds : List D} {as : List PyData}, pyL ds = some as → ∀ d ∈ ds, D.py d = some (pyD d)
  | [], _, _, d, h => by cases h
  | d' :: ds, _, e, d, h => by
    simp only [pyL] at e
    split at e
    · rename_i x xs e1 e2
      rcases List.mem_cons.mp h with rfl | h
      · rw [e1]; simp [pyD, e1]
      · exact pyL_at e2 d h
    · cases e
theorem depthAll_mem : ∀ {as : List PyData} {a : PyData}, a ∈ as → a.depth ≤ PyData.depthAll as
  | b :: as, a, h => by
    simp only [PyData.depthAll]
    rcases List.mem_cons.mp h with rfl | h
    · exact Nat.le_max_left _ _
    · exact Nat.le_trans (depthAll_mem h) (Nat.le_max_right _ _)
/-- each item of a list as a datum -/
theorem each_of {pins : List (Addr × Obj)} {σ : L2.St} {R F : Hp} {h : LH} {H : Hp} {s : Shared} (I : Inv X pins σ H s) (S : Sim X.K R F h H) : ∀ {ds : List D} {vs : List V} {us : List Value} {as : List PyData}, pyL ds = some as → RepL X.K F ds vs → Vals vs us →
    PySem.W.EachIs (fun u d => (∃ v, RelV v u ∧ Rep X.K F d v) ∧ ∃ bs, Reads s.heap u (pyD d) bs) us ds
  | [], _, _, _, _, r, rv => by
    simp only [RepL] at r; subst r; cases rv; exact .nil
  | d :: ds, _, _, _, e, r, rv => by
    have e0 := pyL_at e d List.mem_cons_self
    simp only [pyL] at e
    split at e
    · rename_i x xs e1 e2
      simp only [RepL] at r
      obtain ⟨v, r', rfl, r1, r2⟩ := r
      cases rv with
      | cons rv1 rv2 =>
        exact .cons ⟨⟨v, rv1, r1⟩, py_reads I S d e0 r1 rv1⟩ (each_of I S e2 r2 rv2)
    · cases e
theorem each_rep {K : PySem.W.Frag} {F : Hp} : ∀ {us : List Value} {ds : List D}, PySem.W.EachIs (fun u d => ∃ v, RelV v u ∧ Rep K F d v) us ds → ∃ vs, Vals vs us ∧ RepL K F ds vs
  | _, _, .nil => ⟨[], .nil, by simp [RepL]⟩
  | _, _, .cons ⟨v, r1, r2⟩ t => by
    obtain ⟨vs, h1, h2⟩ := each_rep t
    exact ⟨v :: vs, .cons r1 h1, by simp only [RepL]; exact ⟨v, vs, rfl, r2, h2⟩⟩
theorem ints_rep {K : PySem.W.Frag} {F : Hp} : ∀ {ds : List D} {is : List Int} {vs : List V}, allInt ds = some is → RepL K F ds vs → vs = is.map V.int
  | [], _, _, e, r => by simp only [allInt, Option.some.injEq] at e; subst e; simp only [RepL] at r; subst r; rfl
  | d :: ds, _, _, e, r => by
    cases d <;> simp only [allInt] at e <;> first | cases e | skip
    simp only [Option.map_eq_some_iff] at e
    obtain ⟨js, e, rfl⟩ := e
    simp only [RepL, Rep] at r
    obtain ⟨v, r', rfl, rfl, r2⟩ := r
    rw [ints_rep e r2]; rfl
theorem bls_rep {K : PySem.W.Frag} {F : Hp} : ∀ {ds : List D} {is : List Bool} {vs : List V}, allBl ds = some is → RepL K F ds vs → vs = is.map V.bl
  | [], _, _, e, r => by simp only [allBl, Option.some.injEq] at e; subst e; simp only [RepL] at r; subst r; rfl
  | d :: ds, _, _, e, r => by
    cases d <;> simp only [allBl] at e <;> first | cases e | skip
    simp only [Option.map_eq_some_iff] at e
    obtain ⟨js, e, rfl⟩ := e
    simp only [RepL, Rep] at r
    obtain ⟨v, r', rfl, rfl, r2⟩ := r
    rw [bls_rep e r2]; rfl
theorem one_at {vs : List D} {f : D → Prop} (h : one vs f) : ∃ x, vs = [x] ∧ f x := by
  unfold one at h
  split at h
  · exact ⟨_, rfl, h⟩
  · exact h.elim
theorem two_at {vs : List D} {f : D → D → Prop} (h : two vs f) : ∃ x y, vs = [x, y] ∧ f x y := by
  unfold two at h
  split at h
  · exact ⟨_, _, rfl, h⟩
  · exact h.elim
theorem repL1 {K : PySem.W.Frag} {F : Hp} {d : D} {vs : List V} (r : RepL K F [d] vs) : ∃ v, vs = [v] ∧ Rep K F d v := by
  simp only [RepL] at r
  obtain ⟨v, r', rfl, r1, rfl⟩ := r
  exact ⟨v, rfl, r1⟩
theorem repL2 {K : PySem.W.Frag} {F : Hp} {d e : D} {vs : List V} (r : RepL K F [d, e] vs) : ∃ v w, vs = [v, w] ∧ Rep K F d v ∧ Rep K F e w := by
  simp only [RepL] at r
  obtain ⟨v, r', rfl, r1, w, r2, rfl, r3, rfl⟩ := r
  exact ⟨v, w, rfl, r1, r3⟩
def B.val : B → Value
  | .len => .builtin "len" | .abs => .builtin "abs" | .int => .type "int" | .str => .type "str" | .repr => .builtin "repr" | .min => .builtin "min" | .max => .builtin "max" | .sum => .builtin "sum" | .any => .builtin "any"
  | .all => .builtin "all" | .sorted => .builtin "sorted" | .tuple => .type "tuple" | .list => .type "list" | .divmod => .builtin "divmod" | .dict => .type "dict"

theorem len_dK : CallR X (.builtin "len") (fun xs H Q => ∃ p kvs, xs = [.ref p] ∧ H p = some (.dK kvs) ∧ Q (.int kvs.length) H) := by
  intro pins s σ H xs us Q I r ⟨p, kvs, ex, hp, q⟩
  subst ex
  obtain ⟨u, rfl, rx⟩ := vals1 r
  cases rx
  exact d_len I (.inl hp) fun t s' I' => ⟨.int kvs.length, H, I', ⟨t, rfl⟩, q⟩
theorem len_ok : CallR X (.builtin "len") (LL X.K (bltW .len)) := by
  intro pins s σ H xs us Q I r ⟨R, F, h, ds, Qd, S, rr, hw, k⟩
  simp only [bltW] at hw
  obtain ⟨x, rfl, hw⟩ := one_at hw
  obtain ⟨n, en, hw⟩ := opt_at hw
  obtain ⟨v, rfl, r1⟩ := repL1 rr
  unfold lenD at en
  split at en
  · rename_i z
    split at en
    · rename_i hz
      cases en
      simp only [Rep] at r1; subst r1
      exact call_len_str pins s σ H _ us Q I r ⟨_, rfl, hz, k.i S hw⟩
    · cases en
  · split at en
    · rename_i kvs ed
      cases en
      obtain ⟨p, kws, rfl, hp, rk⟩ := dct_at S r1 ed
      rw [repKV_len rk] at hw
      exact len_dK pins s σ H _ us Q I r ⟨p, kws, rfl, hp, k.i S hw⟩
    · simp only [Option.map_eq_some_iff] at en
      obtain ⟨ds, es, rfl⟩ := en
      obtain ⟨p, vs, rfl, q, rl⟩ := seq_at S r1 es
      rw [rl.length] at hw
      exact call_len_seq pins s σ H _ us Q I r ⟨p, vs, rfl, q, k.i S hw⟩
theorem sum_tup (hc : X.calm = true) : CallR X (.builtin "sum") (fun xs H Q => ∃ (a : Addr) (ns : List Int), xs = [V.ref a] ∧ SqT X.K H a (ns.map V.int) ∧ Q (.int ns.sum) H) := by
  intro pins s σ H xs us Q I r ⟨a, ns, ex, hq, q⟩
  subst ex
  rw [Vals.ref1 r]
  obtain ⟨its, rv, ht, _⟩ := I.tuple hq
  have hi := rv.ints
  obtain ⟨xs, hx⟩ := hi.allInts.items
  have hn : numsOf its.toArray.toList = ns := by rw [show its.toArray.toList = its from rfl, hi.numsOf]
  rw [hx] at ht hn
  rw [nums_intItems] at hn
  refine PySem.W.ktm_sumG (I.ok.hd hc) ht fun h' tk t' hk => ?_
  rw [preSum_eq, List.take_of_length_le (by simp), hn]
  exact ⟨.int _, H, I.kept hk, ⟨t', rfl⟩, q⟩
theorem sum_ok (hc : X.calm = true) : CallR X (.builtin "sum") (LL X.K (bltW .sum)) := by
  intro pins s σ H xs us Q I r ⟨R, F, h, ds, Qd, S, rr, hw, k⟩
  simp only [bltW] at hw
  obtain ⟨x, rfl, hw⟩ := one_at hw
  obtain ⟨ds, es, hw⟩ := opt_at hw
  obtain ⟨is, ei, hw⟩ := opt_at hw
  obtain ⟨v, rfl, r1⟩ := repL1 rr
  obtain ⟨p, vs, rfl, q, rl⟩ := seq_at S r1 es
  have ev := ints_rep ei rl
  subst ev
  rcases q with q | q
  · exact cr_sum hc pins s σ H _ us Q I r ⟨p, is, rfl, q, k.i S hw⟩
  · exact sum_tup hc pins s σ H _ us Q I r ⟨p, is, rfl, q, k.i S hw⟩
theorem any_ok (hc : X.calm = true) : CallR X (.builtin "any") (LL X.K (bltW .any)) := by
  intro pins s σ H xs us Q I r ⟨R, F, h, ds, Qd, S, rr, hw, k⟩
  simp only [bltW] at hw
  obtain ⟨x, rfl, hw⟩ := one_at hw
  obtain ⟨ds, es, hw⟩ := opt_at hw
  obtain ⟨is, ei, hw⟩ := opt_at hw
  obtain ⟨v, rfl, r1⟩ := repL1 rr
  obtain ⟨p, vs, rfl, q, rl⟩ := lst_at S r1 es
  have ev := bls_rep ei rl
  subst ev
  exact cr_any hc pins s σ H _ us Q I r ⟨p, is, rfl, SqL.of q, k.b S hw⟩
theorem all_ok (hc : X.calm = true) : CallR X (.builtin "all") (LL X.K (bltW .all)) := by
  intro pins s σ H xs us Q I r ⟨R, F, h, ds, Qd, S, rr, hw, k⟩
  simp only [bltW] at hw
  obtain ⟨x, rfl, hw⟩ := one_at hw
  obtain ⟨ds, es, hw⟩ := opt_at hw
  obtain ⟨is, ei, hw⟩ := opt_at hw
  obtain ⟨v, rfl, r1⟩ := repL1 rr
  obtain ⟨p, vs, rfl, q, rl⟩ := lst_at S r1 es
  have ev := bls_rep ei rl
  subst ev
  exact cr_all hc pins s σ H _ us Q I r ⟨p, is, rfl, SqL.of q, k.b S hw⟩
theorem abs_ok : CallR X (.builtin "abs") (LL X.K (bltW .abs)) := by
  intro pins s σ H xs us Q I r ⟨R, F, h, ds, Qd, S, rr, hw, k⟩
  simp only [bltW] at hw
  obtain ⟨x, rfl, hw⟩ := one_at hw
  obtain ⟨i, ei, hw⟩ := opt_at hw
  obtain ⟨v, rfl, r1⟩ := repL1 rr
  rw [intv_at r1 ei] at r
  exact call_abs pins s σ H _ us Q I r ⟨i, rfl, k.i S hw⟩
theorem int_ok : CallR X (.type "int") (LL X.K (bltW .int)) := by
  intro pins s σ H xs us Q I r ⟨R, F, h, ds, Qd, S, rr, hw, k⟩
  simp only [bltW] at hw
  obtain ⟨x, rfl, hw1⟩ := one_at hw
  clear hw
  obtain ⟨v, rfl, r1⟩ := repL1 rr
  have hw := hw1
  unfold intW at hw
  split at hw
  · simp only [Rep] at r1; subst r1
    exact call_int1 pins s σ H _ us Q I r (.inl ⟨_, rfl, k.i S hw⟩)
  · simp only [Rep] at r1; subst r1
    exact call_int1 pins s σ H _ us Q I r (.inr ⟨_, rfl, k.i S hw⟩)
  · exact hw.elim
theorem call_str_str : CallR X (.type "str") (fun xs H Q => ∃ a, xs = [.str a] ∧ Q (.str a) H) := by
  intro pins s σ H xs us Q I r ⟨a, ex, q⟩
  subst ex
  obtain ⟨u, rfl, t, rfl⟩ := vals1 r
  exact PySem.P.str_of_str ⟨.str a, H, I, ⟨t, rfl⟩, q⟩
theorem tuple_ok : CallR X (.type "tuple") (LL X.K (bltW .tuple)) := by
  intro pins s σ H xs us Q I r ⟨R, F, h, ds, Qd, S, rr, hw, k⟩
  simp only [bltW] at hw
  obtain ⟨x, rfl, hw⟩ := one_at hw
  obtain ⟨ds, es, hw⟩ := opt_at hw
  obtain ⟨v, rfl, r1⟩ := repL1 rr
  cases et : tupv x with
  | some ds' =>
    have et := tupv_at et
    subst et
    simp only [seqv, Option.some.injEq] at es
    subst es
    obtain ⟨p, vs, rfl, q, rl⟩ := tup_at S r1
    exact call_tupleN pins s σ H _ us Q I r ⟨p, vs, rfl, .inr ⟨q, k.here S r1 hw⟩⟩
  | none =>
    obtain ⟨p, vs, rfl, q, rl⟩ := seqL_at S r1 es et
    exact call_tupleN pins s σ H _ us Q I r ⟨p, vs, rfl, .inl ⟨q, k.newT S rl hw⟩⟩
theorem list_ok : CallR X (.type "list") (LL X.K (bltW .list)) := by
  intro pins s σ H xs us Q I r ⟨R, F, h, ds, Qd, S, rr, hw, k⟩
  simp only [bltW] at hw
  obtain ⟨x, rfl, hw⟩ := one_at hw
  obtain ⟨ds, es, hw⟩ := opt_at hw
  obtain ⟨v, rfl, r1⟩ := repL1 rr
  obtain ⟨p, vs, rfl, q, rl⟩ := seq_at S r1 es
  exact call_list_of pins s σ H _ us Q I r ⟨p, vs, rfl, q, k.newL S rl hw⟩
theorem divmod_ok : CallR X (.builtin "divmod") (LL X.K (bltW .divmod)) := by
  intro pins s σ H xs us Q I r ⟨R, F, h, ds, Qd, S, rr, hw, k⟩
  simp only [bltW] at hw
  obtain ⟨x, y, rfl, hw⟩ := two_at hw
  obtain ⟨i, ei, hw⟩ := opt_at hw
  obtain ⟨j, ej, hw⟩ := opt_at hw
  obtain ⟨v, w, rfl, r1, r2⟩ := repL2 rr
  rw [intv_at r1 ei, intv_at r2 ej] at r
  exact call_divmodN pins s σ H _ us Q I r ⟨i, j, rfl, hw.1, k.newT S (by simp only [RepL, Rep]; exact ⟨_, _, rfl, rfl, _, _, rfl, rfl, rfl⟩) hw.2⟩
theorem plain_nd (a : PyData) (pl : a.plain = true) : a.hasDict = false := by
  have key : (∀ a : PyData, a.plain = true → a.hasDict = false) ∧ True := ⟨fun a => by
    exact PyData.rec (motive_1 := fun a => a.plain = true → a.hasDict = false) (motive_2 := fun as => PyData.plainAll as = true → PyData.hasDictAll as = false) (motive_3 := fun _ => True) (motive_4 := fun _ => True)
      (fun _ => rfl) (fun _ _ => rfl) (fun _ _ => rfl) (fun _ _ => rfl) (fun xs ih h => ih h) (fun xs ih h => ih h) (fun _ _ h => by cases h) (fun _ => rfl)
      (fun x xs i1 i2 h => by
        have h' : x.plain = true ∧ PyData.plainAll xs = true := by simpa [PyData.plainAll] using h
        simp only [PyData.hasDictAll, i1 h'.1, i2 h'.2, Bool.or_false]) trivial (fun _ _ _ _ => trivial) (fun _ _ _ _ => trivial) a, trivial⟩
  exact key.1 a pl
theorem repr_ok (hg : X.A.guards = some []) (hu : X.A.units + 64 < cLine) : CallR X (.builtin "repr") (LL X.K (bltW .repr)) := by
  intro pins s σ H xs us Q I r ⟨R, F, h, ds, Qd, S, rr, hw, k⟩
  simp only [bltW] at hw
  obtain ⟨x, rfl, hw⟩ := one_at hw
  obtain ⟨a, ea, ⟨h1, h2, h3⟩, hw⟩ := opt_at hw
  obtain ⟨v, rfl, r1⟩ := repL1 rr
  obtain ⟨u, rfl, rx⟩ := vals1 r
  obtain ⟨as, ra⟩ := pv_reads I S ea r1 rx
  have pl := pv_plain ea
  have nd : a.hasDict = false := by
    have key : (∀ a : PyData, a.plain = true → a.hasDict = false) ∧ True := ⟨fun a => by
      exact PyData.rec (motive_1 := fun a => a.plain = true → a.hasDict = false) (motive_2 := fun as => PyData.plainAll as = true → PyData.hasDictAll as = false) (motive_3 := fun _ => True) (motive_4 := fun _ => True)
        (fun _ => rfl) (fun _ _ => rfl) (fun _ _ => rfl) (fun _ _ => rfl) (fun xs ih h => ih h) (fun xs ih h => ih h) (fun _ _ h => by cases h) (fun _ => rfl)
        (fun x xs i1 i2 h => by
          have h' : x.plain = true ∧ PyData.plainAll xs = true := by simpa [PyData.plainAll] using h
          simp only [PyData.hasDictAll, i1 h'.1, i2 h'.2, Bool.or_false]) trivial (fun _ _ _ _ => trivial) (fun _ _ _ _ => trivial) a, trivial⟩
    exact key.1 a pl
  cases ra with
  | none => exact PySem.P.repr_of_none ⟨.str _, H, I.tok _, ⟨_, rfl⟩, k.s S hw⟩
  | bool b => exact PySem.P.repr_of_bool ⟨.str _, H, I.tok _, ⟨_, rfl⟩, k.s S (by cases b <;> exact hw)⟩
  | int i t => exact PySem.P.repr_of_int (by simpa [PyData.showable] using h1) ⟨.str _, H, I.tok _, ⟨_, rfl⟩, k.s S hw⟩
  | str z t => exact PySem.P.repr_of_str ⟨.str _, H, I.tok _, ⟨_, rfl⟩, k.s S hw⟩ h2
  | list a1 a2 a3 a4 => exact repr_of_reads' (.list a1 a2 a3 a4) h1 (fun z => by rw [nd] at z; cases z) hg (by omega) (fun _ _ e => e) (fun h' u tk hk => ⟨.str _, H, I.kept hk, ⟨u, rfl⟩, k.s S hw⟩) h2
  | tuple a1 a2 a3 a4 => exact repr_of_reads' (.tuple a1 a2 a3 a4) h1 (fun z => by rw [nd] at z; cases z) hg (by omega) (fun _ _ e => e) (fun h' u tk hk => ⟨.str _, H, I.kept hk, ⟨u, rfl⟩, k.s S hw⟩) h2
  | dict a1 a2 a3 a4 a5 => exact absurd pl (by simp [PyData.plain])
theorem pv_scal {h : LH} {x : D} {a : PyData} (e : pv_ h x = some a) : (∀ i, a = .int i → x = .int i) ∧ ∀ s, a = .str s → x = .str s := by
  cases x with
  | int i => exact ⟨fun j q => (by subst q; cases e; rfl), fun j q => (by subst q; cases e)⟩
  | str i => exact ⟨fun j q => (by subst q; cases e), fun j q => (by subst q; cases e; rfl)⟩
  | non => cases e; exact ⟨nofun, nofun⟩
  | bl b => cases e; exact ⟨nofun, nofun⟩
  | tup ds =>
    have e : (pyL ds).map PyData.tuple = some a := e
    cases q : pyL ds with
    | none => rw [q] at e; cases e
    | some as => rw [q] at e; cases e; exact ⟨nofun, nofun⟩
  | lst ds =>
    have e : (pyL ds).map PyData.list = some a := e
    cases q : pyL ds with
    | none => rw [q] at e; cases e
    | some as => rw [q] at e; cases e; exact ⟨nofun, nofun⟩
  | ref b =>
    have e : (match h b with | some (.lst ds) => (pv1L h ds).map PyData.list | _ => none) = some a := e
    split at e
    · rename_i ds _
      cases q : pv1L h ds with
      | none => rw [q] at e; cases e
      | some as => rw [q] at e; cases e; exact ⟨nofun, nofun⟩
    · cases e
  | frl _ => cases e
  | dct _ => cases e
  | ins _ _ => cases e
  | bnd _ _ => cases e
theorem str_ok (hg : X.A.guards = some []) (hu : X.A.units + 64 < cLine) : CallR X (.type "str") (LL X.K (bltW .str)) := by
  intro pins s σ H xs us Q I r ⟨R, F, h, ds, Qd, S, rr, hw, k⟩
  simp only [bltW] at hw
  obtain ⟨x, rfl, hw1⟩ := one_at hw
  clear hw
  obtain ⟨v, rfl, r1⟩ := repL1 rr
  have hw := hw1
  unfold strW at hw
  split at hw
  · simp only [Rep] at r1; subst r1
    exact call_str_int pins s σ H _ us Q I r ⟨_, rfl, hw.1, k.s S hw.2⟩
  · simp only [Rep] at r1; subst r1
    exact call_str_str pins s σ H _ us Q I r ⟨_, rfl, k.s S hw⟩
  · rename_i ni ns
    obtain ⟨a, ea, ⟨h1, h2, h3⟩, hw⟩ := opt_at hw
    obtain ⟨u, rfl, rx⟩ := vals1 r
    obtain ⟨as, ra⟩ := pv_reads I S ea r1 rx
    have pl := pv_plain ea
    have nd : a.hasDict = false := plain_nd a pl
    cases ra with
    | none => exact PySem.P.str_of_none ⟨.str _, H, I.tok _, ⟨_, rfl⟩, k.s S hw⟩
    | bool b => exact PySem.P.str_of_bool ⟨.str _, H, I.tok _, ⟨_, rfl⟩, k.s S (by cases b <;> exact hw)⟩
    | int i t => exact (ni _ ((pv_scal ea).1 _ rfl)).elim
    | str z t => exact (ns _ ((pv_scal ea).2 _ rfl)).elim
    | list a1 a2 a3 a4 => exact str_of_reads (.list a1 a2 a3 a4) h1 (fun z => by rw [nd] at z; cases z) hg (by omega) (fun _ _ e => e) (fun h' u tk hk => ⟨.str _, H, I.kept hk, ⟨u, rfl⟩, k.s S hw⟩) h2
    | tuple a1 a2 a3 a4 => exact str_of_reads (.tuple a1 a2 a3 a4) h1 (fun z => by rw [nd] at z; cases z) hg (by omega) (fun _ _ e => e) (fun h' u tk hk => ⟨.str _, H, I.kept hk, ⟨u, rfl⟩, k.s S hw⟩) h2
    | dict a1 a2 a3 a4 a5 => exact absurd pl (by simp [PyData.plain])
theorem minBy_fold {f : D → PyData} : ∀ (ds : List D) (d : D), f (minBy f d ds) = PySem.W.minD (f d) (ds.map f) ∧ minBy f d ds ∈ d :: ds
  | [], d => ⟨rfl, List.mem_cons_self⟩
  | e :: ds, d => by
    unfold minBy PySem.W.minD
    simp only [List.foldl_cons, List.map_cons]
    by_cases hb : PySem.W.dataLt (f e) (f d) = true
    · rw [if_pos hb, if_pos hb]
      obtain ⟨h1, h2⟩ := minBy_fold (f := f) ds e
      exact ⟨h1, List.mem_cons_of_mem _ h2⟩
    · rw [if_neg hb, if_neg hb]
      obtain ⟨h1, h2⟩ := minBy_fold (f := f) ds d
      refine ⟨h1, ?_⟩
      rcases List.mem_cons.mp h2 with h2 | h2
      · unfold minBy at h2; rw [h2]; exact List.mem_cons_self
      · exact List.mem_cons_of_mem _ (List.mem_cons_of_mem _ h2)
theorem maxBy_fold {f : D → PyData} : ∀ (ds : List D) (d : D), f (maxBy f d ds) = PySem.W.maxD (f d) (ds.map f) ∧ maxBy f d ds ∈ d :: ds
  | [], d => ⟨rfl, List.mem_cons_self⟩
  | e :: ds, d => by
    unfold maxBy PySem.W.maxD
    simp only [List.foldl_cons, List.map_cons]
    by_cases hb : PySem.W.dataLt (f d) (f e) = true
    · rw [if_pos hb, if_pos hb]
      obtain ⟨h1, h2⟩ := maxBy_fold (f := f) ds e
      exact ⟨h1, List.mem_cons_of_mem _ h2⟩
    · rw [if_neg hb, if_neg hb]
      obtain ⟨h1, h2⟩ := maxBy_fold (f := f) ds d
      refine ⟨h1, ?_⟩
      rcases List.mem_cons.mp h2 with h2 | h2
      · unfold maxBy at h2; rw [h2]; exact List.mem_cons_self
      · exact List.mem_cons_of_mem _ (List.mem_cons_of_mem _ h2)
/-- the item that was picked, as a datum -/
theorem picked {pins : List (Addr × Obj)} {σ : L2.St} {R F : Hp} {h : LH} {H : Hp} {s : Shared} (I : Inv X pins σ H s) (S : Sim X.K R F h H) {ds : List D} {vs : List V} {its : List Value} {as : List PyData} (ep : pyL ds = some as) (rl : RepL X.K F ds vs) (rv : Vals vs its)
    {i : Nat} {v : Value} (hi : its[i]? = some v) {h' : Heap} (hk : ∀ b o, s.heap.get? b = some o → h'.get? b = some o) {d : D} (hd : d ∈ ds) {bs : List Addr} (hr : Reads h' v (pyD d) bs) : ∃ x, RelV x v ∧ Rep X.K F d x := by
  have hl := rv.length
  have hil : i < its.length := (List.getElem?_eq_some_iff.mp hi).1
  have hiv : i < vs.length := by rw [hl]; exact hil
  obtain ⟨u, e1, r1⟩ := rv.get (List.getElem?_eq_getElem hiv)
  rw [hi] at e1
  cases e1
  obtain ⟨d', ed, rd⟩ := rl.get' (List.getElem?_eq_getElem hiv)
  have p1 := pyL_at ep d' (List.mem_of_getElem? ed)
  have p2 := pyL_at ep d hd
  obtain ⟨cs, rr⟩ := py_reads I S d' p1 rd r1
  have e := PySem.SeqAt.plain_unique _ _ _ _ _ (py_plain d' p1) (PyProof.Rows.Reads.keeps hk rr) hr
  have : d' = d := by rw [← py_unpy d' p1, ← py_unpy d p2, e]
  subst this
  exact ⟨_, r1, rd⟩
theorem min_ok (hc : X.calm = true) (hu : X.A.units + 64 < cLine) : CallR X (.builtin "min") (LL X.K (bltW .min)) := by
  intro pins s σ H xs us Q I r ⟨R, F, h, ds, Qd, S, rr, hw, k⟩
  simp only [bltW, minW] at hw
  split at hw
  · rename_i x y
    obtain ⟨i, ei, hw⟩ := opt_at hw
    obtain ⟨j, ej, hw⟩ := opt_at hw
    obtain ⟨v, w, rfl, r1, r2⟩ := repL2 rr
    rw [intv_at r1 ei, intv_at r2 ej] at r
    exact call_min2 hc pins s σ H _ us Q I r ⟨i, j, rfl, k.i S hw⟩
  · obtain ⟨x, rfl, hw1⟩ := one_at hw
    clear hw
    obtain ⟨es, ee, hw⟩ := opt_at hw1
    obtain ⟨v, rfl, r1⟩ := repL1 rr
    obtain ⟨u, rfl, rx⟩ := vals1 r
    cases es with
    | nil => exact hw.elim
    | cons d ds =>
      obtain ⟨as, ep, ⟨al, dp⟩, q⟩ := opt_at hw
      obtain ⟨p, vs, ex, hq, rl⟩ := seq_at S r1 ee
      subst ex
      cases rx
      have ea := pyL_map ep
      subst ea
      obtain ⟨f1, f2⟩ := minBy_fold (f := pyD) ds d
      rcases hq with hq | hq
      · obtain ⟨its, rv, pl, hz⟩ := I.list hq
        obtain ⟨bs, hr⟩ := pyL_reads I S (d :: ds) ep rl rv
        refine PySem.W.min_list_data (I.ok.hd hc) pl.isList hr al (by rw [List.map_cons] at dp; omega) fun i v h' tk bs hi hr' hk => ?_
        rw [← f1] at hr'
        obtain ⟨x, rx, rd⟩ := picked I S ep rl rv (by simpa using hi) hk f2 hr'
        exact ⟨x, H, I.kept hk, rx, k.here S rd q⟩
      · obtain ⟨its, rv, pl, hz⟩ := I.tuple hq
        obtain ⟨bs, hr⟩ := pyL_reads I S (d :: ds) ep rl rv
        refine PySem.W.min_tuple_data (I.ok.hd hc) (show s.heap.IsTuple p its.toArray from pl) hr al (by rw [List.map_cons] at dp; omega) fun i v h' tk bs hi hr' hk => ?_
        rw [← f1] at hr'
        obtain ⟨x, rx, rd⟩ := picked I S ep rl rv (by simpa using hi) hk f2 hr'
        exact ⟨x, H, I.kept hk, rx, k.here S rd q⟩
theorem max_ok (hc : X.calm = true) (hu : X.A.units + 64 < cLine) : CallR X (.builtin "max") (LL X.K (bltW .max)) := by
  intro pins s σ H xs us Q I r ⟨R, F, h, ds, Qd, S, rr, hw, k⟩
  simp only [bltW, maxW] at hw
  split at hw
  · rename_i x y
    obtain ⟨i, ei, hw⟩ := opt_at hw
    obtain ⟨j, ej, hw⟩ := opt_at hw
    obtain ⟨v, w, rfl, r1, r2⟩ := repL2 rr
    rw [intv_at r1 ei, intv_at r2 ej] at r
    exact call_max2 hc pins s σ H _ us Q I r ⟨i, j, rfl, k.i S hw⟩
  · obtain ⟨x, rfl, hw1⟩ := one_at hw
    clear hw
    obtain ⟨es, ee, hw⟩ := opt_at hw1
    obtain ⟨v, rfl, r1⟩ := repL1 rr
    obtain ⟨u, rfl, rx⟩ := vals1 r
    cases es with
    | nil => exact hw.elim
    | cons d ds =>
      obtain ⟨as, ep, ⟨al, dp⟩, q⟩ := opt_at hw
      obtain ⟨p, vs, ex, hq, rl⟩ := seq_at S r1 ee
      subst ex
      cases rx
      have ea := pyL_map ep
      subst ea
      obtain ⟨f1, f2⟩ := maxBy_fold (f := pyD) ds d
      rcases hq with hq | hq
      · obtain ⟨its, rv, pl, hz⟩ := I.list hq
        obtain ⟨bs, hr⟩ := pyL_reads I S (d :: ds) ep rl rv
        refine PySem.W.max_list_data (I.ok.hd hc) pl.isList hr al (by rw [List.map_cons] at dp; omega) fun i v h' tk bs hi hr' hk => ?_
        rw [← f1] at hr'
        obtain ⟨x, rx, rd⟩ := picked I S ep rl rv (by simpa using hi) hk f2 hr'
        exact ⟨x, H, I.kept hk, rx, k.here S rd q⟩
      · obtain ⟨its, rv, pl, hz⟩ := I.tuple hq
        obtain ⟨bs, hr⟩ := pyL_reads I S (d :: ds) ep rl rv
        refine PySem.W.max_tuple_data (I.ok.hd hc) (show s.heap.IsTuple p its.toArray from pl) hr al (by rw [List.map_cons] at dp; omega) fun i v h' tk bs hi hr' hk => ?_
        rw [← f1] at hr'
        obtain ⟨x, rx, rd⟩ := picked I S ep rl rv (by simpa using hi) hk f2 hr'
        exact ⟨x, H, I.kept hk, rx, k.here S rd q⟩
theorem sorted_any {pins : List (Addr × Obj)} {σ : L2.St} {R F : Hp} {h : LH} {H : Hp} {s : Shared} {Q : VK} {ds : List D} {as : List PyData} {p : Addr} {vs : List V} (hu : X.A.units + 64 < cLine) (I : Inv X pins σ H s) (S : Sim X.K R F h H) (hq : SqL X.K H p vs ∨ SqT X.K H p vs)
    (rl : RepL X.K F ds vs) (ep : pyL ds = some as) (al : PySem.W.AllAlike as) (sk : PySem.W.Sortable as) (dp : PyData.depthAll as ≤ 60) (q : ∀ ws, RepL X.K F (ds.mergeSort (PySem.W.dataLe false pyD)) ws → ∀ p, H p = none → Q (.ref p) (upd H p (.lst ws))) :
    wpAny (model X.prog X.w) X.A (call (.builtin "sorted") [.ref p]) (EP X pins σ Q) X.xe s := by
  have ea := pyL_map ep
  have hd' : ∀ d, d ∈ ds → X.A.units + 2 + (pyD d).depth < cLine := fun d hd => by
    have := depthAll_mem (as := as) (a := pyD d) (by rw [ea]; exact List.mem_map_of_mem hd)
    omega
  rcases hq with hq | hq
  · obtain ⟨its, rv, pl, hz⟩ := I.list hq
    have ee := each_of I S ep rl rv
    rw [ea] at al sk
    refine PySem.W.sorted_data (bs := ds) (enc := pyD) pl.isList (ee.mono fun _ _ z => z.1) (ee.mono fun _ _ z => z.2) al sk (by rw [rl.length]; exact hz) hd' fun out hl eo => ?_
    obtain ⟨ws, r3, r4⟩ := each_rep eo
    obtain ⟨c, hcc⟩ := PyProof.Rows.sortedAll_at s.heap its out.toArray
    have hn : H (s.heap.objs.size + 1) = none := I.hok.fresh (Nat.le_succ _)
    have hlen : ws.length ≤ sizeLine := by rw [r3.length, hl, rl.length]; exact hz
    exact ⟨.ref _, _, I.laid (t' := s.toks) (o := .lst ws) (fun _ _ => PyProof.Rows.sortedAll_old) (Nat.le_succ _) ⟨hlen, out, c, r3, hcc⟩, rfl, q _ r4 _ hn⟩
  · obtain ⟨its, rv, pl, hz⟩ := I.tuple hq
    have ee := each_of I S ep rl rv
    rw [ea] at al sk
    refine sorted_tup_data (bs := ds) (enc := pyD) pl (ee.mono fun _ _ z => z.1) (ee.mono fun _ _ z => z.2) al sk (by rw [rl.length]; exact hz) hd' fun out h' hk hl eo => ?_
    obtain ⟨ws, r3, r4⟩ := each_rep eo
    obtain ⟨c, hcc⟩ := tupSorted_at h' its out
    have I1 : Inv X pins σ H { s with heap := h' } := I.kept (t' := s.toks) hk
    have hn : H h'.objs.size = none := I1.hok.fresh (Nat.le_refl _)
    have hlen : ws.length ≤ sizeLine := by rw [r3.length, hl, rl.length]; exact hz
    exact ⟨.ref _, _, I1.laid (t' := s.toks) (o := .lst ws) (fun _ _ z => tupSorted_old (fun _ _ q => q) z) (Nat.le_refl _) ⟨hlen, out, c, r3, hcc⟩, rfl, q _ r4 _ hn⟩
theorem sorted_rev {pins : List (Addr × Obj)} {σ : L2.St} {R F : Hp} {h : LH} {H : Hp} {s : Shared} {Q : VK} {ds : List D} {as : List PyData} {p : Addr} {vs : List V} (hu : X.A.units + 64 < cLine) (I : Inv X pins σ H s) (S : Sim X.K R F h H) (hq : SqL X.K H p vs)
    (rl : RepL X.K F ds vs) (ep : pyL ds = some as) (al : PySem.W.AllAlike as) (sk : PySem.W.Sortable as) (dp : PyData.depthAll as ≤ 60) (q : ∀ ws, RepL X.K F (ds.mergeSort (PySem.W.dataLe true pyD)) ws → ∀ p, H p = none → Q (.ref p) (upd H p (.lst ws))) :
    wpAny (model X.prog X.w) X.A (call (.builtin "sorted") [.ref p] [(Str.ofString "reverse", .bool true)]) (EP X pins σ Q) X.xe s := by
  have ea := pyL_map ep
  have hd' : ∀ d, d ∈ ds → X.A.units + 2 + (pyD d).depth < cLine := fun d hd => by
    have := depthAll_mem (as := as) (a := pyD d) (by rw [ea]; exact List.mem_map_of_mem hd)
    omega
  obtain ⟨its, rv, pl, hz⟩ := I.list hq
  have ee := each_of I S ep rl rv
  rw [ea] at al sk
  refine PySem.W.sorted_rev_data (bs := ds) (enc := pyD) pl.isList (ee.mono fun _ _ z => z.1) (ee.mono fun _ _ z => z.2) al sk (by rw [rl.length]; exact hz) hd' fun out hl eo => ?_
  obtain ⟨ws, r3, r4⟩ := each_rep eo
  obtain ⟨c, hcc⟩ := PyProof.Rows.sortedAll_at s.heap its out.toArray
  have hn : H (s.heap.objs.size + 1) = none := I.hok.fresh (Nat.le_succ _)
  have hlen : ws.length ≤ sizeLine := by rw [r3.length, hl, rl.length]; exact hz
  exact ⟨.ref _, _, I.laid (t' := s.toks) (o := .lst ws) (fun _ _ => PyProof.Rows.sortedAll_old) (Nat.le_succ _) ⟨hlen, out, c, r3, hcc⟩, rfl, q _ r4 _ hn⟩
theorem sorted_ok (hu : X.A.units + 64 < cLine) : CallR X (.builtin "sorted") (LL X.K (bltW .sorted)) := by
  intro pins s σ H xs us Q I r ⟨R, F, h, ds, Qd, S, rr, hw, k⟩
  simp only [bltW] at hw
  obtain ⟨x, rfl, hw⟩ := one_at hw
  obtain ⟨ds, es, hw⟩ := opt_at hw
  obtain ⟨as, ep, ⟨al, sk, dp⟩, q⟩ := opt_at hw
  obtain ⟨v, rfl, r1⟩ := repL1 rr
  obtain ⟨u, rfl, rx⟩ := vals1 r
  obtain ⟨p, vs, ex, hq, rl⟩ := seq_at S r1 es
  subst ex
  cases rx
  exact sorted_any hu I S hq rl ep al sk dp fun ws r4 => k.newL S r4 q
/-- all built-ins -/
theorem blt_ok (hc : X.calm = true) (hg : X.A.guards = some []) (hu : X.A.units + 64 < cLine) (b : B) : CallR X b.val (LL X.K (bltW b)) := by
  cases b with
  | len => exact len_ok
  | abs => exact abs_ok
  | int => exact int_ok
  | str => exact str_ok hg hu
  | repr => exact repr_ok hg hu
  | min => exact min_ok hc hu
  | max => exact max_ok hc hu
  | sum => exact sum_ok hc
  | any => exact any_ok hc
  | all => exact all_ok hc
  | sorted => exact sorted_ok hu
  | tuple => exact tuple_ok
  | list => exact list_ok
  | divmod => exact divmod_ok
  | dict => exact fun _ _ _ _ _ _ _ _ _ ⟨_, _, _, _, _, _, _, hw, _⟩ => (show False from hw).elim
end
end Lg

namespace Lg
open PySem PySem.Spec PyProof.Rows L2
/-! ### the words of the code -/
mutual
inductive E where
  | v (i : Nat) | k (d : D) | g (i : Nat)
  | bin (op : Operator) (a b : E)
  | binC (op : Operator) (a b : E)
  | neg (a : E)
  | cmp (op : CmpOp) (a b : E)
  | chn (o1 o2 : CmpOp) (a b c : E)
  | nt (a : E) | an (xs : Es) | or (xs : Es)
  | ife (t : T) (a b : E)
  | tup (xs : Es) | lst (xs : Es) | new (xs : Es) | newD
  | sub (a b : E)
  | slc (a : E) (lo hi : O)
  | rev (a : E)
  | blt (b : B) (xs : Es) | bltC (b : B) (xs : Es)
  | isa (a : E) (t : String)
  | call (f : Nat) (xs : Es)
  | meth (m : M) (o : E) (xs : Es)
  | lc (c : Bool) (own : List (Str × Nat)) (tg : Tg) (it : I) (ts : Ts) (x : E)
  | xf (i : Nat) (f : Str)
  | isx (i : Nat) (c : Nat)
  | dc (own : List (Str × Nat)) (tg : Tg) (it : I) (ts : Ts) (k v : E)
  | srv (c : Bool) (a : E)
  | fld (c : Nat) (o : E) (f : Str)
  | mcl (c : Nat) (m : Str) (i : Nat) (o : E) (xs : Es)
  | mst (c : Nat) (m : Str) (i n : Nat) (o : E) (xs : Es)
  | mk (c i : Nat) (xs : Es)
  | bm (c : Nat) (m : Str) (i : Nat) (o : E)
  | cv (is : List Nat) (f : E) (xs : Es)
inductive O where
  | no | ex (e : E)
inductive T where
  | e (a : E) | cmp (op : CmpOp) (a b : E) | chn (o1 o2 : CmpOp) (a b c : E) | nt (a : T) | an (xs : Ts) | or (xs : Ts) | ife (t a b : T)
inductive Es where
  | nil | cons (x : E) (r : Es)
inductive Ts where
  | nil | cons (x : T) (r : Ts)
inductive Tg where
  | nm (i : Nat) | tp (r : Tgs) | sb (o i : E)
inductive Tgs where
  | nil | cons (x : Tg) (r : Tgs)
inductive I where
  | sq (e : E) | r1 (a : E) | r2 (a b : E) | r3 (a b c : E) | en (e : E) | zp (a b : E)
end
mutual
inductive S where
  | set (t : Tg) (e : E)
  | par (is : List Nat) (xs : Es)
  | aug (i : Nat) (op : Operator) (e : E)
  | augS (o i : E) (op : Operator) (e : E)
  | setF (c : Nat) (o : E) (f : Str) (e : E)
  | ife (t : T) (a b : Ss)
  | ret (e : E) | retN
  | ex (e : E)
  | raise (c : Nat) (xs : Es)
  | for_ (tg : Tg) (it : I) (dead : List Nat) (b : Ss)
  | whil (t : T) (dead : List Nat) (b : Ss)
  | brk | cont | pass
  | try_ (b : Ss) (hs : Hs)
inductive Ss where
  | nil | cons (x : S) (r : Ss) | frz (i : Nat) (r : Ss) | wk (i : Nat) (r : Ss)
inductive Hs where
  | nil | cons (c : Nat) (i : Option Nat) (b : Ss) (r : Hs)
end
structure Exn where
  cls : Nat
  fs : List (Str × D)
abbrev EX := Exn → LH → Prop
abbrev EXS := Exn → Sl → LH → Prop
abbrev QB := Bool → LH → Prop
abbrev QS := Sl → LH → Prop
structure Prm where
  cf : Nat → List D → LH → QD → EX → Prop
  gc : Nat → Option D
  fl : Nat → Option (List Str)
  sb : Nat → Nat → Bool
  hot : Option (Addr × Exn) := none
  ca : Nat → Addr := fun _ => 0
  fa : Nat → Addr := fun _ => 0
def slot (ρ : Sl) (i : Nat) : Option D := match ρ[i]? with
  | some (some d) => some d
  | _ => none
/-- what may be forgotten at a return -/
def Wk (d : D) (h : LH) (d' : D) (h' : LH) : Prop := ∀ (K : PySem.W.Frag) (R F H : Hp) (v : V), Sim K R F h H → Rep K F d v → ∃ F', Same F F' ∧ Sim K R F' h' H ∧ Rep K F' d' v
/-- a bound method -/
def bndW (x : D) (k : Addr → D → Prop) : Prop := match x with
  | .bnd g y => k g y
  | _ => False
/-- the cell of an instance of the class at C -/
def insC (h : LH) (x : D) (C : Addr) (k : Addr → List (Str × D) → Prop) : Prop := match x with
  | .ref a => match h a with
    | some (.ins C' fs) => C' = C ∧ k a fs
    | _ => False
  | _ => False
def putFD (f : Str) (v : D) : List (Str × D) → List (Str × D)
  | [] => [(f, v)]
  | (g, x) :: r => if g = f then (g, v) :: r else (g, x) :: putFD f v r
def asB (d : D) (f : Bool → Prop) : Prop := match d with
  | .bl b => f b
  | _ => False
/-- a list just made: for good, or as a cell -/
def mk (c : Bool) (ds : List D) (h : LH) (Q : QD) : Prop := match c with
  | true => ∀ a, h a = none → Q (.ref a) (put h a (.lst ds))
  | false => Q (.lst ds) h
def binCW (op : Operator) (x y : D) (h : LH) (Q : QD) : Prop := match op with
  | .Add => opt (lstv h x) fun a => opt (lstv h y) fun b => a.length + b.length ≤ sizeLine ∧ mk true (a ++ b) h Q
  | .Mult => opt (lstv h x) fun a => opt (intv y) fun k => (-(2 ^ 63) ≤ k ∧ k < 2 ^ 63 ∧ a.length * k.toNat ≤ sizeLine) ∧ mk true (List.replicate k.toNat a).flatten h Q
  | _ => False
/-- pairs of a key and a value -/
def prsD : List D → Option (List (Key × D))
  | [] => some []
  | .tup [k, v] :: r => match keyOf k, prsD r with
    | some k, some kvs => some ((k, v) :: kvs)
    | _, _ => none
  | _ => none
def mergeD (kvs more : List (Key × D)) : List (Key × D) := more.foldl (fun acc kv => putD acc kv.1 kv.2) kvs
def bltCW (b : B) (vs : List D) (h : LH) (Q : QD) : Prop := match b with
  | .list => one vs fun x => opt (seqv h x) fun ds => mk true ds h Q
  | .sorted => one vs fun x => opt (seqv h x) fun ds => opt (pyL ds) fun as => (PySem.W.AllAlike as ∧ PySem.W.Sortable as ∧ PyData.depthAll as ≤ 60) ∧ mk true (ds.mergeSort (PySem.W.dataLe false pyD)) h Q
  | .dict => one vs fun x => opt (lstv h x) fun ds => opt (prsD ds) fun kvs => ∀ a, h a = none → Q (.ref a) (put h a (.dct (mergeD [] kvs)))
  | _ => False
/-- an object of the method's type -/
def methT (m : M) (x : D) (h : LH) : Prop := match m with
  | .append => (lstv h x).isSome = true
  | .pop => (lstv h x).isSome = true
  | .popi => (lstv h x).isSome = true
  | .index => (lstv h x).isSome = true
  | .count => (tupv x).isSome = true
  | .get1 => (dctv h x).isSome = true
  | .get2 => (dctv h x).isSome = true
def hotW (o : Option (Addr × Exn)) (d : D) (f : Str) (Q : D → Prop) : Prop := match o, d with
  | some (a, x), .ref b => a = b ∧ opt (x.fs.lookup f) Q
  | _, _ => False
def hotX (o : Option (Addr × Exn)) (d : D) (f : Exn → Prop) : Prop := match o, d with
  | some (a, x), .ref b => a = b ∧ f x
  | _, _ => False
/-- what a loop over d sees stays: d's items -/
def stay (d : D) (ds : List D) (h : LH) : Prop := match d with
  | .ref _ => seqv h d = some ds
  | _ => True
/-- the signs of a text -/
def chars (z : Str) : List D := z.cps.toList.map fun c => .str ⟨#[c]⟩
/-- what a loop walks over -/
def itv (h : LH) : D → Option (List D)
  | .str z => some (chars z)
  | d => seqv h d
def rngL (lo : Int) (n : Nat) : List D := (List.range n).map fun (i : Nat) => D.int (lo + i)
def rngC (lo c : Int) (n : Nat) : List D := (List.range n).map fun (i : Nat) => D.int (lo + i * c)
def enumL (ds : List D) : List D := ds.mapIdx fun i d => .tup [.int i, d]
def zipL (ds es : List D) : List D := List.zipWith (fun a b => .tup [a, b]) ds es
/-- a comprehension -/
def lcW (c : Bool) (its : List D) (g : LH → Prop) (h : LH) (Q : QD) (turn : D → LH → (Option D → LH → Prop) → Prop) : Prop :=
  ∃ J : Nat → List D → LH → Prop, its.length ≤ sizeLine ∧ J 0 [] h ∧ (∀ i d acc h, its[i]? = some d → J i acc h → g h ∧ turn d h fun o h2 => match o with
    | some y => J (i + 1) (acc ++ [y]) h2
    | none => J (i + 1) acc h2) ∧ ∀ acc h, J its.length acc h → g h ∧ mk c acc h Q
/-- a dict comprehension -/
def dcW (its : List D) (g : LH → Prop) (h : LH) (Q : QD) (turn : D → LH → (Option (D × D) → LH → Prop) → Prop) : Prop :=
  ∃ J : Nat → List (Key × D) → LH → Prop, its.length ≤ sizeLine ∧ J 0 [] h ∧ (∀ i d acc h, its[i]? = some d → J i acc h → g h ∧ turn d h fun o h2 => match o with
    | some (x, y) => opt (keyOf x) fun k => J (i + 1) (putD acc k y) h2
    | none => J (i + 1) acc h2) ∧ ∀ acc h, J its.length acc h → g h ∧ ∀ a, h a = none → Q (.ref a) (put h a (.dct acc))
def Tgs.len : Tgs → Nat
  | .nil => 0
  | .cons _ r => r.len + 1
mutual
def WE (P : Prm) (ed : EXS) : E → Sl → LH → QD → Prop
  | .v i, ρ, h, Q => opt (slot ρ i) fun d => Q d h
  | .k d, _, h, Q => Q d h
  | .g i, _, h, Q => opt (P.gc i) fun d => Q d h
  | .bin op a b, ρ, h, Q => WE P ed a ρ h fun x h1 => WE P ed b ρ h1 fun y h2 => binW op x y h2 Q
  | .binC op a b, ρ, h, Q => WE P ed a ρ h fun x h1 => WE P ed b ρ h1 fun y h2 => binCW op x y h2 Q
  | .neg a, ρ, h, Q => WE P ed a ρ h fun x h1 => opt (intv x) fun i => Q (.int (-i)) h1
  | .cmp op a b, ρ, h, Q => WE P ed a ρ h fun x h1 => WE P ed b ρ h1 fun y h2 => cmpW op x y h2 Q
  | .chn o1 o2 a b c, ρ, h, Q => WE P ed a ρ h fun x h1 => WE P ed b ρ h1 fun y h2 => cmpW o1 x y h2 fun r h3 => asB r fun t => if t = true then WE P ed c ρ h3 (fun z h4 => cmpW o2 y z h4 Q) else Q (.bl false) h3
  | .nt a, ρ, h, Q => WE P ed a ρ h fun x h1 => opt (truth h1 x) fun t => Q (.bl (!t)) h1
  | .an xs, ρ, h, Q => WAn P ed xs ρ h Q
  | .or xs, ρ, h, Q => WOr P ed xs ρ h Q
  | .ife t a b, ρ, h, Q => WT P ed t ρ h fun c h1 => if c = true then WE P ed a ρ h1 Q else WE P ed b ρ h1 Q
  | .tup xs, ρ, h, Q => WEs P ed xs ρ h fun ds h1 => Q (.tup ds) h1
  | .lst xs, ρ, h, Q => WEs P ed xs ρ h fun ds h1 => mk false ds h1 Q
  | .new xs, ρ, h, Q => WEs P ed xs ρ h fun ds h1 => mk true ds h1 Q
  | .newD, _, h, Q => ∀ a, h a = none → Q (.ref a) (put h a (.dct []))
  | .sub a b, ρ, h, Q => WE P ed a ρ h fun x h1 => WE P ed b ρ h1 fun y h2 => subW x y h2 Q
  | .slc a lo hi, ρ, h, Q => WE P ed a ρ h fun x h1 => WO P ed lo ρ h1 fun l h2 => WO P ed hi ρ h2 fun u h3 => sliceW x l u h3 Q
  | .rev a, ρ, h, Q => WE P ed a ρ h fun x h1 => revW x h1 Q
  | .blt b xs, ρ, h, Q => WEs P ed xs ρ h fun ds h1 => bltW b ds h1 Q
  | .bltC b xs, ρ, h, Q => WEs P ed xs ρ h fun ds h1 => bltCW b ds h1 Q
  | .isa a t, ρ, h, Q => WE P ed a ρ h fun x h1 => opt (isaD h1 x t) fun b => Q (.bl b) h1
  | .call f xs, ρ, h, Q => WEs P ed xs ρ h fun ds h1 => P.cf f ds h1 Q fun x h2 => ed x ρ h2
  | .meth m o xs, ρ, h, Q => WE P ed o ρ h fun x h1 => methT m x h1 ∧ WEs P ed xs ρ h1 fun ds h2 => methW m x ds h2 Q
  | .lc c own tg it ts x, ρ, h, Q => WI P ed it ρ h fun its g h1 => lcW c its g h1 Q fun d h2 K => WTg P (fun _ _ _ => False) tg d (wipeS ρ (own.map (·.2))) h2 fun ρ2 h3 =>
      WTs P (fun _ _ _ => False) ts ρ2 h3 fun b h4 => if b = true then WE P (fun _ _ _ => False) x ρ2 h4 fun y h5 => K (some y) h5 else K none h4
  | .xf i f, ρ, h, Q => opt (slot ρ i) fun d => hotW P.hot d f fun v => Q v h
  | .isx i c, ρ, h, Q => opt (slot ρ i) fun d => hotX P.hot d fun x => P.sb x.cls c = true ∧ Q (.bl true) h
  | .dc own tg it ts k v, ρ, h, Q => WI P ed it ρ h fun its g h1 => dcW its g h1 Q fun d h2 K => WTg P (fun _ _ _ => False) tg d (wipeS ρ (own.map (·.2))) h2 fun ρ2 h3 =>
      WTs P (fun _ _ _ => False) ts ρ2 h3 fun b h4 => if b = true then WE P (fun _ _ _ => False) k ρ2 h4 fun y h5 => WE P (fun _ _ _ => False) v ρ2 h5 fun z h6 => K (some (y, z)) h6 else K none h4
  | .srv c a, ρ, h, Q => WE P ed a ρ h fun x h1 => opt (lstv h1 x) fun ds => opt (pyL ds) fun as => (PySem.W.AllAlike as ∧ PySem.W.Sortable as ∧ PyData.depthAll as ≤ 60) ∧ mk c (ds.mergeSort (PySem.W.dataLe true pyD)) h1 Q
  | .fld c o f, ρ, h, Q => WE P ed o ρ h fun x h1 => opt (insv h1 x) fun y => y.1 = P.ca c ∧ opt (y.2.lookup f) fun v => Q v h1
  | .mcl c m i o xs, ρ, h, Q => WE P ed o ρ h fun x h1 => opt (insv h1 x) fun y => (y.1 = P.ca c ∧ y.2.lookup m = none) ∧ WEs P ed xs ρ h1 fun ds h2 => P.cf i (x :: ds) h2 Q fun e h3 => ed e ρ h3
  | .mst c m i n o xs, ρ, h, Q => WE P ed o ρ h fun x h1 => opt (insv h1 x) fun y => (y.1 = P.ca c ∧ y.2.lookup m = none) ∧ WEs P ed xs ρ h1 fun ds h2 => (n ≤ ds.length ∧ ds.length < sizeLine) ∧ P.cf i (x :: (ds.take n ++ [.tup (ds.drop n)])) h2 Q fun e h3 => ed e ρ h3
  | .mk c i xs, ρ, h, Q => WEs P ed xs ρ h fun ds h1 => ∀ a, h1 a = none → P.cf i (.ref a :: ds) (put h1 a (.ins (P.ca c) [])) (fun v h2 => v = .non ∧ Q (.ref a) h2) fun e h3 => ed e ρ h3
  | .bm c m i o, ρ, h, Q => WE P ed o ρ h fun x h1 => opt (insv h1 x) fun y => (y.1 = P.ca c ∧ y.2.lookup m = none) ∧ Q (.bnd (P.fa i) x) h1
  | .cv is f xs, ρ, h, Q => WE P ed f ρ h fun x h1 => bndW x fun g y => ∃ i, (i ∈ is ∧ P.fa i = g) ∧ WEs P ed xs ρ h1 fun ds h2 => P.cf i (y :: ds) h2 Q fun e h3 => ed e ρ h3
def WO (P : Prm) (ed : EXS) : O → Sl → LH → (Option Int → LH → Prop) → Prop
  | .no, _, h, Q => Q none h
  | .ex e, ρ, h, Q => WE P ed e ρ h fun x h1 => opt (intv x) fun i => Q (some i) h1
def WT (P : Prm) (ed : EXS) : T → Sl → LH → QB → Prop
  | .e a, ρ, h, Q => WE P ed a ρ h fun x h1 => opt (truth h1 x) fun t => Q t h1
  | .cmp op a b, ρ, h, Q => WE P ed a ρ h fun x h1 => WE P ed b ρ h1 fun y h2 => cmpW op x y h2 fun r h3 => asB r fun t => Q t h3
  | .chn o1 o2 a b c, ρ, h, Q => WE P ed a ρ h fun x h1 => WE P ed b ρ h1 fun y h2 => cmpW o1 x y h2 fun r h3 => asB r fun t => if t = true then WE P ed c ρ h3 (fun z h4 => cmpW o2 y z h4 fun r h5 => asB r fun t => Q t h5) else Q false h3
  | .nt a, ρ, h, Q => WT P ed a ρ h fun t h1 => Q (!t) h1
  | .an xs, ρ, h, Q => WTs P ed xs ρ h Q
  | .or xs, ρ, h, Q => WTo P ed xs ρ h Q
  | .ife t a b, ρ, h, Q => WT P ed t ρ h fun c h1 => if c = true then WT P ed a ρ h1 Q else WT P ed b ρ h1 Q
def WAn (P : Prm) (ed : EXS) : Es → Sl → LH → QD → Prop
  | .nil, _, _, _ => False
  | .cons x r, ρ, h, Q => WE P ed x ρ h fun d h1 => match r with
    | .nil => Q d h1
    | r => opt (truth h1 d) fun t => if t = true then WAn P ed r ρ h1 Q else Q d h1
def WOr (P : Prm) (ed : EXS) : Es → Sl → LH → QD → Prop
  | .nil, _, _, _ => False
  | .cons x r, ρ, h, Q => WE P ed x ρ h fun d h1 => match r with
    | .nil => Q d h1
    | r => opt (truth h1 d) fun t => if t = true then Q d h1 else WOr P ed r ρ h1 Q
def WTo (P : Prm) (ed : EXS) : Ts → Sl → LH → QB → Prop
  | .nil, _, h, Q => Q false h
  | .cons x r, ρ, h, Q => WT P ed x ρ h fun t h1 => if t = true then Q true h1 else WTo P ed r ρ h1 Q
def WEs (P : Prm) (ed : EXS) : Es → Sl → LH → QL → Prop
  | .nil, _, h, Q => Q [] h
  | .cons x r, ρ, h, Q => WE P ed x ρ h fun d h1 => WEs P ed r ρ h1 fun ds h2 => Q (d :: ds) h2
def WTs (P : Prm) (ed : EXS) : Ts → Sl → LH → QB → Prop
  | .nil, _, h, Q => Q true h
  | .cons x r, ρ, h, Q => WT P ed x ρ h fun t h1 => if t = true then WTs P ed r ρ h1 Q else Q false h1
def WTg (P : Prm) (ed : EXS) : Tg → D → Sl → LH → QS → Prop
  | .nm i, d, ρ, h, Q => Q (ρ.set i (some d)) h
  | .tp r, d, ρ, h, Q => opt (tupv d) fun ds => ds.length = r.len ∧ WTgs P ed r ds ρ h Q
  | .sb o i, d, ρ, h, Q => WE P ed o ρ h fun x h1 => WE P ed i ρ h1 fun y h2 => setW x y d h2 fun h3 => Q ρ h3
def WTgs (P : Prm) (ed : EXS) : Tgs → List D → Sl → LH → QS → Prop
  | .nil, ds, ρ, h, Q => ds = [] ∧ Q ρ h
  | .cons x r, ds, ρ, h, Q => match ds with
    | d :: ds => WTg P ed x d ρ h fun ρ1 h1 => WTgs P ed r ds ρ1 h1 Q
    | [] => False
def WI (P : Prm) (ed : EXS) : I → Sl → LH → (List D → (LH → Prop) → LH → Prop) → Prop
  | .sq e, ρ, h, Q => WE P ed e ρ h fun x h1 => opt (itv h1 x) fun ds => Q ds (stay x ds) h1
  | .r1 a, ρ, h, Q => WE P ed a ρ h fun x h1 => opt (intv x) fun j => (-(2 ^ 62) ≤ j ∧ j < 2 ^ 62) ∧ Q (rngL 0 j.toNat) (fun _ => True) h1
  | .r2 a b, ρ, h, Q => WE P ed a ρ h fun x h1 => WE P ed b ρ h1 fun y h2 => opt (intv x) fun i => opt (intv y) fun j => (-(2 ^ 62) ≤ i ∧ i < 2 ^ 62 ∧ -(2 ^ 62) ≤ j ∧ j < 2 ^ 62) ∧ Q (rngL i (j - i).toNat) (fun _ => True) h2
  | .r3 a b c, ρ, h, Q => WE P ed a ρ h fun x h1 => WE P ed b ρ h1 fun y h2 => WE P ed c ρ h2 fun z h3 => opt (intv x) fun i => opt (intv y) fun j => opt (intv z) fun k => ∃ n, RgC i j k n ∧ Q (rngC i k n) (fun _ => True) h3
  | .en e, ρ, h, Q => WE P ed e ρ h fun x h1 => opt (seqv h1 x) fun ds => Q (enumL ds) (stay x ds) h1
  | .zp a b, ρ, h, Q => WE P ed a ρ h fun x h1 => WE P ed b ρ h1 fun y h2 => opt (itv h2 x) fun ds => opt (itv h2 y) fun es => Q (zipL ds es) (fun h => stay x ds h ∧ stay y es h) h2
end
def setAll (ρ : Sl) : List Nat → List D → Sl
  | i :: is, d :: ds => setAll (ρ.set i (some d)) is ds
  | _, _ => ρ
structure LEnds where
  nx : QS
  rt : QD
  bk : QS := fun _ _ => False
  ct : QS := fun _ _ => False
def augW (op : Operator) (x y : D) (h : LH) (Q : QD) : Prop := match op with
  | .Add => match x, y with
    | .int i, .int j => Q (.int (i + j)) h
    | .str a, .str b => a.length + b.length ≤ sizeLine ∧ Q (.str (a ++ b)) h
    | .ref a, y => match h a with
      | some (.lst ds) => opt (lstv h y) fun es => ds.length + es.length ≤ sizeLine ∧ Q (.ref a) (put h a (.lst (ds ++ es)))
      | _ => False
    | _, _ => False
  | .Sub => ints2 x y fun i j => Q (.int (i - j)) h
  | .Mult => ints2 x y fun i j => CMul i j ∧ Q (.int (i * j)) h
  | .FloorDiv => ints2 x y fun i j => (0 < j ∧ j < 1073741824) ∧ Q (.int (i / j)) h
  | .Mod => ints2 x y fun i j => 0 < j ∧ Q (.int (i % j)) h
  | .RShift => ints2 x y fun i j => 0 ≤ j ∧ Q (.int (i / 2 ^ j.toNat)) h
  | _ => False
mutual
def WS (P : Prm) (ed : EXS) : S → LEnds → Sl → LH → Prop
  | .set t e, D, ρ, h => WE P ed e ρ h fun d h1 => WTg P ed t d ρ h1 D.nx
  | .par is xs, D, ρ, h => WEs P ed xs ρ h fun ds h1 => D.nx (setAll ρ is ds) h1
  | .aug i op e, D, ρ, h => opt (slot ρ i) fun x => WE P ed e ρ h fun y h1 => augW op x y h1 fun z h2 => D.nx (ρ.set i (some z)) h2
  | .augS o i op e, D, ρ, h => WE P ed o ρ h fun x h1 => WE P ed i ρ h1 fun y h2 => subW x y h2 fun z h3 => WE P ed e ρ h3 fun u h4 => augW op z u h4 fun w h5 => setW x y w h5 fun h6 => D.nx ρ h6
  | .ife t a b, D, ρ, h => WT P ed t ρ h fun c h1 => if c = true then WSs P ed a D ρ h1 else WSs P ed b D ρ h1
  | .ret e, D, ρ, h => WE P ed e ρ h D.rt
  | .retN, D, _, h => D.rt .non h
  | .ex e, D, ρ, h => WE P ed e ρ h fun _ h1 => D.nx ρ h1
  | .raise c xs, _, ρ, h => WEs P ed xs ρ h fun ds h1 => opt (P.fl c) fun fs => fs.length = ds.length ∧ ed ⟨c, (fs.zip ds).reverse⟩ ρ h1
  | .for_ tg it dead b, D, ρ, h => WI P ed it ρ h fun its g h1 => ∃ J : Nat → Sl → LH → Prop, J 0 (wipeS ρ dead) h1 ∧
      (∀ i d ρ h, its[i]? = some d → J i ρ h → g h ∧ WTg P ed tg d ρ h fun ρ2 h2 => WSs P ed b { D with nx := fun ρ h => J (i + 1) (wipeS ρ dead) h, ct := fun ρ h => J (i + 1) (wipeS ρ dead) h, bk := fun ρ h => D.nx (wipeS ρ dead) h } ρ2 h2) ∧
      ∀ ρ h, J its.length ρ h → g h ∧ D.nx ρ h
  | .whil t dead b, D, ρ, h => ∃ J : Nat → Sl → LH → Prop, (∃ m, J m (wipeS ρ dead) h) ∧ ∀ m ρ h, J m ρ h → WT P ed t ρ h fun c h1 =>
      if c = true then WSs P ed b { D with nx := fun ρ h => ∃ m', m' < m ∧ J m' (wipeS ρ dead) h, ct := fun ρ h => ∃ m', m' < m ∧ J m' (wipeS ρ dead) h, bk := fun ρ h => D.nx (wipeS ρ dead) h } ρ h1 else D.nx ρ h1
  | .brk, D, ρ, h => D.bk ρ h
  | .cont, D, ρ, h => D.ct ρ h
  | .pass, D, ρ, h => D.nx ρ h
  | .try_ b hs, D, ρ, h => WSs P (WHs P ed hs D) b D ρ h
  | .setF c o f e, D, ρ, h => WE P ed e ρ h fun v h1 => WE P ed o ρ h1 fun x h2 => insC h2 x (P.ca c) fun a fs => fs.length < 1000 ∧ D.nx ρ (put h2 a (.ins (P.ca c) (putFD f v fs)))
def WSs (P : Prm) (ed : EXS) : Ss → LEnds → Sl → LH → Prop
  | .nil, D, ρ, h => D.nx ρ h
  | .cons x r, D, ρ, h => WS P ed x { D with nx := fun ρ h => WSs P ed r D ρ h } ρ h
  | .frz i r, D, ρ, h => opt (slot ρ i) fun d => cellL h d fun a ds => WSs P ed r D (ρ.set i (some (.lst ds))) (rid h a)
  | .wk i r, D, ρ, h => opt (slot ρ i) fun d => ∃ d' h', Wk d h d' h' ∧ WSs P ed r D (ρ.set i (some d')) h'
def WHs (P : Prm) (ed : EXS) : Hs → LEnds → EXS
  | .nil, _, x, ρ, h => ed x ρ h
  | .cons c i b r, D, x, ρ, h => if P.sb x.cls c = true then (match i with
      | some i => ∀ a, h a = none → WSs { P with hot := some (a, x) } (fun _ _ _ => False) b { nx := fun ρ h => D.nx (ρ.set i none) h, rt := D.rt, bk := fun ρ h => D.bk (ρ.set i none) h, ct := fun ρ h => D.ct (ρ.set i none) h } (ρ.set i (some (.ref a))) h
      | none => WSs { P with hot := none } (fun _ _ _ => False) b D ρ h)
    else WHs P ed r D x ρ h
end
structure Fn where
  ps : Nat
  n : Nat
  body : Ss
def done (Q : QD) : QD := fun d h => ∃ d' h', Wk d h d' h' ∧ Q d' h'
def CF (P : Prm) (tb : Nat → Option Fn) : Nat → Nat → List D → LH → QD → EX → Prop
  | 0 => fun _ _ _ _ _ => False
  | n + 1 => fun f ds h Q e => opt (tb f) fun fn => ds.length = fn.ps ∧ WSs { P with cf := CF P tb n } (fun x _ h => ∃ h', Sub h' h ∧ e x h') fn.body { nx := fun _ h => done Q .non h, rt := done Q } (ds.map some ++ List.replicate (fn.n - fn.ps) none) h
theorem Wk.rfl' {d : D} {h : LH} : Wk d h d h := fun _ _ F _ _ S r => ⟨F, Same.refl F, S, r⟩
theorem Wk.sub {d : D} {h h' : LH} (s : Sub h' h) : Wk d h d h' := fun _ _ F _ _ S r => ⟨F, Same.refl F, S.sub s, r⟩
theorem Wk.trans {d d1 d2 : D} {h h1 h2 : LH} (a : Wk d h d1 h1) (b : Wk d1 h1 d2 h2) : Wk d h d2 h2 := fun K R F H v S r => by
  obtain ⟨F1, s1, S1, r1⟩ := a K R F H v S r
  obtain ⟨F2, s2, S2, r2⟩ := b K R F1 H v S1 r1
  exact ⟨F2, s1.trans s2, S2, r2⟩
theorem Wk.frz {a : Addr} {ds : List D} {h : LH} (e : h a = some (.lst ds)) : Wk (.ref a) h (.lst ds) (rid h a) := fun K R F H v S r => by
  obtain ⟨o, eH, nF, rc, S'⟩ := S.freeze e
  obtain ⟨vs, rfl, rr⟩ := rc
  simp only [Rep] at r
  subst r
  refine ⟨_, same_new nF, S', ?_⟩
  simp only [Rep]
  exact ⟨a, vs, rfl, upd_same, rr.mono (same_new nF)⟩
theorem Wk.frzD {a : Addr} {kvs : List (Key × D)} {h : LH} (e : h a = some (.dct kvs)) : Wk (.ref a) h (.dct kvs) (rid h a) := fun K R F H v S r => by
  obtain ⟨o, eH, nF, rc, S'⟩ := S.freeze e
  obtain ⟨vs, rfl, rr⟩ := rc
  simp only [Rep] at r
  subst r
  refine ⟨_, same_new nF, S', ?_⟩
  simp only [Rep]
  exact ⟨a, vs, rfl, upd_same, rr.mono (same_new nF)⟩
theorem Wk.frzI {a C : Addr} {fs : List (Str × D)} {h : LH} (e : h a = some (.ins C fs)) : Wk (.ref a) h (.ins C fs) (rid h a) := fun K R F H v S r => by
  obtain ⟨o, eH, nF, rc, S'⟩ := S.freeze e
  obtain ⟨dx, vs, rfl, rr⟩ := rc
  simp only [Rep] at r
  subst r
  refine ⟨_, same_new nF, S', ?_⟩
  simp only [Rep]
  exact ⟨a, dx, vs, rfl, upd_same, rr.mono (same_new nF)⟩
/-- a cell frozen that others hold -/
def thaw (a : Addr) (d : D) : List (Str × D) → List (Str × D)
  | [] => []
  | (f, .ref b) :: r => (f, if b = a then d else .ref b) :: thaw a d r
  | x :: r => x :: thaw a d r
theorem repFs_thaw {K : PySem.W.Frag} {F : Hp} {a : Addr} {d : D} (hd : Rep K F d (.ref a)) : ∀ {fs : List (Str × D)} {vs : List (Str × V)}, RepFs K F fs vs → RepFs K F (thaw a d fs) vs
  | [], _, h => h
  | (f, x) :: fs, _, h => by
    simp only [RepFs] at h
    obtain ⟨v, r, rfl, h1, h2⟩ := h
    have ih := repFs_thaw hd h2
    cases x with
    | ref b =>
      simp only [thaw, RepFs]
      refine ⟨v, r, rfl, ?_, ih⟩
      by_cases z : b = a
      · subst z
        simp only [Rep] at h1
        rw [if_pos rfl, h1]; exact hd
      · rw [if_neg z]; exact h1
    | _ => simp only [thaw, RepFs]; exact ⟨v, r, rfl, h1, ih⟩
/-- a dict that an instance holds is frozen -/
theorem Wk.fldD {a b C : Addr} {fs : List (Str × D)} {kvs : List (Key × D)} {h : LH} {d : D} (e : h a = some (.ins C fs)) (e2 : h b = some (.dct kvs)) : Wk d h d (put (rid h b) a (.ins C (thaw b (.dct kvs) fs))) := fun K R F H v S r => by
  obtain ⟨o, eH, nF, rc, S'⟩ := S.freeze e2
  obtain ⟨vs, rfl, rr⟩ := rc
  have ne : a ≠ b := fun z => by subst z; rw [e] at e2; cases e2
  have e3 : rid h b a = some (.ins C fs) := by unfold rid; rw [if_neg ne]; exact e
  obtain ⟨nA, oa, eA, dx, fs', rfl, rf⟩ := S'.cl a _ e3
  have hu : upd H a (.ins C dx fs') = H := by
    funext x; unfold upd; by_cases z : x = a
    · rw [if_pos z, z, eA]
    · rw [if_neg z]
  have W := S'.write (c := .ins C (thaw b (.dct kvs) fs)) (o := .ins C dx fs') e3 ⟨dx, fs', rfl, repFs_thaw (by simp only [Rep]; exact ⟨b, vs, rfl, upd_same, rr.mono (same_new nF)⟩) rf⟩
  rw [hu] at W
  exact ⟨_, same_new nF, W, r.mono (same_new nF)⟩
/-- a list that an instance holds is frozen -/
theorem Wk.fldL {a b C : Addr} {fs : List (Str × D)} {ds : List D} {h : LH} {d : D} (e : h a = some (.ins C fs)) (e2 : h b = some (.lst ds)) : Wk d h d (put (rid h b) a (.ins C (thaw b (.lst ds) fs))) := fun K R F H v S r => by
  obtain ⟨o, eH, nF, rc, S'⟩ := S.freeze e2
  obtain ⟨vs, rfl, rr⟩ := rc
  have ne : a ≠ b := fun z => by subst z; rw [e] at e2; cases e2
  have e3 : rid h b a = some (.ins C fs) := by unfold rid; rw [if_neg ne]; exact e
  obtain ⟨nA, oa, eA, dx, fs', rfl, rf⟩ := S'.cl a _ e3
  have hu : upd H a (.ins C dx fs') = H := by
    funext x; unfold upd; by_cases z : x = a
    · rw [if_pos z, z, eA]
    · rw [if_neg z]
  have W := S'.write (c := .ins C (thaw b (.lst ds) fs)) (o := .ins C dx fs') e3 ⟨dx, fs', rfl, repFs_thaw (by simp only [Rep]; exact ⟨b, vs, rfl, upd_same, rr.mono (same_new nF)⟩) rf⟩
  rw [hu] at W
  exact ⟨_, same_new nF, W, r.mono (same_new nF)⟩
end Lg

namespace Lg
open PySem PySem.Spec PyProof.Rows L2
section
variable {X : Cx}
theorem Kont.mk {K : PySem.W.Frag} {R F : Hp} {h : LH} {H : Hp} {Qd : QD} {Q : VK} (k : Kont K R F Qd Q) (S : Sim K R F h H) {c : Bool} {ds : List D} {vs : List V} (r : RepL K F ds vs) (q : mk c ds h Qd) : ∀ p, H p = none → Q (.ref p) (upd H p (.lst vs)) := by
  cases c with
  | true => exact k.newC S r q
  | false => exact k.newL S r q
theorem Kont.newK {K : PySem.W.Frag} {R F : Hp} {h : LH} {H : Hp} {Qd : QD} {Q : VK} (k : Kont K R F Qd Q) (S : Sim K R F h H) (q : ∀ a, h a = none → Qd (.ref a) (put h a (.dct []))) : ∀ p, H p = none → Q (.ref p) (upd H p (.dK [])) := fun p hp =>
  k F _ _ (.ref p) _ (Same.refl F) (S.cell (c := .dct []) hp ⟨[], rfl, by simp [RepKV]⟩) rfl (q p (S.free hp).2)
theorem binC_ok (op : Operator) : OpR X (binaryOp op) (LO X.K (binCW op)) := by
  cases op with
  | Add =>
    intro pins s σ H x y v u Q I rx ry ⟨R, F, h, dx, dy, Qd, S, r1, r2, hw, k⟩
    simp only [binCW] at hw
    obtain ⟨a, ea, hw⟩ := opt_at hw
    obtain ⟨b, eb, hw⟩ := opt_at hw
    obtain ⟨p, vs, e1, q1, rr1⟩ := lst_at S r1 ea
    obtain ⟨p', ws, e2, q2, rr2⟩ := lst_at S r2 eb
    have l1 := rr1.length
    have l2 := rr2.length
    exact op_cat pins s σ H _ _ v u Q I rx ry ⟨p, p', vs, ws, e1, e2, q1, q2, by omega, k.mk S (rr1.append rr2) hw.2⟩
  | Mult =>
    intro pins s σ H x y v u Q I rx ry ⟨R, F, h, dx, dy, Qd, S, r1, r2, hw, k⟩
    simp only [binCW] at hw
    obtain ⟨a, ea, hw⟩ := opt_at hw
    obtain ⟨n, en, ⟨h2, h3, h4⟩, q⟩ := opt_at hw
    obtain ⟨p, vs, e1, q1, rr1⟩ := lst_at S r1 ea
    have l1 := rr1.length
    exact op_rep pins s σ H _ _ v u Q I rx ry ⟨p, n, vs, e1, intv_at r2 en, q1, h2, h3, by rw [← l1]; exact h4, k.mk S (rr1.flat _) q⟩
  | _ =>
    intro pins s σ H x y v u Q I rx ry ⟨R, F, h, dx, dy, Qd, S, r1, r2, hw, k⟩
    exact (show False from hw).elim
theorem prs_at {K : PySem.W.Frag} {R F : Hp} {h : LH} {H : Hp} (S : Sim K R F h H) : ∀ {ds : List D} {vs : List V} {kvs : List (Key × D)}, RepL K F ds vs → prsD ds = some kvs → ∃ (ps : List Addr) (kws : List (Key × V)), vs = ps.map V.ref ∧ Paired (fun p kv => SqT K H p [kV kv.1, kv.2]) ps kws ∧ RepKV K F kvs kws
  | [], vs, kvs, r, e => by
    simp only [prsD, Option.some.injEq] at e
    subst e
    simp only [RepL] at r
    subst r
    exact ⟨[], [], rfl, .nil, rfl⟩
  | d :: ds, vs, kvs, r, e => by
    simp only [RepL] at r
    obtain ⟨v, r', rfl, r1, r2⟩ := r
    unfold prsD at e
    split at e
    · cases ‹_ = []›
    · rename_i k w r0 hk
      injection hk with e1 e2
      subst e1 e2
      split at e
      · rename_i kk kvs' ek ep
        cases e
        obtain ⟨p, us, rfl, q, rr⟩ := tup_at S r1
        obtain ⟨a, b, rfl, ra, rb⟩ := repL2 rr
        have := key_of ra ek
        subst this
        obtain ⟨ps, kws, rfl, q2, rk⟩ := prs_at S r2 ep
        exact ⟨p :: ps, (kk, b) :: kws, rfl, .cons q q2, by simp only [RepKV]; exact ⟨b, kws, rfl, rb, rk⟩⟩
      · cases e
    · cases e
theorem merge_rep {K : PySem.W.Frag} {F : Hp} : ∀ {more kvs : List (Key × D)} {mws kws : List (Key × V)}, RepKV K F more mws → RepKV K F kvs kws → RepKV K F (mergeD kvs more) (mergeK kws mws)
  | [], kvs, mws, kws, r, q => by
    simp only [RepKV] at r
    subst r
    exact q
  | (k, d) :: more, kvs, mws, kws, r, q => by
    simp only [RepKV] at r
    obtain ⟨v, r', rfl, r1, r2⟩ := r
    exact merge_rep (more := more) (kvs := putD kvs k d) (mws := r') (kws := putK kws k v) r2 (put_rep q r1)
theorem bltC_ok (hu : X.A.units + 64 < cLine) (b : B) (hcd : b = .dict → X.calm = true) : CallR X b.val (LL X.K (bltCW b)) := by
  cases b with
  | dict =>
    intro pins s σ H xs us Q I r ⟨R, F, h, ds, Qd, S, rr, hw, k⟩
    simp only [bltCW] at hw
    obtain ⟨x, rfl, hw⟩ := one_at hw
    obtain ⟨ds, es, hw⟩ := opt_at hw
    obtain ⟨kvs, ep, hw⟩ := opt_at hw
    obtain ⟨v, rfl, r1⟩ := repL1 rr
    obtain ⟨p, vs, rfl, hq, rl⟩ := lst_at S r1 es
    obtain ⟨ps, kws, rfl, q2, rk⟩ := prs_at S rl ep
    exact call_dictP (hcd rfl) pins s σ H _ us Q I r ⟨p, ps, kws, rfl, SqL.of hq, q2, fun a ha =>
      k F _ _ (.ref a) _ (Same.refl F) (S.cell (c := .dct (mergeD [] kvs)) ha ⟨mergeK [] kws, rfl, merge_rep rk (by simp only [RepKV])⟩) rfl (hw a (S.free ha).2)⟩
  | list =>
    intro pins s σ H xs us Q I r ⟨R, F, h, ds, Qd, S, rr, hw, k⟩
    simp only [bltCW] at hw
    obtain ⟨x, rfl, hw⟩ := one_at hw
    obtain ⟨ds, es, hw⟩ := opt_at hw
    obtain ⟨v, rfl, r1⟩ := repL1 rr
    obtain ⟨p, vs, rfl, q, rl⟩ := seq_at S r1 es
    exact call_list_of pins s σ H _ us Q I r ⟨p, vs, rfl, q, k.mk S rl hw⟩
  | sorted =>
    intro pins s σ H xs us Q I r ⟨R, F, h, ds, Qd, S, rr, hw, k⟩
    simp only [bltCW] at hw
    obtain ⟨x, rfl, hw⟩ := one_at hw
    obtain ⟨ds, es, hw⟩ := opt_at hw
    obtain ⟨as, ep, ⟨al, sk, dp⟩, q⟩ := opt_at hw
    obtain ⟨v, rfl, r1⟩ := repL1 rr
    obtain ⟨u, rfl, rx⟩ := vals1 r
    obtain ⟨p, vs, ex, hq, rl⟩ := seq_at S r1 es
    subst ex
    cases rx
    exact sorted_any hu I S hq rl ep al sk dp fun ws r4 => k.mk S r4 q
  | _ =>
    intro pins s σ H xs us Q I r ⟨R, F, h, ds, Qd, S, rr, hw, k⟩
    exact (show False from hw).elim
theorem cell_at {K : PySem.W.Frag} {R F : Hp} {h : LH} {H : Hp} {d : D} {v : V} {f : Addr → List D → Prop} (S : Sim K R F h H) (r : Rep K F d v) (hw : cellL h d f) : ∃ a ds vs, d = .ref a ∧ v = .ref a ∧ h a = some (.lst ds) ∧ H a = some (.lst vs) ∧ RepL K F ds vs ∧ f a ds := by
  unfold cellL at hw
  split at hw
  · rename_i a
    split at hw
    · rename_i ds e
      obtain ⟨_, o, ho, vs, rfl, rr⟩ := S.cl a _ e
      exact ⟨a, ds, vs, rfl, r, e, ho, rr, hw⟩
    · exact hw.elim
  · exact hw.elim
theorem aug_ok (op : Operator) : OpR X (inplaceOp op) (LO X.K (augW op)) := by
  cases op with
  | Add =>
    intro pins s σ H x y v u Q I rx ry ⟨R, F, h, dx, dy, Qd, S, r1, r2, hw, k⟩
    simp only [augW] at hw
    split at hw
    · rename_i i j
      simp only [Rep] at r1 r2; subst r1 r2
      exact iop_add pins s σ H _ _ v u Q I rx ry ⟨i, j, rfl, rfl, k.i S hw⟩
    · rename_i i j
      simp only [Rep] at r1 r2; subst r1 r2
      exact iop_add_str pins s σ H _ _ v u Q I rx ry ⟨i, j, rfl, rfl, hw.1, k.s S hw.2⟩
    · rename_i _ a
      split at hw
      · rename_i ds e
        obtain ⟨es, ee, hz, q⟩ := opt_at hw
        simp only [Rep] at r1
        obtain ⟨_, o, ho, vs, rfl, rr⟩ := S.cl a _ e
        obtain ⟨p', ws, e2, q2, rr2⟩ := lst_at S r2 ee
        have l1 := rr.length
        have l2 := rr2.length
        have rn := rr.append rr2
        exact iop_ext pins s σ H _ _ v u Q I rx ry ⟨a, p', vs, ws, r1, e2, ho, q2, by omega, k.here (S.write (c := .lst (ds ++ es)) e ⟨_, rfl, rn⟩) (d := .ref a) rfl q⟩
      · exact hw.elim
    · exact hw.elim
  | _ =>
    intro pins s σ H x y v u Q I rx ry ⟨R, F, h, dx, dy, Qd, S, r1, r2, hw, k⟩
    first
      | exact (show False from hw).elim
      | (simp only [augW] at hw
         obtain ⟨i, j, rfl, rfl, hw⟩ := ints2_at r1 r2 hw
         first
          | exact iop_sub pins s σ H _ _ v u Q I rx ry ⟨i, j, rfl, rfl, k.i S hw⟩
          | exact iop_mul pins s σ H _ _ v u Q I rx ry ⟨i, j, rfl, rfl, hw.1, k.i S hw.2⟩
          | exact iop_fdiv pins s σ H _ _ v u Q I rx ry ⟨i, j, rfl, rfl, hw.1, k.i S hw.2⟩
          | exact iop_mod pins s σ H _ _ v u Q I rx ry ⟨i, j, rfl, rfl, hw.1, k.i S hw.2⟩
          | exact iop_shr pins s σ H _ _ v u Q I rx ry ⟨i, j, rfl, rfl, hw.1, k.i S hw.2⟩)
/-- o[i] = v -/
def LSet (K : PySem.W.Frag) : TSet := fun o i v H Q => ∃ R F h dx dy dz Qd, Sim K R F h H ∧ Rep K F dx o ∧ Rep K F dy i ∧ Rep K F dz v ∧ setW dx dy dz h Qd ∧ ∀ h' H', Sim K R F h' H' → Qd h' → Q H'
theorem set_ok (hu : X.A.units + 64 < cLine) : PSet X (LSet X.K) := by
  intro pins s σ H o i v ov iv u Q I ro ri rv ⟨R, F, h, dx, dy, dz, Qd, S, r1, r2, r3, hw, k⟩
  unfold setW at hw
  split at hw
  · rename_i a
    simp only [Rep] at r1
    split at hw
    · rename_i ds e
      obtain ⟨n, en, hw⟩ := opt_at hw
      obtain ⟨j, ej, q⟩ := opt_at hw
      obtain ⟨_, ob, ho, vs, rfl, rr⟩ := S.cl a _ e
      exact set_list pins s σ H o i v ov iv u Q I ro ri rv ⟨a, vs, n, j, r1, intv_at r2 en, ho, by rw [← rr.length]; exact ej, k _ _ (S.write (c := .lst (ds.set j dz)) e ⟨_, rfl, rr.set j r3⟩) q⟩
    · rename_i kvs e
      obtain ⟨kk, ek, hz, q⟩ := opt_at hw
      obtain ⟨_, ob, ho, kws, rfl, rr⟩ := S.cl a _ e
      have ey := key_of r2 ek
      have hl := repKV_len rr
      exact set_dict (by omega) pins s σ H o i v ov iv u Q I ro ri rv ⟨a, _, r1, .inl ⟨kws, kk, ho, ey, by omega, rfl⟩, k _ _ (S.write (c := .dct (putD kvs kk dz)) e ⟨_, rfl, put_rep rr r3⟩) q⟩
    · exact hw.elim
  · exact hw.elim
end
end Lg

namespace Lg
open PySem PySem.Spec PyProof.Rows L2
/-! ### shapes -/
def noStar : Expr → Bool
  | .Starred _ _ => false
  | _ => true
def noComp : Expr → Bool
  | .ListComp .. => false
  | .SetComp .. => false
  | .DictComp .. => false
  | _ => true
def noSet : Expr → Bool
  | .Set .. => false
  | _ => true
def noSlice : Expr → Bool
  | .Slice .. => false
  | _ => true
def noSup : Expr → Bool
  | .Call (.Name _ _) [] [] _ => false
  | _ => true
def noTest : Expr → Bool
  | .UnaryOp .Not _ _ => false
  | .BoolOp .. => false
  | .IfExp .. => false
  | .Compare .. => false
  | _ => true
def isTup : Expr → Bool
  | .Tuple .. => true
  | .List .. => true
  | _ => false
def noStars (es : List Expr) : Bool := es.all noStar
theorem star_cons {e : Expr} {es : List Expr} {env : Env} (h : noStar e = true) : starEach (e :: es) env = (false, eval e env) :: starEach es env := by
  cases e <;> first | rfl | cases h
theorem plain_args {pos : Pos} {env : Env} : ∀ {es : List Expr}, noStars es = true → (backTo pos (starEach es env)).any (·.1) = false
  | [], _ => rfl
  | e :: es, h => by
    unfold noStars at h
    simp only [List.all_cons, Bool.and_eq_true] at h
    rw [star_cons h.1]
    have ih := plain_args (pos := pos) (env := env) (es := es) h.2
    unfold backTo at ih ⊢
    simp only [List.map_cons, List.any_cons, Bool.false_or]
    exact ih
theorem asg_cons {e : Expr} {es : List Expr} {env : Env} (h : noStar e = true) : assignEach (e :: es) env = (false, assign e env) :: assignEach es env := by
  cases e <;> first | rfl | cases h
theorem asg_len {env : Env} : ∀ {es : List Expr}, noStars es = true → (assignEach es env).length = es.length ∧ (assignEach es env).findIdx? (·.1) = none
  | [], _ => ⟨rfl, rfl⟩
  | e :: es, h => by
    unfold noStars at h
    simp only [List.all_cons, Bool.and_eq_true] at h
    rw [asg_cons h.1]
    obtain ⟨h1, h2⟩ := asg_len (env := env) (es := es) h.2
    refine ⟨by simp [h1], ?_⟩
    rw [List.findIdx?_cons]
    simp [h2]
theorem sw_false {e : Expr} {t : Option Expr} {l : Nat} {env : Env} (h : noComp e = true) : swapsWith e t l env = pure false := by
  cases e <;> first | rfl | cases h
theorem ab_eq {o : Expr} {n : Str} {env : Env} (h : noSup o = true) : attributeBase o n env (eval o env) = eval o env := by
  cases o with
  | Call f as kw p =>
    cases f with
    | Name i q =>
      cases as with
      | nil =>
        cases kw with
        | nil => cases h
        | cons _ _ => rfl
      | cons _ _ => rfl
    | _ => rfl
  | _ => rfl
theorem ix_plain {b : Expr} (h : noSlice b = true) : PlainIx b := fun o i => by
  cases b <;> first | rfl | cases h
theorem sub_plain {o i : Expr} {pos : Pos} {env : Env} (h : noSlice i = true) : ∀ v, assign (.Subscript o i pos) env v = (do
      let ov ← holding [v] (eval o env)
      let iv ← holding [v, ov] (eval i env)
      standAt pos
      holding [v, ov, iv] (setItem ov iv v)
      release [v, ov, iv] []) := by
  intro v
  cases i <;> first | rfl | cases h
theorem set_plain {e : Expr} {env : Env} (h : noSet e = true) : ∀ x, foldedSetIterable e env x = pure x := by
  intro x
  cases e <;> first | rfl | cases h
theorem test_plain {a : Expr} {env : Env} (h : noTest a = true) : ∀ whole, isTrue a env whole = (do let v ← whole; standAt a.pos; holding [v] (truthy v)) := by
  intro whole
  cases a with
  | UnaryOp op x p =>
    cases op <;> first | rfl | cases h
  | _ => first | rfl | cases h
theorem sole_plain {tg e : Expr} {l : Nat} {env : Env} (h : noComp e = true) : swapsWithSole [tg] e l env = pure false := sw_false h
theorem par_plain {tg e : Expr} {env : Env} (h : (isTup tg && isTup e) = false) : swappedStores [tg] e env = pure none := by
  cases tg <;> first
    | rfl
    | (cases e <;> first | rfl | cases h)
theorem asg_one {tg : Expr} {env : Env} (h : noStar tg = true) : (assignEach [tg] env).map (·.2) = [assign tg env] := by
  rw [asg_cons h]
  rfl
theorem few1 {e : Expr} {pos : Pos} {env : Env} (h : noStar e = true) : ((backTo pos (starEach [e] env)).all (fun x => !x.1) && (backToKw pos (keywordEach [] env)).all (fun x => x.1.isSome)
      && decide (([e] : List Expr).length + ([] : List Keyword).length + (if ([] : List Keyword).isEmpty then 0 else 1) < 30)) = true := by
  rw [star_cons h]
  rfl
theorem m1_of {X : Cx} {o e : Expr} {m : Str} {apos cpos : Pos} (h1 : noSup o = true) (h2 : noStar e = true) (h3 : (apos.endLine == cpos.line) = true) : M1 X o m apos e cpos := ⟨ab_eq h1, few1 h2, h3, by rw [star_cons h2]; rfl⟩
theorem m2_of {X : Cx} {o e f : Expr} {m : Str} {apos cpos : Pos} (h1 : noSup o = true) (h2 : noStar e = true) (h4 : noStar f = true) (h3 : (apos.endLine == cpos.line) = true) : M2 X o m apos e f cpos :=
  ⟨ab_eq h1, by rw [star_cons h2, star_cons h4]; rfl, h3, by rw [star_cons h2, star_cons h4]; rfl⟩

/-! ### what is known of the place -/
/-- a class of the text: its name, the attributes of its instances, its methods, its __init__ -/
structure CI where
  nm : Str
  fl : List Str
  ms : List (Str × Nat)
  ini : Option Nat
structure G where
  N : List Str
  sc : Scope
  all : Bool
  bsc : Scope
  calm : Bool
  body : Bool
  gc : List Str
  fs : List Str
  ex : List Str
  fl : List (Option (List Str))
  cl : List CI
  st : List (Option Nat)
def stOf (Γ : G) (i : Nat) : Option Nat := (Γ.st[i]?).getD none
def fnB (Γ : G) (x : Str) : Bool := Γ.all || (Γ.bsc.names.lookup x == some .cell)
def kdB (Γ : G) (x : Str) (k : NameKind) : Bool := decide (Γ.sc.names.lookup x = some k)
def dbgB (x : Str) : Bool := !(x == ("__debug__" : Str))
def glB (Γ : G) (x : Str) : Bool := kdB Γ x .globalImplicit && dbgB x
def atB (Γ : G) (i : Nat) (x : Str) : Bool := decide (Γ.N[i]? = some x)
/-- read -/
def rdB (Γ : G) (i : Nat) (x : Str) : Bool := atB Γ i x && (kdB Γ x .local || kdB Γ x .cell || kdB Γ x .free) && dbgB x && !(x == ("__classdict__" : Str))
/-- written -/
def wrB (Γ : G) (i : Nat) (x : Str) : Bool := atB Γ i x && (kdB Γ x .local || (kdB Γ x .cell && fnB Γ x))
def bltNames : List Str := ["len", "abs", "int", "str", "repr", "min", "max", "sum", "any", "all", "sorted", "tuple", "list", "divmod", "isinstance", "range", "enumerate", "zip", "bool", "dict"]
def RepX (K : PySem.W.Frag) (ec : List Addr) (F : Hp) (x : Exn) (cls : Value) (d : Option Addr) : Prop := ∃ C dd fs', ec[x.cls]? = some C ∧ cls = .ref C ∧ d = some dd ∧ F dd = some (.xd fs') ∧ RepFs K F x.fs fs'
theorem RepX.mono {K : PySem.W.Frag} {ec : List Addr} {F F' : Hp} (s : Same F F') {x : Exn} {cls : Value} {d : Option Addr} (r : RepX K ec F x cls d) : RepX K ec F' x cls d :=
  let ⟨C, dd, fs', h1, h2, h3, h4, h5⟩ := r; ⟨C, dd, fs', h1, h2, h3, s _ _ h4, h5.mono s⟩
def wOf (K : PySem.W.Frag) (ec : List Addr) (R F0 : Hp) (ed : EXS) : WX := fun cls d σ H => ∃ F h x ρ, Same F0 F ∧ Sim K R F h H ∧ RepX K ec F x cls d ∧ RepS K F ρ σ ∧ ed x ρ h
def KontX (K : PySem.W.Frag) (ec : List Addr) (R F : Hp) (ed : EX) (E : XK) : Prop := ∀ F' h' H' x cls d, Same F F' → Sim K R F' h' H' → RepX K ec F' x cls d → ed x h' → E cls d H'
def spG (K : PySem.W.Frag) (ec : List Addr) (cf : List D → LH → QD → EX → Prop) : Sp := fun vs H Q E => ∃ R F h ds Qd ed, Sim K R F h H ∧ RepL K F ds vs ∧ cf ds h Qd ed ∧ Kont K R F Qd Q ∧ KontX K ec R F ed E
structure FnG (P : Program) (w : World) (K : PySem.W.Frag) (mg : Str → Option Value) (base : Heap) (k : Nat) (f : Addr) (fd : FuncData) (ps : List Str) (sp : Sp) : Prop where
  len : ∀ vs H Q E, sp vs H Q E → vs.length = ps.length
  run : ∀ (A : Around) (outer : List Env) (s : Shared) (H : Hp) (args : Args) (us : List Value) (vs : List V) (Q : VK) (E : XK), Room k A → A.guards = some [] → Env0 P w K mg base A outer s H → BindsTo s fd args (ps.zip us) → Vals vs us → sp vs H Q E →
    codeAny (model P w) A (.call (.ref f) args) (CR (L2.CX P w) outer P w H s Q E) s
/-- the promise of an exception's __init__ -/
def spInit (C : Addr) (fl : List Str) : Sp := fun vs H Q _ => ∃ a ws, vs = .ref a :: ws ∧ ws.length = fl.length ∧ H a = some (exo a C none) ∧ ∀ dx, H dx = none → dx ≠ a → Q .non (upd (upd H dx (exd dx (fl.zip ws).reverse)) a (exo a C (some dx)))
/-- .. of a def that takes what is left over as a tuple -/
def spV (st : Option Nat) (K : PySem.W.Frag) (ec : List Addr) (cf : List D → LH → QD → EX → Prop) : Sp := match st with
  | none => spG K ec cf
  | some n => fun vs H Q E => ∃ R F h ds Qd ed, Sim K R F h H ∧ RepL K F ds vs ∧ (n ≤ ds.length ∧ ds.length ≤ sizeLine) ∧ cf (ds.take n ++ [.tup (ds.drop n)]) h Qd ed ∧ Kont K R F Qd Q ∧ KontX K ec R F ed E
def FnC (P : Program) (w : World) (K : PySem.W.Frag) (mg : Str → Option Value) (base : Heap) (k : Nat) (f : Addr) (sp : Sp) : Prop :=
  ∀ (A : Around) (outer : List Env) (s : Shared) (H : Hp) (us : List Value) (vs : List V) (Q : VK) (E : XK), Room k A → A.guards = some [] → Env0 P w K mg base A outer s H → Vals vs us → sp vs H Q E →
    codeAny (model P w) A (.call (.ref f) ⟨us, []⟩) (CR (L2.CX P w) outer P w H s Q E) s
def FnAt (X : Cx) (ec : List Addr) (st : Option Nat) (cf : List D → LH → QD → EX → Prop) (f : Addr) : Prop := ∃ k, Room (k + 1) X.A ∧ PySem.W.keepIn X.K (.ref f) = true ∧ FnC X.prog X.w X.K X.mg X.base k f (spV st X.K ec cf)
structure ClsAt (K : PySem.W.Frag) (mg : Str → Option Value) (ci : CI) (C : Addr) (fa : Nat → Addr) : Prop where
  cl : Cls K C
  no : ∀ f ∈ ci.fl, NoAttr K C f
  ms : ∀ m i, (m, i) ∈ ci.ms → BMeth K C m (fa i)
  ini : ∀ i, ci.ini = some i → Mk K C (fa i) ∧ mg ci.nm = some (.ref C)
def ExAt (X : Cx) (ec : List Addr) (i : Nat) (fl : List Str) (x : Str) : Prop := ∃ C k fI fd ps, ec[i]? = some C ∧ fl.length ≤ 900 ∧ OexC X.K C ∧ PySem.W.findIn X.K (.ref C) "__init__" = some (some (.ref fI)) ∧ PySem.W.typeIn X.K (.ref fI) = some (.type "function") ∧ Room (k + 1) X.A ∧ Binds X.K fd ps [] ∧ X.mg x = some (.ref C) ∧
  FnOk X.prog X.w X.K X.mg X.base (L2.CX X.prog X.w) k fI fd ps (spInit C fl)
def xNames : List Str := ["reason", "at", "path", "number", "line"]
def HotAt (X : Cx) (ec : List Addr) (F0 : Hp) (a : Addr) (x : Exn) : Prop := ∃ X0 oe pn cls d, X = Cx.suite X0 a ((a, oe) :: pn) ∧ Zc cls d oe ∧ (∃ vs, oe.data = .fields vs) ∧ RepX X.K ec F0 x cls d
structure Good (Γ : G) (ec : List Addr) (X : Cx) (R F0 : Hp) (P : Prm) (ed : EXS) : Prop where
  N : X.N = Γ.N
  nd : Γ.N.Nodup
  sc : X.env.scope = Γ.sc
  fn : ∀ x, fnB Γ x = true → X.fn x = true
  calm : Γ.calm = true → X.calm = true
  gd : X.A.guards = some []
  un : X.A.units + 64 < cLine
  tk : Takes X (wOf X.K ec R F0 ed)
  own : Γ.body = true → PassesOwn (model X.prog X.w) X.A X.env X.xe ∧ X.stack = X.env :: X.outer ∧ X.env.frame = some X.env.locals
  bl : ∀ x ∈ bltNames, X.mg x = none
  gc : ∀ i x d, Γ.gc[i]? = some x → P.gc i = some d → ∃ v u, X.mg x = some u ∧ RelV v u ∧ ∀ F, Rep X.K F d v
  fs : Γ.calm = true → ∀ i x, Γ.fs[i]? = some x → FnAt X ec (stOf Γ i) (P.cf i) (P.fa i)
  nm : ∀ (i : Nat) (x : Str), Γ.fs[i]? = some x → x ≠ ("" : Str) → X.mg x = some (.ref (P.fa i))
  cl : ∀ c ci, Γ.cl[c]? = some ci → ClsAt X.K X.mg ci (P.ca c) P.fa
  ex : Γ.calm = true → ∀ i x fl, Γ.ex[i]? = some x → P.fl i = some fl → ExAt X ec i fl x
  sb : ∀ (j : Nat) (x : Str), Γ.ex[j]? = some x → ∃ C : Addr, ec[j]? = some C ∧ X.mg x = some (.ref C) ∧ ∀ (i : Nat) (C' : Addr), ec[i]? = some C' → PySem.W.exmOne X.K (.ref C') (.ref C) = some (P.sb i j)
  xf : ∀ (i : Nat) (C : Addr), ec[i]? = some C → XfC X.K C ∧ ∀ f ∈ xNames, PySem.W.findIn X.K (.ref C) f = some none
  hot : ∀ a x, P.hot = some (a, x) → HotAt X ec F0 a x
  ht : Γ.calm = true → P.hot = none
  fl : ∀ i fl, Γ.fl[i]? = some (some fl) → P.fl i = some fl
section
variable {Γ : G} {ec : List Addr} {X : Cx} {R F0 : Hp} {P : Prm} {ed : EXS} {x : Str} {i : Nat}
theorem Good.gl (g : Good Γ ec X R F0 P ed) (h : glB Γ x = true) : Gl X x ∧ (x == ("__debug__" : Str)) = false := by
  unfold glB kdB dbgB at h
  simp only [Bool.and_eq_true, decide_eq_true_eq, Bool.not_eq_true'] at h
  exact ⟨by show X.env.scope.names.lookup x = _; rw [g.sc]; exact h.1, h.2⟩
theorem Good.at_ (g : Good Γ ec X R F0 P ed) (h : atB Γ i x = true) : X.N[i]? = some x := by
  unfold atB at h
  rw [g.N]; exact of_decide_eq_true h
theorem Good.rd (g : Good Γ ec X R F0 P ed) (h : rdB Γ i x = true) : X.N[i]? = some x ∧ Vis X.env.scope x ∧ (x == ("__debug__" : Str)) = false ∧ (x == ("__classdict__" : Str)) = false := by
  unfold rdB kdB dbgB at h
  simp only [Bool.and_eq_true, Bool.or_eq_true, decide_eq_true_eq, Bool.not_eq_true'] at h
  obtain ⟨⟨⟨h1, h2⟩, h3⟩, h4⟩ := h
  refine ⟨g.at_ h1, ?_, h3, h4⟩
  unfold Vis
  rw [g.sc]
  rcases h2 with (h2 | h2) | h2
  · exact .inl h2
  · exact .inr (.inl h2)
  · exact .inr (.inr h2)
theorem Good.wr (g : Good Γ ec X R F0 P ed) (h : wrB Γ i x = true) : X.N[i]? = some x ∧ L2.Loc X.env.scope x ∧ (X.fn x = true ∨ X.env.scope.names.lookup x = some .local) := by
  unfold wrB kdB at h
  simp only [Bool.and_eq_true, Bool.or_eq_true, decide_eq_true_eq] at h
  obtain ⟨h1, h2⟩ := h
  refine ⟨g.at_ h1, ?_⟩
  unfold L2.Loc
  rw [g.sc]
  rcases h2 with h2 | ⟨h2, h3⟩
  · exact ⟨.inl h2, .inr h2⟩
  · exact ⟨.inr h2, .inl (g.fn x h3)⟩
theorem Good.nd' (g : Good Γ ec X R F0 P ed) : X.N.Nodup := by rw [g.N]; exact g.nd
end

/-! ### readings lifted -/
section
variable (K : PySem.W.Frag) (R F0 : Hp)
def LE (w : Sl → LH → QD → Prop) : TE := fun σ H Q => ∃ F h ρ Qd, Same F0 F ∧ Sim K R F h H ∧ RepS K F ρ σ ∧ w ρ h Qd ∧ Kont K R F Qd Q
def KontB (F : Hp) (Qb : QB) (Q : Bool → Hp → Prop) : Prop := ∀ F' h' H' b, Same F F' → Sim K R F' h' H' → Qb b h' → Q b H'
def LT (w : Sl → LH → QB → Prop) : TT := fun σ H Q => ∃ F h ρ Qd, Same F0 F ∧ Sim K R F h H ∧ RepS K F ρ σ ∧ w ρ h Qd ∧ KontB K R F Qd Q
def KontL (n : Nat) (F : Hp) (Ql : QL) (Q : List V → Hp → Prop) : Prop := ∀ F' h' H' ds vs, ds.length = n → Same F F' → Sim K R F' h' H' → RepL K F' ds vs → Ql ds h' → Q vs H'
def LA (n : Nat) (w : Sl → LH → QL → Prop) : TA := fun σ H Q => ∃ F h ρ Qd, Same F0 F ∧ Sim K R F h H ∧ RepS K F ρ σ ∧ w ρ h Qd ∧ KontL K R n F Qd Q
def KontO (F : Hp) (Qo : Option Int → LH → Prop) (Q : Option Int → Hp → Prop) : Prop := ∀ F' h' H' b, Same F F' → Sim K R F' h' H' → Qo b h' → Q b H'
def LOp (w : Sl → LH → (Option Int → LH → Prop) → Prop) : TO := fun σ H Q => ∃ F h ρ Qd, Same F0 F ∧ Sim K R F h H ∧ RepS K F ρ σ ∧ w ρ h Qd ∧ KontO K R F Qd Q
def KontG (S : List Nat) (F : Hp) (σ : L2.St) (Qg : QS) (Q : L2.St → Hp → Prop) : Prop := ∀ F' h' H' ρ' σ', Same F F' → Sim K R F' h' H' → RepS K F' ρ' σ' → (σ'.length = σ.length ∧ ∀ j, j ∉ S → σ'[j]? = σ[j]?) → Qg ρ' h' → Q σ' H'
def LG (S : List Nat) (w : D → Sl → LH → QS → Prop) : TG := fun v σ H Q => ∃ F h ρ d Qd, Same F0 F ∧ Sim K R F h H ∧ RepS K F ρ σ ∧ Rep K F d v ∧ w d ρ h Qd ∧ KontG K R S F σ Qd Q
def LGs (S : List Nat) (w : List D → Sl → LH → QS → Prop) : TGs := fun vs σ H Q => ∃ F h ρ ds Qd, Same F0 F ∧ Sim K R F h H ∧ RepS K F ρ σ ∧ RepL K F ds vs ∧ w ds ρ h Qd ∧ KontG K R S F σ Qd Q
/-- J walks its, while g -/
def ItOk (F1 : Hp) (its : List D) (g : LH → Prop) (J : It) : Prop := ∀ R F h H i, Same F1 F → Sim K R F h H → g h →
  (∀ d, its[i]? = some d → J.go i H ∧ ∀ x H', J.yld i H x H' → ∃ F', Same F F' ∧ Sim K R F' h H' ∧ Rep K F' d x) ∧ (i = its.length → J.stop i H)
def LI (w : Sl → LH → (List D → (LH → Prop) → LH → Prop) → Prop) : TI := fun σ H Rk => ∃ F h ρ Qi, Same F0 F ∧ Sim K R F h H ∧ RepS K F ρ σ ∧ w ρ h Qi ∧ ∀ F' h' H' its g J, Same F F' → Sim K R F' h' H' → ItOk K F' its g J → Qi its g h' → Rk J H'
structure KontS (F : Hp) (Dl : LEnds) (De : Ends) : Prop where
  nx : ∀ F' h' H' ρ σ, Same F F' → Sim K R F' h' H' → RepS K F' ρ σ → Dl.nx ρ h' → De.nx σ H'
  rt : ∀ F' h' H' d v, Same F F' → Sim K R F' h' H' → Rep K F' d v → Dl.rt d h' → De.rt v H'
  bk : ∀ F' h' H' ρ σ, Same F F' → Sim K R F' h' H' → RepS K F' ρ σ → Dl.bk ρ h' → De.bk σ H'
  ct : ∀ F' h' H' ρ σ, Same F F' → Sim K R F' h' H' → RepS K F' ρ σ → Dl.ct ρ h' → De.ct σ H'
def LS (w : LEnds → Sl → LH → Prop) : TS := fun De σ H => ∃ F h ρ Dl, Same F0 F ∧ Sim K R F h H ∧ RepS K F ρ σ ∧ w Dl ρ h ∧ KontS K R F Dl De
end
theorem KontS.mono {K : PySem.W.Frag} {R F F' : Hp} {Dl : LEnds} {De : Ends} (k : KontS K R F Dl De) (s : Same F F') : KontS K R F' Dl De :=
  ⟨fun _ _ _ _ _ s2 => k.nx _ _ _ _ _ (s.trans s2), fun _ _ _ _ _ s2 => k.rt _ _ _ _ _ (s.trans s2), fun _ _ _ _ _ s2 => k.bk _ _ _ _ _ (s.trans s2), fun _ _ _ _ _ s2 => k.ct _ _ _ _ _ (s.trans s2)⟩
theorem PE.imp {X : Cx} {e : Expr} {t t' : TE} (h : PE X e t) (i : ∀ σ H Q, t' σ H Q → t σ H Q) : PE X e t' := ⟨fun pins s σ H Q I hw => h.run pins s σ H Q I (i _ _ _ hw)⟩
theorem PT.imp {X : Cx} {e : Expr} {t t' : TT} (h : PT X e t) (i : ∀ σ H Q, t' σ H Q → t σ H Q) : PT X e t' := ⟨fun pins s σ H Q I hw => h.run pins s σ H Q I (i _ _ _ hw)⟩
theorem PA.imp {X : Cx} {e : List Expr} {t t' : TA} (h : PA X e t) (i : ∀ σ H Q, t' σ H Q → t σ H Q) : PA X e t' := ⟨fun pos pins s σ H Q I hw => h.run pos pins s σ H Q I (i _ _ _ hw)⟩
theorem PG.imp {X : Cx} {e : Expr} {t t' : TG} (h : PG X e t) (i : ∀ v σ H Q, t' v σ H Q → t v σ H Q) : PG X e t' := ⟨fun pins s σ H v u Q I r hw => h.run pins s σ H v u Q I r (i _ _ _ _ hw)⟩
theorem PGs.imp {X : Cx} {e : List Expr} {t t' : TGs} (h : PGs X e t) (i : ∀ v σ H Q, t' v σ H Q → t v σ H Q) : PGs X e t' := ⟨fun pins s σ H v u Q I r hw => h.run pins s σ H v u Q I r (i _ _ _ _ hw)⟩
theorem PI.imp {X : Cx} {tg e : Expr} {t t' : TI} (h : PI X tg e t) (i : ∀ σ H Q, t' σ H Q → t σ H Q) : PI X tg e t' := ⟨fun pins s σ H Q I hw => h.run pins s σ H Q I (i _ _ _ hw)⟩
theorem PO.imp {X : Cx} {e : Option Expr} {t t' : TO} (h : PO X e t) (i : ∀ σ H Q, t' σ H Q → t σ H Q) : PO X e t' := ⟨fun pins s σ H Q I hw => h.run pins s σ H Q I (i _ _ _ hw)⟩
theorem PTs.imp {X : Cx} {e : List Expr} {t t' : TT} (h : PTs X e t) (i : ∀ σ H Q, t' σ H Q → t σ H Q) : PTs X e t' := ⟨fun pins s σ H Q I hw => h.run pins s σ H Q I (i _ _ _ hw)⟩
theorem PS.imp {X : Cx} {st : Stmt} {t t' : TS} (h : PS X st t) (i : ∀ D σ H, t' D σ H → t D σ H) : PS X st t' := ⟨fun pins s σ H D I hw => h.run pins s σ H D I (i _ _ _ hw)⟩
theorem PSs.imp {X : Cx} {st : List Stmt} {t t' : TS} (h : PSs X st t) (i : ∀ D σ H, t' D σ H → t D σ H) : PSs X st t' := ⟨fun pins s σ H D I hw => h.run pins s σ H D I (i _ _ _ hw)⟩
end Lg

namespace Lg
open PySem PySem.Spec PyProof.Rows L2
section
variable {X : Cx} {R F0 : Hp} {a b c : Expr} {wa wb wc : Sl → LH → QD → Prop} {wt wu : Sl → LH → QB → Prop} {pos : Pos}
theorem slot_at {ρ : Sl} {i : Nat} {d : D} (h : slot ρ i = some d) : ρ[i]? = some (some d) := by
  unfold slot at h
  split at h
  · rename_i e; cases h; exact e
  · cases h
theorem le_var {x : Str} {i : Nat} (h : X.N[i]? = some x) (hv : Vis X.env.scope x) (hd : (x == ("__debug__" : Str)) = false) (hcd : (x == ("__classdict__" : Str)) = false) :
    PE X (.Name x pos) (LE X.K R F0 fun ρ h Q => opt (slot ρ i) fun d => Q d h) :=
  PE.imp (pe_var h hv hd hcd) fun σ H Q ⟨F, h, ρ, Qd, s0, S, rs, hw, k⟩ => by
    obtain ⟨d, ed, q⟩ := opt_at hw
    obtain ⟨v, ev, r⟩ := rs.at_ i d (slot_at ed)
    exact ⟨v, ev, k.here S r q⟩
theorem le_const {d : D} {v : V} (h : PE X a (tC v)) (hr : ∀ F, Rep X.K F d v) : PE X a (LE X.K R F0 fun _ h Q => Q d h) :=
  PE.imp h fun σ H Q ⟨F, h, ρ, Qd, s0, S, rs, hw, k⟩ => k.here S (hr F) hw
theorem le_op2 {t : TE → TE → TE} {e : Expr} {r : D → D → LH → QD → Prop} (ht : t = fun ta tb => tOp (LO X.K r) ta tb) (h : PE X e (t (LE X.K R F0 wa) (LE X.K R F0 wb))) : PE X e (LE X.K R F0 fun ρ h Q => wa ρ h fun x h1 => wb ρ h1 fun y h2 => r x y h2 Q) := by
  subst ht
  exact PE.imp h fun σ H Q ⟨F, h, ρ, Qd, s0, S, rs, hw, k⟩ => ⟨F, h, ρ, _, s0, S, rs, hw, fun F1 h1 H1 d v s1 S1 r1 q1 =>
    ⟨F1, h1, ρ, _, s0.trans s1, S1, rs.mono s1, q1, fun F2 h2 H2 d2 v2 s2 S2 r2 q2 => ⟨R, F2, h2, d, d2, Qd, S2, r1.mono s2, r2, q2, k.mono (s1.trans s2)⟩⟩⟩
theorem le_bin {op : Operator} (ha : PE X a (LE X.K R F0 wa)) (hb : PE X b (LE X.K R F0 wb)) : PE X (.BinOp a op b pos) (LE X.K R F0 fun ρ h Q => wa ρ h fun x h1 => wb ρ h1 fun y h2 => binW op x y h2 Q) :=
  le_op2 rfl (pe_op (bin_ok op) ha hb)
theorem le_binC {op : Operator} (ha : PE X a (LE X.K R F0 wa)) (hb : PE X b (LE X.K R F0 wb)) : PE X (.BinOp a op b pos) (LE X.K R F0 fun ρ h Q => wa ρ h fun x h1 => wb ρ h1 fun y h2 => binCW op x y h2 Q) :=
  le_op2 rfl (pe_op (binC_ok op) ha hb)
theorem le_cmp {op : CmpOp} (hu : X.A.units + 64 < cLine) (ha : PE X a (LE X.K R F0 wa)) (hb : PE X b (LE X.K R F0 wb)) (hm : behindInMarks op b = false) : PE X (.Compare a [op] [b] pos) (LE X.K R F0 fun ρ h Q => wa ρ h fun x h1 => wb ρ h1 fun y h2 => cmpW op x y h2 Q) :=
  le_op2 rfl (pe_cmpR (cmp_ok hu op) ha hb hm)
theorem le_sub (hu : X.A.units + 64 < cLine) (ha : PE X a (LE X.K R F0 wa)) (hb : PE X b (LE X.K R F0 wb)) (hs : noSlice b = true) : PE X (.Subscript a b pos) (LE X.K R F0 fun ρ h Q => wa ρ h fun x h1 => wb ρ h1 fun y h2 => subW x y h2 Q) :=
  le_op2 rfl (pe_ix (sub_ok hu) ha hb (ix_plain hs))
theorem asB_at {d : D} {f : Bool → Prop} (h : asB d f) : ∃ b, d = .bl b ∧ f b := by
  unfold asB at h
  split at h
  · exact ⟨_, rfl, h⟩
  · exact h.elim
theorem lo_of {x y : D} {u v : V} {F : Hp} {h : LH} {H : Hp} {r : D → D → LH → QD → Prop} {Qd : QD} {Q : VK} (S : Sim X.K R F h H) (r1 : Rep X.K F x u) (r2 : Rep X.K F y v) (q : r x y h Qd) (k : Kont X.K R F Qd Q) : LO X.K r u v H Q := ⟨R, F, h, x, y, Qd, S, r1, r2, q, k⟩
theorem le_chn {o1 o2 : CmpOp} (hu : X.A.units + 64 < cLine) (ha : PE X a (LE X.K R F0 wa)) (hb : PE X b (LE X.K R F0 wb)) (hc : PE X c (LE X.K R F0 wc)) (hm : behindInMarks o2 c = false) :
    PE X (.Compare a [o1, o2] [b, c] pos) (LE X.K R F0 fun ρ h Q => wa ρ h fun x h1 => wb ρ h1 fun y h2 => cmpW o1 x y h2 fun r h3 => asB r fun t => if t = true then wc ρ h3 (fun z h4 => cmpW o2 y z h4 Q) else Q (.bl false) h3) :=
  PE.imp (pe_chain (cmp_ok hu o1) (cmp_ok hu o2) ha hb hc hm) fun σ H Q ⟨F, h, ρ, Qd, s0, S, rs, hw, k⟩ => ⟨F, h, ρ, _, s0, S, rs, hw, fun F1 h1 H1 d v s1 S1 r1 q1 =>
    ⟨F1, h1, ρ, _, s0.trans s1, S1, rs.mono s1, q1, fun F2 h2 H2 d2 v2 s2 S2 r2 q2 => lo_of S2 (r1.mono s2) r2 q2 fun F3 h3 H3 d3 v3 s3 S3 r3 q3 => by
      obtain ⟨t, rfl, q⟩ := asB_at q3
      refine ⟨t, r3, ?_⟩
      cases t with
      | false => exact k F3 h3 H3 (.bl false) _ (s1.trans (s2.trans s3)) S3 rfl q
      | true => exact ⟨F3, h3, ρ, _, s0.trans (s1.trans (s2.trans s3)), S3, rs.mono (s1.trans (s2.trans s3)), q, fun F4 h4 H4 d4 v4 s4 S4 r4 q4 => lo_of S4 ((r2.mono s3).mono s4) r4 q4 (k.mono (s1.trans (s2.trans (s3.trans s4))))⟩⟩⟩

/-! one value -/
theorem le_map {e : Expr} {t : TE → TE} (f : D → LH → QD → Prop) (ht : ∀ ta, t ta = fun σ H Q => ta σ H fun x H1 => ∃ F h d Qd, Sim X.K R F h H1 ∧ Rep X.K F d x ∧ f d h Qd ∧ Kont X.K R F Qd Q) (h : PE X e (t (LE X.K R F0 wa))) : PE X e (LE X.K R F0 fun ρ h Q => wa ρ h fun x h1 => f x h1 Q) := by
  rw [ht] at h
  exact PE.imp h fun σ H Q ⟨F, h, ρ, Qd, s0, S, rs, hw, k⟩ => ⟨F, h, ρ, _, s0, S, rs, hw, fun F1 h1 H1 d v s1 S1 r1 q1 => ⟨F1, h1, d, Qd, S1, r1, q1, k.mono s1⟩⟩
theorem le_neg (ha : PE X a (LE X.K R F0 wa)) : PE X (.UnaryOp .USub a pos) (LE X.K R F0 fun ρ h Q => wa ρ h fun x h1 => opt (intv x) fun i => Q (.int (-i)) h1) :=
  PE.imp (pe_un un_neg ha) fun σ H Q ⟨F, h, ρ, Qd, s0, S, rs, hw, k⟩ => ⟨F, h, ρ, _, s0, S, rs, hw, fun F1 h1 H1 d v s1 S1 r1 q1 => by
    obtain ⟨i, e, q⟩ := opt_at q1
    exact ⟨i, intv_at r1 e, k F1 h1 H1 (.int (-i)) _ s1 S1 rfl q⟩⟩
theorem pe_notV {ta : TE} (ha : PE X a ta) : PE X (.UnaryOp .Not a pos) (fun σ H Q => ta σ H fun x H1 => ∃ t, TruV X.K x H1 t ∧ Q (.bl (!t)) H1) := by
  refine ⟨fun pins s σ H Q I h => ?_⟩
  refine UnaryOp_ (thn (ha.run pins s σ H _ I h) fun v s1 ⟨x, H1, I1, r1, t, ht, q1⟩ => ?_)
  exact not_of (thn (tru_ok pins s1 σ H1 x v (fun b H2 => Q (.bl (!b)) H2) I1 r1 ⟨t, ht, q1⟩) fun c s2 ⟨H2, I2, q2⟩ => ⟨.bl (!c), H2, I2, rfl, q2⟩)
theorem le_nt (ha : PE X a (LE X.K R F0 wa)) : PE X (.UnaryOp .Not a pos) (LE X.K R F0 fun ρ h Q => wa ρ h fun x h1 => opt (truth h1 x) fun t => Q (.bl (!t)) h1) :=
  PE.imp (pe_notV ha) fun σ H Q ⟨F, h, ρ, Qd, s0, S, rs, hw, k⟩ => ⟨F, h, ρ, _, s0, S, rs, hw, fun F1 h1 H1 d v s1 S1 r1 q1 => by
    obtain ⟨t, e, q⟩ := opt_at q1
    exact ⟨t, truth_tru S1 r1 e, k F1 h1 H1 (.bl (!t)) _ s1 S1 rfl q⟩⟩
theorem pe_andV {ta tb : TE} {rest : List Expr} (ha : PE X a ta) (hb : PE X (.BoolOp .And (b :: rest) pos) tb) : PE X (.BoolOp .And (a :: b :: rest) pos) (fun σ H Q => ta σ H fun x H1 => ∃ t, TruV X.K x H1 t ∧ if t = true then tb σ H1 Q else Q x H1) := by
  refine ⟨fun pins s σ H Q I h => ?_⟩
  refine BoolOp_and (thn (ha.run pins s σ H _ I h) fun v s1 ⟨x, H1, I1, r1, t, ht, q1⟩ => ?_)
  refine thn (tru_ok pins s1 σ H1 x v (fun c H2 => if c = true then tb σ H2 Q else Q x H2) I1 r1 ⟨t, ht, q1⟩) fun c s2 ⟨H2, I2, q2⟩ => ?_
  cases c with
  | true => exact hb.run pins s2 σ H2 Q I2 q2
  | false => exact ⟨x, H2, I2, r1, q2⟩
theorem pe_orV {ta tb : TE} {rest : List Expr} (ha : PE X a ta) (hb : PE X (.BoolOp .Or (b :: rest) pos) tb) : PE X (.BoolOp .Or (a :: b :: rest) pos) (fun σ H Q => ta σ H fun x H1 => ∃ t, TruV X.K x H1 t ∧ if t = true then Q x H1 else tb σ H1 Q) := by
  refine ⟨fun pins s σ H Q I h => ?_⟩
  refine BoolOp_or (thn (ha.run pins s σ H _ I h) fun v s1 ⟨x, H1, I1, r1, t, ht, q1⟩ => ?_)
  refine thn (tru_ok pins s1 σ H1 x v (fun c H2 => if c = true then Q x H2 else tb σ H2 Q) I1 r1 ⟨t, ht, q1⟩) fun c s2 ⟨H2, I2, q2⟩ => ?_
  cases c with
  | false => exact hb.run pins s2 σ H2 Q I2 q2
  | true => exact ⟨x, H2, I2, r1, q2⟩
theorem le_an {rest : List Expr} (ha : PE X a (LE X.K R F0 wa)) (hb : PE X (.BoolOp .And (b :: rest) pos) (LE X.K R F0 wb)) :
    PE X (.BoolOp .And (a :: b :: rest) pos) (LE X.K R F0 fun ρ h Q => wa ρ h fun d h1 => opt (truth h1 d) fun t => if t = true then wb ρ h1 Q else Q d h1) :=
  PE.imp (pe_andV ha hb) fun σ H Q ⟨F, h, ρ, Qd, s0, S, rs, hw, k⟩ => ⟨F, h, ρ, _, s0, S, rs, hw, fun F1 h1 H1 d v s1 S1 r1 q1 => by
    obtain ⟨t, e, q⟩ := opt_at q1
    refine ⟨t, truth_tru S1 r1 e, ?_⟩
    cases t with
    | true => exact ⟨F1, h1, ρ, _, s0.trans s1, S1, rs.mono s1, q, k.mono s1⟩
    | false => exact k F1 h1 H1 d v s1 S1 r1 q⟩
theorem le_or {rest : List Expr} (ha : PE X a (LE X.K R F0 wa)) (hb : PE X (.BoolOp .Or (b :: rest) pos) (LE X.K R F0 wb)) :
    PE X (.BoolOp .Or (a :: b :: rest) pos) (LE X.K R F0 fun ρ h Q => wa ρ h fun d h1 => opt (truth h1 d) fun t => if t = true then Q d h1 else wb ρ h1 Q) :=
  PE.imp (pe_orV ha hb) fun σ H Q ⟨F, h, ρ, Qd, s0, S, rs, hw, k⟩ => ⟨F, h, ρ, _, s0, S, rs, hw, fun F1 h1 H1 d v s1 S1 r1 q1 => by
    obtain ⟨t, e, q⟩ := opt_at q1
    refine ⟨t, truth_tru S1 r1 e, ?_⟩
    cases t with
    | false => exact ⟨F1, h1, ρ, _, s0.trans s1, S1, rs.mono s1, q, k.mono s1⟩
    | true => exact k F1 h1 H1 d v s1 S1 r1 q⟩
theorem le_ife (hc : PT X c (LT X.K R F0 wt)) (ha : PE X a (LE X.K R F0 wa)) (hb : PE X b (LE X.K R F0 wb)) : PE X (.IfExp c a b pos) (LE X.K R F0 fun ρ h Q => wt ρ h fun t h1 => if t = true then wa ρ h1 Q else wb ρ h1 Q) :=
  PE.imp (pe_ifExp hc ha hb) fun σ H Q ⟨F, h, ρ, Qd, s0, S, rs, hw, k⟩ => ⟨F, h, ρ, _, s0, S, rs, hw, fun F1 h1 H1 t s1 S1 q1 => by
    cases t with
    | true => exact ⟨F1, h1, ρ, _, s0.trans s1, S1, rs.mono s1, q1, k.mono s1⟩
    | false => exact ⟨F1, h1, ρ, _, s0.trans s1, S1, rs.mono s1, q1, k.mono s1⟩⟩

/-! arguments -/
variable {es : List Expr} {n : Nat} {wl : Sl → LH → QL → Prop}
theorem KontL.mono {K : PySem.W.Frag} {n : Nat} {F F' : Hp} {Ql : QL} {Q : List V → Hp → Prop} (k : KontL K R n F Ql Q) (s : Same F F') : KontL K R n F' Ql Q := fun F2 h2 H2 ds vs e s2 S r q => k F2 h2 H2 ds vs e (s.trans s2) S r q
theorem la_nil : PA X [] (LA X.K R F0 0 fun _ h Q => Q [] h) :=
  PA.imp pa_nil fun σ H Q ⟨F, h, ρ, Qd, s0, S, rs, hw, k⟩ => k F h H [] [] rfl (Same.refl F) S (by simp [RepL]) hw
theorem la_cons (ha : PE X a (LE X.K R F0 wa)) (hr : PA X es (LA X.K R F0 n wl)) (hs : noStar a = true) : PA X (a :: es) (LA X.K R F0 (n + 1) fun ρ h Q => wa ρ h fun d h1 => wl ρ h1 fun ds h2 => Q (d :: ds) h2) :=
  PA.imp (pa_cons ha hr (star_cons hs)) fun σ H Q ⟨F, h, ρ, Qd, s0, S, rs, hw, k⟩ => ⟨F, h, ρ, _, s0, S, rs, hw, fun F1 h1 H1 d v s1 S1 r1 q1 =>
    ⟨F1, h1, ρ, _, s0.trans s1, S1, rs.mono s1, q1, fun F2 h2 H2 ds vs el s2 S2 r2 q2 => k F2 h2 H2 (d :: ds) (v :: vs) (by simp [el]) (s1.trans s2) S2 (by simp only [RepL]; exact ⟨v, vs, rfl, r1.mono s2, r2⟩) q2⟩⟩
theorem KontL.len {K : PySem.W.Frag} {F : Hp} {ds : List D} {vs : List V} (r : RepL K F ds vs) (e : ds.length = n) (hn : n ≤ 1000) : vs.length ≤ sizeLine := by
  have h1 := r.length
  have h2 : 1000 ≤ sizeLine := by rw [sizeLine_eq]; decide
  omega
theorem le_tup {j : Nat} (ha : PA X es (LA X.K R F0 n wl)) (hn : n ≤ 1000) : PE X (.Tuple es j pos) (LE X.K R F0 fun ρ h Q => wl ρ h fun ds h1 => Q (.tup ds) h1) :=
  PE.imp (pe_tupN ha) fun σ H Q ⟨F, h, ρ, Qd, s0, S, rs, hw, k⟩ => ⟨F, h, ρ, _, s0, S, rs, hw, fun F1 h1 H1 ds vs el s1 S1 r1 q1 => ⟨KontL.len r1 el hn, (k.mono s1).newT S1 r1 q1⟩⟩
theorem le_lst (cc : Bool) (ha : PA X es (LA X.K R F0 n wl)) (hn : n ≤ 1000) : PE X (.List es pos) (LE X.K R F0 fun ρ h Q => wl ρ h fun ds h1 => mk cc ds h1 Q) :=
  PE.imp (pe_lst ha) fun σ H Q ⟨F, h, ρ, Qd, s0, S, rs, hw, k⟩ => ⟨F, h, ρ, _, s0, S, rs, hw, fun F1 h1 H1 ds vs el s1 S1 r1 q1 => ⟨KontL.len r1 el hn, (k.mono s1).mk S1 r1 q1⟩⟩
theorem le_newD : PE X (.Dict [] [] pos) (LE X.K R F0 fun _ h Q => ∀ a, h a = none → Q (.ref a) (put h a (.dct []))) :=
  PE.imp pe_dnewK fun σ H Q ⟨F, h, ρ, Qd, s0, S, rs, hw, k⟩ => k.newK S hw
theorem lo_no : PO X none (LOp X.K R F0 fun _ h Q => Q none h) :=
  PO.imp po_none fun σ H Q ⟨F, h, ρ, Qd, s0, S, rs, hw, k⟩ => k F h H none (Same.refl F) S hw
theorem lo_ex (ha : PE X a (LE X.K R F0 wa)) : PO X (some a) (LOp X.K R F0 fun ρ h Q => wa ρ h fun x h1 => opt (intv x) fun i => Q (some i) h1) :=
  PO.imp (po_some ha) fun σ H Q ⟨F, h, ρ, Qd, s0, S, rs, hw, k⟩ => ⟨F, h, ρ, _, s0, S, rs, hw, fun F1 h1 H1 d v s1 S1 r1 q1 => by
    obtain ⟨i, e, q⟩ := opt_at q1
    exact ⟨i, intv_at r1 e, k F1 h1 H1 (some i) s1 S1 q⟩⟩
theorem le_slc {lo hi : Option Expr} {p2 : Pos} {w1 w2 : Sl → LH → (Option Int → LH → Prop) → Prop} (ha : PE X a (LE X.K R F0 wa)) (h1 : PO X lo (LOp X.K R F0 w1)) (h2 : PO X hi (LOp X.K R F0 w2)) :
    PE X (.Subscript a (.Slice lo hi none p2) pos) (LE X.K R F0 fun ρ h Q => wa ρ h fun x h1 => w1 ρ h1 fun l h2 => w2 ρ h2 fun u h3 => sliceW x l u h3 Q) :=
  PE.imp (pe_slice slice_ok ha h1 h2) fun σ H Q ⟨F, h, ρ, Qd, s0, S, rs, hw, k⟩ => ⟨F, h, ρ, _, s0, S, rs, hw, fun F1 h1 H1 d v s1 S1 r1 q1 =>
    ⟨F1, h1, ρ, _, s0.trans s1, S1, rs.mono s1, q1, fun F2 h2 H2 l s2 S2 q2 => ⟨F2, h2, ρ, _, s0.trans (s1.trans s2), S2, rs.mono (s1.trans s2), q2, fun F3 h3 H3 u s3 S3 q3 =>
      ⟨R, F3, h3, d, Qd, S3, r1.mono (s2.trans s3), q3, k.mono (s1.trans (s2.trans s3))⟩⟩⟩⟩
end
end Lg

namespace Lg
open PySem PySem.Spec PyProof.Rows L2
def B.nm : B → Str
  | .len => "len" | .abs => "abs" | .int => "int" | .str => "str" | .repr => "repr" | .min => "min" | .max => "max" | .sum => "sum" | .any => "any" | .all => "all" | .sorted => "sorted" | .tuple => "tuple" | .list => "list" | .divmod => "divmod" | .dict => "dict"
theorem B.boot (b : B) : bootBuiltins b.nm = some b.val := by cases b <;> decide +kernel
theorem B.in_ (b : B) : b.nm ∈ bltNames := by cases b <;> decide +kernel
theorem B.nn (b : B) : b.nm ≠ "__name__" := by cases b <;> decide +kernel
section
variable {X : Cx} {R F0 : Hp} {a b c o : Expr} {es : List Expr} {n : Nat} {wa wb wc wo : Sl → LH → QD → Prop} {wl : Sl → LH → QL → Prop} {wt wu : Sl → LH → QB → Prop} {p pos apos cpos : Pos}
theorem ll_of {w : List D → LH → QD → Prop} {r : List V → Hp → VK → Prop} (hr : r = LL X.K w) {e : Expr} (h : PE X e (tCB r (LA X.K R F0 n wl))) : PE X e (LE X.K R F0 fun ρ h Q => wl ρ h fun ds h1 => w ds h1 Q) := by
  subst hr
  exact PE.imp h fun σ H Q ⟨F, h, ρ, Qd, s0, S, rs, hw, k⟩ => ⟨F, h, ρ, _, s0, S, rs, hw, fun F1 h1 H1 ds vs el s1 S1 r1 q1 => ⟨R, F1, h1, ds, Qd, S1, r1, q1, k.mono s1⟩⟩
theorem le_call1 {w : List D → LH → QD → Prop} {bi : B} (hc : CallR X bi.val (LL X.K w)) (hg : Gl X bi.nm) (hd : (bi.nm == ("__debug__" : Str)) = false) (hm : X.mg bi.nm = none) (ha : PA X (a :: es) (LA X.K R F0 n wl)) (h1 : noStar a = true) (h2 : noStars es = true) :
    PE X (.Call (.Name bi.nm p) (a :: es) [] pos) (LE X.K R F0 fun ρ h Q => wl ρ h fun ds h1 => w ds h1 Q) := by
  refine ll_of (n := n) rfl ?_
  have hv := B.boot bi
  have hn := B.nn bi
  cases e : bi.val with
  | builtin id => rw [e] at hc hv; exact pe_callB hc hg hm hv ha hn hd (star_cons h1) (plain_args h2)
  | type T => rw [e] at hc hv; exact pe_callTy hc hg hm hv ha hn hd (star_cons h1) (plain_args h2)
  | _ => cases bi <;> cases e
/-- isinstance(a, T) -/
def tyNames : List (Str × String) := [("int", "int"), ("str", "str"), ("bool", "bool"), ("tuple", "tuple"), ("list", "list"), ("dict", "dict")]
theorem tyNames_boot : ∀ q ∈ tyNames, bootBuiltins q.1 = some (.type q.2) ∧ q.1 ∈ bltNames ∧ q.1 ≠ "__name__" := by decide +kernel
theorem isi_in : ("isinstance" : Str) ∈ bltNames := by decide +kernel
theorem le_isa {x : Str} {T : String} {pt : Pos} (hq : (x, T) ∈ tyNames) (hb : ∀ x ∈ bltNames, X.mg x = none) (hg : Gl X "isinstance") (hx : Gl X x) (hxd : (x == ("__debug__" : Str)) = false) (ha : PE X a (LE X.K R F0 wa)) (h1 : noStar a = true) :
    PE X (.Call (.Name "isinstance" p) [a, .Name x pt] [] pos) (LE X.K R F0 fun ρ h Q => wa ρ h fun d h1 => opt (isaD h1 d T) fun b => Q (.bl b) h1) := by
  obtain ⟨e1, e2, e3⟩ := tyNames_boot _ hq
  have hT : PE X (.Name x pt) (tC (.ty T)) := pe_bltn hx (hb _ e2) e1 rfl e3 hxd
  refine PE.imp (pe_callB (isa_ok T) hg (hb _ isi_in) PyProof.Rows.boot_isinstance (pa_cons ha (pa_cons hT pa_nil rfl) (star_cons h1)) (by decide) (by decide) (star_cons h1) rfl) ?_
  intro σ H Q ⟨F, h, ρ, Qd, s0, S, rs, hw, k⟩
  refine ⟨F, h, ρ, _, s0, S, rs, hw, fun F1 h1 H1 d v s1 S1 r1 q1 => ?_⟩
  obtain ⟨t, e, q⟩ := opt_at q1
  exact ⟨v, rfl, R, F1, h1, d, Qd, S1, r1, ⟨t, e, q⟩, k.mono s1⟩
/-- a call of a def of the text -/
theorem run_fnG {k : Nat} {f : Addr} {fd : FuncData} {ps : List Str} {sp : Sp} {E : XK} {pins : List (Addr × Obj)} {σ : L2.St} {H : Hp} {s : Shared} {Q : VK} {us : List Value} {vs : List V} (Fn : FnG X.prog X.w X.K X.mg X.base k f fd ps sp) (hr : Room k X.A) (hgd : X.A.guards = some []) (hb : Binds X.K fd ps [])
    (hx : ∀ e s', L2.CX X.prog X.w X.stack H s E e s' → X.xe e s') (I : Inv X pins σ H s) (r : Vals vs us) (h : sp vs H Q E) : wpAny (model X.prog X.w) X.A (call (.ref f) us) (EP X pins σ Q) X.xe s := by
  have hl : us.length = ps.length := by rw [← r.length]; exact Fn.len _ _ _ _ h
  have hbb : BindsTo s fd ⟨us, []⟩ (ps.zip us) := by
    have := hb s us I.kIn (by rw [List.append_nil]; exact hl)
    rw [List.append_nil] at this
    exact this
  refine wpAny_call (codeAny_mono (Fn.run X.A X.stack s H ⟨us, []⟩ us vs Q E hr hgd I.env0 hbb r h) fun r s' hq => ?_)
  cases r with
  | error e => exact hx e s' hq
  | ok fl =>
    cases fl with
    | ret u => exact I.after hq
    | next => exact False.elim hq
    | brk => exact False.elim hq
    | cont => exact False.elim hq
theorem run_fnC {k : Nat} {f : Addr} {sp : Sp} {E : XK} {pins : List (Addr × Obj)} {σ : L2.St} {H : Hp} {s : Shared} {Q : VK} {us : List Value} {vs : List V} (Fn : FnC X.prog X.w X.K X.mg X.base k f sp) (hr : Room k X.A) (hgd : X.A.guards = some [])
    (hx : ∀ e s', L2.CX X.prog X.w X.stack H s E e s' → X.xe e s') (I : Inv X pins σ H s) (r : Vals vs us) (h : sp vs H Q E) : codeAny (model X.prog X.w) X.A (.call (.ref f) ⟨us, []⟩) (fun r s' => match r with | .ok (.ret v) => EP X pins σ Q v s' | .ok _ => False | .error e => X.xe e s') s := by
  refine codeAny_mono (Fn X.A X.stack s H us vs Q E hr hgd I.env0 r h) fun r s' hq => ?_
  cases r with
  | error e => exact hx e s' hq
  | ok fl =>
    cases fl with
    | ret u => exact I.after hq
    | next => exact False.elim hq
    | brk => exact False.elim hq
    | cont => exact False.elim hq
/-- the call itself, behind its arguments -/
theorem go_fn {Γ : G} {ec : List Addr} {P : Prm} {ed : EXS} {i : Nat} {f : Addr} (g : Good Γ ec X R F0 P ed) (Fn : FnAt X ec none (P.cf i) f) {pins : List (Addr × Obj)} {σ : L2.St} {H : Hp} {s : Shared} {Q : VK} {us : List Value} {vs : List V} {F : Hp} {h : LH} {ds : List D} {Qd : QD} {ρ : Sl}
    (I : Inv X pins σ H s) (r : Vals vs us) (s0 : Same F0 F) (S : Sim X.K R F h H) (rs : RepS X.K F ρ σ) (rd : RepL X.K F ds vs) (q : P.cf i ds h Qd fun x h2 => ed x ρ h2) (kk : Kont X.K R F Qd Q) : codeAny (model X.prog X.w) X.A (.call (.ref f) ⟨us, []⟩) (fun r s' => match r with | .ok (.ret v) => EP X pins σ Q v s' | .ok _ => False | .error e => X.xe e s') s := by
  obtain ⟨k, hr, hk, F1⟩ := Fn
  refine run_fnC (E := fun cls d H => wOf X.K ec R F0 ed cls d σ H) F1 (hr.mono (by omega)) g.gd (fun e s' c => g.tk e s' (XE.of_call I (fun _ _ _ z => z) c)) I r ?_
  exact ⟨R, F, h, ds, Qd, _, S, rd, q, kk, fun F2 h2 H2 x cls d s2 S2 rx q2 => ⟨F2, h2, x, ρ, s0.trans s2, S2, rx, rs.mono s2, q2⟩⟩
theorem go_fnS {Γ : G} {ec : List Addr} {P : Prm} {ed : EXS} {i n : Nat} {f : Addr} (g : Good Γ ec X R F0 P ed) (Fn : FnAt X ec (some n) (P.cf i) f) {pins : List (Addr × Obj)} {σ : L2.St} {H : Hp} {s : Shared} {Q : VK} {us : List Value} {vs : List V} {F : Hp} {h : LH} {ds : List D} {Qd : QD} {ρ : Sl}
    (I : Inv X pins σ H s) (r : Vals vs us) (s0 : Same F0 F) (S : Sim X.K R F h H) (rs : RepS X.K F ρ σ) (rd : RepL X.K F ds vs) (hn : n ≤ ds.length ∧ ds.length ≤ sizeLine) (q : P.cf i (ds.take n ++ [.tup (ds.drop n)]) h Qd fun x h2 => ed x ρ h2) (kk : Kont X.K R F Qd Q) : codeAny (model X.prog X.w) X.A (.call (.ref f) ⟨us, []⟩) (fun r s' => match r with | .ok (.ret v) => EP X pins σ Q v s' | .ok _ => False | .error e => X.xe e s') s := by
  obtain ⟨k, hr, hk, F1⟩ := Fn
  refine run_fnC (E := fun cls d H => wOf X.K ec R F0 ed cls d σ H) F1 (hr.mono (by omega)) g.gd (fun e s' c => g.tk e s' (XE.of_call I (fun _ _ _ z => z) c)) I r ?_
  exact ⟨R, F, h, ds, Qd, _, S, rd, hn, q, kk, fun F2 h2 H2 x cls d s2 S2 rx q2 => ⟨F2, h2, x, ρ, s0.trans s2, S2, rx, rs.mono s2, q2⟩⟩
theorem le_fn {Γ : G} {ec : List Addr} {P : Prm} {ed : EXS} {i : Nat} {x : Str} (g : Good Γ ec X R F0 P ed) (hc : Γ.calm = true) (hi : Γ.fs[i]? = some x) (hx0 : x ≠ ("" : Str)) (hst : stOf Γ i = none) (hg : Gl X x) (hd : (x == ("__debug__" : Str)) = false) (ha : PA X (a :: es) (LA X.K R F0 n wl)) (h1 : noStar a = true) (hs : noStars es = true) :
    PE X (.Call (.Name x p) (a :: es) [] pos) (LE X.K R F0 fun ρ h Q => wl ρ h fun ds h1 => P.cf i ds h1 Q fun x h2 => ed x ρ h2) := by
  have Fn := g.fs hc i x hi
  rw [hst] at Fn
  have hm := g.nm i x hi hx0
  obtain ⟨_, _, hk, _⟩ := id Fn
  refine ⟨fun pins s σ H Q I hw => ?_⟩
  refine wpAny_Call_Name_kw (ld_glob I hg hm ?_ hd)
  obtain ⟨F, h, ρ, Qd, s0, S, rs, hw, kk⟩ := hw
  have hA := ha.run pos pins s σ H (fun vs H1 => ∃ F1 h1 ds, Same F F1 ∧ Sim X.K R F1 h1 H1 ∧ RepL X.K F1 ds vs ∧ P.cf i ds h1 Qd fun x h2 => ed x ρ h2) I ⟨F, h, ρ, _, s0, S, rs, hw, fun F1 h1 H1 ds vs _ s1 S1 r1 q => ⟨F1, h1, ds, s1, S1, r1, q⟩⟩
  refine PySem.W.callWith_K (h₀ := X.base) I.ok.mod.kin hk (thn hA fun us s1 ⟨vs, H1, I1, r, F1, h1, ds, s1', S1, r1, q⟩ => ⟨I1.kIn, ?_⟩) (star_cons h1) (plain_args hs)
  exact wpAny_call (go_fn g Fn I1 r (s0.trans s1') S1 (rs.mono s1') r1 q (kk.mono s1'))

/-! methods -/
theorem tyV_list {F : Hp} {h : LH} {H : Hp} {d : D} {v : V} (S : Sim X.K R F h H) (r : Rep X.K F d v) (e : (lstv h d).isSome = true) : tyV X.K "list" v H := by
  obtain ⟨ds, e⟩ := Option.isSome_iff_exists.mp e
  obtain ⟨p, vs, rfl, q, _⟩ := lst_at S r e
  exact .inl ⟨rfl, vs, SqL.of q⟩
theorem le_append (ho : PE X o (LE X.K R F0 wo)) (ha : PA X [a] (LA X.K R F0 n wl)) (h1 : noSup o = true) (h2 : noStar a = true) (h3 : (apos.endLine == cpos.line) = true) :
    PE X (.Call (.Attribute o "append" apos) [a] [] cpos) (LE X.K R F0 fun ρ h Q => wo ρ h fun x h1 => methT .append x h1 ∧ wl ρ h1 fun ds h2 => methW .append x ds h2 Q) := by
  refine PE.imp (pe_bm PySem.F.plainAttrs_list PySem.F.slot_list_append PySem.F.type_list_append mt_append ho ha (ab_eq h1) (few1 h2) h3 (star_cons h2) rfl) ?_
  intro σ H Q ⟨F, h, ρ, Qd, s0, S, rs, hw, k⟩
  refine ⟨F, h, ρ, _, s0, S, rs, hw, fun F1 h1 H1 d v s1 S1 r1 ⟨ty, q1⟩ => ⟨tyV_list S1 r1 ty, F1, h1, ρ, _, s0.trans s1, S1, rs.mono s1, q1, fun F2 h2 H2 ds vs el s2 S2 r2 q2 => ?_⟩⟩
  simp only [methW] at q2
  obtain ⟨y, rfl, q2⟩ := one_at q2
  obtain ⟨ad, es, zs, ed, ev, eh, eH, rr, hz, q3⟩ := cell_at S2 (r1.mono s2) q2
  obtain ⟨w, rfl, rw⟩ := repL1 r2
  have hl := rr.length
  refine ⟨ad, zs, w, ev, rfl, eH, by omega, k F2 _ _ .non _ (s1.trans s2) (S2.write (c := .lst (es ++ [y])) eh ⟨_, rfl, rr.append (.one rw)⟩) rfl q3⟩
theorem getLast_at {α : Type} {l : List α} {x : α} (h : l.getLast? = some x) : l[l.length - 1]? = some x := by
  rw [List.getLast?_eq_getElem?] at h; exact h
theorem le_pop (ho : PE X o (LE X.K R F0 wo)) (h1 : noSup o = true) (h3 : (apos.endLine == cpos.line) = true) :
    PE X (.Call (.Attribute o "pop" apos) [] [] cpos) (LE X.K R F0 fun ρ h Q => wo ρ h fun x h1 => methT .pop x h1 ∧ methW .pop x [] h1 Q) := by
  refine PE.imp (pe_bm0 PySem.F.plainAttrs_list PySem.F.slot_list_pop PySem.F.type_list_pop mt_pop ho (ab_eq h1) h3) ?_
  intro σ H Q ⟨F, h, ρ, Qd, s0, S, rs, hw, k⟩
  refine ⟨F, h, ρ, _, s0, S, rs, hw, fun F1 h1 H1 d v s1 S1 r1 ⟨ty, q1⟩ => ⟨tyV_list S1 r1 ty, ?_⟩⟩
  simp only [methW] at q1
  obtain ⟨ad, es, zs, ed, ev, eh, eH, rr, q3⟩ := cell_at S1 r1 q1.2
  obtain ⟨y, ey, q3⟩ := opt_at q3
  obtain ⟨w, ew, rw⟩ := rr.get (getLast_at ey)
  have hl := rr.length
  have e1 : es.dropLast = es.take (es.length - 1) := List.dropLast_eq_take ..
  have e2 : zs.dropLast = zs.take (zs.length - 1) := List.dropLast_eq_take ..
  have rd : RepL X.K F1 es.dropLast zs.dropLast := by rw [e1, e2, hl]; exact rr.take _
  exact ⟨ad, zs, w, ev, rfl, eH, by rw [← hl]; exact ew, k F1 _ _ y w s1 (S1.write (c := .lst es.dropLast) eh ⟨_, rfl, rd⟩) rw q3⟩
theorem noD_is {pins : List (Addr × Obj)} {σ : L2.St} {H : Hp} {s : Shared} {p : Addr} (I : Inv X pins σ H s) (n : NoD X.K H p) : s.TypeIs (.ref p) "tuple" ∧ ∀ a, Value.ref p = .ref a → ∃ ob, s.heap.get? a = some ob ∧ ob.dict = none := by
  obtain ⟨o, e, hc, hd⟩ : ∃ o, s.heap.get? p = some o ∧ o.cls = .type "tuple" ∧ o.dict = none := by
    rcases n with ⟨o, u, e, hc, hd⟩ | ⟨o, e, hc, hd⟩
    · exact ⟨o, (I.hok p _ e).1, hc, hd⟩
    · exact ⟨o, I.kIn _ o e, hc, hd⟩
  refine ⟨⟨o, e, hc⟩, fun a q => ?_⟩
  cases q
  exact ⟨o, e, hd⟩
def tBMT (K : PySem.W.Frag) (r : V → List V → Hp → VK → Prop) (to : TE) (t : TA) : TE := fun σ H Q => to σ H fun x H1 => (∃ p, x = .ref p ∧ NoD K H1 p) ∧ t σ H1 fun xs H2 => r x xs H2 Q
theorem pe_bmT {o e : Expr} {es : List Expr} {to : TE} {t : TA} {name : Str} {apos cpos : Pos} {id : String} {r : V → List V → Hp → VK → Prop} (pa : PlainAttrs "tuple") (slot : Slot "tuple" name id) (hty : typeOf (.builtin id) = pure (.type "method_descriptor")) (hm : MtM X id r) (ho : PE X o to) (ha : PA X (e :: es) t)
    (hbase : attributeBase o name X.env (eval o X.env) = eval o X.env)
    (hfew : ((backTo cpos (starEach (e :: es) X.env)).all (fun x => !x.1) && (backToKw cpos (keywordEach [] X.env)).all (fun x => x.1.isSome)
      && decide ((e :: es).length + ([] : List Keyword).length + (if ([] : List Keyword).isEmpty then 0 else 1) < 30)) = true)
    (hline : (apos.endLine == cpos.line) = true) (hs : starEach (e :: es) X.env = (false, eval e X.env) :: starEach es X.env) (hplain : (backTo cpos (starEach es X.env)).any (·.1) = false) :
    PE X (.Call (.Attribute o name apos) (e :: es) [] cpos) (tBMT X.K r to t) := by
  refine ⟨fun pins s σ H Q I h => ?_⟩
  refine wpAny_Call_method_late hbase hfew hline rfl (thn (ho.run pins s σ H _ I h) fun v s1 ⟨x, H1, I1, r1, ty, q1⟩ => ?_)
  obtain ⟨p, rfl, nd⟩ := ty
  have rv := r1
  cases r1
  obtain ⟨h1, h2⟩ := noD_is I1 nd
  refine ⟨"tuple", id, pa, slot, hty, h1, h2, ?_⟩
  have hA := ha.run cpos pins s1 σ H1 _ I1 q1
  rw [hs] at hA ⊢
  refine Calls.callWith_builtin (by show (false || (backTo cpos (starEach es X.env)).any (·.1)) = false; rw [hplain] <;> rfl) (Calls.evalArgs_plain ?_)
  exact thn hA fun us s2 ⟨vs, H2, I2, r2, q2⟩ => hm pins s2 σ H2 _ vs _ us Q I2 rv r2 q2
def rCntT (X : Cx) : V → List V → Hp → VK → Prop := fun x xs H Q => ∃ R F h dx dy ds as b Qd, Sim X.K R F h H ∧ dx = .tup ds ∧ Rep X.K F dx x ∧ RepL X.K F [dy] xs ∧ pyL ds = some as ∧ pv_ h dy = some b ∧ min (PyData.depthAll as) b.depth ≤ 60 ∧ Qd (.int ((as.countP fun z => PyData.eqv z b : Nat) : Int)) h ∧ Kont X.K R F Qd Q
theorem mt_tcount (hu : X.A.units + 64 < cLine) : MtM X "tuple.count" (rCntT X) := by
  intro pins s σ H x xs v us Q I rx rs ⟨R, F, h, dx, dy, ds, as, b, Qd, S, edx, r1, r2, e1, e2, hd, q, k⟩
  subst edx
  obtain ⟨w, rfl, rw⟩ := repL1 r2
  obtain ⟨u, rfl, ru⟩ := vals1 rs
  obtain ⟨p, vs, rfl, hq, rl⟩ := tup_at S r1
  cases rx
  obtain ⟨its, rv, pl, hz⟩ := I.tuple hq
  obtain ⟨bs, rd⟩ := pyL_reads I S ds e1 rl rv
  obtain ⟨cs, rb⟩ := pv_reads I S e2 rw ru
  refine PySem.SeqAt.count_tuple_data (vs := its.toArray) pl (by simpa using rd) rb (pyL_plain ds e1) (pv_plain e2) (by omega) ?_
  exact ⟨.int ((as.countP fun z => PyData.eqv z b : Nat) : Int), H, I.tok _, ⟨_, rfl⟩, k.i S q⟩
theorem le_count (hu : X.A.units + 64 < cLine) (ho : PE X o (LE X.K R F0 wo)) (ha : PE X a (LE X.K R F0 wa)) (h1 : noSup o = true) (h2 : noStar a = true) (h3 : (apos.endLine == cpos.line) = true) :
    PE X (.Call (.Attribute o "count" apos) [a] [] cpos) (LE X.K R F0 fun ρ h Q => wo ρ h fun x h1 => methT .count x h1 ∧ wa ρ h1 fun y h2 => methW .count x [y] h2 Q) := by
  refine PE.imp (pe_bmT PySem.F.plainAttrs_tuple PySem.F.slot_tuple_count PySem.F.type_tuple_count (mt_tcount hu) ho (pa_cons ha pa_nil (star_cons h2)) (ab_eq h1) (few1 h2) h3 (star_cons h2) rfl) ?_
  intro σ H Q ⟨F, h, ρ, Qd, s0, S, rs, hw, k⟩
  refine ⟨F, h, ρ, _, s0, S, rs, hw, fun F1 h1 H1 d v s1 S1 r1 ⟨ty, q1⟩ => ?_⟩
  obtain ⟨ds, et⟩ := Option.isSome_iff_exists.mp (show (tupv d).isSome = true from ty)
  have et' := tupv_at et
  subst et'
  refine ⟨tup_nod S1 r1, F1, h1, ρ, _, s0.trans s1, S1, rs.mono s1, q1, fun F2 h2 H2 y w s2 S2 r2 q2 => ?_⟩
  simp only [methW, one] at q2
  obtain ⟨ds', e0, q2⟩ := opt_at q2
  cases e0
  obtain ⟨as, e1, q2⟩ := opt_at q2
  obtain ⟨b, e2, hd, q2⟩ := opt_at q2
  exact ⟨R, F2, h2, _, y, ds, as, b, Qd, S2, rfl, r1.mono s2, .one r2, e1, e2, hd, q2, k.mono (s1.trans s2)⟩
def rIdxL (X : Cx) : V → List V → Hp → VK → Prop := fun x xs H Q => ∃ R F h dx dy ds as b j Qd, Sim X.K R F h H ∧ lstv h dx = some ds ∧ Rep X.K F dx x ∧ RepL X.K F [dy] xs ∧ pyL ds = some as ∧ pv_ h dy = some b ∧ min (PyData.depthAll as) b.depth ≤ 60 ∧ PySem.SeqAt.dataPlace as b = some j ∧ Qd (.int (j : Nat)) h ∧ Kont X.K R F Qd Q
theorem mt_lindex (hu : X.A.units + 64 < cLine) : MtM X "list.index" (rIdxL X) := by
  intro pins s σ H x xs v us Q I rx rs ⟨R, F, h, dx, dy, ds, as, b, j, Qd, S, ex, r1, r2, e1, e2, hd, hj, q, k⟩
  obtain ⟨w, rfl, rw⟩ := repL1 r2
  obtain ⟨u, rfl, ru⟩ := vals1 rs
  obtain ⟨p, vs, rfl, hq, rl⟩ := lst_at S r1 ex
  cases rx
  obtain ⟨its, rv, pl, hz⟩ := I.list (SqL.of (K := X.K) hq)
  obtain ⟨bs, rd⟩ := pyL_reads I S ds e1 rl rv
  obtain ⟨cs, rb⟩ := pv_reads I S e2 rw ru
  have rd' : ReadsAll s.heap its.toArray.toList as bs := by simpa using rd
  obtain ⟨⟨cls, dd, data, sl⟩, ho, hc, n, hd'⟩ := id pl.isList
  simp only at hc hd'
  subst hc hd'
  obtain ⟨hj', hit, hno⟩ := PySem.SeqAt.hit_at (d := b) rd' (pyL_plain ds e1) hj
  have hl2 : its.length = vs.length := rv.length.symm
  have hs2 : its.toArray.size = vs.length := by rw [List.size_toArray, hl2]
  rw [sizeLine_eq] at hz
  refine call_meets PySem.F.slot_list_index ⟨_, ho, rfl⟩ PySem.F.entry_list_index (PySem.F.args_list_index_2 _ _)
    (PySem.SeqAt.list_index2_found p its.toArray n dd sl u (fun m => match its.toArray[m]? with
      | some y => PyData.eqv (PySem.SeqAt.readOf s.heap y) b
      | none => false) j hj' (Nat.zero_le _) (by omega) (by simp only [Array.getElem?_eq_getElem hj']; exact hit) (fun m hm _ hlt => by simp only [Array.getElem?_eq_getElem hm]; exact hno m hm hlt)) ⟨ho, fun m hm => ?_, ?_⟩
  · simp only [Array.getElem?_eq_getElem hm]
    exact PySem.SeqAt.items_plain rd' rb (pyL_plain ds e1) (pv_plain e2) (by omega) _ (Array.getElem_mem hm)
  · exact ⟨.int (j : Nat), H, I.tok _, ⟨_, rfl⟩, k.i S q⟩
theorem le_index (hu : X.A.units + 64 < cLine) (ho : PE X o (LE X.K R F0 wo)) (ha : PE X a (LE X.K R F0 wa)) (h1 : noSup o = true) (h2 : noStar a = true) (h3 : (apos.endLine == cpos.line) = true) :
    PE X (.Call (.Attribute o "index" apos) [a] [] cpos) (LE X.K R F0 fun ρ h Q => wo ρ h fun x h1 => methT .index x h1 ∧ wa ρ h1 fun y h2 => methW .index x [y] h2 Q) := by
  refine PE.imp (pe_bm PySem.F.plainAttrs_list PySem.F.slot_list_index PySem.F.type_list_index (mt_lindex hu) ho (pa_cons ha pa_nil (star_cons h2)) (ab_eq h1) (few1 h2) h3 (star_cons h2) rfl) ?_
  intro σ H Q ⟨F, h, ρ, Qd, s0, S, rs, hw, k⟩
  refine ⟨F, h, ρ, _, s0, S, rs, hw, fun F1 h1 H1 d v s1 S1 r1 ⟨ty, q1⟩ => ⟨tyV_list S1 r1 ty, F1, h1, ρ, _, s0.trans s1, S1, rs.mono s1, q1, fun F2 h2 H2 y w s2 S2 r2 q2 => ?_⟩⟩
  simp only [methW, one] at q2
  obtain ⟨ds, e0, q2⟩ := opt_at q2
  obtain ⟨as, e1, q2⟩ := opt_at q2
  obtain ⟨b, e2, hd, q2⟩ := opt_at q2
  obtain ⟨j, hj, q2⟩ := opt_at q2
  exact ⟨R, F2, h2, d, y, ds, as, b, j, Qd, S2, e0, r1.mono s2, .one r2, e1, e2, hd, hj, q2, k.mono (s1.trans s2)⟩
theorem RepL.eraseIdx {K : PySem.W.Frag} {F : Hp} : ∀ (n : Nat) {ds : List D} {vs : List V}, RepL K F ds vs → RepL K F (ds.eraseIdx n) (vs.eraseIdx n)
  | _, [], _, h => by simp only [RepL] at h; subst h; simp [RepL]
  | 0, _ :: _, _, h => by
    simp only [RepL] at h
    obtain ⟨v, r, rfl, h1, h2⟩ := h
    simpa using h2
  | n + 1, _ :: _, _, h => by
    simp only [RepL] at h
    obtain ⟨v, r, rfl, h1, h2⟩ := h
    simp only [List.eraseIdx_cons_succ, RepL]
    exact ⟨v, _, rfl, h1, RepL.eraseIdx n h2⟩
theorem le_popi (ho : PE X o (LE X.K R F0 wo)) (ha : PE X a (LE X.K R F0 wa)) (h1 : noSup o = true) (h2 : noStar a = true) (h3 : (apos.endLine == cpos.line) = true) :
    PE X (.Call (.Attribute o "pop" apos) [a] [] cpos) (LE X.K R F0 fun ρ h Q => wo ρ h fun x h1 => methT .popi x h1 ∧ wa ρ h1 fun y h2 => methW .popi x [y] h2 Q) := by
  refine PE.imp (pe_bm PySem.F.plainAttrs_list PySem.F.slot_list_pop PySem.F.type_list_pop mt_popAt ho (pa_cons ha pa_nil (star_cons h2)) (ab_eq h1) (few1 h2) h3 (star_cons h2) rfl) ?_
  intro σ H Q ⟨F, h, ρ, Qd, s0, S, rs, hw, k⟩
  refine ⟨F, h, ρ, _, s0, S, rs, hw, fun F1 h1 H1 d v s1 S1 r1 ⟨ty, q1⟩ => ⟨tyV_list S1 r1 ty, F1, h1, ρ, _, s0.trans s1, S1, rs.mono s1, q1, fun F2 h2 H2 y w s2 S2 r2 q2 => ?_⟩⟩
  simp only [methW, one] at q2
  obtain ⟨ad, es, zs, ed, ev, eh, eH, rr, q3⟩ := cell_at S2 (r1.mono s2) q2
  obtain ⟨i, ei, ⟨b1, b2⟩, q3⟩ := opt_at q3
  obtain ⟨j, ej, q3⟩ := opt_at q3
  obtain ⟨x, ex, q3⟩ := opt_at q3
  obtain ⟨w', ew, rw'⟩ := rr.get ex
  have hl := rr.length
  obtain ⟨g1, g2, g3, g4⟩ := ixN_seq ej
  exact ⟨ad, zs, i, j, w', ev, by rw [intv_at r2 ei], eH, by omega, by omega, by rw [← hl]; exact g1, ew, k F2 _ _ x w' (s1.trans s2) (S2.write (c := .lst (es.eraseIdx j)) eh ⟨_, rfl, rr.eraseIdx j⟩) rw' q3⟩
def rSrv (X : Cx) (c : Bool) : List V → List V → Hp → VK → Prop := fun vs zs H Q => zs = [.bl true] ∧ ∃ R F h dx ds as Qd, Sim X.K R F h H ∧ lstv h dx = some ds ∧ RepL X.K F [dx] vs ∧ pyL ds = some as ∧ (PySem.W.AllAlike as ∧ PySem.W.Sortable as ∧ PyData.depthAll as ≤ 60) ∧ mk c (ds.mergeSort (PySem.W.dataLe true pyD)) h Qd ∧ Kont X.K R F Qd Q
theorem cr_srv {c : Bool} (hu : X.A.units + 64 < cLine) : CallRK X (.builtin "sorted") [Str.ofString "reverse"] (rSrv X c) := by
  intro pins s σ H vs zs us ws Q I r rz ⟨ez, R, F, h, dx, ds, as, Qd, S, es, rr, ep, ⟨al, sk, dp⟩, q, k⟩
  subst ez
  obtain ⟨v, rfl, r1⟩ := repL1 rr
  obtain ⟨u, rfl, rx⟩ := vals1 r
  obtain ⟨w1, rfl, e1⟩ := vals1 rz
  obtain rfl : w1 = Value.bool true := e1
  obtain ⟨p, vs, ex, hq, rl⟩ := lst_at S r1 es
  subst ex
  cases rx
  exact sorted_rev hu I S (SqL.of hq) rl ep al sk dp fun ws r4 => k.mk S r4 q
theorem le_srv {c : Bool} {j : Nat} {p q1 kp pos : Pos} (hu : X.A.units + 64 < cLine) (hg : Gl X "sorted") (hm : X.mg "sorted" = none) (hv : bootBuiltins "sorted" = some (.builtin "sorted")) (ha : PE X a (LE X.K R F0 wa)) (h2 : noStar a = true) :
    PE X (.Call (.Name "sorted" p) [a] [⟨some "reverse", .Constant (.bool true) j q1, kp⟩] pos) (LE X.K R F0 fun ρ h Q => wa ρ h fun x h1 => opt (lstv h1 x) fun ds => opt (pyL ds) fun as => (PySem.W.AllAlike as ∧ PySem.W.Sortable as ∧ PyData.depthAll as ≤ 60) ∧ mk c (ds.mergeSort (PySem.W.dataLe true pyD)) h1 Q) := by
  refine PE.imp (pe_callBK (cr_srv (c := c) hu) hg hm hv (pa_cons ha pa_nil (star_cons h2)) (pk_cons pe_bl pk_nil) (he := by rw [star_cons h2]; rfl) (hpl := by rw [star_cons h2]; rfl)) ?_
  intro σ H Q ⟨F, h, ρ, Qd, s0, S, rs, hw, k⟩
  refine ⟨F, h, ρ, _, s0, S, rs, hw, fun F1 h1 H1 d v s1 S1 r1 q1 => ?_⟩
  obtain ⟨ds, es, q1⟩ := opt_at q1
  obtain ⟨as, ep, hc, q1⟩ := opt_at q1
  exact ⟨rfl, R, F1, h1, d, ds, as, Qd, S1, es, .one r1, ep, hc, q1, k.mono s1⟩
theorem dget_at {F : Hp} {H : Hp} {kd : D} {kv : V} {p : Addr} {kvs : List (Key × D)} {kws : List (Key × V)} {k : Key} (r : RepKV X.K F kvs kws) (hp : H p = some (.dK kws)) (rk : Rep X.K F kd kv) (ek : keyOf kd = some k) :
    ∃ ov, DGet H p kv ov ∧ ((look kvs k = none ∧ ov = none) ∨ ∃ d v, look kvs k = some d ∧ ov = some v ∧ Rep X.K F d v) := by
  have ey := key_of rk ek
  subst ey
  refine ⟨_, DGet.k hp, ?_⟩
  rcases look_rep r k with ⟨l1, l2⟩ | ⟨d, v, l1, l2, rd⟩
  · exact .inl ⟨l1, l2⟩
  · exact .inr ⟨d, v, l1, l2, rd⟩
theorem le_get1 (hu : X.A.units + 64 < cLine) (ho : PE X o (LE X.K R F0 wo)) (ha : PE X a (LE X.K R F0 wa)) (h1 : noSup o = true) (h2 : noStar a = true) (h3 : (apos.endLine == cpos.line) = true) :
    PE X (.Call (.Attribute o "get" apos) [a] [] cpos) (LE X.K R F0 fun ρ h Q => wo ρ h fun x h1 => methT .get1 x h1 ∧ wa ρ h1 fun y h2 => methW .get1 x [y] h2 Q) := by
  refine PE.imp (pe_dget1 (by omega) ho ha (m1_of h1 h2 h3)) ?_
  intro σ H Q ⟨F, h, ρ, Qd, s0, S, rs, hw, k⟩
  refine ⟨F, h, ρ, _, s0, S, rs, hw, fun F1 h1 H1 d v s1 S1 r1 ⟨ty, q1⟩ => ?_⟩
  obtain ⟨kvs, ek⟩ := Option.isSome_iff_exists.mp ty
  obtain ⟨p, kws, rfl, hp, rr⟩ := dct_at S1 r1 ek
  refine ⟨p, rfl, .inl ⟨kws, .inl hp⟩, F1, h1, ρ, _, s0.trans s1, S1, rs.mono s1, q1, fun F2 h2 H2 y w s2 S2 r2 q2 => ?_⟩
  simp only [methW, one] at q2
  obtain ⟨kvs2, e2, q2⟩ := opt_at q2
  obtain ⟨kk, ekk, q2⟩ := opt_at q2
  obtain ⟨p2, kws2, ep, hp2, rr2⟩ := dct_at S2 (r1.mono s2) e2
  cases ep
  obtain ⟨ov, g, hov⟩ := dget_at rr2 hp2 r2 ekk
  refine ⟨ov, g, ?_⟩
  rcases hov with ⟨l1, rfl⟩ | ⟨dd, vv, l1, rfl, rd⟩
  · rw [l1] at q2; exact (k.mono (s1.trans s2)).n S2 q2
  · rw [l1] at q2; exact (k.mono (s1.trans s2)).here S2 rd q2
theorem le_get2 (hu : X.A.units + 64 < cLine) (ho : PE X o (LE X.K R F0 wo)) (ha : PE X a (LE X.K R F0 wa)) (hb : PE X b (LE X.K R F0 wb)) (h1 : noSup o = true) (h2 : noStar a = true) (h4 : noStar b = true) (h3 : (apos.endLine == cpos.line) = true) :
    PE X (.Call (.Attribute o "get" apos) [a, b] [] cpos) (LE X.K R F0 fun ρ h Q => wo ρ h fun x h1 => methT .get2 x h1 ∧ wa ρ h1 fun y h2 => wb ρ h2 fun z h3 => methW .get2 x [y, z] h3 Q) := by
  refine PE.imp (pe_dget2 (by omega) ho ha hb (m2_of h1 h2 h4 h3)) ?_
  intro σ H Q ⟨F, h, ρ, Qd, s0, S, rs, hw, k⟩
  refine ⟨F, h, ρ, _, s0, S, rs, hw, fun F1 h1 H1 d v s1 S1 r1 ⟨ty, q1⟩ => ?_⟩
  obtain ⟨kvs, ek⟩ := Option.isSome_iff_exists.mp ty
  obtain ⟨p, kws, rfl, hp, rr⟩ := dct_at S1 r1 ek
  refine ⟨p, rfl, .inl ⟨kws, .inl hp⟩, F1, h1, ρ, _, s0.trans s1, S1, rs.mono s1, q1, fun F2 h2 H2 y w s2 S2 r2 q2 => ⟨F2, h2, ρ, _, s0.trans (s1.trans s2), S2, rs.mono (s1.trans s2), q2, fun F3 h3 H3 z u s3 S3 r3 q3 => ?_⟩⟩
  simp only [methW, two] at q3
  obtain ⟨kvs2, e2, q3⟩ := opt_at q3
  obtain ⟨kk, ekk, q3⟩ := opt_at q3
  obtain ⟨p2, kws2, ep, hp2, rr2⟩ := dct_at S3 (r1.mono (s2.trans s3)) e2
  cases ep
  obtain ⟨ov, g, hov⟩ := dget_at rr2 hp2 (r2.mono s3) ekk
  refine ⟨ov, g, ?_⟩
  rcases hov with ⟨l1, rfl⟩ | ⟨dd, vv, l1, rfl, rd⟩
  · rw [l1] at q3; exact (k.mono (s1.trans (s2.trans s3))).here S3 r3 q3
  · rw [l1] at q3; exact (k.mono (s1.trans (s2.trans s3))).here S3 rd q3
/-- e.f in an except suite -/
theorem repFs_look {K : PySem.W.Frag} {F : Hp} {f : Str} {d : D} : ∀ {fs : List (Str × D)} {gs : List (Str × V)}, RepFs K F fs gs → fs.lookup f = some d → ∃ v, gs.lookup f = some v ∧ Rep K F d v
  | [], _, _, e => by simp at e
  | (g, x) :: fs, _, r, e => by
    simp only [RepFs] at r
    obtain ⟨v, r', rfl, h1, h2⟩ := r
    rw [List.lookup_cons] at e ⊢
    split at e
    · cases e; exact ⟨v, rfl, h1⟩
    · exact repFs_look h2 e
theorem hotW_at {o : Option (Addr × Exn)} {d : D} {f : Str} {Q : D → Prop} (h : hotW o d f Q) : ∃ a x, o = some (a, x) ∧ d = .ref a ∧ opt (x.fs.lookup f) Q := by
  cases o with
  | none => exact h.elim
  | some q =>
    obtain ⟨a, x⟩ := q
    cases d with
    | ref b =>
      obtain ⟨e, h'⟩ := (show a = b ∧ opt (x.fs.lookup f) Q from h)
      exact ⟨a, x, rfl, by rw [e], h'⟩
    | _ => exact h.elim
theorem le_xf {Γ : G} {ec : List Addr} {P : Prm} {ed : EXS} {i : Nat} {x f : Str} {px : Pos} (g : Good Γ ec X R F0 P ed) (hr : rdB Γ i x = true) (hf : f ∈ xNames) : PE X (.Attribute (.Name x px) f pos) (LE X.K R F0 fun ρ h Q => opt (slot ρ i) fun d => hotW P.hot d f fun v => Q v h) := by
  refine ⟨fun pins s σ H Q I hw => ?_⟩
  obtain ⟨F, h, ρ, Qd, s0, S, rs, hw, k⟩ := hw
  obtain ⟨d, ed', hw⟩ := opt_at hw
  obtain ⟨ad, xx, eh, ed2, hw2⟩ := hotW_at hw
  obtain ⟨v, ev, hw3⟩ := opt_at hw2
  obtain ⟨X0, oe, pn, cls, dd, rfl, hz, hv, C, dx, fs', ec, ecl, edd, eF, rf⟩ := g.hot _ _ eh
  obtain ⟨xfc, hno⟩ := g.xf _ _ ec
  obtain ⟨w, ew, rw⟩ := repFs_look rf ev
  obtain ⟨h1, h2, h3, h4⟩ := g.rd hr
  obtain ⟨u, eu, ru⟩ := rs.at_ i _ (slot_at ed')
  rw [ed2] at ru
  simp only [Rep] at ru
  subst ru
  exact (pe_xf xfc (hno f hf) hz hv (pe_var h1 h2 h3 h4) (ab_eq rfl)).run pins s σ H Q I ⟨_, eu, rfl, ecl, dx, fs', w, edd, S.fz _ _ (s0 _ _ eF), ew, k.here S (rw.mono s0) hw3⟩
end
end Lg

namespace LgEn
open PySem
open Sem (wp)
open AutoSeq1 (wpAny_loadPart')
theorem meets_enumerate_newT (l : Addr) (items : Array Value) (n : Nat) (dct : Option Addr) (sl : Array (Option Value)) :
    Meets (Builtin.«enumerate.__new__» ⟨[.type "enumerate", .ref l], []⟩) (fun _ R s => s.heap.get? l = some { cls := .type "tuple", dict := dct, data := .seq items n, slots := sl } ∧
      R (.ok (.ret (.ref (s.heap.push { cls := .type "tuple_iterator", data := .fields #[.ref l, .int 0 0] }).objs.size)))
        { s with heap := (s.heap.push { cls := .type "tuple_iterator", data := .fields #[.ref l, .int 0 0] }).push { cls := .type "enumerate", data := .fields #[.none, .bool false, .ref s.heap.objs.size, rawInt 0, .none, .none] } }) :=
  .of_wp fun prog w A R s h => by
    obtain ⟨hp, g, d, tk, os⟩ := s; obtain ⟨hl, h⟩ := h
    have hsub := sub_enumerate
    have hL : Heap.IsTuple (Shared.heap ⟨hp, g, d, tk, os⟩) l items := ⟨_, hl, rfl, n, rfl⟩
    wp_walk using wpAny_loadPart' hl
    refine wpAny_stack_any fun st => wpAny_pure ?_
    split
    · rename_i c _ _ _ _ _
      cases (c == Value.type "enumerate")
      · wp_walk using wpAny_loadPart' hl, wpAny_pyIter_tuple hL
        exact ⟨_, rfl, h⟩
      · wp_walk using wpAny_loadPart' hl, wpAny_pyIter_tuple hL
        exact ⟨_, rfl, h⟩
    · wp_walk using wpAny_loadPart' hl, wpAny_pyIter_tuple hL
      exact ⟨_, rfl, h⟩
section
variable {prog : Program} {w : World} {A : Around} {E : Value → Shared → Prop} {s : Shared}
theorem call_enumerate_tuple {l : Addr} {items : Array Value} {Q : Value → Shared → Prop} (hL : s.heap.IsTuple l items)
    (h : ∀ h', IsEnum h' (s.heap.objs.size + 1) s.heap.objs.size 0 .none → h'.IsTupleIter s.heap.objs.size l 0 → h'.objs.size = s.heap.objs.size + 2 →
      (∀ b o, s.heap.get? b = some o → h'.get? b = some o) → Q (.ref (s.heap.objs.size + 1)) { s with heap := h' }) :
    wpAny (model prog w) A (call (.type "enumerate") [.ref l]) Q E s := by
  obtain ⟨⟨c, dct, dt, sl⟩, hl, hc, n, hd⟩ := hL
  replace hc : c = .type "tuple" := hc
  replace hd : dt = .seq items n := hd
  subst hc hd
  refine callType_new F.called_enumerate (by decide) (F.typeCall_enumerate_1 _) (F.newCall_enumerate_1 _) (fun obj => F.args_object_init_2 obj _) F.entry_enumerate_new
    (meets_enumerate_newT l items n dct sl) ⟨hl, ?_⟩
  have hz : (s.heap.push { cls := .type "tuple_iterator", data := .fields #[.ref l, .int 0 0] }).objs.size = s.heap.objs.size + 1 := Heap.size_push ..
  show _ ∧ _
  rw [hz]
  have he : IsEnum ((s.heap.push { cls := .type "tuple_iterator", data := .fields #[.ref l, .int 0 0] }).push
      { cls := .type "enumerate", data := .fields #[.none, .bool false, .ref s.heap.objs.size, rawInt 0, .none, .none] }) (s.heap.objs.size + 1) s.heap.objs.size 0 .none := by
    have := Heap.get?_push_size (s.heap.push { cls := .type "tuple_iterator", data := .fields #[.ref l, .int 0 0] })
      (o := { cls := .type "enumerate", data := .fields #[.none, .bool false, .ref s.heap.objs.size, rawInt 0, .none, .none] }) rfl
    rw [hz] at this; exact this
  refine ⟨⟨_, he, rfl⟩, h _ he ⟨_, Heap.get?_push_of_some _ (Heap.get?_push_size _ rfl), rfl, rfl⟩ (by rw [Heap.size_push, hz]) fun b o x => Heap.get?_push_of_some _ (Heap.get?_push_of_some _ x)⟩
end
end LgEn
namespace Lg
open PySem PySem.Spec PyProof.Rows L2
/-- the tuple at a, numbered -/
def IteT (K : PySem.W.Frag) (a : Addr) : It :=
  ⟨fun i H => ∃ (xs : List V) (x : V), SqT K H a xs ∧ xs[i]? = some x, fun i H v H' => ∃ T ob x, v = .ref T ∧ H T = none ∧ Obj.cls ob = .type "tuple" ∧ Obj.dict ob = none ∧ H' = upd H T (.frz ob (.tup [.int (i : Nat), x])) ∧ ∀ xs, SqT K H a xs → xs[i]? = some x, fun i H => ∃ xs : List V, SqT K H a xs ∧ i = xs.length⟩
theorem turn_enumT {P : Program} {w : World} {K : PySem.W.Frag} {elts : List Expr} {kk : Nat} {tpos : Pos} (a e it : Addr) (hai : a ≠ it) (hae : a ≠ e) :
    Turn P w K (.Tuple elts kk tpos) (IteT K a) [e, it] e (fun i h => (∃ old, IsEnum h e it ((i : Nat) : Int) old) ∧ h.IsTupleIter it a i ∧ e ≠ it) where
  mem := by simp
  obj := fun i h st b hb => by
    obtain ⟨⟨old, he⟩, ⟨o, ho, hc, hd⟩, _⟩ := st
    have e' : b = e ∨ b = it := by simpa using hb
    rcases e' with z | z
    · rw [z]; exact ⟨_, he, fun v q => nomatch q⟩
    · rw [z]; exact ⟨o, ho, fun v q => by rw [hd] at q; cases q⟩
  keep := fun i h h' st k => let ⟨⟨old, he⟩, hi, hne⟩ := st; ⟨⟨old, k e (by simp) _ he⟩, hi.at fun o q => k it (by simp) o q, hne⟩
  item := by
    intro X hP hw hK hc i pins s σ H E I hf st hg
    subst hP hw hK
    obtain ⟨⟨old, he⟩, hit, hne⟩ := st
    obtain ⟨xs, x, hq, hx⟩ := hg
    obtain ⟨its, rv, p, hz⟩ := I.tuple hq
    obtain ⟨u, hu, ru⟩ := rv.get hx
    have hel : e < s.heap.objs.size := Heap.lt_size he
    have hil : it < s.heap.objs.size := by obtain ⟨_, q, _⟩ := hit; exact Heap.lt_size q
    have hlt : i < its.toArray.size := by
      have := (List.getElem?_eq_some_iff.mp hu).1
      simpa using this
    refine wpAny_pyNext_enum_itemD (Draws.tuple (prog := X.prog) (w := X.w) (A := X.A.in1) (show X.A.in1.handled = none from I.ok.hd hc) it a hai its.toArray) he ⟨hit, p⟩ hlt hne (by simp [hne, Ne.symm hae]) fun x' h' tk px ho st' hT hsz hk => ?_
    have ex : x' = u := by
      have z : its.toArray[i]? = some x' := px
      rw [List.getElem?_toArray, hu] at z
      exact (Option.some.inj z).symm
    subst ex
    obtain ⟨hit', _⟩ := st'
    refine ⟨_, rfl, wpAny_letOwnedTupleGo_enum (s := { s with heap := h', toks := tk + 1 }) ho fun h'' he' sb => ?_⟩
    have hT2 : h''.get? s.heap.objs.size = some { cls := .type "tuple", data := .seq #[.int i tk, x'] } := (sb.2 _ (Nat.ne_of_gt hel)).trans hT
    have new : ObjOk X.prog X.w (upd H s.heap.objs.size (.frz { cls := .type "tuple", data := .seq #[.int i tk, x'] } (.tup [.int (i : Nat), x]))) h'' s.heap.objs.size (.frz { cls := .type "tuple", data := .seq #[.int i tk, x'] } (.tup [.int (i : Nat), x])) :=
      ⟨hT2, by show 2 ≤ sizeLine; decide, [.int i tk, x'], .cons ⟨_, rfl⟩ (.cons ru .nil), ⟨_, hT2, rfl, _, rfl⟩⟩
    have I1 : Inv X pins σ (upd H s.heap.objs.size (.frz { cls := .type "tuple", data := .seq #[.int i tk, x'] } (.tup [.int (i : Nat), x]))) { s with heap := h'', toks := tk + 1 } :=
      I.turnedNew (ch := [e, it]) (fun b ob hb q => (sb.2 b (fun z => hb (by simp [z]))).trans (hk b ob (fun z => hb (by simp [z])) (fun z => hb (by simp [z])) q)) hf (Nat.le_refl _) new
    refine ⟨.ref s.heap.objs.size, _, I1, rfl, ⟨_, _, x, rfl, I.hok.fresh (Nat.le_refl _), rfl, rfl, rfl, fun ys hy => by rw [I.tuple_inj hy hq]; exact hx⟩, ⟨⟨x', ?_⟩, hit'.at fun o q => (sb.2 it (Ne.symm hne)).trans q, hne⟩, fun b hb => ?_⟩
    · have e1 : ((i + 1 : Nat) : Int) = (i : Int) + 1 := by omega
      rw [e1]; exact he'
    · have hb' : b < s.heap.objs.size := by
        have e' : b = e ∨ b = it := by simpa using hb
        rcases e' with z | z
        · rw [z]; exact hel
        · rw [z]; exact hil
      rw [upd_ne (Nat.ne_of_lt hb')]
      exact (hf b hb).1
  done := by
    intro X hP hw hK hc i pins s σ H E I hf st hg
    subst hP hw hK
    obtain ⟨⟨old, he⟩, hit, hne⟩ := st
    obtain ⟨xs, hq, hx⟩ := hg
    obtain ⟨its, rv, p, hz⟩ := I.tuple hq
    obtain ⟨f0, f1, f2, f3, f4, f5⟩ := hf it (by simp)
    have hl := rv.length
    have ei : i = its.toArray.size := by simp; omega
    rw [ei] at hit
    exact wpAny_pyNext_enum_endD (Draws.tuple (prog := X.prog) (w := X.w) (A := X.A.in1) (show X.A.in1.handled = none from I.ok.hd hc) it a hai its.toArray) he ⟨hit, p⟩ fun h' eb => ⟨rfl, I.turned (t' := s.toks) (fun b o hb q => eb b o hb q) f0 f1 f3 f4 f5⟩
  self := fun A i s Q E st h => let ⟨⟨_, he⟩, _⟩ := st; wpAny_pyIter_enum he h
/-- the list at a, numbered -/
def IteL (K : PySem.W.Frag) (a : Addr) : It :=
  ⟨fun i H => ∃ (xs : List V) (x : V), SqL K H a xs ∧ xs[i]? = some x, fun i H v H' => ∃ T ob x, v = .ref T ∧ H T = none ∧ Obj.cls ob = .type "tuple" ∧ Obj.dict ob = none ∧ H' = upd H T (.frz ob (.tup [.int (i : Nat), x])) ∧ ∀ xs, SqL K H a xs → xs[i]? = some x, fun i H => ∃ xs : List V, SqL K H a xs ∧ xs.length ≤ i⟩
theorem turn_enumL {P : Program} {w : World} {K : PySem.W.Frag} {elts : List Expr} {kk : Nat} {tpos : Pos} (a e it : Addr) :
    Turn P w K (.Tuple elts kk tpos) (IteL K a) [e, it] e (fun i h => (∃ old, IsEnum h e it ((i : Nat) : Int) old) ∧ h.IsListIter it a i ∧ e ≠ it) where
  mem := by simp
  obj := (turn_enum (P := P) (w := w) (K := K) (elts := elts) (kk := kk) (tpos := tpos) a e it).obj
  keep := (turn_enum (P := P) (w := w) (K := K) (elts := elts) (kk := kk) (tpos := tpos) a e it).keep
  item := by
    intro X hP hw hK hc i pins s σ H E I hf st hg
    subst hP hw hK
    obtain ⟨⟨old, he⟩, hit, hne⟩ := st
    obtain ⟨xs, x, hq, hx⟩ := hg
    obtain ⟨its, rv, p, hz⟩ := I.list hq
    obtain ⟨u, hu, ru⟩ := rv.get hx
    have hel : e < s.heap.objs.size := Heap.lt_size he
    have hil : it < s.heap.objs.size := by obtain ⟨_, q, _⟩ := hit; exact Heap.lt_size q
    refine wpAny_pyNext_enum_item he hit p.isList (x := u) (by simpa using hu) hne fun h' ho hit' hT hsz hk => ?_
    refine ⟨_, rfl, wpAny_letOwnedTupleGo_enum (s := { s with heap := h', toks := s.toks + 1 }) ho fun h'' he' sb => ?_⟩
    have hT2 : h''.get? s.heap.objs.size = some { cls := .type "tuple", data := .seq #[.int i s.toks, u] } := (sb.2 _ (Nat.ne_of_gt hel)).trans hT
    have new : ObjOk X.prog X.w (upd H s.heap.objs.size (.frz { cls := .type "tuple", data := .seq #[.int i s.toks, u] } (.tup [.int (i : Nat), x]))) h'' s.heap.objs.size (.frz { cls := .type "tuple", data := .seq #[.int i s.toks, u] } (.tup [.int (i : Nat), x])) :=
      ⟨hT2, by show 2 ≤ sizeLine; decide, [.int i s.toks, u], .cons ⟨_, rfl⟩ (.cons ru .nil), ⟨_, hT2, rfl, _, rfl⟩⟩
    have I1 := I.turnedNew (t' := s.toks + 1) (h' := h'') (ch := [e, it]) (fun b ob hb q => (sb.2 b (fun z => hb (by simp [z]))).trans (hk b ob (fun z => hb (by simp [z])) (fun z => hb (by simp [z])) q)) hf (Nat.le_refl _) new
    refine ⟨.ref s.heap.objs.size, _, I1, rfl, ⟨_, _, x, rfl, I.hok.fresh (Nat.le_refl _), rfl, rfl, rfl, fun ys hy => by rw [I.list_inj hy hq]; exact hx⟩, ⟨⟨u, ?_⟩, hit'.at fun o q => (sb.2 it (Ne.symm hne)).trans q, hne⟩, fun b hb => ?_⟩
    · have e1 : ((i + 1 : Nat) : Int) = (i : Int) + 1 := by omega
      rw [e1]; exact he'
    · have hb' : b < s.heap.objs.size := by
        have e' : b = e ∨ b = it := by simpa using hb
        rcases e' with z | z
        · rw [z]; exact hel
        · rw [z]; exact hil
      rw [upd_ne (Nat.ne_of_lt hb')]
      exact (hf b hb).1
  done := (turn_enum (P := P) (w := w) (K := K) (elts := elts) (kk := kk) (tpos := tpos) a e it).done
  self := (turn_enum (P := P) (w := w) (K := K) (elts := elts) (kk := kk) (tpos := tpos) a e it).self
/-- enumerate of a list, of a tuple -/
def iEnumS (K : PySem.W.Frag) (ta : TA) : TI := fun σ H R => ta σ H fun vs H1 => ∃ a xs, vs = [.ref a] ∧ ((SqL K H1 a xs ∧ R (IteL K a) H1) ∨ (SqT K H1 a xs ∧ R (IteT K a) H1))
theorem pi_enumS {X : Cx} {e : Expr} {ta : TA} {p pos tpos : Pos} {elts : List Expr} {kk : Nat} (hg : Gl X "enumerate") (hm : X.mg "enumerate" = none) (ha : PA X [e] ta) (hs : starEach [e] X.env = [(false, eval e X.env)] := by rfl) :
    PI X (.Tuple elts kk tpos) (.Call (.Name "enumerate" p) [e] [] pos) (iEnumS X.K ta) := by
  refine ⟨fun pins s σ H R I h => ?_⟩
  refine Call_ (ld_blt I hg hm boot_enumerate (PyProof.Rows.callWith_type1 (thn (ha.run pos pins s σ H _ I h) fun us s1 ⟨vs, H1, I1, r1, q1⟩ => ?_) hs rfl))
  obtain ⟨a, xs, ex, hq⟩ := q1
  subst ex
  cases r1 with
  | cons r rr =>
    cases rr
    cases r
    have fin : ∀ {h' : Heap} {J : It} {tn : Nat → Heap → Prop}, (∀ b o, s1.heap.get? b = some o → h'.get? b = some o) → Turn X.prog X.w X.K (.Tuple elts kk tpos) J [s1.heap.objs.size + 1, s1.heap.objs.size] (s1.heap.objs.size + 1) tn → tn 0 h' → R J H1 →
        PIE X pins σ (.Tuple elts kk tpos) R (.ref (s1.heap.objs.size + 1)) { s1 with heap := h' } := fun {h' J tn} hk T st q => by
      have I2 : Inv X pins σ H1 { s1 with heap := h' } := I1.kept (t' := s1.toks) hk
      refine ⟨s1.heap.objs.size + 1, [s1.heap.objs.size + 1, s1.heap.objs.size], tn, J, H1, rfl, I2, T, st, fun b hb => ?_, q⟩
      have e' : b = s1.heap.objs.size + 1 ∨ b = s1.heap.objs.size := by simpa using hb
      have hle : s1.heap.objs.size ≤ b := by
        rcases e' with z | z
        · rw [z]; exact Nat.le_add_right _ _
        · rw [z]; exact Nat.le_refl _
      exact I1.fpOk hle (I1.hok.fresh hle)
    rcases hq with ⟨hq, q⟩ | ⟨hq, q⟩
    · obtain ⟨its, rv, p', hz⟩ := I1.list hq
      refine call_enumerate_list p'.isList fun h' he hit hsz hk => wpAny_pyIter_enum he ?_
      exact fin hk (turn_enumL a (s1.heap.objs.size + 1) s1.heap.objs.size) ⟨⟨.none, he⟩, hit, Nat.succ_ne_self _⟩ q
    · obtain ⟨its, rv, p', hz⟩ := I1.tuple hq
      have al : a < s1.heap.objs.size := p'.lt
      refine LgEn.call_enumerate_tuple (show s1.heap.IsTuple a its.toArray from p') fun h' he hit hsz hk => wpAny_pyIter_enum he ?_
      exact fin hk (turn_enumT a (s1.heap.objs.size + 1) s1.heap.objs.size (Nat.ne_of_lt al) (Nat.ne_of_lt (Nat.lt_succ_of_lt al))) ⟨⟨.none, he⟩, hit, Nat.succ_ne_self _⟩ q
/-- a list, a tuple -/
def iSeq (K : PySem.W.Frag) (tl : TE) : TI := fun σ H R => tl σ H fun x H1 => (∃ a xs, x = .ref a ∧ ((SqL K H1 a xs ∧ R (Itl K a) H1) ∨ (SqT K H1 a xs ∧ R (Itt K a) H1))) ∨ ∃ z, x = .str z ∧ R (Its z) H1
theorem pi_seq {X : Cx} {tg l : Expr} {tl : TE} (hl : PE X l tl) : PI X tg l (iSeq X.K tl) := by
  refine ⟨fun pins s σ H R I h => ?_⟩
  refine thn (hl.run pins s σ H _ I h) fun v s1 ⟨x, H1, I1, r1, q1⟩ => ?_
  rcases q1 with ⟨a, xs, e, hq⟩ | ⟨z, e, q⟩
  case inr =>
    subst e
    obtain ⟨t, rfl⟩ := r1
    cases ha : z.cps.all (· < 128)
    · exact wpAny_pyIter_wide ha (pi_one (tk := s1.toks) I1 _ (turn_str _ z t "str_iterator" (.inr rfl)) ⟨_, Heap.get?_push_size _ rfl, rfl, rfl⟩ q)
    · exact wpAny_pyIter_ascii ha (pi_one (tk := s1.toks) I1 _ (turn_str _ z t "str_ascii_iterator" (.inl rfl)) ⟨_, Heap.get?_push_size _ rfl, rfl, rfl⟩ q)
  subst e
  cases r1
  rcases hq with ⟨hq, q⟩ | ⟨hq, q⟩
  · obtain ⟨its, rv, p, hz⟩ := I1.list hq
    refine wpAny_pyIter_list p.isList ?_
    refine ⟨s1.heap.objs.size, [s1.heap.objs.size], _, _, H1, rfl, I1.kept (t' := s1.toks) fun b o e => Heap.get?_push_of_some _ e, turn_list a _, ⟨_, Heap.get?_push_size _ rfl, rfl, rfl⟩, fun b hb => ?_, q⟩
    have e : b = s1.heap.objs.size := by simpa using hb
    subst e
    exact I1.fpOk (Nat.le_refl _) (I1.hok.fresh (Nat.le_refl _))
  · obtain ⟨its, rv, p, hz⟩ := I1.tuple hq
    refine wpAny_pyIter_tuple (show s1.heap.IsTuple a its.toArray from p) ?_
    refine ⟨s1.heap.objs.size, [s1.heap.objs.size], _, _, H1, rfl, I1.kept (t' := s1.toks) fun b o e => Heap.get?_push_of_some _ e, turn_tuple a _, ⟨_, Heap.get?_push_size _ rfl, rfl, rfl⟩, fun b hb => ?_, q⟩
    have e : b = s1.heap.objs.size := by simpa using hb
    subst e
    exact I1.fpOk (Nat.le_refl _) (I1.hok.fresh (Nat.le_refl _))
end Lg

namespace Lg
open PySem PySem.Spec PyProof.Rows L2
section
variable {X : Cx} {R F0 : Hp} {a b c o : Expr} {es rest : List Expr} {n : Nat} {wa wb wc wo : Sl → LH → QD → Prop} {wl : Sl → LH → QL → Prop} {wt wu wv : Sl → LH → QB → Prop} {p pos : Pos}
/-! tests -/
theorem PW.imp {X : Cx} {e : Expr} {t t' : TT} (h : PW X e t) (i : ∀ σ H Q, t' σ H Q → t σ H Q) : PW X e t' := ⟨fun wh pins s σ H Q I hw => h.run wh pins s σ H Q I (i _ _ _ hw)⟩
theorem KontB.mono {K : PySem.W.Frag} {F F' : Hp} {Qb : QB} {Q : Bool → Hp → Prop} (k : KontB K R F Qb Q) (s : Same F F') : KontB K R F' Qb Q := fun F2 h2 H2 b s2 S q => k F2 h2 H2 b (s.trans s2) S q
theorem lt_e (ha : PE X a (LE X.K R F0 wa)) (h : noTest a = true) : PT X a (LT X.K R F0 fun ρ h Q => wa ρ h fun x h1 => opt (truth h1 x) fun t => Q t h1) :=
  PT.imp (pt_truth ha (test_plain h)) fun σ H Q ⟨F, h, ρ, Qd, s0, S, rs, hw, k⟩ => ⟨F, h, ρ, _, s0, S, rs, hw, fun F1 h1 H1 d v s1 S1 r1 q1 => by
    obtain ⟨t, e, q⟩ := opt_at q1
    exact ⟨t, truth_tru S1 r1 e, k F1 h1 H1 t s1 S1 q⟩⟩
theorem kb_of {K : PySem.W.Frag} {F F1 : Hp} {Qb : QB} {Q : Bool → Hp → Prop} (k : KontB K R F Qb Q) (s : Same F F1) : Kont K R F1 (fun r h => asB r fun t => Qb t h) fun x H => ∃ t, x = .bl t ∧ Q t H := fun F2 h2 H2 d v s2 S2 r2 q2 => by
  obtain ⟨t, rfl, q⟩ := asB_at q2
  exact ⟨t, r2, k F2 h2 H2 t (s.trans s2) S2 q⟩
theorem lt_cmp {op : CmpOp} (hu : X.A.units + 64 < cLine) (ha : PE X a (LE X.K R F0 wa)) (hb : PE X b (LE X.K R F0 wb)) (hm : behindInMarks op b = false) : PT X (.Compare a [op] [b] pos) (LT X.K R F0 fun ρ h Q => wa ρ h fun x h1 => wb ρ h1 fun y h2 => cmpW op x y h2 fun r h3 => asB r fun t => Q t h3) :=
  PT.imp (pt_cmpR (cmp_ok hu op) ha hb hm) fun σ H Q ⟨F, h, ρ, Qd, s0, S, rs, hw, k⟩ => ⟨F, h, ρ, _, s0, S, rs, hw, fun F1 h1 H1 d v s1 S1 r1 q1 =>
    ⟨F1, h1, ρ, _, s0.trans s1, S1, rs.mono s1, q1, fun F2 h2 H2 d2 v2 s2 S2 r2 q2 => lo_of S2 (r1.mono s2) r2 q2 (kb_of k (s1.trans s2))⟩⟩
theorem lt_chn {o1 o2 : CmpOp} (hu : X.A.units + 64 < cLine) (ha : PE X a (LE X.K R F0 wa)) (hb : PE X b (LE X.K R F0 wb)) (hc : PE X c (LE X.K R F0 wc)) (hm : behindInMarks o2 c = false) :
    PT X (.Compare a [o1, o2] [b, c] pos) (LT X.K R F0 fun ρ h Q => wa ρ h fun x h1 => wb ρ h1 fun y h2 => cmpW o1 x y h2 fun r h3 => asB r fun t => if t = true then wc ρ h3 (fun z h4 => cmpW o2 y z h4 fun r h5 => asB r fun t => Q t h5) else Q false h3) :=
  PT.imp (pt_chain (cmp_ok hu o1) (cmp_ok hu o2) ha hb hc hm) fun σ H Q ⟨F, h, ρ, Qd, s0, S, rs, hw, k⟩ => ⟨F, h, ρ, _, s0, S, rs, hw, fun F1 h1 H1 d v s1 S1 r1 q1 =>
    ⟨F1, h1, ρ, _, s0.trans s1, S1, rs.mono s1, q1, fun F2 h2 H2 d2 v2 s2 S2 r2 q2 => lo_of S2 (r1.mono s2) r2 q2 fun F3 h3 H3 d3 v3 s3 S3 r3 q3 => by
      obtain ⟨t, rfl, q⟩ := asB_at q3
      refine ⟨t, r3, ?_⟩
      cases t with
      | false => exact ⟨false, rfl, k F3 h3 H3 false (s1.trans (s2.trans s3)) S3 q⟩
      | true => exact ⟨F3, h3, ρ, _, s0.trans (s1.trans (s2.trans s3)), S3, rs.mono (s1.trans (s2.trans s3)), q, fun F4 h4 H4 d4 v4 s4 S4 r4 q4 => lo_of S4 ((r2.mono s3).mono s4) r4 q4 (kb_of k (s1.trans (s2.trans (s3.trans s4))))⟩⟩⟩
theorem lt_nt (ha : PT X a (LT X.K R F0 wt)) : PT X (.UnaryOp .Not a pos) (LT X.K R F0 fun ρ h Q => wt ρ h fun t h1 => Q (!t) h1) :=
  PT.imp (pt_not ha) fun σ H Q ⟨F, h, ρ, Qd, s0, S, rs, hw, k⟩ => ⟨F, h, ρ, _, s0, S, rs, hw, fun F1 h1 H1 t s1 S1 q1 => k F1 h1 H1 (!t) s1 S1 q1⟩
theorem lw_and1 (ha : PT X a (LT X.K R F0 wt)) : PW X (.BoolOp .And [a] pos) (LT X.K R F0 fun ρ h Q => wt ρ h fun t h1 => if t = true then Q true h1 else Q false h1) :=
  PW.imp (pw_and1 ha) fun σ H Q ⟨F, h, ρ, Qd, s0, S, rs, hw, k⟩ => ⟨F, h, ρ, _, s0, S, rs, hw, fun F1 h1 H1 t s1 S1 q1 => by
    cases t with
    | true => exact k F1 h1 H1 true s1 S1 q1
    | false => exact k F1 h1 H1 false s1 S1 q1⟩
theorem lw_or1 (ha : PT X a (LT X.K R F0 wt)) : PW X (.BoolOp .Or [a] pos) (LT X.K R F0 fun ρ h Q => wt ρ h fun t h1 => if t = true then Q true h1 else Q false h1) :=
  PW.imp (pw_or1 ha) fun σ H Q ⟨F, h, ρ, Qd, s0, S, rs, hw, k⟩ => ⟨F, h, ρ, _, s0, S, rs, hw, fun F1 h1 H1 t s1 S1 q1 => by
    cases t with
    | true => exact k F1 h1 H1 true s1 S1 q1
    | false => exact k F1 h1 H1 false s1 S1 q1⟩
theorem lw_and (ha : PT X a (LT X.K R F0 wt)) (hb : PW X (.BoolOp .And (b :: rest) pos) (LT X.K R F0 wu)) : PW X (.BoolOp .And (a :: b :: rest) pos) (LT X.K R F0 fun ρ h Q => wt ρ h fun t h1 => if t = true then wu ρ h1 Q else Q false h1) :=
  PW.imp (pw_and ha hb) fun σ H Q ⟨F, h, ρ, Qd, s0, S, rs, hw, k⟩ => ⟨F, h, ρ, _, s0, S, rs, hw, fun F1 h1 H1 t s1 S1 q1 => by
    cases t with
    | true => exact ⟨F1, h1, ρ, _, s0.trans s1, S1, rs.mono s1, q1, k.mono s1⟩
    | false => exact k F1 h1 H1 false s1 S1 q1⟩
theorem lw_or (ha : PT X a (LT X.K R F0 wt)) (hb : PW X (.BoolOp .Or (b :: rest) pos) (LT X.K R F0 wu)) : PW X (.BoolOp .Or (a :: b :: rest) pos) (LT X.K R F0 fun ρ h Q => wt ρ h fun t h1 => if t = true then Q true h1 else wu ρ h1 Q) :=
  PW.imp (pw_or ha hb) fun σ H Q ⟨F, h, ρ, Qd, s0, S, rs, hw, k⟩ => ⟨F, h, ρ, _, s0, S, rs, hw, fun F1 h1 H1 t s1 S1 q1 => by
    cases t with
    | false => exact ⟨F1, h1, ρ, _, s0.trans s1, S1, rs.mono s1, q1, k.mono s1⟩
    | true => exact k F1 h1 H1 true s1 S1 q1⟩
theorem pt_ifE {tc ta tb : TT} (hc : PT X c tc) (ha : PT X a ta) (hb : PT X b tb) : PT X (.IfExp c a b pos) (fun σ H Q => tc σ H fun t H1 => if t = true then ta σ H1 Q else tb σ H1 Q) := by
  refine ⟨fun pins s σ H Q I h => ?_⟩
  show wpAny _ _ (do if ← isTrue c X.env (eval c X.env) then isTrue a X.env (eval a X.env) else isTrue b X.env (eval b X.env)) _ _ _
  refine wpAny_bind (thn (hc.run pins s σ H _ I h) fun t s1 ⟨H1, I1, q1⟩ => ?_)
  cases t with
  | true => exact ha.run pins s1 σ H1 Q I1 q1
  | false => exact hb.run pins s1 σ H1 Q I1 q1
theorem lt_ife (hc : PT X c (LT X.K R F0 wt)) (ha : PT X a (LT X.K R F0 wu)) (hb : PT X b (LT X.K R F0 wv)) : PT X (.IfExp c a b pos) (LT X.K R F0 fun ρ h Q => wt ρ h fun t h1 => if t = true then wu ρ h1 Q else wv ρ h1 Q) :=
  PT.imp (pt_ifE hc ha hb) fun σ H Q ⟨F, h, ρ, Qd, s0, S, rs, hw, k⟩ => ⟨F, h, ρ, _, s0, S, rs, hw, fun F1 h1 H1 t s1 S1 q1 => by
    cases t with
    | true => exact ⟨F1, h1, ρ, _, s0.trans s1, S1, rs.mono s1, q1, k.mono s1⟩
    | false => exact ⟨F1, h1, ρ, _, s0.trans s1, S1, rs.mono s1, q1, k.mono s1⟩⟩
theorem lts_nil : PTs X [] (LT X.K R F0 fun _ h Q => Q true h) := PTs.imp pts_nil fun σ H Q ⟨F, h, ρ, Qd, s0, S, rs, hw, k⟩ => k F h H true (Same.refl F) S hw
theorem lts_one (ha : PT X a (LT X.K R F0 wt)) : PTs X [a] (LT X.K R F0 fun ρ h Q => wt ρ h fun t h1 => if t = true then Q true h1 else Q false h1) :=
  PTs.imp (pts_one ha) fun σ H Q ⟨F, h, ρ, Qd, s0, S, rs, hw, k⟩ => ⟨F, h, ρ, _, s0, S, rs, hw, fun F1 h1 H1 t s1 S1 q1 => by
    cases t with
    | true => exact k F1 h1 H1 true s1 S1 q1
    | false => exact k F1 h1 H1 false s1 S1 q1⟩

/-! targets -/
variable {S1 S2 : List Nat} {wg : D → Sl → LH → QS → Prop} {wgs : List D → Sl → LH → QS → Prop}
theorem lg_nm {i : Nat} {x : Str} (hN : X.N.Nodup) (hi : X.N[i]? = some x) (hx : L2.Loc X.env.scope x) (hf : X.fn x = true ∨ X.env.scope.names.lookup x = some .local) : PG X (.Name x pos) (LG X.K R F0 [i] fun d ρ h Q => Q (ρ.set i (some d)) h) :=
  PG.imp (pg_name hN hi hx hf) fun v σ H Q ⟨F, h, ρ, d, Qd, s0, S, rs, r, hw, k⟩ => k F h H _ _ (Same.refl F) S (rs.set r) ⟨by simp, fun j hj => by rw [List.getElem?_set_ne (fun z => hj (by simp [z]))]⟩ hw
theorem lgs_nil : PGs X [] (LGs X.K R F0 [] fun ds ρ h Q => ds = [] ∧ Q ρ h) :=
  PGs.imp pgs_nil fun v σ H Q ⟨F, h, ρ, ds, Qd, s0, S, rs, r, ⟨e, hw⟩, k⟩ => by
    subst e
    simp only [RepL] at r
    exact ⟨r, k F h H _ _ (Same.refl F) S rs ⟨rfl, fun _ _ => rfl⟩ hw⟩
theorem lgs_cons (ha : PG X a (LG X.K R F0 S1 wg)) (hr : PGs X es (LGs X.K R F0 S2 wgs)) (hs : noStar a = true) : PGs X (a :: es) (LGs X.K R F0 (S1 ++ S2) fun ds ρ h Q => match ds with
    | d :: ds => wg d ρ h fun ρ1 h1 => wgs ds ρ1 h1 Q
    | [] => False) :=
  PGs.imp (pgs_cons ha hr (by rw [asg_cons hs]; rfl)) fun v σ H Q ⟨F, h, ρ, ds, Qd, s0, S, rs, r, hw, k⟩ => by
    cases ds with
    | nil => exact hw.elim
    | cons d ds =>
      simp only [RepL] at r
      obtain ⟨w, vs, e, r1, r2⟩ := r
      refine ⟨w, vs, e, F, h, ρ, d, _, s0, S, rs, r1, hw, fun F1 h1 H1 ρ1 σ1 s1 Sa rs1 ⟨el, fr⟩ q1 => ?_⟩
      refine ⟨F1, h1, ρ1, ds, Qd, s0.trans s1, Sa, rs1, r2.mono s1, q1, fun F2 h2 H2 ρ2 σ2 s2 Sb rs2 ⟨el2, fr2⟩ q2 => k F2 h2 H2 ρ2 σ2 (s1.trans s2) Sb rs2 ⟨el2.trans el, fun j hj => ?_⟩ q2⟩
      simp only [List.mem_append, not_or] at hj
      rw [fr2 j hj.2, fr j hj.1]
theorem lg_tp {j : Nat} (hc : X.calm = true) (h : PGs X es (LGs X.K R F0 S1 wgs)) (hs : noStars es = true) : PG X (.Tuple es j pos) (LG X.K R F0 S1 fun d ρ h Q => opt (tupv d) fun ds => ds.length = es.length ∧ wgs ds ρ h Q) :=
  PG.imp (pg_tup (n := es.length) hc h (asg_len hs).1 (asg_len hs).2) fun v σ H Q ⟨F, h, ρ, d, Qd, s0, S, rs, r, hw, k⟩ => by
    obtain ⟨ds, ed, el, hw2⟩ := opt_at hw
    have ed2 := tupv_at ed
    rw [ed2] at r
    obtain ⟨p, vs, e, q, rr⟩ := tup_at S r
    exact ⟨p, vs, e, q, by rw [← rr.length]; exact el, F, h, ρ, ds, Qd, s0, S, rs, rr, hw2, k⟩
theorem lg_sb (hu : X.A.units + 64 < cLine) (ha : PE X a (LE X.K R F0 wa)) (hb : PE X b (LE X.K R F0 wb)) (hs : noSlice b = true) : PG X (.Subscript a b pos) (LG X.K R F0 [] fun d ρ h Q => wa ρ h fun x h1 => wb ρ h1 fun y h2 => setW x y d h2 fun h3 => Q ρ h3) :=
  PG.imp (pg_sub ha hb (set_ok hu) (sub_plain hs)) fun v σ H Q ⟨F, h, ρ, d, Qd, s0, S, rs, r, hw, k⟩ => ⟨F, h, ρ, _, s0, S, rs, hw, fun F1 h1 H1 x u s1 Sa r1 q1 =>
    ⟨F1, h1, ρ, _, s0.trans s1, Sa, rs.mono s1, q1, fun F2 h2 H2 y w s2 Sb r2 q2 => ⟨R, F2, h2, x, y, d, _, Sb, r1.mono s2, r2, r.mono (s1.trans s2), q2, fun h3 H3 Sc q3 => k F2 h3 H3 ρ σ (s1.trans s2) Sc (rs.mono (s1.trans s2)) ⟨rfl, fun _ _ => rfl⟩ q3⟩⟩⟩

/-! what is walked -/
variable {tg : Expr}
theorem stay_seq {d : D} {ds : List D} {h1 h : LH} (e : seqv h1 d = some ds) (g : stay d ds h) : seqv h d = some ds := by
  cases d <;> first | exact e | exact g
theorem tupv_not {d : D} {ds : List D} {h : LH} (e : seqv h d = some ds) : (∃ xs, d = .tup xs ∧ xs = ds) ∨ tupv d = none := by
  cases d <;> first | exact .inr rfl | skip
  simp only [seqv, Option.some.injEq] at e
  exact .inl ⟨_, rfl, e⟩
theorem getL_at {α : Type} {l : List α} {i : Nat} {x : α} (h : l[i]? = some x) : i < l.length := (List.getElem?_eq_some_iff.mp h).1
/-- the same list at a later time -/
theorem sq_at {F1 F : Hp} {h1 h : LH} {H : Hp} {d : D} {p : Addr} {ds : List D} {R' : Hp} (e : seqv h1 d = some ds) (g : stay d ds h) (r : Rep X.K F1 d (.ref p)) (s : Same F1 F) (S : Sim X.K R' F h H) (n : tupv d = none) : ∃ vs, SqL X.K H p vs ∧ RepL X.K F ds vs := by
  obtain ⟨q, vs, e2, hq, rr⟩ := seqL_at S (r.mono s) (stay_seq e g) n
  cases e2
  exact ⟨vs, hq, rr⟩
theorem st_at {F1 F : Hp} {h : LH} {H : Hp} {p : Addr} {ds : List D} {R' : Hp} (r : Rep X.K F1 (.tup ds) (.ref p)) (s : Same F1 F) (S : Sim X.K R' F h H) : ∃ vs, SqT X.K H p vs ∧ RepL X.K F ds vs := by
  obtain ⟨q, vs, e2, hq, rr⟩ := tup_at S (r.mono s)
  cases e2
  exact ⟨vs, hq, rr⟩
theorem itv_at {h : LH} {d : D} {ds : List D} (e : itv h d = some ds) : (∃ z, d = .str z ∧ ds = chars z) ∨ seqv h d = some ds := by
  cases d with
  | str z => simp only [itv, Option.some.injEq] at e; exact .inl ⟨z, rfl, e.symm⟩
  | _ => exact .inr e
theorem li_sq (ha : PE X a (LE X.K R F0 wa)) : PI X tg a (LI X.K R F0 fun ρ h Q => wa ρ h fun x h1 => opt (itv h1 x) fun ds => Q ds (stay x ds) h1) :=
  PI.imp (pi_seq ha) fun σ H Q ⟨F, h, ρ, Qd, s0, S, rs, hw, k⟩ => ⟨F, h, ρ, _, s0, S, rs, hw, fun F1 h1 H1 d v s1 Sa r1 q1 => by
    obtain ⟨ds, e, q⟩ := opt_at q1
    rcases itv_at e with ⟨z, rfl, rfl⟩ | e
    · simp only [Rep] at r1
      subst r1
      refine .inr ⟨z, rfl, k F1 h1 H1 _ _ _ s1 Sa (fun R' F2 h2 H2 i s2 Sb g => ⟨fun d' e' => ?_, fun ei => ?_⟩) q⟩
      · have hi := getL_at e'
        simp only [chars, List.length_map, Array.length_toList] at hi
        refine ⟨hi, fun x H' ⟨eH, c, hc, ex⟩ => ?_⟩
        subst eH ex
        refine ⟨F2, Same.refl F2, Sb, ?_⟩
        unfold chars at e'
        rw [List.getElem?_map, Array.getElem?_toList, hc] at e'
        cases e'
        rfl
      · show z.cps.size ≤ i
        rw [ei]; simp [chars]
    refine .inl ?_
    obtain ⟨p, vs, rfl, hq, rr⟩ := seq_at Sa r1 e
    rcases tupv_not e with ⟨xs, rfl, rfl⟩ | nt
    · obtain ⟨vs', hq', _⟩ := st_at r1 (Same.refl F1) Sa
      refine ⟨p, vs', rfl, .inr ⟨hq', k F1 h1 H1 _ _ _ s1 Sa (fun R' F2 h2 H2 i s2 Sb g => ?_) q⟩⟩
      obtain ⟨ws, hw2, rw2⟩ := st_at r1 s2 Sb
      refine ⟨fun d' e' => ?_, fun ei => ⟨ws, hw2, by rw [ei, rw2.length]; exact Nat.le_refl _⟩⟩
      obtain ⟨w, ew, rw3⟩ := rw2.get e'
      refine ⟨⟨ws, w, hw2, ew⟩, fun x H' ⟨eH, hx⟩ => ?_⟩
      subst eH
      have := hx ws hw2
      rw [ew] at this; cases this
      exact ⟨F2, Same.refl F2, Sb, rw3⟩
    · obtain ⟨vs', hq', _⟩ := sq_at (h := h1) e (by cases d <;> first | exact e | trivial) r1 (Same.refl F1) Sa nt
      refine ⟨p, vs', rfl, .inl ⟨hq', k F1 h1 H1 _ _ _ s1 Sa (fun R' F2 h2 H2 i s2 Sb g => ?_) q⟩⟩
      obtain ⟨ws, hw2, rw2⟩ := sq_at e g r1 s2 Sb nt
      refine ⟨fun d' e' => ?_, fun ei => ⟨ws, hw2, by rw [ei, rw2.length]; exact Nat.le_refl _⟩⟩
      obtain ⟨w, ew, rw3⟩ := rw2.get e'
      refine ⟨⟨ws, w, hw2, ew⟩, fun x H' ⟨eH, hx⟩ => ?_⟩
      subst eH
      have := hx ws hw2
      rw [ew] at this; cases this
      exact ⟨F2, Same.refl F2, Sb, rw3⟩⟩
theorem rng_get {lo : Int} {m i : Nat} {d : D} (e : (rngL lo m)[i]? = some d) : i < m ∧ d = .int (lo + i) := by
  unfold rngL at e
  have hi := getL_at e
  simp only [List.length_map, List.length_range] at hi
  rw [List.getElem?_map, List.getElem?_range hi] at e
  cases e
  exact ⟨hi, rfl⟩
theorem rngC_get {lo c : Int} {m i : Nat} {d : D} (e : (rngC lo c m)[i]? = some d) : i < m ∧ d = .int (lo + i * c) := by
  unfold rngC at e
  have hi := getL_at e
  simp only [List.length_map, List.length_range] at hi
  rw [List.getElem?_map, List.getElem?_range hi] at e
  cases e
  exact ⟨hi, rfl⟩
theorem it_rng {K : PySem.W.Frag} {F : Hp} {lo : Int} {m : Nat} : ItOk K F (rngL lo m) (fun _ => True) (Itr lo m) := fun R' F2 h2 H2 i s2 Sb _ => by
  refine ⟨fun d e => ?_, fun ei => by unfold rngL at ei; simp at ei; exact Nat.le_of_eq ei.symm⟩
  obtain ⟨hi, rfl⟩ := rng_get e
  exact ⟨hi, fun x H' ⟨eH, ex⟩ => by subst eH ex; exact ⟨F2, Same.refl F2, Sb, rfl⟩⟩
theorem it_rngC {K : PySem.W.Frag} {F : Hp} {lo c : Int} {m : Nat} : ItOk K F (rngC lo c m) (fun _ => True) (Itc lo c m) := fun R' F2 h2 H2 i s2 Sb _ => by
  refine ⟨fun d e => ?_, fun ei => by unfold rngC at ei; simp at ei; exact Nat.le_of_eq ei.symm⟩
  obtain ⟨hi, rfl⟩ := rngC_get e
  exact ⟨hi, fun x H' ⟨eH, ex⟩ => by subst eH ex; exact ⟨F2, Same.refl F2, Sb, rfl⟩⟩
theorem li_r1 (hg : Gl X "range") (hm : X.mg "range" = none) (ha : PE X a (LE X.K R F0 wa)) (h1 : noStar a = true) :
    PI X tg (.Call (.Name "range" p) [a] [] pos) (LI X.K R F0 fun ρ h Q => wa ρ h fun x h1 => opt (intv x) fun j => (-(2 ^ 62) ≤ j ∧ j < 2 ^ 62) ∧ Q (rngL 0 j.toNat) (fun _ => True) h1) :=
  PI.imp (pi_range1 hg hm (pa_cons ha pa_nil (star_cons h1)) (star_cons h1)) fun σ H Q ⟨F, h, ρ, Qd, s0, S, rs, hw, k⟩ => ⟨F, h, ρ, _, s0, S, rs, hw, fun F1 h1 H1 d v s1 Sa r1 q1 => by
    obtain ⟨j, e, ⟨b1, b2⟩, q⟩ := opt_at q1
    exact ⟨j, by rw [intv_at r1 e], b1, b2, k F1 h1 H1 _ _ _ s1 Sa it_rng q⟩⟩
theorem li_r2 (hg : Gl X "range") (hm : X.mg "range" = none) (ha : PE X a (LE X.K R F0 wa)) (hb : PE X b (LE X.K R F0 wb)) (h1 : noStar a = true) (h2 : noStar b = true) :
    PI X tg (.Call (.Name "range" p) [a, b] [] pos) (LI X.K R F0 fun ρ h Q => wa ρ h fun x h1 => wb ρ h1 fun y h2 => opt (intv x) fun i => opt (intv y) fun j => (-(2 ^ 62) ≤ i ∧ i < 2 ^ 62 ∧ -(2 ^ 62) ≤ j ∧ j < 2 ^ 62) ∧ Q (rngL i (j - i).toNat) (fun _ => True) h2) :=
  PI.imp (pi_range2 hg hm (pa_cons ha (pa_cons hb pa_nil (star_cons h2)) (star_cons h1)) (by rw [star_cons h1, star_cons h2]; rfl) (star_cons h2)) fun σ H Q ⟨F, h, ρ, Qd, s0, S, rs, hw, k⟩ => ⟨F, h, ρ, _, s0, S, rs, hw, fun F1 h1 H1 d v s1 Sa r1 q1 =>
    ⟨F1, h1, ρ, _, s0.trans s1, Sa, rs.mono s1, q1, fun F2 h2 H2 d2 v2 s2 Sb r2 q2 => by
      obtain ⟨i, e, q2⟩ := opt_at q2
      obtain ⟨j, e2, bb, q⟩ := opt_at q2
      exact ⟨i, j, by rw [intv_at r1 e, intv_at r2 e2], bb, k F2 h2 H2 _ _ _ (s1.trans s2) Sb it_rng q⟩⟩⟩
theorem li_r3 (hg : Gl X "range") (hm : X.mg "range" = none) (ha : PE X a (LE X.K R F0 wa)) (hb : PE X b (LE X.K R F0 wb)) (hc : PE X c (LE X.K R F0 wc)) (h1 : noStar a = true) (h2 : noStar b = true) (h3 : noStar c = true) :
    PI X tg (.Call (.Name "range" p) [a, b, c] [] pos) (LI X.K R F0 fun ρ h Q => wa ρ h fun x h1 => wb ρ h1 fun y h2 => wc ρ h2 fun z h3 => opt (intv x) fun i => opt (intv y) fun j => opt (intv z) fun k => ∃ n, RgC i j k n ∧ Q (rngC i k n) (fun _ => True) h3) :=
  PI.imp (pi_range3 hg hm (pa_cons ha (pa_cons hb (pa_cons hc pa_nil (star_cons h3)) (star_cons h2)) (star_cons h1)) (star_cons h1) (plain_args (by simp [noStars, h2, h3]))) fun σ H Q ⟨F, h, ρ, Qd, s0, S, rs, hw, k⟩ => ⟨F, h, ρ, _, s0, S, rs, hw, fun F1 h1 H1 d v s1 Sa r1 q1 =>
    ⟨F1, h1, ρ, _, s0.trans s1, Sa, rs.mono s1, q1, fun F2 h2 H2 d2 v2 s2 Sb r2 q2 => ⟨F2, h2, ρ, _, s0.trans (s1.trans s2), Sb, rs.mono (s1.trans s2), q2, fun F3 h3 H3 d3 v3 s3 Sc r3 q3 => by
      obtain ⟨i, e, q3⟩ := opt_at q3
      obtain ⟨j, e2, q3⟩ := opt_at q3
      obtain ⟨l, e3, m, rg, q⟩ := opt_at q3
      exact ⟨i, j, l, m, by rw [intv_at r1 e, intv_at r2 e2, intv_at r3 e3], rg, k F3 h3 H3 _ _ _ (s1.trans (s2.trans s3)) Sc it_rngC q⟩⟩⟩⟩
theorem enum_get {ds : List D} {i : Nat} {d : D} (e : (enumL ds)[i]? = some d) : ∃ x, ds[i]? = some x ∧ d = .tup [.int i, x] := by
  unfold enumL at e
  rw [List.getElem?_mapIdx] at e
  cases q : ds[i]? with
  | none => rw [q] at e; cases e
  | some x => rw [q] at e; cases e; exact ⟨x, rfl, rfl⟩
theorem enum_len {ds : List D} : (enumL ds).length = ds.length := by unfold enumL; simp
theorem pair_new {F : Hp} {h : LH} {H : Hp} {R' : Hp} {T : Addr} {o : Obj} {x y : D} {u v : V} (S : Sim X.K R' F h H) (hT : H T = none) (hc : o.cls = .type "tuple") (hd : o.dict = none) (r1 : Rep X.K F x u) (r2 : Rep X.K F y v) : ∃ F', Same F F' ∧ Sim X.K R' F' h (upd H T (.frz o (.tup [u, v]))) ∧ Rep X.K F' (.tup [x, y]) (.ref T) := by
  have s := same_new (o := .frz o (.tup [u, v])) (S.free hT).1
  refine ⟨_, s, S.frozen hT, ?_⟩
  simp only [Rep, RepL]
  exact ⟨T, [u, v], rfl, newTup hc hd, u, [v], rfl, r1.mono s, v, [], rfl, r2.mono s, rfl⟩
theorem li_en {elts : List Expr} {kk : Nat} {tp : Pos} (hg : Gl X "enumerate") (hm : X.mg "enumerate" = none) (ha : PE X a (LE X.K R F0 wa)) (h1 : noStar a = true) :
    PI X (.Tuple elts kk tp) (.Call (.Name "enumerate" p) [a] [] pos) (LI X.K R F0 fun ρ h Q => wa ρ h fun x h1 => opt (seqv h1 x) fun ds => Q (enumL ds) (stay x ds) h1) :=
  PI.imp (pi_enumS hg hm (pa_cons ha pa_nil (star_cons h1)) (star_cons h1)) fun σ H Q ⟨F, h, ρ, Qd, s0, S, rs, hw, k⟩ => ⟨F, h, ρ, _, s0, S, rs, hw, fun F1 h1 H1 d v s1 Sa r1 q1 => by
    obtain ⟨ds, e, q⟩ := opt_at q1
    obtain ⟨p, vs, rfl, hq, rr⟩ := seq_at Sa r1 e
    rcases tupv_not e with ⟨xs, rfl, rfl⟩ | nt
    · obtain ⟨vs', hq', _⟩ := st_at r1 (Same.refl F1) Sa
      refine ⟨p, vs', rfl, .inr ⟨hq', k F1 h1 H1 _ _ _ s1 Sa (fun R' F2 h2 H2 i s2 Sb g => ?_) q⟩⟩
      obtain ⟨ws, hw2, rw2⟩ := st_at r1 s2 Sb
      refine ⟨fun d' e' => ?_, fun ei => ⟨ws, hw2, by rw [ei, enum_len, rw2.length]⟩⟩
      obtain ⟨y, ey, rfl⟩ := enum_get e'
      obtain ⟨w, ew, rw3⟩ := rw2.get ey
      refine ⟨⟨ws, w, hw2, ew⟩, fun x H' ⟨T, ob, z, ex, hT, oc, od, eH, hx⟩ => ?_⟩
      subst eH ex
      have := hx ws hw2
      rw [ew] at this; cases this
      exact pair_new (X := X) (x := .int i) Sb hT oc od rfl rw3
    · obtain ⟨vs', hq', _⟩ := sq_at (h := h1) e (by cases d <;> first | exact e | trivial) r1 (Same.refl F1) Sa nt
      refine ⟨p, vs', rfl, .inl ⟨hq', k F1 h1 H1 _ _ _ s1 Sa (fun R' F2 h2 H2 i s2 Sb g => ?_) q⟩⟩
      obtain ⟨ws, hw2, rw2⟩ := sq_at e g r1 s2 Sb nt
      refine ⟨fun d' e' => ?_, fun ei => ⟨ws, hw2, by rw [ei, enum_len, rw2.length]; exact Nat.le_refl _⟩⟩
      obtain ⟨y, ey, rfl⟩ := enum_get e'
      obtain ⟨w, ew, rw3⟩ := rw2.get ey
      refine ⟨⟨ws, w, hw2, ew⟩, fun x H' ⟨T, ob, z, ex, hT, oc, od, eH, hx⟩ => ?_⟩
      subst eH ex
      have := hx ws hw2
      rw [ew] at this; cases this
      exact pair_new (X := X) (x := .int i) Sb hT oc od rfl rw3⟩
end
end Lg

namespace Lg
open PySem PySem.Spec PyProof.Rows L2 PySem.W
/-! ### zip of two: lists, tuples, texts -/
/-- one side: a list's, a tuple's address; a text -/
inductive Sd where
  | l (a : Addr) | t (a : Addr) | x (s : Str) (k : Tok)
def Sd.val : Sd → Value
  | .l a => .ref a
  | .t a => .ref a
  | .x s k => .str s k
def Sd.obj : Sd → Obj
  | .l a => { cls := .type "list_iterator", data := .fields #[.ref a, .int 0 0] }
  | .t a => { cls := .type "tuple_iterator", data := .fields #[.ref a, .int 0 0] }
  | .x s k => { cls := .type (strIterType s), data := .fields #[.str s k, .int 0 0] }
def Sd.own : Sd → List Addr
  | .l a => [a]
  | .t a => [a]
  | .x _ _ => []
def Sd.seq (K : PySem.W.Frag) (H : Hp) : Sd → List V → Prop
  | .l a, xs => SqL K H a xs
  | .t a, xs => SqT K H a xs
  | .x s _, xs => xs = s.cps.toList.map fun c => V.str ⟨#[c]⟩
def Sd.it (h : Heap) (i : Addr) (n : Nat) : Sd → Prop
  | .l a => h.IsListIter i a n
  | .t a => h.IsTupleIter i a n
  | .x s k => h.IsStrIter i (strIterType s) s k n
/-- what stands ahead of the iterator's making -/
def Sd.pre (its : List Value) : Sd → Heap → Prop
  | .l a, h => h.IsList a its.toArray
  | .t a, h => h.IsTuple a its.toArray
  | .x _ _, _ => True
theorem Sd.begins (its : List Value) : ∀ d : Sd, Begins d.val d.obj (d.pre its)
  | .l a => begins_list a _
  | .t a => begins_tuple a _
  | .x s k => begins_text s k
theorem Sd.keep {h h' : Heap} {i : Addr} {n : Nat} (k : ∀ o, h.get? i = some o → h'.get? i = some o) : ∀ {d : Sd}, d.it h i n → d.it h' i n
  | .l _, q => q.at k
  | .t _, q => q.at k
  | .x _ _, q => let ⟨o, ho, r⟩ := q; ⟨o, k o ho, r⟩
theorem Sd.live {h : Heap} {i : Addr} {n : Nat} : ∀ {d : Sd}, d.it h i n → ∃ o, h.get? i = some o ∧ ∀ v, o.data ≠ .cell v
  | .l _, ⟨o, ho, _, hd⟩ => ⟨o, ho, fun v q => by rw [hd] at q; cases q⟩
  | .t _, ⟨o, ho, _, hd⟩ => ⟨o, ho, fun v q => by rw [hd] at q; cases q⟩
  | .x _ _, ⟨o, ho, _, hd⟩ => ⟨o, ho, fun v q => by rw [hd] at q; cases q⟩
theorem Sd.first {h : Heap} {i : Addr} : ∀ {d : Sd}, h.get? i = some d.obj → d.it h i 0
  | .l _, q => ⟨_, q, rfl, rfl⟩
  | .t _, q => ⟨_, q, rfl, rfl⟩
  | .x _ _, q => ⟨_, q, rfl, rfl⟩
section
variable {X : Cx} {pins : List (Addr × Obj)} {σ : L2.St} {H : Hp} {s : Shared}
/-- a side's items as values -/
theorem Sd.vals (I : Inv X pins σ H s) : ∀ {d : Sd} {xs : List V}, d.seq X.K H xs → ∃ its : List Value, d.pre its s.heap ∧ (∀ a ∈ d.own, a < s.heap.objs.size)
  | .l a, xs, q => by
    obtain ⟨its, rv, p, _⟩ := I.list q
    refine ⟨its, p.isList, fun b hb => ?_⟩
    have : b = a := by simpa [Sd.own] using hb
    subst this
    exact p.lt
  | .t a, xs, q => by
    obtain ⟨its, rv, p, _⟩ := I.tuple q
    refine ⟨its, p, fun b hb => ?_⟩
    have : b = a := by simpa [Sd.own] using hb
    subst this
    exact p.lt
  | .x _ _, _, _ => ⟨[], trivial, nofun⟩
theorem Sd.inj (I : Inv X pins σ H s) : ∀ {d : Sd} {xs ys : List V}, d.seq X.K H xs → d.seq X.K H ys → xs = ys
  | .l _, _, _, p, q => I.list_inj p q
  | .t _, _, _, p, q => I.tuple_inj p q
  | .x _ _, _, _, p, q => p.trans q.symm
/-- a side drawn from as it stands -/
theorem Sd.draws {A : Around} (hh : A.handled = none) (I : Inv X pins σ H s) {it : Addr} : ∀ {d : Sd} {xs : List V}, d.seq X.K H xs → (∀ a ∈ d.own, a ≠ it) →
    ∃ (P : Nat → Value → Prop) (St : Nat → Heap → Prop), Draws X.prog X.w A it (it :: d.own) xs.length P St ∧ (∀ n, d.it s.heap it n → St n s.heap) ∧ (∀ n h, St n h → d.it h it n) ∧ ∀ n v, P n v → ∃ x, xs[n]? = some x ∧ RelV x v
  | .l a, xs, q, hn => by
    obtain ⟨its, rv, p, _⟩ := I.list q
    have D := Draws.list (prog := X.prog) (w := X.w) (A := A) hh it a (hn a (by simp [Sd.own])) its.toArray
    have el : its.toArray.size = xs.length := by rw [List.size_toArray]; exact rv.length.symm
    rw [el] at D
    refine ⟨_, _, D, fun n h => ⟨h, p.isList⟩, fun n h st => st.1, fun n v hv => ?_⟩
    have hv : its.toArray[n]? = some v := hv
    rw [List.getElem?_toArray] at hv
    have hlt : n < xs.length := by rw [rv.length]; exact (List.getElem?_eq_some_iff.mp hv).1
    obtain ⟨u, hu, ru⟩ := rv.get (List.getElem?_eq_getElem hlt)
    rw [hv] at hu; cases hu
    exact ⟨_, List.getElem?_eq_getElem hlt, ru⟩
  | .t a, xs, q, hn => by
    obtain ⟨its, rv, p, _⟩ := I.tuple q
    have D := Draws.tuple (prog := X.prog) (w := X.w) (A := A) hh it a (hn a (by simp [Sd.own])) its.toArray
    have el : its.toArray.size = xs.length := by rw [List.size_toArray]; exact rv.length.symm
    rw [el] at D
    refine ⟨_, _, D, fun n h => ⟨h, p⟩, fun n h st => st.1, fun n v hv => ?_⟩
    have hv : its.toArray[n]? = some v := hv
    rw [List.getElem?_toArray] at hv
    have hlt : n < xs.length := by rw [rv.length]; exact (List.getElem?_eq_some_iff.mp hv).1
    obtain ⟨u, hu, ru⟩ := rv.get (List.getElem?_eq_getElem hlt)
    rw [hv] at hu; cases hu
    exact ⟨_, List.getElem?_eq_getElem hlt, ru⟩
  | .x z k, xs, q, hn => by
    have q : xs = z.cps.toList.map fun c => V.str ⟨#[c]⟩ := q
    subst q
    have D := Draws.text (prog := X.prog) (w := X.w) (A := A) hh it z k
    have el : z.cps.size = (z.cps.toList.map fun c => V.str ⟨#[c]⟩).length := by simp
    rw [el] at D
    refine ⟨_, _, D, fun n h => h, fun n h st => st, fun n v hv => ?_⟩
    obtain ⟨c, u, hc, rfl⟩ := hv
    refine ⟨.str ⟨#[c]⟩, ?_, ⟨_, rfl⟩⟩
    rw [List.getElem?_map, Array.getElem?_toList, hc]; rfl
end
/-- both sides as they stand at each turn, the items in new pairs -/
def ItzG (K : PySem.W.Frag) (A B : Sd) : It :=
  ⟨fun i H => ∃ (xs ys : List V) (x y : V), A.seq K H xs ∧ B.seq K H ys ∧ xs[i]? = some x ∧ ys[i]? = some y,
    fun i H v H' => ∃ T ob x y, v = .ref T ∧ H T = none ∧ Obj.cls ob = .type "tuple" ∧ Obj.dict ob = none ∧ H' = upd H T (.frz ob (.tup [x, y])) ∧ (∀ xs, A.seq K H xs → xs[i]? = some x) ∧ ∀ ys, B.seq K H ys → ys[i]? = some y,
    fun i H => ∃ xs ys : List V, A.seq K H xs ∧ B.seq K H ys ∧ i ≤ xs.length ∧ i ≤ ys.length ∧ (i = xs.length ∨ i = ys.length)⟩
theorem turn_zipG {P : Program} {w : World} {K : PySem.W.Frag} {elts : List Expr} {kk : Nat} {tpos : Pos} {A B : Sd} {z TI TO i1 i2 : Addr} (D : ZipSep2 z TI TO i1 i2 (i1 :: A.own) (i2 :: B.own)) (n1 : ∀ a ∈ A.own, a ≠ i1) (n2 : ∀ a ∈ B.own, a ≠ i2) :
    Turn P w K (.Tuple elts kk tpos) (ItzG K A B) [z, TI, TO, i1, i2] z (fun i h => IsZip h z TI TO .none ∧ IsTupOf2 h TI (.ref i1) (.ref i2) ∧ (∃ x y, IsTupOf2 h TO x y) ∧ A.it h i1 i ∧ B.it h i2 i) where
  mem := by simp
  obj := fun i h st c hc => by
    obtain ⟨hz, hTI, ⟨x, y, hTO⟩, h1, h2⟩ := st
    have e' : c = z ∨ c = TI ∨ c = TO ∨ c = i1 ∨ c = i2 := by simpa using hc
    rcases e' with q | q | q | q | q
    · rw [q]; exact ⟨_, hz, fun v q => nomatch q⟩
    · rw [q]; exact ⟨_, hTI, fun v q => nomatch q⟩
    · rw [q]; exact ⟨_, hTO, fun v q => nomatch q⟩
    · rw [q]; exact Sd.live h1
    · rw [q]; exact Sd.live h2
  keep := fun i h h' st k => by
    obtain ⟨hz, hTI, ⟨x, y, hTO⟩, h1, h2⟩ := st
    exact ⟨k z (by simp) _ hz, k TI (by simp) _ hTI, ⟨x, y, k TO (by simp) _ hTO⟩, Sd.keep (fun o q => k i1 (by simp) o q) h1, Sd.keep (fun o q => k i2 (by simp) o q) h2⟩
  item := by
    intro X hP hw hK hc i pins s σ H E I hf st hg
    subst hP hw hK
    obtain ⟨hz, hTI, ⟨x0, y0, hTO⟩, h1, h2⟩ := st
    obtain ⟨xs, ys, x, y, hqx, hqy, hx, hy⟩ := hg
    have hh : X.A.in1.handled = none := I.ok.hd hc
    obtain ⟨P1, S1, D1, a1, b1, c1⟩ := Sd.draws (A := X.A.in1) hh I hqx n1
    obtain ⟨P2, S2, D2, a2, b2, c2⟩ := Sd.draws (A := X.A.in1) hh I hqy n2
    have hzl : z < s.heap.objs.size := Heap.lt_size hz
    refine wpAny_pyNext_zipD2_item D D1 D2 hz hTI hTO (a1 i h1) (a2 i h2) (List.getElem?_eq_some_iff.mp hx).1 (List.getElem?_eq_some_iff.mp hy).1 fun u u2 h' tk p1 p2 z' TO' st1 st2 hT hsz hk => ?_
    obtain ⟨x', hx', ru⟩ := c1 i u p1
    obtain ⟨y', hy', ru2⟩ := c2 i u2 p2
    rw [hx] at hx'; cases hx'
    rw [hy] at hy'; cases hy'
    have h1' := b1 _ _ st1
    have h2' := b2 _ _ st2
    refine ⟨_, rfl, wpAny_letOwnedTupleGo_zip (s := { s with heap := h', toks := tk }) z' fun h'' z'' sb => ?_⟩
    have hT2 : h''.get? s.heap.objs.size = some { cls := .type "tuple", data := .seq #[u, u2] } := (sb.2 _ (Nat.ne_of_gt hzl)).trans hT
    have new : ObjOk X.prog X.w (upd H s.heap.objs.size (.frz { cls := .type "tuple", data := .seq #[u, u2] } (.tup [x, y]))) h'' s.heap.objs.size (.frz { cls := .type "tuple", data := .seq #[u, u2] } (.tup [x, y])) :=
      ⟨hT2, by show 2 ≤ sizeLine; decide, [u, u2], .cons ru (.cons ru2 .nil), ⟨_, hT2, rfl, _, rfl⟩⟩
    have I1 : Inv X pins σ (upd H s.heap.objs.size (.frz { cls := .type "tuple", data := .seq #[u, u2] } (.tup [x, y]))) { s with heap := h'', toks := tk } :=
      I.turnedNew (t' := tk) (ch := [z, TI, TO, i1, i2]) (fun c o hb q => (sb.2 c (fun q' => hb (by simp [q']))).trans (hk c o (fun q' => hb (by simp [q'])) (fun q' => hb (by simp [q'])) (fun q' => hb (by simp [q'])) (fun q' => hb (by simp [q'])) q)) hf (Nat.le_refl _) new
    refine ⟨.ref s.heap.objs.size, _, I1, rfl, ⟨_, _, x, y, rfl, I.hok.fresh (Nat.le_refl _), rfl, rfl, rfl, fun l hl => by rw [Sd.inj I hl hqx]; exact hx, fun l hl => by rw [Sd.inj I hl hqy]; exact hy⟩, ⟨z'', ?_, ⟨u, u2, ?_⟩, ?_, ?_⟩, fun c hcm => ?_⟩
    · exact (sb.2 _ D.TIz).trans (hk _ _ D.TIz D.TITO D.TIi1 D.TIi2 hTI)
    · exact (sb.2 _ D.TOz).trans TO'
    · exact Sd.keep (fun o q => (sb.2 _ D.zi1.symm).trans q) h1'
    · exact Sd.keep (fun o q => (sb.2 _ D.zi2.symm).trans q) h2'
    · have hlt : c < s.heap.objs.size := by
        have e' : c = z ∨ c = TI ∨ c = TO ∨ c = i1 ∨ c = i2 := by simpa using hcm
        rcases e' with q | q | q | q | q
        · rw [q]; exact hzl
        · rw [q]; exact Heap.lt_size hTI
        · rw [q]; exact Heap.lt_size hTO
        · rw [q]; obtain ⟨_, e1, _⟩ := Sd.live h1; exact Heap.lt_size e1
        · rw [q]; obtain ⟨_, e2, _⟩ := Sd.live h2; exact Heap.lt_size e2
      rw [upd_ne (Nat.ne_of_lt hlt)]
      exact (hf c hcm).1
  done := by
    intro X hP hw hK hc i pins s σ H E I hf st hg
    subst hP hw hK
    obtain ⟨hz, hTI, ⟨x0, y0, hTO⟩, h1, h2⟩ := st
    obtain ⟨xs, ys, hqx, hqy, l1, l2, hend⟩ := hg
    have hh : X.A.in1.handled = none := I.ok.hd hc
    obtain ⟨P1, S1, D1, a1, b1, c1⟩ := Sd.draws (A := X.A.in1) hh I hqx n1
    obtain ⟨P2, S2, D2, a2, b2, c2⟩ := Sd.draws (A := X.A.in1) hh I hqy n2
    exact wpAny_pyNext_zipD2_end D D1 D2 hz hTI hTO (a1 i h1) (a2 i h2) l1 l2 hend fun h' tk hk => ⟨rfl, I.turnedL (t' := tk) (ch := [z, TI, TO, i1, i2]) (fun c o hb q =>
      hk c o (fun q' => hb (by simp [q'])) (fun q' => hb (by simp [q'])) (fun q' => hb (by simp [q'])) (fun q' => hb (by simp [q'])) q) hf⟩
  self := fun A i s Q E st h => wpAny_pyIter_zip st.1 h
/-- zip(a, b) -/
def SdV : Sd → V → Prop
  | .l a, v => v = .ref a
  | .t a, v => v = .ref a
  | .x s _, v => v = .str s
def iZipG (K : PySem.W.Frag) (ta : TA) : TI := fun σ H R => ta σ H fun vs H1 => ∃ v1 v2, vs = [v1, v2] ∧ (∃ A : Tok → Sd, (∀ k, SdV (A k) v1) ∧ ∃ B : Tok → Sd, (∀ k, SdV (B k) v2) ∧ (∀ k, ∃ xs, (A k).seq K H1 xs) ∧ (∀ k, ∃ ys, (B k).seq K H1 ys) ∧ (∀ k s k', A k = .x s k' → k' = k) ∧ (∀ k s k', B k = .x s k' → k' = k) ∧ ∀ k k', R (ItzG K (A k) (B k')) H1)
theorem sd_val {A : Tok → Sd} {v : V} {u : Value} (h : ∀ k, SdV (A k) v) (hk : ∀ k s k', A k = .x s k' → k' = k) (r : RelV v u) : ∃ k, (A k).val = u := by
  have h0 := h 0
  cases e : A 0 with
  | l a => rw [e] at h0; have h0 : v = .ref a := h0; subst h0; cases r; exact ⟨0, by rw [e]; rfl⟩
  | t a => rw [e] at h0; have h0 : v = .ref a := h0; subst h0; cases r; exact ⟨0, by rw [e]; rfl⟩
  | x s k0 =>
    rw [e] at h0
    have h0 : v = .str s := h0
    subst h0
    obtain ⟨t, rfl⟩ := r
    refine ⟨t, ?_⟩
    have h1 := h t
    cases e2 : A t with
    | l a => rw [e2] at h1; cases h1
    | t a => rw [e2] at h1; cases h1
    | x s' k' =>
      rw [e2] at h1
      have h1 : V.str s = .str s' := h1
      cases h1
      have := hk _ _ _ e2
      subst this
      rfl
theorem ane (n a b : Nat) (h : a ≠ b) : n + a ≠ n + b := by omega
theorem alt {n a b : Nat} (h : a < n) : a ≠ n + b := by omega
theorem pi_zipG {X : Cx} {e e2 : Expr} {ta : TA} {p pos tpos : Pos} {elts : List Expr} {kk : Nat} (hg : Gl X "zip") (hm : X.mg "zip" = none) (ha : PA X [e, e2] ta)
    (hs : starEach [e, e2] X.env = (false, eval e X.env) :: starEach [e2] X.env) (hpl : (backTo pos (starEach [e2] X.env)).any (·.1) = false) :
    PI X (.Tuple elts kk tpos) (.Call (.Name "zip" p) [e, e2] [] pos) (iZipG X.K ta) := by
  refine ⟨fun pins s σ H R I h => ?_⟩
  refine Call_ (ld_blt I hg hm PyProof.Rows.boot_zip (PyProof.Rows.callWith_type1 (thn (ha.run pos pins s σ H _ I h) fun us s1 ⟨vs, H1, I1, r1, q1⟩ => ?_) hs hpl))
  obtain ⟨v1, v2, ex, A, hA, B, hB, sA, sB, kA, kB, q⟩ := q1
  subst ex
  cases r1 with
  | cons r rr =>
    cases rr with
    | cons r' rr =>
      cases rr
      obtain ⟨k, rfl⟩ := sd_val hA kA r
      obtain ⟨k', rfl⟩ := sd_val hB kB r'
      obtain ⟨xs, hx⟩ := sA k
      obtain ⟨ys, hy⟩ := sB k'
      obtain ⟨its, p1, o1⟩ := Sd.vals I1 hx
      obtain ⟨its2, p2, o2⟩ := Sd.vals I1 hy
      have q := q k k'
      generalize A k = a at *
      generalize B k' = b at *
      have fresh5 : ∀ c, c ∈ [s1.heap.objs.size + 4, s1.heap.objs.size + 2, s1.heap.objs.size + 3, s1.heap.objs.size, s1.heap.objs.size + 1] → FpOk X pins H1 c := fun c hcm => by
        have hle : s1.heap.objs.size ≤ c := by simp at hcm; omega
        exact I1.fpOk hle (I1.hok.fresh hle)
      refine zip_begins2 (a.begins its) (b.begins its2) p1 p2 fun h' hz hTI hTO h1 h2 hsz hk => wpAny_pyIter_zip hz ?_
      have I2 : Inv X pins σ H1 { s1 with heap := h' } := I1.kept (t' := s1.toks) hk
      have nl : ∀ {d : Sd} {n : Nat}, (∀ a ∈ d.own, a < s1.heap.objs.size) → ∀ a ∈ d.own, a ≠ s1.heap.objs.size + n := fun {d n} hd a ha => alt (hd a ha)
      have nm : ∀ {d : Sd} {n : Nat}, (∀ a ∈ d.own, a < s1.heap.objs.size) → s1.heap.objs.size + n ∉ d.own := fun {d n} hd m => alt (hd _ m) rfl
      have no : ∀ {d : Sd} {n m : Nat}, (∀ a ∈ d.own, a < s1.heap.objs.size) → n ≠ m → s1.heap.objs.size + n ∉ (s1.heap.objs.size + m) :: d.own := fun {d n m} hd hne hm => by
        rcases List.mem_cons.mp hm with e | e
        · exact ane _ _ _ hne e
        · exact nm hd e
      have D : ZipSep2 (s1.heap.objs.size + 4) (s1.heap.objs.size + 2) (s1.heap.objs.size + 3) s1.heap.objs.size (s1.heap.objs.size + 1) (s1.heap.objs.size :: a.own) ((s1.heap.objs.size + 1) :: b.own) := {
        TIz := ane s1.heap.objs.size 2 4 (by decide)
        TOz := ane s1.heap.objs.size 3 4 (by decide)
        TITO := ane s1.heap.objs.size 2 3 (by decide)
        TIi1 := ane s1.heap.objs.size 2 0 (by decide)
        mem1 := by simp
        zf1 := no (n := 4) (m := 0) o1 (by decide)
        Tf1 := no (n := 3) (m := 0) o1 (by decide)
        TIi2 := ane s1.heap.objs.size 2 1 (by decide)
        mem2 := by simp
        zf2 := no (n := 4) (m := 1) o2 (by decide)
        Tf2 := no (n := 3) (m := 1) o2 (by decide)
        sep1_2 := no (n := 0) (m := 1) o2 (by decide)
        sep2_1 := no (n := 1) (m := 0) o1 (by decide) }
      exact ⟨s1.heap.objs.size + 4, [s1.heap.objs.size + 4, s1.heap.objs.size + 2, s1.heap.objs.size + 3, s1.heap.objs.size, s1.heap.objs.size + 1], _, _, H1, rfl, I2,
        turn_zipG D (nl (n := 0) o1) (nl o2), ⟨hz, hTI, ⟨_, _, hTO⟩, Sd.first h1, Sd.first h2⟩, fresh5, q⟩
section
variable {X : Cx} {R F0 : Hp} {a b : Expr} {wa wb : Sl → LH → QD → Prop} {p pos : Pos}
theorem zipL_get {ds es : List D} {i : Nat} {d : D} (e : (zipL ds es)[i]? = some d) : ∃ x y, ds[i]? = some x ∧ es[i]? = some y ∧ d = .tup [x, y] := by
  unfold zipL at e
  rw [List.getElem?_zipWith] at e
  cases e1 : ds[i]? with
  | none => rw [e1] at e; cases e
  | some x =>
    cases e2 : es[i]? with
    | none => rw [e1, e2] at e; cases e
    | some y => rw [e1, e2] at e; cases e; exact ⟨x, y, rfl, rfl, rfl⟩
theorem zipL_len {ds es : List D} : (zipL ds es).length = min ds.length es.length := by unfold zipL; rw [List.length_zipWith]
theorem side_of {F : Hp} {h : LH} {H : Hp} {d : D} {v : V} {ds : List D} (S : Sim X.K R F h H) (r : Rep X.K F d v) (e : itv h d = some ds) :
    ∃ A : Tok → Sd, (∀ k, SdV (A k) v) ∧ (∀ k s k', A k = .x s k' → k' = k) ∧ ∀ (R' F' : Hp) (h' : LH) (H' : Hp) (k : Tok), Same F F' → Sim X.K R' F' h' H' → stay d ds h' → ∃ xs, (A k).seq X.K H' xs ∧ RepL X.K F' ds xs := by
  rcases itv_at e with ⟨z, rfl, rfl⟩ | e
  · simp only [Rep] at r
    subst r
    refine ⟨fun k => .x z k, fun _ => rfl, fun k s k' q => by cases q; rfl, fun R' F' h' H' k s S' _ => ⟨_, rfl, ?_⟩⟩
    unfold chars
    generalize z.cps.toList = l
    induction l with
    | nil => simp [RepL]
    | cons c l ih => simp only [List.map_cons, RepL]; exact ⟨_, _, rfl, rfl, ih⟩
  · obtain ⟨q, vs, rfl, hq, rr⟩ := seq_at S r e
    rcases tupv_not e with ⟨xs, rfl, rfl⟩ | nt
    · exact ⟨fun _ => .t q, fun _ => rfl, (fun _ _ _ z => by cases z), fun R' F' h' H' k s S' _ => st_at r s S'⟩
    · exact ⟨fun _ => .l q, fun _ => rfl, (fun _ _ _ z => by cases z), fun R' F' h' H' k s S' g => sq_at e g r s S' nt⟩
theorem stay_now {h : LH} {d : D} {ds : List D} (e : itv h d = some ds) : stay d ds h := by
  cases d with
  | ref a => exact e
  | _ => trivial
theorem li_zp {elts : List Expr} {kk : Nat} {tp : Pos} (hg : Gl X "zip") (hm : X.mg "zip" = none) (ha : PE X a (LE X.K R F0 wa)) (hb : PE X b (LE X.K R F0 wb)) (h1 : noStar a = true) (h2 : noStar b = true) :
    PI X (.Tuple elts kk tp) (.Call (.Name "zip" p) [a, b] [] pos) (LI X.K R F0 fun ρ h Q => wa ρ h fun x h1 => wb ρ h1 fun y h2 => opt (itv h2 x) fun ds => opt (itv h2 y) fun es => Q (zipL ds es) (fun h => stay x ds h ∧ stay y es h) h2) := by
  have hp : (backTo pos (starEach [b] X.env)).any (·.1) = false := plain_args (by unfold noStars; simp [h2])
  refine PI.imp (pi_zipG hg hm (pa_cons ha (pa_cons hb pa_nil (star_cons h2)) (star_cons h1)) (star_cons h1) hp) ?_
  intro σ H Q ⟨F, h, ρ, Qd, s0, S, rs, hw, k⟩
  refine ⟨F, h, ρ, _, s0, S, rs, hw, fun F1 h1 H1 d v s1 S1 r1 q1 => ⟨F1, h1, ρ, _, s0.trans s1, S1, rs.mono s1, q1, fun F2 h2 H2 d2 v2 s2 S2 r2 q2 => ?_⟩⟩
  obtain ⟨ds, e, q2⟩ := opt_at q2
  obtain ⟨es, e2, q2⟩ := opt_at q2
  have r1' := r1.mono s2
  obtain ⟨A, hA, kA, gA⟩ := side_of S2 r1' e
  obtain ⟨B, hB, kB, gB⟩ := side_of S2 r2 e2
  refine ⟨v, v2, rfl, A, hA, B, hB, fun k => ?_, fun k => ?_, kA, kB, fun k0 k1 => ?_⟩
  · obtain ⟨xs, q, _⟩ := gA R F2 h2 H2 k (Same.refl F2) S2 (stay_now e); exact ⟨xs, q⟩
  · obtain ⟨xs, q, _⟩ := gB R F2 h2 H2 k (Same.refl F2) S2 (stay_now e2); exact ⟨xs, q⟩
  · refine k F2 h2 H2 _ _ _ (s1.trans s2) S2 (fun R' F3 h3 H3 i s3 S3 g => ?_) q2
    obtain ⟨xs, qx, rx⟩ := gA R' F3 h3 H3 k0 s3 S3 g.1
    obtain ⟨ys, qy, ry⟩ := gB R' F3 h3 H3 k1 s3 S3 g.2
    refine ⟨fun d' e' => ?_, fun ei => ⟨xs, ys, qx, qy, ?_⟩⟩
    · obtain ⟨x, y, ex, ey, rfl⟩ := zipL_get e'
      obtain ⟨u, hu, ru⟩ := rx.get ex
      obtain ⟨w, hw2, rw2⟩ := ry.get ey
      refine ⟨⟨xs, ys, u, w, qx, qy, hu, hw2⟩, fun v' H' ⟨T, ob, u', w', ev, hT, oc, od, eH, f1, f2⟩ => ?_⟩
      subst eH ev
      have z1 := f1 xs qx
      rw [hu] at z1; cases z1
      have z2 := f2 ys qy
      rw [hw2] at z2; cases z2
      exact pair_new (X := X) S3 hT oc od ru rw2
    · have l1 := rx.length
      have l2 := ry.length
      rw [zipL_len] at ei
      omega
end
end Lg

namespace Lg
open PySem PySem.Spec PyProof.Rows L2
theorem wipe_out {σ : L2.St} : ∀ {vs : List Nat} {j : Nat}, j ∉ vs → (wipe σ vs)[j]? = σ[j]?
  | [], _, _ => rfl
  | v :: vs, j, h => by
    simp only [List.mem_cons, not_or] at h
    unfold wipe
    rw [List.getElem?_set_ne (Ne.symm h.1)]
    exact wipe_out h.2
theorem wipe_in {σ : L2.St} : ∀ {vs : List Nat} {j : Nat}, j ∈ vs → (wipe σ vs)[j]? = if j < σ.length then some none else none
  | v :: vs, j, h => by
    unfold wipe
    by_cases e : v = j
    · subst e
      by_cases hl : v < σ.length
      · rw [List.getElem?_set_self (by rw [wipe_length]; exact hl), if_pos hl]
      · rw [List.getElem?_eq_none (by rw [List.length_set, wipe_length]; omega), if_neg hl]
    · rw [List.getElem?_set_ne e]
      rcases List.mem_cons.mp h with z | z
      · exact absurd z.symm e
      · exact wipe_in z
theorem wipe_eq {σ σ3 : L2.St} {vs S : List Nat} (hS : ∀ j ∈ S, j ∈ vs) (hl : σ3.length = (wipe σ vs).length) (h : ∀ j, j ∉ S → σ3[j]? = (wipe σ vs)[j]?) : wipe σ3 vs = wipe σ vs := by
  rw [wipe_length] at hl
  apply List.ext_getElem?
  intro j
  by_cases hj : j ∈ vs
  · rw [wipe_in hj, wipe_in hj, hl]
  · rw [wipe_out hj, h j (fun z => hj (hS j z))]
section
variable {X : Cx} {R F0 : Hp} {elt tg iter : Expr} {ifs : List Expr} {scope : Scope} {own : List (Str × Nat)} {pos : Pos} {S1 : List Nat} {wi : Sl → LH → (List D → (LH → Prop) → LH → Prop) → Prop} {wg : D → Sl → LH → QS → Prop} {wt : Sl → LH → QB → Prop} {we : Sl → LH → QD → Prop}
def blkG (K : PySem.W.Frag) (S1 : List Nat) (wg : D → Sl → LH → QS → Prop) : TG := fun v σ H Q => ∃ R F0, LG K R F0 S1 wg v σ H Q
def blkT (K : PySem.W.Frag) (wt : Sl → LH → QB → Prop) : TT := fun σ H Q => ∃ R F0, LT K R F0 wt σ H Q
def blkE (K : PySem.W.Frag) (we : Sl → LH → QD → Prop) : TE := fun σ H Q => ∃ R F0, LE K R F0 we σ H Q
def lcT (wg : D → Sl → LH → QS → Prop) (wt : Sl → LH → QB → Prop) (we : Sl → LH → QD → Prop) (ρ : Sl) : D → LH → (Option D → LH → Prop) → Prop := fun d h2 K => wg d ρ h2 fun ρ2 h3 => wt ρ2 h3 fun b h4 => if b = true then we ρ2 h4 fun y h5 => K (some y) h5 else K none h4
theorem lc_read {K : PySem.W.Frag} {c : Bool} {vs : List Nat} {σ : L2.St} {H : Hp} {Q : VK} (hS : ∀ j ∈ S1, j ∈ vs) (h : LE K R F0 (fun ρ h Q => wi ρ h fun its g h1 => lcW c its g h1 Q (lcT wg wt we (wipeS ρ vs))) σ H Q) :
    tLc (LI K R F0 wi) (blkG K S1 wg) (blkT K wt) (blkE K we) vs σ H Q := by
  obtain ⟨F, h, ρ, Qd, s0, S, rs, hw, k⟩ := h
  refine ⟨F, h, ρ, _, s0, S, rs, hw, fun F1 h1 H1 its g J s1 Sa ok q => fun D hD => ?_⟩
  obtain ⟨Jv, hz, j0, step, fin⟩ := q
  have hR : R D = none := Sa.freeR hD
  refine ⟨fun i m H' => ∃ F' h' acc vs', Same F1 F' ∧ Sim K (upd R D (.lst vs')) F' h' H' ∧ RepL K F' acc vs' ∧ Jv i acc h' ∧ acc.length ≤ i ∧ i ≤ its.length ∧ m = its.length - i,
    ⟨its.length, F1, h1, [], [], Same.refl F1, Sa.hold hD, by simp [RepL], j0, Nat.le_refl _, Nat.zero_le _, by simp⟩, ?_⟩
  rintro i m H' ⟨F', h', acc, vs', s', S', ra, jv, la, li, rfl⟩
  by_cases hlt : i < its.length
  · have ed : its[i]? = some its[i] := List.getElem?_eq_getElem hlt
    obtain ⟨gh, hw⟩ := step i its[i] acc h' ed jv
    obtain ⟨go, yl⟩ := (ok (upd R D (.lst vs')) F' h' H' i s' S' gh).1 _ ed
    refine .inr ⟨go, fun H'' => ∃ F' h' acc vs', Same F1 F' ∧ Sim K (upd R D (.lst vs')) F' h' H'' ∧ RepL K F' acc vs' ∧ Jv (i + 1) acc h' ∧ acc.length ≤ i + 1, fun H'' ⟨F2, h2, acc2, vs2, a1, a2, a3, a4, a5⟩ => ⟨its.length - (i + 1), by omega, F2, h2, acc2, vs2, a1, a2, a3, a4, a5, hlt, rfl⟩, fun x H'' y => ?_⟩
    obtain ⟨F2, s2, S2, rx⟩ := yl x H'' y
    refine ⟨upd R D (.lst vs'), F2, F2, h', _, _, _, Same.refl F2, S2, (rs.mono (s1.trans (s'.trans s2))).wiped vs, rx, hw, fun F3 h3 H3 ρ3 σ3 s3 S3 rs3 ⟨el, fr⟩ q3 => ⟨wipe_eq hS el fr, ?_⟩⟩
    refine ⟨upd R D (.lst vs'), F3, F3, h3, ρ3, _, Same.refl F3, S3, rs3, q3, fun F4 h4 H4 b s4 S4 q4 => ?_⟩
    have z4 : Same F1 F4 := s'.trans (s2.trans (s3.trans s4))
    cases b with
    | false => exact ⟨F4, h4, acc, vs', z4, S4, ra.mono (s2.trans (s3.trans s4)), q4, by omega⟩
    | true =>
      refine ⟨upd R D (.lst vs'), F4, F4, h4, ρ3, _, Same.refl F4, S4, rs3.mono s4, q4, fun F5 h5 H5 d v s5 S5 r5 q5 => ?_⟩
      have ra5 := ra.mono (s2.trans (s3.trans (s4.trans s5)))
      have hl := ra5.length
      refine ⟨vs', (S5.rs D _ upd_same).1, by omega, F5, h5, acc ++ [d], vs' ++ [v], z4.trans s5, S5.held, ra5.append (.one r5), q5, ?_⟩
      rw [List.length_append]
      simp
      exact la
  · have e : i = its.length := by omega
    subst e
    obtain ⟨gh, hm⟩ := fin acc h' jv
    refine .inl ⟨(ok (upd R D (.lst vs')) F' h' H' its.length s' S' gh).2 rfl, ?_⟩
    obtain ⟨_, nF, nh⟩ := S'.rs D _ upd_same
    cases c with
    | false =>
      refine k _ h' H' (.lst acc) (.ref D) (s1.trans (s'.trans (same_new nF))) (S'.held_frozen hR) ?_ hm
      simp only [Rep]
      exact ⟨D, vs', rfl, upd_same, ra.mono (same_new nF)⟩
    | true => exact k F' _ H' (.ref D) (.ref D) (s1.trans s') (S'.held_cell (c := .lst acc) hR ⟨vs', rfl, ra⟩) rfl (hm D nh)
theorem le_lc (c : Bool) (hc : X.calm = true) (hN : X.N.Nodup) (hi : PI X tg iter (LI X.K R F0 wi)) (ok : BlkOk X.N X.env.scope scope own) (hS : ∀ j ∈ S1, j ∈ own.map (·.2))
    (hg : ∀ (s : Shared) (H : Hp) (C : Addr) (cl : List (Str × Addr)) (fp : List Addr) (R F0 : Hp), PG (X.blk s H scope (compEnvC scope cl C X.env) fp) tg (LG X.K R F0 S1 wg))
    (ht : ∀ (s : Shared) (H : Hp) (C : Addr) (cl : List (Str × Addr)) (fp : List Addr) (R F0 : Hp), PTs (X.blk s H scope (compEnvC scope cl C X.env) fp) ifs (LT X.K R F0 wt))
    (he : ∀ (s : Shared) (H : Hp) (C : Addr) (cl : List (Str × Addr)) (fp : List Addr) (R F0 : Hp), PE (X.blk s H scope (compEnvC scope cl C X.env) fp) elt (LE X.K R F0 we)) (hs : noSet iter = true) :
    PE X (.ListComp elt [⟨tg, iter, ifs, 0⟩] scope pos) (LE X.K R F0 fun ρ h Q => wi ρ h fun its g h1 => lcW c its g h1 Q (lcT wg wt we (wipeS ρ (own.map (·.2))))) :=
  PE.imp (pe_lc (g := blkG X.K S1 wg) (tt := blkT X.K wt) (te := blkE X.K we) hc hN hi ok
    (fun s H C cl fp => ⟨fun pins s' σ H' v u Q I r ⟨R', F', h⟩ => (hg s H C cl fp R' F').run pins s' σ H' v u Q I r h⟩)
    (fun s H C cl fp => ⟨fun pins s' σ H' Q I ⟨R', F', h⟩ => (ht s H C cl fp R' F').run pins s' σ H' Q I h⟩)
    (fun s H C cl fp => ⟨fun pins s' σ H' Q I ⟨R', F', h⟩ => (he s H C cl fp R' F').run pins s' σ H' Q I h⟩) (set_plain hs)) fun σ H Q h => lc_read hS h
/-- name = [..], where the name is a local on the same line -/
theorem ls_setLc {i : Nat} {y : Str} {py spos : Pos} (c : Bool) (hc : X.calm = true) (hN : X.N.Nodup) (hy : X.N[i]? = some y) (hyl : X.env.scope.names.lookup y = some .local) (hsw : swapsWith (.ListComp elt [⟨tg, iter, ifs, 0⟩] scope pos) (some (.Name y py)) spos.line X.env = pure true)
    (hi : PI X tg iter (LI X.K R F0 wi)) (ok : BlkOk X.N X.env.scope scope own) (hS : ∀ j ∈ S1, j ∈ own.map (·.2))
    (hg : ∀ (s : Shared) (H : Hp) (C : Addr) (cl : List (Str × Addr)) (fp : List Addr) (R F0 : Hp), PG (X.blk s H scope (compEnvC scope cl C X.env) fp) tg (LG X.K R F0 S1 wg))
    (ht : ∀ (s : Shared) (H : Hp) (C : Addr) (cl : List (Str × Addr)) (fp : List Addr) (R F0 : Hp), PTs (X.blk s H scope (compEnvC scope cl C X.env) fp) ifs (LT X.K R F0 wt))
    (he : ∀ (s : Shared) (H : Hp) (C : Addr) (cl : List (Str × Addr)) (fp : List Addr) (R F0 : Hp), PE (X.blk s H scope (compEnvC scope cl C X.env) fp) elt (LE X.K R F0 we)) (hs : noSet iter = true) :
    PS X (.Assign [.Name y py] (.ListComp elt [⟨tg, iter, ifs, 0⟩] scope pos) spos) (LS X.K R F0 fun Dl ρ h => wi ρ h fun its g h1 => lcW c its g h1 (fun d h2 => Dl.nx (ρ.set i (some d)) h2) (lcT wg wt we (wipeS ρ (own.map (·.2))))) :=
  PS.imp (ps_setLc (g := blkG X.K S1 wg) (tt := blkT X.K wt) (te := blkE X.K we) hc hN hy hyl hsw hi ok
    (fun s H C cl fp => ⟨fun pins s' σ H' v u Q I r ⟨R', F', h⟩ => (hg s H C cl fp R' F').run pins s' σ H' v u Q I r h⟩)
    (fun s H C cl fp => ⟨fun pins s' σ H' Q I ⟨R', F', h⟩ => (ht s H C cl fp R' F').run pins s' σ H' Q I h⟩)
    (fun s H C cl fp => ⟨fun pins s' σ H' Q I ⟨R', F', h⟩ => (he s H C cl fp R' F').run pins s' σ H' Q I h⟩) (set_plain hs)) fun De σ H ⟨F, h, ρ, Dl, s0, S, rs, hw, k⟩ => by
    refine lc_read (c := c) (Q := fun x H1 => De.nx (σ.set i (some x)) H1) hS ?_
    obtain ⟨ρ', er⟩ : ∃ ρ', ρ' = ρ := ⟨ρ, rfl⟩
    refine ⟨F, h, ρ, fun d h2 => Dl.nx (ρ.set i (some d)) h2, s0, S, rs, hw, fun F1 h1 H1 d v s1 Sa r q => k.nx F1 h1 H1 _ _ s1 Sa ((rs.mono s1).set r) q⟩
end
end Lg

namespace Lg
open PySem PySem.Spec PyProof.Rows L2
/-! ### several clauses, with or without a name -/
abbrev Hd := Value × Option Nat × (Addr → Value → Option Addr → TS)
def endAt (D : Ends) : Option Nat → Ends
  | some i => { nx := fun σ' H' => D.nx (σ'.set i none) H', rt := D.rt, bk := fun σ' H' => D.bk (σ'.set i none) H', ct := fun σ' H' => D.ct (σ'.set i none) H' }
  | none => D
def beginAt (σ : L2.St) (a : Addr) : Option Nat → L2.St
  | some i => σ.set i (some (.ref a))
  | none => σ
def wMs (K : PySem.W.Frag) (Wout : WX) (D : Ends) : List Hd → WX
  | [] => Wout
  | (c, i, ts) :: r => fun cls d σ H => ∃ b, PySem.W.exmOne K cls c = some b ∧ (b = true → ∀ a, H a = none → ts a cls d (endAt D i) (beginAt σ a i) H) ∧ (b = false → wMs K Wout D r cls d σ H)
inductive HdsA (X : Cx) : List ExceptHandler → List Hd → Prop
  | nil : HdsA X [] []
  | no {x : Str} {c : Value} {ts : Addr → Value → Option Addr → TS} {b₀ : Stmt} {suite : List Stmt} {np pos' : Pos} {hds : List ExceptHandler} {l : List Hd} (hc : Names X x c)
      (hsu : ∀ (a : Addr) (oe : Obj) (cls : Value) (d : Option Addr) (pn : List (Addr × Obj)), Zc cls d oe → (∃ vs, oe.data = .fields vs) → PSs (X.suite a ((a, oe) :: pn)) (b₀ :: suite) (ts a cls d)) (r : HdsA X hds l) :
      HdsA X (.ExceptHandler (some (.Name x np)) none (b₀ :: suite) pos' :: hds) ((c, none, ts) :: l)
  | as_ {x n : Str} {c : Value} {i : Nat} {ts : Addr → Value → Option Addr → TS} {b₀ : Stmt} {suite : List Stmt} {np pos' : Pos} {hds : List ExceptHandler} {l : List Hd} (hc : Names X x c) (hi : X.N[i]? = some n) (hln : X.env.kindOf n = some .local)
      (hsu : ∀ (a : Addr) (oe : Obj) (cls : Value) (d : Option Addr) (pn : List (Addr × Obj)), Zc cls d oe → (∃ vs, oe.data = .fields vs) → PSs (X.suite a ((a, oe) :: pn)) (b₀ :: suite) (ts a cls d)) (r : HdsA X hds l) :
      HdsA X (.ExceptHandler (some (.Name x np)) (some n) (b₀ :: suite) pos' :: hds) ((c, some i, ts) :: l)
section
variable {X : Cx} {body : List Stmt} {h₀ : ExceptHandler} {hds : List ExceptHandler} {l : List Hd} {pos : Pos} {tb : WX → TS} {Wout : WX}
theorem ps_try_ms (hs : X.stack = X.env :: X.outer) (hf : X.env.frame = some X.env.locals) (hN : X.N.Nodup) (tk : Takes X Wout)
    (hb : ∀ (W : WX) (pn : List (Addr × Obj)) (xe : Value → Shared → Prop), Takes (X.tr pn xe) W → PassesOwn (model X.prog X.w) X.A X.env xe → PSs (X.tr pn xe) body (tb W))
    (hh : HdsA X (h₀ :: hds) l) : PS X (.Try body (h₀ :: hds) [] [] pos) (fun D σ H => tb (wMs X.K Wout D l) D σ H) := by
  refine ⟨fun pins s σ H D I h => ?_⟩
  have ok := I.ok
  have hfr : X.A.frames = some (X.env :: X.outer) := by rw [ok.frames, hs]
  refine wpAny_Try_except ?_
  refine wpAny_mono ((hb (wMs X.K Wout D l) (X.pn ++ pins) (fun e s₁ => wpAny (model X.prog X.w) X.A (noteFrame e X.env) (fun _ s₂ => wpAny (model X.prog X.w) X.A (setFlight e none) (fun _ s₃ =>
    wpAny (model X.prog X.w) X.A (handleBy e X.env (h₀ :: hds)) (SP X pins D) X.xe s₃) X.xe s₂) X.xe s₁) (fun u s' xx => ?_) PassesOwn.looking).run [] s σ H D (I.toTry _) h) (fun f s1 hsp => ?_) (fun e s1 he => he)
  · -- the catch
    obtain ⟨a, B, sI, pins', σ', H', cls, d, rfl, J', nb, up, sky, na, os, ag, w⟩ := xx
    have J : Inv X pins σ' H' sI := J'.ofTry ok
    have sky' : Sky B (X.env :: X.outer) a (Zc cls d) X.env.locals s'.heap := by rw [← hs]; exact sky
    show wpAny (model X.prog X.w) X.A (noteFrame (.ref a) X.env) _ _ _
    refine Sky.land Zc.steady hfr hf sky' fun h3 fl3 up3 => ?_
    have J3 : Inv X pins σ' H' { s' with heap := h3 } := J.landed nb fl3.1 (up.trans up3) os ag
    obtain ⟨oe3, vs3, he3, hz3, hd3⟩ := fl3.there
    have notFr : ∀ {h : Heap} {o : Obj} {vs : Array Value}, h.FunFrames B (X.env :: X.outer) → h.get? a = some o → o.data = .fields vs → a ∉ frs (X.env :: X.outer) := fun {h o vs} ff e dd hm => by
      obtain ⟨_, o', e', hnf⟩ := ff.mem hm
      rw [e] at e'; cases e'
      exact hnf _ dd
    have nfr := notFr fl3.2.2.1 he3 hd3
    have nL : a ≠ X.env.locals := fun z => nfr (List.mem_filterMap.mpr ⟨X.env, List.mem_cons_self, by rw [hf, z]⟩)
    have nF : a ∉ X.fs := fun hm => by
      obtain ⟨e, he, q⟩ := List.mem_filterMap.mp hm
      exact nfr (List.mem_filterMap.mpr ⟨e, List.mem_cons_of_mem _ he, q⟩)
    have S3 := J3.suite he3 hd3 na nL nF
    have go : ∀ {hds' : List ExceptHandler} {l' : List Hd}, HdsA X hds' l' → wMs X.K Wout D l' cls d σ' H' →
        wpAny (model X.prog X.w) X.A (handleBy (.ref a) X.env hds') (SP X pins D) X.xe { s' with heap := h3 } := by
      intro hds' l' hk
      induction hk with
      | nil =>
        intro w
        refine wpAny_handleBy_nil ?_
        obtain ⟨k1, k2, k3, oe, vs, T, oT, ts', he, hz, hd, h1, hr⟩ := id fl3
        unfold PySem.passOn
        refine wpAny_bind (wpAny_field he hd h1 ?_)
        rw [if_neg (show ¬ ((Value.ref T == Value.none) = true) from by simp)]
        have fin : wpAny (model X.prog X.w) X.A (setFlight (.ref a) X.env.frame) (fun _ s4 => wpAny (model X.prog X.w) X.A (throw (.ref a) : Sem Flow) (SP X pins D) X.xe s4) X.xe { s' with heap := h3 } := by
          rw [hf]
          refine HandSPX.setFlight_upZ fl3 fun h4 hh4 up4 => wpAny_throw (tk _ _ ?_)
          exact ⟨a, B, sI, pins, σ', H', cls, d, rfl, J, nb, (up.trans up3).trans up4, .inr (.inr (by rw [hs]; exact hh4)), na, os, ag, w⟩
        first
          | exact wpAny_bind (wpAny_pure (wpAny_bind fin))
          | exact wpAny_bind fin
      | @no x c ts b₀ suite np pos' hds2 l2 hc hsu r ih =>
        intro w
        obtain ⟨b, hb1, hyes, hno⟩ := w
        refine wpAny_handleBy_cons (codeAny_handlers_test ?_) (by intro q; cases q)
        have LT : PySem.W.Looks (model X.prog X.w) h3 (typeOf (.ref a)) cls := fun A Q E s k q => wpAny_typeOf_ref (k _ _ he3) (by rw [hz3.1]; exact q)
        have LM := PySem.W.exm_one (M := model X.prog X.w) (J3.kIn) LT hb1
        have test : ∀ {Q : Value → Shared → Prop} {E : Value → Shared → Prop}, Q c { s' with heap := h3 } → wpAny (model X.prog X.w) (X.A.mark (some (.ref a))) (eval (.Name x np) X.env) Q E { s' with heap := h3 } := fun {Q E} q => by
          obtain ⟨hg, hdbg, hm | ⟨hm, hv, hnn⟩⟩ := hc
          · exact ld_glob (X := X.suite a ((a, oe3) :: (X.pn ++ pins))) S3 hg hm q hdbg
          · exact ld_blt (X := X.suite a ((a, oe3) :: (X.pn ++ pins))) S3 hg hm hv q hnn hdbg
        refine test (LM.here ?_)
        cases b with
        | true =>
          refine codeAny_handlers_suite ?_
          refine HandSPX.lands_againZ fl3 fun h4 fl4 up4 => ?_
          have J4 : Inv X pins σ' H' { s' with heap := h4 } := J.landed nb fl4.1 ((up.trans up3).trans up4) os ag
          obtain ⟨oe4, vs4, he4, hz4, hd4⟩ := fl4.there
          have S4 := J4.suite he4 hd4 na nL nF
          refine wpAny_mono ((hsu a oe4 cls d (X.pn ++ pins) hz4 ⟨_, hd4⟩).run [] _ _ H' _ S4 (hyes rfl a na)) (fun f s6 hsp => ?_) (fun _ _ z => False.elim z)
          cases f with
          | next =>
            obtain ⟨σ6, H6, S6, q6⟩ := hsp
            exact ⟨_, _, S6.unsuite ok, q6⟩
          | brk =>
            obtain ⟨σ6, H6, S6, q6⟩ := hsp
            exact ⟨_, _, S6.unsuite ok, q6⟩
          | cont =>
            obtain ⟨σ6, H6, S6, q6⟩ := hsp
            exact ⟨_, _, S6.unsuite ok, q6⟩
          | ret u =>
            obtain ⟨v6, σ6, H6, S6, r6, q6⟩ := hsp
            exact ⟨_, _, _, S6.unsuite ok, r6, q6⟩
        | false =>
          show wpAny _ X.A (handleBy (.ref a) X.env hds2) _ _ _
          exact ih (hno rfl)
      | @as_ x n c i ts b₀ suite np pos' hds2 l2 hc hi hln hsu r ih =>
        intro w
        obtain ⟨b, hb1, hyes, hno⟩ := w
        refine wpAny_handleBy_cons (codeAny_handlers_test ?_) (by intro q; cases q)
        have LT : PySem.W.Looks (model X.prog X.w) h3 (typeOf (.ref a)) cls := fun A Q E s k q => wpAny_typeOf_ref (k _ _ he3) (by rw [hz3.1]; exact q)
        have LM := PySem.W.exm_one (M := model X.prog X.w) (J3.kIn) LT hb1
        have test : ∀ {Q : Value → Shared → Prop} {E : Value → Shared → Prop}, Q c { s' with heap := h3 } → wpAny (model X.prog X.w) (X.A.mark (some (.ref a))) (eval (.Name x np) X.env) Q E { s' with heap := h3 } := fun {Q E} q => by
          obtain ⟨hg, hdbg, hm | ⟨hm, hv, hnn⟩⟩ := hc
          · exact ld_glob (X := X.suite a ((a, oe3) :: (X.pn ++ pins))) S3 hg hm q hdbg
          · exact ld_blt (X := X.suite a ((a, oe3) :: (X.pn ++ pins))) S3 hg hm hv q hnn hdbg
        refine test (LM.here ?_)
        cases b with
        | true =>
          refine codeAny_handlers_suite_as ?_
          refine HandSPX.lands_againZ fl3 fun h4 fl4 up4 => ?_
          have J4 : Inv X pins σ' H' { s' with heap := h4 } := J.landed nb fl4.1 ((up.trans up3).trans up4) os ag
          obtain ⟨oe4, vs4, he4, hz4, hd4⟩ := fl4.there
          have S4 := J4.suite he4 hd4 na nL nF
          refine store_ok (X := X.suite a ((a, oe4) :: (X.pn ++ pins))) (v := .ref a) S4 hN hi (.inl hln) rfl (fun s5 S5 => ?_) (.inr hln)
          refine wpAny_mono ((hsu a oe4 cls d (X.pn ++ pins) hz4 ⟨_, hd4⟩).run [] s5 _ H' _ S5 (hyes rfl a na)) (fun f s6 hsp => ?_) (fun _ _ z => False.elim z)
          have end_ : ∀ {σ6 : L2.St} {H6 : Hp} {Q : Shared → Prop}, Inv (X.suite a ((a, oe4) :: (X.pn ++ pins))) [] σ6 H6 s6 → (∀ s7, Inv X pins (σ6.set i none) H6 s7 → Q s7) →
              wpAny (model X.prog X.w) X.A (do bindName X.env n .none; unbindBehindTheSuite X.env n pos') (fun _ s7 => Q s7) X.xe s6 := fun {σ6 H6 Q} S6 hq => gone_ok (S6.unsuite ok) hN hi hln hq
          cases f with
          | next =>
            obtain ⟨σ6, H6, S6, q6⟩ := hsp
            exact end_ S6 fun s7 J7 => ⟨_, _, J7, q6⟩
          | brk =>
            obtain ⟨σ6, H6, S6, q6⟩ := hsp
            exact end_ S6 fun s7 J7 => ⟨_, _, J7, q6⟩
          | cont =>
            obtain ⟨σ6, H6, S6, q6⟩ := hsp
            exact end_ S6 fun s7 J7 => ⟨_, _, J7, q6⟩
          | ret u =>
            obtain ⟨v6, σ6, H6, S6, r6, q6⟩ := hsp
            exact end_ S6 fun s7 J7 => ⟨_, _, _, J7, r6, q6⟩
        | false =>
          show wpAny _ X.A (handleBy (.ref a) X.env hds2) _ _ _
          exact ih (hno rfl)
    exact go hh w
  · cases f with
    | next =>
      obtain ⟨σ', H', J', q⟩ := hsp
      exact wpAny_execs_nil ⟨σ', H', J'.ofTry ok, q⟩
    | brk =>
      obtain ⟨σ', H', J', q⟩ := hsp
      exact ⟨σ', H', J'.ofTry ok, q⟩
    | cont =>
      obtain ⟨σ', H', J', q⟩ := hsp
      exact ⟨σ', H', J'.ofTry ok, q⟩
    | ret u =>
      obtain ⟨v, σ', H', J', r, q⟩ := hsp
      exact ⟨v, σ', H', J'.ofTry ok, r, q⟩
end
end Lg

namespace Lg
open PySem PySem.Spec PyProof.Rows L2
section
variable {X : Cx} {R F0 : Hp} {a b c e tg iter : Expr} {es rest : List Expr} {body sa sb : List Stmt} {n : Nat} {wa wb we : Sl → LH → QD → Prop} {wl : Sl → LH → QL → Prop} {wt : Sl → LH → QB → Prop} {p pos : Pos} {S1 : List Nat} {wg : D → Sl → LH → QS → Prop}
  {wi : Sl → LH → (List D → (LH → Prop) → LH → Prop) → Prop} {w1 w2 : LEnds → Sl → LH → Prop} {st : Stmt}
theorem ls_set {i : Nat} {x : Str} (hN : X.N.Nodup) (hi : X.N[i]? = some x) (hx : L2.Loc X.env.scope x) (hf : X.fn x = true ∨ X.env.scope.names.lookup x = some .local) (he : PE X e (LE X.K R F0 we)) (hs : swapsWith e (some (.Name x p)) pos.line X.env = pure false) :
    PS X (.Assign [.Name x p] e pos) (LS X.K R F0 fun Dl ρ h => we ρ h fun d h1 => Dl.nx (ρ.set i (some d)) h1) :=
  PS.imp (ps_set hN hi hx he hs hf) fun De σ H ⟨F, h, ρ, Dl, s0, S, rs, hw, k⟩ => ⟨F, h, ρ, _, s0, S, rs, hw, fun F1 h1 H1 d v s1 Sa r q => k.nx F1 h1 H1 _ _ s1 Sa ((rs.mono s1).set r) q⟩
theorem ls_asg (he : PE X e (LE X.K R F0 we)) (hg : PG X tg (LG X.K R F0 S1 wg)) (h1 : noComp e = true) (h2 : (isTup tg && isTup e) = false) (h3 : noStar tg = true) :
    PS X (.Assign [tg] e pos) (LS X.K R F0 fun Dl ρ h => we ρ h fun d h1 => wg d ρ h1 Dl.nx) :=
  PS.imp (ps_asg he hg (sole_plain h1) (par_plain h2) (asg_one h3)) fun De σ H ⟨F, h, ρ, Dl, s0, S, rs, hw, k⟩ => ⟨F, h, ρ, _, s0, S, rs, hw, fun F1 h1 H1 d v s1 Sa r q =>
    ⟨F1, h1, ρ, d, _, s0.trans s1, Sa, rs.mono s1, r, q, fun F2 h2 H2 ρ2 σ2 s2 Sb rs2 _ q2 => k.nx F2 h2 H2 ρ2 σ2 (s1.trans s2) Sb rs2 q2⟩⟩
theorem ls_par2 {i j : Nat} {x y : Str} {px py pt : Pos} {kt k2 : Nat} {pt2 : Pos} (hc : X.calm = true) (hN : X.N.Nodup) (hi : X.N[i]? = some x) (hj : X.N[j]? = some y) (hij : i ≠ j) (hx : X.env.scope.names.lookup x = some .local) (hy : X.env.scope.names.lookup y = some .local) (ha : PA X [a, b] (LA X.K R F0 2 wl))
    (hw : swappedStores [.Tuple [.Name x px, .Name y py] kt pt] (.Tuple [a, b] k2 pt2) X.env = pure (some [x, y])) :
    PS X (.Assign [.Tuple [.Name x px, .Name y py] kt pt] (.Tuple [a, b] k2 pt2) pos) (LS X.K R F0 fun Dl ρ h => wl ρ h fun ds h1 => Dl.nx (setAll ρ [i, j] ds) h1) :=
  PS.imp (ps_par hc hN hi hj hij hx hy ha hw rfl) fun De σ H ⟨F, h, ρ, Dl, s0, S, rs, hw, k⟩ => ⟨F, h, ρ, _, s0, S, rs, hw, fun F1 h1 H1 ds vs el s1 Sa r q => by
    match ds, el, r, q with
    | [d1, d2], _, r, q =>
      obtain ⟨v1, v2, rfl, r1, r2⟩ := repL2 r
      exact ⟨v1, v2, rfl, k.nx F1 h1 H1 _ _ s1 Sa (((rs.mono s1).set r1).set r2) q⟩⟩
theorem ls_aug {i : Nat} {x : Str} {op : Operator} (hN : X.N.Nodup) (hi : X.N[i]? = some x) (hx : L2.Loc X.env.scope x) (hf : X.fn x = true ∨ X.env.scope.names.lookup x = some .local) (he : PE X e (LE X.K R F0 we)) :
    PS X (.AugAssign (.Name x p) op e pos) (LS X.K R F0 fun Dl ρ h => opt (slot ρ i) fun x => we ρ h fun y h1 => augW op x y h1 fun z h2 => Dl.nx (ρ.set i (some z)) h2) :=
  PS.imp (ps_aug hN hi hx he (aug_ok op) hf) fun De σ H ⟨F, h, ρ, Dl, s0, S, rs, hw, k⟩ => by
    obtain ⟨d, ed, hw⟩ := opt_at hw
    obtain ⟨v, ev, r⟩ := rs.at_ i d (slot_at ed)
    exact ⟨v, ev, F, h, ρ, _, s0, S, rs, hw, fun F1 h1 H1 d1 v1 s1 Sa r1 q1 => lo_of Sa (r.mono s1) r1 q1 fun F2 h2 H2 d2 v2 s2 Sb r2 q2 => k.nx F2 h2 H2 _ _ (s1.trans s2) Sb ((rs.mono (s1.trans s2)).set r2) q2⟩
theorem ls_ife (hc : PT X c (LT X.K R F0 wt)) (ha : PSs X sa (LS X.K R F0 w1)) (hb : PSs X sb (LS X.K R F0 w2)) : PS X (.If c sa sb pos) (LS X.K R F0 fun Dl ρ h => wt ρ h fun t h1 => if t = true then w1 Dl ρ h1 else w2 Dl ρ h1) :=
  PS.imp (ps_if hc ha hb) fun De σ H ⟨F, h, ρ, Dl, s0, S, rs, hw, k⟩ => ⟨F, h, ρ, _, s0, S, rs, hw, fun F1 h1 H1 t s1 Sa q => by
    cases t with
    | true => exact ⟨F1, h1, ρ, Dl, s0.trans s1, Sa, rs.mono s1, q, k.mono s1⟩
    | false => exact ⟨F1, h1, ρ, Dl, s0.trans s1, Sa, rs.mono s1, q, k.mono s1⟩⟩
theorem ls_ret (he : PE X e (LE X.K R F0 we)) : PS X (.Return (some e) pos) (LS X.K R F0 fun Dl ρ h => we ρ h Dl.rt) :=
  PS.imp (ps_ret he) fun De σ H ⟨F, h, ρ, Dl, s0, S, rs, hw, k⟩ => ⟨F, h, ρ, _, s0, S, rs, hw, fun F1 h1 H1 d v s1 Sa r q => k.rt F1 h1 H1 d v s1 Sa r q⟩
theorem ls_retN : PS X (.Return none pos) (LS X.K R F0 fun Dl _ h => Dl.rt .non h) :=
  PS.imp ps_retN fun De σ H ⟨F, h, ρ, Dl, s0, S, rs, hw, k⟩ => k.rt F h H .non .non (Same.refl F) S rfl hw
theorem ls_ex (he : PE X e (LE X.K R F0 we)) (h1 : noComp e = true) : PS X (.Expr e pos) (LS X.K R F0 fun Dl ρ h => we ρ h fun _ h1 => Dl.nx ρ h1) :=
  PS.imp (ps_expr he (sw_false h1)) fun De σ H ⟨F, h, ρ, Dl, s0, S, rs, hw, k⟩ => ⟨F, h, ρ, _, s0, S, rs, hw, fun F1 h1 H1 d v s1 Sa r q => k.nx F1 h1 H1 ρ σ s1 Sa (rs.mono s1) q⟩
theorem ls_pass : PS X (.Pass pos) (LS X.K R F0 fun Dl ρ h => Dl.nx ρ h) :=
  PS.imp ps_pass fun De σ H ⟨F, h, ρ, Dl, s0, S, rs, hw, k⟩ => k.nx F h H ρ σ (Same.refl F) S rs hw
theorem ls_brk : PS X (.Break pos) (LS X.K R F0 fun Dl ρ h => Dl.bk ρ h) :=
  PS.imp ps_break fun De σ H ⟨F, h, ρ, Dl, s0, S, rs, hw, k⟩ => k.bk F h H ρ σ (Same.refl F) S rs hw
theorem ls_cont : PS X (.Continue pos) (LS X.K R F0 fun Dl ρ h => Dl.ct ρ h) :=
  PS.imp ps_continue fun De σ H ⟨F, h, ρ, Dl, s0, S, rs, hw, k⟩ => k.ct F h H ρ σ (Same.refl F) S rs hw
theorem lss_nil : PSs X [] (LS X.K R F0 fun Dl ρ h => Dl.nx ρ h) :=
  PSs.imp pss_nil fun De σ H ⟨F, h, ρ, Dl, s0, S, rs, hw, k⟩ => k.nx F h H ρ σ (Same.refl F) S rs hw
theorem lss_cons {sts : List Stmt} (h1 : PS X st (LS X.K R F0 w1)) (h2 : PSs X sts (LS X.K R F0 w2)) : PSs X (st :: sts) (LS X.K R F0 fun Dl ρ h => w1 { Dl with nx := fun ρ h => w2 Dl ρ h } ρ h) :=
  PSs.imp (pss_cons h1 h2) fun De σ H ⟨F, h, ρ, Dl, s0, S, rs, hw, k⟩ => ⟨F, h, ρ, _, s0, S, rs, hw,
    ⟨fun F1 h1 H1 ρ1 σ1 s1 Sa rs1 q => ⟨F1, h1, ρ1, Dl, s0.trans s1, Sa, rs1, q, k.mono s1⟩, k.rt, k.bk, k.ct⟩⟩
theorem lss_wk {sts : List Stmt} {i : Nat} (h2 : PSs X sts (LS X.K R F0 w2)) : PSs X sts (LS X.K R F0 fun Dl ρ h => opt (slot ρ i) fun d => ∃ d' h', Wk d h d' h' ∧ w2 Dl (ρ.set i (some d')) h') :=
  PSs.imp h2 fun De σ H ⟨F, h, ρ, Dl, s0, S, rs, hw, k⟩ => by
    obtain ⟨d, ed, d', h', W, hw⟩ := opt_at hw
    obtain ⟨v, ev, r⟩ := rs.at_ i d (slot_at ed)
    obtain ⟨F', s1, S', r'⟩ := W _ _ _ _ _ S r
    refine ⟨F', h', _, Dl, s0.trans s1, S', ?_, hw, k.mono s1⟩
    refine ⟨by simp [rs.len], fun j d2 e => ?_⟩
    by_cases hj : i = j
    · subst hj
      by_cases hl : i < ρ.length
      · rw [List.getElem?_set_self hl] at e
        cases e
        exact ⟨v, ev, r'⟩
      · rw [List.getElem?_eq_none (by simpa using hl)] at e; cases e
    · rw [List.getElem?_set_ne hj] at e
      obtain ⟨w, e1, q1⟩ := rs.at_ j d2 e
      exact ⟨w, e1, q1.mono s1⟩
theorem lss_frz {sts : List Stmt} {i : Nat} (h2 : PSs X sts (LS X.K R F0 w2)) : PSs X sts (LS X.K R F0 fun Dl ρ h => opt (slot ρ i) fun d => cellL h d fun a ds => w2 Dl (ρ.set i (some (.lst ds))) (rid h a)) :=
  PSs.imp h2 fun De σ H ⟨F, h, ρ, Dl, s0, S, rs, hw, k⟩ => by
    obtain ⟨d, ed, hw⟩ := opt_at hw
    obtain ⟨v, ev, r⟩ := rs.at_ i d (slot_at ed)
    obtain ⟨ad, ds, vs, e1, e2, eh, eH, rr, q⟩ := cell_at S r hw
    obtain ⟨o, eo, nF, rc, S'⟩ := S.freeze eh
    rw [eH] at eo
    cases eo
    have s1 := same_new (o := .lst vs) nF
    refine ⟨_, _, _, Dl, s0.trans s1, S', ?_, q, k.mono s1⟩
    refine ⟨by simp [rs.len], fun j d' e => ?_⟩
    by_cases hj : i = j
    · subst hj
      by_cases hl : i < ρ.length
      · rw [List.getElem?_set_self hl] at e
        cases e
        refine ⟨v, ev, ?_⟩
        simp only [Rep]
        exact ⟨ad, vs, e2, upd_same, rr.mono s1⟩
      · rw [List.getElem?_eq_none (by simpa using hl)] at e; cases e
    · rw [List.getElem?_set_ne hj] at e
      obtain ⟨w, e3, r3⟩ := rs.at_ j d' e
      exact ⟨w, e3, r3.mono s1⟩
theorem RepS.wiped_l {K : PySem.W.Frag} {F : Hp} {ρ : Sl} {σ : L2.St} (r : RepS K F ρ σ) : ∀ vs, RepS K F (wipeS ρ vs) σ
  | [] => r
  | v :: vs => by
    have ih := RepS.wiped_l r vs
    unfold wipeS
    refine ⟨by simp [ih.len], fun j d e => ?_⟩
    by_cases hj : v = j
    · subst hj
      by_cases hi : v < (wipeS ρ vs).length
      · rw [List.getElem?_set_self hi] at e; cases e
      · rw [List.getElem?_eq_none (by simpa using hi)] at e; cases e
    · rw [List.getElem?_set_ne hj] at e
      exact ih.at_ j d e
theorem ls_for (dead : List Nat) (hp : PassesOwn (model X.prog X.w) X.A X.env X.xe) (hc : X.calm = true) (hi : PI X tg iter (LI X.K R F0 wi)) (hg : PG X tg (LG X.K R F0 S1 wg)) (hb : PSs X body (LS X.K R F0 w1)) (hs : noSet iter = true) :
    PS X (.For tg iter body [] pos) (LS X.K R F0 fun Dl ρ h => wi ρ h fun its g h1 => ∃ J : Nat → Sl → LH → Prop, J 0 (wipeS ρ dead) h1 ∧
      (∀ i d ρ h, its[i]? = some d → J i ρ h → g h ∧ wg d ρ h fun ρ2 h2 => w1 { Dl with nx := fun ρ h => J (i + 1) (wipeS ρ dead) h, ct := fun ρ h => J (i + 1) (wipeS ρ dead) h, bk := fun ρ h => Dl.nx (wipeS ρ dead) h } ρ2 h2) ∧
      ∀ ρ h, J its.length ρ h → g h ∧ Dl.nx ρ h) :=
  PS.imp (ps_for hp hc hi hg hb (set_plain hs)) fun De σ H ⟨F, h, ρ, Dl, s0, S, rs, hw, k⟩ => ⟨F, h, ρ, _, s0, S, rs, hw, fun F1 h1 H1 its g J s1 Sa ok q => by
    obtain ⟨Jv, j0, step, fin⟩ := q
    refine ⟨fun i m σ' H' => ∃ F' h' ρ', Same F1 F' ∧ Sim X.K R F' h' H' ∧ RepS X.K F' ρ' σ' ∧ Jv i ρ' h' ∧ i ≤ its.length ∧ m = its.length - i,
      ⟨its.length, F1, h1, _, Same.refl F1, Sa, (rs.mono s1).wiped_l dead, j0, Nat.zero_le _, by simp⟩, ?_⟩
    rintro i m σ' H' ⟨F', h', ρ', s', S', rs', jv, li, rfl⟩
    by_cases hlt : i < its.length
    · have ed : its[i]? = some its[i] := List.getElem?_eq_getElem hlt
      obtain ⟨gh, hw⟩ := step i its[i] ρ' h' ed jv
      obtain ⟨go, yl⟩ := (ok R F' h' H' i s' S' gh).1 _ ed
      refine .inr ⟨go, fun σ'' H'' => ∃ F' h' ρ', Same F1 F' ∧ Sim X.K R F' h' H'' ∧ RepS X.K F' ρ' σ'' ∧ Jv (i + 1) ρ' h', fun σ'' H'' ⟨F2, h2, ρ2, a1, a2, a3, a4⟩ => ⟨its.length - (i + 1), by omega, F2, h2, ρ2, a1, a2, a3, a4, hlt, rfl⟩, fun x H'' y => ?_⟩
      obtain ⟨F2, s2, S2, rx⟩ := yl x H'' y
      have z2 := s'.trans s2
      refine ⟨F2, h', ρ', _, _, s0.trans (s1.trans z2), S2, rs'.mono s2, rx, hw, fun F3 h3 H3 ρ3 σ3 s3 S3 rs3 _ q3 => ?_⟩
      have z3 := z2.trans s3
      refine ⟨F3, h3, ρ3, _, s0.trans (s1.trans z3), S3, rs3, q3, ?_⟩
      exact ⟨fun F4 h4 H4 ρ4 σ4 s4 S4 rs4 q4 => ⟨F4, h4, _, z3.trans s4, S4, rs4.wiped_l dead, q4⟩, fun F4 h4 H4 d v s4 S4 r4 q4 => k.rt F4 h4 H4 d v (s1.trans (z3.trans s4)) S4 r4 q4,
        fun F4 h4 H4 ρ4 σ4 s4 S4 rs4 q4 => k.nx F4 h4 H4 _ σ4 (s1.trans (z3.trans s4)) S4 (rs4.wiped_l dead) q4, fun F4 h4 H4 ρ4 σ4 s4 S4 rs4 q4 => ⟨F4, h4, _, z3.trans s4, S4, rs4.wiped_l dead, q4⟩⟩
    · have e : i = its.length := by omega
      subst e
      obtain ⟨gh, hm⟩ := fin ρ' h' jv
      exact .inl ⟨(ok R F' h' H' its.length s' S' gh).2 rfl, k.nx F' h' H' ρ' σ' (s1.trans s') S' rs' hm⟩⟩
theorem ls_whil (dead : List Nat) (hp : PassesOwn (model X.prog X.w) X.A X.env X.xe) (hc : PT X c (LT X.K R F0 wt)) (hb : PSs X body (LS X.K R F0 w1)) :
    PS X (.While c body [] pos) (LS X.K R F0 fun Dl ρ h => ∃ J : Nat → Sl → LH → Prop, (∃ m, J m (wipeS ρ dead) h) ∧ ∀ m ρ h, J m ρ h → wt ρ h fun c h1 =>
      if c = true then w1 { Dl with nx := fun ρ h => ∃ m', m' < m ∧ J m' (wipeS ρ dead) h, ct := fun ρ h => ∃ m', m' < m ∧ J m' (wipeS ρ dead) h, bk := fun ρ h => Dl.nx (wipeS ρ dead) h } ρ h1 else Dl.nx ρ h1) :=
  PS.imp (ps_while hp hc hb) fun De σ H ⟨F, h, ρ, Dl, s0, S, rs, hw, k⟩ => by
    obtain ⟨Jv, ⟨m0, j0⟩, step⟩ := hw
    refine ⟨fun m σ' H' => ∃ F' h' ρ', Same F F' ∧ Sim X.K R F' h' H' ∧ RepS X.K F' ρ' σ' ∧ Jv m ρ' h', ⟨m0, F, h, _, Same.refl F, S, rs.wiped_l dead, j0⟩, ?_⟩
    rintro m σ' H' ⟨F', h', ρ', s', S', rs', jv⟩
    refine ⟨F', h', ρ', _, s0.trans s', S', rs', step m ρ' h' jv, fun F2 h2 H2 t s2 S2 q2 => ?_⟩
    have z2 := s'.trans s2
    cases t with
    | false => exact k.nx F2 h2 H2 ρ' σ' z2 S2 (rs'.mono s2) q2
    | true =>
      refine ⟨fun σ'' H'' => ∃ m', m' < m ∧ ∃ F' h' ρ', Same F F' ∧ Sim X.K R F' h' H'' ∧ RepS X.K F' ρ' σ'' ∧ Jv m' ρ' h', fun σ'' H'' q => q, F2, h2, ρ', _, s0.trans z2, S2, rs'.mono s2, q2, ?_⟩
      exact ⟨fun F4 h4 H4 ρ4 σ4 s4 S4 rs4 ⟨m', hm, q4⟩ => ⟨m', hm, F4, h4, _, z2.trans s4, S4, rs4.wiped_l dead, q4⟩, fun F4 h4 H4 d v s4 S4 r4 q4 => k.rt F4 h4 H4 d v (z2.trans s4) S4 r4 q4,
        fun F4 h4 H4 ρ4 σ4 s4 S4 rs4 q4 => k.nx F4 h4 H4 _ σ4 (z2.trans s4) S4 (rs4.wiped_l dead) q4, fun F4 h4 H4 ρ4 σ4 s4 S4 rs4 ⟨m', hm, q4⟩ => ⟨m', hm, F4, h4, _, z2.trans s4, S4, rs4.wiped_l dead, q4⟩⟩
/-! raise -/
theorem repFs_zip {K : PySem.W.Frag} {F : Hp} : ∀ {fl : List Str} {ds : List D} {vs : List V}, RepL K F ds vs → RepFs K F (fl.zip ds) (fl.zip vs)
  | [], _, _, _ => by simp [RepFs]
  | f :: fl, [], _, r => by simp only [RepL] at r; subst r; simp [RepFs]
  | f :: fl, d :: ds, _, r => by
    simp only [RepL] at r
    obtain ⟨v, vs, rfl, r1, r2⟩ := r
    simp only [List.zip_cons_cons, RepFs]
    exact ⟨v, _, rfl, r1, repFs_zip r2⟩
theorem repFs_append {K : PySem.W.Frag} {F : Hp} : ∀ {fs gs : List (Str × D)} {fv gv : List (Str × V)}, RepFs K F fs fv → RepFs K F gs gv → RepFs K F (fs ++ gs) (fv ++ gv)
  | [], _, _, _, r, q => by simp only [RepFs] at r; subst r; exact q
  | (f, d) :: fs, _, _, _, r, q => by
    simp only [RepFs, List.cons_append] at r ⊢
    obtain ⟨v, vs, rfl, r1, r2⟩ := r
    exact ⟨v, _, rfl, r1, repFs_append r2 q⟩
theorem repFs_rev {K : PySem.W.Frag} {F : Hp} : ∀ {fs : List (Str × D)} {fv : List (Str × V)}, RepFs K F fs fv → RepFs K F fs.reverse fv.reverse
  | [], _, r => by simp only [RepFs] at r; subst r; simp [RepFs]
  | (f, d) :: fs, _, r => by
    simp only [RepFs] at r
    obtain ⟨v, vs, rfl, r1, r2⟩ := r
    rw [List.reverse_cons, List.reverse_cons]
    refine repFs_append (repFs_rev r2) ?_
    simp only [RepFs]
    exact ⟨v, [], rfl, r1, rfl⟩
theorem same_xd {F : Hp} {p : Addr} {o : HO} (n : F p = none) : Same F (upd F p o) := same_new n
theorem ls_raise {pos2 : Pos} {Γ : G} {ec : List Addr} {P : Prm} {ed : EXS} {i : Nat} {x : Str} {fl : List Str} (g : Good Γ ec X R F0 P ed) (hc : Γ.calm = true) (hi : Γ.ex[i]? = some x) (hf : P.fl i = some fl) (hg : Gl X x) (hd : (x == ("__debug__" : Str)) = false) (ha : PA X (a :: es) (LA X.K R F0 n wl)) (h1 : noStar a = true) (h2 : noStars es = true) :
    PS X (.Raise (some (.Call (.Name x p) (a :: es) [] pos)) none pos2) (LS X.K R F0 fun _ ρ h => wl ρ h fun ds h1 => opt (P.fl i) fun fs => fs.length = ds.length ∧ ed ⟨i, (fs.zip ds).reverse⟩ ρ h1) := by
  obtain ⟨C, k, fI, fd, ps, ec, l9, oex, hfi, hty, hr, hb, hm, Fn⟩ := g.ex hc i x fl hi hf
  refine PS.imp (ps_raise (g.calm hc) g.tk (pmk_oex (dvs := []) oex hfi hty Fn hr hb .nil (fun pins σ H s e s' I c => ?_) hg hm ha hd (star_cons h1) (plain_args h2))) fun De σ H ⟨F, h, ρ, Dl, s0, S, rs, hw, kk⟩ => ?_
  · exact g.tk e s' (XE.of_call (E := fun _ _ _ => False) I (fun _ _ _ z => z.elim) c)
  · refine ⟨F, h, ρ, _, s0, S, rs, hw, fun F1 h1 H1 ds vs el s1 Sa r q => ?_⟩
    rw [hf] at q
    obtain ⟨elen, q⟩ := (show fl.length = ds.length ∧ _ from q)
    have hl := r.length
    refine ⟨by omega, fun ad hn => ⟨ad, vs ++ [], rfl, by simp; omega, upd_same, fun dx hdx hne => ⟨rfl, dx, (fl.zip vs).reverse, ?_, ?_, ?_, ?_⟩⟩⟩
    · rw [upd_same]
    · rw [upd_ne hne, upd_same, List.append_nil]
    · rw [upd_ne hne] at hdx; exact hdx
    · have hdx' : H1 dx = none := by rw [upd_ne hne] at hdx; exact hdx
      have eH : upd (del (upd (upd (upd H1 ad (exo ad C none)) dx (exd dx (fl.zip (vs ++ [])).reverse)) ad (exo ad C (some dx))) ad) dx (.xd (fl.zip vs).reverse) = upd H1 dx (.xd (fl.zip vs).reverse) := by
        funext b
        by_cases hb : b = dx
        · subst hb; rw [upd_same, upd_same]
        · rw [upd_ne hb, upd_ne hb]
          by_cases hb2 : b = ad
          · subst hb2; rw [del_same, hn]
          · rw [del_ne hb2, upd_ne hb2, upd_ne hb, upd_ne hb2]
      rw [eH]
      have nF := (Sa.free hdx').1
      refine ⟨_, h1, ⟨i, (fl.zip ds).reverse⟩, ρ, s0.trans (s1.trans (same_xd nF)), Sa.frozen hdx', ⟨C, dx, (fl.zip vs).reverse, ec, rfl, rfl, upd_same, repFs_rev (repFs_zip (r.mono (same_xd nF)))⟩, rs.mono (s1.trans (same_xd nF)), q⟩
end
end Lg

namespace Lg
open PySem PySem.Spec PyProof.Rows L2
/-! ### the words are the code -/
mutual
def Tg.sl : Tg → List Nat
  | .nm i => [i]
  | .tp r => r.sl
  | .sb _ _ => []
def Tgs.sl : Tgs → List Nat
  | .nil => []
  | .cons x r => x.sl ++ r.sl
end
def blkΓ (Γ : G) (scope : Scope) : G := { Γ with sc := relS scope Γ.sc, all := false, bsc := scope, body := false }
def susΓ (Γ : G) : G := { Γ with calm := false, body := false }
def constB (d : D) (c : Const) : Bool := match d, c with
  | .non, .none => true
  | .bl b, .bool b' => b == b'
  | .int i, .int j => decide (i = j)
  | .str x, .str y => decide (x = y)
  | _, _ => false
def clF (Γ : G) (c : Nat) (f : Str) : Bool := match Γ.cl[c]? with
  | some ci => decide (f ∈ ci.fl)
  | none => false
def clM (Γ : G) (c : Nat) (m : Str) (i : Nat) : Bool := match Γ.cl[c]? with
  | some ci => decide ((m, i) ∈ ci.ms) && decide (i < Γ.fs.length)
  | none => false
def clI (Γ : G) (c : Nat) (x : Str) (i : Nat) : Bool := match Γ.cl[c]? with
  | some ci => decide (ci.nm = x) && decide (ci.ini = some i) && decide (i < Γ.fs.length)
  | none => false
/-- a method of some class -/
def clA (Γ : G) (i : Nat) : Bool := Γ.cl.any fun ci => ci.ms.any fun q => decide (q.2 = i)
mutual
def chkE (Γ : G) : E → Expr → Bool
  | .v i, e => match e with
    | .Name x _ => rdB Γ i x
    | _ => false
  | .k d, e => match e with
    | .Constant c _ _ => constB d c
    | _ => false
  | .g i, e => match e with
    | .Name x _ => decide (Γ.gc[i]? = some x) && glB Γ x
    | _ => false
  | .bin op a b, e => match e with
    | .BinOp l o r _ => decide (o = op) && chkE Γ a l && chkE Γ b r
    | _ => false
  | .binC op a b, e => match e with
    | .BinOp l o r _ => decide (o = op) && chkE Γ a l && chkE Γ b r
    | _ => false
  | .neg a, e => match e with
    | .UnaryOp .USub x _ => chkE Γ a x
    | _ => false
  | .cmp op a b, e => match e with
    | .Compare l [o] [r] _ => decide (o = op) && chkE Γ a l && chkE Γ b r && !(behindInMarks op r)
    | _ => false
  | .chn o1 o2 a b c, e => match e with
    | .Compare l [p1, p2] [r, t] _ => decide (p1 = o1) && decide (p2 = o2) && chkE Γ a l && chkE Γ b r && chkE Γ c t && !(behindInMarks o2 t)
    | _ => false
  | .nt a, e => match e with
    | .UnaryOp .Not x _ => chkE Γ a x
    | _ => false
  | .an xs, e => match e with
    | .BoolOp .And es _ => chkBs Γ xs es
    | _ => false
  | .or xs, e => match e with
    | .BoolOp .Or es _ => chkBs Γ xs es
    | _ => false
  | .ife t a b, e => match e with
    | .IfExp c x y _ => chkT Γ t c && chkE Γ a x && chkE Γ b y
    | _ => false
  | .tup xs, e => match e with
    | .Tuple es _ _ => chkEs Γ xs es && decide (es.length ≤ 1000)
    | _ => false
  | .lst xs, e => match e with
    | .List es _ => chkEs Γ xs es && decide (es.length ≤ 1000)
    | _ => false
  | .new xs, e => match e with
    | .List es _ => chkEs Γ xs es && decide (es.length ≤ 1000)
    | _ => false
  | .newD, e => match e with
    | .Dict [] [] _ => true
    | _ => false
  | .sub a b, e => match e with
    | .Subscript l r _ => chkE Γ a l && chkE Γ b r && noSlice r
    | _ => false
  | .slc a lo hi, e => match e with
    | .Subscript l (.Slice x y none _) _ => chkE Γ a l && chkO Γ lo x && chkO Γ hi y
    | _ => false
  | .rev a, e => match e with
    | .Subscript l (.Slice none none (some (.UnaryOp .USub (.Constant (.int 1) _ _) _)) _) _ => chkE Γ a l
    | _ => false
  | .blt b xs, e => match e with
    | .Call (.Name x _) (a :: es) [] _ => Γ.calm && decide (x = b.nm) && glB Γ x && chkEs Γ xs (a :: es) && noStar a && noStars es
    | _ => false
  | .bltC b xs, e => match e with
    | .Call (.Name x _) (a :: es) [] _ => decide (x = b.nm) && glB Γ x && chkEs Γ xs (a :: es) && noStar a && noStars es && (match b with
      | .dict => Γ.calm
      | _ => true)
    | _ => false
  | .isa a t, e => match e with
    | .Call (.Name x _) [l, .Name y _] [] _ => decide (x = ("isinstance" : Str)) && glB Γ x && glB Γ y && decide ((y, t) ∈ tyNames) && chkE Γ a l && noStar l
    | _ => false
  | .call f xs, e => match e with
    | .Call (.Name x _) (a :: es) [] _ => Γ.calm && decide (Γ.fs[f]? = some x) && glB Γ x && chkEs Γ xs (a :: es) && noStar a && noStars es && decide (x ≠ ("" : Str)) && decide (stOf Γ f = none)
    | .Call (.Name x _) [] [] _ => Γ.calm && decide (Γ.fs[f]? = some x) && glB Γ x && chkEs Γ xs [] && decide (x ≠ ("" : Str)) && decide (stOf Γ f = none)
    | _ => false
  | .meth m o xs, e => match e with
    | .Call (.Attribute l nm ap) args [] cp => noSup l && (ap.endLine == cp.line) && chkE Γ o l && chkEs Γ xs args && noStars args && (match m with
      | .append => decide (nm = ("append" : Str)) && decide (args.length = 1)
      | .pop => decide (nm = ("pop" : Str)) && decide (args.length = 0)
      | .popi => decide (nm = ("pop" : Str)) && decide (args.length = 1)
      | .index => decide (nm = ("index" : Str)) && decide (args.length = 1)
      | .count => decide (nm = ("count" : Str)) && decide (args.length = 1)
      | .get1 => decide (nm = ("get" : Str)) && decide (args.length = 1)
      | .get2 => decide (nm = ("get" : Str)) && decide (args.length = 2))
    | _ => false
  | .lc _ own tg it ts x, e => match e with
    | .ListComp elt [⟨tgt, iter, ifs, as⟩] scope _ => Γ.calm && decide (as = 0) && blkC Γ.N Γ.sc scope own && tg.sl.all (fun j => decide (j ∈ own.map (·.2))) && chkI Γ it tgt iter && noSet iter && chkTg (blkΓ Γ scope) tg tgt && chkTs (blkΓ Γ scope) ts ifs && chkE (blkΓ Γ scope) x elt
    | _ => false
  | .xf i f, e => match e with
    | .Attribute (.Name x _) g _ => decide (g = f) && rdB Γ i x && decide (f ∈ xNames)
    | _ => false
  | .isx i c, e => match e with
    | .Call (.Name x _) [.Name y _, .Name z _] [] _ => decide (x = ("isinstance" : Str)) && rdB Γ i y && decide (Γ.ex[c]? = some z) && glB Γ x && glB Γ z
    | _ => false
  | .dc own tg it ts k v, e => match e with
    | .DictComp ek ev [⟨tgt, iter, ifs, as⟩] scope _ => Γ.calm && decide (as = 0) && blkC Γ.N Γ.sc scope own && tg.sl.all (fun j => decide (j ∈ own.map (·.2))) && chkI Γ it tgt iter && noSet iter && chkTg (blkΓ Γ scope) tg tgt && chkTs (blkΓ Γ scope) ts ifs && chkE (blkΓ Γ scope) k ek && chkE (blkΓ Γ scope) v ev
    | _ => false
  | .srv c a, e => match e with
    | .Call (.Name x _) [l] [⟨some r, .Constant (.bool true) _ _, _⟩] _ => decide (x = ("sorted" : Str)) && decide (r = ("reverse" : Str)) && glB Γ x && chkE Γ a l && noStar l
    | _ => false
  | .fld c o f, e => match e with
    | .Attribute l g _ => decide (g = f) && noSup l && chkE Γ o l && clF Γ c f
    | _ => false
  | .mcl c m i o xs, e => match e with
    | .Call (.Attribute l nm ap) args [] cp => Γ.calm && decide (nm = m) && noSup l && (ap.endLine == cp.line) && chkE Γ o l && chkEs Γ xs args && noStars args && decide (args.length < 30) && clM Γ c m i && decide (stOf Γ i = none)
    | _ => false
  | .mst c m i n o xs, e => match e with
    | .Call (.Attribute l nm ap) args [] cp => Γ.calm && decide (nm = m) && noSup l && (ap.endLine == cp.line) && chkE Γ o l && chkEs Γ xs args && noStars args && decide (args.length < 30) && clM Γ c m i && decide (stOf Γ i = some (n + 1)) && !args.isEmpty
    | _ => false
  | .mk c i xs, e => match e with
    | .Call (.Name x _) args [] _ => Γ.calm && glB Γ x && chkEs Γ xs args && noStars args && clI Γ c x i && decide (stOf Γ i = none)
    | _ => false
  | .bm c m i o, e => match e with
    | .Attribute l nm _ => decide (nm = m) && noSup l && chkE Γ o l && clM Γ c m i
    | _ => false
  | .cv is f xs, e => match e with
    | .Call (.Subscript a b p) args [] _ => Γ.calm && chkE Γ f (.Subscript a b p) && chkEs Γ xs args && noStars args && decide (args ≠ []) && is.all (fun i => decide (stOf Γ i = none) && decide (i < Γ.fs.length) && clA Γ i)
    | _ => false
def chkO (Γ : G) : O → Option Expr → Bool
  | .no, e => match e with
    | none => true
    | _ => false
  | .ex a, e => match e with
    | some x => chkE Γ a x
    | _ => false
def chkT (Γ : G) : T → Expr → Bool
  | .e a, e => noTest e && chkE Γ a e
  | .cmp op a b, e => match e with
    | .Compare l [o] [r] _ => decide (o = op) && chkE Γ a l && chkE Γ b r && !(behindInMarks op r)
    | _ => false
  | .chn o1 o2 a b c, e => match e with
    | .Compare l [p1, p2] [r, t] _ => decide (p1 = o1) && decide (p2 = o2) && chkE Γ a l && chkE Γ b r && chkE Γ c t && !(behindInMarks o2 t)
    | _ => false
  | .nt a, e => match e with
    | .UnaryOp .Not x _ => chkT Γ a x
    | _ => false
  | .an xs, e => match e with
    | .BoolOp .And es _ => chkTl Γ xs es
    | _ => false
  | .or xs, e => match e with
    | .BoolOp .Or es _ => chkTl Γ xs es
    | _ => false
  | .ife t a b, e => match e with
    | .IfExp c x y _ => chkT Γ t c && chkT Γ a x && chkT Γ b y
    | _ => false
def chkEs (Γ : G) : Es → List Expr → Bool
  | .nil, l => match l with
    | [] => true
    | _ => false
  | .cons x r, l => match l with
    | e :: es => chkE Γ x e && noStar e && chkEs Γ r es
    | _ => false
def chkBs (Γ : G) : Es → List Expr → Bool
  | .nil, _ => false
  | .cons x r, l => match l with
    | [] => false
    | e :: es => chkE Γ x e && (match r with
      | .nil => es.isEmpty
      | r => chkBs Γ r es)
def chkTl (Γ : G) : Ts → List Expr → Bool
  | .nil, _ => false
  | .cons x r, l => match l with
    | [] => false
    | e :: es => chkT Γ x e && (match r with
      | .nil => es.isEmpty
      | r => chkTl Γ r es)
def chkTs (Γ : G) : Ts → List Expr → Bool
  | .nil, l => match l with
    | [] => true
    | _ => false
  | .cons x r, l => match l, r with
    | [e], .nil => chkT Γ x e
    | _, _ => false
def chkTg (Γ : G) : Tg → Expr → Bool
  | .nm i, e => match e with
    | .Name x _ => wrB Γ i x
    | _ => false
  | .tp r, e => match e with
    | .Tuple es _ _ => Γ.calm && noStars es && chkTgs Γ r es
    | _ => false
  | .sb o i, e => match e with
    | .Subscript l r _ => chkE Γ o l && chkE Γ i r && noSlice r
    | _ => false
def chkTgs (Γ : G) : Tgs → List Expr → Bool
  | .nil, l => match l with
    | [] => true
    | _ => false
  | .cons x r, l => match l with
    | e :: es => chkTg Γ x e && noStar e && chkTgs Γ r es
    | _ => false
def chkI (Γ : G) : I → Expr → Expr → Bool
  | .sq a, _, e => chkE Γ a e
  | .r1 a, _, e => match e with
    | .Call (.Name x _) [l] [] _ => decide (x = ("range" : Str)) && glB Γ x && chkE Γ a l && noStar l
    | _ => false
  | .r2 a b, _, e => match e with
    | .Call (.Name x _) [l, r] [] _ => decide (x = ("range" : Str)) && glB Γ x && chkE Γ a l && noStar l && chkE Γ b r && noStar r
    | _ => false
  | .r3 a b c, _, e => match e with
    | .Call (.Name x _) [l, r, t] [] _ => decide (x = ("range" : Str)) && glB Γ x && chkE Γ a l && noStar l && chkE Γ b r && noStar r && chkE Γ c t && noStar t
    | _ => false
  | .en a, tg, e => match tg, e with
    | .Tuple _ _ _, .Call (.Name x _) [l] [] _ => decide (x = ("enumerate" : Str)) && glB Γ x && chkE Γ a l && noStar l
    | _, _ => false
  | .zp a b, tg, e => match tg, e with
    | .Tuple _ _ _, .Call (.Name x _) [l, r] [] _ => decide (x = ("zip" : Str)) && glB Γ x && chkE Γ a l && noStar l && chkE Γ b r && noStar r
    | _, _ => false
end
/-- name = [..] on one line -/
def swB (Γ : G) (x : Str) (px pv : Pos) (scope : Scope) : Bool := kdB Γ x .local && (px.line == pv.line) && !(scope.names.any fun (n, k) => n == x && (k == .local || k == .cell))
def fnKind (Γ : G) : Bool := decide (Γ.sc.kind = .function)
theorem sw_lcF {elt : Expr} {gs : List Comprehension} {scope : Scope} {pos py : Pos} {y : Str} {l : Nat} {env : Env} (hk : env.scope.kind = .function) :
    swapsWith (.ListComp elt gs scope pos) (some (.Name y py)) l env = pure (env.kindOf y == some .local && py.line == pos.line && !(scope.names.any fun (n, k) => n == y && (k == .local || k == .cell))) := by
  have hb : env.blockKind = .function := by unfold Env.blockKind; rw [hk]; rfl
  unfold swapsWith
  simp only [hb, Expr.pos]
  rfl
theorem sw_dcF {ek ev : Expr} {gs : List Comprehension} {scope : Scope} {pos py : Pos} {y : Str} {l : Nat} {env : Env} (hk : env.scope.kind = .function) :
    swapsWith (.DictComp ek ev gs scope pos) (some (.Name y py)) l env = pure (env.kindOf y == some .local && py.line == pos.line && !(scope.names.any fun (n, k) => n == y && (k == .local || k == .cell))) := by
  have hb : env.blockKind = .function := by unfold Env.blockKind; rw [hk]; rfl
  unfold swapsWith
  simp only [hb, Expr.pos]
  rfl
theorem sw_par {x y : Str} {px py pt pt2 : Pos} {kt k2 : Nat} {va vb : Expr} {env : Env} (hk : env.scope.kind = .function) (hx : env.scope.names.lookup x = some .local) (hy : env.scope.names.lookup y = some .local)
    (hl : (py.line == px.line) = true) (hxy : (x == y) = false) (s1 : noStar va = true) (s2 : noStar vb = true) (f : [va, vb].all (foldedForSure 8) = false) (c : [va, vb].all (constantsAlone 8) = false) :
    swappedStores [.Tuple [.Name x px, .Name y py] kt pt] (.Tuple [va, vb] k2 pt2) env = pure (some [x, y]) := by
  have hb : env.blockKind = .function := by unfold Env.blockKind; rw [hk]; rfl
  have kx : env.kindOf x = some .local := hx
  have ky : env.kindOf y = some .local := hy
  have hl' : py.line = px.line := by simpa using hl
  have ex : (Expr.Name x px).pos = px := rfl
  have e1 : [x, y].eraseDups = [x, y] := by
    have : (y == x) = false := by
      rw [beq_eq_false_iff_ne] at hxy ⊢
      exact fun q => hxy q.symm
    simp [List.eraseDups_cons, this]
  unfold swappedStores
  simp only [hb]
  rw [if_neg (by simp)]
  rw [if_neg (fun h => by
    rw [List.any_eq_true] at h
    obtain ⟨e, he, h2⟩ := h
    have hn : noStar e = true := by
      simp only [List.mem_cons, List.not_mem_nil, or_false] at he
      rcases he with rfl | rfl
      · exact s1
      · exact s2
    cases e <;> first | (simp at h2; done) | (simp [noStar] at hn; done))]
  simp only [List.filterMap_cons, List.filterMap_nil, List.head?_cons, Option.map_some, Option.getD_some, ex, kx, ky, hl', beq_self_eq_true, Bool.and_self, if_true, e1, f, c]
  rfl
mutual
def chkS (Γ : G) : S → Stmt → Bool
  | .set t e, s => match s with
    | .Assign [tg] v p => chkE Γ e v && (match t, tg with
      | .nm i, .Name x px => wrB Γ i x && (noComp v || (match e, v with
        | .lc .., .ListComp _ _ scope pv => fnKind Γ
        | .dc .., .DictComp _ _ _ scope pv => fnKind Γ
        | _, _ => false))
      | t, tg => chkTg Γ t tg && noComp v && !(isTup tg && isTup v) && noStar tg)
    | _ => false
  | .par is xs, s => match is, s with
    | [i, j], .Assign [.Tuple [.Name x px, .Name y py] _ _] (.Tuple [va, vb] _ _) _ => Γ.calm && fnKind Γ && atB Γ i x && atB Γ j y && decide (i ≠ j) && kdB Γ x .local && kdB Γ y .local && (py.line == px.line) && !(x == y) && noStar va && noStar vb && !([va, vb].all (foldedForSure 8)) && !([va, vb].all (constantsAlone 8)) && chkEs Γ xs [va, vb]
    | _, _ => false
  | .aug i op e, s => match s with
    | .AugAssign (.Name x _) o v _ => wrB Γ i x && decide (o = op) && chkE Γ e v
    | _ => false
  | .augS .., _ => false
  | .setF c o f e, s => match s with
    | .Assign [.Attribute l g _] v _ => decide (g = f) && chkE Γ o l && chkE Γ e v && clF Γ c f
    | _ => false
  | .ife t a b, s => match s with
    | .If c x y _ => chkT Γ t c && chkSs Γ a x && chkSs Γ b y
    | _ => false
  | .ret e, s => match s with
    | .Return (some v) _ => chkE Γ e v
    | _ => false
  | .retN, s => match s with
    | .Return none _ => true
    | _ => false
  | .ex e, s => match s with
    | .Expr v _ => chkE Γ e v && noComp v
    | _ => false
  | .raise c xs, s => match s with
    | .Raise (some (.Call (.Name x _) (a :: es) [] _)) none _ => Γ.calm && decide (Γ.ex[c]? = some x) && (match Γ.fl[c]? with | some (some _) => true | _ => false) && glB Γ x && chkEs Γ xs (a :: es) && noStar a && noStars es
    | _ => false
  | .for_ tg it _ b, s => match s with
    | .For tgt iter body [] _ => Γ.calm && Γ.body && noSet iter && chkI Γ it tgt iter && chkTg Γ tg tgt && chkSs Γ b body
    | _ => false
  | .whil t _ b, s => match s with
    | .While c body [] _ => Γ.body && chkT Γ t c && chkSs Γ b body
    | _ => false
  | .brk, s => match s with
    | .Break _ => true
    | _ => false
  | .cont, s => match s with
    | .Continue _ => true
    | _ => false
  | .pass, s => match s with
    | .Pass _ => true
    | _ => false
  | .try_ b hs, s => match s with
    | .Try body (h :: hds) [] [] _ => Γ.calm && Γ.body && chkSs Γ b body && chkHs Γ hs (h :: hds)
    | _ => false
def chkSs (Γ : G) : Ss → List Stmt → Bool
  | .nil, l => match l with
    | [] => true
    | _ => false
  | .cons x r, l => match l with
    | s :: ss => chkS Γ x s && chkSs Γ r ss
    | _ => false
  | .frz _ r, l => chkSs Γ r l
  | .wk _ r, l => chkSs Γ r l
def chkHs (Γ : G) : Hs → List ExceptHandler → Bool
  | .nil, l => match l with
    | [] => true
    | _ => false
  | .cons c i b r, l => match l with
    | .ExceptHandler (some (.Name x _)) n (b₀ :: suite) _ :: hds => decide (Γ.ex[c]? = some x) && glB Γ x && (match i, n with
      | some i, some n => atB Γ i n && kdB Γ n .local
      | none, none => true
      | _, _ => false) && chkSs (susΓ Γ) b (b₀ :: suite) && chkHs Γ r hds
    | _ => false
end
end Lg

namespace Lg
open PySem PySem.Spec PyProof.Rows L2
/-! ### t[::-1] -/
section
variable {prog : Program} {w : World} {A : Around} {E : Value → Shared → Prop} {s : Shared}
theorem rv_adjust (n : Nat) : Builtin.Slice.sliceAdjust none none (-1) (n : Int) = ((n : Int) - 1, -1) := by
  unfold Builtin.Slice.sliceAdjust
  simp
theorem rv_places (n : Nat) : Builtin.Slice.slicePlaces ((n : Int) - 1) (-1) (-1) = n := by
  unfold Builtin.Slice.slicePlaces
  have h1 : ¬ ((-1 : Int) > 0) := by omega
  simp only [h1, if_false]
  split
  · rw [show (-(-1) : Int) = 1 from rfl, Int.ediv_one]; omega
  · omega
theorem rv_pick (xs : Array Value) : ((List.range xs.size).filterMap fun (m : Nat) => xs[(((xs.size : Nat) : Int) - 1 + (m : Int) * (-1)).toNat]?).toArray = xs.toList.reverse.toArray := by
  have e : ∀ (m : Nat), m ∈ List.range xs.size → xs[(((xs.size : Nat) : Int) - 1 + (m : Int) * (-1)).toNat]? = (xs.toList.reverse)[m]? := by
    intro m hm
    have hm := List.mem_range.mp hm
    have e1 : (((xs.size : Nat) : Int) - 1 + (m : Int) * (-1)).toNat = xs.size - 1 - m := by omega
    rw [e1, List.getElem?_reverse (by rw [Array.length_toList]; exact hm), Array.length_toList, Array.getElem?_toList]
  have e2 : ∀ (l : List Nat), (∀ m ∈ l, m ∈ List.range xs.size) → l.filterMap (fun (m : Nat) => xs[(((xs.size : Nat) : Int) - 1 + (m : Int) * (-1)).toNat]?) = l.filterMap (fun m => (xs.toList.reverse)[m]?) := by
    intro l hl
    induction l with
    | nil => rfl
    | cons m l ih => rw [List.filterMap_cons, List.filterMap_cons, e m (hl m (List.mem_cons_self ..)), ih fun k hk => hl k (List.mem_cons_of_mem _ hk)]
  rw [e2 _ fun _ h => h]
  have e3 : ∀ (l : List Value), (List.range l.length).filterMap (fun m => l[m]?) = l := by
    intro l
    induction l with
    | nil => rfl
    | cons x l ih => rw [List.length_cons, List.range_succ_eq_map, List.filterMap_cons, List.filterMap_map]; simp only [List.getElem?_cons_zero]; congr 1
  have := e3 xs.toList.reverse
  rw [List.length_reverse, Array.length_toList] at this
  rw [this]
theorem rv_applied {sl : Addr} {vl vu vs : Value} {n : Nat} {Q : Int × Int × Nat → Shared → Prop} (hs : s.heap.IsSliceOf sl vl vu vs) (pl : IsPart vl none) (pu : IsPart vu none) (ps : IsPart vs (some (-1)))
    (h : Q ((n : Int) - 1, -1, n) s) : wpAny (model prog w) A (Builtin.Slice.sliceApplied (.ref sl) (pure (n : Int))) Q E s := by
  obtain ⟨os, hos, hcs, hds⟩ := id hs
  unfold Builtin.Slice.sliceApplied Builtin.Slice.sliceFields
  refine wpAny_bind (wpAny_bind (wpAny_field hos hds (x := vl) rfl (wpAny_bind (wpAny_field hos hds (x := vu) rfl (wpAny_bind (wpAny_field hos hds (x := vs) rfl (wpAny_pure ?_)))))))
  refine wpAny_bind (HT.slicePart_ ps ?_)
  show wpAny _ _ (if ((-1 : Int) == 0) = true then _ else _) _ _ s
  rw [if_neg (by decide)]
  refine wpAny_bind (HT.slicePart_ pl (wpAny_bind (HT.slicePart_ pu (wpAny_bind (wpAny_pure ?_)))))
  show wpAny _ _ (match Builtin.Slice.sliceAdjust none none (-1) (n : Int) with | (lo, hi) => pure (lo, (-1 : Int), Builtin.Slice.slicePlaces lo hi (-1))) _ _ s
  rw [rv_adjust n]
  show wpAny _ _ (pure ((n : Int) - 1, (-1 : Int), Builtin.Slice.slicePlaces ((n : Int) - 1) (-1) (-1))) _ _ s
  rw [rv_places]
  exact wpAny_pure h
theorem rv_getItem {t sl : Addr} {items : Array Value} {vl vu vs : Value} {Q : Value → Shared → Prop} (ht : IsTup s.heap t items) (hs : s.heap.IsSliceOf sl vl vu vs) (pl : IsPart vl none) (pu : IsPart vu none) (ps : IsPart vs (some (-1)))
    (h : Q (.ref s.heap.objs.size) { s with heap := s.heap.push { cls := .type "tuple", data := .seq items.toList.reverse.toArray } })
    (hsz : items.size ≤ sizeLine) : wpAny (model prog w) A (getItem (.ref t) (.ref sl)) Q E s := by
  have htake : sizeOk (.seq items.toList.reverse.toArray) := by
    show items.toList.reverse.toArray.size ≤ sizeLine
    rw [List.size_toArray, List.length_reverse, Array.length_toList]
    omega
  obtain ⟨os, hos, hcs, hds⟩ := id hs
  have hTs : s.TypeIs (.ref sl) "slice" := ⟨os, hos, hcs⟩
  unfold getItem
  try with_reducible refine wpAny_holding ?_
  first | refine wpAny_bind (wpAny_pure ?_) | skip
  refine wpAny_bind (wpAny_sequenceKey ht.typeIs (by decide) ?_)
  refine wpAny_bind (wpAny_callSpecial?_slot (name := Str.ofString "__getitem__") ht.typeIs PyProof.Rows.slot_tuple_getitem
    (wpAny_call_entry PyProof.Rows.slot_tuple_getitem ht.typeIs PyProof.Rows.entry_tuple_getitem ?_ (PyProof.Rows.args_tuple_getitem _ _)))
  show wpAny _ _ (Builtin.Tuple.tupleItemsOf (.ref t) >>= _) _ _ s
  refine wpAny_bind (tupleItemsOf_ ht ?_)
  refine wpAny_bind (wpAny_typeOf hTs ?_)
  rw [if_pos (by decide)]
  refine wpAny_bind (rv_applied hs pl pu ps ?_)
  have hno : ¬ (((((items.size : Nat) : Int) - 1) == 0 && (-1 : Int) == 1 && items.size == items.size) = true) := by
    intro q
    rw [Bool.and_eq_true, Bool.and_eq_true] at q
    exact absurd q.1.2 (by decide)
  show wpAny _ _ (if ((((items.size : Nat) : Int) - 1) == 0 && (-1 : Int) == 1 && items.size == items.size) = true then _ else _) _ _ s
  rw [if_neg hno, rv_pick]
  first
    | exact wpAny_bind (m := Builtin.Tuple.tupleExact _) (wpAny_newObj_type (wpAny_pure ⟨_, rfl, wpAny_pure h⟩) htake)
    | exact wpAny_bind (m := Builtin.Tuple.tupleExact _) (wpAny_newObj_type (wpAny_bind (wpAny_pure (wpAny_pure ⟨_, rfl, wpAny_pure h⟩))) htake)
    | exact wpAny_bind (wpAny_bind (m := Builtin.Tuple.tupleExact _) (wpAny_newObj_type (wpAny_pure (wpAny_pure ⟨_, rfl, wpAny_pure h⟩)) htake))
    | exact wpAny_bind (wpAny_bind (m := Builtin.Tuple.tupleExact _) (wpAny_newObj_type (wpAny_pure ⟨_, rfl, wpAny_pure h⟩) htake))
end
section
variable {X : Cx}
def tRevA (K : PySem.W.Frag) (te : TE) : TE := fun σ H Q => te σ H fun x H1 => ∃ a xs, x = .ref a ∧ ((SqL K H1 a xs ∧ ∀ p, H1 p = none → Q (.ref p) (upd H1 p (.lst xs.reverse))) ∨ (SqT K H1 a xs ∧ NewT H1 xs.reverse Q))
theorem pe_revA {e : Expr} {te : TE} {k : Nat} {p1 p2 p3 pos : Pos} (he : PE X e te) : PE X (.Subscript e (.Slice none none (some (.UnaryOp .USub (.Constant (.int 1) k p1) p2)) p3) pos) (tRevA X.K te) := by
  refine ⟨fun pins s σ H Q I h => ?_⟩
  refine Subscript_ (thn (he.run pins s σ H _ I h) fun v s1 ⟨x, H1, I1, r1, q1⟩ => ?_)
  obtain ⟨a, xs, ex, hx⟩ := q1
  subst ex
  cases r1
  have hst : PO X (some (.UnaryOp .USub (.Constant (.int 1) k p1) p2)) (tPart (tUn (rU fun i => .int (-i)) (tC (.int 1)))) := po_some (pe_un un_neg pe_int)
  refine wpAny_Slice (thn (po_none.run pins s1 σ H1 (fun o H2 => o = none ∧ H2 = H1) I1 ⟨rfl, rfl⟩) fun vl s2 ⟨l, H2, I2, pl, el, e2⟩ => ?_)
  subst el e2
  refine thn (po_none.run pins s2 σ H2 (fun o H3 => o = none ∧ H3 = H2) I2 ⟨rfl, rfl⟩) fun vu s3 ⟨u, H3, I3, pu, eu, e3⟩ => ?_
  subst eu e3
  refine thn (hst.run pins s3 σ H3 (fun o H4 => o = some (-1) ∧ H4 = H3) I3 ⟨1, rfl, -1, rfl, rfl, rfl⟩) fun vs s4 ⟨o, H4, I4, ps, eo, e4⟩ => ?_
  subst eo e4
  have I5 : Inv X pins σ H4 { s4 with heap := s4.heap.push { cls := .type "slice", data := .fields #[vl, vu, vs] } } := I4.kept (t' := s4.toks) fun b ob q => Heap.get?_push_of_some _ q
  show wpAny (model X.prog X.w) X.A (subscriptTail e (.Slice none none (some (.UnaryOp .USub (.Constant (.int 1) k p1) p2)) p3) (.ref a) (.ref s4.heap.objs.size)) (EP X pins σ Q) X.xe { s4 with heap := s4.heap.push { cls := .type "slice", data := .fields #[vl, vu, vs] } }
  rcases hx with ⟨hx, q⟩ | ⟨hx, q⟩
  · obtain ⟨its, r, ht, hz⟩ := I5.list hx
    have hlen := r.length
    refine tail_any (ops := [.ref a, .ref s4.heap.objs.size]) ht.isList.typeIs (PySem.slot_list_getitem.lookup) ?_ (by with_unfolding_all rfl)
    refine wpAny_getItem_list_slice ht.isList (Heap.IsSliceOf.new _ vl vu vs) pl pu ps (by decide) ?_ (by rw [List.size_toArray]; omega)
    rw [PySem.W.krv_pick]
    refine ⟨.ref _, _, I5.laid (t' := s4.toks) (o := .lst xs.reverse) (fun b ob q => Heap.get?_push_of_some _ q) (Nat.le_refl _) ?_, rfl, q _ (I5.hok.fresh (Nat.le_refl _))⟩
    exact ⟨by rw [List.length_reverse]; exact hz, _, 0, r.reverse, Heap.get?_push_size _ rfl⟩
  · obtain ⟨its, r, ht, hz⟩ := I5.tuple hx
    have hlen := r.length
    refine tail_any (ops := [.ref a, .ref s4.heap.objs.size]) ht.typeIs (PyProof.Rows.slot_tuple_getitem.lookup) ?_ (by with_unfolding_all rfl)
    refine rv_getItem ht (Heap.IsSliceOf.new _ vl vu vs) pl pu ps ?_ (by rw [List.size_toArray]; omega)
    exact newT_at (t' := s4.toks) I5 r.reverse (by rw [List.length_reverse]; exact hz) q
theorem le_rev {R F0 : Hp} {a : Expr} {wa : Sl → LH → QD → Prop} {k : Nat} {p1 p2 p3 pos : Pos} (ha : PE X a (LE X.K R F0 wa)) :
    PE X (.Subscript a (.Slice none none (some (.UnaryOp .USub (.Constant (.int 1) k p1) p2)) p3) pos) (LE X.K R F0 fun ρ h Q => wa ρ h fun x h1 => revW x h1 Q) := by
  refine PE.imp (pe_revA ha) fun σ H Q ⟨F, h, ρ, Qd, s0, S, rs, hw, k⟩ => ⟨F, h, ρ, _, s0, S, rs, hw, fun F1 h1 H1 d v s1 S1 r1 q1 => ?_⟩
  simp only [revW] at q1
  split at q1
  · rename_i ds et
    have et := tupv_at et
    subst et
    obtain ⟨p, vs, ep, q, rr⟩ := tup_at S1 r1
    exact ⟨p, vs, ep, .inr ⟨q, (k.mono s1).newT S1 rr.reverse q1⟩⟩
  · rename_i et
    obtain ⟨ds, es, q1⟩ := opt_at q1
    obtain ⟨p, vs, ep, q, rr⟩ := seqL_at S1 r1 es et
    exact ⟨p, vs, ep, .inl ⟨q, (k.mono s1).newL S1 rr.reverse q1⟩⟩
end
/-! ### isinstance(e, C), e the caught exception: yes -/
section
variable {K : PySem.W.Frag} {x t : Value} {H : Heap → Prop}
open PySem.W in
theorem kit_yes {c : Value} (ty : ∀ (M : Model) (h : Heap), K.In h → H h → Looks M h (typeOf x) t) (e : kitOne K t c = some true) : Answers (fun s => K.In s.heap ∧ H s.heap) x c true := by
  intro dep tk prog w A R s hs
  obtain ⟨h0, g, d, tt, os⟩ := s
  obtain ⟨⟨X, p⟩, hq⟩ := hs
  have LT := ty (model prog w) h0 X p
  unfold kitOne at e
  unfold Builtin.«isinstance.nested»
  refine wpAny_bind (LT.at ?_)
  by_cases q : (t == c) = true
  · rw [if_pos q] at e
    rw [if_pos q]
    first
      | ((repeat lk); exact hq tt)
      | exact wpAny_bind (wpAny_rule (hq tt))
      | exact wpAny_bind (wpAny_rule (wpAny_pure (hq tt)))
  · rw [if_neg q] at e
    rw [if_neg q]
    obtain ⟨hty, his, hsub⟩ := kit_cls (M := model prog w) X e
    have LI : Looks (model prog w) h0 (isInstance x c) true := LT.andThen hsub
    refine wpAny_bind (hty.at ?_)
    rw [if_pos (by decide)]
    k_delta "plainIsInstance"
    refine wpAny_bind (wpAny_bind (his.at ?_))
    simp only [Bool.not_true, Bool.false_eq_true, if_false]
    refine wpAny_bind (LI.at ?_)
    first
      | exact wpAny_pure (wpAny_pure (hq tt))
      | (simp only [if_true]; first | exact wpAny_pure (wpAny_pure (hq tt)) | exact wpAny_pure (hq tt) | exact wpAny_bind (wpAny_pure (wpAny_pure (hq tt))))
theorem kit_of_exm {cls c : Value} (e : PySem.W.exmOne K cls c = some true) : PySem.W.kitOne K cls c = some true := by
  unfold PySem.W.exmOne at e
  split at e
  · unfold PySem.W.kitOne; split
    · rfl
    · exact e
  · cases e
end
section
variable {X : Cx} {R F0 : Hp}
theorem call_isx {a : Addr} {oe : Obj} {pn : List (Addr × Obj)} {cls : Value} {d : Option Addr} (hz : Zc cls d oe) : CallR (X.suite a ((a, oe) :: pn)) (.builtin "isinstance") (fun xs H Q => ∃ (c : V) (cv : Value), xs = [.ref a, c] ∧ (∀ u, RelV c u → u = cv) ∧ PySem.W.exmOne X.K cls cv = some true ∧ Q (.bl true) H) := by
  intro pins s σ H xs us Q I r h
  obtain ⟨c, cv, rfl, hcv, e, q⟩ := h
  cases r with
  | cons rx rr =>
    cases rr with
    | cons rt rr =>
      cases rr
      cases rx
      have ec := hcv _ rt
      subst ec
      obtain ⟨hget, _⟩ := I.pin (a, oe) (List.mem_append.mpr (.inl List.mem_cons_self))
      exact call_isinstance (S := fun _ R s => (X.K.In s.heap ∧ s.heap.get? a = some oe) ∧ ∀ tk, R (.ok (.ret (.bool true))) { s with toks := tk })
        (fun prog w A R s hs => isinstance_outer (kit_yes (H := fun h => h.get? a = some oe) (fun M h _ p A Q E s k q => wpAny_typeOf_ref (k _ _ p) (by rw [hz.1]; exact q)) (kit_of_exm e) 0 _ prog w A R s hs) (fun z => nomatch z))
        ⟨⟨I.kIn, hget⟩, fun tk => ⟨.bl true, H, I.kept (t' := tk) fun _ _ z => z, rfl, q⟩⟩
theorem hotX_at {o : Option (Addr × Exn)} {d : D} {f : Exn → Prop} (h : hotX o d f) : ∃ a x, o = some (a, x) ∧ d = .ref a ∧ f x := by
  cases o with
  | none => exact h.elim
  | some q =>
    obtain ⟨a, x⟩ := q
    cases d with
    | ref b =>
      obtain ⟨e, h'⟩ := (show a = b ∧ f x from h)
      exact ⟨a, x, rfl, by rw [e], h'⟩
    | _ => exact h.elim
theorem le_isx {Γ : G} {ec : List Addr} {P : Prm} {ed : EXS} {i c : Nat} {x y : Str} {p px py pos : Pos} (g : Good Γ ec X R F0 P ed) (hr : rdB Γ i x = true) (hy : Γ.ex[c]? = some y) (h1 : glB Γ "isinstance" = true) (h2 : glB Γ y = true) :
    PE X (.Call (.Name "isinstance" p) [.Name x px, .Name y py] [] pos) (LE X.K R F0 fun ρ h Q => opt (slot ρ i) fun d => hotX P.hot d (fun xx => P.sb xx.cls c = true ∧ Q (.bl true) h)) := by
  refine ⟨fun pins s σ H Q I hw => ?_⟩
  obtain ⟨F, h, ρ, Qd, s0, S, rs, hw, k⟩ := hw
  obtain ⟨d, ed', hw⟩ := opt_at hw
  obtain ⟨ad, xx, eh, ed2, hsb, hw3⟩ := hotX_at hw
  obtain ⟨C, hC, hmC, hex⟩ := g.sb c y hy
  obtain ⟨hg1, hd1⟩ := g.gl h1
  obtain ⟨hg2, hd2⟩ := g.gl h2
  have hb := g.bl _ isi_in
  obtain ⟨r1, r2, r3, r4⟩ := g.rd hr
  obtain ⟨u, eu, ru⟩ := rs.at_ i _ (slot_at ed')
  rw [ed2] at ru
  simp only [Rep] at ru
  subst ru
  obtain ⟨X0, oe, pn, cls, dd, rfl, hz, hv, C', dx, fs', ec', ecl, edd, eF, rf⟩ := g.hot _ _ eh
  have hN : PE (Cx.suite X0 ad ((ad, oe) :: pn)) (.Name y py) (tC (.ref C)) := ⟨fun pins s σ H Q I q => ld_glob I hg2 hmC ⟨.ref C, H, I, rfl, q⟩ hd2⟩
  have hex := hex _ _ ec'
  rw [hsb, ← ecl] at hex
  refine (pe_callB (call_isx hz) hg1 hb PyProof.Rows.boot_isinstance (pa_cons (pe_var r1 r2 r3 r4) (pa_cons hN pa_nil rfl) rfl) (by decide) (by decide) rfl rfl).run pins s σ H Q I ?_
  exact ⟨.ref ad, eu, .ref C, .ref C, rfl, fun u r => by cases r; rfl, hex, k.here S (by simp only [Rep]) hw3⟩
end
end Lg

namespace Lg
open PySem PySem.Spec PyProof.Rows L2
/-! ### dict comprehensions -/
section
variable {X : Cx}
/-- name = {..}, the name a local on the same line -/
theorem ps_setDc {i : Nat} {y : Str} {py : Pos} {kx vx tg iter : Expr} {ifs : List Expr} {scope : Scope} {own : List (Str × Nat)} {pos spos : Pos} {wi : TI} {g : TG} {tt : TT} {tk tv : TE} (hc : X.calm = true) (hN : X.N.Nodup) (hy : X.N[i]? = some y) (hyl : X.env.scope.names.lookup y = some .local)
    (hsw : swapsWith (.DictComp kx vx [⟨tg, iter, ifs, 0⟩] scope pos) (some (.Name y py)) spos.line X.env = pure true) (hi : PI X tg iter wi) (ok : BlkOk X.N X.env.scope scope own)
    (hg : ∀ (s : Shared) (H : Hp) (C : Addr) (cl : List (Str × Addr)) (fp : List Addr), PG (X.blk s H scope (compEnvC scope cl C X.env) fp) tg g) (ht : ∀ (s : Shared) (H : Hp) (C : Addr) (cl : List (Str × Addr)) (fp : List Addr), PTs (X.blk s H scope (compEnvC scope cl C X.env) fp) ifs tt)
    (hk : ∀ (s : Shared) (H : Hp) (C : Addr) (cl : List (Str × Addr)) (fp : List Addr), PE (X.blk s H scope (compEnvC scope cl C X.env) fp) kx tk)
    (he : ∀ (s : Shared) (H : Hp) (C : Addr) (cl : List (Str × Addr)) (fp : List Addr), PE (X.blk s H scope (compEnvC scope cl C X.env) fp) vx tv) (hs : ∀ x, foldedSetIterable iter X.env x = pure x) :
    PS X (.Assign [.Name y py] (.DictComp kx vx [⟨tg, iter, ifs, 0⟩] scope pos) spos) (tAsg (tDc wi g tt tk tv (own.map (·.2))) (gName i)) := by
  refine ⟨fun pins s σ H D I h => ?_⟩
  rw [exec_Assign_Name_used _ _ _ _ hsw]
  refine wpAny_bind (wpAny_standAt (wpAny_bind ?_))
  show wpAny _ X.A (do let _ ← comprehension (.DictComp kx vx [⟨tg, iter, ifs, 0⟩] scope pos) scope X.env (firstIterPos [⟨tg, iter, ifs, 0⟩] pos) newDict false (eval iter X.env) (some (assign (.Name y py) X.env))) _ _ s
  have h : tDc wi g tt tk tv (own.map (·.2)) σ H (fun x H1 => gName i x σ H1 D.nx) := h
  refine wpAny_bind (thn (dc_core (Qf := fun _ s' => SP X pins D .next s') hc hN I hi ok hg ht hk he hs h fun L C s' m H' I' q hn f => ?_) fun _ s' hq => wpAny_pure (wpAny_pure hq))
  show wpAny _ _ (assign (.Name y py) X.env (.ref L)) _ _ _
  refine wpAny_assign_Name (store_ok2 (v := V.ref L) I' hN hy (.inl hyl) rfl (fun s2 I2 ⟨a, sb, ha⟩ => ?_) (.inr hyl))
  obtain ⟨f0, f1, f2, f3, f4, f5⟩ := f
  have haC : C ≠ a := by
    rcases ha with z | z
    · rw [z]; exact f1
    · exact fun e => f4 y a z e.symm
  refine ⟨m, hn.sameBut sb haC, fun h3 sb3 => ?_⟩
  exact ⟨_, H', I2.turned (t' := s2.toks) (fun b o hb e => (sb3.2 b hb).trans e) f0 f1 f3 f4 f5, q⟩
end
section
variable {X : Cx} {R F0 : Hp} {ek ev tg iter : Expr} {ifs : List Expr} {scope : Scope} {own : List (Str × Nat)} {pos : Pos} {S1 : List Nat} {wi : Sl → LH → (List D → (LH → Prop) → LH → Prop) → Prop} {wg : D → Sl → LH → QS → Prop} {wt : Sl → LH → QB → Prop} {wk wv : Sl → LH → QD → Prop}
def dcT (wg : D → Sl → LH → QS → Prop) (wt : Sl → LH → QB → Prop) (wk wv : Sl → LH → QD → Prop) (ρ : Sl) : D → LH → (Option (D × D) → LH → Prop) → Prop := fun d h2 K => wg d ρ h2 fun ρ2 h3 => wt ρ2 h3 fun b h4 => if b = true then wk ρ2 h4 fun y h5 => wv ρ2 h5 fun z h6 => K (some (y, z)) h6 else K none h4
theorem putD_len {kvs : List (Key × D)} {k : Key} {v : D} : (putD kvs k v).length ≤ kvs.length + 1 := by
  unfold putD
  split
  · rw [List.length_map]; omega
  · rw [List.length_append]; simp
theorem dc_read {K : PySem.W.Frag} {vs : List Nat} {σ : L2.St} {H : Hp} {Q : VK} (hS : ∀ j ∈ S1, j ∈ vs) (h : LE K R F0 (fun ρ h Q => wi ρ h fun its g h1 => dcW its g h1 Q (dcT wg wt wk wv (wipeS ρ vs))) σ H Q) :
    tDc (LI K R F0 wi) (blkG K S1 wg) (blkT K wt) (blkE K wk) (blkE K wv) vs σ H Q := by
  obtain ⟨F, h, ρ, Qd, s0, S, rs, hw, k⟩ := h
  refine ⟨F, h, ρ, _, s0, S, rs, hw, fun F1 h1 H1 its g J s1 Sa ok q => fun D hD => ?_⟩
  obtain ⟨Jv, hz, j0, step, fin⟩ := q
  have hR : R D = none := Sa.freeR hD
  refine ⟨fun i m H' => ∃ F' h' acc vs', Same F1 F' ∧ Sim K (upd R D (.dK vs')) F' h' H' ∧ RepKV K F' acc vs' ∧ Jv i acc h' ∧ acc.length ≤ i ∧ i ≤ its.length ∧ m = its.length - i,
    ⟨its.length, F1, h1, [], [], Same.refl F1, Sa.hold hD, by simp only [RepKV], j0, Nat.le_refl _, Nat.zero_le _, by simp⟩, ?_⟩
  rintro i m H' ⟨F', h', acc, vs', s', S', ra, jv, la, li, rfl⟩
  by_cases hlt : i < its.length
  · have ed : its[i]? = some its[i] := List.getElem?_eq_getElem hlt
    obtain ⟨gh, hw⟩ := step i its[i] acc h' ed jv
    obtain ⟨go, yl⟩ := (ok (upd R D (.dK vs')) F' h' H' i s' S' gh).1 _ ed
    refine .inr ⟨go, fun H'' => ∃ F' h' acc vs', Same F1 F' ∧ Sim K (upd R D (.dK vs')) F' h' H'' ∧ RepKV K F' acc vs' ∧ Jv (i + 1) acc h' ∧ acc.length ≤ i + 1, fun H'' ⟨F2, h2, acc2, vs2, a1, a2, a3, a4, a5⟩ => ⟨its.length - (i + 1), by omega, F2, h2, acc2, vs2, a1, a2, a3, a4, a5, hlt, rfl⟩, fun x H'' y => ?_⟩
    obtain ⟨F2, s2, S2, rx⟩ := yl x H'' y
    refine ⟨upd R D (.dK vs'), F2, F2, h', _, _, _, Same.refl F2, S2, (rs.mono (s1.trans (s'.trans s2))).wiped vs, rx, hw, fun F3 h3 H3 ρ3 σ3 s3 S3 rs3 ⟨el, fr⟩ q3 => ⟨wipe_eq hS el fr, ?_⟩⟩
    refine ⟨upd R D (.dK vs'), F3, F3, h3, ρ3, _, Same.refl F3, S3, rs3, q3, fun F4 h4 H4 b s4 S4 q4 => ?_⟩
    have z4 : Same F1 F4 := s'.trans (s2.trans (s3.trans s4))
    cases b with
    | false => exact ⟨F4, h4, acc, vs', z4, S4, ra.mono (s2.trans (s3.trans s4)), q4, by omega⟩
    | true =>
      refine ⟨upd R D (.dK vs'), F4, F4, h4, ρ3, _, Same.refl F4, S4, rs3.mono s4, q4, fun F5 h5 H5 d v s5 S5 r5 q5 => ?_⟩
      refine ⟨upd R D (.dK vs'), F5, F5, h5, ρ3, _, Same.refl F5, S5, (rs3.mono s4).mono s5, q5, fun F6 h6 H6 d' v' s6 S6 r6 q6 => ?_⟩
      obtain ⟨kk, ek, q6⟩ := opt_at q6
      have ra6 := ra.mono (s2.trans (s3.trans (s4.trans (s5.trans s6))))
      have hl := repKV_len ra6
      have pl := putD_len (kvs := acc) (k := kk) (v := d')
      exact ⟨vs', kk, key_of r5 ek, (S6.rs D _ upd_same).1, by omega, F6, h6, putD acc kk d', putK vs' kk v', z4.trans (s5.trans s6), S6.held, put_rep ra6 r6, q6, by omega⟩
  · have e : i = its.length := by omega
    subst e
    obtain ⟨gh, hm⟩ := fin acc h' jv
    refine .inl ⟨(ok (upd R D (.dK vs')) F' h' H' its.length s' S' gh).2 rfl, ?_⟩
    obtain ⟨_, nF, nh⟩ := S'.rs D _ upd_same
    exact k F' _ H' (.ref D) (.ref D) (s1.trans s') (S'.held_cell (c := .dct acc) hR ⟨vs', rfl, ra⟩) rfl (hm D nh)
theorem le_dc (hc : X.calm = true) (hN : X.N.Nodup) (hi : PI X tg iter (LI X.K R F0 wi)) (ok : BlkOk X.N X.env.scope scope own) (hS : ∀ j ∈ S1, j ∈ own.map (·.2))
    (hg : ∀ (s : Shared) (H : Hp) (C : Addr) (cl : List (Str × Addr)) (fp : List Addr) (R F0 : Hp), PG (X.blk s H scope (compEnvC scope cl C X.env) fp) tg (LG X.K R F0 S1 wg))
    (ht : ∀ (s : Shared) (H : Hp) (C : Addr) (cl : List (Str × Addr)) (fp : List Addr) (R F0 : Hp), PTs (X.blk s H scope (compEnvC scope cl C X.env) fp) ifs (LT X.K R F0 wt))
    (hk : ∀ (s : Shared) (H : Hp) (C : Addr) (cl : List (Str × Addr)) (fp : List Addr) (R F0 : Hp), PE (X.blk s H scope (compEnvC scope cl C X.env) fp) ek (LE X.K R F0 wk))
    (he : ∀ (s : Shared) (H : Hp) (C : Addr) (cl : List (Str × Addr)) (fp : List Addr) (R F0 : Hp), PE (X.blk s H scope (compEnvC scope cl C X.env) fp) ev (LE X.K R F0 wv)) (hs : noSet iter = true) :
    PE X (.DictComp ek ev [⟨tg, iter, ifs, 0⟩] scope pos) (LE X.K R F0 fun ρ h Q => wi ρ h fun its g h1 => dcW its g h1 Q (dcT wg wt wk wv (wipeS ρ (own.map (·.2))))) :=
  PE.imp (pe_dc (g := blkG X.K S1 wg) (tt := blkT X.K wt) (tk := blkE X.K wk) (tv := blkE X.K wv) hc hN hi ok
    (fun s H C cl fp => ⟨fun pins s' σ H' v u Q I r ⟨R', F', h⟩ => (hg s H C cl fp R' F').run pins s' σ H' v u Q I r h⟩)
    (fun s H C cl fp => ⟨fun pins s' σ H' Q I ⟨R', F', h⟩ => (ht s H C cl fp R' F').run pins s' σ H' Q I h⟩)
    (fun s H C cl fp => ⟨fun pins s' σ H' Q I ⟨R', F', h⟩ => (hk s H C cl fp R' F').run pins s' σ H' Q I h⟩)
    (fun s H C cl fp => ⟨fun pins s' σ H' Q I ⟨R', F', h⟩ => (he s H C cl fp R' F').run pins s' σ H' Q I h⟩) (set_plain hs)) fun σ H Q h => dc_read hS h
theorem ls_setDc {i : Nat} {y : Str} {py spos : Pos} (hc : X.calm = true) (hN : X.N.Nodup) (hy : X.N[i]? = some y) (hyl : X.env.scope.names.lookup y = some .local) (hsw : swapsWith (.DictComp ek ev [⟨tg, iter, ifs, 0⟩] scope pos) (some (.Name y py)) spos.line X.env = pure true)
    (hi : PI X tg iter (LI X.K R F0 wi)) (ok : BlkOk X.N X.env.scope scope own) (hS : ∀ j ∈ S1, j ∈ own.map (·.2))
    (hg : ∀ (s : Shared) (H : Hp) (C : Addr) (cl : List (Str × Addr)) (fp : List Addr) (R F0 : Hp), PG (X.blk s H scope (compEnvC scope cl C X.env) fp) tg (LG X.K R F0 S1 wg))
    (ht : ∀ (s : Shared) (H : Hp) (C : Addr) (cl : List (Str × Addr)) (fp : List Addr) (R F0 : Hp), PTs (X.blk s H scope (compEnvC scope cl C X.env) fp) ifs (LT X.K R F0 wt))
    (hk : ∀ (s : Shared) (H : Hp) (C : Addr) (cl : List (Str × Addr)) (fp : List Addr) (R F0 : Hp), PE (X.blk s H scope (compEnvC scope cl C X.env) fp) ek (LE X.K R F0 wk))
    (he : ∀ (s : Shared) (H : Hp) (C : Addr) (cl : List (Str × Addr)) (fp : List Addr) (R F0 : Hp), PE (X.blk s H scope (compEnvC scope cl C X.env) fp) ev (LE X.K R F0 wv)) (hs : noSet iter = true) :
    PS X (.Assign [.Name y py] (.DictComp ek ev [⟨tg, iter, ifs, 0⟩] scope pos) spos) (LS X.K R F0 fun Dl ρ h => wi ρ h fun its g h1 => dcW its g h1 (fun d h2 => Dl.nx (ρ.set i (some d)) h2) (dcT wg wt wk wv (wipeS ρ (own.map (·.2))))) :=
  PS.imp (ps_setDc (g := blkG X.K S1 wg) (tt := blkT X.K wt) (tk := blkE X.K wk) (tv := blkE X.K wv) hc hN hy hyl hsw hi ok
    (fun s H C cl fp => ⟨fun pins s' σ H' v u Q I r ⟨R', F', h⟩ => (hg s H C cl fp R' F').run pins s' σ H' v u Q I r h⟩)
    (fun s H C cl fp => ⟨fun pins s' σ H' Q I ⟨R', F', h⟩ => (ht s H C cl fp R' F').run pins s' σ H' Q I h⟩)
    (fun s H C cl fp => ⟨fun pins s' σ H' Q I ⟨R', F', h⟩ => (hk s H C cl fp R' F').run pins s' σ H' Q I h⟩)
    (fun s H C cl fp => ⟨fun pins s' σ H' Q I ⟨R', F', h⟩ => (he s H C cl fp R' F').run pins s' σ H' Q I h⟩) (set_plain hs)) fun De σ H ⟨F, h, ρ, Dl, s0, S, rs, hw, k⟩ => by
    refine dc_read (Q := fun x H1 => De.nx (σ.set i (some x)) H1) hS ?_
    refine ⟨F, h, ρ, fun d h2 => Dl.nx (ρ.set i (some d)) h2, s0, S, rs, hw, fun F1 h1 H1 d v s1 Sa r q => k.nx F1 h1 H1 _ _ s1 Sa ((rs.mono s1).set r) q⟩
end
end Lg

namespace Lg
open PySem PySem.Spec PyProof.Rows L2
/-! ### instances of own classes -/
section
variable {K : PySem.W.Frag} {R F : Hp} {h : LH} {H : Hp}
theorem repFs_some {f : Str} {d : D} : ∀ {fs : List (Str × D)} {vs : List (Str × V)}, RepFs K F fs vs → fs.lookup f = some d → ∃ v, vs.lookup f = some v ∧ Rep K F d v
  | [], _, _, e => by cases e
  | (g, x) :: fs, _, r, e => by
    simp only [RepFs] at r
    obtain ⟨v, r', rfl, h1, h2⟩ := r
    rw [List.lookup_cons] at e ⊢
    cases q : (f == g) with
    | true => rw [q] at e; cases e; exact ⟨v, rfl, h1⟩
    | false => rw [q] at e; exact repFs_some h2 e
theorem repFs_none {f : Str} : ∀ {fs : List (Str × D)} {vs : List (Str × V)}, RepFs K F fs vs → fs.lookup f = none → vs.lookup f = none
  | [], _, r, _ => by simp only [RepFs] at r; subst r; rfl
  | (g, x) :: fs, _, r, e => by
    simp only [RepFs] at r
    obtain ⟨v, r', rfl, h1, h2⟩ := r
    rw [List.lookup_cons] at e ⊢
    cases q : (f == g) with
    | true => rw [q] at e; cases e
    | false => rw [q] at e; exact repFs_none h2 e
theorem repFs_put {f : Str} {d : D} {v : V} (rd : Rep K F d v) : ∀ {fs : List (Str × D)} {vs : List (Str × V)}, RepFs K F fs vs → RepFs K F (putFD f d fs) (putF f v vs)
  | [], _, r => by
    simp only [RepFs] at r; subst r
    simp only [putFD, putF, RepFs]
    exact ⟨v, [], rfl, rd, rfl⟩
  | (g, x) :: fs, _, r => by
    simp only [RepFs] at r
    obtain ⟨w, r', rfl, h1, h2⟩ := r
    unfold putFD putF
    by_cases z : g = f
    · rw [if_pos z, if_pos z]; simp only [RepFs]; exact ⟨v, r', rfl, rd, h2⟩
    · rw [if_neg z, if_neg z]; simp only [RepFs]; exact ⟨w, _, rfl, h1, repFs_put rd h2⟩
theorem repFs_len : ∀ {fs : List (Str × D)} {vs : List (Str × V)}, RepFs K F fs vs → fs.length = vs.length
  | [], _, r => by simp only [RepFs] at r; subst r; rfl
  | (g, x) :: fs, _, r => by
    simp only [RepFs] at r
    obtain ⟨v, r', rfl, h1, h2⟩ := r
    simp only [List.length_cons, repFs_len h2]
theorem ins_at {d : D} {v : V} {C : Addr} {fs : List (Str × D)} (S : Sim K R F h H) (r : Rep K F d v) (e : insv h d = some (C, fs)) : ∃ a dx fs', v = .ref a ∧ H a = some (.ins C dx fs') ∧ RepFs K F fs fs' := by
  cases d with
  | ins C' fs2 =>
    simp only [insv, Option.some.injEq, Prod.mk.injEq] at e
    obtain ⟨rfl, rfl⟩ := e
    simp only [Rep] at r
    obtain ⟨a, dx, fs', rfl, q, r⟩ := r
    exact ⟨a, dx, fs', rfl, S.fz _ _ q, r⟩
  | ref a =>
    simp only [Rep] at r
    subst r
    simp only [insv] at e
    split at e
    · rename_i C' fs2 hx
      cases e
      obtain ⟨_, o, ho, dx, fs', rfl, rr⟩ := S.cl a _ hx
      exact ⟨a, dx, fs', rfl, ho, rr⟩
    · cases e
  | _ => simp only [insv] at e; cases e
theorem insC_at {x : D} {v : V} {C : Addr} {k : Addr → List (Str × D) → Prop} (S : Sim K R F h H) (r : Rep K F x v) (q : insC h x C k) : ∃ a dx fs fs', x = .ref a ∧ v = .ref a ∧ h a = some (.ins C fs) ∧ H a = some (.ins C dx fs') ∧ RepFs K F fs fs' ∧ k a fs := by
  cases x with
  | ref a =>
    simp only [Rep] at r
    subst r
    simp only [insC] at q
    split at q
    · rename_i C' fs2 hx
      obtain ⟨rfl, q⟩ := q
      obtain ⟨_, o, ho, dx, fs', rfl, rr⟩ := S.cl a _ hx
      exact ⟨a, dx, fs2, fs', rfl, rfl, hx, ho, rr, q⟩
    · exact q.elim
  | _ => exact q.elim
end
theorem sw_att {e : Expr} {o : Expr} {f : Str} {p : Pos} {l : Nat} {env : Env} : swapsWith e (some (.Attribute o f p)) l env = pure false := by
  cases e <;> rfl
theorem fewS {es : List Expr} {pos : Pos} {env : Env} (h : noStars es = true) (hl : es.length < 30) : methodCallForm (es.length + ([] : List Keyword).length) (backTo pos (starEach es env)) (backToKw pos (keywordEach [] env)) = true := by
  have key : ∀ es : List Expr, noStars es = true → (backTo pos (starEach es env)).all (fun x => !x.1) = true := by
    intro es
    induction es with
    | nil => intro _; rfl
    | cons e es ih =>
      intro h
      unfold noStars at h
      simp only [List.all_cons, Bool.and_eq_true] at h
      rw [star_cons h.1]
      have := ih h.2
      unfold backTo at this ⊢
      simp only [List.map_cons, List.all_cons, Bool.not_false, Bool.true_and]
      exact this
  unfold methodCallForm
  rw [key es h]
  have : (backToKw pos (keywordEach [] env)) = [] := rfl
  rw [this]
  simp; omega
theorem mcall_of {M : Model} {A : Around} {E : Value → Shared → Prop} {s : Shared} {env : Env} {o : Expr} {m : Str} {es : List Expr} {apos pos : Pos} {Q : Value → Shared → Prop} (h1 : noSup o = true) (h2 : noStars es = true) (hl : es.length < 30) (h3 : (apos.endLine == pos.line) = true)
    (h : wpAny M A (eval o env) (fun ov s₁ => wpAny M A (getMethod ov m (do return (← importBound o env).getD true)) (fun fx s₂ => wpAny M A (callWith pos fx.1 fx.2 (backTo pos (starEach es env)) []) Q E s₂) E s₁) E s) :
    wpAny M A (eval (.Call (.Attribute o m apos) es [] pos) env) Q E s := by
  have hform := fewS (pos := pos) (env := env) h2 hl
  have hpos : methodCallPos true o env apos pos = pure pos := by unfold methodCallPos; simp [h3]
  have hke : backToKw pos (keywordEach [] env) = [] := rfl
  rw [arm_eval_Call, ab_eq h1]
  refine wpAny_bind (wpAny_mono h (fun ov s₁ h₁ => ?_) fun _ _ x => x)
  refine wpAny_bind (wpAny_standAt ?_)
  unfold methodCall
  rw [hform, hpos, hke]
  refine wpAny_bind (wpAny_holding (wpAny_mono h₁ (fun fx s₂ h₂ => ?_) fun _ _ x => x))
  exact wpAny_bind (wpAny_pure h₂)
section
variable {Γ : G} {ec : List Addr} {X : Cx} {R F0 : Hp} {P : Prm} {ed : EXS} {o a e : Expr} {es : List Expr} {n c i : Nat} {m f x0 : Str} {ci : CI} {wo we : Sl → LH → QD → Prop} {wl : Sl → LH → QL → Prop} {p pos apos cpos : Pos}
theorem le_fld (g : Good Γ ec X R F0 P ed) (hc : Γ.cl[c]? = some ci) (hf : f ∈ ci.fl) (ho : PE X o (LE X.K R F0 wo)) (h1 : noSup o = true) :
    PE X (.Attribute o f pos) (LE X.K R F0 fun ρ h Q => wo ρ h fun x h1 => opt (insv h1 x) fun y => y.1 = P.ca c ∧ opt (y.2.lookup f) fun v => Q v h1) := by
  have CA := g.cl c ci hc
  refine PE.imp (pe_fld ho (ab_eq h1)) ?_
  intro σ H Q ⟨F, h, ρ, Qd, s0, S, rs, hw, k⟩
  refine ⟨F, h, ρ, _, s0, S, rs, hw, fun F1 h1 H1 d v s1 S1 r1 q1 => ?_⟩
  obtain ⟨⟨C, fs⟩, e, ec', q1⟩ := opt_at q1
  obtain ⟨w, e2, q2⟩ := opt_at q1
  obtain ⟨a, dx, fs', rfl, eH, rf⟩ := ins_at S1 r1 e
  obtain ⟨u, l, ru⟩ := repFs_some rf e2
  have ec' : C = P.ca c := ec'
  subst ec'
  exact ⟨a, _, dx, fs', u, rfl, eH, CA.cl, CA.no f hf, l, k F1 h1 H1 w u s1 S1 ru q2⟩
theorem le_bm (g : Good Γ ec X R F0 P ed) (hc : Γ.cl[c]? = some ci) (hm : (m, i) ∈ ci.ms) (ho : PE X o (LE X.K R F0 wo)) (h1 : noSup o = true) :
    PE X (.Attribute o m pos) (LE X.K R F0 fun ρ h Q => wo ρ h fun x h1 => opt (insv h1 x) fun y => (y.1 = P.ca c ∧ y.2.lookup m = none) ∧ Q (.bnd (P.fa i) x) h1) := by
  have CA := g.cl c ci hc
  have B := CA.ms m i hm
  refine ⟨fun pins s σ H Q I hw => ?_⟩
  obtain ⟨F, h, ρ, Qd, s0, S, rs, hw, k⟩ := hw
  refine attr_of (ab_eq h1) (thn (ho.run pins s σ H (fun v H1 => ∃ F1 h1 d, Same F F1 ∧ Sim X.K R F1 h1 H1 ∧ Rep X.K F1 d v ∧ opt (insv h1 d) fun y => (y.1 = P.ca c ∧ y.2.lookup m = none) ∧ Qd (.bnd (P.fa i) d) h1) I ⟨F, h, ρ, _, s0, S, rs, hw, fun F1 h1 H1 d v s1 S1 r1 q1 => ⟨F1, h1, d, s1, S1, r1, q1⟩⟩) fun u s1 ⟨v, H1, I1, rv, F1, h1, d, s1', S1, r1, q1⟩ => ?_)
  obtain ⟨⟨C, fs⟩, e, ⟨ec', el⟩, q1⟩ := opt_at q1
  obtain ⟨a, dx, fs', rfl, eH, rf⟩ := ins_at S1 r1 e
  have ec' : C = P.ca c := ec'
  subst ec'
  obtain rfl : u = Value.ref a := rv
  refine getbound_ok I1 eH CA.cl B (repFs_none rf el) fun q s2 hq I2 => ?_
  have nF := (S1.free hq).1
  refine ⟨.ref q, _, I2, rfl, k _ h1 _ (.bnd (P.fa i) d) (.ref q) (s1'.trans (same_new nF)) (S1.frozen hq) ?_ q1⟩
  simp only [Rep]
  exact ⟨q, a, rfl, upd_same, r1.mono (same_new nF)⟩
theorem le_mcl0 (g : Good Γ ec X R F0 P ed) (hcalm : Γ.calm = true) (hc : Γ.cl[c]? = some ci) (hm : (m, i) ∈ ci.ms) (hi : i < Γ.fs.length) (hst : stOf Γ i = none) (ho : PE X o (LE X.K R F0 wo)) (h1 : noSup o = true) (h3 : (apos.endLine == cpos.line) = true) :
    PE X (.Call (.Attribute o m apos) [] [] cpos) (LE X.K R F0 fun ρ h Q => wo ρ h fun x h1 => opt (insv h1 x) fun y => (y.1 = P.ca c ∧ y.2.lookup m = none) ∧ P.cf i [x] h1 Q fun e h3 => ed e ρ h3) := by
  have h2 : noStars ([] : List Expr) = true := rfl
  have hl : ([] : List Expr).length < 30 := by decide
  have CA := g.cl c ci hc
  have B := CA.ms m i hm
  have Fn := g.fs hcalm i _ (List.getElem?_eq_getElem hi)
  rw [hst] at Fn
  refine ⟨fun pins s σ H Q I hw => ?_⟩
  obtain ⟨F, h, ρ, Qd, s0, S, rs, hw, k⟩ := hw
  refine mcall_of h1 h2 hl h3 (thn (ho.run pins s σ H (fun v H1 => ∃ F1 h1 d, Same F F1 ∧ Sim X.K R F1 h1 H1 ∧ Rep X.K F1 d v ∧ opt (insv h1 d) fun y => (y.1 = P.ca c ∧ y.2.lookup m = none) ∧ P.cf i [d] h1 Qd fun e h3 => ed e ρ h3) I ⟨F, h, ρ, _, s0, S, rs, hw, fun F1 h1 H1 d v s1 S1 r1 q1 => ⟨F1, h1, d, s1, S1, r1, q1⟩⟩) fun u s1 ⟨v, H1, I1, rv, F1, h1, d, s1', S1, r1, q1⟩ => ?_)
  obtain ⟨⟨C, fs⟩, e, ⟨ec', el⟩, q1⟩ := opt_at q1
  obtain ⟨a, dx, fs', rfl, eH, rf⟩ := ins_at S1 r1 e
  have ec' : C = P.ca c := ec'
  subst ec'
  obtain rfl : u = Value.ref a := rv
  refine getmeth_ok I1 eH CA.cl B.mt (repFs_none rf el) ?_
  refine PySem.W.callWith_K0 (first := [.ref a]) I1.kIn B.mt.kp ?_
  exact wpAny_call (go_fn (us := [Value.ref a]) (vs := [V.ref a]) g Fn I1 (.cons rfl .nil) (s0.trans s1') S1 (rs.mono s1') (RepL.one r1) q1 (k.mono s1'))
theorem le_mcl (g : Good Γ ec X R F0 P ed) (hcalm : Γ.calm = true) (hc : Γ.cl[c]? = some ci) (hm : (m, i) ∈ ci.ms) (hi : i < Γ.fs.length) (hst : stOf Γ i = none) (ho : PE X o (LE X.K R F0 wo)) (ha : PA X (a :: es) (LA X.K R F0 n wl)) (h1 : noSup o = true) (hs1 : noStar a = true) (hs2 : noStars es = true) (hl : (a :: es).length < 30) (h3 : (apos.endLine == cpos.line) = true) :
    PE X (.Call (.Attribute o m apos) (a :: es) [] cpos) (LE X.K R F0 fun ρ h Q => wo ρ h fun x h1 => opt (insv h1 x) fun y => (y.1 = P.ca c ∧ y.2.lookup m = none) ∧ wl ρ h1 fun ds h2 => P.cf i (x :: ds) h2 Q fun e h3 => ed e ρ h3) := by
  have h2 : noStars (a :: es) = true := by unfold noStars at hs2 ⊢; simp [hs1, hs2]
  have CA := g.cl c ci hc
  have B := CA.ms m i hm
  have Fn := g.fs hcalm i _ (List.getElem?_eq_getElem hi)
  rw [hst] at Fn
  refine ⟨fun pins s σ H Q I hw => ?_⟩
  obtain ⟨F, h, ρ, Qd, s0, S, rs, hw, k⟩ := hw
  refine mcall_of h1 h2 hl h3 (thn (ho.run pins s σ H (fun v H1 => ∃ F1 h1 d, Same F F1 ∧ Sim X.K R F1 h1 H1 ∧ Rep X.K F1 d v ∧ opt (insv h1 d) fun y => (y.1 = P.ca c ∧ y.2.lookup m = none) ∧ wl ρ h1 fun ds h2 => P.cf i (d :: ds) h2 Qd fun e h3 => ed e ρ h3) I ⟨F, h, ρ, _, s0, S, rs, hw, fun F1 h1 H1 d v s1 S1 r1 q1 => ⟨F1, h1, d, s1, S1, r1, q1⟩⟩) fun u s1 ⟨v, H1, I1, rv, F1, h1, d, s1', S1, r1, q1⟩ => ?_)
  obtain ⟨⟨C, fs⟩, e, ⟨ec', el⟩, q1⟩ := opt_at q1
  obtain ⟨b, dx, fs', rfl, eH, rf⟩ := ins_at S1 r1 e
  have ec' : C = P.ca c := ec'
  subst ec'
  obtain rfl : u = Value.ref b := rv
  refine getmeth_ok I1 eH CA.cl B.mt (repFs_none rf el) ?_
  have hA := ha.run cpos pins s1 σ H1 (fun vs H2 => ∃ F2 h2 ds, Same F1 F2 ∧ Sim X.K R F2 h2 H2 ∧ RepL X.K F2 ds vs ∧ P.cf i (d :: ds) h2 Qd fun e h3 => ed e ρ h3) I1 ⟨F1, h1, ρ, _, s0.trans s1', S1, rs.mono s1', q1, fun F2 h2 H2 ds vs _ s2 S2 r2 q => ⟨F2, h2, ds, s2, S2, r2, q⟩⟩
  refine PySem.W.callWith_K (first := [.ref b]) (h₀ := X.base) I.ok.mod.kin B.mt.kp (thn hA fun us s2 ⟨vs, H2, I2, r, F2, h2, ds, s2', S2, r2, q⟩ => ⟨I2.kIn, ?_⟩) (star_cons hs1) (plain_args hs2)
  have r1' := r1.mono s2'
  exact wpAny_call (go_fn (us := Value.ref b :: us) (vs := V.ref b :: vs) (ds := d :: ds) g Fn I2 (.cons rfl r) (s0.trans (s1'.trans s2')) S2 (rs.mono (s1'.trans s2')) (by simp only [RepL]; exact ⟨_, _, rfl, r1', r2⟩) q (k.mono (s1'.trans s2')))
theorem le_mst {q : Nat} (g : Good Γ ec X R F0 P ed) (hcalm : Γ.calm = true) (hc : Γ.cl[c]? = some ci) (hm : (m, i) ∈ ci.ms) (hi : i < Γ.fs.length) (hst : stOf Γ i = some (q + 1)) (ho : PE X o (LE X.K R F0 wo)) (ha : PA X (a :: es) (LA X.K R F0 n wl)) (h1 : noSup o = true) (hs1 : noStar a = true) (hs2 : noStars es = true) (hl : (a :: es).length < 30) (h3 : (apos.endLine == cpos.line) = true) :
    PE X (.Call (.Attribute o m apos) (a :: es) [] cpos) (LE X.K R F0 fun ρ h Q => wo ρ h fun x h1 => opt (insv h1 x) fun y => (y.1 = P.ca c ∧ y.2.lookup m = none) ∧ wl ρ h1 fun ds h2 => (q ≤ ds.length ∧ ds.length < sizeLine) ∧ P.cf i (x :: (ds.take q ++ [.tup (ds.drop q)])) h2 Q fun e h3 => ed e ρ h3) := by
  have h2 : noStars (a :: es) = true := by unfold noStars at hs2 ⊢; simp [hs1, hs2]
  have CA := g.cl c ci hc
  have B := CA.ms m i hm
  have Fn := g.fs hcalm i _ (List.getElem?_eq_getElem hi)
  rw [hst] at Fn
  refine ⟨fun pins s σ H Q I hw => ?_⟩
  obtain ⟨F, h, ρ, Qd, s0, S, rs, hw, k⟩ := hw
  refine mcall_of h1 h2 hl h3 (thn (ho.run pins s σ H (fun v H1 => ∃ F1 h1 d, Same F F1 ∧ Sim X.K R F1 h1 H1 ∧ Rep X.K F1 d v ∧ opt (insv h1 d) fun y => (y.1 = P.ca c ∧ y.2.lookup m = none) ∧ wl ρ h1 fun ds h2 => (q ≤ ds.length ∧ ds.length < sizeLine) ∧ P.cf i (d :: (ds.take q ++ [.tup (ds.drop q)])) h2 Qd fun e h3 => ed e ρ h3) I ⟨F, h, ρ, _, s0, S, rs, hw, fun F1 h1 H1 d v s1 S1 r1 q1 => ⟨F1, h1, d, s1, S1, r1, q1⟩⟩) fun u s1 ⟨v, H1, I1, rv, F1, h1, d, s1', S1, r1, q1⟩ => ?_)
  obtain ⟨⟨C, fs⟩, e, ⟨ec', el⟩, q1⟩ := opt_at q1
  obtain ⟨b, dx, fs', rfl, eH, rf⟩ := ins_at S1 r1 e
  have ec' : C = P.ca c := ec'
  subst ec'
  obtain rfl : u = Value.ref b := rv
  refine getmeth_ok I1 eH CA.cl B.mt (repFs_none rf el) ?_
  have hA := ha.run cpos pins s1 σ H1 (fun vs H2 => ∃ F2 h2 ds, Same F1 F2 ∧ Sim X.K R F2 h2 H2 ∧ RepL X.K F2 ds vs ∧ (q ≤ ds.length ∧ ds.length < sizeLine) ∧ P.cf i (d :: (ds.take q ++ [.tup (ds.drop q)])) h2 Qd fun e h3 => ed e ρ h3) I1 ⟨F1, h1, ρ, _, s0.trans s1', S1, rs.mono s1', q1, fun F2 h2 H2 ds vs _ s2 S2 r2 qq => ⟨F2, h2, ds, s2, S2, r2, qq⟩⟩
  refine PySem.W.callWith_K (first := [.ref b]) (h₀ := X.base) I.ok.mod.kin B.mt.kp (thn hA fun us s2 ⟨vs, H2, I2, r, F2, h2, ds, s2', S2, r2, qn, q⟩ => ⟨I2.kIn, ?_⟩) (star_cons hs1) (plain_args hs2)
  have r1' := r1.mono s2'
  exact wpAny_call (go_fnS (us := Value.ref b :: us) (vs := V.ref b :: vs) (ds := d :: ds) g Fn I2 (.cons rfl r) (s0.trans (s1'.trans s2')) S2 (rs.mono (s1'.trans s2')) (by simp only [RepL]; exact ⟨_, _, rfl, r1', r2⟩) ⟨by simp; omega, by simp; omega⟩ q (k.mono (s1'.trans s2')))
theorem le_fn0 (g : Good Γ ec X R F0 P ed) (hc : Γ.calm = true) (hi : Γ.fs[i]? = some x0) (hx0 : x0 ≠ ("" : Str)) (hst : stOf Γ i = none) (hg : Gl X x0) (hd : (x0 == ("__debug__" : Str)) = false) :
    PE X (.Call (.Name x0 p) [] [] pos) (LE X.K R F0 fun ρ h Q => P.cf i [] h Q fun x h2 => ed x ρ h2) := by
  have Fn := g.fs hc i x0 hi
  rw [hst] at Fn
  have hm := g.nm i x0 hi hx0
  obtain ⟨_, _, hk, _⟩ := id Fn
  refine ⟨fun pins s σ H Q I hw => ?_⟩
  refine wpAny_Call_Name_kw (ld_glob I hg hm ?_ hd)
  obtain ⟨F, h, ρ, Qd, s0, S, rs, hw, kk⟩ := hw
  exact PySem.W.callWith_K0 I.kIn hk (wpAny_call (go_fn (us := []) (vs := []) (ds := []) g Fn I .nil s0 S rs (by simp [RepL]) hw kk))
/-- a new instance -/
theorem go_mk (g : Good Γ ec X R F0 P ed) (hcalm : Γ.calm = true) (hc : Γ.cl[c]? = some ci) (hin : ci.ini = some i) (hi : i < Γ.fs.length) (hst : stOf Γ i = none) {pins : List (Addr × Obj)} {σ : L2.St} {H : Hp} {s : Shared} {Q : VK} {us : List Value} {vs : List V} {F : Hp} {h : LH} {ds : List D} {Qd : QD} {ρ : Sl}
    (I : Inv X pins σ H s) (r : Vals vs us) (s0 : Same F0 F) (S : Sim X.K R F h H) (rs : RepS X.K F ρ σ) (rd : RepL X.K F ds vs) (q : ∀ a, h a = none → P.cf i (.ref a :: ds) (put h a (.ins (P.ca c) [])) (fun v h2 => v = .non ∧ Qd (.ref a) h2) fun x h2 => ed x ρ h2) (kk : Kont X.K R F Qd Q) :
    wpAny (model X.prog X.w) X.A (call (.ref (P.ca c)) us) (EP X pins σ Q) X.xe s := by
  have CA := g.cl c ci hc
  obtain ⟨M, _⟩ := CA.ini i hin
  have Fn := g.fs hcalm i _ (List.getElem?_eq_getElem hi)
  rw [hst] at Fn
  obtain ⟨k, hr, hk, F1⟩ := Fn
  have n0 : H (s.heap.objs.size + 1) = none := I.hok.fresh (Nat.le_succ _)
  have n1 : H s.heap.objs.size = none := I.hok.fresh (Nat.le_refl _)
  have ne : s.heap.objs.size ≠ s.heap.objs.size + 1 := Nat.ne_of_lt (Nat.lt_succ_self _)
  have I2 := Inv.made (C := P.ca c) I
  have r2 : Vals (V.ref (s.heap.objs.size + 1) :: vs) (Value.ref (s.heap.objs.size + 1) :: us) := .cons rfl r
  have S1 : Sim X.K R F h (upd H s.heap.objs.size (.own (s.heap.objs.size + 1))) := S.junk n1
  have n2 : upd H s.heap.objs.size (.own (s.heap.objs.size + 1)) (s.heap.objs.size + 1) = none := by rw [upd_ne ne.symm]; exact n0
  have S2 := S1.cell (c := .ins (P.ca c) []) (o := .ins (P.ca c) s.heap.objs.size []) n2 ⟨_, [], rfl, by simp [RepFs]⟩
  have hq := q _ (S1.free n2).2
  have sp : spV none X.K ec (P.cf i) (V.ref (s.heap.objs.size + 1) :: vs) (upd (upd H s.heap.objs.size (.own (s.heap.objs.size + 1))) (s.heap.objs.size + 1) (.ins (P.ca c) s.heap.objs.size [])) (fun v H2 => v = .non ∧ Q (.ref (s.heap.objs.size + 1)) H2) (fun cls d H => wOf X.K ec R F0 ed cls d σ H) :=
    ⟨R, F, _, .ref (s.heap.objs.size + 1) :: ds, _, _, S2, by simp only [RepL, Rep]; exact ⟨_, _, rfl, rfl, rd⟩, hq, fun F2 h2 H2 d v s2 S2 r2 ⟨e, q2⟩ => by
      subst e
      refine ⟨r2, kk F2 h2 H2 (.ref _) _ s2 S2 rfl q2⟩, fun F2 h2 H2 x cls d s2 S2 rx q2 => ⟨F2, h2, x, ρ, s0.trans s2, S2, rx, rs.mono s2, q2⟩⟩
  refine wpAny_call (make_map (f := P.fa i) I.kIn M.makes M.init (beq_iff_eq.mp M.fn) (codeAny_mono (F1 _ X.stack _ _ (Value.ref (s.heap.objs.size + 1) :: us) _ _ _ (hr.make (P.ca c) us []) (by exact g.gd) (I2.env0.make (P.ca c) us []) r2 sp) fun r s' hq' => ?_))
  cases r with
  | error e => exact g.tk e s' (XE.of_call I2 (fun _ _ _ z => z) hq')
  | ok fl =>
    cases fl with
    | ret u =>
      obtain ⟨v, H', I3, rv, ev, q3⟩ := I2.after hq'
      subst ev
      exact ⟨rv, ⟨V.ref (s.heap.objs.size + 1), H', I3, rfl, q3⟩⟩
    | next => exact False.elim hq'
    | brk => exact False.elim hq'
    | cont => exact False.elim hq'
theorem le_mk (g : Good Γ ec X R F0 P ed) (hcalm : Γ.calm = true) (hc : Γ.cl[c]? = some ci) (hin : ci.ini = some i) (hi : i < Γ.fs.length) (hst : stOf Γ i = none) (hg : Gl X ci.nm) (hd : (ci.nm == ("__debug__" : Str)) = false) (ha : PA X (a :: es) (LA X.K R F0 n wl)) (hs1 : noStar a = true) (hs2 : noStars es = true) :
    PE X (.Call (.Name ci.nm p) (a :: es) [] pos) (LE X.K R F0 fun ρ h Q => wl ρ h fun ds h1 => ∀ a, h1 a = none → P.cf i (.ref a :: ds) (put h1 a (.ins (P.ca c) [])) (fun v h2 => v = .non ∧ Q (.ref a) h2) fun x h2 => ed x ρ h2) := by
  obtain ⟨M, hm⟩ := (g.cl c ci hc).ini i hin
  refine ⟨fun pins s σ H Q I hw => ?_⟩
  refine wpAny_Call_Name_kw (ld_glob I hg hm ?_ hd)
  obtain ⟨F, h, ρ, Qd, s0, S, rs, hw, kk⟩ := hw
  have hA := ha.run pos pins s σ H (fun vs H1 => ∃ F1 h1 ds, Same F F1 ∧ Sim X.K R F1 h1 H1 ∧ RepL X.K F1 ds vs ∧ ∀ a, h1 a = none → P.cf i (.ref a :: ds) (put h1 a (.ins (P.ca c) [])) (fun v h2 => v = .non ∧ Qd (.ref a) h2) fun x h2 => ed x ρ h2) I ⟨F, h, ρ, _, s0, S, rs, hw, fun F1 h1 H1 ds vs _ s1 S1 r1 q => ⟨F1, h1, ds, s1, S1, r1, q⟩⟩
  refine PySem.W.callWith_K (h₀ := X.base) I.ok.mod.kin M.kp (thn hA fun us s1 ⟨vs, H1, I1, r, F1, h1, ds, s1', S1, r1, q⟩ => ⟨I1.kIn, ?_⟩) (star_cons hs1) (plain_args hs2)
  exact go_mk g hcalm hc hin hi hst I1 r (s0.trans s1') S1 (rs.mono s1') r1 q (kk.mono s1')
theorem le_mk0 (g : Good Γ ec X R F0 P ed) (hcalm : Γ.calm = true) (hc : Γ.cl[c]? = some ci) (hin : ci.ini = some i) (hi : i < Γ.fs.length) (hst : stOf Γ i = none) (hg : Gl X ci.nm) (hd : (ci.nm == ("__debug__" : Str)) = false) :
    PE X (.Call (.Name ci.nm p) [] [] pos) (LE X.K R F0 fun ρ h Q => ∀ a, h a = none → P.cf i [.ref a] (put h a (.ins (P.ca c) [])) (fun v h2 => v = .non ∧ Q (.ref a) h2) fun x h2 => ed x ρ h2) := by
  obtain ⟨M, hm⟩ := (g.cl c ci hc).ini i hin
  refine ⟨fun pins s σ H Q I hw => ?_⟩
  refine wpAny_Call_Name_kw (ld_glob I hg hm ?_ hd)
  obtain ⟨F, h, ρ, Qd, s0, S, rs, hw, kk⟩ := hw
  exact PySem.W.callWith_K0 I.kIn M.kp (go_mk (us := []) (vs := []) (ds := []) g hcalm hc hin hi hst I .nil s0 S rs (by simp [RepL]) hw kk)
/-- the call of a bound method -/
theorem le_cv {is : List Nat} {b : Expr} {sp : Pos} (g : Good Γ ec X R F0 P ed) (hcalm : Γ.calm = true) (his : ∀ i ∈ is, stOf Γ i = none ∧ i < Γ.fs.length ∧ PySem.W.fnIn X.K (P.fa i) = true) (hf : PE X (.Subscript o b sp) (LE X.K R F0 wo)) (ha : PA X (a :: es) (LA X.K R F0 n wl)) (hs1 : noStar a = true) (hs2 : noStars es = true) :
    PE X (.Call (.Subscript o b sp) (a :: es) [] pos) (LE X.K R F0 fun ρ h Q => wo ρ h fun x h1 => bndW x fun gg y => ∃ i, (i ∈ is ∧ P.fa i = gg) ∧ wl ρ h1 fun ds h2 => P.cf i (y :: ds) h2 Q fun e h3 => ed e ρ h3) := by
  refine ⟨fun pins s σ H Q I hw => ?_⟩
  obtain ⟨F, h, ρ, Qd, s0, S, rs, hw, k⟩ := hw
  refine Call_ (thn (hf.run pins s σ H (fun v H1 => ∃ F1 h1 d, Same F F1 ∧ Sim X.K R F1 h1 H1 ∧ Rep X.K F1 d v ∧ bndW d fun gg y => ∃ i, (i ∈ is ∧ P.fa i = gg) ∧ wl ρ h1 fun ds h2 => P.cf i (y :: ds) h2 Qd fun e h3 => ed e ρ h3) I ⟨F, h, ρ, _, s0, S, rs, hw, fun F1 h1 H1 d v s1 S1 r1 q1 => ⟨F1, h1, d, s1, S1, r1, q1⟩⟩) fun u s1 ⟨v, H1, I1, rv, F1, h1, d, s1', S1, r1, q1⟩ => ?_)
  cases d with
  | bnd gg y =>
    simp only [Rep] at r1
    obtain ⟨q, b0, rfl, eq, ry⟩ := r1
    obtain rfl : u = Value.ref q := rv
    have q1 : ∃ i, (i ∈ is ∧ P.fa i = gg) ∧ wl ρ h1 fun ds h2 => P.cf i (y :: ds) h2 Qd fun e h3 => ed e ρ h3 := q1
    obtain ⟨i, ⟨hi, rfl⟩, q3⟩ := q1
    obtain ⟨hst, hil, hfi⟩ := his i hi
    have Fn := g.fs hcalm i _ (List.getElem?_eq_getElem hil)
    rw [hst] at Fn
    have hA := ha.run pos pins s1 σ H1 (fun vs H2 => ∃ F2 h2 ds, Same F1 F2 ∧ Sim X.K R F2 h2 H2 ∧ RepL X.K F2 ds vs ∧ P.cf i (y :: ds) h2 Qd fun e h3 => ed e ρ h3) I1 ⟨F1, h1, ρ, _, s0.trans s1', S1, rs.mono s1', q3, fun F2 h2 H2 ds vs _ s2 S2 r2 q => ⟨F2, h2, ds, s2, S2, r2, q⟩⟩
    rw [star_cons hs1] at hA ⊢
    refine callwith_met (g := P.fa i) (a := b0) (by show ((false || (backTo pos (starEach es X.env)).any (·.1)) || _) = false; rw [plain_args hs2]; rfl) hfi (Calls.evalArgs_plain (thn hA fun us s2 ⟨vs, H2, I2, r, F2, h2, ds, s2', S2, r2, qq⟩ => ?_))
    have hm : H2 q = some (.met (P.fa i) b0) := S2.fz _ _ (s2' _ _ eq)
    refine ⟨met_P I2 hm, wpAny_call (call_met I2 hm ?_)⟩
    exact go_fn (us := Value.ref b0 :: us) (vs := V.ref b0 :: vs) (ds := y :: ds) g Fn I2 (.cons rfl r) (s0.trans (s1'.trans s2')) S2 (rs.mono (s1'.trans s2')) (by simp only [RepL]; exact ⟨_, _, rfl, ry.mono s2', r2⟩) qq (k.mono (s1'.trans s2'))
  | _ => exact q1.elim
/-- o.f = e -/
theorem ls_setF (g : Good Γ ec X R F0 P ed) (hc : Γ.cl[c]? = some ci) (hf : f ∈ ci.fl) (ho : PE X o (LE X.K R F0 wo)) (he : PE X e (LE X.K R F0 we)) :
    PS X (.Assign [.Attribute o f apos] e pos) (LS X.K R F0 fun D ρ h => we ρ h fun v h1 => wo ρ h1 fun x h2 => insC h2 x (P.ca c) fun a fs => fs.length < 1000 ∧ D.nx ρ (put h2 a (.ins (P.ca c) (putFD f v fs)))) := by
  have CA := g.cl c ci hc
  refine PS.imp (ps_fld ho he sw_att) ?_
  intro De σ H ⟨F, h, ρ, Dl, s0, S, rs, hw, k⟩
  refine ⟨F, h, ρ, _, s0, S, rs, hw, fun F1 h1 H1 y vy s1 S1 r1 q1 => ⟨F1, h1, ρ, _, s0.trans s1, S1, rs.mono s1, q1, fun F2 h2 H2 x vx s2 S2 r2 q2 => ?_⟩⟩
  obtain ⟨a, dx, fs, fs', rfl, rfl, eh, eH, rf, hl, q3⟩ := insC_at S2 r2 q2
  have rp := repFs_put (f := f) (r1.mono s2) rf
  have hlen := repFs_len rf
  refine ⟨a, _, dx, fs', rfl, eH, CA.cl, CA.no f hf, by omega, ?_⟩
  exact k.nx F2 _ _ ρ σ (s1.trans s2) (S2.write (c := .ins (P.ca c) (putFD f y fs)) eh ⟨dx, _, rfl, rp⟩) (rs.mono (s1.trans s2)) q3
end
end Lg

namespace Lg
open PySem PySem.Spec PyProof.Rows L2
section
variable {Γ : G} {ec : List Addr} {X : Cx} {R F0 : Hp} {P : Prm} {ed : EXS}
theorem takes_false {X : Cx} {ec : List Addr} {R F0 : Hp} : Takes X (wOf X.K ec R F0 fun _ _ _ => False) := fun _ _ ⟨_, _, _, _, _, _, _, _, _, _, _, _, _, _, _, _, w⟩ => by
  obtain ⟨_, _, _, _, _, _, _, _, z⟩ := w
  exact z.elim
theorem Good.blk (g : Good Γ ec X R F0 P ed) (hc : Γ.calm = true) (s : Shared) (H : Hp) (scope : Scope) (C : Addr) (cl : List (Str × Addr)) (fp : List Addr) (R' F0' : Hp) :
    Good (blkΓ Γ scope) ec (X.blk s H scope (compEnvC scope cl C X.env) fp) R' F0' P (fun _ _ _ => False) where
  N := g.N
  nd := g.nd
  sc := by show relS scope X.env.scope = relS scope Γ.sc; rw [g.sc]
  fn := fun x h => by simpa [fnB, blkΓ] using h
  calm := g.calm
  gd := g.gd
  un := g.un
  tk := takes_false
  own := fun h => by cases h
  bl := g.bl
  gc := g.gc
  nm := g.nm
  cl := g.cl
  fs := g.fs
  ex := g.ex
  sb := g.sb
  xf := g.xf
  hot := fun a x h => by rw [g.ht hc] at h; cases h
  ht := g.ht
  fl := g.fl
theorem Good.tr (g : Good Γ ec X R F0 P ed) {pn : List (Addr × Obj)} {xe : Value → Shared → Prop} {F0' : Hp} {ed' : EXS} (hc : Γ.calm = true) (tk : Takes (X.tr pn xe) (wOf X.K ec R F0' ed')) (hp : PassesOwn (model X.prog X.w) X.A X.env xe) : Good Γ ec (X.tr pn xe) R F0' P ed' where
  N := g.N
  nd := g.nd
  sc := g.sc
  fn := g.fn
  calm := g.calm
  gd := g.gd
  un := g.un
  tk := tk
  own := fun h => ⟨hp, (g.own h).2⟩
  bl := g.bl
  gc := g.gc
  nm := g.nm
  cl := g.cl
  fs := g.fs
  ex := g.ex
  sb := g.sb
  xf := g.xf
  hot := fun a x h => by rw [g.ht hc] at h; cases h
  ht := g.ht
  fl := g.fl
theorem Good.sus (g : Good Γ ec X R F0 P ed) {a : Addr} {oe : Obj} {pn : List (Addr × Obj)} {F0' : Hp} {o : Option (Addr × Exn)} (ho : ∀ b x, o = some (b, x) → b = a ∧ ∃ cls d, Zc cls d oe ∧ (∃ vs, oe.data = .fields vs) ∧ RepX X.K ec F0' x cls d) :
    Good (susΓ Γ) ec (X.suite a ((a, oe) :: pn)) R F0' { P with hot := o } (fun _ _ _ => False) where
  N := g.N
  nd := g.nd
  sc := g.sc
  fn := g.fn
  calm := fun h => by cases h
  gd := g.gd
  un := g.un
  tk := takes_false
  own := fun h => by cases h
  bl := g.bl
  gc := g.gc
  nm := g.nm
  cl := g.cl
  fs := fun h => by cases h
  ex := fun h => by cases h
  sb := g.sb
  xf := g.xf
  hot := fun b x h => by
    obtain ⟨e, cls, d, h1, h2, h3⟩ := ho b x h
    subst e
    exact ⟨X, oe, pn, cls, d, rfl, h1, h2, h3⟩
  ht := fun h => by cases h
  fl := g.fl
end
theorem le_constE {X : Cx} {R F0 : Hp} {d : D} {c : Const} {j : Nat} {p : Pos} (h : constB d c = true) : PE X (.Constant c j p) (LE X.K R F0 fun _ h Q => Q d h) := by
  unfold constB at h
  split at h
  · exact le_const pe_non fun _ => rfl
  · have := eq_of_beq h; subst this; exact le_const pe_bl fun _ => rfl
  · have := of_decide_eq_true h; subst this; exact le_const pe_int fun _ => rfl
  · have := of_decide_eq_true h; subst this; exact le_const pe_str fun _ => rfl
  · cases h
theorem in_bl : ("range" : Str) ∈ bltNames ∧ ("enumerate" : Str) ∈ bltNames ∧ ("isinstance" : Str) ∈ bltNames ∧ ("zip" : Str) ∈ bltNames := by decide +kernel
theorem clF_at {Γ : G} {c : Nat} {f : Str} (h : clF Γ c f = true) : ∃ ci, Γ.cl[c]? = some ci ∧ f ∈ ci.fl := by
  unfold clF at h
  split at h
  · rename_i ci hc; exact ⟨ci, hc, of_decide_eq_true h⟩
  · cases h
theorem clM_at {Γ : G} {c i : Nat} {m : Str} (h : clM Γ c m i = true) : ∃ ci, Γ.cl[c]? = some ci ∧ (m, i) ∈ ci.ms ∧ i < Γ.fs.length := by
  unfold clM at h
  split at h
  · rename_i ci hc
    simp only [Bool.and_eq_true, decide_eq_true_eq] at h
    exact ⟨ci, hc, h.1, h.2⟩
  · cases h
theorem clI_at {Γ : G} {c i : Nat} {x : Str} (h : clI Γ c x i = true) : ∃ ci, Γ.cl[c]? = some ci ∧ ci.nm = x ∧ ci.ini = some i ∧ i < Γ.fs.length := by
  unfold clI at h
  split at h
  · rename_i ci hc
    simp only [Bool.and_eq_true, decide_eq_true_eq] at h
    exact ⟨ci, hc, h.1.1, h.1.2, h.2⟩
  · cases h
theorem clA_at {Γ : G} {i : Nat} (h : clA Γ i = true) : ∃ (c : Nat) (ci : CI) (m : Str), Γ.cl[c]? = some ci ∧ (m, i) ∈ ci.ms := by
  unfold clA at h
  obtain ⟨ci, hc, h⟩ := List.any_eq_true.mp h
  obtain ⟨⟨m, j⟩, hq, h⟩ := List.any_eq_true.mp h
  have h : j = i := of_decide_eq_true h
  subst h
  obtain ⟨c, hc⟩ := List.getElem?_of_mem hc
  exact ⟨c, ci, m, hc, hq⟩
mutual
theorem sE : ∀ (x : E) {Γ : G} {ec : List Addr} {X : Cx} {R F0 : Hp} {P : Prm} {ed : EXS} {e : Expr}, Good Γ ec X R F0 P ed → chkE Γ x e = true → PE X e (LE X.K R F0 (WE P ed x))
  | .v i, Γ, ec, X, R, F0, P, ed, e, g, h => by
    unfold chkE at h
    split at h
    · obtain ⟨h1, h2, h3, h4⟩ := g.rd h
      exact le_var h1 h2 h3 h4
    · cases h
  | .k d, Γ, ec, X, R, F0, P, ed, e, g, h => by
    unfold chkE at h
    split at h
    · exact le_constE h
    · cases h
  | .g i, Γ, ec, X, R, F0, P, ed, e, g, h => by
    unfold chkE at h
    split at h
    · rename_i x p
      simp only [Bool.and_eq_true, decide_eq_true_eq] at h
      obtain ⟨h1, h2⟩ := g.gl h.2
      refine ⟨fun pins s σ H Q I ⟨F, h', ρ, Qd, s0, S, rs, hw, k⟩ => ?_⟩
      obtain ⟨d, ed', q⟩ := opt_at (show opt (P.gc i) fun d => Qd d h' from hw)
      obtain ⟨v, u, e1, r, rr⟩ := g.gc i x d h.1 ed'
      exact (pe_glob h1 e1 r h2).run pins s σ H Q I (k.here S (rr F) q)
    · cases h
  | .bin op a b, Γ, ec, X, R, F0, P, ed, e, g, h => by
    unfold chkE at h
    split at h
    · simp only [Bool.and_eq_true, decide_eq_true_eq] at h
      obtain ⟨⟨rfl, h1⟩, h2⟩ := h
      exact le_bin (sE a g h1) (sE b g h2)
    · cases h
  | .binC op a b, Γ, ec, X, R, F0, P, ed, e, g, h => by
    unfold chkE at h
    split at h
    · simp only [Bool.and_eq_true, decide_eq_true_eq] at h
      obtain ⟨⟨rfl, h1⟩, h2⟩ := h
      exact le_binC (sE a g h1) (sE b g h2)
    · cases h
  | .neg a, Γ, ec, X, R, F0, P, ed, e, g, h => by
    unfold chkE at h
    split at h
    · exact le_neg (sE a g h)
    · cases h
  | .cmp op a b, Γ, ec, X, R, F0, P, ed, e, g, h => by
    unfold chkE at h
    split at h
    · simp only [Bool.and_eq_true, decide_eq_true_eq, Bool.not_eq_true'] at h
      obtain ⟨⟨⟨rfl, h1⟩, h2⟩, h3⟩ := h
      exact le_cmp g.un (sE a g h1) (sE b g h2) h3
    · cases h
  | .chn o1 o2 a b c, Γ, ec, X, R, F0, P, ed, e, g, h => by
    unfold chkE at h
    split at h
    · simp only [Bool.and_eq_true, decide_eq_true_eq, Bool.not_eq_true'] at h
      obtain ⟨⟨⟨⟨⟨rfl, rfl⟩, h1⟩, h2⟩, h3⟩, h4⟩ := h
      exact le_chn g.un (sE a g h1) (sE b g h2) (sE c g h3) h4
    · cases h
  | .nt a, Γ, ec, X, R, F0, P, ed, e, g, h => by
    unfold chkE at h
    split at h
    · exact le_nt (sE a g h)
    · cases h
  | .an xs, Γ, ec, X, R, F0, P, ed, e, g, h => by
    unfold chkE at h
    split at h
    · exact sAn xs g h
    · cases h
  | .or xs, Γ, ec, X, R, F0, P, ed, e, g, h => by
    unfold chkE at h
    split at h
    · exact sOr xs g h
    · cases h
  | .ife t a b, Γ, ec, X, R, F0, P, ed, e, g, h => by
    unfold chkE at h
    split at h
    · simp only [Bool.and_eq_true] at h
      exact le_ife (sT t g h.1.1) (sE a g h.1.2) (sE b g h.2)
    · cases h
  | .tup xs, Γ, ec, X, R, F0, P, ed, e, g, h => by
    unfold chkE at h
    split at h
    · simp only [Bool.and_eq_true, decide_eq_true_eq] at h
      exact le_tup (sEs xs g h.1) h.2
    · cases h
  | .lst xs, Γ, ec, X, R, F0, P, ed, e, g, h => by
    unfold chkE at h
    split at h
    · simp only [Bool.and_eq_true, decide_eq_true_eq] at h
      exact le_lst false (sEs xs g h.1) h.2
    · cases h
  | .new xs, Γ, ec, X, R, F0, P, ed, e, g, h => by
    unfold chkE at h
    split at h
    · simp only [Bool.and_eq_true, decide_eq_true_eq] at h
      exact le_lst true (sEs xs g h.1) h.2
    · cases h
  | .newD, Γ, ec, X, R, F0, P, ed, e, g, h => by
    unfold chkE at h
    split at h
    · exact le_newD
    · cases h
  | .sub a b, Γ, ec, X, R, F0, P, ed, e, g, h => by
    unfold chkE at h
    split at h
    · simp only [Bool.and_eq_true] at h
      exact le_sub g.un (sE a g h.1.1) (sE b g h.1.2) h.2
    · cases h
  | .slc a lo hi, Γ, ec, X, R, F0, P, ed, e, g, h => by
    unfold chkE at h
    split at h
    · simp only [Bool.and_eq_true] at h
      exact le_slc (sE a g h.1.1) (sO lo g h.1.2) (sO hi g h.2)
    · cases h
  | .rev a, Γ, ec, X, R, F0, P, ed, e, g, h => by
    unfold chkE at h
    split at h
    · exact le_rev (sE a g h)
    · cases h
  | .blt b xs, Γ, ec, X, R, F0, P, ed, e, g, h => by
    unfold chkE at h
    split at h
    · simp only [Bool.and_eq_true, decide_eq_true_eq] at h
      obtain ⟨⟨⟨⟨⟨hc, rfl⟩, h1⟩, h2⟩, h3⟩, h4⟩ := h
      obtain ⟨h5, h6⟩ := g.gl h1
      exact le_call1 (blt_ok (g.calm hc) g.gd g.un b) h5 h6 (g.bl _ b.in_) (sEs xs g h2) h3 h4
    · cases h
  | .bltC b xs, Γ, ec, X, R, F0, P, ed, e, g, h => by
    unfold chkE at h
    split at h
    · simp only [Bool.and_eq_true, decide_eq_true_eq] at h
      obtain ⟨⟨⟨⟨⟨rfl, h1⟩, h2⟩, h3⟩, h4⟩, hcd⟩ := h
      obtain ⟨h5, h6⟩ := g.gl h1
      exact le_call1 (bltC_ok g.un b fun e => g.calm (by subst e; exact hcd)) h5 h6 (g.bl _ b.in_) (sEs xs g h2) h3 h4
    · cases h
  | .isa a t, Γ, ec, X, R, F0, P, ed, e, g, h => by
    unfold chkE at h
    split at h
    · simp only [Bool.and_eq_true, decide_eq_true_eq] at h
      obtain ⟨⟨⟨⟨⟨rfl, h1⟩, h2⟩, h3⟩, h4⟩, h5⟩ := h
      obtain ⟨h6, h7⟩ := g.gl h1
      obtain ⟨h8, h9⟩ := g.gl h2
      exact le_isa h3 g.bl h6 h8 h9 (sE a g h4) h5
    · cases h
  | .call f xs, Γ, ec, X, R, F0, P, ed, e, g, h => by
    unfold chkE at h
    split at h
    · simp only [Bool.and_eq_true, decide_eq_true_eq] at h
      obtain ⟨⟨⟨⟨⟨⟨⟨hc, h0⟩, h1⟩, h2⟩, h3⟩, h4⟩, h7⟩, h8⟩ := h
      obtain ⟨h5, h6⟩ := g.gl h1
      exact le_fn g hc h0 h7 h8 h5 h6 (sEs xs g h2) h3 h4
    · simp only [Bool.and_eq_true, decide_eq_true_eq] at h
      obtain ⟨⟨⟨⟨⟨hc, h0⟩, h1⟩, h2⟩, h7⟩, h8⟩ := h
      obtain ⟨h5, h6⟩ := g.gl h1
      match xs, h2 with
      | .nil, _ => exact le_fn0 g hc h0 h7 h8 h5 h6
      | .cons _ _, h2 => unfold chkEs at h2; cases h2
    · cases h
  | .meth m o xs, Γ, ec, X, R, F0, P, ed, e, g, h => by
    unfold chkE at h
    split at h
    · rename_i l nm ap args cp
      simp only [Bool.and_eq_true] at h
      obtain ⟨⟨⟨⟨⟨h1, h2⟩, h3⟩, h4⟩, h5⟩, h6⟩ := h
      have ho := sE o g h3
      have ha := sEs xs g h4
      cases m with
      | append =>
        simp only [Bool.and_eq_true, decide_eq_true_eq] at h6
        obtain ⟨rfl, h7⟩ := h6
        match args, h7, h5, ha with
        | [a], _, h5, ha => exact le_append ho ha h1 (by simpa [noStars] using h5) h2
      | pop =>
        simp only [Bool.and_eq_true, decide_eq_true_eq] at h6
        obtain ⟨rfl, h7⟩ := h6
        match args, h7, h4 with
        | [], _, h4 =>
          match xs, h4 with
          | .nil, _ => exact le_pop ho h1 h2
          | .cons _ _, h4 => unfold chkEs at h4; cases h4
      | get1 =>
        simp only [Bool.and_eq_true, decide_eq_true_eq] at h6
        obtain ⟨rfl, h7⟩ := h6
        match args, h7, h5, h4 with
        | [a], _, h5, h4 =>
          match xs, h4 with
          | .nil, h4 => unfold chkEs at h4; cases h4
          | .cons x (.cons y r), h4 =>
            unfold chkEs at h4
            simp only [Bool.and_eq_true] at h4
            have := h4.2
            unfold chkEs at this
            cases this
          | .cons x .nil, h4 =>
            unfold chkEs at h4
            simp only [Bool.and_eq_true] at h4
            exact le_get1 g.un ho (sE x g h4.1.1) h1 (by simpa [noStars] using h5) h2
      | get2 =>
        simp only [Bool.and_eq_true, decide_eq_true_eq] at h6
        obtain ⟨rfl, h7⟩ := h6
        match args, h7, h5, h4 with
        | [a, b], _, h5, h4 =>
          match xs, h4 with
          | .nil, h4 => unfold chkEs at h4; cases h4
          | .cons x .nil, h4 =>
            unfold chkEs at h4
            simp only [Bool.and_eq_true] at h4
            have := h4.2
            unfold chkEs at this
            cases this
          | .cons x (.cons y (.cons z r)), h4 =>
            unfold chkEs at h4
            simp only [Bool.and_eq_true] at h4
            have h8 := h4.2
            unfold chkEs at h8
            simp only [Bool.and_eq_true] at h8
            have := h8.2
            unfold chkEs at this
            cases this
          | .cons x (.cons y .nil), h4 =>
            unfold chkEs at h4
            simp only [Bool.and_eq_true] at h4
            have h8 := h4.2
            unfold chkEs at h8
            simp only [Bool.and_eq_true] at h8
            have h9 : noStar a = true ∧ noStar b = true := by simpa [noStars] using h5
            exact le_get2 g.un ho (sE x g h4.1.1) (sE y g h8.1.1) h1 h9.1 h9.2 h2
      | count =>
        simp only [Bool.and_eq_true, decide_eq_true_eq] at h6
        obtain ⟨rfl, h7⟩ := h6
        match args, h7, h5, h4 with
        | [a], _, h5, h4 =>
          match xs, h4 with
          | .nil, h4 => unfold chkEs at h4; cases h4
          | .cons x (.cons y r), h4 =>
            unfold chkEs at h4
            simp only [Bool.and_eq_true] at h4
            have := h4.2
            unfold chkEs at this
            cases this
          | .cons x .nil, h4 =>
            unfold chkEs at h4
            simp only [Bool.and_eq_true] at h4
            exact le_count g.un ho (sE x g h4.1.1) h1 (by simpa [noStars] using h5) h2
      | index =>
        simp only [Bool.and_eq_true, decide_eq_true_eq] at h6
        obtain ⟨rfl, h7⟩ := h6
        match args, h7, h5, h4 with
        | [a], _, h5, h4 =>
          match xs, h4 with
          | .nil, h4 => unfold chkEs at h4; cases h4
          | .cons x (.cons y r), h4 =>
            unfold chkEs at h4
            simp only [Bool.and_eq_true] at h4
            have := h4.2
            unfold chkEs at this
            cases this
          | .cons x .nil, h4 =>
            unfold chkEs at h4
            simp only [Bool.and_eq_true] at h4
            exact le_index g.un ho (sE x g h4.1.1) h1 (by simpa [noStars] using h5) h2
      | popi =>
        simp only [Bool.and_eq_true, decide_eq_true_eq] at h6
        obtain ⟨rfl, h7⟩ := h6
        match args, h7, h5, h4 with
        | [a], _, h5, h4 =>
          match xs, h4 with
          | .nil, h4 => unfold chkEs at h4; cases h4
          | .cons x (.cons y r), h4 =>
            unfold chkEs at h4
            simp only [Bool.and_eq_true] at h4
            have := h4.2
            unfold chkEs at this
            cases this
          | .cons x .nil, h4 =>
            unfold chkEs at h4
            simp only [Bool.and_eq_true] at h4
            exact le_popi ho (sE x g h4.1.1) h1 (by simpa [noStars] using h5) h2
    · cases h
  | .lc c own tg it ts x, Γ, ec, X, R, F0, P, ed, e, g, h => by
    unfold chkE at h
    split at h
    · rename_i elt tgt iter ifs as scope pos
      simp only [Bool.and_eq_true, decide_eq_true_eq, List.all_eq_true] at h
      obtain ⟨⟨⟨⟨⟨⟨⟨⟨hc, rfl⟩, h1⟩, h2⟩, h3⟩, h4⟩, h5⟩, h6⟩, h7⟩ := h
      have ok : BlkOk X.N X.env.scope scope own := by rw [g.N, g.sc]; exact blkOk_by h1
      exact le_lc c (g.calm hc) g.nd' (sI it g h3) ok (S1 := tg.sl) h2 (fun s H C cl fp R' F' => sTg tg (g.blk hc s H scope C cl fp R' F') h5) (fun s H C cl fp R' F' => sTs ts (g.blk hc s H scope C cl fp R' F') h6) (fun s H C cl fp R' F' => sE x (g.blk hc s H scope C cl fp R' F') h7) h4
    · cases h
  | .xf i f, Γ, ec, X, R, F0, P, ed, e, g, h => by
    unfold chkE at h
    split at h
    · simp only [Bool.and_eq_true, decide_eq_true_eq] at h
      obtain ⟨⟨rfl, h1⟩, h2⟩ := h
      exact le_xf g h1 h2
    · cases h
  | .isx i c, Γ, ec, X, R, F0, P, ed, e, g, h => by
    unfold chkE at h
    split at h
    · simp only [Bool.and_eq_true, decide_eq_true_eq] at h
      obtain ⟨⟨⟨⟨rfl, h1⟩, h2⟩, h3⟩, h4⟩ := h
      exact le_isx g h1 h2 h3 h4
    · cases h
  | .dc own tg it ts k v, Γ, ec, X, R, F0, P, ed, e, g, h => by
    unfold chkE at h
    split at h
    · rename_i ek ev tgt iter ifs as scope pos
      simp only [Bool.and_eq_true, decide_eq_true_eq, List.all_eq_true] at h
      obtain ⟨⟨⟨⟨⟨⟨⟨⟨⟨hc, rfl⟩, h1⟩, h2⟩, h3⟩, h4⟩, h5⟩, h6⟩, h7⟩, h8⟩ := h
      have ok : BlkOk X.N X.env.scope scope own := by rw [g.N, g.sc]; exact blkOk_by h1
      exact le_dc (g.calm hc) g.nd' (sI it g h3) ok (S1 := tg.sl) h2 (fun s H C cl fp R' F' => sTg tg (g.blk hc s H scope C cl fp R' F') h5) (fun s H C cl fp R' F' => sTs ts (g.blk hc s H scope C cl fp R' F') h6) (fun s H C cl fp R' F' => sE k (g.blk hc s H scope C cl fp R' F') h7) (fun s H C cl fp R' F' => sE v (g.blk hc s H scope C cl fp R' F') h8) h4
    · cases h
  | .srv c a, Γ, ec, X, R, F0, P, ed, e, g, h => by
    unfold chkE at h
    split at h
    · simp only [Bool.and_eq_true, decide_eq_true_eq] at h
      obtain ⟨⟨⟨⟨rfl, rfl⟩, h1⟩, h2⟩, h3⟩ := h
      obtain ⟨h5, h6⟩ := g.gl h1
      exact le_srv g.un h5 (g.bl _ (B.in_ .sorted)) (B.boot .sorted) (sE a g h2) h3
    · cases h
  | .fld c o f, Γ, ec, X, R, F0, P, ed, e, g, h => by
    unfold chkE at h
    split at h
    · simp only [Bool.and_eq_true, decide_eq_true_eq] at h
      obtain ⟨⟨⟨rfl, h1⟩, h2⟩, h3⟩ := h
      obtain ⟨ci, hc, hf⟩ := clF_at h3
      exact le_fld g hc hf (sE o g h2) h1
    · cases h
  | .mcl c m i o xs, Γ, ec, X, R, F0, P, ed, e, g, h => by
    unfold chkE at h
    split at h
    · rename_i l nm ap args cp
      simp only [Bool.and_eq_true, decide_eq_true_eq] at h
      obtain ⟨⟨⟨⟨⟨⟨⟨⟨⟨hc, rfl⟩, h1⟩, h2⟩, h3⟩, h4⟩, h5⟩, h6⟩, h7⟩, h8⟩ := h
      obtain ⟨ci, hcl, hm, hi⟩ := clM_at h7
      match args, xs, h4, h5, h6 with
      | [], .nil, _, _, _ => exact le_mcl0 g hc hcl hm hi h8 (sE o g h3) h1 h2
      | [], .cons _ _, h4, _, _ => unfold chkEs at h4; cases h4
      | a :: es, xs, h4, h5, h6 =>
        unfold noStars at h5
        simp only [List.all_cons, Bool.and_eq_true] at h5
        exact le_mcl g hc hcl hm hi h8 (sE o g h3) (sEs xs g h4) h1 h5.1 h5.2 h6 h2
    · cases h
  | .mst c m i n o xs, Γ, ec, X, R, F0, P, ed, e, g, h => by
    unfold chkE at h
    split at h
    · rename_i l nm ap args cp
      simp only [Bool.and_eq_true, decide_eq_true_eq] at h
      obtain ⟨⟨⟨⟨⟨⟨⟨⟨⟨⟨hc, rfl⟩, h1⟩, h2⟩, h3⟩, h4⟩, h5⟩, h6⟩, h7⟩, h8⟩, h9⟩ := h
      obtain ⟨ci, hcl, hm, hi⟩ := clM_at h7
      match args, xs, h4, h5, h6, h9 with
      | [], xs, _, _, _, h9 => cases h9
      | a :: es, xs, h4, h5, h6, _ =>
        unfold noStars at h5
        simp only [List.all_cons, Bool.and_eq_true] at h5
        exact le_mst g hc hcl hm hi h8 (sE o g h3) (sEs xs g h4) h1 h5.1 h5.2 h6 h2
    · cases h
  | .mk c i xs, Γ, ec, X, R, F0, P, ed, e, g, h => by
    unfold chkE at h
    split at h
    · rename_i x np args pp
      simp only [Bool.and_eq_true, decide_eq_true_eq] at h
      obtain ⟨⟨⟨⟨⟨hc, h1⟩, h2⟩, h3⟩, h4⟩, h5⟩ := h
      obtain ⟨ci, hcl, rfl, hin, hi⟩ := clI_at h4
      obtain ⟨h6, h7⟩ := g.gl h1
      match args, xs, h2, h3 with
      | [], .nil, _, _ => exact le_mk0 g hc hcl hin hi h5 h6 h7
      | [], .cons _ _, h2, _ => unfold chkEs at h2; cases h2
      | a :: es, xs, h2, h3 =>
        unfold noStars at h3
        simp only [List.all_cons, Bool.and_eq_true] at h3
        exact le_mk g hc hcl hin hi h5 h6 h7 (sEs xs g h2) h3.1 h3.2
    · cases h
  | .bm c m i o, Γ, ec, X, R, F0, P, ed, e, g, h => by
    unfold chkE at h
    split at h
    · simp only [Bool.and_eq_true, decide_eq_true_eq] at h
      obtain ⟨⟨⟨rfl, h1⟩, h2⟩, h3⟩ := h
      obtain ⟨ci, hc, hm, hi⟩ := clM_at h3
      exact le_bm g hc hm (sE o g h2) h1
    · cases h
  | .cv is f xs, Γ, ec, X, R, F0, P, ed, e, g, h => by
    unfold chkE at h
    split at h
    · rename_i oo bb sp args pp
      simp only [Bool.and_eq_true, decide_eq_true_eq] at h
      obtain ⟨⟨⟨⟨⟨hc, h1⟩, h2⟩, h3⟩, h4⟩, h5⟩ := h
      have his : ∀ i ∈ is, stOf Γ i = none ∧ i < Γ.fs.length ∧ PySem.W.fnIn X.K (P.fa i) = true := fun i hi => by
        have z := List.all_eq_true.mp h5 i hi
        simp only [Bool.and_eq_true, decide_eq_true_eq] at z
        obtain ⟨c, ci, m, hcl, hm⟩ := clA_at z.2
        exact ⟨z.1.1, z.1.2, ((g.cl c ci hcl).ms m i hm).fi⟩
      match args, h2, h3, h4 with
      | [], _, _, h4 => exact absurd rfl h4
      | a :: es, h2, h3, _ =>
        unfold noStars at h3
        simp only [List.all_cons, Bool.and_eq_true] at h3
        exact le_cv g hc his (sE f g h1) (sEs xs g h2) h3.1 h3.2
    · cases h
theorem sO : ∀ (x : O) {Γ : G} {ec : List Addr} {X : Cx} {R F0 : Hp} {P : Prm} {ed : EXS} {e : Option Expr}, Good Γ ec X R F0 P ed → chkO Γ x e = true → PO X e (LOp X.K R F0 (WO P ed x))
  | .no, Γ, ec, X, R, F0, P, ed, e, g, h => by
    unfold chkO at h
    split at h
    · exact lo_no
    · cases h
  | .ex a, Γ, ec, X, R, F0, P, ed, e, g, h => by
    unfold chkO at h
    split at h
    · exact lo_ex (sE a g h)
    · cases h
theorem sT : ∀ (x : T) {Γ : G} {ec : List Addr} {X : Cx} {R F0 : Hp} {P : Prm} {ed : EXS} {e : Expr}, Good Γ ec X R F0 P ed → chkT Γ x e = true → PT X e (LT X.K R F0 (WT P ed x))
  | .e a, Γ, ec, X, R, F0, P, ed, e, g, h => by
    unfold chkT at h
    simp only [Bool.and_eq_true] at h
    exact lt_e (sE a g h.2) h.1
  | .cmp op a b, Γ, ec, X, R, F0, P, ed, e, g, h => by
    unfold chkT at h
    split at h
    · simp only [Bool.and_eq_true, decide_eq_true_eq, Bool.not_eq_true'] at h
      obtain ⟨⟨⟨rfl, h1⟩, h2⟩, h3⟩ := h
      exact lt_cmp g.un (sE a g h1) (sE b g h2) h3
    · cases h
  | .chn o1 o2 a b c, Γ, ec, X, R, F0, P, ed, e, g, h => by
    unfold chkT at h
    split at h
    · simp only [Bool.and_eq_true, decide_eq_true_eq, Bool.not_eq_true'] at h
      obtain ⟨⟨⟨⟨⟨rfl, rfl⟩, h1⟩, h2⟩, h3⟩, h4⟩ := h
      exact lt_chn g.un (sE a g h1) (sE b g h2) (sE c g h3) h4
    · cases h
  | .nt a, Γ, ec, X, R, F0, P, ed, e, g, h => by
    unfold chkT at h
    split at h
    · exact lt_nt (sT a g h)
    · cases h
  | .an xs, Γ, ec, X, R, F0, P, ed, e, g, h => by
    unfold chkT at h
    split at h
    · exact (sWa xs g h).pt
    · cases h
  | .or xs, Γ, ec, X, R, F0, P, ed, e, g, h => by
    unfold chkT at h
    split at h
    · exact (sWo xs g h).pt
    · cases h
  | .ife t a b, Γ, ec, X, R, F0, P, ed, e, g, h => by
    unfold chkT at h
    split at h
    · simp only [Bool.and_eq_true] at h
      exact lt_ife (sT t g h.1.1) (sT a g h.1.2) (sT b g h.2)
    · cases h
theorem sEs : ∀ (x : Es) {Γ : G} {ec : List Addr} {X : Cx} {R F0 : Hp} {P : Prm} {ed : EXS} {e : List Expr}, Good Γ ec X R F0 P ed → chkEs Γ x e = true → PA X e (LA X.K R F0 e.length (WEs P ed x))
  | .nil, Γ, ec, X, R, F0, P, ed, e, g, h => by
    unfold chkEs at h
    split at h
    · exact la_nil
    · cases h
  | .cons x r, Γ, ec, X, R, F0, P, ed, e, g, h => by
    unfold chkEs at h
    split at h
    · simp only [Bool.and_eq_true] at h
      exact la_cons (sE x g h.1.1) (sEs r g h.2) h.1.2
    · cases h
theorem sAn : ∀ (x : Es) {Γ : G} {ec : List Addr} {X : Cx} {R F0 : Hp} {P : Prm} {ed : EXS} {e : List Expr} {pos : Pos}, Good Γ ec X R F0 P ed → chkBs Γ x e = true → PE X (.BoolOp .And e pos) (LE X.K R F0 (WAn P ed x))
  | .nil, Γ, ec, X, R, F0, P, ed, e, pos, g, h => by unfold chkBs at h; cases h
  | .cons x .nil, Γ, ec, X, R, F0, P, ed, e, pos, g, h => by
    unfold chkBs at h
    split at h
    · cases h
    · simp only [Bool.and_eq_true, List.isEmpty_iff] at h
      obtain ⟨h1, rfl⟩ := h
      exact pe_one (sE x g h1)
  | .cons x (.cons y r), Γ, ec, X, R, F0, P, ed, e, pos, g, h => by
    unfold chkBs at h
    split at h
    · cases h
    · rename_i a es
      simp only [Bool.and_eq_true] at h
      cases es with
      | nil => have := h.2; unfold chkBs at this; cases this
      | cons b es => exact le_an (sE x g h.1) (sAn (.cons y r) g h.2)
theorem sOr : ∀ (x : Es) {Γ : G} {ec : List Addr} {X : Cx} {R F0 : Hp} {P : Prm} {ed : EXS} {e : List Expr} {pos : Pos}, Good Γ ec X R F0 P ed → chkBs Γ x e = true → PE X (.BoolOp .Or e pos) (LE X.K R F0 (WOr P ed x))
  | .nil, Γ, ec, X, R, F0, P, ed, e, pos, g, h => by unfold chkBs at h; cases h
  | .cons x .nil, Γ, ec, X, R, F0, P, ed, e, pos, g, h => by
    unfold chkBs at h
    split at h
    · cases h
    · simp only [Bool.and_eq_true, List.isEmpty_iff] at h
      obtain ⟨h1, rfl⟩ := h
      exact pe_one (sE x g h1)
  | .cons x (.cons y r), Γ, ec, X, R, F0, P, ed, e, pos, g, h => by
    unfold chkBs at h
    split at h
    · cases h
    · rename_i a es
      simp only [Bool.and_eq_true] at h
      cases es with
      | nil => have := h.2; unfold chkBs at this; cases this
      | cons b es => exact le_or (sE x g h.1) (sOr (.cons y r) g h.2)
theorem sWa : ∀ (x : Ts) {Γ : G} {ec : List Addr} {X : Cx} {R F0 : Hp} {P : Prm} {ed : EXS} {e : List Expr} {pos : Pos}, Good Γ ec X R F0 P ed → chkTl Γ x e = true → PW X (.BoolOp .And e pos) (LT X.K R F0 (WTs P ed x))
  | .nil, Γ, ec, X, R, F0, P, ed, e, pos, g, h => by unfold chkTl at h; cases h
  | .cons x .nil, Γ, ec, X, R, F0, P, ed, e, pos, g, h => by
    unfold chkTl at h
    split at h
    · cases h
    · simp only [Bool.and_eq_true, List.isEmpty_iff] at h
      obtain ⟨h1, rfl⟩ := h
      exact lw_and1 (sT x g h1)
  | .cons x (.cons y r), Γ, ec, X, R, F0, P, ed, e, pos, g, h => by
    unfold chkTl at h
    split at h
    · cases h
    · rename_i a es
      simp only [Bool.and_eq_true] at h
      cases es with
      | nil => have := h.2; unfold chkTl at this; cases this
      | cons b es => exact lw_and (sT x g h.1) (sWa (.cons y r) g h.2)
theorem sWo : ∀ (x : Ts) {Γ : G} {ec : List Addr} {X : Cx} {R F0 : Hp} {P : Prm} {ed : EXS} {e : List Expr} {pos : Pos}, Good Γ ec X R F0 P ed → chkTl Γ x e = true → PW X (.BoolOp .Or e pos) (LT X.K R F0 (WTo P ed x))
  | .nil, Γ, ec, X, R, F0, P, ed, e, pos, g, h => by unfold chkTl at h; cases h
  | .cons x .nil, Γ, ec, X, R, F0, P, ed, e, pos, g, h => by
    unfold chkTl at h
    split at h
    · cases h
    · simp only [Bool.and_eq_true, List.isEmpty_iff] at h
      obtain ⟨h1, rfl⟩ := h
      exact lw_or1 (sT x g h1)
  | .cons x (.cons y r), Γ, ec, X, R, F0, P, ed, e, pos, g, h => by
    unfold chkTl at h
    split at h
    · cases h
    · rename_i a es
      simp only [Bool.and_eq_true] at h
      cases es with
      | nil => have := h.2; unfold chkTl at this; cases this
      | cons b es => exact lw_or (sT x g h.1) (sWo (.cons y r) g h.2)
theorem sTs : ∀ (x : Ts) {Γ : G} {ec : List Addr} {X : Cx} {R F0 : Hp} {P : Prm} {ed : EXS} {e : List Expr}, Good Γ ec X R F0 P ed → chkTs Γ x e = true → PTs X e (LT X.K R F0 (WTs P ed x))
  | .nil, Γ, ec, X, R, F0, P, ed, e, g, h => by
    unfold chkTs at h
    split at h
    · exact lts_nil
    · cases h
  | .cons x r, Γ, ec, X, R, F0, P, ed, e, g, h => by
    unfold chkTs at h
    split at h
    · exact lts_one (sT x g h)
    · cases h
theorem sTg : ∀ (x : Tg) {Γ : G} {ec : List Addr} {X : Cx} {R F0 : Hp} {P : Prm} {ed : EXS} {e : Expr}, Good Γ ec X R F0 P ed → chkTg Γ x e = true → PG X e (LG X.K R F0 x.sl (WTg P ed x))
  | .nm i, Γ, ec, X, R, F0, P, ed, e, g, h => by
    unfold chkTg at h
    split at h
    · obtain ⟨h1, h2, h3⟩ := g.wr h
      exact lg_nm g.nd' h1 h2 h3
    · cases h
  | .tp r, Γ, ec, X, R, F0, P, ed, e, g, h => by
    unfold chkTg at h
    split at h
    · rename_i es j p
      simp only [Bool.and_eq_true] at h
      obtain ⟨⟨h1, h2⟩, h3⟩ := h
      have el : r.len = es.length := sTgl r h3
      have z := lg_tp (pos := p) (j := j) (g.calm h1) (sTgs r g h3) h2
      rw [← el] at z
      exact z
    · cases h
  | .sb o i, Γ, ec, X, R, F0, P, ed, e, g, h => by
    unfold chkTg at h
    split at h
    · simp only [Bool.and_eq_true] at h
      exact lg_sb g.un (sE o g h.1.1) (sE i g h.1.2) h.2
    · cases h
theorem sTgl : ∀ (x : Tgs) {Γ : G} {e : List Expr}, chkTgs Γ x e = true → x.len = e.length
  | .nil, Γ, e, h => by
    unfold chkTgs at h
    split at h
    · rfl
    · cases h
  | .cons x r, Γ, e, h => by
    unfold chkTgs at h
    split at h
    · simp only [Bool.and_eq_true] at h
      have := sTgl r h.2
      simp [Tgs.len, this]
    · cases h
theorem sTgs : ∀ (x : Tgs) {Γ : G} {ec : List Addr} {X : Cx} {R F0 : Hp} {P : Prm} {ed : EXS} {e : List Expr}, Good Γ ec X R F0 P ed → chkTgs Γ x e = true → PGs X e (LGs X.K R F0 x.sl (WTgs P ed x))
  | .nil, Γ, ec, X, R, F0, P, ed, e, g, h => by
    unfold chkTgs at h
    split at h
    · exact lgs_nil
    · cases h
  | .cons x r, Γ, ec, X, R, F0, P, ed, e, g, h => by
    unfold chkTgs at h
    split at h
    · simp only [Bool.and_eq_true] at h
      exact lgs_cons (sTg x g h.1.1) (sTgs r g h.2) h.1.2
    · cases h
theorem sI : ∀ (x : I) {Γ : G} {ec : List Addr} {X : Cx} {R F0 : Hp} {P : Prm} {ed : EXS} {tg e : Expr}, Good Γ ec X R F0 P ed → chkI Γ x tg e = true → PI X tg e (LI X.K R F0 (WI P ed x))
  | .sq a, Γ, ec, X, R, F0, P, ed, tg, e, g, h => by
    unfold chkI at h
    exact li_sq (sE a g h)
  | .r1 a, Γ, ec, X, R, F0, P, ed, tg, e, g, h => by
    unfold chkI at h
    split at h
    · simp only [Bool.and_eq_true, decide_eq_true_eq] at h
      obtain ⟨⟨⟨rfl, h1⟩, h2⟩, h3⟩ := h
      exact li_r1 (g.gl h1).1 (g.bl _ in_bl.1) (sE a g h2) h3
    · cases h
  | .r2 a b, Γ, ec, X, R, F0, P, ed, tg, e, g, h => by
    unfold chkI at h
    split at h
    · simp only [Bool.and_eq_true, decide_eq_true_eq] at h
      obtain ⟨⟨⟨⟨⟨rfl, h1⟩, h2⟩, h3⟩, h4⟩, h5⟩ := h
      exact li_r2 (g.gl h1).1 (g.bl _ in_bl.1) (sE a g h2) (sE b g h4) h3 h5
    · cases h
  | .r3 a b c, Γ, ec, X, R, F0, P, ed, tg, e, g, h => by
    unfold chkI at h
    split at h
    · simp only [Bool.and_eq_true, decide_eq_true_eq] at h
      obtain ⟨⟨⟨⟨⟨⟨⟨rfl, h1⟩, h2⟩, h3⟩, h4⟩, h5⟩, h6⟩, h7⟩ := h
      exact li_r3 (g.gl h1).1 (g.bl _ in_bl.1) (sE a g h2) (sE b g h4) (sE c g h6) h3 h5 h7
    · cases h
  | .en a, Γ, ec, X, R, F0, P, ed, tg, e, g, h => by
    unfold chkI at h
    split at h
    · simp only [Bool.and_eq_true, decide_eq_true_eq] at h
      obtain ⟨⟨⟨rfl, h1⟩, h2⟩, h3⟩ := h
      exact li_en (g.gl h1).1 (g.bl _ in_bl.2.1) (sE a g h2) h3
    · cases h
  | .zp a b, Γ, ec, X, R, F0, P, ed, tg, e, g, h => by
    unfold chkI at h
    split at h
    · simp only [Bool.and_eq_true, decide_eq_true_eq] at h
      obtain ⟨⟨⟨⟨⟨rfl, h1⟩, h2⟩, h3⟩, h4⟩, h5⟩ := h
      exact li_zp (g.gl h1).1 (g.bl _ in_bl.2.2.2) (sE a g h2) (sE b g h4) h3 h5
    · cases h
end
end Lg

namespace Lg
open PySem PySem.Spec PyProof.Rows L2
theorem lnop {X : Cx} {R F0 : Hp} {w w' : LEnds → Sl → LH → Prop} {st : Stmt} (h : PS X st (LS X.K R F0 w)) (e : w' = w) : PS X st (LS X.K R F0 w') := by rw [e]; exact h
theorem RepS.unset {K : PySem.W.Frag} {F : Hp} {ρ : Sl} {σ : L2.St} {v : Nat} (r : RepS K F ρ σ) : RepS K F (ρ.set v none) (σ.set v none) := by
  refine ⟨by simp [r.len], fun j d e => ?_⟩
  by_cases hj : v = j
  · subst hj
    by_cases hi : v < ρ.length
    · rw [List.getElem?_set_self hi] at e; cases e
    · rw [List.getElem?_eq_none (by simpa using hi)] at e; cases e
  · rw [List.getElem?_set_ne hj] at e
    obtain ⟨w, e1, q1⟩ := r.at_ j d e
    exact ⟨w, by rw [List.getElem?_set_ne hj]; exact e1, q1⟩
def hotO (a : Addr) (x : Exn) : Option Nat → Option (Addr × Exn)
  | some _ => some (a, x)
  | none => none
theorem whs_neg {P : Prm} {ed : EXS} {c : Nat} {i : Option Nat} {b : Ss} {r : Hs} {D : LEnds} {x : Exn} {ρ : Sl} {h : LH} (hb : P.sb x.cls c = false) (q : WHs P ed (.cons c i b r) D x ρ h) : WHs P ed r D x ρ h := by
  unfold WHs at q
  rw [if_neg (by rw [hb]; exact Bool.false_ne_true)] at q
  exact q
theorem whs_as {P : Prm} {ed : EXS} {c i : Nat} {b : Ss} {r : Hs} {D : LEnds} {x : Exn} {ρ : Sl} {h : LH} (hb : P.sb x.cls c = true) (q : WHs P ed (.cons c (some i) b r) D x ρ h) :
    ∀ a, h a = none → WSs { P with hot := some (a, x) } (fun _ _ _ => False) b { nx := fun ρ h => D.nx (ρ.set i none) h, rt := D.rt, bk := fun ρ h => D.bk (ρ.set i none) h, ct := fun ρ h => D.ct (ρ.set i none) h } (ρ.set i (some (.ref a))) h := by
  unfold WHs at q
  rw [if_pos hb] at q
  exact q
theorem whs_no {P : Prm} {ed : EXS} {c : Nat} {b : Ss} {r : Hs} {D : LEnds} {x : Exn} {ρ : Sl} {h : LH} (hb : P.sb x.cls c = true) (q : WHs P ed (.cons c none b r) D x ρ h) : WSs { P with hot := none } (fun _ _ _ => False) b D ρ h := by
  unfold WHs at q
  rw [if_pos hb] at q
  exact q
def hdTS (X : Cx) (ec : List Addr) (R : Hp) (P : Prm) (i : Option Nat) (b : Ss) : Addr → Value → Option Addr → TS := fun a cls d De σ H =>
  ∃ F0' x, RepX X.K ec F0' x cls d ∧ LS X.K R F0' (WSs { P with hot := hotO a x i } (fun _ _ _ => False) b) De σ H
mutual
theorem sS : ∀ (x : S) {Γ : G} {ec : List Addr} {X : Cx} {R F0 : Hp} {P : Prm} {ed : EXS} {st : Stmt}, Good Γ ec X R F0 P ed → chkS Γ x st = true → PS X st (LS X.K R F0 (WS P ed x))
  | .set t e, Γ, ec, X, R, F0, P, ed, st, g, h => by
    unfold chkS at h
    split at h
    case h_2 => cases h
    rename_i tg v p
    simp only [Bool.and_eq_true] at h
    obtain ⟨h1, h2⟩ := h
    split at h2
    · rename_i i x px
      simp only [Bool.and_eq_true, Bool.or_eq_true] at h2
      obtain ⟨h3, h4⟩ := h2
      obtain ⟨a1, a2, a3⟩ := g.wr h3
      rcases h4 with h4 | h4
      · exact ls_set g.nd' a1 a2 a3 (sE e g h1) (sw_false h4)
      · split at h4
        · rename_i c own tg' it ts y elt gs scope pv
          have hk : X.env.scope.kind = .function := by
            unfold fnKind at h4
            rw [g.sc]; exact of_decide_eq_true h4
          have hsw := sw_lcF (elt := elt) (gs := gs) (scope := scope) (pos := pv) (py := px) (y := x) (l := p.line) hk
          cases hb : (X.env.kindOf x == some .local && px.line == pv.line && !(scope.names.any fun (n, k) => n == x && (k == .local || k == .cell))) with
          | false => rw [hb] at hsw; exact ls_set g.nd' a1 a2 a3 (sE (.lc c own tg' it ts y) g h1) hsw
          | true =>
            rw [hb] at hsw
            simp only [Bool.and_eq_true, beq_iff_eq] at hb
            have hl : X.env.scope.names.lookup x = some .local := hb.1.1
            unfold chkE at h1
            split at h1
            case h_2 => cases h1
            rename_i hh
            cases hh
            simp only [Bool.and_eq_true, decide_eq_true_eq, List.all_eq_true] at h1
            obtain ⟨⟨⟨⟨⟨⟨⟨⟨hc, rfl⟩, b1⟩, b2⟩, b3⟩, b4⟩, b5⟩, b6⟩, b7⟩ := h1
            have ok : BlkOk X.N X.env.scope scope own := by rw [g.N, g.sc]; exact blkOk_by b1
            exact ls_setLc c (g.calm hc) g.nd' a1 hl hsw (sI it g b3) ok (S1 := tg'.sl) b2 (fun s H C cl fp R' F' => sTg tg' (g.blk hc s H scope C cl fp R' F') b5) (fun s H C cl fp R' F' => sTs ts (g.blk hc s H scope C cl fp R' F') b6) (fun s H C cl fp R' F' => sE y (g.blk hc s H scope C cl fp R' F') b7) b4
        · rename_i own tg' it ts k v ek ev gs scope pv
          have hk : X.env.scope.kind = .function := by
            unfold fnKind at h4
            rw [g.sc]; exact of_decide_eq_true h4
          have hsw := sw_dcF (ek := ek) (ev := ev) (gs := gs) (scope := scope) (pos := pv) (py := px) (y := x) (l := p.line) hk
          cases hb : (X.env.kindOf x == some .local && px.line == pv.line && !(scope.names.any fun (n, k) => n == x && (k == .local || k == .cell))) with
          | false => rw [hb] at hsw; exact ls_set g.nd' a1 a2 a3 (sE (.dc own tg' it ts k v) g h1) hsw
          | true =>
            rw [hb] at hsw
            simp only [Bool.and_eq_true, beq_iff_eq] at hb
            have hl : X.env.scope.names.lookup x = some .local := hb.1.1
            unfold chkE at h1
            split at h1
            case h_2 => cases h1
            rename_i hh
            cases hh
            simp only [Bool.and_eq_true, decide_eq_true_eq, List.all_eq_true] at h1
            obtain ⟨⟨⟨⟨⟨⟨⟨⟨⟨hc, rfl⟩, b1⟩, b2⟩, b3⟩, b4⟩, b5⟩, b6⟩, b7⟩, b8⟩ := h1
            have ok : BlkOk X.N X.env.scope scope own := by rw [g.N, g.sc]; exact blkOk_by b1
            exact ls_setDc (g.calm hc) g.nd' a1 hl hsw (sI it g b3) ok (S1 := tg'.sl) b2 (fun s H C cl fp R' F' => sTg tg' (g.blk hc s H scope C cl fp R' F') b5) (fun s H C cl fp R' F' => sTs ts (g.blk hc s H scope C cl fp R' F') b6) (fun s H C cl fp R' F' => sE k (g.blk hc s H scope C cl fp R' F') b7) (fun s H C cl fp R' F' => sE v (g.blk hc s H scope C cl fp R' F') b8) b4
        · cases h4
    · simp only [Bool.and_eq_true, Bool.not_eq_true'] at h2
      obtain ⟨⟨⟨h3, h4⟩, h5⟩, h6⟩ := h2
      exact ls_asg (sE e g h1) (sTg t g h3) h4 h5 h6
  | .par is xs, Γ, ec, X, R, F0, P, ed, st, g, h => by
    unfold chkS at h
    split at h
    case h_2 => cases h
    rename_i i j x px y py k1 p2 va vb k0 p1 p0
    simp only [Bool.and_eq_true, decide_eq_true_eq, Bool.not_eq_true'] at h
    obtain ⟨⟨⟨⟨⟨⟨⟨⟨⟨⟨⟨⟨⟨h1, h2⟩, h3⟩, h4⟩, h5⟩, h6⟩, h7⟩, h8⟩, h9⟩, h10⟩, h11⟩, h12⟩, h13⟩, h14⟩ := h
    have hk : X.env.scope.kind = .function := by
      unfold fnKind at h2
      rw [g.sc]; exact of_decide_eq_true h2
    have hx : X.env.scope.names.lookup x = some .local := by rw [g.sc]; exact of_decide_eq_true h6
    have hy : X.env.scope.names.lookup y = some .local := by rw [g.sc]; exact of_decide_eq_true h7
    exact ls_par2 (g.calm h1) g.nd' (g.at_ h3) (g.at_ h4) h5 hx hy (sEs xs g h14) (sw_par hk hx hy h8 h9 h10 h11 h12 h13)
  | .aug i op e, Γ, ec, X, R, F0, P, ed, st, g, h => by
    unfold chkS at h
    split at h
    case h_2 => cases h
    simp only [Bool.and_eq_true, decide_eq_true_eq] at h
    obtain ⟨⟨h1, rfl⟩, h3⟩ := h
    obtain ⟨a1, a2, a3⟩ := g.wr h1
    exact ls_aug g.nd' a1 a2 a3 (sE e g h3)
  | .augS _ _ _ _, Γ, ec, X, R, F0, P, ed, st, g, h => by unfold chkS at h; cases h
  | .setF c o f e, Γ, ec, X, R, F0, P, ed, st, g, h => by
    unfold chkS at h
    split at h
    case h_2 => cases h
    simp only [Bool.and_eq_true, decide_eq_true_eq] at h
    obtain ⟨⟨⟨rfl, h1⟩, h2⟩, h3⟩ := h
    obtain ⟨ci, hc, hf⟩ := clF_at h3
    exact ls_setF g hc hf (sE o g h1) (sE e g h2)
  | .ife t a b, Γ, ec, X, R, F0, P, ed, st, g, h => by
    unfold chkS at h
    split at h
    case h_2 => cases h
    simp only [Bool.and_eq_true] at h
    exact ls_ife (sT t g h.1.1) (sSs a g h.1.2) (sSs b g h.2)
  | .ret e, Γ, ec, X, R, F0, P, ed, st, g, h => by
    unfold chkS at h
    split at h
    case h_2 => cases h
    exact ls_ret (sE e g h)
  | .retN, Γ, ec, X, R, F0, P, ed, st, g, h => by
    unfold chkS at h
    split at h
    case h_2 => cases h
    exact ls_retN
  | .ex e, Γ, ec, X, R, F0, P, ed, st, g, h => by
    unfold chkS at h
    split at h
    case h_2 => cases h
    simp only [Bool.and_eq_true] at h
    exact ls_ex (sE e g h.1) h.2
  | .raise c xs, Γ, ec, X, R, F0, P, ed, st, g, h => by
    unfold chkS at h
    split at h
    case h_2 => cases h
    simp only [Bool.and_eq_true, decide_eq_true_eq] at h
    obtain ⟨⟨⟨⟨⟨⟨h1, h2⟩, h3⟩, h4⟩, h5⟩, h6⟩, h7⟩ := h
    split at h3
    case h_2 => cases h3
    rename_i fl hfl
    obtain ⟨h8, h9⟩ := g.gl h4
    exact ls_raise g h1 h2 (g.fl _ _ hfl) h8 h9 (sEs xs g h5) h6 h7
  | .for_ tg it dead b, Γ, ec, X, R, F0, P, ed, st, g, h => by
    unfold chkS at h
    split at h
    case h_2 => cases h
    simp only [Bool.and_eq_true] at h
    obtain ⟨⟨⟨⟨⟨h1, h2⟩, h3⟩, h4⟩, h5⟩, h6⟩ := h
    exact ls_for dead (g.own h2).1 (g.calm h1) (sI it g h4) (sTg tg g h5) (sSs b g h6) h3
  | .whil t dead b, Γ, ec, X, R, F0, P, ed, st, g, h => by
    unfold chkS at h
    split at h
    case h_2 => cases h
    simp only [Bool.and_eq_true] at h
    exact ls_whil dead (g.own h.1.1).1 (sT t g h.1.2) (sSs b g h.2)
  | .brk, Γ, ec, X, R, F0, P, ed, st, g, h => by
    unfold chkS at h
    split at h
    case h_2 => cases h
    exact ls_brk
  | .cont, Γ, ec, X, R, F0, P, ed, st, g, h => by
    unfold chkS at h
    split at h
    case h_2 => cases h
    exact ls_cont
  | .pass, Γ, ec, X, R, F0, P, ed, st, g, h => by
    unfold chkS at h
    split at h
    case h_2 => cases h
    exact ls_pass
  | .try_ b hs, Γ, ec, X, R, F0, P, ed, st, g, h => by
    unfold chkS at h
    split at h
    case h_2 => cases h
    simp only [Bool.and_eq_true] at h
    obtain ⟨⟨⟨h1, h2⟩, h3⟩, h4⟩ := h
    obtain ⟨l, hl, hw⟩ := sHs hs g h4
    obtain ⟨_, o2, o3⟩ := g.own h2
    refine PS.imp (ps_try_ms (tb := fun W De σ H => ∃ F0' ed', (∀ cls d σ H, wOf X.K ec R F0' ed' cls d σ H → W cls d σ H) ∧ LS X.K R F0' (WSs P ed' b) De σ H) o2 o3 g.nd' g.tk (fun W pn xe tk hp => ⟨fun pins s σ H De I ⟨F0', ed', i, q⟩ => ?_⟩) hl) fun De σ H ⟨F, h, ρ, Dl, s0, S, rs, q, k⟩ => ?_
    · exact (sSs b (g.tr h1 (tk.imp i) hp) h3).run pins s σ H De I q
    · exact ⟨F, _, fun cls d σ H => hw De Dl F s0 k cls d σ H, F, h, ρ, Dl, Same.refl F, S, rs, q, k⟩
theorem sSs : ∀ (x : Ss) {Γ : G} {ec : List Addr} {X : Cx} {R F0 : Hp} {P : Prm} {ed : EXS} {st : List Stmt}, Good Γ ec X R F0 P ed → chkSs Γ x st = true → PSs X st (LS X.K R F0 (WSs P ed x))
  | .nil, Γ, ec, X, R, F0, P, ed, st, g, h => by
    unfold chkSs at h
    split at h
    case h_2 => cases h
    exact lss_nil
  | .cons x r, Γ, ec, X, R, F0, P, ed, st, g, h => by
    unfold chkSs at h
    split at h
    case h_2 => cases h
    simp only [Bool.and_eq_true] at h
    exact lss_cons (w1 := WS P ed x) (w2 := WSs P ed r) (sS x g h.1) (sSs r g h.2)
  | .frz i r, Γ, ec, X, R, F0, P, ed, st, g, h => by
    unfold chkSs at h
    exact lss_frz (sSs r g h)
  | .wk i r, Γ, ec, X, R, F0, P, ed, st, g, h => by
    unfold chkSs at h
    exact lss_wk (sSs r g h)
theorem sHs : ∀ (x : Hs) {Γ : G} {ec : List Addr} {X : Cx} {R F0 : Hp} {P : Prm} {ed : EXS} {hds : List ExceptHandler}, Good Γ ec X R F0 P ed → chkHs Γ x hds = true →
    ∃ l, HdsA X hds l ∧ ∀ (De : Ends) (Dl : LEnds) (F : Hp), Same F0 F → KontS X.K R F Dl De → ∀ cls d σ H, wOf X.K ec R F (WHs P ed x Dl) cls d σ H → wMs X.K (wOf X.K ec R F0 ed) De l cls d σ H
  | .nil, Γ, ec, X, R, F0, P, ed, hds, g, h => by
    unfold chkHs at h
    split at h
    case h_2 => cases h
    exact ⟨[], .nil, fun De Dl F s0 k cls d σ H ⟨F1, h1, x, ρ, s1, S, rx, rs, q⟩ => ⟨F1, h1, x, ρ, s0.trans s1, S, rx, rs, q⟩⟩
  | .cons c i b r, Γ, ec, X, R, F0, P, ed, hds, g, h => by
    unfold chkHs at h
    split at h
    case h_2 => cases h
    rename_i x np n b₀ suite pos' hds2
    simp only [Bool.and_eq_true, decide_eq_true_eq] at h
    obtain ⟨⟨⟨⟨h1, h2⟩, h3⟩, h4⟩, h5⟩ := h
    obtain ⟨l, hl, hw⟩ := sHs r g h5
    obtain ⟨C, e1, e2, e3⟩ := g.sb c x h1
    obtain ⟨g1, g2⟩ := g.gl h2
    have hn : Names X x (.ref C) := ⟨g1, g2, .inl e2⟩
    have hsu : ∀ (a : Addr) (oe : Obj) (cls : Value) (d : Option Addr) (pn : List (Addr × Obj)), Zc cls d oe → (∃ vs, oe.data = .fields vs) → PSs (X.suite a ((a, oe) :: pn)) (b₀ :: suite) (hdTS X ec R P i b a cls d) := by
      intro a oe cls d pn hz hv
      refine ⟨fun pins s σ H De I ⟨F0', xx, rx, q⟩ => ?_⟩
      refine (sSs b (g.sus (a := a) (oe := oe) (pn := pn) (F0' := F0') (o := hotO a xx i) fun b' x' e => ?_) h4).run pins s σ H De I q
      cases i with
      | none => cases e
      | some j => cases e; exact ⟨rfl, cls, d, hz, hv, rx⟩
    refine ⟨(.ref C, i, hdTS X ec R P i b) :: l, ?_, ?_⟩
    · cases i with
      | none =>
        cases n with
        | none => exact .no hn hsu hl
        | some n => cases h3
      | some j =>
        cases n with
        | none => cases h3
        | some n =>
          simp only [Bool.and_eq_true] at h3
          refine .as_ hn (g.at_ h3.1) ?_ hsu hl
          show X.env.scope.names.lookup n = _
          rw [g.sc]
          have := h3.2
          unfold kdB at this
          exact of_decide_eq_true this
    · intro De Dl F s0 k cls d σ H ⟨F1, h1, x', ρ, s1, S, rx, rs, q⟩
      obtain ⟨C', dd, fs', hc1, hc2, hc3, hc4, hc5⟩ := id rx
      refine ⟨P.sb x'.cls c, by rw [hc2]; exact e3 _ _ hc1, fun hb a hn => ?_, fun hb => ?_⟩
      · cases i with
        | none => exact ⟨F1, x', rx, F1, h1, ρ, Dl, Same.refl F1, S, rs, whs_no hb q, k.mono s1⟩
        | some j =>
          refine ⟨F1, x', rx, F1, h1, _, _, Same.refl F1, S, rs.set (d := .ref a) rfl, whs_as hb q a (S.free hn).2, ?_⟩
          exact ⟨fun F' h' H' ρ' σ' s' S' rs' q' => k.nx F' h' H' _ _ (s1.trans s') S' rs'.unset q', fun F' h' H' d v s' S' r' q' => k.rt F' h' H' d v (s1.trans s') S' r' q',
            fun F' h' H' ρ' σ' s' S' rs' q' => k.bk F' h' H' _ _ (s1.trans s') S' rs'.unset q', fun F' h' H' ρ' σ' s' S' rs' q' => k.ct F' h' H' _ _ (s1.trans s') S' rs'.unset q'⟩
      · exact hw De Dl F s0 k cls d σ H ⟨F1, h1, x', ρ, s1, S, rx, rs, whs_neg hb q⟩
end
end Lg

namespace Lg
open PySem PySem.Spec PyProof.Rows L2
/-! ### what the written part must say -/
/-- how a def binds: each value to its name, or what is left over as a tuple -/
def BindsV (K : PySem.W.Frag) (fd : FuncData) (ps : List Str) : Option Nat → Prop
  | none => Binds K fd ps []
  | some n => ∃ qs pv, ps = qs ++ [pv] ∧ qs.length = n ∧ ∀ us rest : List Value, us.length = n → bindArgs fd ⟨us ++ rest, []⟩ = (newTuple rest >>= fun t => pure (qs.zip us ++ [(pv, t)]))
/-- one def -/
structure FnFact (K : PySem.W.Frag) (mg : Str → Option Value) (Γ : G) (st : Option Nat) (x : Str) (fn : Fn) (f : Addr) (fd : FuncData) (ps : List Str) : Prop where
  gl : x ≠ ("" : Str) → mg x = some (.ref f)
  kp : PySem.W.keepIn K (.ref f) = true
  bd : BindsV K fd ps st
  body : ∃ name qual params body scope dV kV doc pm an cdv ct oc od osl N, fd = PySem.W.fnOf name qual params body scope dV kV doc pm an cdv ct ∧ K.lookup f = some ⟨oc, od, .func (PySem.W.fnOf name qual params body scope dV kV doc pm an cdv ct), osl⟩ ∧ PySem.W.codeIn K cdv qual = true ∧ FnScope N ps scope ∧
    fn.ps = ps.length ∧ fn.n = N.length ∧ chkSs { Γ with N := N, sc := scope, all := true, bsc := scope, calm := true, body := true } fn.body body = true
structure ExFact (P : Program) (w : World) (K : PySem.W.Frag) (mg : Str → Option Value) (base : Heap) (C fI : Addr) (fl : List Str) (x : Str) (fd : FuncData) (ps : List Str) : Prop where
  nl : fl.length ≤ 900
  ox : OexC K C
  ini : PySem.W.findIn K (.ref C) "__init__" = some (some (.ref fI))
  ty : PySem.W.typeIn K (.ref fI) = some (.type "function")
  bd : Binds K fd ps []
  gl : mg x = some (.ref C)
  fn : FnOk P w K mg base (L2.CX P w) 1 fI fd ps (spInit C fl)
structure Facts (P : Program) (w : World) (K : PySem.W.Frag) (mg : Str → Option Value) (base : Heap) (Γ : G) (ec : List Addr) (tb : Nat → Option Fn) (Pm : Prm) : Prop where
  bl : ∀ x ∈ bltNames, mg x = none
  gc : ∀ i x d, Γ.gc[i]? = some x → Pm.gc i = some d → ∃ v u, mg x = some u ∧ RelV v u ∧ ∀ F, Rep K F d v
  fs : ∀ i x, Γ.fs[i]? = some x → ∃ fn fd ps, tb i = some fn ∧ FnFact K mg Γ (stOf Γ i) x fn (Pm.fa i) fd ps
  cl : ∀ c ci, Γ.cl[c]? = some ci → ClsAt K mg ci (Pm.ca c) Pm.fa
  ex : ∀ i x fl, Γ.ex[i]? = some x → Pm.fl i = some fl → ∃ C fI fd ps, ec[i]? = some C ∧ ExFact P w K mg base C fI fl x fd ps
  sb : ∀ (j : Nat) (x : Str), Γ.ex[j]? = some x → ∃ C : Addr, ec[j]? = some C ∧ mg x = some (.ref C) ∧ ∀ (i : Nat) (C' : Addr), ec[i]? = some C' → PySem.W.exmOne K (.ref C') (.ref C) = some (Pm.sb i j)
  xf : ∀ (i : Nat) (C : Addr), ec[i]? = some C → XfC K C ∧ ∀ f ∈ xNames, PySem.W.findIn K (.ref C) f = some none
  fl : ∀ i fl, Γ.fl[i]? = some (some fl) → Pm.fl i = some fl
  ht : Pm.hot = none
/-- a def of the text whose frame needs no guard -/
theorem fn_ofG {P : Program} {w : World} {K : PySem.W.Frag} {mg : Str → Option Value} {base : Heap} {k : Nat} {f : Addr} {name qual : Str} {params : Arguments} {body : List Stmt} {scope : Scope} {dV kV doc pm cdv ct oc : Value} {an od : Option Addr}
    {osl : Array (Option Value)} {N ps : List Str} {sp : Sp} (lk : K.lookup f = some ⟨oc, od, .func (PySem.W.fnOf name qual params body scope dV kV doc pm an cdv ct), osl⟩) (hcd : PySem.W.codeIn K cdv qual = true) (S : FnScope N ps scope)
    (len : ∀ vs H Q E, sp vs H Q E → vs.length = ps.length)
    (hbody : ∀ (A : Around) (outer : List Env) (s : Shared) (H : Hp) (vs : List V) (Q : VK) (E : XK), Room k (A.deeper (envOfC qual scope s.heap.objs.size f cdv)) → A.guards = some [] → sp vs H Q E →
      ∃ t, PSs (cxOf (L2.CX P w) P w K mg base N qual scope f cdv A outer s H E) body t ∧ t { nx := fun _ H' => Q .non H', rt := Q } (start N vs) H) :
    FnG P w K mg base (k + 1) f (PySem.W.fnOf name qual params body scope dV kV doc pm an cdv ct) ps sp := by
  refine ⟨len, fun A outer s H args us vs Q E hr hgd e0 hb r hsp => ?_⟩
  have hl := len _ _ _ _ hsp
  have KX : K.In s.heap := e0.mod.kin.keeps fun b o e => (e0.bs b o e).1
  have lim : s.heap.NoLimit := e0.mod.nolimit.keeps fun b o e => (e0.bs b o e).1
  have hkind : ∀ y ∈ ps.zip us, scope.names.lookup y.1 = some .local ∨ (scope.names.lookup y.1 = some .cell ∧ ((cellsFrom (s.heap.objs.size + 1) scope.names []).lookup y.1).isSome = true) := fun ⟨n, v⟩ hy => by
    rcases S.par n (List.of_mem_zip hy).1 with q | q
    · exact .inl q
    · exact .inr ⟨q, PySem.W.cellsFrom_some _ _ _ (.inl q)⟩
  refine codeAny_call_function hr.depth (KX _ _ lk) rfl S.co S.gen rfl (PySem.W.codeRec_of KX hcd) (hb _ _ _ _ ?_)
  refine wpAny_newFunctionEnv_cells S.kind hkind fun env he s1 x => ?_
  subst he
  refine ⟨lim.keeps x.toInCall.keep, codeAny_func ?_⟩
  obtain ⟨t, ht, hq⟩ := hbody A outer s H vs Q E (hr.deeper _) hgd hsp
  have I : Inv (cxOf (L2.CX P w) P w K mg base N qual scope f cdv A outer s H E) [] (start N vs) H s1 := inv_start S hr.hd e0 hl r x
  refine wpAny_mono (ht.run [] s1 (start N vs) H _ I hq) (fun fl s' hs => ?_) fun e s' hs => hs
  have fin : ∀ {σ' : L2.St} {H' : Hp} {v : V} {u : Value}, Inv (cxOf (L2.CX P w) P w K mg base N qual scope f cdv A outer s H E) [] σ' H' s' → RelV v u → Q v H' → CE outer P w H s Q u s' :=
    fun {σ' H' v u} J rv q => ⟨v, H', J.os, J.bare, J.base, J.hok, rv, q⟩
  cases fl with
  | ret u =>
    obtain ⟨v, σ', H', J, rv, q⟩ := hs
    exact fin J rv q
  | next =>
    obtain ⟨σ', H', J, q⟩ := hs
    exact fin (v := V.non) (u := Value.none) J rfl q
  | brk =>
    obtain ⟨_, _, _, q⟩ := hs
    exact False.elim q
  | cont =>
    obtain ⟨_, _, _, q⟩ := hs
    exact False.elim q
/-- a def that takes what is left over as a tuple -/
theorem fn_starG {P : Program} {w : World} {K : PySem.W.Frag} {mg : Str → Option Value} {base : Heap} {k : Nat} {f : Addr} {name qual : Str} {params : Arguments} {body : List Stmt} {scope : Scope} {dV kV doc pm cdv ct oc : Value} {an od : Option Addr}
    {osl : Array (Option Value)} {N ps : List Str} {pv : Str} {sp : Sp} (lk : K.lookup f = some ⟨oc, od, .func (PySem.W.fnOf name qual params body scope dV kV doc pm an cdv ct), osl⟩) (hcd : PySem.W.codeIn K cdv qual = true) (S : FnScope N (ps ++ [pv]) scope)
    (hb : ∀ us rest : List Value, us.length = ps.length → bindArgs (PySem.W.fnOf name qual params body scope dV kV doc pm an cdv ct) ⟨us ++ rest, []⟩ = (newTuple rest >>= fun t => pure (ps.zip us ++ [(pv, t)])))
    (hbody : ∀ (A : Around) (outer : List Env) (s : Shared) (H : Hp) (vs : List V) (Q : VK) (E : XK), Room k (A.deeper (envOfC qual scope s.heap.objs.size f cdv)) → A.guards = some [] → sp vs H Q E →
      ∃ t, PSs (cxOf (L2.CX P w) P w K mg base N qual scope f cdv A outer s H E) body t ∧ t { nx := fun _ H' => Q .non H', rt := Q } (start N vs) H) :
    FnC P w K mg base (k + 1) f (fun vs H Q E => ∃ ws rest, vs = ws ++ rest ∧ ws.length = ps.length ∧ rest.length ≤ sizeLine ∧ ∀ (p : Addr) (o : Obj), H p = Option.none → o.cls = .type "tuple" → o.dict = none → sp (ws ++ [V.ref p]) (upd H p (.frz o (.tup rest))) Q E) := by
  intro A outer s H us vs Q E hr hgd e0 r hsp
  obtain ⟨ws, rest, ev, hl, hz, hq⟩ := hsp
  subst ev
  obtain ⟨u1, u2, eu, r1, r2⟩ := StX.vals_split r
  subst eu
  have hn : H s.heap.objs.size = Option.none := e0.hok.fresh (Nat.le_refl _)
  have hl1 : u1.length = ps.length := by rw [← r1.length]; exact hl
  have hl2 : u2.length ≤ sizeLine := by rw [← r2.length]; exact hz
  refine StX.run_bnd lk hcd S hr e0 (G := fun xs H2 => ∃ (p : Addr) (o : Obj), H p = Option.none ∧ o.cls = .type "tuple" ∧ o.dict = none ∧ xs = ws ++ [V.ref p] ∧ H2 = upd H p (.frz o (.tup rest))) (fun A' Ex Q' h => ?_) fun s2 H2 xs ⟨p, o, hp, hc, hd, ex, eH⟩ hr' => ?_
  · rw [hb u1 u2 hl1]
    refine wpAny_bind (wpAny_newTuple (wpAny_pure ?_) hl2)
    have new : ObjOk P w (upd H s.heap.objs.size (.frz { cls := .type "tuple", data := .seq u2.toArray } (.tup rest))) (s.heap.push ({ cls := .type "tuple", data := .seq u2.toArray } : Obj)) s.heap.objs.size (.frz { cls := .type "tuple", data := .seq u2.toArray } (.tup rest)) :=
      ⟨Heap.get?_push_size _ rfl, hz, u2, r2, ⟨_, Heap.get?_push_size _ rfl, rfl, _, rfl⟩⟩
    have un := StX.un_laid (fs := frs outer) (s := s) (o := ({ cls := .type "tuple", data := .seq u2.toArray } : Obj)) (u := .frz { cls := .type "tuple", data := .seq u2.toArray } (.tup rest)) hn
    have z := h _ _ (ws ++ [V.ref s.heap.objs.size]) (u1 ++ [Value.ref s.heap.objs.size]) (StX.env0_laid e0 new) un rfl (fun e s' => StX.cxUp outer s H _ _ E e s' un (fun b o q => Heap.get?_push_of_some _ q) rfl) (r1.append (.cons rfl .nil))
      (by rw [List.length_append, List.length_append, hl] <;> rfl) ⟨_, _, hn, rfl, rfl, rfl, rfl⟩
    rw [List.zip_append hl1.symm] at z
    exact z
  · subst ex eH
    exact hbody A outer s2 _ _ Q E hr' hgd (hq p o hp hc hd)
theorem fnC_of {P : Program} {w : World} {K : PySem.W.Frag} {mg : Str → Option Value} {base : Heap} {k : Nat} {f : Addr} {fd : FuncData} {ps : List Str} {sp : Sp} (Fn : FnG P w K mg base k f fd ps sp) (hb : Binds K fd ps []) : FnC P w K mg base k f sp := by
  intro A outer s H us vs Q E hr hgd e0 r h
  have hl : us.length = ps.length := by rw [← r.length]; exact Fn.len _ _ _ _ h
  have KX : K.In s.heap := e0.mod.kin.keeps fun b o e => (e0.bs b o e).1
  have hbb : BindsTo s fd ⟨us, []⟩ (ps.zip us) := by
    have := hb s us KX (by rw [List.append_nil]; exact hl)
    rw [List.append_nil] at this
    exact this
  exact Fn.run A outer s H ⟨us, []⟩ us vs Q E hr hgd e0 hbb r h
theorem cf_len {P : Prm} {tb : Nat → Option Fn} {n i : Nat} {ds : List D} {h : LH} {Q : QD} {e : EX} {fn : Fn} (ht : tb i = some fn) (h : CF P tb n i ds h Q e) : ds.length = fn.ps := by
  cases n with
  | zero => exact h.elim
  | succ n =>
    obtain ⟨fn', e', h'⟩ := opt_at h
    rw [ht] at e'; cases e'
    exact h'.1
/-- ALL DEFS: what the words of each def mean, its code does -/
theorem fn_all {P : Program} {w : World} {K : PySem.W.Frag} {mg : Str → Option Value} {base : Heap} {Γ : G} {ec : List Addr} {tb : Nat → Option Fn} {Pm : Prm} (T : Facts P w K mg base Γ ec tb Pm) : ∀ (n i : Nat) (x : Str) (fn : Fn) (f : Addr) (fd : FuncData) (ps : List Str), Γ.fs[i]? = some x → tb i = some fn → FnFact K mg Γ (stOf Γ i) x fn f fd ps →
    FnC P w K mg base (2 * n + 2) f (spV (stOf Γ i) K ec (CF Pm tb n i))
  | 0, i, x, fn, f, fd, ps, hi, ht, Fc => fun A outer s H us vs Q E _ _ _ _ z => by
    generalize stOf Γ i = st at z
    cases st with
    | none =>
      obtain ⟨_, _, _, _, _, _, _, _, z, _⟩ := (show spG K ec (CF Pm tb 0 i) vs H Q E from z)
      exact z.elim
    | some m =>
      obtain ⟨_, _, _, _, _, _, _, _, _, z, _⟩ := z
      exact z.elim
  | n + 1, i, x, fn, f, fd, ps, hi, ht, Fc => by
    obtain ⟨name, qual, params, body, scope, dV, kV, doc, pm, an, cdv, ct, oc, od, osl, N, efd, lk, hcd, S, hps, hn, chk⟩ := Fc.body
    have hbody : ∀ (A : Around) (outer : List Env) (s : Shared) (H : Hp) (vs : List V) (Q : VK) (E : XK), Room (2 * n + 3) (A.deeper (envOfC qual scope s.heap.objs.size f cdv)) → A.guards = some [] → spG K ec (CF Pm tb (n + 1) i) vs H Q E →
        ∃ t, PSs (cxOf (L2.CX P w) P w K mg base N qual scope f cdv A outer s H E) body t ∧ t { nx := fun _ H' => Q .non H', rt := Q } (start N vs) H := by
      intro A outer s H vs Q E hr hgd ⟨R, F, h, ds, Qd, ed, Sm, r, q, kq, kx⟩
      obtain ⟨fn', e', hl, q⟩ := opt_at (show opt (tb i) fun fn => ds.length = fn.ps ∧ WSs { Pm with cf := CF Pm tb n } (fun x _ h => ∃ h', Sub h' h ∧ ed x h') fn.body { nx := fun _ h => done Qd .non h, rt := done Qd } (ds.map some ++ List.replicate (fn.n - fn.ps) none) h from q)
      rw [ht] at e'
      cases e'
      have g : Good { Γ with N := N, sc := scope, all := true, bsc := scope, calm := true, body := true } ec (cxOf (L2.CX P w) P w K mg base N qual scope f cdv A outer s H E) R F { Pm with cf := CF Pm tb n } (fun x _ h => ∃ h', Sub h' h ∧ ed x h') := {
        N := rfl
        nd := S.nd
        sc := rfl
        fn := fun _ _ => rfl
        calm := fun _ => rfl
        gd := hgd
        un := by have := hr.un; show (A.deeper _).units + 64 < cLine; omega
        tk := (takes_of (E := E) rfl rfl rfl rfl).imp fun cls d σ H' ⟨F', h', x', ρ, s', S', rx, rs, h'', sub, q'⟩ => kx F' h'' H' x' cls d s' (S'.sub sub) rx q'
        own := fun _ => ⟨PassesOwn.leaving, rfl, rfl⟩
        bl := T.bl
        gc := T.gc
        fs := fun _ j y hj => by
          obtain ⟨fn2, fd2, ps2, ht2, Fc2⟩ := T.fs j y hj
          exact ⟨2 * n + 2, hr, Fc2.kp, fn_all T n j y fn2 _ fd2 ps2 hj ht2 Fc2⟩
        nm := fun j y hj hy => by
          obtain ⟨fn2, fd2, ps2, ht2, Fc2⟩ := T.fs j y hj
          exact Fc2.gl hy
        cl := T.cl
        ex := fun _ j y fl hj hf => by
          obtain ⟨C, fI, fd2, ps2, e1, X⟩ := T.ex j y fl hj hf
          exact ⟨C, 1, fI, fd2, ps2, e1, X.nl, X.ox, X.ini, X.ty, hr.mono (by omega), X.bd, X.gl, X.fn⟩
        sb := T.sb
        xf := T.xf
        hot := fun a x e => by have := T.ht; rw [show Pm.hot = some (a, x) from e] at this; cases this
        ht := fun _ => T.ht
        fl := T.fl }
      refine ⟨_, sSs fn.body g chk, F, h, _, _, Same.refl F, Sm, ?_, q, ?_⟩
      · have hz := r.length
        have e1 : L2.start N vs = vs.map some ++ List.replicate (fn.n - fn.ps) none := by
          unfold L2.start
          rw [hn, hps]
          have : vs.length = ps.length := by omega
          rw [this]
        rw [e1]
        exact RepS.start _ r
      · have dn : ∀ {F' h' H' d v}, Same F F' → Sim K R F' h' H' → Rep K F' d v → done Qd d h' → Q v H' := fun {F' h' H' d v} s' S' r' ⟨d', h'', wk, q'⟩ => by
          obtain ⟨F2, s2, S2, r2⟩ := wk K R F' H' v S' r'
          exact kq F2 h'' H' d' v (s'.trans s2) S2 r2 q'
        exact ⟨fun F' h' H' ρ σ s' S' _ q' => dn (d := .non) s' S' rfl q', fun F' h' H' d v s' S' r' q' => dn s' S' r' q', fun _ _ _ _ _ _ _ _ z => z.elim, fun _ _ _ _ _ _ _ _ z => z.elim⟩
    subst efd
    have hl2 : 2 * (n + 1) + 2 = (2 * n + 3) + 1 := by omega
    rw [hl2]
    have bd := Fc.bd
    cases hst : stOf Γ i with
    | none =>
      rw [hst] at bd
      exact fnC_of (fn_ofG (N := N) lk hcd S (fun vs H Q E ⟨R, F, h, ds, Qd, ed, S, r, q, _⟩ => by rw [← r.length, cf_len ht q, hps]) hbody) bd
    | some m =>
      rw [hst] at bd
      obtain ⟨qs, pv, rfl, rfl, hb⟩ := bd
      intro A outer s H us vs Q E hr hgd e0 r hsp
      refine fn_starG lk hcd S hb hbody A outer s H us vs Q E hr hgd e0 r ?_
      obtain ⟨R, F, h, ds, Qd, ed, Sm, rd, ⟨hm, hz⟩, q, kq, kx⟩ := hsp
      have hlen := rd.length
      refine ⟨vs.take qs.length, vs.drop qs.length, (List.take_append_drop _ _).symm, by rw [List.length_take]; omega, by rw [List.length_drop]; omega, fun p o hp hc hd => ?_⟩
      have sn := same_new (o := .frz o (.tup (vs.drop qs.length))) (Sm.free hp).1
      refine ⟨R, _, h, _, Qd, ed, Sm.frozen hp, ?_, q, kq.mono sn, fun F' h' H' x cls d s' => kx F' h' H' x cls d (sn.trans s')⟩
      refine ((rd.take _).mono sn).append (.one ?_)
      simp only [Rep]
      exact ⟨p, _, rfl, newTup hc hd, (rd.drop _).mono sn⟩
/-- the law's call, at the heap behind the top -/
theorem law_callG {P : Program} {w : World} {K : PySem.W.Frag} {mg mb : Str → Option Value} {k : Nat} {fa a : Addr} {sp : Sp} {s₁ : Shared} {vs : List Value} {ns : List Int}
    (KX : K.In s₁.heap) (hns : s₁.heap.Ns mainGlobals mg) (hb : s₁.heap.Ns builtinsNs mb) (hbb : ∀ x : Str, x ≠ "__name__" → mb x = bootBuiltins x) (hlim : s₁.heap.NoLimit) (hg : s₁.gens = #[])
    (ha : s₁.heap.get? a = some { cls := .type "list", data := .seq vs.toArray }) (hi : IntsAre vs ns) (hl : ns.length ≤ sizeLine) (hr : Room k callerA)
    (F : ∀ base : Heap, K.In base → base.Ns mainGlobals mg → FnC P w K mg base k fa sp)
    (hsp : ∀ H : Hp, Only H → SqL K H a (ns.map V.int) → sp [.ref a] H (fun v _ => v = .bl true) fun _ _ _ => False) :
    codeAny (model P w) callerA (.call (.ref fa) ⟨[.ref a], []⟩) (fun r s' => r = .ok (.ret (.bool true)) ∧ OldK s₁.heap s'.heap ∧ s'.os = s₁.os ∧ AllBare s'.gens) s₁ := by
  have rv := vals_ints hi
  have lenV := hi.length
  have core : ∀ H : Hp, Only H → SqL K H a (ns.map V.int) → HOk P w H s₁.heap → (∀ b, H b ≠ none → b = a) → (H a ≠ none → K.lookup a = none) →
      codeAny (model P w) callerA (.call (.ref fa) ⟨[.ref a], []⟩) (fun r s' => r = .ok (.ret (.bool true)) ∧ OldK s₁.heap s'.heap ∧ s'.os = s₁.os ∧ AllBare s'.gens) s₁ := by
    intro H hO hS hok hA hK
    have base_of : ∀ {b : Addr} {o : Obj}, s₁.heap.get? b = some o → H b = none → (hidT s₁.heap H).get? b = some o := fun e n => hidT_get e n
    have noA : ∀ {b : Addr} {o : Obj} {es : Array DictEntry} {ep : Nat}, s₁.heap.get? b = some o → o.data = .dict es ep → H b = none := fun {b o es ep} e d => by
      cases q : H b with
      | none => rfl
      | some u =>
        have e' : b = a := hA b (by rw [q]; simp)
        subst e'
        rw [ha] at e; cases e
        have d' : Data.seq vs.toArray _ = Data.dict es ep := d
        cases d'
    have nsK : ∀ {b : Addr} {m : Str → Option Value}, s₁.heap.Ns b m → (hidT s₁.heap H).Ns b m := fun {b m} ⟨o, es, ep, e, d, r⟩ => ⟨o, es, ep, base_of e (noA e d), d, r⟩
    have hKb : K.In (hidT s₁.heap H) := fun b o e => base_of (KX b o e) (by
      cases q : H b with
      | none => rfl
      | some u =>
        have e' : b = a := hA b (by rw [q]; simp)
        subst e'
        rw [hK (by rw [q]; simp)] at e; cases e)
    have hM : Mod K mg (hidT s₁.heap H) := ⟨hKb, nsK hns, ⟨mb, nsK hb, hbb⟩, let ⟨mc, h1, h2⟩ := hlim; ⟨mc, nsK h1, h2⟩⟩
    have e0 : Env0 P w K mg (hidT s₁.heap H) callerA [] s₁ H := ⟨rfl, hM, fun b o e => of_hidT e, Nat.le_of_eq (hidT_size _ _), trivial, fun b hb => absurd (show b ∈ ([] : List Addr) from hb) (by simp), hok, .of_eq hg⟩
    refine codeAny_mono ((F _ hKb (nsK hns)) callerA [] s₁ H [.ref a] [.ref a] _ _ hr rfl e0 (.cons rfl .nil) (hsp H hO hS)) fun r s' h => ?_
    cases r with
    | error e =>
      obtain ⟨_, _, _, _, _, _, _, _, _, _, _, _, z⟩ := h
      exact z.elim
    | ok fl =>
      cases fl with
      | next => exact False.elim h
      | brk => exact False.elim h
      | cont => exact False.elim h
      | ret u =>
        obtain ⟨v, H', os, bare, un, hok', r', q⟩ := h
        have q' : v = .bl true := q
        subst q'
        obtain rfl : u = Value.bool true := r'
        refine ⟨rfl, OldK.of_keep fun b o e => ?_, os, bare⟩
        cases q : H b with
        | none => exact un.keep b o e q (by intro z; exact absurd (show b ∈ ([] : List Addr) from z) (by simp)) (by simp)
        | some u =>
          rcases hO b with z | ⟨ob, xs, z⟩
          · rw [q] at z; cases z
          · have z2 := un.frzs b ob _ z
            obtain ⟨e1, _⟩ := hok b _ z
            obtain ⟨e2, _⟩ := hok' b _ z2
            rw [e] at e1; cases e1
            exact e2
  cases hk : K.lookup a with
  | some o =>
    have e := KX a o hk
    rw [ha] at e
    cases e
    refine core (fun _ => none) (fun _ => .inl rfl) (.inr ⟨_, vs.toArray, _, hk, rfl, rfl, rfl, by rw [List.size_toArray, lenV]; exact hl, by simpa using rv⟩) (fun b u z => by have z' : (none : Option HO) = some u := z; cases z') (fun b z => absurd rfl z) fun z => absurd rfl z
  | none =>
    refine core (fun b => if b = a then some (.frz { cls := .type "list", data := .seq vs.toArray } (.lst (ns.map V.int))) else none) (fun b => ?_) (.inl (.inr ⟨{ cls := .type "list", data := .seq vs.toArray }, if_pos rfl⟩)) (fun b u z => ?_) (fun b z => ?_) fun _ => hk
    · by_cases hb : b = a
      · exact .inr ⟨_, _, if_pos hb⟩
      · exact .inl (if_neg hb)
    · by_cases hb : b = a
      · have z' := (if_pos hb).symm.trans z
        cases z'
        subst hb
        exact ⟨ha, by rw [List.length_map]; exact hl, vs, _, rv, ha⟩
      · have z' := (if_neg hb).symm.trans z
        cases z'
    · by_cases hb : b = a
      · exact hb
      · exact absurd (if_neg hb) z
theorem rep_ints {K : PySem.W.Frag} {F : Hp} : ∀ (ns : List Int), RepL K F (ns.map D.int) (ns.map V.int)
  | [] => by simp [RepL]
  | n :: ns => by
    simp only [List.map_cons, RepL]
    exact ⟨_, _, rfl, rfl, rep_ints ns⟩
theorem walk_ofG {l : PySem.W.OpenLaw} {n k : Nat} {q : Program} {loose : List Str} {XP : (Str → Option Value) → Heap → Prop} {YP : World → Heap → Prop} {d : DefRec} {x : Str}
    (hn : l.most = some n) (hn2 : n ≤ sizeLine) (hdf : d.params.defaults = []) (hr : Room k callerA)
    (F : ∀ (w : World) (mg : Str → Option Value) (fa : Addr) (h : Heap), YP w h → h.Ns mainGlobals mg → mg d.name = some (.ref fa) →
      ∃ (K : PySem.W.Frag) (ec : List Addr) (cf : List D → LH → QD → EX → Prop), K.In h ∧
        (∀ ns : List Int, ns.length ≤ n → cf [.frl (ns.map D.int)] (fun _ => none) (fun d _ => d = .bl true) fun _ _ => False) ∧
        ∀ base : Heap, K.In base → base.Ns mainGlobals mg → FnC l.prog w K mg base k fa (spG K ec cf)) :
    PySem.W.WalkO q loose XP YP l.row.toRowW d [] (fun f vs => PySem.call f vs) := by
  refine Att.attach_call hn hdf fun w s₀ s₁ mg mb fa o pm cd doc a vs ns G Y ho hd hcd hmg hobj hints hlen hg => ?_
  obtain ⟨K, ec, cf, KX, hsp, hF⟩ := F w mg fa _ Y G.T.g hmg
  refine law_callG KX G.T.g G.T.b G.T.builtins G.T.nolimit hg hobj hints (Nat.le_trans hlen hn2) hr hF fun H hO hS => ?_
  refine ⟨fun _ => none, H, fun _ => none, [.frl (ns.map D.int)], _, _, ⟨Same.refl H, fun b c e => absurd (show (none : Option Cell) = some c from e) (by simp), fun b c e => absurd (show (none : Option HO) = some c from e) (by simp)⟩, ?_, hsp ns hlen, fun F' h' H' d v s S r q => ?_, fun _ _ _ _ _ _ _ _ _ z => z.elim⟩
  · refine RepL.one ?_
    simp only [Rep]
    exact ⟨a, _, rfl, hS, rep_ints ns⟩
  · subst q
    exact r
end Lg

namespace Lg
open PySem PySem.Spec PyProof.Rows L2
theorem lookup_mem {α : Type} : ∀ {l : List (Str × α)} {y : Str} {u : α}, (l.map (·.1)).Nodup → (y, u) ∈ l → l.lookup y = some u
  | [], _, _, _, h => by cases h
  | (k, v) :: l, y, u, nd, h => by
    rw [List.map_cons, List.nodup_cons] at nd
    rw [List.lookup_cons]
    rcases List.mem_cons.mp h with e | h'
    · cases e
      simp
    · have hk : (y == k) = false := by
        rw [beq_eq_false_iff_ne]
        rintro rfl
        exact nd.1 (List.mem_map.mpr ⟨_, h', rfl⟩)
      rw [hk]
      exact lookup_mem nd.2 h'
/-- the context of a method that says super(): its cell is older -/
def cxOfX (CX : CXT) (P : Program) (w : World) (K : PySem.W.Frag) (mg : Str → Option Value) (base : Heap) (N : List Str) (qual : Str) (scope : Scope) (f : Addr) (cd : Value) (cc : Addr) (A : Around) (outer : List Env) (s : Shared) (H : Hp) (E : XK) : Cx where
  prog := P
  w := w
  K := K
  mg := mg
  base := base
  A := A.deeper (PySem.W.ksEnv qual scope s.heap.objs.size f cd cc)
  N := N
  s_0 := s
  H_0 := H
  env := PySem.W.ksEnv qual scope s.heap.objs.size f cd cc
  outer := outer
  stack := PySem.W.ksEnv qual scope s.heap.objs.size f cd cc :: outer
  ex := []
  calm := true
  fn := fun x => !(x == ("__class__" : Str))
  pn := []
  xe := fun e s' => wpAny (model P w) (A.deeper (PySem.W.ksEnv qual scope s.heap.objs.size f cd cc)) (leaving (PySem.W.ksEnv qual scope s.heap.objs.size f cd cc) e) (fun _ s'' => CX outer H s E e s'') (fun e' s'' => CX outer H s E e' s'') s'
theorem inv_startX {CX : CXT} {P : Program} {w : World} {K : PySem.W.Frag} {mg : Str → Option Value} {base : Heap} {ps : List Str} {qual : Str} {scope : Scope} {f cc : Addr} {cd : Value} {A : Around} {outer : List Env} {s : Shared} {h₀ : Heap} {H : Hp} {E : XK} {us : List Value} {vs : List V} {n : Nat} {oc : Obj} {ov : Option Value}
    (nd : ps.Nodup) (kind : scope.kind = .function) (par : ∀ x ∈ ps, scope.names.lookup x = some .local) (free : ∀ x, (scope.names.lookup x = some .cell ∨ scope.names.lookup x = some .free) → x = ("__class__" : Str)) (hcc : K.lookup cc = some oc) (hcd : oc.data = .cell ov)
    (hd : A.handled = none) (e0 : Env0 P w K mg base A outer s H) (hl : vs.length = ps.length) (r : Vals vs us) (hns : h₀.Ns s.heap.objs.size (fun x => (ps.zip us).reverse.lookup x)) (hk : ∀ b o, s.heap.get? b = some o → h₀.get? b = some o) :
    Inv (cxOfX CX P w K mg base ps qual scope f cd cc A outer s H E) [] (L2.start ps vs) H { s with heap := h₀, toks := s.toks + n } := by
  have hcell : ∀ {y c}, (PySem.W.ksEnv qual scope s.heap.objs.size f cd cc).cells.lookup y = some c → y = ("__class__" : Str) ∧ c = cc := fun {y c} e => by
    have e' : ([(("__class__" : Str), cc)] : List (Str × Addr)).lookup y = some c := e
    rw [List.lookup_cons] at e'
    split at e'
    · rename_i q
      cases e'
      exact ⟨eq_of_beq q, rfl⟩
    · cases e'
  have kbase : base.get? cc = some oc := e0.mod.kin cc oc hcc
  have ks : s.heap.get? cc = some oc ∧ H cc = none := e0.bs cc oc kbase
  have noA : ∀ b : Addr, b ∉ (cxOfX CX P w K mg base ps qual scope f cd cc A outer s H E).ex := fun b z => absurd (show b ∈ ([] : List Addr) from z) (by simp)
  refine ⟨⟨e0.mod, kind, rfl, rfl, Nat.le_refl _, fun y z c h1 h2 => ?_, fun y hy => ?_, fun y c hf h => ?_, fun _ => hd, Around.frames_deeper e0.frames, .inr ⟨rfl, rfl⟩, fun b z => absurd z (noA b), e0.bs, e0.bsz, fun b _ _ => noA b, fun b z => absurd z (noA b), e0.funs, e0.frf⟩,
    rfl, e0.bare, Un.kept hk, ⟨_, hns, fun i y v h1 h2 h3 => ?_⟩, fun y c h => ?_, e0.hok.fresh (Nat.le_refl _), fun y c h => ?_, fun p hp => absurd (show p ∈ ([] : List (Addr × Obj)) from hp) (by simp), e0.hok.kept hk, ?_⟩
  · exact (hcell h1).1.trans (hcell h2).1.symm
  · have e := free y hy
    subst e
    exact ⟨cc, by show ([(("__class__" : Str), cc)] : List (Str × Addr)).lookup _ = _; simp⟩
  · have e := (hcell h).1
    subst e
    have hf' : (!((("__class__" : Str)) == ("__class__" : Str))) = true := hf
    simp at hf'
  · have h1' : ps[i]? = some y := h1
    have hi : i < vs.length := by rw [hl]; exact (List.getElem?_eq_some_iff.mp h1').1
    have ha : vs[i]? = some v := by
      have h2' : (L2.start ps vs)[i]? = some (some v) := h2
      unfold L2.start at h2'
      rw [List.getElem?_append_left (by simpa using hi), List.getElem?_map] at h2'
      cases e : vs[i]? with
      | none => rw [e] at h2'; cases h2'
      | some a => rw [e] at h2'; cases h2'; rfl
    obtain ⟨u, hu, rv⟩ := r.get ha
    refine ⟨u, rv, .inl ⟨par y (List.mem_of_getElem? h1'), ?_⟩⟩
    show (ps.zip us).reverse.lookup y = some u
    have hz := r.length
    have hlz : ps.length = us.length := by omega
    refine lookup_mem ?_ ?_
    · rw [List.map_reverse, List.map_fst_zip (by omega)]
      exact List.pairwise_reverse.mpr (nd.imp fun h => Ne.symm h)
    · rw [List.mem_reverse]
      have : (ps.zip us)[i]? = some (y, u) := by rw [List.getElem?_zip_eq_some]; exact ⟨h1', hu⟩
      exact List.mem_of_getElem? this
  · obtain ⟨_, rfl⟩ := hcell h
    exact ⟨ov, oc, hk _ _ ks.1, hcd⟩
  · obtain ⟨_, rfl⟩ := hcell h
    exact ks.2
  · show (L2.start ps vs).length = ps.length
    unfold L2.start
    simp
    omega
/-- super().__init__(..) of an exception: nothing is told of it -/
theorem call_mw {X : Cx} {pins : List (Addr × Obj)} {σ : L2.St} {H : Hp} {s : Shared} {a C u : Addr} {us : List Value} {Q : Value → Shared → Prop} {A : Around} {E : Value → Shared → Prop} (T : OexC X.K C) (I : Inv X pins σ H s) (e : H a = some (exo a C none)) (hu : s.heap.get? u = some (PySem.W.kxs_mw "ValueError.__init__" a)) (hl : us.length ≤ sizeLine) (h : ∀ s', Inv X pins σ H s' → Q .none s') :
    wpAny (model X.prog X.w) A (call (.ref u) us) Q E s := by
  obtain ⟨nm, q, N, bs, bm, sn, sub, ab, col, dd, k0, k1, k2, k3, k5, hC, hbm⟩ := T.cls
  obtain ⟨t1, ho⟩ := exo_at I.hok e
  obtain ⟨hp, g, d, t, os⟩ := s
  have KX := I.kIn
  refine wpAny_call (codeAny_of_tree ?_)
  show wpAny _ A.in1 (callAny (.ref u) ⟨us, []⟩) _ _ _
  simp only [callAny]
  refine wpAny_bind (wpAny_load hu ?_)
  simp only [PySem.W.kxs_mw, show (Value.type "method-wrapper" == Value.type "method" || Value.type "method-wrapper" == Value.type "builtin_function_or_method" || Value.type "method-wrapper" == Value.type "method-wrapper") = true by decide, if_true]
  refine PySem.W.KFB.if_so (by decide) ?_
  refine wpAny_bind (PySem.W.check_bound_init F.excBase_ValueError.toExcCallFacts (KX _ _ hC) ho rfl ?_)
  refine wpAny_bind (wpAny_pure (wpAny_pure ?_))
  refine ⟨plainId_quiet F.excBase_ValueError.init.plain _, codeAny_builtin F.excBase_ValueError.initEntry ?_⟩
  refine PySem.W.exc_init_tree (cls := .ref C) (t0 := t1) (dv := none) (c2 := .none) (c3 := .none) (b4 := .bool false) ho hl fun h' k hx ht => ?_
  have J := I.write (t' := t) (x := a) (e := a) (o := exo a C none) (by rw [e]; exact True.intro) (.inl rfl) k ⟨_, hx⟩ (exo_ok hx)
  have eu : upd H a (exo a C none) = H := by
    funext b
    by_cases hb : b = a
    · rw [hb, upd_same, e]
    · rw [upd_ne hb]
  rw [eu] at J
  exact h _ J

/-- what the text of such an __init__ is: super().__init__(p..), then self.p = p .. -/
structure IniFact (P : Program) (K : PySem.W.Frag) (mg : Str → Option Value) (C D fI cc cda : Addr) : Prop where
  ox : OexC K C
  ca : ∃ ccl cdd vs ccs file tf, K.lookup cda = some ⟨ccl, cdd, .fields vs, ccs⟩ ∧ vs[2]? = some (.str file tf) ∧ ((P.main.file : Str) == file) = true
  top : (P.main.scope.names.lookup ("super" : Str)).isSome = false
  sup : mg "super" = none
  cel : ∃ cl cld csl, K.lookup cc = some ⟨cl, cld, .cell (some (.ref D)), csl⟩
  cD : ∃ cdD, PySem.W.clsIn K D = some cdD
  sub : PySem.W.mroIn K C (.ref D) = some true
  any : PySem.W.nsIn K cStatics "thirdparty.any" = some none
  ini : PySem.W.ks_superIn K C D "__init__" = some (some (.builtin "ValueError.__init__"))
  isV : PySem.W.subIn K (.ref C) (.type "ValueError") = some true
section
variable {P : Program} {w : World} {K : PySem.W.Frag} {mg : Str → Option Value} {base : Heap} {C D fI cc cda : Addr}
theorem boot_super : bootBuiltins "super" = some (.type "super") := by decide +kernel
/-- the first statement, in a context of the __init__ -/
theorem super_stmt {fl : List Str} {qual : Str} {scope : Scope} {A : Around} {outer : List Env} {s0 : Shared} {H0 : Hp} {E : XK} {body rest : List Stmt} {p0 p1 p2 p3 p4 : Pos} {e : Expr} {es : List Expr} {ta : TA} {t : TS}
    {name : Str} {params : Arguments} {fbody : List Stmt} {dV kV doc pm ct oc : Value} {an od : Option Addr} {osl : Array (Option Value)} {ar : Arg}
    (T : IniFact P K mg C D fI cc cda) (lk : K.lookup fI = some ⟨oc, od, .func (PySem.W.ksFn name qual params fbody scope dV kV doc pm an (.ref cda) ct cc), osl⟩) (hp : (params.posonlyargs ++ params.args).head? = some ar) (hself : ar.arg = "self")
    (hks : scope.names.lookup ("super" : Str) = some .globalImplicit) (hkc : scope.names.lookup ("__class__" : Str) = some .free) (hka : scope.names.lookup ("self" : Str) = some .local) (hk : scope.kind = .function)
    {pl : Env → Sem Bool} (hev : ∀ env : Env, eval (.Call (.Attribute (.Call (.Name "super" p0) [] [] p1) "__init__" p2) (e :: es) [] p3) env = (do
      let ov ← attributeBase (.Call (.Name "super" p0) [] [] p1) "__init__" env (eval (.Call (.Name "super" p0) [] [] p1) env)
      standAt p2.atName
      let (g, first) ← holding [ov] (getMethod ov "__init__" (pl env))
      callWith p3 g first (backTo p3 (starEach (e :: es) env)) []))
    (ha : PA (cxOfX (L2.CX P w) P w K mg base ("self" :: fl) qual scope fI (.ref cda) cc A outer s0 H0 E) (e :: es) ta) (hse : noStar e = true) (hses : noStars es = true)
    (hr : PSs (cxOfX (L2.CX P w) P w K mg base ("self" :: fl) qual scope fI (.ref cda) cc A outer s0 H0 E) rest t) {σ : L2.St} {H : Hp} {s : Shared} {De : Ends} {a : Addr}
    (I : Inv (cxOfX (L2.CX P w) P w K mg base ("self" :: fl) qual scope fI (.ref cda) cc A outer s0 H0 E) [] σ H s) (hσ : σ[0]? = some (some (.ref a))) (hH : H a = some (exo a C none))
    (h : ta σ H fun vs H1 => H1 = H ∧ vs.length ≤ 900 ∧ t De σ H) :
    _root_.PySem.wpAt (model P w) (A.deeper (PySem.W.ksEnv qual scope s0.heap.objs.size fI (.ref cda) cc)) (.func body (PySem.W.ksEnv qual scope s0.heap.objs.size fI (.ref cda) cc))
      (execs (.Expr (.Call (.Attribute (.Call (.Name "super" p0) [] [] p1) "__init__" p2) (e :: es) [] p3) p4 :: rest) (PySem.W.ksEnv qual scope s0.heap.objs.size fI (.ref cda) cc)) (SP (cxOfX (L2.CX P w) P w K mg base ("self" :: fl) qual scope fI (.ref cda) cc A outer s0 H0 E) [] De)
      (cxOfX (L2.CX P w) P w K mg base ("self" :: fl) qual scope fI (.ref cda) cc A outer s0 H0 E).xe s := by
  refine PySem.ks_wpAt_execs_cons (PySem.ks_wpAt_Expr_any (PySem.ks_wpAt_MethodCall (pl := pl _) ?_ (hev _)) (by simp [interactive, hk]) rfl)
  have KX := I.kIn
  obtain ⟨m, hn, hl⟩ := I.loc
  obtain ⟨u0, ru, hu0⟩ := hl 0 "self" (.ref a) rfl hσ (.inl hka)
  obtain rfl : u0 = Value.ref a := ru
  have hm : m "self" = some (.ref a) := by
    rcases hu0 with ⟨_, z⟩ | ⟨z, _⟩
    · exact z
    · have z' : scope.names.lookup ("self" : Str) = some .cell ∨ scope.names.lookup ("self" : Str) = some .free := z
      rw [hka] at z'
      rcases z' with z' | z' <;> cases z'
  obtain ⟨t1, ho⟩ := exo_at I.hok hH
  obtain ⟨ccl, cdd, vs, ccs, file, tf, hca, hvs, hfile⟩ := T.ca
  obtain ⟨cl, cld, csl, hcc⟩ := T.cel
  obtain ⟨cdD, hcD⟩ := T.cD
  obtain ⟨oD, hD1, hD2⟩ : ∃ oD, s.heap.get? D = some oD ∧ oD.data = .cls cdD := by
    unfold PySem.W.clsIn at hcD
    split at hcD
    · rename_i c d cd' sl ho'
      cases hcD
      exact ⟨_, KX _ _ ho', rfl⟩
    · cases hcD
  have hsC : PySem.W.Looks (model P w) s.heap (isSubtype (.ref C) (.ref D)) true := PySem.W.looks_mroIn KX T.sub
  obtain ⟨nm, q, N, bs, bm, sn, sub, ab, col, dd, k0, k1, k2, k3, k5, hC, hbm⟩ := T.ox.cls
  have hcl : PySem.W.clsIn K C = some { name := nm, bases := bs, mro := .ref C :: bm, ns := N, qualname := q, hasDict := true, slotNames := sn, subclasses := sub, abstract := ab, collection := col, hasDel := false } := by unfold PySem.W.clsIn; rw [hC] <;> rfl
  have hne : a ≠ C := fun z => by
    have e1 := KX _ _ hC
    rw [← z] at e1
    rw [ho] at e1
    have e2 := Option.some.inj e1
    have e3 := congrArg Obj.data e2
    cases e3
  obtain ⟨mb, hb1, hb2⟩ := I.mod.blt
  refine PySem.ks_wpAt_super_base (env := PySem.W.ksEnv qual scope s0.heap.objs.size fI (.ref cda) cc) hks hkc (by decide) rfl (KX _ _ lk) rfl hp rfl (KX _ _ hca) rfl hvs hfile T.top ?_
  refine PySem.W.ks_loadName_global hk hks (Calls.loadGlobal_builtin (env := PySem.W.ksEnv qual scope s0.heap.objs.size fI (.ref cda) cc) (I.mod.glob.keeps I.bk) T.sup (hb1.keeps I.bk) ((hb2 _ (by decide +kernel)).trans boot_super) ⟨rfl, ?_⟩)
  refine wpAny_loadName_free hk hkc (c := cc) (by show ([(("__class__" : Str), cc)] : List (Str × Addr)).lookup _ = _; simp) ⟨_, KX _ _ hcc, rfl⟩ ?_ (by decide)
  rw [hself]
  refine wpAny_loadName_local hk hka hn hm ?_
  refine PySem.ks_wpAny_isType_cls hD1 hD2 ⟨rfl, ?_⟩
  obtain ⟨hp0, g, d, tk, os⟩ := s
  refine PySem.ks_wpAny_call_super hD1 hD2 ho rfl (fun c z => by cases z) hsC fun h1 hso kp => ?_
  have I1 := I.kept (h' := h1) (t' := tk) kp
  have X1 : K.In h1 := I1.kIn
  have hI1 : PySem.W.Looks (model P w) h1 (isInstance (.ref a) (.type "ValueError")) true := by
    have I' : PySem.W.InstAt h1 a ({ cls := .ref C, dict := none, data := .fields #[.ref t1, .none, .none, .none, .bool false, .none] }) C none := ⟨kp _ _ ho, rfl, rfl, trivial⟩
    exact I'.type.andThen (PySem.W.looks_subIn X1 T.isV)
  have hini : PySem.W.alongIn K "__init__" (((Value.ref C :: bm).dropWhile (· != .ref D)).drop 1) = some (some (.builtin "ValueError.__init__")) := by
    have := T.ini
    unfold PySem.W.ks_superIn at this
    rw [hcl] at this
    exact this
  refine PySem.W.kxs_getMethod PySem.W.kxs_ValueError hso (PySem.W.looks_opaque X1 T.any) (l₀ := .ref C :: bm) ?_ rfl X1 hini hI1 hne (by decide) ?_
  · exact fun A Q E s k q => wpAny_bind ((PySem.W.looks_clsIn X1 hcl) A _ E s k (wpAny_pure q))
  have I2 := I1.kept (h' := h1.push (PySem.W.kxs_mw "ValueError.__init__" a)) (t' := tk + 1) fun b o e => Heap.get?_push_of_some _ e
  have hmw : (h1.push (PySem.W.kxs_mw "ValueError.__init__" a)).get? h1.objs.size = some (PySem.W.kxs_mw "ValueError.__init__" a) := Heap.get?_push_size _ rfl
  have nH : H h1.objs.size = none := I1.hok.fresh (Nat.le_refl _)
  have I3 : Inv (cxOfX (L2.CX P w) P w K mg base ("self" :: fl) qual scope fI (.ref cda) cc A outer s0 H0 E) [(h1.objs.size, PySem.W.kxs_mw "ValueError.__init__" a)] σ H ⟨h1.push (PySem.W.kxs_mw "ValueError.__init__" a), g, d, tk + 1, os⟩ := I2.pins_of fun p hp => by
    have e : p = (h1.objs.size, PySem.W.kxs_mw "ValueError.__init__" a) := by simpa using hp
    subst e
    exact ⟨hmw, nH, Nat.ne_of_gt I1.lt, I1.nofs (Nat.le_refl _), fun v z => by cases z⟩
  have hsp : wpAny (model P w) (A.deeper (PySem.W.ksEnv qual scope s0.heap.objs.size fI (.ref cda) cc)) (spliced (backTo p3 (starEach (e :: es) (PySem.W.ksEnv qual scope s0.heap.objs.size fI (.ref cda) cc))))
      (fun us s1 => PySem.W.KxsAt "ValueError.__init__" h1.objs.size a s1.heap ∧ wpAny (model P w) (A.deeper (PySem.W.ksEnv qual scope s0.heap.objs.size fI (.ref cda) cc)) (call (.ref h1.objs.size) us) (fun _ s2 => _root_.PySem.wpAt (model P w) (A.deeper (PySem.W.ksEnv qual scope s0.heap.objs.size fI (.ref cda) cc)) (.func body (PySem.W.ksEnv qual scope s0.heap.objs.size fI (.ref cda) cc)) (execs rest (PySem.W.ksEnv qual scope s0.heap.objs.size fI (.ref cda) cc)) (SP (cxOfX (L2.CX P w) P w K mg base ("self" :: fl) qual scope fI (.ref cda) cc A outer s0 H0 E) [] De) (cxOfX (L2.CX P w) P w K mg base ("self" :: fl) qual scope fI (.ref cda) cc A outer s0 H0 E).xe s2) (cxOfX (L2.CX P w) P w K mg base ("self" :: fl) qual scope fI (.ref cda) cc A outer s0 H0 E).xe s1)
      (cxOfX (L2.CX P w) P w K mg base ("self" :: fl) qual scope fI (.ref cda) cc A outer s0 H0 E).xe ⟨h1.push (PySem.W.kxs_mw "ValueError.__init__" a), g, d, tk + 1, os⟩ := by
    refine thn (ha.run p3 _ _ σ H _ I3 h) fun us s1 ⟨ws, H1, I4, r, eH, hl9, q⟩ => ?_
    subst eH
    have hu := (I4.pin (h1.objs.size, PySem.W.kxs_mw "ValueError.__init__" a) (List.mem_append_right _ List.mem_cons_self)).1
    refine ⟨hu, ?_⟩
    have hz : us.length ≤ sizeLine := by
      rw [← r.length, sizeLine_eq]
      omega
    refine call_mw (X := cxOfX (L2.CX P w) P w K mg base ("self" :: fl) qual scope fI (.ref cda) cc A outer s0 H0 E) T.ox I4 hH hu hz fun s' I5 => ?_
    exact _root_.PySem.wpAt_of_wpAny (hr.run [] s' σ H1 De (I5.pins_of fun p hp => by cases hp) q)
  rw [star_cons hse] at hsp ⊢
  refine PySem.W.kxs_callWith (i := "ValueError.__init__") (x := a) (by show (false || (backTo p3 (starEach es _)).any (·.1)) = false; rw [plain_args hses]; rfl) ?_
  exact Calls.evalArgs_plain hsp
end
end Lg

namespace Lg
open PySem PySem.Spec PyProof.Rows L2
structure IniScope (scope : Scope) (ps : List Str) : Prop where
  kind : scope.kind = .function
  co : scope.isCoroutine = false
  gen : scope.isGenerator = false
  ncell : ∀ x ∈ scope.names, x.2 ≠ .cell
  par : ∀ x ∈ ps, scope.names.lookup x = some .local
  free : ∀ x ∈ scope.names, x.2 = .free → x.1 = ("__class__" : Str)
  sup : scope.names.lookup ("super" : Str) = some .globalImplicit
  cls : scope.names.lookup ("__class__" : Str) = some .free
  nd : ps.Nodup
theorem IniScope.free' {scope : Scope} {ps : List Str} (S : IniScope scope ps) : ∀ x, (scope.names.lookup x = some .cell ∨ scope.names.lookup x = some .free) → x = ("__class__" : Str) := fun x h => by
  rcases h with h | h
  · exact absurd rfl (S.ncell _ (PySem.mem_of_lookup h))
  · exact S.free _ (PySem.mem_of_lookup h) rfl
section
variable {P : Program} {w : World} {K : PySem.W.Frag} {mg : Str → Option Value} {base : Heap} {C D fI cc cda : Addr}
/-- an __init__ that says super().__init__(..), then the rest -/
theorem ini_ok {fl : List Str} {name qual : Str} {params : Arguments} {scope : Scope} {dV kV doc pm ct oc : Value} {an od : Option Addr} {osl : Array (Option Value)} {ar : Arg} {rest : List Stmt} {p0 p1 p2 p3 p4 : Pos} {e : Expr} {es : List Expr} {ta : TA} {t : TS}
    (T : IniFact P K mg C D fI cc cda)
    (lk : K.lookup fI = some ⟨oc, od, .func (PySem.W.ksFn name qual params (.Expr (.Call (.Attribute (.Call (.Name "super" p0) [] [] p1) "__init__" p2) (e :: es) [] p3) p4 :: rest) scope dV kV doc pm an (.ref cda) ct cc), osl⟩)
    (hcode : PySem.W.codeIn K (.ref cda) qual = true) (hp : (params.posonlyargs ++ params.args).head? = some ar) (hself : ar.arg = "self") (S : IniScope scope ("self" :: fl))
    {pl : Env → Sem Bool} (hev : ∀ env : Env, eval (.Call (.Attribute (.Call (.Name "super" p0) [] [] p1) "__init__" p2) (e :: es) [] p3) env = (do
      let ov ← attributeBase (.Call (.Name "super" p0) [] [] p1) "__init__" env (eval (.Call (.Name "super" p0) [] [] p1) env)
      standAt p2.atName
      let (g, first) ← holding [ov] (getMethod ov "__init__" (pl env))
      callWith p3 g first (backTo p3 (starEach (e :: es) env)) [])) (hse : noStar e = true) (hses : noStars es = true)
    (ha : ∀ (A : Around) (outer : List Env) (s : Shared) (H : Hp) (E : XK), PA (cxOfX (L2.CX P w) P w K mg base ("self" :: fl) qual scope fI (.ref cda) cc A outer s H E) (e :: es) ta)
    (hr : ∀ (A : Around) (outer : List Env) (s : Shared) (H : Hp) (E : XK), PSs (cxOfX (L2.CX P w) P w K mg base ("self" :: fl) qual scope fI (.ref cda) cc A outer s H E) rest t)
    (hb : ∀ (a : Addr) (ws : List V) (H : Hp) (Q : VK), ws.length = fl.length → H a = some (exo a C none) → (∀ dx, H dx = none → dx ≠ a → Q .non (upd (upd H dx (exd dx (fl.zip ws).reverse)) a (exo a C (some dx)))) →
      ta (L2.start ("self" :: fl) (.ref a :: ws)) H fun vs H1 => H1 = H ∧ vs.length ≤ 900 ∧ t { nx := fun _ H' => Q .non H', rt := Q } (L2.start ("self" :: fl) (.ref a :: ws)) H) :
    FnOk P w K mg base (L2.CX P w) 1 fI (PySem.W.ksFn name qual params (.Expr (.Call (.Attribute (.Call (.Name "super" p0) [] [] p1) "__init__" p2) (e :: es) [] p3) p4 :: rest) scope dV kV doc pm an (.ref cda) ct cc) ("self" :: fl) (spInit C fl) := by
  refine ⟨fun vs H Q E ⟨a, ws, e1, e2, _⟩ => by subst e1; simp [e2], fun A outer s H args us vs Q E hr' e0 hbd r ⟨a, ws, ev, el, eH, hQ⟩ => ?_⟩
  subst ev
  have KX : K.In s.heap := e0.mod.kin.keeps fun b o e => (e0.bs b o e).1
  have lim : s.heap.NoLimit := e0.mod.nolimit.keeps fun b o e => (e0.bs b o e).1
  refine PySem.ks_codeAny_call_defAt hr'.depth (KX _ _ lk) rfl lim (PySem.W.codeRec_of KX hcode) rfl hbd S.ncell (fun x hx => S.par _ (List.of_mem_zip (show (x.1, x.2) ∈ (("self" : Str) :: fl).zip us from hx)).1) (fun h₀ hns hk => ?_) S.co S.gen S.kind
  obtain ⟨cl, cld, csl, hcc⟩ := T.cel
  have I := inv_startX (CX := L2.CX P w) (qual := qual) (f := fI) (cd := .ref cda) (E := E) (n := (((("self" : Str) :: fl) : List Str).zip us).length) S.nd S.kind S.par S.free' hcc rfl hr'.hd e0 (by simp [el]) r hns hk
  have key := super_stmt (body := .Expr (.Call (.Attribute (.Call (.Name "super" p0) [] [] p1) "__init__" p2) (e :: es) [] p3) p4 :: rest) (p4 := p4) T lk hp hself S.sup S.cls (S.par _ List.mem_cons_self) S.kind hev (ha A outer s H E) hse hses (hr A outer s H E) I rfl eH (hb a ws H Q el eH hQ)
  refine PySem.ks_wpAt_mono key (fun fl' s' hs => ?_) fun e s' hs => hs
  have fin : ∀ {σ' : L2.St} {H' : Hp} {v : V} {u : Value}, Inv (cxOfX (L2.CX P w) P w K mg base ("self" :: fl) qual scope fI (.ref cda) cc A outer s H E) [] σ' H' s' → RelV v u → Q v H' → CE outer P w H s Q u s' :=
    fun {σ' H' v u} J rv q => ⟨v, H', J.os, J.bare, J.base, J.hok, rv, q⟩
  cases fl' with
  | ret u =>
    obtain ⟨v, σ', H', J, rv, q⟩ := hs
    exact fin J rv q
  | next =>
    obtain ⟨σ', H', J, q⟩ := hs
    exact fin (v := V.non) (u := Value.none) J rfl q
  | brk =>
    obtain ⟨_, _, _, q⟩ := hs
    exact False.elim q
  | cont =>
    obtain ⟨_, _, _, q⟩ := hs
    exact False.elim q
/-- one field -/
theorem ini1 {f : Str} {name qual : Str} {params : Arguments} {scope : Scope} {dV kV doc pm ct oc : Value} {an od : Option Addr} {osl : Array (Option Value)} {ar : Arg} {p0 p1 p2 p3 p4 a1 b1 b2 b3 b4 : Pos}
    (T : IniFact P K mg C D fI cc cda)
    (lk : K.lookup fI = some ⟨oc, od, .func (PySem.W.ksFn name qual params [.Expr (.Call (.Attribute (.Call (.Name "super" p0) [] [] p1) "__init__" p2) [.Name f a1] [] p3) p4, .Assign [.Attribute (.Name "self" b1) f b2] (.Name f b3) b4] scope dV kV doc pm an (.ref cda) ct cc), osl⟩)
    (hcode : PySem.W.codeIn K (.ref cda) qual = true) (hp : (params.posonlyargs ++ params.args).head? = some ar) (hself : ar.arg = "self") (S : IniScope scope ["self", f])
    {pl : Env → Sem Bool} (hev : ∀ env : Env, eval (.Call (.Attribute (.Call (.Name "super" p0) [] [] p1) "__init__" p2) [.Name f a1] [] p3) env = (do
      let ov ← attributeBase (.Call (.Name "super" p0) [] [] p1) "__init__" env (eval (.Call (.Name "super" p0) [] [] p1) env)
      standAt p2.atName
      let (g, first) ← holding [ov] (getMethod ov "__init__" (pl env))
      callWith p3 g first (backTo p3 (starEach [.Name f a1] env)) []))
    (hd : (f == ("__debug__" : Str)) = false) (hcd : (f == ("__classdict__" : Str)) = false) (no : PySem.W.findIn K (.ref C) f = some none) :
    FnOk P w K mg base (L2.CX P w) 1 fI (PySem.W.ksFn name qual params [.Expr (.Call (.Attribute (.Call (.Name "super" p0) [] [] p1) "__init__" p2) [.Name f a1] [] p3) p4, .Assign [.Attribute (.Name "self" b1) f b2] (.Name f b3) b4] scope dV kV doc pm an (.ref cda) ct cc) ["self", f] (spInit C [f]) := by
  refine ini_ok (fl := [f]) (ta := tCons (tVar 1) tNil) (t := tOst K f (tVar 0) (tVar 1)) T lk hcode hp hself S hev rfl rfl (fun A outer s H E => pa_cons (pe_var (i := 1) rfl (.inl (S.par _ (by simp))) hd hcd) pa_nil) (fun A outer s H E => pss_one (ps_ost (pe_var (i := 0) rfl (.inl (S.par _ (by simp))) (by decide) (by decide)) (pe_var (i := 1) rfl (.inl (S.par _ (by simp))) hd hcd))) fun a ws H Q el eH hQ => ?_
  match ws, el with
  | [y], _ => exact ⟨y, rfl, rfl, by simp, y, rfl, .ref a, rfl, a, C, rfl, T.ox, no, .inl ⟨eH, fun dx h1 h2 => hQ dx h1 h2⟩⟩
/-- two fields -/
theorem ini2 {f f2 : Str} {name qual : Str} {params : Arguments} {scope : Scope} {dV kV doc pm ct oc : Value} {an od : Option Addr} {osl : Array (Option Value)} {ar : Arg} {p0 p1 p2 p3 p4 a1 a2 b1 b2 b3 b4 c1 c2 c3 c4 : Pos}
    (T : IniFact P K mg C D fI cc cda)
    (lk : K.lookup fI = some ⟨oc, od, .func (PySem.W.ksFn name qual params [.Expr (.Call (.Attribute (.Call (.Name "super" p0) [] [] p1) "__init__" p2) [.Name f a1, .Name f2 a2] [] p3) p4, .Assign [.Attribute (.Name "self" b1) f b2] (.Name f b3) b4, .Assign [.Attribute (.Name "self" c1) f2 c2] (.Name f2 c3) c4] scope dV kV doc pm an (.ref cda) ct cc), osl⟩)
    (hcode : PySem.W.codeIn K (.ref cda) qual = true) (hp : (params.posonlyargs ++ params.args).head? = some ar) (hself : ar.arg = "self") (S : IniScope scope ["self", f, f2])
    {pl : Env → Sem Bool} (hev : ∀ env : Env, eval (.Call (.Attribute (.Call (.Name "super" p0) [] [] p1) "__init__" p2) [.Name f a1, .Name f2 a2] [] p3) env = (do
      let ov ← attributeBase (.Call (.Name "super" p0) [] [] p1) "__init__" env (eval (.Call (.Name "super" p0) [] [] p1) env)
      standAt p2.atName
      let (g, first) ← holding [ov] (getMethod ov "__init__" (pl env))
      callWith p3 g first (backTo p3 (starEach [.Name f a1, .Name f2 a2] env)) []))
    (hd : (f == ("__debug__" : Str)) = false) (hcd : (f == ("__classdict__" : Str)) = false) (hd2 : (f2 == ("__debug__" : Str)) = false) (hcd2 : (f2 == ("__classdict__" : Str)) = false) (no : PySem.W.findIn K (.ref C) f = some none) (no2 : PySem.W.findIn K (.ref C) f2 = some none) :
    FnOk P w K mg base (L2.CX P w) 1 fI (PySem.W.ksFn name qual params [.Expr (.Call (.Attribute (.Call (.Name "super" p0) [] [] p1) "__init__" p2) [.Name f a1, .Name f2 a2] [] p3) p4, .Assign [.Attribute (.Name "self" b1) f b2] (.Name f b3) b4, .Assign [.Attribute (.Name "self" c1) f2 c2] (.Name f2 c3) c4] scope dV kV doc pm an (.ref cda) ct cc) ["self", f, f2] (spInit C [f, f2]) := by
  refine ini_ok (fl := [f, f2]) (ta := tCons (tVar 1) (tCons (tVar 2) tNil)) (t := tSeq (tOst K f (tVar 0) (tVar 1)) (tOst K f2 (tVar 0) (tVar 2))) T lk hcode hp hself S hev rfl rfl
    (fun A outer s H E => pa_cons (pe_var (i := 1) rfl (.inl (S.par _ (by simp))) hd hcd) (pa_cons (pe_var (i := 2) rfl (.inl (S.par _ (by simp))) hd2 hcd2) pa_nil))
    (fun A outer s H E => pss_cons (ps_ost (pe_var (i := 0) rfl (.inl (S.par _ (by simp))) (by decide) (by decide)) (pe_var (i := 1) rfl (.inl (S.par _ (by simp))) hd hcd)) (pss_one (ps_ost (pe_var (i := 0) rfl (.inl (S.par _ (by simp))) (by decide) (by decide)) (pe_var (i := 2) rfl (.inl (S.par _ (by simp))) hd2 hcd2)))) fun a ws H Q el eH hQ => ?_
  match ws, el with
  | [y, z], _ =>
    refine ⟨y, rfl, z, rfl, rfl, by simp, y, rfl, .ref a, rfl, a, C, rfl, T.ox, no, .inl ⟨eH, fun dx h1 h2 => ?_⟩⟩
    refine ⟨z, rfl, .ref a, rfl, a, C, rfl, T.ox, no2, .inr ⟨dx, [(f, y)], upd_same, by rw [upd_ne h2, upd_same], by simp, ?_⟩⟩
    have e : upd (upd (upd H dx (exd dx [(f, y)])) a (exo a C (some dx))) dx (exd dx [(f2, z), (f, y)]) = upd (upd H dx (exd dx [(f2, z), (f, y)])) a (exo a C (some dx)) := by
      funext b
      by_cases hb : b = dx
      · subst hb; rw [upd_same, upd_ne h2, upd_same]
      · rw [upd_ne hb]
        by_cases hb2 : b = a
        · subst hb2; rw [upd_same, upd_same]
        · rw [upd_ne hb2, upd_ne hb2, upd_ne hb, upd_ne hb]
    have := hQ dx h1 h2
    show Q .non _
    rw [e]
    exact this
end
end Lg

namespace Lg
open PySem PySem.Spec PyProof.Rows L2
open He (ga ma eqO eqO_ok ba fnW FnW DefD frG frG_in refsD)
/-! ### the program as data -/
/-- an exception class; ini: which __init__ makes it -/
structure XD where
  nm : Str
  ini : Option Nat
/-- an __init__ that says super().__init__(..) -/
structure ID where
  cls : Str
  fl : List Str
  qual : Str
  params : Arguments
  body : List Stmt
  scope : Scope
structure FD where
  d : DefD
  fn : Fn
  N : List Str
  ps : List Str
  st : Option Nat := none
def FD.nm (f : FD) : Str := match f.d.at_.2 with
  | none => f.d.name
  | some _ => ""
structure Pgm where
  file : Str
  fs : List FD
  gc : List (Str × D)
  ex : List XD
  ini : List ID
  sb : List (List Bool)
  cl : List CI := []
def Pgm.flOf (p : Pgm) (x : XD) : Option (List Str) := match x.ini with
  | some i => (p.ini[i]?).map (·.fl)
  | none => none
def Pgm.Γ (p : Pgm) : G where
  N := []
  sc := ⟨.function, [], false, false, []⟩
  all := true
  bsc := ⟨.function, [], false, false, []⟩
  calm := true
  body := true
  gc := p.gc.map (·.1)
  fs := p.fs.map FD.nm
  cl := p.cl
  st := p.fs.map (·.st)
  ex := p.ex.map (·.nm)
  fl := p.ex.map p.flOf
def Pgm.tb (p : Pgm) (i : Nat) : Option Fn := (p.fs[i]?).map (·.fn)
/-- where the classes, the defs stand -/
abbrev Ad := (Nat → Addr) × (Nat → Addr)
def Pgm.prmC (p : Pgm) (z : Ad) : Prm where
  ca := z.1
  fa := z.2
  cf := fun _ _ _ _ _ => False
  gc := fun i => (p.gc[i]?).map (·.2)
  fl := fun i => match p.ex[i]? with
    | some x => p.flOf x
    | none => none
  sb := fun i j => match p.sb[i]? with
    | some r => r[j]?.getD false
    | none => false
def Pgm.prm (p : Pgm) : Prm := p.prmC (fun _ => 0, fun _ => 0)
/-- where the classes, the defs stand -/
def Pgm.ca (p : Pgm) (K : PySem.W.Frag) (c : Nat) : Addr := match p.cl[c]? with
  | some ci => ga K ci.nm
  | none => 0
def Pgm.fa (p : Pgm) (K : PySem.W.Frag) (i : Nat) : Addr := match p.fs[i]? with
  | some f => He.fAd K f.d.at_
  | none => 0
def Pgm.ad (p : Pgm) (K : PySem.W.Frag) : Ad := (p.ca K, p.fa K)
def Pgm.ec (p : Pgm) (K : PySem.W.Frag) : List Addr := p.ex.map fun x => ga K x.nm
/-! ### what the written part must say, as a test -/
mutual
def dB (K : PySem.W.Frag) : D → Value → Bool
  | .non, u => match u with
    | .none => true
    | _ => false
  | .bl b, u => match u with
    | .bool c => b == c
    | _ => false
  | .int i, u => match u with
    | .int j _ => decide (i = j)
    | _ => false
  | .str x, u => match u with
    | .str y _ => decide (x = y)
    | _ => false
  | .tup ds, u => match u with
    | .ref a => (match K.lookup a with
      | some ⟨.type c, none, .seq its _, _⟩ => decide (c = "tuple") && (decide (its.size ≤ sizeLine) && dBL K ds its.toList)
      | _ => false)
    | _ => false
  | _, _ => false
def dBL (K : PySem.W.Frag) : List D → List Value → Bool
  | [], us => us.isEmpty
  | d :: ds, us => match us with
    | u :: us => dB K d u && dBL K ds us
    | [] => false
end
def gcB (K : PySem.W.Frag) (x : Str) (d : D) : Bool := match PySem.W.nsIn K mainGlobals x with
  | some (some u) => dB K d u
  | _ => false
def oexB (K : PySem.W.Frag) (C : Addr) : Bool := match K.lookup C with
  | some ⟨.type c, _, .cls cd, sl⟩ => (match cd.mro, sl.toList with
    | .ref C' :: bm, [_, _, _, _, some (.builtin n), _] => decide (c = "type") && (decide (C' = C) && (decide (n = "ValueError.__new__") && (!cd.hasDel && (cd.hasDict && PySem.HandSPX.refsVE bm))))
    | _, _ => false)
  | _ => false
/-- the cell's class and the code's file of an __init__ -/
def iniB (K : PySem.W.Frag) (file : Str) (D fI : Addr) (qual : Str) : Bool := match K.lookup fI with
  | some ⟨_, _, .func fd, _⟩ => PySem.W.codeIn K fd.code qual && ((match fd.defaults with
      | .none => true
      | _ => false) && ((match fd.closure with
      | [(z, cc)] => decide (z = ("__class__" : Str)) && (match K.lookup cc with
        | some ⟨_, _, .cell (some (.ref D')), _⟩ => decide (D' = D)
        | _ => false)
      | _ => false) && ((match fd.code with
      | .ref cda => (match K.lookup cda with
        | some ⟨_, _, .fields vs, _⟩ => (match (vs[2]? : Option Value) with
          | some (Value.str f _) => file == f
          | _ => false)
        | _ => false)
      | _ => false) && (PySem.W.clsIn K D).isSome)))
  | _ => false
def mkB (K : PySem.W.Frag) (C D fI : Addr) (fl : List Str) : Bool := oexB K C && (eqO (PySem.W.findIn K (.ref C) "__setattr__") (some (some (.builtin "object.__setattr__"))) && (decide (PySem.W.subIn K (.ref C) (.type "BaseException") = some true) &&
  (decide (PySem.W.typeIn K (.ref C) = some (.type "type")) && (PySem.W.keepIn K (.ref C) && (eqO (PySem.W.findIn K (.ref C) "__init__") (some (some (.ref fI))) && (decide (PySem.W.typeIn K (.ref fI) = some (.type "function")) && (decide (PySem.W.mroIn K C (.ref D) = some true) &&
  (eqO (PySem.W.ks_superIn K C D "__init__") (some (some (.builtin "ValueError.__init__"))) && (decide (PySem.W.subIn K (.ref C) (.type "ValueError") = some true) && fl.all fun f => eqO (PySem.W.findIn K (.ref C) f) (some none))))))))))
/-- a class: plain instances, its methods -/
def clB (p : Pgm) (K : PySem.W.Frag) (ci : CI) (C : Addr) : Bool := eqO (PySem.W.nsIn K mainGlobals ci.nm) (some (some (.ref C))) && (PySem.W.plainGet K C Str.empty && (PySem.W.hasDictIn K C && (PySem.W.plainOver K C && (eqO (PySem.W.findIn K (.ref C) "__setattr__") (some (some (.builtin "object.__setattr__"))) &&
  ((ci.fl.all fun f => eqO (PySem.W.findIn K (.ref C) f) (some none)) && ((ci.ms.all fun q => eqO (PySem.W.findIn K (.ref C) q.1) (some (some (.ref (p.fa K q.2)))) && (PySem.W.isFn K (.ref (p.fa K q.2)) && (PySem.W.keepIn K (.ref (p.fa K q.2)) && (eqO (PySem.W.specialIn K (.ref (p.fa K q.2)) "__get__") (some (some (.builtin "function.__get__"))) &&
    (decide (PySem.W.takesIn K (.ref (p.fa K q.2)) = some false) && (!PySem.W.copiedNames.contains q.1 && PySem.W.fnIn K (p.fa K q.2))))))) && (match ci.ini with
    | some i => PySem.W.makesIn K C && (eqO (PySem.W.findIn K (.ref C) "__init__") (some (some (.ref (p.fa K i)))) && (PySem.W.isFn K (.ref (p.fa K i)) && PySem.W.keepIn K (.ref C)))
    | none => true)))))))
def idA (K : PySem.W.Frag) (i : ID) : Addr := ma K (ga K i.cls) "__init__"
def Pgm.okB (p : Pgm) (K : PySem.W.Frag) : Bool :=
  (bltNames.all fun x => eqO (PySem.W.nsIn K mainGlobals x) (some none)) && (eqO (PySem.W.nsIn K mainGlobals "super") (some none) && (eqO (PySem.W.nsIn K cStatics "thirdparty.any") (some none) &&
  ((p.gc.all fun q => gcB K q.1 q.2) && ((p.fs.all fun f => (match f.d.at_.2 with
    | none => eqO (PySem.W.nsIn K mainGlobals f.d.name) (some (some (.ref (ga K f.d.name))))
    | some _ => true) && f.d.ok K) && ((p.cl.all fun ci => clB p K ci (ga K ci.nm)) && ((p.ini.all fun i => iniB K p.file (ga K i.cls) (idA K i) i.qual) &&
  ((p.ex.all fun x => eqO (PySem.W.nsIn K mainGlobals x.nm) (some (some (.ref (ga K x.nm)))) && (xfB K (ga K x.nm) && ((xNames.all fun f => eqO (PySem.W.findIn K (.ref (ga K x.nm)) f) (some none)) && (match x.ini with
    | some i => (match p.ini[i]? with
      | some d => mkB K (ga K x.nm) (ga K d.cls) (idA K d) d.fl
      | none => false)
    | none => true)))) &&
  (List.range p.ex.length).all fun i => (List.range p.ex.length).all fun j => (match p.ex[i]?, p.ex[j]? with
    | some x, some y => decide (PySem.W.exmOne K (.ref (ga K x.nm)) (.ref (ga K y.nm)) = some (p.prm.sb i j))
    | _, _ => false))))))))
/-- an __init__'s own words -/
abbrev IniW : Type := Option (Str × Str × Arguments × FuncBody × Scope × Addr × List Str × Addr)
def iniW (K : PySem.W.Frag) (f : Addr) : IniW := match K.lookup f with
  | some ⟨_, _, .func fd, _⟩ => some (fd.name, fd.qualname, fd.params, fd.body, fd.scope, fd.globals, fd.closure.map (·.1), fd.builtins)
  | _ => none
def ID.val (i : ID) : IniW := some ("__init__", i.qual, i.params, .stmts i.body, i.scope, mainGlobals, ["__class__"], builtinsNs)
abbrev Al : Type := Bool × List FnW × List IniW
def Pgm.obs (p : Pgm) (K : PySem.W.Frag) : Al := (p.okB K, p.fs.map fun f => fnW K f.d.at_, p.ini.map fun i => iniW K (idA K i))
def Pgm.val (p : Pgm) : Al := (true, p.fs.map fun f => f.d.val, p.ini.map ID.val)
def growX (g : Addr → Option Obj) (as : List Addr) : List Addr := (as ++ as.flatMap fun a => match g a with
  | some o => refsD o
  | none => []).eraseDups
def asX (g : Addr → Option Obj) : Nat → List Addr
  | 0 => [mainGlobals, cStatics]
  | n + 1 => growX g (asX g n)
def Pgm.obsG (p : Pgm) (n : Nat) (g : Addr → Option Obj) : Al := p.obs (frG g (asX g n))
def Pgm.hook (p : Pgm) (n : Nat) : PySem.W.Hook where
  α := Al
  obs := fun s => p.obsG n s.heap.get?
  val := fun _ => p.val
  says := fun _ h => ∃ K : PySem.W.Frag, K.In h ∧ p.obs K = p.val
  of := fun _ _ e => ⟨_, frG_in, e⟩
  keeps := fun _ _ _ ⟨K, hK, c⟩ k => ⟨K, PySem.W.Frag.In.keeps hK k, c⟩
def Pgm.ob (p : Pgm) (n : Nat) (s : PySem.W.SharedT) : Al := p.obsG n (HandSHeadRun.getT s)
theorem Pgm.ob_eq (p : Pgm) (n : Nat) (s : PySem.W.SharedT) : p.ob n s = (p.hook n).obs s.abs := by
  have e : HandSHeadRun.getT s = s.abs.heap.get? := funext (HandSHeadRun.getT_eq s)
  show p.obsG n (HandSHeadRun.getT s) = p.obsG n s.abs.heap.get?
  rw [e]
end Lg

namespace Lg
open PySem PySem.Spec PyProof.Rows L2
open He (ga ma eqO eqO_ok ba fnW FnW DefD frG frG_in refsD)
structure FDok (p : Pgm) (f : FD) : Prop where
  at_ : f.d.at_.2 = none → f.d.at_.1 = f.d.name
  dfl : f.d.dfl = []
  kwd : f.d.kwd = []
  sc : FnScope f.N f.ps f.d.scope
  ps : f.fn.ps = f.ps.length
  n : f.fn.n = f.N.length
  chk : chkSs { p.Γ with N := f.N, sc := f.d.scope, all := true, bsc := f.d.scope, calm := true, body := true } f.fn.body f.d.body = true
  bd : match f.st with
    | none => ∀ (kV doc pm : Value) (an : Option Addr) (cdv ct : Value) (us : List Value), us.length = f.ps.length → bindArgs (PySem.W.fnOf f.d.name f.d.qual f.d.params f.d.body f.d.scope .none kV doc pm an cdv ct) ⟨us, []⟩ = pure (f.ps.zip us)
    | some n => ∃ qs pv, f.ps = qs ++ [pv] ∧ qs.length = n ∧ ∀ (kV doc pm : Value) (an : Option Addr) (cdv ct : Value) (us rest : List Value), us.length = qs.length → bindArgs (PySem.W.fnOf f.d.name f.d.qual f.d.params f.d.body f.d.scope .none kV doc pm an cdv ct) ⟨us ++ rest, []⟩ = (newTuple rest >>= fun t => pure (qs.zip us ++ [(pv, t)]))
structure IDok (i : ID) : Prop where
  ok : ∀ {P : Program} {w : World} {K : PySem.W.Frag} {mg : Str → Option Value} {base : Heap} {C D fI cc cda : Addr} {dV kV doc pm ct oc : Value} {an od : Option Addr} {osl : Array (Option Value)}, IniFact P K mg C D fI cc cda →
    K.lookup fI = some ⟨oc, od, .func (PySem.W.ksFn "__init__" i.qual i.params i.body i.scope dV kV doc pm an (.ref cda) ct cc), osl⟩ → PySem.W.codeIn K (.ref cda) i.qual = true → (∀ f ∈ i.fl, PySem.W.findIn K (.ref C) f = some none) →
    FnOk P w K mg base (L2.CX P w) 1 fI (PySem.W.ksFn "__init__" i.qual i.params i.body i.scope dV kV doc pm an (.ref cda) ct cc) ("self" :: i.fl) (spInit C i.fl)
  nl : i.fl.length ≤ 900
  bd : ∀ (kV doc pm : Value) (an : Option Addr) (cdv ct : Value) (cc : Addr) (us : List Value), us.length = (("self" : Str) :: i.fl).length → bindArgs (PySem.W.ksFn "__init__" i.qual i.params i.body i.scope .none kV doc pm an cdv ct cc) ⟨us, []⟩ = pure ((("self" : Str) :: i.fl).zip us)
structure PgmOk (p : Pgm) (P : Program) : Prop where
  file : P.main.file = p.file
  top : (P.main.scope.names.lookup ("super" : Str)).isSome = false
  fs : ∀ f ∈ p.fs, FDok p f
  ini : ∀ i ∈ p.ini, IDok i
section
variable {K : PySem.W.Frag}
mutual
theorem dB_ok : ∀ (d : D) {u : Value}, dB K d u = true → ∃ v, RelV v u ∧ ∀ F, Rep K F d v
  | .non, u, h => by
    cases u <;> first | (exact ⟨.non, rfl, fun _ => rfl⟩) | (unfold dB at h; cases h)
  | .bl b, u, h => by
    cases u with
    | bool c =>
      unfold dB at h
      have e : b = c := eq_of_beq h
      exact ⟨.bl b, by rw [e]; rfl, fun _ => rfl⟩
    | _ => unfold dB at h; cases h
  | .int i, u, h => by
    cases u with
    | int j t =>
      unfold dB at h
      have e : i = j := of_decide_eq_true h
      exact ⟨.int i, ⟨t, by rw [e]⟩, fun _ => rfl⟩
    | _ => unfold dB at h; cases h
  | .str i, u, h => by
    cases u with
    | str j t =>
      unfold dB at h
      have e : i = j := of_decide_eq_true h
      exact ⟨.str i, ⟨t, by rw [e]⟩, fun _ => rfl⟩
    | _ => unfold dB at h; cases h
  | .tup ds, u, h => by
    cases u with
    | ref a =>
      unfold dB at h
      have h : (match K.lookup a with
        | some ⟨.type c, none, .seq its _, _⟩ => decide (c = "tuple") && (decide (its.size ≤ sizeLine) && dBL K ds its.toList)
        | _ => false) = true := h
      split at h
      · rename_i c its n sl hk
        simp only [Bool.and_eq_true, decide_eq_true_eq] at h
        obtain ⟨rfl, h2, h3⟩ := h
        obtain ⟨vs, rv, rr⟩ := dBL_ok ds h3
        refine ⟨.ref a, rfl, fun F => ?_⟩
        simp only [Rep]
        exact ⟨a, vs, rfl, ⟨.inr ⟨_, its, n, hk, rfl, rfl, h2, rv⟩, .inr ⟨_, hk, rfl, rfl⟩⟩, rr F⟩
      · cases h
    | _ => unfold dB at h; cases h
  | .lst _, u, h => by unfold dB at h; cases h
  | .frl _, u, h => by unfold dB at h; cases h
  | .dct _, u, h => by unfold dB at h; cases h
  | .ref _, u, h => by unfold dB at h; cases h
theorem dBL_ok : ∀ (ds : List D) {us : List Value}, dBL K ds us = true → ∃ vs, Vals vs us ∧ ∀ F, RepL K F ds vs
  | [], us, h => by
    unfold dBL at h
    have e := List.isEmpty_iff.mp h
    subst e
    exact ⟨[], .nil, fun F => by simp [RepL]⟩
  | d :: ds, us, h => by
    cases us with
    | nil => unfold dBL at h; cases h
    | cons u us =>
      unfold dBL at h
      simp only [Bool.and_eq_true] at h
      obtain ⟨v, r1, r2⟩ := dB_ok d h.1
      obtain ⟨vs, r3, r4⟩ := dBL_ok ds h.2
      refine ⟨v :: vs, .cons r1 r3, fun F => ?_⟩
      simp only [RepL]
      exact ⟨v, vs, rfl, r2 F, r4 F⟩
end
theorem oexB_ok {C : Addr} (h : oexB K C = true) (sa : PySem.W.findIn K (.ref C) "__setattr__" = some (some (.builtin "object.__setattr__"))) (e1 : PySem.W.subIn K (.ref C) (.type "BaseException") = some true) (e2 : PySem.W.typeIn K (.ref C) = some (.type "type")) (e3 : PySem.W.keepIn K (.ref C) = true) : OexC K C := by
  refine ⟨?_, sa, e1, e2, e3⟩
  unfold oexB at h
  split at h
  · rename_i c dd cd sl ho
    split at h
    · rename_i C' bm k0 k1 k2 k3 n k5 hm hs
      simp only [Bool.and_eq_true, decide_eq_true_eq, Bool.not_eq_true'] at h
      obtain ⟨rfl, rfl, rfl, hdel, hdct, hv⟩ := h
      obtain ⟨nm, bs, mro, ns, qn, hd, sn, sub, ab, col, del⟩ := cd
      dsimp only at hm hdel hdct
      subst hm hdel hdct
      have hsl : sl = #[k0, k1, k2, k3, some (.builtin "ValueError.__new__"), k5] := by
        obtain ⟨l⟩ := sl
        simp only at hs
        rw [hs]
      subst hsl
      exact ⟨nm, qn, ns, bs, bm, sn, sub, ab, col, dd, k0, k1, k2, k3, k5, ho, hv⟩
    · cases h
  · cases h
theorem all_at {α : Type} {l : List α} {f : α → Bool} (h : l.all f = true) {i : Nat} {x : α} (e : l[i]? = some x) : f x = true := List.all_eq_true.mp h x (List.mem_of_getElem? e)
theorem map_at {α β : Type} {l : List α} {f : α → β} {g : α → β} (h : l.map f = l.map g) {i : Nat} {x : α} (e : l[i]? = some x) : f x = g x := by
  have e2 : (l.map f)[i]? = (l.map g)[i]? := by rw [h]
  rw [List.getElem?_map, List.getElem?_map, e] at e2
  exact Option.some.inj e2
theorem facts_of {p : Pgm} {P : Program} {w : World} {h : Heap} {mg : Str → Option Value} {base : Heap} (ok : PgmOk p P) (X : K.In h) (G : h.Ns mainGlobals mg) (c : p.obs K = p.val) : Facts P w K mg base p.Γ (p.ec K) p.tb (p.prmC (p.ad K)) := by
  have c1 : p.okB K = true := congrArg (fun z : Al => z.1) c
  have c2 : p.fs.map (fun f => fnW K f.d.at_) = p.fs.map fun f => f.d.val := congrArg (fun z : Al => z.2.1) c
  have c3 : p.ini.map (fun i => iniW K (idA K i)) = p.ini.map ID.val := congrArg (fun z : Al => z.2.2) c
  unfold Pgm.okB at c1
  simp only [Bool.and_eq_true] at c1
  obtain ⟨b1, b2, b3, b4, b5, b9, b6, b7, b8⟩ := c1
  have exAt : ∀ {i : Nat} {x : XD}, p.ex[i]? = some x → PySem.W.nsIn K mainGlobals x.nm = some (some (.ref (ga K x.nm))) ∧ xfB K (ga K x.nm) = true ∧ (∀ f ∈ xNames, PySem.W.findIn K (.ref (ga K x.nm)) f = some none) ∧ (match x.ini with
    | some i => (match p.ini[i]? with
      | some d => mkB K (ga K x.nm) (ga K d.cls) (idA K d) d.fl
      | none => false)
    | none => true) = true := fun {i x} e => by
    have z := all_at b7 e
    simp only [Bool.and_eq_true] at z
    exact ⟨eqO_ok z.1, z.2.1, fun f hf => eqO_ok (List.all_eq_true.mp z.2.2.1 f hf), z.2.2.2⟩
  have ecAt : ∀ {i : Nat} {C : Addr}, (p.ec K)[i]? = some C → ∃ x, p.ex[i]? = some x ∧ C = ga K x.nm := fun {i C} e => by
    unfold Pgm.ec at e
    rw [List.getElem?_map] at e
    cases q : p.ex[i]? with
    | none => rw [q] at e; cases e
    | some x => rw [q] at e; cases e; exact ⟨x, rfl, rfl⟩
  have nmAt : ∀ {i : Nat} {x : Str}, p.Γ.ex[i]? = some x → ∃ xd, p.ex[i]? = some xd ∧ x = xd.nm := fun {i x} e => by
    have e : (p.ex.map (·.nm))[i]? = some x := e
    rw [List.getElem?_map] at e
    cases q : p.ex[i]? with
    | none => rw [q] at e; cases e
    | some x => rw [q] at e; cases e; exact ⟨x, rfl, rfl⟩
  refine ⟨fun x hx => ?_, fun i x d hi hd => ?_, fun i x hi => ?_, fun c ci hi => ?_, fun i x fl hi hf => ?_, fun j x hj => ?_, fun i C hi => ?_, fun i fl hi => ?_, rfl⟩
  · exact PySem.W.mg_none_of X G (eqO_ok (List.all_eq_true.mp b1 x hx))
  · have hi : (p.gc.map (·.1))[i]? = some x := hi
    have hd : (p.gc[i]?).map (·.2) = some d := hd
    rw [List.getElem?_map] at hi
    cases q : p.gc[i]? with
    | none => rw [q] at hi; cases hi
    | some y =>
      rw [q] at hi hd
      cases hi
      cases hd
      have z := all_at b4 q
      unfold gcB at z
      split at z
      · rename_i u hu
        obtain ⟨v, r1, r2⟩ := dB_ok _ z
        exact ⟨v, u, PySem.W.mg_of X G hu, r1, r2⟩
      · cases z
  · have hi : (p.fs.map FD.nm)[i]? = some x := hi
    rw [List.getElem?_map] at hi
    cases q : p.fs[i]? with
    | none => rw [q] at hi; cases hi
    | some f =>
      rw [q] at hi
      cases hi
      have Fk := ok.fs f (List.mem_of_getElem? q)
      have z := all_at b5 q
      simp only [Bool.and_eq_true] at z
      obtain ⟨fd, Fd⟩ := DefD.funD (map_at c2 q) z.2
      have hdv : f.d.dvs K = [] := by unfold DefD.dvs; rw [Fk.dfl]; rfl
      rw [hdv] at Fd
      have ea : (p.prmC (p.ad K)).fa i = He.fAd K f.d.at_ := by show p.fa K i = _; unfold Pgm.fa; rw [q]
      have est : stOf p.Γ i = f.st := by show ((p.fs.map (·.st))[i]?).getD none = _; rw [List.getElem?_map, q]; rfl
      rw [ea, est]
      obtain ⟨oc, od, dV, kV, doc, pm, an, cdv, ct, osl, efd, lk, hcd, hD, _⟩ := id Fd.ex
      refine ⟨f.fn, fd, f.ps, by unfold Pgm.tb; rw [q]; rfl, fun hx => ?_, Fd.kp, ?_, ?_⟩
      · have z1 := z.1
        unfold FD.nm at hx ⊢
        cases e2 : f.d.at_.2 with
        | some m => rw [e2] at hx; exact absurd rfl hx
        | none =>
          rw [e2] at z1
          have e1 := Fk.at_ e2
          have : He.fAd K f.d.at_ = ga K f.d.name := by unfold He.fAd; rw [e2, e1]
          rw [this]
          exact PySem.W.mg_of X G (eqO_ok z1)
      · have bd := Fk.bd
        unfold BindsV
        cases hs : f.st with
        | none => rw [hs] at bd; exact Fd.bindsN bd
        | some n =>
          rw [hs] at bd
          obtain ⟨qs, pv, e1, e2, hb⟩ := bd
          rcases hD with ⟨_, rfl⟩ | ⟨e, _⟩
          · refine ⟨qs, pv, e1, e2, fun us rest hu => ?_⟩
            rw [efd]
            exact hb _ _ _ _ _ _ us rest (hu.trans e2.symm)
          · exact absurd rfl e
      · subst efd
        exact ⟨_, _, _, _, _, _, _, _, _, _, _, _, _, _, _, f.N, rfl, lk, hcd, Fk.sc, Fk.ps, Fk.n, Fk.chk⟩
  · have hi : p.cl[c]? = some ci := hi
    have eC : (p.prmC (p.ad K)).ca c = ga K ci.nm := by show p.ca K c = _; unfold Pgm.ca; rw [hi]
    rw [eC]
    have z := all_at b9 hi
    unfold clB at z
    simp only [Bool.and_eq_true, decide_eq_true_eq, List.all_eq_true, Bool.not_eq_true'] at z
    obtain ⟨z1, z2, z3, z4, z5, z6, z7, z8⟩ := z
    have hg := PySem.W.mg_of X G (eqO_ok z1)
    refine ⟨⟨z2, z3, z4, eqO_ok z5⟩, fun f hf => eqO_ok (z6 f hf), fun m i hm => ?_, fun i hin => ?_⟩
    · obtain ⟨y1, y2, y3, y4, y5, y6, y7⟩ := z7 (m, i) hm
      exact ⟨⟨eqO_ok y1, y2, y3⟩, eqO_ok y4, y5, y6, y7⟩
    · rw [hin] at z8
      simp only [Bool.and_eq_true] at z8
      obtain ⟨y1, y2, y3, y4⟩ := z8
      exact ⟨⟨y1, eqO_ok y2, y3, y4⟩, hg⟩
  · obtain ⟨xd, q, rfl⟩ := nmAt hi
    obtain ⟨n1, n2, n3, n4⟩ := exAt q
    have hf : (match p.ex[i]? with
      | some x => p.flOf x
      | none => none) = some fl := hf
    rw [q] at hf
    have hf : p.flOf xd = some fl := hf
    unfold Pgm.flOf at hf
    cases qi : xd.ini with
    | none => rw [qi] at hf; cases hf
    | some k =>
      rw [qi] at hf n4
      cases qk : p.ini[k]? with
      | none =>
        have hf : (p.ini[k]?).map (·.fl) = some fl := hf
        rw [qk] at hf; cases hf
      | some d =>
        have hf : (p.ini[k]?).map (·.fl) = some fl := hf
        have n4 : (match p.ini[k]? with
          | some d => mkB K (ga K xd.nm) (ga K d.cls) (idA K d) d.fl
          | none => false) = true := n4
        rw [qk] at hf n4
        cases hf
        have n4 : mkB K (ga K xd.nm) (ga K d.cls) (idA K d) d.fl = true := n4
        unfold mkB at n4
        simp only [Bool.and_eq_true, decide_eq_true_eq] at n4
        obtain ⟨m1, m2, m3, m4, m5, m6, m7, m8, m9, m10, m11⟩ := n4
        have Ik := ok.ini d (List.mem_of_getElem? qk)
        have ox := oexB_ok m1 (eqO_ok m2) m3 m4 m5
        have zi := all_at b6 qk
        have wi := map_at c3 qk
        have nofl : ∀ f ∈ d.fl, PySem.W.findIn K (.ref (ga K xd.nm)) f = some none := fun f hf => eqO_ok (List.all_eq_true.mp m11 f hf)
        unfold iniB at zi
        unfold iniW at wi
        cases ql : K.lookup (idA K d) with
        | none => rw [ql] at zi; cases zi
        | some o =>
          obtain ⟨oc, od, dt, osl⟩ := o
          rw [ql] at zi wi
          cases dt with
          | func fd =>
            obtain ⟨y1, y2, y3, y4, y5, y6, y7, y8, y9, y10, y11, y12, y13, y14, y15⟩ := fd
            have wi : (some (y1, y2, y3, y4, y5, y6, y7.map (·.1), y15) : IniW) = (some (("__init__" : Str), d.qual, d.params, FuncBody.stmts d.body, d.scope, mainGlobals, [("__class__" : Str)], builtinsNs) : IniW) := wi
            simp only [Option.some.injEq, Prod.mk.injEq] at wi
            obtain ⟨w1, w2, w3, w4, w5, w6, w7, w8⟩ := wi
            subst w1 w2 w3 w4 w5 w6 w8
            simp only [Bool.and_eq_true] at zi
            obtain ⟨i1, i2, i3, i4, i5⟩ := zi
            cases y8 with
            | none =>
              match y7, w7, i3 with
              | [(zz, cc)], w7, i3 =>
                have w7 : zz = ("__class__" : Str) := by simpa using w7
                subst w7
                simp only [Bool.and_eq_true, decide_eq_true_eq] at i3
                obtain ⟨_, i3⟩ := i3
                split at i3
                · rename_i cl cld D' csl hcc
                  have eD : D' = ga K d.cls := of_decide_eq_true i3
                  subst eD
                  cases y13 with
                  | ref cda =>
                    have i4 : (match K.lookup cda with
                      | some ⟨_, _, .fields vs, _⟩ => (match (vs[2]? : Option Value) with
                        | some (Value.str f _) => p.file == f
                        | _ => false)
                      | _ => false) = true := i4
                    split at i4
                    · rename_i ccl cdd vs ccs hca
                      split at i4
                      · rename_i file tf hvs
                        have T : IniFact P K mg (ga K xd.nm) (ga K d.cls) (idA K d) cc cda := {
                          ox := ox
                          ca := ⟨ccl, cdd, vs, ccs, file, tf, hca, hvs, by rw [ok.file]; exact i4⟩
                          top := ok.top
                          sup := PySem.W.mg_none_of X G (eqO_ok b2)
                          cel := ⟨cl, cld, csl, hcc⟩
                          cD := Option.isSome_iff_exists.mp i5
                          sub := m8
                          any := eqO_ok b3
                          ini := eqO_ok m9
                          isV := m10 }
                        exact ⟨ga K xd.nm, idA K d, _, _, by unfold Pgm.ec; rw [List.getElem?_map, q]; rfl, ⟨Ik.nl, ox, eqO_ok m6, m7, .all (Ik.bd _ _ _ _ _ _ _), PySem.W.mg_of X G n1, Ik.ok T ql i1 nofl⟩⟩
                      · cases i4
                    · cases i4
                  | _ => cases i4
                · cases i3
            | _ => cases i2
          | _ => cases zi
  · obtain ⟨xd, q, rfl⟩ := nmAt hj
    obtain ⟨n1, n2, n3, n4⟩ := exAt q
    refine ⟨ga K xd.nm, by unfold Pgm.ec; rw [List.getElem?_map, q]; rfl, PySem.W.mg_of X G n1, fun i C' hi => ?_⟩
    obtain ⟨xi, qi, rfl⟩ := ecAt hi
    have li := getL_at qi
    have lj := getL_at q
    have z := List.all_eq_true.mp (List.all_eq_true.mp b8 i (List.mem_range.mpr li)) j (List.mem_range.mpr lj)
    rw [qi, q] at z
    exact of_decide_eq_true z
  · obtain ⟨xd, q, rfl⟩ := ecAt hi
    obtain ⟨n1, n2, n3, n4⟩ := exAt q
    exact ⟨xfB_ok n2, n3⟩
  · have hi : (p.ex.map p.flOf)[i]? = some (some fl) := hi
    rw [List.getElem?_map] at hi
    show (match p.ex[i]? with
      | some x => p.flOf x
      | none => none) = some fl
    cases q : p.ex[i]? with
    | none => rw [q] at hi; cases hi
    | some x =>
      rw [q] at hi
      exact Option.some.inj hi
end
/-- the law's promise from its words -/
theorem law_of {p : Pgm} {P : Program} {w : World} {K : PySem.W.Frag} {h : Heap} {mg : Str → Option Value} {fa : Addr} {n li : Nat} {f : FD} (ok : PgmOk p P) (X : K.In h) (G : h.Ns mainGlobals mg) (c : p.obs K = p.val) (hf : p.fs[li]? = some f) (hs : f.st = none) (ha : f.d.at_.2 = none) (hp : f.d.name ≠ ("" : Str)) (hfa : mg f.d.name = some (.ref fa)) :
    ∀ base : Heap, K.In base → base.Ns mainGlobals mg → FnC P w K mg base (2 * n + 2) fa (spG K (p.ec K) (CF (p.prmC (p.ad K)) p.tb n li)) := by
  intro base KX' G'
  have hn : f.nm = f.d.name := by unfold FD.nm; rw [ha]
  have hx : p.Γ.fs[li]? = some f.nm := by show (p.fs.map FD.nm)[li]? = _; rw [List.getElem?_map, hf]; rfl
  have T := facts_of (w := w) (base := base) ok KX' G' c
  obtain ⟨fn, fd, ps, ht, Fc⟩ := T.fs li _ hx
  have est : stOf p.Γ li = none := by show ((p.fs.map (·.st))[li]?).getD none = _; rw [List.getElem?_map, hf]; exact hs
  have e : fa = (p.prmC (p.ad K)).fa li := by
    have := Fc.gl (by rw [hn]; exact hp)
    rw [hn, hfa] at this
    cases this; rfl
  subst e
  have := fn_all T n li f.nm fn _ fd ps hx ht Fc
  rw [est] at this
  exact this
end Lg

/-! ### the pure side: tools -/
namespace Lg
open PySem PySem.Spec PyProof.Rows L2
theorem opt_some {α : Type} {a : α} {f : α → Prop} : opt (some a) f = f a := rfl
theorem opt_none {α : Type} {f : α → Prop} : opt none f = False := rfl
theorem slot_z (d : D) (r : Sl) : slot (some d :: r) 0 = some d := rfl
theorem slot_s (x : Option D) (r : Sl) (i : Nat) : slot (x :: r) (i + 1) = slot r i := rfl
theorem put_put {h : LH} {a : Addr} {c c' : Cell} : put (put h a c) a c' = put h a c' := by
  funext b; unfold put; by_cases e : b = a <;> simp [e]
theorem rid_put {h : LH} {a : Addr} {c : Cell} (n : h a = none) : rid (put h a c) a = h := by
  funext b; unfold rid put; by_cases e : b = a
  · subst e; simp [n]
  · simp [e]
theorem put_get {h : LH} {a : Addr} {c : Cell} (n : h a = some c) : put h a c = h := by
  funext b; unfold put; by_cases e : b = a
  · subst e; simp [n]
  · simp [e]
theorem eqInt {i j : Int} {h : LH} {Q : Bool → Prop} : eqW (.int i) (.int j) h Q = Q (decide (i = j)) := by
  have e : (i == j) = decide (i = j) := by by_cases z : i = j <;> simp [z]
  simp [eqW, pv_, D.py, PyData.depth, PyData.eqv, e]
theorem eqStr {i j : Str} {h : LH} {Q : Bool → Prop} : eqW (.str i) (.str j) h Q = Q (decide (i = j)) := by
  have e : (i == j) = decide (i = j) := by by_cases z : i = j <;> simp [z]
  simp [eqW, pv_, D.py, PyData.depth, PyData.eqv, e]
theorem done_of {Q : QD} {d : D} {h : LH} (q : Q d h) : done Q d h := ⟨d, h, Wk.rfl', q⟩
theorem done_sub {Q : QD} {d : D} {h h' : LH} (s : Sub h' h) (q : Q d h') : done Q d h := ⟨d, h', Wk.sub s, q⟩
theorem done_put {Q : QD} {d : D} {h : LH} {a : Addr} {c : Cell} (n : h a = none) (q : Q d h) : done Q d (put h a c) := done_sub (Sub.put n (Sub.refl h)) q
theorem done_frz {Q : QD} {a : Addr} {ds : List D} {h : LH} (n : h a = none) (q : Q (.lst ds) h) : done Q (.ref a) (put h a (.lst ds)) := ⟨_, _, Wk.frz put_same, by rw [rid_put n]; exact q⟩
theorem rngL_len (lo : Int) (n : Nat) : (rngL lo n).length = n := by simp [rngL]
theorem rngL_get {lo : Int} {n i : Nat} {d : D} (h : (rngL lo n)[i]? = some d) : i < n ∧ d = .int (lo + i) := by
  unfold rngL at h
  rw [List.getElem?_map] at h
  by_cases hi : i < n
  · rw [List.getElem?_range hi] at h; exact ⟨hi, by simpa using h.symm⟩
  · rw [List.getElem?_eq_none (by simpa using hi)] at h; simp at h
theorem cut_hi (xs : List D) (k : Nat) : cutD xs none (some (k : Int)) = xs.take k := by
  unfold cutD
  rw [HT.sIx_none, HT.sIx_nat, List.drop_zero, Nat.sub_zero, Nat.min_comm, List.take_eq_take_min, Nat.min_comm]; simp [Nat.min_comm]
theorem cut_lo (xs : List D) (k : Nat) : cutD xs (some (k : Int)) none = xs.drop k := by
  unfold cutD
  rw [HT.sIx_none, HT.sIx_nat]
  by_cases hk : k ≤ xs.length
  · rw [Nat.min_eq_left hk, List.take_of_length_le (by simp)]
  · rw [Nat.min_eq_right (by omega), List.drop_of_length_le (Nat.le_refl _), List.drop_of_length_le (by omega), List.take_nil]
set_option checkBinderAnnotations false
def CRt (a : List D) (k : Int) : Prop := -1000 ≤ k ∧ k ≤ 1000 ∧ a.length ≤ 1000
def CRep (n : Nat) (k : Int) : Prop := -(2 ^ 63) ≤ k ∧ k < 2 ^ 63 ∧ n * k.toNat ≤ sizeLine
abbrev KD := Option (D × D) → LH → Prop
class Box (α : Type) where
  v : α
def cLst : Option Cell → Option (List D)
  | some (.lst ds) => some ds
  | _ => none
def cIns : Option Cell → Option (Addr × List (Str × D))
  | some (.ins C fs) => some (C, fs)
  | _ => none
def insK (c : Option Cell) (a C : Addr) (k : Addr → List (Str × D) → Prop) : Prop := match c with
  | some (.ins C2 fs) => C2 = C ∧ k a fs
  | _ => False
def cLen : Option Cell → Option Nat
  | some (.lst ds) => some ds.length
  | some (.dct ds) => some ds.length
  | _ => none
def subC (c : Option Cell) (y : D) (h : LH) [Q0 : Box QD] : Prop := let Q := Q0.v; match c with
  | some (.dct kvs) => opt (keyOf y) fun k => opt (look kvs k) fun d => Q d h
  | some (.lst ds) => opt (intv y) fun i => opt (atI ds i) fun d => Q d h
  | _ => False
def inC (c : Option Cell) (s : Str) (h : LH) [Q0 : Box QD] : Prop := let Q := Q0.v; match c with
  | some (.dct kvs) => Q (.bl (look kvs (.inr s)).isSome) h
  | some (.lst ds) => inW (.str s) (.lst ds) h fun b => Q (.bl b) h
  | _ => False
def popC (c : Option Cell) (a : Addr) (i : Int) (h : LH) [Q0 : Box QD] : Prop := let Q := Q0.v; match c with
  | some (.lst ds) => (-(2 ^ 62) ≤ i ∧ i < 2 ^ 62) ∧ opt (ixN ds.length i) fun j => opt ds[j]? fun d => Q d (put h a (.lst (ds.eraseIdx j)))
  | _ => False
def appC (c : Option Cell) (a : Addr) (y : D) (h : LH) [Q0 : Box QD] : Prop := let Q := Q0.v; match c with
  | some (.lst ds) => ds.length < sizeLine ∧ Q .non (put h a (.lst (ds ++ [y])))
  | _ => False
def setC (c : Option Cell) (a : Addr) (i v : D) (h : LH) [Q0 : Box (LH → Prop)] : Prop := let Q := Q0.v; match c with
  | some (.lst ds) => opt (intv i) fun i => opt (ixN ds.length i) fun j => Q (put h a (.lst (ds.set j v)))
  | some (.dct kvs) => opt (keyOf i) fun k => kvs.length < sizeLine ∧ Q (put h a (.dct (putD kvs k v)))
  | _ => False
def wE  [P : Box (Prm)] [ed : Box (EXS)] (w : E) (ρ : Sl) (h : LH) [Q : Box (QD)] : Prop := WE P.v ed.v w ρ h Q.v
def wO  [P : Box (Prm)] [ed : Box (EXS)] (w : O) (ρ : Sl) (h : LH) [Q : Box (Option Int → LH → Prop)] : Prop := WO P.v ed.v w ρ h Q.v
def wT  [P : Box (Prm)] [ed : Box (EXS)] (w : T) (ρ : Sl) (h : LH) [Q : Box (QB)] : Prop := WT P.v ed.v w ρ h Q.v
def wAn  [P : Box (Prm)] [ed : Box (EXS)] (w : Es) (ρ : Sl) (h : LH) [Q : Box (QD)] : Prop := WAn P.v ed.v w ρ h Q.v
def wOr  [P : Box (Prm)] [ed : Box (EXS)] (w : Es) (ρ : Sl) (h : LH) [Q : Box (QD)] : Prop := WOr P.v ed.v w ρ h Q.v
def wTo  [P : Box (Prm)] [ed : Box (EXS)] (w : Ts) (ρ : Sl) (h : LH) [Q : Box (QB)] : Prop := WTo P.v ed.v w ρ h Q.v
def wEs  [P : Box (Prm)] [ed : Box (EXS)] (w : Es) (ρ : Sl) (h : LH) [Q : Box (QL)] : Prop := WEs P.v ed.v w ρ h Q.v
def wTs  [P : Box (Prm)] [ed : Box (EXS)] (w : Ts) (ρ : Sl) (h : LH) [Q : Box (QB)] : Prop := WTs P.v ed.v w ρ h Q.v
def wI  [P : Box (Prm)] [ed : Box (EXS)] (w : I) (ρ : Sl) (h : LH) [Q : Box (List D → (LH → Prop) → LH → Prop)] : Prop := WI P.v ed.v w ρ h Q.v
def wTg  [P : Box (Prm)] [ed : Box (EXS)] (w : Tg) (d : D) (ρ : Sl) (h : LH) [Q : Box (QS)] : Prop := WTg P.v ed.v w d ρ h Q.v
def wTgs  [P : Box (Prm)] [ed : Box (EXS)] (w : Tgs) (d : List D) (ρ : Sl) (h : LH) [Q : Box (QS)] : Prop := WTgs P.v ed.v w d ρ h Q.v
def wS  [P : Box (Prm)] [ed : Box (EXS)] (w : S) (ρ : Sl) (h : LH) [nx : Box (QS)] [rt : Box (QD)] [bk : Box (QS)] [ct : Box (QS)] : Prop := WS P.v ed.v w ⟨nx.v, rt.v, bk.v, ct.v⟩ ρ h
def wSs  [P : Box (Prm)] [ed : Box (EXS)] (w : Ss) (ρ : Sl) (h : LH) [nx : Box (QS)] [rt : Box (QD)] [bk : Box (QS)] [ct : Box (QS)] : Prop := WSs P.v ed.v w ⟨nx.v, rt.v, bk.v, ct.v⟩ ρ h
def wHs  [P : Box (Prm)] [ed : Box (EXS)] (w : Hs) (x : Exn) (ρ : Sl) (h : LH) [nx : Box (QS)] [rt : Box (QD)] [bk : Box (QS)] [ct : Box (QS)] : Prop := WHs P.v ed.v w ⟨nx.v, rt.v, bk.v, ct.v⟩ x ρ h
def Opt  {α : Type} (o : Option α) [f : Box (α → Prop)] : Prop := opt o f.v
def One  (o : List D) [f : Box (D → Prop)] : Prop := one o f.v
def Two  (o : List D) [f : Box (D → D → Prop)] : Prop := two o f.v
def Ints  (x y : D) [f : Box (Int → Int → Prop)] : Prop := ints2 x y f.v
def AsB  (x : D) [f : Box (Bool → Prop)] : Prop := asB x f.v
def wbin  (op : Operator) (x y : D) (h : LH) [Q : Box (QD)] : Prop := binW op x y h Q.v
def wcmp  (op : CmpOp) (x y : D) (h : LH) [Q : Box (QD)] : Prop := cmpW op x y h Q.v
def wbinC  (op : Operator) (x y : D) (h : LH) [Q : Box (QD)] : Prop := binCW op x y h Q.v
def waug  (op : Operator) (x y : D) (h : LH) [Q : Box (QD)] : Prop := augW op x y h Q.v
def wsub  (x y : D) (h : LH) [Q : Box (QD)] : Prop := subW x y h Q.v
def wslice  (x : D) (l u : Option Int) (h : LH) [Q : Box (QD)] : Prop := sliceW x l u h Q.v
def wrev  (x : D) (h : LH) [Q : Box (QD)] : Prop := revW x h Q.v
def wfdiv  (i j : Int) (h : LH) [Q : Box (QD)] : Prop := fdivW i j h Q.v
def wmod  (i j : Int) (h : LH) [Q : Box (QD)] : Prop := modW i j h Q.v
def wblt  (b : B) (vs : List D) (h : LH) [Q : Box (QD)] : Prop := bltW b vs h Q.v
def wbltC  (b : B) (vs : List D) (h : LH) [Q : Box (QD)] : Prop := bltCW b vs h Q.v
def wmeth  (m : M) (x : D) (vs : List D) (h : LH) [Q : Box (QD)] : Prop := methW m x vs h Q.v
def wset  (x i v : D) (h : LH) [Q : Box (LH → Prop)] : Prop := setW x i v h Q.v
def wmk  (c : Bool) (ds : List D) (h : LH) [Q : Box (QD)] : Prop := mk c ds h Q.v
def whot  (o : Option (Addr × Exn)) (d : D) (f : Str) [Q : Box (D → Prop)] : Prop := hotW o d f Q.v
def whotX  (o : Option (Addr × Exn)) (d : D) [f : Box (Exn → Prop)] : Prop := hotX o d f.v
def Call  [P : Box (Prm)] [tb : Box (Nat → Option Fn)] (n : Nat) (i : Nat) (ds : List D) (h : LH) [Q : Box (QD)] [e : Box (EX)] : Prop := CF P.v tb.v n i ds h Q.v e.v
def Done  (d : D) (h : LH) [Q : Box (QD)] : Prop := done Q.v d h
def br  (c : Bool) [A : Box (Prop)] [B : Box (Prop)] : Prop := if c = true then A.v else B.v
def AND  (A : Prop) [B : Box (Prop)] : Prop := A ∧ B.v
def New  (h : LH) [Q : Box (Addr → Prop)] : Prop := ∀ a, h a = none → Q.v a
def Loop  (ρ0 : Sl) (h0 : LH) (its : List D) [g : Box (LH → Prop)] [turn : Box (D → Sl → LH → QS → Prop)] [nx : Box (QS)] : Prop := ∃ J : Nat → Sl → LH → Prop, J 0 ρ0 h0 ∧ (∀ i d ρ h, its[i]? = some d → J i ρ h → g.v h ∧ turn.v d ρ h (J (i + 1))) ∧ ∀ ρ h, J its.length ρ h → g.v h ∧ nx.v ρ h
def RgX  (i j k : Int) [Q : Box (Nat → Prop)] : Prop := ∃ n, RgC i j k n ∧ Q.v n
def Whil  (ρ0 : Sl) (h0 : LH) [t : Box (Sl → LH → QB → Prop)] [turn : Box (Sl → LH → QS → Prop)] [nx : Box (QS)] : Prop := ∃ J : Nat → Sl → LH → Prop, (∃ m, J m ρ0 h0) ∧ ∀ m ρ h, J m ρ h → t.v ρ h fun c h1 => @br c (Box.mk (turn.v ρ h1 fun ρ h => ∃ m', m' < m ∧ J m' ρ h)) (Box.mk (nx.v ρ h1))
def DComp  (its : List D) [g : Box (LH → Prop)] (h : LH) [Q : Box (QD)] [turn : Box (D → LH → KD → Prop)] : Prop := dcW its g.v h Q.v turn.v
def Compr  (c : Bool) (its : List D) [g : Box (LH → Prop)] (h : LH) [Q : Box (QD)] [turn : Box (D → LH → (Option D → LH → Prop) → Prop)] : Prop := lcW c its g.v h Q.v turn.v
def BndW  (x : D) [k : Box (Addr → D → Prop)] : Prop := bndW x k.v
def CvX  (is : List Nat) (fa : Nat → Addr) (g : Addr) [k : Box (Nat → Prop)] : Prop := ∃ i, (i ∈ is ∧ fa i = g) ∧ k.v i
def InsC  (h : LH) (x : D) (C : Addr) [k : Box (Addr → List (Str × D) → Prop)] : Prop := insC h x C k.v
def InsK  (c : Option Cell) (a C : Addr) [k : Box (Addr → List (Str × D) → Prop)] : Prop := insK c a C k.v
def WkX  (d : D) (h : LH) [k : Box (D → LH → Prop)] : Prop := ∃ d2 h2, Wk d h d2 h2 ∧ k.v d2 h2
def PF (P : Prm) (tb : Nat → Option Fn) (n : Nat) : Prm := { P with cf := CF P tb n }
def Hot (P : Prm) (o : Option (Addr × Exn)) : Prm := { P with hot := o }
theorem eWE_1 {P : Prm} {ed : EXS} : ∀ i ρ h Q, @wE (Box.mk P) (Box.mk ed) (.v i) ρ h (Box.mk Q) = (@Opt _ (slot ρ i) (Box.mk (fun d => Q d h))) := fun _ _ _ _ => (Eq.refl _).trans rfl
theorem eWE_2 {P : Prm} {ed : EXS} : ∀ d u1 h Q, @wE (Box.mk P) (Box.mk ed) (.k d) u1 h (Box.mk Q) = (Q d h) := fun _ _ _ _ => (Eq.refl _).trans rfl
theorem eWE_3 {P : Prm} {ed : EXS} : ∀ i u1 h Q, @wE (Box.mk P) (Box.mk ed) (.g i) u1 h (Box.mk Q) = (@Opt _ (P.gc i) (Box.mk (fun d => Q d h))) := fun _ _ _ _ => (Eq.refl _).trans rfl
theorem eWE_4 {P : Prm} {ed : EXS} : ∀ op a b ρ h Q, @wE (Box.mk P) (Box.mk ed) (.bin op a b) ρ h (Box.mk Q) = (@wE (Box.mk P) (Box.mk ed) a ρ h (Box.mk (fun x h1 => @wE (Box.mk P) (Box.mk ed) b ρ h1 (Box.mk (fun y h2 => @wbin op x y h2 (Box.mk Q)))))) := fun _ _ _ _ _ _ => (Eq.refl _).trans rfl
theorem eWE_5 {P : Prm} {ed : EXS} : ∀ op a b ρ h Q, @wE (Box.mk P) (Box.mk ed) (.binC op a b) ρ h (Box.mk Q) = (@wE (Box.mk P) (Box.mk ed) a ρ h (Box.mk (fun x h1 => @wE (Box.mk P) (Box.mk ed) b ρ h1 (Box.mk (fun y h2 => @wbinC op x y h2 (Box.mk Q)))))) := fun _ _ _ _ _ _ => (Eq.refl _).trans rfl
theorem eWE_6 {P : Prm} {ed : EXS} : ∀ a ρ h Q, @wE (Box.mk P) (Box.mk ed) (.neg a) ρ h (Box.mk Q) = (@wE (Box.mk P) (Box.mk ed) a ρ h (Box.mk (fun x h1 => @Opt _ (intv x) (Box.mk (fun i => Q (.int (-i)) h1))))) := fun _ _ _ _ => (Eq.refl _).trans rfl
theorem eWE_7 {P : Prm} {ed : EXS} : ∀ op a b ρ h Q, @wE (Box.mk P) (Box.mk ed) (.cmp op a b) ρ h (Box.mk Q) = (@wE (Box.mk P) (Box.mk ed) a ρ h (Box.mk (fun x h1 => @wE (Box.mk P) (Box.mk ed) b ρ h1 (Box.mk (fun y h2 => @wcmp op x y h2 (Box.mk Q)))))) := fun _ _ _ _ _ _ => (Eq.refl _).trans rfl
theorem eWE_9 {P : Prm} {ed : EXS} : ∀ a ρ h Q, @wE (Box.mk P) (Box.mk ed) (.nt a) ρ h (Box.mk Q) = (@wE (Box.mk P) (Box.mk ed) a ρ h (Box.mk (fun x h1 => @Opt _ (truth h1 x) (Box.mk (fun t => Q (.bl (!t)) h1))))) := fun _ _ _ _ => (Eq.refl _).trans rfl
theorem eWE_10 {P : Prm} {ed : EXS} : ∀ xs ρ h Q, @wE (Box.mk P) (Box.mk ed) (.an xs) ρ h (Box.mk Q) = (@wAn (Box.mk P) (Box.mk ed) xs ρ h (Box.mk Q)) := fun _ _ _ _ => (Eq.refl _).trans rfl
theorem eWE_11 {P : Prm} {ed : EXS} : ∀ xs ρ h Q, @wE (Box.mk P) (Box.mk ed) (.or xs) ρ h (Box.mk Q) = (@wOr (Box.mk P) (Box.mk ed) xs ρ h (Box.mk Q)) := fun _ _ _ _ => (Eq.refl _).trans rfl
theorem eWE_13 {P : Prm} {ed : EXS} : ∀ xs ρ h Q, @wE (Box.mk P) (Box.mk ed) (.tup xs) ρ h (Box.mk Q) = (@wEs (Box.mk P) (Box.mk ed) xs ρ h (Box.mk (fun ds h1 => Q (.tup ds) h1))) := fun _ _ _ _ => (Eq.refl _).trans rfl
theorem eWE_14 {P : Prm} {ed : EXS} : ∀ xs ρ h Q, @wE (Box.mk P) (Box.mk ed) (.lst xs) ρ h (Box.mk Q) = (@wEs (Box.mk P) (Box.mk ed) xs ρ h (Box.mk (fun ds h1 => @wmk false ds h1 (Box.mk Q)))) := fun _ _ _ _ => (Eq.refl _).trans rfl
theorem eWE_15 {P : Prm} {ed : EXS} : ∀ xs ρ h Q, @wE (Box.mk P) (Box.mk ed) (.new xs) ρ h (Box.mk Q) = (@wEs (Box.mk P) (Box.mk ed) xs ρ h (Box.mk (fun ds h1 => @wmk true ds h1 (Box.mk Q)))) := fun _ _ _ _ => (Eq.refl _).trans rfl
theorem eWE_17 {P : Prm} {ed : EXS} : ∀ a b ρ h Q, @wE (Box.mk P) (Box.mk ed) (.sub a b) ρ h (Box.mk Q) = (@wE (Box.mk P) (Box.mk ed) a ρ h (Box.mk (fun x h1 => @wE (Box.mk P) (Box.mk ed) b ρ h1 (Box.mk (fun y h2 => @wsub x y h2 (Box.mk Q)))))) := fun _ _ _ _ _ => (Eq.refl _).trans rfl
theorem eWE_18 {P : Prm} {ed : EXS} : ∀ a lo hi ρ h Q, @wE (Box.mk P) (Box.mk ed) (.slc a lo hi) ρ h (Box.mk Q) = (@wE (Box.mk P) (Box.mk ed) a ρ h (Box.mk (fun x h1 => @wO (Box.mk P) (Box.mk ed) lo ρ h1 (Box.mk (fun l h2 => @wO (Box.mk P) (Box.mk ed) hi ρ h2 (Box.mk (fun u h3 => @wslice x l u h3 (Box.mk Q)))))))) := fun _ _ _ _ _ _ => (Eq.refl _).trans rfl
theorem eWE_19 {P : Prm} {ed : EXS} : ∀ a ρ h Q, @wE (Box.mk P) (Box.mk ed) (.rev a) ρ h (Box.mk Q) = (@wE (Box.mk P) (Box.mk ed) a ρ h (Box.mk (fun x h1 => @wrev x h1 (Box.mk Q)))) := fun _ _ _ _ => (Eq.refl _).trans rfl
theorem eWE_20 {P : Prm} {ed : EXS} : ∀ b xs ρ h Q, @wE (Box.mk P) (Box.mk ed) (.blt b xs) ρ h (Box.mk Q) = (@wEs (Box.mk P) (Box.mk ed) xs ρ h (Box.mk (fun ds h1 => @wblt b ds h1 (Box.mk Q)))) := fun _ _ _ _ _ => (Eq.refl _).trans rfl
theorem eWE_23 {P : Prm} {ed : EXS} : ∀ f xs ρ h Q, @wE (Box.mk P) (Box.mk ed) (.call f xs) ρ h (Box.mk Q) = (@wEs (Box.mk P) (Box.mk ed) xs ρ h (Box.mk (fun ds h1 => P.cf f ds h1 Q fun x h2 => ed x ρ h2))) := fun _ _ _ _ _ => (Eq.refl _).trans rfl
theorem eWE_24 {P : Prm} {ed : EXS} : ∀ m o xs ρ h Q, @wE (Box.mk P) (Box.mk ed) (.meth m o xs) ρ h (Box.mk Q) = (@wE (Box.mk P) (Box.mk ed) o ρ h (Box.mk (fun x h1 => @AND (methT m x h1) (Box.mk (@wEs (Box.mk P) (Box.mk ed) xs ρ h1 (Box.mk (fun ds h2 => @wmeth m x ds h2 (Box.mk Q)))))))) := fun _ _ _ _ _ _ => (Eq.refl _).trans rfl
theorem eWE_26 {P : Prm} {ed : EXS} : ∀ i f ρ h Q, @wE (Box.mk P) (Box.mk ed) (.xf i f) ρ h (Box.mk Q) = (@Opt _ (slot ρ i) (Box.mk (fun d => @whot P.hot d f (Box.mk (fun v => Q v h))))) := fun _ _ _ _ _ => (Eq.refl _).trans rfl
theorem eWE_27 {P : Prm} {ed : EXS} : ∀ i c ρ h Q, @wE (Box.mk P) (Box.mk ed) (.isx i c) ρ h (Box.mk Q) = (@Opt _ (slot ρ i) (Box.mk (fun d => @whotX P.hot d (Box.mk (fun x => P.sb x.cls c = true ∧ Q (.bl true) h))))) := fun _ _ _ _ _ => (Eq.refl _).trans rfl
theorem eWO_1 {P : Prm} {ed : EXS} : ∀ u1 h Q, @wO (Box.mk P) (Box.mk ed) .no u1 h (Box.mk Q) = (Q none h) := fun _ _ _ => (Eq.refl _).trans rfl
theorem eWO_2 {P : Prm} {ed : EXS} : ∀ e ρ h Q, @wO (Box.mk P) (Box.mk ed) (.ex e) ρ h (Box.mk Q) = (@wE (Box.mk P) (Box.mk ed) e ρ h (Box.mk (fun x h1 => @Opt _ (intv x) (Box.mk (fun i => Q (some i) h1))))) := fun _ _ _ _ => (Eq.refl _).trans rfl
theorem eWT_1 {P : Prm} {ed : EXS} : ∀ a ρ h Q, @wT (Box.mk P) (Box.mk ed) (.e a) ρ h (Box.mk Q) = (@wE (Box.mk P) (Box.mk ed) a ρ h (Box.mk (fun x h1 => @Opt _ (truth h1 x) (Box.mk (fun t => Q t h1))))) := fun _ _ _ _ => (Eq.refl _).trans rfl
theorem eWT_2 {P : Prm} {ed : EXS} : ∀ op a b ρ h Q, @wT (Box.mk P) (Box.mk ed) (.cmp op a b) ρ h (Box.mk Q) = (@wE (Box.mk P) (Box.mk ed) a ρ h (Box.mk (fun x h1 => @wE (Box.mk P) (Box.mk ed) b ρ h1 (Box.mk (fun y h2 => @wcmp op x y h2 (Box.mk (fun r h3 => @AsB r (Box.mk (fun t => Q t h3))))))))) := fun _ _ _ _ _ _ => (Eq.refl _).trans rfl
theorem eWT_4 {P : Prm} {ed : EXS} : ∀ a ρ h Q, @wT (Box.mk P) (Box.mk ed) (.nt a) ρ h (Box.mk Q) = (@wT (Box.mk P) (Box.mk ed) a ρ h (Box.mk (fun t h1 => Q (!t) h1))) := fun _ _ _ _ => (Eq.refl _).trans rfl
theorem eWT_5 {P : Prm} {ed : EXS} : ∀ xs ρ h Q, @wT (Box.mk P) (Box.mk ed) (.an xs) ρ h (Box.mk Q) = (@wTs (Box.mk P) (Box.mk ed) xs ρ h (Box.mk Q)) := fun _ _ _ _ => (Eq.refl _).trans rfl
theorem eWT_6 {P : Prm} {ed : EXS} : ∀ xs ρ h Q, @wT (Box.mk P) (Box.mk ed) (.or xs) ρ h (Box.mk Q) = (@wTo (Box.mk P) (Box.mk ed) xs ρ h (Box.mk Q)) := fun _ _ _ _ => (Eq.refl _).trans rfl
theorem eWAn_1 {P : Prm} {ed : EXS} : ∀ u1 u2 u3, @wAn (Box.mk P) (Box.mk ed) .nil u1 u2 (Box.mk u3) = (False) := fun _ _ _ => (Eq.refl _).trans rfl
theorem eWOr_1 {P : Prm} {ed : EXS} : ∀ u1 u2 u3, @wOr (Box.mk P) (Box.mk ed) .nil u1 u2 (Box.mk u3) = (False) := fun _ _ _ => (Eq.refl _).trans rfl
theorem eWTo_1 {P : Prm} {ed : EXS} : ∀ u1 h Q, @wTo (Box.mk P) (Box.mk ed) .nil u1 h (Box.mk Q) = (Q false h) := fun _ _ _ => (Eq.refl _).trans rfl
theorem eWEs_1 {P : Prm} {ed : EXS} : ∀ u1 h Q, @wEs (Box.mk P) (Box.mk ed) .nil u1 h (Box.mk Q) = (Q [] h) := fun _ _ _ => (Eq.refl _).trans rfl
theorem eWEs_2 {P : Prm} {ed : EXS} : ∀ x r ρ h Q, @wEs (Box.mk P) (Box.mk ed) (.cons x r) ρ h (Box.mk Q) = (@wE (Box.mk P) (Box.mk ed) x ρ h (Box.mk (fun d h1 => @wEs (Box.mk P) (Box.mk ed) r ρ h1 (Box.mk (fun ds h2 => Q (d :: ds) h2))))) := fun _ _ _ _ _ => (Eq.refl _).trans rfl
theorem eWTs_1 {P : Prm} {ed : EXS} : ∀ u1 h Q, @wTs (Box.mk P) (Box.mk ed) .nil u1 h (Box.mk Q) = (Q true h) := fun _ _ _ => (Eq.refl _).trans rfl
theorem eWTg_1 {P : Prm} {ed : EXS} : ∀ i d ρ h Q, @wTg (Box.mk P) (Box.mk ed) (.nm i) d ρ h (Box.mk Q) = (Q (ρ.set i (some d)) h) := fun _ _ _ _ _ => (Eq.refl _).trans rfl
theorem eWTg_3 {P : Prm} {ed : EXS} : ∀ o i d ρ h Q, @wTg (Box.mk P) (Box.mk ed) (.sb o i) d ρ h (Box.mk Q) = (@wE (Box.mk P) (Box.mk ed) o ρ h (Box.mk (fun x h1 => @wE (Box.mk P) (Box.mk ed) i ρ h1 (Box.mk (fun y h2 => @wset x y d h2 (Box.mk (fun h3 => Q ρ h3))))))) := fun _ _ _ _ _ _ => (Eq.refl _).trans rfl
theorem eWTgs_1 {P : Prm} {ed : EXS} : ∀ ds ρ h Q, @wTgs (Box.mk P) (Box.mk ed) .nil ds ρ h (Box.mk Q) = (ds = [] ∧ Q ρ h) := fun _ _ _ _ => (Eq.refl _).trans rfl
theorem eWI_1 {P : Prm} {ed : EXS} : ∀ e ρ h Q, @wI (Box.mk P) (Box.mk ed) (.sq e) ρ h (Box.mk Q) = (@wE (Box.mk P) (Box.mk ed) e ρ h (Box.mk (fun x h1 => @Opt _ (itv h1 x) (Box.mk (fun ds => Q ds (stay x ds) h1))))) := fun _ _ _ _ => (Eq.refl _).trans rfl
theorem eWI_5 {P : Prm} {ed : EXS} : ∀ e ρ h Q, @wI (Box.mk P) (Box.mk ed) (.en e) ρ h (Box.mk Q) = (@wE (Box.mk P) (Box.mk ed) e ρ h (Box.mk (fun x h1 => @Opt _ (seqv h1 x) (Box.mk (fun ds => Q (enumL ds) (stay x ds) h1))))) := fun _ _ _ _ => (Eq.refl _).trans rfl
theorem eWI_6 {P : Prm} {ed : EXS} : ∀ a b ρ h Q, @wI (Box.mk P) (Box.mk ed) (.zp a b) ρ h (Box.mk Q) = (@wE (Box.mk P) (Box.mk ed) a ρ h (Box.mk (fun x h1 => @wE (Box.mk P) (Box.mk ed) b ρ h1 (Box.mk (fun y h2 => @Opt _ (itv h2 x) (Box.mk (fun ds => @Opt _ (itv h2 y) (Box.mk (fun es => Q (zipL ds es) (fun h => stay x ds h ∧ stay y es h) h2))))))))) := fun _ _ _ _ _ => (Eq.refl _).trans rfl
theorem eWS_1 {P : Prm} {ed : EXS} : ∀ t e nx rt bk ct ρ h, @wS (Box.mk P) (Box.mk ed) (.set t e) ρ h (Box.mk nx) (Box.mk rt) (Box.mk bk) (Box.mk ct) = (@wE (Box.mk P) (Box.mk ed) e ρ h (Box.mk (fun d h1 => @wTg (Box.mk P) (Box.mk ed) t d ρ h1 (Box.mk nx)))) := fun _ _ _ _ _ _ _ _ => (Eq.refl _).trans rfl
theorem eWS_2 {P : Prm} {ed : EXS} : ∀ is xs nx rt bk ct ρ h, @wS (Box.mk P) (Box.mk ed) (.par is xs) ρ h (Box.mk nx) (Box.mk rt) (Box.mk bk) (Box.mk ct) = (@wEs (Box.mk P) (Box.mk ed) xs ρ h (Box.mk (fun ds h1 => nx (setAll ρ is ds) h1))) := fun _ _ _ _ _ _ _ _ => (Eq.refl _).trans rfl
theorem eWS_6 {P : Prm} {ed : EXS} : ∀ e nx rt bk ct ρ h, @wS (Box.mk P) (Box.mk ed) (.ret e) ρ h (Box.mk nx) (Box.mk rt) (Box.mk bk) (Box.mk ct) = (@wE (Box.mk P) (Box.mk ed) e ρ h (Box.mk rt)) := fun _ _ _ _ _ _ _ => (Eq.refl _).trans rfl
theorem eWS_7 {P : Prm} {ed : EXS} : ∀ nx rt bk ct u1 h, @wS (Box.mk P) (Box.mk ed) .retN u1 h (Box.mk nx) (Box.mk rt) (Box.mk bk) (Box.mk ct) = (rt .non h) := fun _ _ _ _ _ _ => (Eq.refl _).trans rfl
theorem eWS_8 {P : Prm} {ed : EXS} : ∀ e nx rt bk ct ρ h, @wS (Box.mk P) (Box.mk ed) (.ex e) ρ h (Box.mk nx) (Box.mk rt) (Box.mk bk) (Box.mk ct) = (@wE (Box.mk P) (Box.mk ed) e ρ h (Box.mk (fun _ h1 => nx ρ h1))) := fun _ _ _ _ _ _ _ => (Eq.refl _).trans rfl
theorem eWS_12 {P : Prm} {ed : EXS} : ∀ nx rt bk ct ρ h, @wS (Box.mk P) (Box.mk ed) .brk ρ h (Box.mk nx) (Box.mk rt) (Box.mk bk) (Box.mk ct) = (bk ρ h) := fun _ _ _ _ _ _ => (Eq.refl _).trans rfl
theorem eWS_13 {P : Prm} {ed : EXS} : ∀ nx rt bk ct ρ h, @wS (Box.mk P) (Box.mk ed) .cont ρ h (Box.mk nx) (Box.mk rt) (Box.mk bk) (Box.mk ct) = (ct ρ h) := fun _ _ _ _ _ _ => (Eq.refl _).trans rfl
theorem eWS_14 {P : Prm} {ed : EXS} : ∀ nx rt bk ct ρ h, @wS (Box.mk P) (Box.mk ed) .pass ρ h (Box.mk nx) (Box.mk rt) (Box.mk bk) (Box.mk ct) = (nx ρ h) := fun _ _ _ _ _ _ => (Eq.refl _).trans rfl
theorem eWSs_1 {P : Prm} {ed : EXS} : ∀ nx rt bk ct ρ h, @wSs (Box.mk P) (Box.mk ed) .nil ρ h (Box.mk nx) (Box.mk rt) (Box.mk bk) (Box.mk ct) = (nx ρ h) := fun _ _ _ _ _ _ => (Eq.refl _).trans rfl
theorem eWE_8 {P : Prm} {ed : EXS} : ∀ o1 o2 a b c ρ h Q, @wE (Box.mk P) (Box.mk ed) (.chn o1 o2 a b c) ρ h (Box.mk Q) = (@wE (Box.mk P) (Box.mk ed) a ρ h (Box.mk (fun x h1 => @wE (Box.mk P) (Box.mk ed) b ρ h1 (Box.mk (fun y h2 => @wcmp o1 x y h2 (Box.mk (fun r h3 => @AsB r (Box.mk (fun t => @br t (Box.mk (@wE (Box.mk P) (Box.mk ed) c ρ h3 (Box.mk (fun z h4 => @wcmp o2 y z h4 (Box.mk Q))))) (Box.mk (Q (.bl false) h3))))))))))) := fun _ _ _ _ _ _ _ _ => (Eq.refl _).trans rfl
theorem eWE_12 {P : Prm} {ed : EXS} : ∀ t a b ρ h Q, @wE (Box.mk P) (Box.mk ed) (.ife t a b) ρ h (Box.mk Q) = (@wT (Box.mk P) (Box.mk ed) t ρ h (Box.mk (fun c h1 => @br c (Box.mk (@wE (Box.mk P) (Box.mk ed) a ρ h1 (Box.mk Q))) (Box.mk (@wE (Box.mk P) (Box.mk ed) b ρ h1 (Box.mk Q)))))) := fun _ _ _ _ _ _ => (Eq.refl _).trans rfl
theorem eWE_16 {P : Prm} {ed : EXS} : ∀ ρ h Q, @wE (Box.mk P) (Box.mk ed) .newD ρ h (Box.mk Q) = (@New h (Box.mk (fun a => Q (.ref a) (put h a (.dct []))))) := fun _ _ _ => (Eq.refl _).trans rfl
theorem eWE_25 {P : Prm} {ed : EXS} : ∀ c own tg it ts x ρ h Q, @wE (Box.mk P) (Box.mk ed) (.lc c own tg it ts x) ρ h (Box.mk Q) = (@wI (Box.mk P) (Box.mk ed) it ρ h (Box.mk (fun its g h1 => @Compr c its (Box.mk g) h1 (Box.mk Q) (Box.mk (fun d h2 K => @wTg (Box.mk P) (Box.mk (fun _ _ _ => False)) tg d (wipeS ρ (own.map (·.2))) h2 (Box.mk (fun ρ2 h3 => @wTs (Box.mk P) (Box.mk (fun _ _ _ => False)) ts ρ2 h3 (Box.mk (fun b h4 => @br b (Box.mk (@wE (Box.mk P) (Box.mk (fun _ _ _ => False)) x ρ2 h4 (Box.mk (fun y h5 => K (some y) h5)))) (Box.mk (K none h4))))))))))) := fun _ _ _ _ _ _ _ _ _ => (Eq.refl _).trans rfl
theorem eWE_28 {P : Prm} {ed : EXS} : ∀ own tg it ts k v ρ h Q, @wE (Box.mk P) (Box.mk ed) (.dc own tg it ts k v) ρ h (Box.mk Q) = (@wI (Box.mk P) (Box.mk ed) it ρ h (Box.mk (fun its g h1 => @DComp its (Box.mk g) h1 (Box.mk Q) (Box.mk (fun d h2 K => @wTg (Box.mk P) (Box.mk (fun _ _ _ => False)) tg d (wipeS ρ (own.map (·.2))) h2 (Box.mk (fun ρ2 h3 => @wTs (Box.mk P) (Box.mk (fun _ _ _ => False)) ts ρ2 h3 (Box.mk (fun b h4 => @br b (Box.mk (@wE (Box.mk P) (Box.mk (fun _ _ _ => False)) k ρ2 h4 (Box.mk (fun y h5 => @wE (Box.mk P) (Box.mk (fun _ _ _ => False)) v ρ2 h5 (Box.mk (fun z h6 => K (some (y, z)) h6)))))) (Box.mk (K none h4))))))))))) := fun _ _ _ _ _ _ _ _ _ => (Eq.refl _).trans rfl
theorem eWE_29 {P : Prm} {ed : EXS} : ∀ c a ρ h Q, @wE (Box.mk P) (Box.mk ed) (.srv c a) ρ h (Box.mk Q) = (@wE (Box.mk P) (Box.mk ed) a ρ h (Box.mk (fun x h1 => @Opt _ (lstv h1 x) (Box.mk (fun ds => @Opt _ (pyL ds) (Box.mk (fun as => @AND (PySem.W.AllAlike as ∧ PySem.W.Sortable as ∧ PyData.depthAll as ≤ 60) (Box.mk (@wmk c (ds.mergeSort (PySem.W.dataLe true pyD)) h1 (Box.mk Q)))))))))) := fun _ _ _ _ _ => (Eq.refl _).trans rfl
theorem eWE_30 {P : Prm} {ed : EXS} : ∀ c o f ρ h Q, @wE (Box.mk P) (Box.mk ed) (.fld c o f) ρ h (Box.mk Q) = (@wE (Box.mk P) (Box.mk ed) o ρ h (Box.mk (fun x h1 => @Opt _ (insv h1 x) (Box.mk (fun y => @AND (y.1 = P.ca c) (Box.mk (@Opt _ (y.2.lookup f) (Box.mk (fun v => Q v h1))))))))) := fun _ _ _ _ _ _ => (Eq.refl _).trans rfl
theorem eWE_31 {P : Prm} {ed : EXS} : ∀ c m i o xs ρ h Q, @wE (Box.mk P) (Box.mk ed) (.mcl c m i o xs) ρ h (Box.mk Q) = (@wE (Box.mk P) (Box.mk ed) o ρ h (Box.mk (fun x h1 => @Opt _ (insv h1 x) (Box.mk (fun y => @AND (y.1 = P.ca c ∧ y.2.lookup m = none) (Box.mk (@wEs (Box.mk P) (Box.mk ed) xs ρ h1 (Box.mk (fun ds h2 => P.cf i (x :: ds) h2 Q fun e h3 => ed e ρ h3))))))))) := fun _ _ _ _ _ _ _ _ => (Eq.refl _).trans rfl
theorem eWE_32 {P : Prm} {ed : EXS} : ∀ c m i n o xs ρ h Q, @wE (Box.mk P) (Box.mk ed) (.mst c m i n o xs) ρ h (Box.mk Q) = (@wE (Box.mk P) (Box.mk ed) o ρ h (Box.mk (fun x h1 => @Opt _ (insv h1 x) (Box.mk (fun y => @AND (y.1 = P.ca c ∧ y.2.lookup m = none) (Box.mk (@wEs (Box.mk P) (Box.mk ed) xs ρ h1 (Box.mk (fun ds h2 => @AND (n ≤ ds.length ∧ ds.length < sizeLine) (Box.mk (P.cf i (x :: (ds.take n ++ [.tup (ds.drop n)])) h2 Q fun e h3 => ed e ρ h3))))))))))) := fun _ _ _ _ _ _ _ _ _ => (Eq.refl _).trans rfl
theorem eWE_33 {P : Prm} {ed : EXS} : ∀ c i xs ρ h Q, @wE (Box.mk P) (Box.mk ed) (.mk c i xs) ρ h (Box.mk Q) = (@wEs (Box.mk P) (Box.mk ed) xs ρ h (Box.mk (fun ds h1 => @New h1 (Box.mk (fun a => P.cf i (.ref a :: ds) (put h1 a (.ins (P.ca c) [])) (fun v h2 => v = .non ∧ Q (.ref a) h2) fun e h3 => ed e ρ h3))))) := fun _ _ _ _ _ _ => (Eq.refl _).trans rfl
theorem eWE_34 {P : Prm} {ed : EXS} : ∀ c m i o ρ h Q, @wE (Box.mk P) (Box.mk ed) (.bm c m i o) ρ h (Box.mk Q) = (@wE (Box.mk P) (Box.mk ed) o ρ h (Box.mk (fun x h1 => @Opt _ (insv h1 x) (Box.mk (fun y => @AND (y.1 = P.ca c ∧ y.2.lookup m = none) (Box.mk (Q (.bnd (P.fa i) x) h1))))))) := fun _ _ _ _ _ _ _ => (Eq.refl _).trans rfl
theorem eWE_35 {P : Prm} {ed : EXS} : ∀ is f xs ρ h Q, @wE (Box.mk P) (Box.mk ed) (.cv is f xs) ρ h (Box.mk Q) = (@wE (Box.mk P) (Box.mk ed) f ρ h (Box.mk (fun x h1 => @BndW x (Box.mk (fun g y => @CvX is P.fa g (Box.mk (fun i => @wEs (Box.mk P) (Box.mk ed) xs ρ h1 (Box.mk (fun ds h2 => P.cf i (y :: ds) h2 Q fun e h3 => ed e ρ h3))))))))) := fun _ _ _ _ _ _ => (Eq.refl _).trans rfl
theorem eWS_16 {P : Prm} {ed : EXS} : ∀ c o f e nx rt bk ct ρ h, @wS (Box.mk P) (Box.mk ed) (.setF c o f e) ρ h (Box.mk nx) (Box.mk rt) (Box.mk bk) (Box.mk ct) = (@wE (Box.mk P) (Box.mk ed) e ρ h (Box.mk (fun v h1 => @wE (Box.mk P) (Box.mk ed) o ρ h1 (Box.mk (fun x h2 => @InsC h2 x (P.ca c) (Box.mk (fun a fs => @AND (fs.length < 1000) (Box.mk (nx ρ (put h2 a (.ins (P.ca c) (putFD f v fs)))))))))))) := fun _ _ _ _ _ _ _ _ _ _ => (Eq.refl _).trans rfl
theorem eWSs_4 {P : Prm} {ed : EXS} : ∀ i r nx rt bk ct ρ h, @wSs (Box.mk P) (Box.mk ed) (.wk i r) ρ h (Box.mk nx) (Box.mk rt) (Box.mk bk) (Box.mk ct) = (@Opt _ (slot ρ i) (Box.mk (fun d => @WkX d h (Box.mk (fun d2 h2 => @wSs (Box.mk P) (Box.mk ed) r (ρ.set i (some d2)) h2 (Box.mk nx) (Box.mk rt) (Box.mk bk) (Box.mk ct)))))) := fun _ _ _ _ _ _ _ _ => (Eq.refl _).trans rfl
theorem eWE_22 {P : Prm} {ed : EXS} : ∀ a t ρ h Q, @wE (Box.mk P) (Box.mk ed) (.isa a t) ρ h (Box.mk Q) = (@wE (Box.mk P) (Box.mk ed) a ρ h (Box.mk (fun x h1 => @Opt _ (isaD h1 x t) (Box.mk (fun b => Q (.bl b) h1))))) := fun _ _ _ _ _ => (Eq.refl _).trans rfl
theorem eWE_21 {P : Prm} {ed : EXS} : ∀ b xs ρ h Q, @wE (Box.mk P) (Box.mk ed) (.bltC b xs) ρ h (Box.mk Q) = (@wEs (Box.mk P) (Box.mk ed) xs ρ h (Box.mk (fun ds h1 => @wbltC b ds h1 (Box.mk Q)))) := fun _ _ _ _ _ => (Eq.refl _).trans rfl
theorem eWT_3 {P : Prm} {ed : EXS} : ∀ o1 o2 a b c ρ h Q, @wT (Box.mk P) (Box.mk ed) (.chn o1 o2 a b c) ρ h (Box.mk Q) = (@wE (Box.mk P) (Box.mk ed) a ρ h (Box.mk (fun x h1 => @wE (Box.mk P) (Box.mk ed) b ρ h1 (Box.mk (fun y h2 => @wcmp o1 x y h2 (Box.mk (fun r h3 => @AsB r (Box.mk (fun t => @br t (Box.mk (@wE (Box.mk P) (Box.mk ed) c ρ h3 (Box.mk (fun z h4 => @wcmp o2 y z h4 (Box.mk (fun r h5 => @AsB r (Box.mk (fun t => Q t h5)))))))) (Box.mk (Q false h3))))))))))) := fun _ _ _ _ _ _ _ _ => (Eq.refl _).trans rfl
theorem eWT_7 {P : Prm} {ed : EXS} : ∀ t a b ρ h Q, @wT (Box.mk P) (Box.mk ed) (.ife t a b) ρ h (Box.mk Q) = (@wT (Box.mk P) (Box.mk ed) t ρ h (Box.mk (fun c h1 => @br c (Box.mk (@wT (Box.mk P) (Box.mk ed) a ρ h1 (Box.mk Q))) (Box.mk (@wT (Box.mk P) (Box.mk ed) b ρ h1 (Box.mk Q)))))) := fun _ _ _ _ _ _ => (Eq.refl _).trans rfl
theorem eWTo_2 {P : Prm} {ed : EXS} : ∀ x r ρ h Q, @wTo (Box.mk P) (Box.mk ed) (.cons x r) ρ h (Box.mk Q) = (@wT (Box.mk P) (Box.mk ed) x ρ h (Box.mk (fun t h1 => @br t (Box.mk (Q true h1)) (Box.mk (@wTo (Box.mk P) (Box.mk ed) r ρ h1 (Box.mk Q)))))) := fun _ _ _ _ _ => (Eq.refl _).trans rfl
theorem eWTs_2 {P : Prm} {ed : EXS} : ∀ x r ρ h Q, @wTs (Box.mk P) (Box.mk ed) (.cons x r) ρ h (Box.mk Q) = (@wT (Box.mk P) (Box.mk ed) x ρ h (Box.mk (fun t h1 => @br t (Box.mk (@wTs (Box.mk P) (Box.mk ed) r ρ h1 (Box.mk Q))) (Box.mk (Q false h1))))) := fun _ _ _ _ _ => (Eq.refl _).trans rfl
theorem eWTg_2 {P : Prm} {ed : EXS} : ∀ r d ρ h Q, @wTg (Box.mk P) (Box.mk ed) (.tp r) d ρ h (Box.mk Q) = (@Opt _ (tupv d) (Box.mk (fun ds => @AND (ds.length = r.len) (Box.mk (@wTgs (Box.mk P) (Box.mk ed) r ds ρ h (Box.mk Q)))))) := fun _ _ _ _ _ => (Eq.refl _).trans rfl
theorem eWTgs_2 {P : Prm} {ed : EXS} : ∀ x r d ds ρ h Q, @wTgs (Box.mk P) (Box.mk ed) (.cons x r) (d :: ds) ρ h (Box.mk Q) = (@wTg (Box.mk P) (Box.mk ed) x d ρ h (Box.mk (fun ρ1 h1 => @wTgs (Box.mk P) (Box.mk ed) r ds ρ1 h1 (Box.mk Q)))) := fun _ _ _ _ _ _ _ => (Eq.refl _).trans rfl
theorem eWI_2 {P : Prm} {ed : EXS} : ∀ a ρ h Q, @wI (Box.mk P) (Box.mk ed) (.r1 a) ρ h (Box.mk Q) = (@wE (Box.mk P) (Box.mk ed) a ρ h (Box.mk (fun x h1 => @Opt _ (intv x) (Box.mk (fun j => @AND (-(2 ^ 62) ≤ j ∧ j < 2 ^ 62) (Box.mk (Q (rngL 0 j.toNat) (fun _ => True) h1))))))) := fun _ _ _ _ => (Eq.refl _).trans rfl
theorem eWI_3 {P : Prm} {ed : EXS} : ∀ a b ρ h Q, @wI (Box.mk P) (Box.mk ed) (.r2 a b) ρ h (Box.mk Q) = (@wE (Box.mk P) (Box.mk ed) a ρ h (Box.mk (fun x h1 => @wE (Box.mk P) (Box.mk ed) b ρ h1 (Box.mk (fun y h2 => @Opt _ (intv x) (Box.mk (fun i => @Opt _ (intv y) (Box.mk (fun j => @AND (-(2 ^ 62) ≤ i ∧ i < 2 ^ 62 ∧ -(2 ^ 62) ≤ j ∧ j < 2 ^ 62) (Box.mk (Q (rngL i (j - i).toNat) (fun _ => True) h2))))))))))) := fun _ _ _ _ _ => (Eq.refl _).trans rfl
theorem eWI_4 {P : Prm} {ed : EXS} : ∀ a b c ρ h Q, @wI (Box.mk P) (Box.mk ed) (.r3 a b c) ρ h (Box.mk Q) = (@wE (Box.mk P) (Box.mk ed) a ρ h (Box.mk (fun x h1 => @wE (Box.mk P) (Box.mk ed) b ρ h1 (Box.mk (fun y h2 => @wE (Box.mk P) (Box.mk ed) c ρ h2 (Box.mk (fun z h3 => @Opt _ (intv x) (Box.mk (fun i => @Opt _ (intv y) (Box.mk (fun j => @Opt _ (intv z) (Box.mk (fun k => @RgX i j k (Box.mk (fun n => Q (rngC i k n) (fun _ => True) h3))))))))))))))) := fun _ _ _ _ _ _ => (Eq.refl _).trans rfl
theorem eWS_3 {P : Prm} {ed : EXS} : ∀ i op e nx rt bk ct ρ h, @wS (Box.mk P) (Box.mk ed) (.aug i op e) ρ h (Box.mk nx) (Box.mk rt) (Box.mk bk) (Box.mk ct) = (@Opt _ (slot ρ i) (Box.mk (fun x => @wE (Box.mk P) (Box.mk ed) e ρ h (Box.mk (fun y h1 => @waug op x y h1 (Box.mk (fun z h2 => nx (ρ.set i (some z)) h2))))))) := fun _ _ _ _ _ _ _ _ _ => (Eq.refl _).trans rfl
theorem eWS_5 {P : Prm} {ed : EXS} : ∀ t a b nx rt bk ct ρ h, @wS (Box.mk P) (Box.mk ed) (.ife t a b) ρ h (Box.mk nx) (Box.mk rt) (Box.mk bk) (Box.mk ct) = (@wT (Box.mk P) (Box.mk ed) t ρ h (Box.mk (fun c h1 => @br c (Box.mk (@wSs (Box.mk P) (Box.mk ed) a ρ h1 (Box.mk nx) (Box.mk rt) (Box.mk bk) (Box.mk ct))) (Box.mk (@wSs (Box.mk P) (Box.mk ed) b ρ h1 (Box.mk nx) (Box.mk rt) (Box.mk bk) (Box.mk ct)))))) := fun _ _ _ _ _ _ _ _ _ => (Eq.refl _).trans rfl
theorem eWS_9 {P : Prm} {ed : EXS} : ∀ c xs nx rt bk ct ρ h, @wS (Box.mk P) (Box.mk ed) (.raise c xs) ρ h (Box.mk nx) (Box.mk rt) (Box.mk bk) (Box.mk ct) = (@wEs (Box.mk P) (Box.mk ed) xs ρ h (Box.mk (fun ds h1 => @Opt _ (P.fl c) (Box.mk (fun fs => @AND (fs.length = ds.length) (Box.mk (ed ⟨c, (fs.zip ds).reverse⟩ ρ h1))))))) := fun _ _ _ _ _ _ _ _ => (Eq.refl _).trans rfl
theorem eWS_10 {P : Prm} {ed : EXS} : ∀ tg it dead b nx rt bk ct ρ h, @wS (Box.mk P) (Box.mk ed) (.for_ tg it dead b) ρ h (Box.mk nx) (Box.mk rt) (Box.mk bk) (Box.mk ct) = (@wI (Box.mk P) (Box.mk ed) it ρ h (Box.mk (fun its g h1 => @Loop (wipeS ρ dead) h1 its (Box.mk g) (Box.mk (fun d ρ h K => @wTg (Box.mk P) (Box.mk ed) tg d ρ h (Box.mk (fun ρ2 h2 => @wSs (Box.mk P) (Box.mk ed) b ρ2 h2 (Box.mk (fun ρ h => K (wipeS ρ dead) h)) (Box.mk rt) (Box.mk (fun ρ h => nx (wipeS ρ dead) h)) (Box.mk (fun ρ h => K (wipeS ρ dead) h)))))) (Box.mk nx)))) := fun _ _ _ _ _ _ _ _ _ _ => (Eq.refl _).trans rfl
theorem eWS_11 {P : Prm} {ed : EXS} : ∀ t dead b nx rt bk ct ρ h, @wS (Box.mk P) (Box.mk ed) (.whil t dead b) ρ h (Box.mk nx) (Box.mk rt) (Box.mk bk) (Box.mk ct) = (@Whil (wipeS ρ dead) h (Box.mk (fun ρ h Q => @wT (Box.mk P) (Box.mk ed) t ρ h (Box.mk Q))) (Box.mk (fun ρ h K => @wSs (Box.mk P) (Box.mk ed) b ρ h (Box.mk (fun ρ h => K (wipeS ρ dead) h)) (Box.mk rt) (Box.mk (fun ρ h => nx (wipeS ρ dead) h)) (Box.mk (fun ρ h => K (wipeS ρ dead) h)))) (Box.mk nx)) := fun _ _ _ _ _ _ _ _ _ => (Eq.refl _).trans rfl
theorem eWS_15 {P : Prm} {ed : EXS} : ∀ b hs nx rt bk ct ρ h, @wS (Box.mk P) (Box.mk ed) (.try_ b hs) ρ h (Box.mk nx) (Box.mk rt) (Box.mk bk) (Box.mk ct) = (@wSs (Box.mk P) (Box.mk (fun x ρ h => @wHs (Box.mk P) (Box.mk ed) hs x ρ h (Box.mk nx) (Box.mk rt) (Box.mk bk) (Box.mk ct))) b ρ h (Box.mk nx) (Box.mk rt) (Box.mk bk) (Box.mk ct)) := fun _ _ _ _ _ _ _ _ => (Eq.refl _).trans rfl
theorem eWSs_2 {P : Prm} {ed : EXS} : ∀ x r nx rt bk ct ρ h, @wSs (Box.mk P) (Box.mk ed) (.cons x r) ρ h (Box.mk nx) (Box.mk rt) (Box.mk bk) (Box.mk ct) = (@wS (Box.mk P) (Box.mk ed) x ρ h (Box.mk (fun ρ h => @wSs (Box.mk P) (Box.mk ed) r ρ h (Box.mk nx) (Box.mk rt) (Box.mk bk) (Box.mk ct))) (Box.mk rt) (Box.mk bk) (Box.mk ct)) := fun _ _ _ _ _ _ _ _ => (Eq.refl _).trans rfl
theorem eWSs_3 {P : Prm} {ed : EXS} : ∀ i r nx rt bk ct ρ h, @wSs (Box.mk P) (Box.mk ed) (.frz i r) ρ h (Box.mk nx) (Box.mk rt) (Box.mk bk) (Box.mk ct) = (@Opt _ (slot ρ i) (Box.mk (fun d => cellL h d fun a ds => @wSs (Box.mk P) (Box.mk ed) r (ρ.set i (some (.lst ds))) (rid h a) (Box.mk nx) (Box.mk rt) (Box.mk bk) (Box.mk ct)))) := fun _ _ _ _ _ _ _ _ => (Eq.refl _).trans rfl
theorem eWHs_1 {P : Prm} {ed : EXS} : ∀ x ρ h nx rt bk ct, @wHs (Box.mk P) (Box.mk ed) .nil x ρ h (Box.mk nx) (Box.mk rt) (Box.mk bk) (Box.mk ct) = (ed x ρ h) := fun _ _ _ _ _ _ _ => (Eq.refl _).trans rfl
theorem eWHs_2 {P : Prm} {ed : EXS} : ∀ c i b r x ρ h nx rt bk ct, @wHs (Box.mk P) (Box.mk ed) (.cons c (some i) b r) x ρ h (Box.mk nx) (Box.mk rt) (Box.mk bk) (Box.mk ct) = (@br (P.sb x.cls c) (Box.mk (@New h (Box.mk (fun a => @wSs (Box.mk (Hot P (some (a, x)))) (Box.mk (fun _ _ _ => False)) b (ρ.set i (some (.ref a))) h (Box.mk (fun ρ h => nx (ρ.set i none) h)) (Box.mk rt) (Box.mk (fun ρ h => bk (ρ.set i none) h)) (Box.mk (fun ρ h => ct (ρ.set i none) h)))))) (Box.mk (@wHs (Box.mk P) (Box.mk ed) r x ρ h (Box.mk nx) (Box.mk rt) (Box.mk bk) (Box.mk ct)))) := fun _ _ _ _ _ _ _ _ _ _ _ => (Eq.refl _).trans rfl
theorem eWHs_3 {P : Prm} {ed : EXS} : ∀ c b r x ρ h nx rt bk ct, @wHs (Box.mk P) (Box.mk ed) (.cons c none b r) x ρ h (Box.mk nx) (Box.mk rt) (Box.mk bk) (Box.mk ct) = (@br (P.sb x.cls c) (Box.mk (@wSs (Box.mk (Hot P none)) (Box.mk (fun _ _ _ => False)) b ρ h (Box.mk nx) (Box.mk rt) (Box.mk bk) (Box.mk ct))) (Box.mk (@wHs (Box.mk P) (Box.mk ed) r x ρ h (Box.mk nx) (Box.mk rt) (Box.mk bk) (Box.mk ct)))) := fun _ _ _ _ _ _ _ _ _ _ => (Eq.refl _).trans rfl
theorem eWAn_2 {P : Prm} {ed : EXS} : ∀ x ρ h Q, @wAn (Box.mk P) (Box.mk ed) (.cons x .nil) ρ h (Box.mk Q) = (@wE (Box.mk P) (Box.mk ed) x ρ h (Box.mk Q)) := fun _ _ _ _ => (Eq.refl _).trans rfl
theorem eWAn_3 {P : Prm} {ed : EXS} : ∀ x y r ρ h Q, @wAn (Box.mk P) (Box.mk ed) (.cons x (.cons y r)) ρ h (Box.mk Q) = (@wE (Box.mk P) (Box.mk ed) x ρ h (Box.mk (fun d h1 => @Opt _ (truth h1 d) (Box.mk (fun t => @br t (Box.mk (@wAn (Box.mk P) (Box.mk ed) (.cons y r) ρ h1 (Box.mk Q))) (Box.mk (Q d h1))))))) := fun _ _ _ _ _ _ => (Eq.refl _).trans rfl
theorem eWOr_2 {P : Prm} {ed : EXS} : ∀ x ρ h Q, @wOr (Box.mk P) (Box.mk ed) (.cons x .nil) ρ h (Box.mk Q) = (@wE (Box.mk P) (Box.mk ed) x ρ h (Box.mk Q)) := fun _ _ _ _ => (Eq.refl _).trans rfl
theorem eWOr_3 {P : Prm} {ed : EXS} : ∀ x y r ρ h Q, @wOr (Box.mk P) (Box.mk ed) (.cons x (.cons y r)) ρ h (Box.mk Q) = (@wE (Box.mk P) (Box.mk ed) x ρ h (Box.mk (fun d h1 => @Opt _ (truth h1 d) (Box.mk (fun t => @br t (Box.mk (Q d h1)) (Box.mk (@wOr (Box.mk P) (Box.mk ed) (.cons y r) ρ h1 (Box.mk Q)))))))) := fun _ _ _ _ _ _ => (Eq.refl _).trans rfl
section
variable {P : Prm} {tb : Nat → Option Fn} {n : Nat} {o : Option (Addr × Exn)}
theorem PF_cf {i : Nat} {ds : List D} {h : LH} {Q : QD} {e : EX} : (PF P tb n).cf i ds h Q e = @Call (Box.mk P) (Box.mk tb) n i ds h (Box.mk Q) (Box.mk e) := (Eq.refl _).trans rfl
theorem PF_gc  : (PF P tb n).gc = P.gc := (Eq.refl _).trans rfl
theorem PF_fl  : (PF P tb n).fl = P.fl := (Eq.refl _).trans rfl
theorem PF_sb  : (PF P tb n).sb = P.sb := (Eq.refl _).trans rfl
theorem PF_hot  : (PF P tb n).hot = P.hot := (Eq.refl _).trans rfl
theorem PF_ca  : (PF P tb n).ca = P.ca := (Eq.refl _).trans rfl
theorem PF_fa  : (PF P tb n).fa = P.fa := (Eq.refl _).trans rfl
theorem Hot_ca  : (Hot P o).ca = P.ca := (Eq.refl _).trans rfl
theorem Hot_fa  : (Hot P o).fa = P.fa := (Eq.refl _).trans rfl
theorem Hot_cf  : (Hot P o).cf = P.cf := (Eq.refl _).trans rfl
theorem Hot_gc  : (Hot P o).gc = P.gc := (Eq.refl _).trans rfl
theorem Hot_fl  : (Hot P o).fl = P.fl := (Eq.refl _).trans rfl
theorem Hot_sb  : (Hot P o).sb = P.sb := (Eq.refl _).trans rfl
theorem Hot_hot  : (Hot P o).hot = o := (Eq.refl _).trans rfl
end
theorem prmC_ca {p : Pgm} {z : Ad} : (p.prmC z).ca = z.1 := (Eq.refl _).trans rfl
theorem prmC_fa {p : Pgm} {z : Ad} : (p.prmC z).fa = z.2 := (Eq.refl _).trans rfl
theorem BndW_1 {g : Addr} {y : D} {k : Addr → D → Prop} : @BndW (.bnd g y) (Box.mk k) = k g y := (Eq.refl _).trans rfl
theorem InsC_r {h : LH} {a C : Addr} {k : Addr → List (Str × D) → Prop} : @InsC h (.ref a) C (Box.mk k) = @InsK (h a) a C (Box.mk k) := by
  show insC h (.ref a) C k = insK (h a) a C k
  unfold insK
  first
  | rfl
  | (simp only [insC]; done)
  | (simp only [insC]; cases h a with
     | none => rfl
     | some c => cases c <;> rfl)
theorem InsK_i {a C C2 : Addr} {fs : List (Str × D)} {k : Addr → List (Str × D) → Prop} : @InsK (some (.ins C2 fs)) a C (Box.mk k) = @AND (C2 = C) (Box.mk (k a fs)) := (Eq.refl _).trans rfl
theorem insv_i {h : LH} {C : Addr} {fs : List (Str × D)} : insv h (.ins C fs) = some (C, fs) := (Eq.refl _).trans rfl
theorem insv_r {h : LH} {a : Addr} : insv h (.ref a) = cIns (h a) := (Eq.refl _).trans rfl
theorem cIns_i {C : Addr} {fs : List (Str × D)} : cIns (some (.ins C fs)) = some (C, fs) := (Eq.refl _).trans rfl
theorem itv_str {h : LH} {z : Str} : itv h (.str z) = some (chars z) := (Eq.refl _).trans rfl
theorem br_t {A B : Prop} : @br true (Box.mk A) (Box.mk B) = A := (Eq.refl _).trans rfl
theorem br_f {A B : Prop} : @br false (Box.mk A) (Box.mk B) = B := (Eq.refl _).trans rfl
theorem AND_t {B : Prop} : @AND True (Box.mk B) = B := by unfold AND; simp
theorem Opt_s {α : Type} {a : α} {f : α → Prop} : @Opt _ (some a) (Box.mk f) = f a := (Eq.refl _).trans rfl
theorem Opt_n {α : Type} {f : α → Prop} : @Opt _ (none : Option α) (Box.mk f) = False := (Eq.refl _).trans rfl
theorem One_1 {a : D} {f : D → Prop} : @One [a] (Box.mk f) = f a := (Eq.refl _).trans rfl
theorem Two_1 {a b : D} {f : D → D → Prop} : @Two [a, b] (Box.mk f) = f a b := (Eq.refl _).trans rfl
theorem AsB_1 {b : Bool} {f : Bool → Prop} : @AsB (.bl b) (Box.mk f) = f b := (Eq.refl _).trans rfl
theorem mk_t {ds : List D} {h : LH} {Q : QD} : @wmk true ds h (Box.mk Q) = @New h (Box.mk (fun a => Q (.ref a) (put h a (.lst ds)))) := (Eq.refl _).trans rfl
theorem mk_f {ds : List D} {h : LH} {Q : QD} : @wmk false ds h (Box.mk Q) = Q (.lst ds) h := (Eq.refl _).trans rfl
theorem add_i {i j : Int} {h : LH} {Q : QD} : @wbin .Add (.int i) (.int j) h (Box.mk Q) = Q (.int (i + j)) h := (Eq.refl _).trans rfl
theorem add_s {a b : Str} {h : LH} {Q : QD} : @wbin .Add (.str a) (.str b) h (Box.mk Q) = @AND (a.length + b.length ≤ sizeLine) (Box.mk (Q (.str (a ++ b)) h)) := (Eq.refl _).trans rfl
theorem add_t {a b : List D} {h : LH} {Q : QD} : @wbin .Add (.tup a) (.tup b) h (Box.mk Q) = @AND (a.length + b.length ≤ sizeLine) (Box.mk (Q (.tup (a ++ b)) h)) := (Eq.refl _).trans rfl
theorem add_l {a b : List D} {h : LH} {Q : QD} : @wbin .Add (.lst a) (.lst b) h (Box.mk Q) = @AND (a.length + b.length ≤ sizeLine) (Box.mk (Q (.lst (a ++ b)) h)) := (Eq.refl _).trans rfl
theorem sub_i {i j : Int} {h : LH} {Q : QD} : @wbin .Sub (.int i) (.int j) h (Box.mk Q) = Q (.int (i - j)) h := (Eq.refl _).trans rfl
theorem mul_i {i j : Int} {h : LH} {Q : QD} : @wbin .Mult (.int i) (.int j) h (Box.mk Q) = @AND (CMul i j) (Box.mk (Q (.int (i * j)) h)) := (Eq.refl _).trans rfl
theorem mul_l {a : List D} {k : Int} {h : LH} {Q : QD} : @wbin .Mult (.lst a) (.int k) h (Box.mk Q) = @AND (CRep a.length k) (Box.mk (Q (.lst (List.replicate k.toNat a).flatten) h)) := (Eq.refl _).trans rfl
theorem set_all2 {i j : Nat} {a b : D} {ρ : Sl} : setAll ρ [i, j] [a, b] = (ρ.set i (some a)).set j (some b) := (Eq.refl _).trans rfl
theorem mul_t {a : List D} {k : Int} {h : LH} {Q : QD} : @wbin .Mult (.tup a) (.int k) h (Box.mk Q) = @AND (CRt a k) (Box.mk (Q (.tup (List.replicate k.toNat a).flatten) h)) := (Eq.refl _).trans rfl
theorem mulC_l {a : List D} {k : Int} {h : LH} {Q : QD} : @wbinC .Mult (.lst a) (.int k) h (Box.mk Q) = @AND (CRep a.length k) (Box.mk (@wmk true (List.replicate k.toNat a).flatten h (Box.mk Q))) := (Eq.refl _).trans rfl
theorem fdiv_i {i j : Int} {h : LH} {Q : QD} : @wbin .FloorDiv (.int i) (.int j) h (Box.mk Q) = @br (decide (0 < j)) (Box.mk (@AND (j < 1073741824) (Box.mk (Q (.int (i / j)) h)))) (Box.mk (@AND (CDivN i j) (Box.mk (Q (.int (i.fdiv j)) h)))) := by
  show (if 0 < j then _ else _) = (if decide (0 < j) = true then _ else _)
  by_cases z : 0 < j <;> simp [z]; rfl; rfl
theorem mod_i {i j : Int} {h : LH} {Q : QD} : @wbin .Mod (.int i) (.int j) h (Box.mk Q) = @br (decide (0 < j)) (Box.mk (Q (.int (i % j)) h)) (Box.mk (@AND (j ≠ 0) (Box.mk (Q (.int (i.fmod j)) h)))) := by
  show (if 0 < j then _ else _) = (if decide (0 < j) = true then _ else _)
  by_cases z : 0 < j <;> simp [z]; rfl
theorem pow_i {i j : Int} {h : LH} {Q : QD} : @wbin .Pow (.int i) (.int j) h (Box.mk Q) = @AND (CPow i j) (Box.mk (Q (.int (i ^ j.toNat)) h)) := (Eq.refl _).trans rfl
theorem eq_i {i j : Int} {h : LH} {Q : QD} : @wcmp .Eq (.int i) (.int j) h (Box.mk Q) = Q (.bl (decide (i = j))) h := eqInt (h := h) (Q := fun b => Q (.bl b) h)
theorem ne_i {i j : Int} {h : LH} {Q : QD} : @wcmp .NotEq (.int i) (.int j) h (Box.mk Q) = Q (.bl (!decide (i = j))) h := eqInt (h := h) (Q := fun b => Q (.bl (!b)) h)
theorem eq_s {i j : Str} {h : LH} {Q : QD} : @wcmp .Eq (.str i) (.str j) h (Box.mk Q) = Q (.bl (decide (i = j))) h := eqStr (h := h) (Q := fun b => Q (.bl b) h)
theorem ne_s {i j : Str} {h : LH} {Q : QD} : @wcmp .NotEq (.str i) (.str j) h (Box.mk Q) = Q (.bl (!decide (i = j))) h := eqStr (h := h) (Q := fun b => Q (.bl (!b)) h)
theorem lt_i {i j : Int} {h : LH} {Q : QD} : @wcmp .Lt (.int i) (.int j) h (Box.mk Q) = Q (.bl (decide (i < j))) h := (Eq.refl _).trans rfl
theorem le_i {i j : Int} {h : LH} {Q : QD} : @wcmp .LtE (.int i) (.int j) h (Box.mk Q) = Q (.bl (decide (i ≤ j))) h := (Eq.refl _).trans rfl
theorem gt_i {i j : Int} {h : LH} {Q : QD} : @wcmp .Gt (.int i) (.int j) h (Box.mk Q) = Q (.bl (decide (j < i))) h := (Eq.refl _).trans rfl
theorem ge_i {i j : Int} {h : LH} {Q : QD} : @wcmp .GtE (.int i) (.int j) h (Box.mk Q) = Q (.bl (decide (j ≤ i))) h := (Eq.refl _).trans rfl
theorem is_n {x : D} {h : LH} {Q : QD} : @wcmp .Is x .non h (Box.mk Q) = Q (.bl (isNon x)) h := (Eq.refl _).trans rfl
theorem isnt_n {x : D} {h : LH} {Q : QD} : @wcmp .IsNot x .non h (Box.mk Q) = Q (.bl (!isNon x)) h := (Eq.refl _).trans rfl
theorem isNon_bl {b : Bool} : isNon (.bl b) = false := (Eq.refl _).trans rfl
theorem isNon_int {b : Int} : isNon (.int b) = false := (Eq.refl _).trans rfl
theorem isNon_str {b : Str} : isNon (.str b) = false := (Eq.refl _).trans rfl
theorem isNon_tup {b : List D} : isNon (.tup b) = false := (Eq.refl _).trans rfl
theorem isNon_lst {b : List D} : isNon (.lst b) = false := (Eq.refl _).trans rfl
theorem isNon_frl {b : List D} : isNon (.frl b) = false := (Eq.refl _).trans rfl
theorem isNon_dct {b : List (Key × D)} : isNon (.dct b) = false := (Eq.refl _).trans rfl
theorem isNon_ref {b : Addr} : isNon (.ref b) = false := (Eq.refl _).trans rfl
theorem isNon_ins {C : Addr} {fs : List (Str × D)} : isNon (.ins C fs) = false := (Eq.refl _).trans rfl
theorem isNon_bnd {g : Addr} {y : D} : isNon (.bnd g y) = false := (Eq.refl _).trans rfl
theorem isNon_non  : isNon .non = true := (Eq.refl _).trans rfl
theorem intv_i {i : Int} : intv (.int i) = some i := (Eq.refl _).trans rfl
theorem tupv_t {i : List D} : tupv (.tup i) = some i := (Eq.refl _).trans rfl
theorem itv_tup {h : LH} {i : List D} : itv h (.tup i) = some i := (Eq.refl _).trans rfl
theorem itv_lst {h : LH} {i : List D} : itv h (.lst i) = some i := (Eq.refl _).trans rfl
theorem itv_frl {h : LH} {i : List D} : itv h (.frl i) = some i := (Eq.refl _).trans rfl
theorem itv_ref {h : LH} {a : Addr} : itv h (.ref a) = cLst (h a) := (Eq.refl _).trans rfl
theorem seqv_tup {h : LH} {i : List D} : seqv h (.tup i) = some i := (Eq.refl _).trans rfl
theorem seqv_lst {h : LH} {i : List D} : seqv h (.lst i) = some i := (Eq.refl _).trans rfl
theorem seqv_frl {h : LH} {i : List D} : seqv h (.frl i) = some i := (Eq.refl _).trans rfl
theorem seqv_ref {h : LH} {a : Addr} : seqv h (.ref a) = cLst (h a) := (Eq.refl _).trans rfl
theorem sub_tup {i : Int} {ds : List D} {h : LH} {Q : QD} : @wsub (.tup ds) (.int i) h (Box.mk Q) = @Opt _ (atI ds i) (Box.mk (fun d => Q d h)) := (Eq.refl _).trans rfl
theorem sub_lst {i : Int} {ds : List D} {h : LH} {Q : QD} : @wsub (.lst ds) (.int i) h (Box.mk Q) = @Opt _ (atI ds i) (Box.mk (fun d => Q d h)) := (Eq.refl _).trans rfl
theorem sub_frl {i : Int} {ds : List D} {h : LH} {Q : QD} : @wsub (.frl ds) (.int i) h (Box.mk Q) = @Opt _ (atI ds i) (Box.mk (fun d => Q d h)) := (Eq.refl _).trans rfl
theorem sub_ref {a : Addr} {y : D} {h : LH} {Q : QD} : @wsub (.ref a) y h (Box.mk Q) = @subC (h a) y h (Box.mk Q) := by
  show subW (.ref a) y h Q = _
  unfold subC
  simp only [subW, strv, dctv, seqv]
  cases h a with
  | none => rfl
  | some c => cases c <;> rfl
theorem subC_l {i : Int} {ds : List D} {h : LH} {Q : QD} : @subC (some (.lst ds)) (.int i) h (Box.mk Q) = @Opt _ (atI ds i) (Box.mk (fun d => Q d h)) := (Eq.refl _).trans rfl
theorem subC_d {y : D} {kvs : List (Key × D)} {h : LH} {Q : QD} : @subC (some (.dct kvs)) y h (Box.mk Q) = @Opt _ (keyOf y) (Box.mk (fun k => @Opt _ (look kvs k) (Box.mk (fun d => Q d h)))) := (Eq.refl _).trans rfl
theorem slice_t {ds : List D} {l u : Option Int} {h : LH} {Q : QD} : @wslice (.tup ds) l u h (Box.mk Q) = Q (.tup (cutD ds l u)) h := (Eq.refl _).trans rfl
theorem slice_l {ds : List D} {l u : Option Int} {h : LH} {Q : QD} : @wslice (.lst ds) l u h (Box.mk Q) = Q (.lst (cutD ds l u)) h := (Eq.refl _).trans rfl
theorem slice_f {ds : List D} {l u : Option Int} {h : LH} {Q : QD} : @wslice (.frl ds) l u h (Box.mk Q) = Q (.lst (cutD ds l u)) h := (Eq.refl _).trans rfl
theorem blt_len {x : D} {h : LH} {Q : QD} : @wblt .len [x] h (Box.mk Q) = @Opt _ (lenD h x) (Box.mk (fun n => Q (.int n) h)) := (Eq.refl _).trans rfl
theorem len_tup {h : LH} {i : List D} : lenD h (.tup i) = some i.length := (Eq.refl _).trans rfl
theorem len_lst {h : LH} {i : List D} : lenD h (.lst i) = some i.length := (Eq.refl _).trans rfl
theorem len_frl {h : LH} {i : List D} : lenD h (.frl i) = some i.length := (Eq.refl _).trans rfl
theorem len_ref {h : LH} {a : Addr} : lenD h (.ref a) = cLen (h a) := by
  unfold cLen
  simp only [lenD, dctv, seqv]
  cases h a with
  | none => rfl
  | some c => cases c <;> rfl
theorem cLst_l {ds : List D} : cLst (some (.lst ds)) = some ds := (Eq.refl _).trans rfl
theorem cLen_l {ds : List D} : cLen (some (.lst ds)) = some ds.length := (Eq.refl _).trans rfl
theorem cLen_d {ds : List (Key × D)} : cLen (some (.dct ds)) = some ds.length := (Eq.refl _).trans rfl
theorem blt_abs {i : Int} {h : LH} {Q : QD} : @wblt .abs [.int i] h (Box.mk Q) = Q (.int (if i < 0 then -i else i)) h := (Eq.refl _).trans rfl
theorem blt_int {i : Int} {h : LH} {Q : QD} : @wblt .int [.int i] h (Box.mk Q) = Q (.int i) h := (Eq.refl _).trans rfl
theorem blt_str {i : Int} {h : LH} {Q : QD} : @wblt .str [.int i] h (Box.mk Q) = @AND (i.natAbs.log2 < 1920) (Box.mk (Q (.str (toString i)) h)) := (Eq.refl _).trans rfl
theorem blt_strs {i : Str} {h : LH} {Q : QD} : @wblt .str [.str i] h (Box.mk Q) = Q (.str i) h := (Eq.refl _).trans rfl
theorem blt_min {i j : Int} {h : LH} {Q : QD} : @wblt .min [.int i, .int j] h (Box.mk Q) = Q (.int (if j < i then j else i)) h := (Eq.refl _).trans rfl
theorem blt_max {i j : Int} {h : LH} {Q : QD} : @wblt .max [.int i, .int j] h (Box.mk Q) = Q (.int (if j > i then j else i)) h := (Eq.refl _).trans rfl
theorem blt_sum {x : D} {h : LH} {Q : QD} : @wblt .sum [x] h (Box.mk Q) = @Opt _ (seqv h x) (Box.mk (fun ds => @Opt _ (allInt ds) (Box.mk (fun is => Q (.int is.sum) h)))) := (Eq.refl _).trans rfl
theorem blt_tuple {x : D} {h : LH} {Q : QD} : @wblt .tuple [x] h (Box.mk Q) = @Opt _ (seqv h x) (Box.mk (fun ds => Q (.tup ds) h)) := (Eq.refl _).trans rfl
theorem blt_list {x : D} {h : LH} {Q : QD} : @wblt .list [x] h (Box.mk Q) = @Opt _ (seqv h x) (Box.mk (fun ds => Q (.lst ds) h)) := (Eq.refl _).trans rfl
theorem bltC_list {x : D} {h : LH} {Q : QD} : @wbltC .list [x] h (Box.mk Q) = @Opt _ (seqv h x) (Box.mk (fun ds => @wmk true ds h (Box.mk Q))) := (Eq.refl _).trans rfl
theorem blt_repr {x : D} {h : LH} {Q : QD} : @wblt .repr [x] h (Box.mk Q) = @Opt _ (pv_ h x) (Box.mk (fun a => @AND (a.showable = true ∧ a.shown.length ≤ sizeLine ∧ a.depth ≤ 60) (Box.mk (Q (.str a.shown) h)))) := (Eq.refl _).trans rfl
theorem hotX_1 {a : Addr} {x : Exn} {f : Exn → Prop} : @whotX (some (a, x)) (.ref a) (Box.mk f) = f x := propext ⟨fun z => z.2, fun z => ⟨rfl, z⟩⟩
theorem rev_t {ds : List D} {h : LH} {Q : QD} : @wrev (.tup ds) h (Box.mk Q) = Q (.tup ds.reverse) h := (Eq.refl _).trans rfl
theorem rev_l {ds : List D} {h : LH} {Q : QD} : @wrev (.lst ds) h (Box.mk Q) = Q (.lst ds.reverse) h := (Eq.refl _).trans rfl
theorem rev_f {ds : List D} {h : LH} {Q : QD} : @wrev (.frl ds) h (Box.mk Q) = Q (.lst ds.reverse) h := (Eq.refl _).trans rfl
theorem rev_ref {a : Addr} {h : LH} {Q : QD} : @wrev (.ref a) h (Box.mk Q) = @Opt _ (cLst (h a)) (Box.mk (fun ds => Q (.lst ds.reverse) h)) := (Eq.refl _).trans rfl
theorem blt_all {x : D} {h : LH} {Q : QD} : @wblt .all [x] h (Box.mk Q) = @Opt _ (lstv h x) (Box.mk (fun ds => @Opt _ (allBl ds) (Box.mk (fun bs => Q (.bl (bs.all id)) h)))) := (Eq.refl _).trans rfl
theorem blt_any {x : D} {h : LH} {Q : QD} : @wblt .any [x] h (Box.mk Q) = @Opt _ (lstv h x) (Box.mk (fun ds => @Opt _ (allBl ds) (Box.mk (fun bs => Q (.bl (bs.any id)) h)))) := (Eq.refl _).trans rfl
theorem blt_divmod {i j : Int} {h : LH} {Q : QD} : @wblt .divmod [.int i, .int j] h (Box.mk Q) = @AND (CDivP i j) (Box.mk (Q (.tup [.int (i / j), .int (i % j)]) h)) := (Eq.refl _).trans rfl
theorem bltC_dict {x : D} {h : LH} {Q : QD} : @wbltC .dict [x] h (Box.mk Q) = @Opt _ (lstv h x) (Box.mk (fun ds => @Opt _ (prsD ds) (Box.mk (fun kvs => @New h (Box.mk (fun a => Q (.ref a) (put h a (.dct (mergeD [] kvs))))))))) := (Eq.refl _).trans rfl
theorem shl_i {i j : Int} {h : LH} {Q : QD} : @wbin .LShift (.int i) (.int j) h (Box.mk Q) = @AND (CPow i j) (Box.mk (Q (.int (i * 2 ^ j.toNat)) h)) := (Eq.refl _).trans rfl
theorem shr_i {i j : Int} {h : LH} {Q : QD} : @wbin .RShift (.int i) (.int j) h (Box.mk Q) = @AND (0 ≤ j) (Box.mk (Q (.int (i / 2 ^ j.toNat)) h)) := (Eq.refl _).trans rfl
theorem and_i {i j : Int} {h : LH} {Q : QD} : @wbin .BitAnd (.int i) (.int j) h (Box.mk Q) = Q (.int (Builtin.bitAnd i j)) h := (Eq.refl _).trans rfl
theorem aug_add {i j : Int} {h : LH} {Q : QD} : @waug .Add (.int i) (.int j) h (Box.mk Q) = Q (.int (i + j)) h := (Eq.refl _).trans rfl
theorem aug_sub {i j : Int} {h : LH} {Q : QD} : @waug .Sub (.int i) (.int j) h (Box.mk Q) = Q (.int (i - j)) h := (Eq.refl _).trans rfl
theorem lstv_lst {h : LH} {i : List D} : lstv h (.lst i) = some i := (Eq.refl _).trans rfl
theorem lstv_ref {h : LH} {a : Addr} : lstv h (.ref a) = cLst (h a) := (Eq.refl _).trans rfl
theorem hot_1 {a : Addr} {x : Exn} {f : Str} {Q : D → Prop} : @whot (some (a, x)) (.ref a) f (Box.mk Q) = @Opt _ (x.fs.lookup f) (Box.mk Q) := propext ⟨fun z => z.2, fun z => ⟨rfl, z⟩⟩
theorem meth_app {a : Addr} {y : D} {h : LH} {Q : QD} : @wmeth .append (.ref a) [y] h (Box.mk Q) = @appC (h a) a y h (Box.mk Q) := (Eq.refl _).trans rfl
theorem appC_l {a : Addr} {y : D} {ds : List D} {h : LH} {Q : QD} : @appC (some (.lst ds)) a y h (Box.mk Q) = @AND (ds.length < sizeLine) (Box.mk (Q .non (put h a (.lst (ds ++ [y]))))) := (Eq.refl _).trans rfl
theorem meth_count {ds : List D} {y : D} {h : LH} {Q : QD} : @wmeth .count (.tup ds) [y] h (Box.mk Q) = @Opt _ (pyL ds) (Box.mk (fun as => @Opt _ (pv_ h y) (Box.mk (fun b => @AND (min (PyData.depthAll as) b.depth ≤ 60) (Box.mk (Q (.int ((as.countP fun z => PyData.eqv z b : Nat) : Int)) h)))))) := (Eq.refl _).trans rfl
theorem methT_count {ds : List D} {h : LH} : methT .count (.tup ds) h = True := by simp [methT, tupv]
theorem meth_index {ds : List D} {y : D} {h : LH} {Q : QD} : @wmeth .index (.lst ds) [y] h (Box.mk Q) = @Opt _ (pyL ds) (Box.mk (fun as => @Opt _ (pv_ h y) (Box.mk (fun b => @AND (min (PyData.depthAll as) b.depth ≤ 60) (Box.mk (@Opt _ (PySem.SeqAt.dataPlace as b) (Box.mk (fun j => Q (.int ((j : Nat) : Int)) h)))))))) := (Eq.refl _).trans rfl
theorem methT_index {ds : List D} {h : LH} : methT .index (.lst ds) h = True := by simp [methT, lstv]
theorem meth_popi {a : Addr} {i : Int} {h : LH} {Q : QD} : @wmeth .popi (.ref a) [.int i] h (Box.mk Q) = @popC (h a) a i h (Box.mk Q) := (Eq.refl _).trans rfl
theorem methT_popi {a : Addr} {h : LH} : methT .popi (.ref a) h = ((cLst (h a)).isSome = true) := (Eq.refl _).trans rfl
theorem popC_l {a : Addr} {i : Int} {ds : List D} {h : LH} {Q : QD} : @popC (some (.lst ds)) a i h (Box.mk Q) = @AND (-(2 ^ 62) ≤ i ∧ i < 2 ^ 62) (Box.mk (@Opt _ (ixN ds.length i) (Box.mk (fun j => @Opt _ (ds[j]?) (Box.mk (fun d => Q d (put h a (.lst (ds.eraseIdx j))))))))) := (Eq.refl _).trans rfl
theorem blt_sorted {x : D} {h : LH} {Q : QD} : @wblt .sorted [x] h (Box.mk Q) = @Opt _ (seqv h x) (Box.mk (fun ds => @Opt _ (pyL ds) (Box.mk (fun as => @AND (PySem.W.AllAlike as ∧ PySem.W.Sortable as ∧ PyData.depthAll as ≤ 60) (Box.mk (Q (.lst (ds.mergeSort (PySem.W.dataLe false pyD))) h)))))) := (Eq.refl _).trans rfl
theorem bltC_sorted {x : D} {h : LH} {Q : QD} : @wbltC .sorted [x] h (Box.mk Q) = @Opt _ (seqv h x) (Box.mk (fun ds => @Opt _ (pyL ds) (Box.mk (fun as => @AND (PySem.W.AllAlike as ∧ PySem.W.Sortable as ∧ PyData.depthAll as ≤ 60) (Box.mk (@wmk true (ds.mergeSort (PySem.W.dataLe false pyD)) h (Box.mk Q))))))) := (Eq.refl _).trans rfl
theorem methT_app {a : Addr} {h : LH} : methT .append (.ref a) h = ((cLst (h a)).isSome = true) := (Eq.refl _).trans rfl
theorem set_ref {a : Addr} {i v : D} {h : LH} {Q : LH → Prop} : @wset (.ref a) i v h (Box.mk Q) = @setC (h a) a i v h (Box.mk Q) := (Eq.refl _).trans rfl
theorem setC_l {a : Addr} {i : Int} {v : D} {ds : List D} {h : LH} {Q : LH → Prop} : @setC (some (.lst ds)) a (.int i) v h (Box.mk Q) = @Opt _ (ixN ds.length i) (Box.mk (fun j => Q (put h a (.lst (ds.set j v))))) := (Eq.refl _).trans rfl
theorem setC_d {a : Addr} {i v : D} {ds : List (Key × D)} {h : LH} {Q : LH → Prop} : @setC (some (.dct ds)) a i v h (Box.mk Q) = @Opt _ (keyOf i) (Box.mk (fun k => @AND (ds.length < sizeLine) (Box.mk (Q (put h a (.dct (putD ds k v))))))) := (Eq.refl _).trans rfl
theorem kin_str {a : Addr} {s : Str} {h : LH} {Q : QD} : @wcmp .In (.str s) (.ref a) h (Box.mk Q) = @inC (h a) s h (Box.mk Q) := by
  show inW (.str s) (.ref a) h (fun b => Q (.bl b) h) = _
  unfold inC
  simp only [inW, inData, dctv, seqv, keyOf, pv_, D.py]
  cases h a with
  | none => rfl
  | some c => cases c <;> rfl
theorem inC_d {s : Str} {kvs : List (Key × D)} {h : LH} {Q : QD} : @inC (some (.dct kvs)) s h (Box.mk Q) = Q (.bl (look kvs (.inr s)).isSome) h := (Eq.refl _).trans rfl
theorem keyOf_i {i : Int} : keyOf (.int i) = some (.inl i) := (Eq.refl _).trans rfl
theorem keyOf_s {i : Str} : keyOf (.str i) = some (.inr i) := (Eq.refl _).trans rfl
theorem truth_n {h : LH} : truth h .non = some false := (Eq.refl _).trans rfl
theorem truth_b {h : LH} {b : Bool} : truth h (.bl b) = some b := (Eq.refl _).trans rfl
theorem truth_i {h : LH} {b : Int} : truth h (.int b) = some (b != 0) := (Eq.refl _).trans rfl
theorem truth_tup {h : LH} {b : List D} : truth h (.tup b) = some (!b.isEmpty) := (Eq.refl _).trans rfl
theorem truth_lst {h : LH} {b : List D} : truth h (.lst b) = some (!b.isEmpty) := (Eq.refl _).trans rfl
theorem truth_frl {h : LH} {b : List D} : truth h (.frl b) = some (!b.isEmpty) := (Eq.refl _).trans rfl
theorem stay_t {ds es : List D} {h : LH} : stay (.tup ds) es h = True := (Eq.refl _).trans rfl
theorem stay_l {ds es : List D} {h : LH} : stay (.lst ds) es h = True := (Eq.refl _).trans rfl
theorem stay_f {ds es : List D} {h : LH} : stay (.frl ds) es h = True := (Eq.refl _).trans rfl
theorem isa_non_int {h : LH}  : isaD h .non "int" = some false := show kitB "NoneType" "int" = some false by decide +kernel
theorem isa_non_bool {h : LH}  : isaD h .non "bool" = some false := show kitB "NoneType" "bool" = some false by decide +kernel
theorem isa_non_str {h : LH}  : isaD h .non "str" = some false := show kitB "NoneType" "str" = some false by decide +kernel
theorem isa_non_tuple {h : LH}  : isaD h .non "tuple" = some false := show kitB "NoneType" "tuple" = some false by decide +kernel
theorem isa_non_list {h : LH}  : isaD h .non "list" = some false := show kitB "NoneType" "list" = some false by decide +kernel
theorem isa_non_dict {h : LH}  : isaD h .non "dict" = some false := show kitB "NoneType" "dict" = some false by decide +kernel
theorem isa_bl_int {h : LH} {b : Bool} : isaD h (.bl b) "int" = some true := show kitB "bool" "int" = some true by decide +kernel
theorem isa_bl_bool {h : LH} {b : Bool} : isaD h (.bl b) "bool" = some true := show kitB "bool" "bool" = some true by decide +kernel
theorem isa_bl_str {h : LH} {b : Bool} : isaD h (.bl b) "str" = some false := show kitB "bool" "str" = some false by decide +kernel
theorem isa_bl_tuple {h : LH} {b : Bool} : isaD h (.bl b) "tuple" = some false := show kitB "bool" "tuple" = some false by decide +kernel
theorem isa_bl_list {h : LH} {b : Bool} : isaD h (.bl b) "list" = some false := show kitB "bool" "list" = some false by decide +kernel
theorem isa_bl_dict {h : LH} {b : Bool} : isaD h (.bl b) "dict" = some false := show kitB "bool" "dict" = some false by decide +kernel
theorem isa_int_int {h : LH} {b : Int} : isaD h (.int b) "int" = some true := show kitB "int" "int" = some true by decide +kernel
theorem isa_int_bool {h : LH} {b : Int} : isaD h (.int b) "bool" = some false := show kitB "int" "bool" = some false by decide +kernel
theorem isa_int_str {h : LH} {b : Int} : isaD h (.int b) "str" = some false := show kitB "int" "str" = some false by decide +kernel
theorem isa_int_tuple {h : LH} {b : Int} : isaD h (.int b) "tuple" = some false := show kitB "int" "tuple" = some false by decide +kernel
theorem isa_int_list {h : LH} {b : Int} : isaD h (.int b) "list" = some false := show kitB "int" "list" = some false by decide +kernel
theorem isa_int_dict {h : LH} {b : Int} : isaD h (.int b) "dict" = some false := show kitB "int" "dict" = some false by decide +kernel
theorem isa_str_int {h : LH} {b : Str} : isaD h (.str b) "int" = some false := show kitB "str" "int" = some false by decide +kernel
theorem isa_str_bool {h : LH} {b : Str} : isaD h (.str b) "bool" = some false := show kitB "str" "bool" = some false by decide +kernel
theorem isa_str_str {h : LH} {b : Str} : isaD h (.str b) "str" = some true := show kitB "str" "str" = some true by decide +kernel
theorem isa_str_tuple {h : LH} {b : Str} : isaD h (.str b) "tuple" = some false := show kitB "str" "tuple" = some false by decide +kernel
theorem isa_str_list {h : LH} {b : Str} : isaD h (.str b) "list" = some false := show kitB "str" "list" = some false by decide +kernel
theorem isa_str_dict {h : LH} {b : Str} : isaD h (.str b) "dict" = some false := show kitB "str" "dict" = some false by decide +kernel
theorem isa_tup_int {h : LH} {b : List D} : isaD h (.tup b) "int" = some false := show kitB "tuple" "int" = some false by decide +kernel
theorem isa_tup_bool {h : LH} {b : List D} : isaD h (.tup b) "bool" = some false := show kitB "tuple" "bool" = some false by decide +kernel
theorem isa_tup_str {h : LH} {b : List D} : isaD h (.tup b) "str" = some false := show kitB "tuple" "str" = some false by decide +kernel
theorem isa_tup_tuple {h : LH} {b : List D} : isaD h (.tup b) "tuple" = some true := show kitB "tuple" "tuple" = some true by decide +kernel
theorem isa_tup_list {h : LH} {b : List D} : isaD h (.tup b) "list" = some false := show kitB "tuple" "list" = some false by decide +kernel
theorem isa_tup_dict {h : LH} {b : List D} : isaD h (.tup b) "dict" = some false := show kitB "tuple" "dict" = some false by decide +kernel
theorem isa_lst_int {h : LH} {b : List D} : isaD h (.lst b) "int" = some false := show kitB "list" "int" = some false by decide +kernel
theorem isa_lst_bool {h : LH} {b : List D} : isaD h (.lst b) "bool" = some false := show kitB "list" "bool" = some false by decide +kernel
theorem isa_lst_str {h : LH} {b : List D} : isaD h (.lst b) "str" = some false := show kitB "list" "str" = some false by decide +kernel
theorem isa_lst_tuple {h : LH} {b : List D} : isaD h (.lst b) "tuple" = some false := show kitB "list" "tuple" = some false by decide +kernel
theorem isa_lst_list {h : LH} {b : List D} : isaD h (.lst b) "list" = some true := show kitB "list" "list" = some true by decide +kernel
theorem isa_lst_dict {h : LH} {b : List D} : isaD h (.lst b) "dict" = some false := show kitB "list" "dict" = some false by decide +kernel
theorem isa_frl_int {h : LH} {b : List D} : isaD h (.frl b) "int" = some false := show kitB "list" "int" = some false by decide +kernel
theorem isa_frl_bool {h : LH} {b : List D} : isaD h (.frl b) "bool" = some false := show kitB "list" "bool" = some false by decide +kernel
theorem isa_frl_str {h : LH} {b : List D} : isaD h (.frl b) "str" = some false := show kitB "list" "str" = some false by decide +kernel
theorem isa_frl_tuple {h : LH} {b : List D} : isaD h (.frl b) "tuple" = some false := show kitB "list" "tuple" = some false by decide +kernel
theorem isa_frl_list {h : LH} {b : List D} : isaD h (.frl b) "list" = some true := show kitB "list" "list" = some true by decide +kernel
theorem isa_frl_dict {h : LH} {b : List D} : isaD h (.frl b) "dict" = some false := show kitB "list" "dict" = some false by decide +kernel
theorem isa_dct_int {h : LH} {b : List (Key × D)} : isaD h (.dct b) "int" = some false := show kitB "dict" "int" = some false by decide +kernel
theorem isa_dct_bool {h : LH} {b : List (Key × D)} : isaD h (.dct b) "bool" = some false := show kitB "dict" "bool" = some false by decide +kernel
theorem isa_dct_str {h : LH} {b : List (Key × D)} : isaD h (.dct b) "str" = some false := show kitB "dict" "str" = some false by decide +kernel
theorem isa_dct_tuple {h : LH} {b : List (Key × D)} : isaD h (.dct b) "tuple" = some false := show kitB "dict" "tuple" = some false by decide +kernel
theorem isa_dct_list {h : LH} {b : List (Key × D)} : isaD h (.dct b) "list" = some false := show kitB "dict" "list" = some false by decide +kernel
theorem isa_dct_dict {h : LH} {b : List (Key × D)} : isaD h (.dct b) "dict" = some true := show kitB "dict" "dict" = some true by decide +kernel
theorem rep_0  : List.replicate 0 (none : Option D) = [] := (Eq.refl _).trans rfl
theorem rep_1  : List.replicate 1 (none : Option D) = [none] := (Eq.refl _).trans rfl
theorem rep_2  : List.replicate 2 (none : Option D) = [none, none] := (Eq.refl _).trans rfl
theorem rep_3  : List.replicate 3 (none : Option D) = [none, none, none] := (Eq.refl _).trans rfl
theorem rep_4  : List.replicate 4 (none : Option D) = [none, none, none, none] := (Eq.refl _).trans rfl
theorem rep_5  : List.replicate 5 (none : Option D) = [none, none, none, none, none] := (Eq.refl _).trans rfl
theorem rep_6  : List.replicate 6 (none : Option D) = [none, none, none, none, none, none] := (Eq.refl _).trans rfl
theorem rep_7  : List.replicate 7 (none : Option D) = [none, none, none, none, none, none, none] := (Eq.refl _).trans rfl
theorem rep_8  : List.replicate 8 (none : Option D) = [none, none, none, none, none, none, none, none] := (Eq.refl _).trans rfl
theorem rep_9  : List.replicate 9 (none : Option D) = [none, none, none, none, none, none, none, none, none] := (Eq.refl _).trans rfl
theorem rep_10  : List.replicate 10 (none : Option D) = [none, none, none, none, none, none, none, none, none, none] := (Eq.refl _).trans rfl
theorem rep_11  : List.replicate 11 (none : Option D) = [none, none, none, none, none, none, none, none, none, none, none] := (Eq.refl _).trans rfl
theorem rep_12  : List.replicate 12 (none : Option D) = [none, none, none, none, none, none, none, none, none, none, none, none] := (Eq.refl _).trans rfl
theorem rep_13  : List.replicate 13 (none : Option D) = [none, none, none, none, none, none, none, none, none, none, none, none, none] := (Eq.refl _).trans rfl
theorem rep_14  : List.replicate 14 (none : Option D) = [none, none, none, none, none, none, none, none, none, none, none, none, none, none] := (Eq.refl _).trans rfl
theorem rep_15  : List.replicate 15 (none : Option D) = [none, none, none, none, none, none, none, none, none, none, none, none, none, none, none] := (Eq.refl _).trans rfl
theorem rep_16  : List.replicate 16 (none : Option D) = [none, none, none, none, none, none, none, none, none, none, none, none, none, none, none, none] := (Eq.refl _).trans rfl
theorem rep_17  : List.replicate 17 (none : Option D) = [none, none, none, none, none, none, none, none, none, none, none, none, none, none, none, none, none] := (Eq.refl _).trans rfl
theorem rep_18  : List.replicate 18 (none : Option D) = [none, none, none, none, none, none, none, none, none, none, none, none, none, none, none, none, none, none] := (Eq.refl _).trans rfl
theorem rep_19  : List.replicate 19 (none : Option D) = [none, none, none, none, none, none, none, none, none, none, none, none, none, none, none, none, none, none, none] := (Eq.refl _).trans rfl
theorem rep_20  : List.replicate 20 (none : Option D) = [none, none, none, none, none, none, none, none, none, none, none, none, none, none, none, none, none, none, none, none] := (Eq.refl _).trans rfl
theorem AND_of {A B : Prop} (a : A) (b : B) : @AND A (Box.mk B) := ⟨a, b⟩
theorem CvX_of {is : List Nat} {fa : Nat → Addr} {g : Addr} {k : Nat → Prop} (i : Nat) (h1 : i ∈ is) (h2 : fa i = g) (q : k i) : @CvX is fa g (Box.mk k) := ⟨i, ⟨h1, h2⟩, q⟩
theorem WkX_of {d d2 : D} {h h2 : LH} {k : D → LH → Prop} (w : Wk d h d2 h2) (q : k d2 h2) : @WkX d h (Box.mk k) := ⟨d2, h2, w, q⟩
theorem br_of {c : Bool} {A B : Prop} (t : c = true → A) (f : c = false → B) : @br c (Box.mk A) (Box.mk B) := by
  cases c
  · exact f rfl
  · exact t rfl
theorem Compr_of {c : Bool} {its : List D} {g : LH → Prop} {h : LH} {Q : QD} {turn : D → LH → (Option D → LH → Prop) → Prop} (f : D → Option D) (hl : its.length ≤ sizeLine) (hg : g h)
    (ht : ∀ d K, d ∈ its → K (f d) h → turn d h K) (k : @wmk c (its.filterMap f) h (Box.mk Q)) : @Compr c its (Box.mk g) h (Box.mk Q) (Box.mk turn) := by
  refine ⟨fun i acc h' => h' = h ∧ acc = (its.take i).filterMap f, hl, ⟨rfl, by simp⟩, ?_, ?_⟩
  · rintro i d acc h' hd ⟨rfl, rfl⟩
    refine ⟨hg, ht d _ (List.mem_of_getElem? hd) ?_⟩
    have hi := (List.getElem?_eq_some_iff.mp hd).1
    have e : its.take (i + 1) = its.take i ++ [d] := by rw [List.take_succ, hd]; rfl
    cases hf : f d with
    | none => exact ⟨rfl, by rw [e]; simp [hf]⟩
    | some y => exact ⟨rfl, by rw [e]; simp [hf]⟩
  · rintro acc h' ⟨rfl, rfl⟩
    rw [List.take_length]
    exact ⟨hg, k⟩
theorem New_of {h : LH} {Q : Addr → Prop} (k : ∀ a, h a = none → Q a) : @New h (Box.mk Q) := k
theorem RgX_of {i j k : Int} {n : Nat} {Q : Nat → Prop} (r : RgC i j k n) (q : Q n) : @RgX i j k (Box.mk Q) := ⟨n, r, q⟩
theorem Done_of {d : D} {h : LH} {Q : QD} (q : Q d h) : @Done d h (Box.mk Q) := done_of q
theorem Done_put {Q : QD} {d : D} {h : LH} {a : Addr} {c : Cell} (n : h a = none) (q : Q d h) : @Done d (put h a c) (Box.mk Q) := done_put n q
theorem Done_frz {Q : QD} {a : Addr} {ds : List D} {h : LH} (n : h a = none) (q : Q (.lst ds) h) : @Done (.ref a) (put h a (.lst ds)) (Box.mk Q) := done_frz n q
theorem Loop_of {ρ0 : Sl} {h0 : LH} {its : List D} {g : LH → Prop} {turn : D → Sl → LH → QS → Prop} {nx : QS} (J : Nat → Sl → LH → Prop) (a : J 0 ρ0 h0)
    (b : ∀ i d ρ h, its[i]? = some d → J i ρ h → @AND (g h) (Box.mk (turn d ρ h (J (i + 1))))) (c : ∀ ρ h, J its.length ρ h → @AND (g h) (Box.mk (nx ρ h))) : @Loop ρ0 h0 its (Box.mk g) (Box.mk turn) (Box.mk nx) := ⟨J, a, b, c⟩
theorem CF_of {P : Prm} {tb : Nat → Option Fn} {n i : Nat} {fn : Fn} {ds : List D} {h : LH} {Q : QD} {e : EX} (hi : tb i = some fn) (hl : ds.length = fn.ps)
    (k : @wSs (Box.mk (PF P tb n)) (Box.mk (fun x _ h => ∃ h', Sub h' h ∧ e x h')) fn.body (ds.map some ++ List.replicate (fn.n - fn.ps) none) h (Box.mk (fun _ h => @Done .non h (Box.mk Q))) (Box.mk (fun d h => @Done d h (Box.mk Q))) (Box.mk (fun _ _ => False)) (Box.mk (fun _ _ => False))) : CF P tb (n + 1) i ds h Q e := by
  simp only [CF, hi, opt]; exact ⟨hl, k⟩
theorem mulR {i j : Int} (a : -(2 ^ 64) < j) (b : j < 2 ^ 64) : CMul i j := .inr ⟨a, b⟩
theorem mulL {i j : Int} (a : -(2 ^ 64) < i) (b : i < 2 ^ 64) : CMul i j := .inl ⟨a, b⟩
end Lg
local macro_rules
  | `(tactic| simp_arith) => `(tactic| simp only [↓Lg.eWE_1, ↓Lg.eWE_2, ↓Lg.eWE_3, ↓Lg.eWE_4, ↓Lg.eWE_5, ↓Lg.eWE_6, ↓Lg.eWE_7, ↓Lg.eWE_9, ↓Lg.eWE_10, ↓Lg.eWE_11, ↓Lg.eWE_13, ↓Lg.eWE_14, ↓Lg.eWE_15, ↓Lg.eWE_17, ↓Lg.eWE_18, ↓Lg.eWE_19, ↓Lg.eWE_20, ↓Lg.eWE_23, ↓Lg.eWE_24, ↓Lg.eWE_26, ↓Lg.eWE_27, ↓Lg.eWO_1, ↓Lg.eWO_2, ↓Lg.eWT_1, ↓Lg.eWT_2, ↓Lg.eWT_4, ↓Lg.eWT_5, ↓Lg.eWT_6, ↓Lg.eWAn_1, ↓Lg.eWOr_1, ↓Lg.eWTo_1, ↓Lg.eWEs_1, ↓Lg.eWEs_2, ↓Lg.eWTs_1, ↓Lg.eWTg_1, ↓Lg.eWTg_3, ↓Lg.eWTgs_1, ↓Lg.eWI_1, ↓Lg.eWI_5, ↓Lg.eWI_6, ↓Lg.eWS_1, ↓Lg.eWS_2, ↓Lg.eWS_6, ↓Lg.eWS_7, ↓Lg.eWS_8, ↓Lg.eWS_12, ↓Lg.eWS_13, ↓Lg.eWS_14, ↓Lg.eWSs_1, ↓Lg.eWE_8, ↓Lg.eWE_12, ↓Lg.eWE_16, ↓Lg.eWE_25, ↓Lg.eWE_28, ↓Lg.eWE_29, ↓Lg.eWE_30, ↓Lg.eWE_31, ↓Lg.eWE_32, ↓Lg.eWE_33, ↓Lg.eWE_34, ↓Lg.eWE_35, ↓Lg.eWS_16, ↓Lg.eWSs_4, ↓Lg.eWE_22, ↓Lg.eWE_21, ↓Lg.eWT_3, ↓Lg.eWT_7, ↓Lg.eWTo_2, ↓Lg.eWTs_2, ↓Lg.eWTg_2, ↓Lg.eWTgs_2, ↓Lg.eWI_2, ↓Lg.eWI_3, ↓Lg.eWI_4, ↓Lg.eWS_3, ↓Lg.eWS_5, ↓Lg.eWS_9, ↓Lg.eWS_10, ↓Lg.eWS_11, ↓Lg.eWS_15, ↓Lg.eWSs_2, ↓Lg.eWSs_3, ↓Lg.eWHs_1, ↓Lg.eWHs_2, ↓Lg.eWHs_3, ↓Lg.eWAn_2, ↓Lg.eWAn_3, ↓Lg.eWOr_2, ↓Lg.eWOr_3, Lg.PF_cf, Lg.PF_gc, Lg.PF_fl, Lg.PF_sb, Lg.PF_hot, Lg.PF_ca, Lg.PF_fa, Lg.Hot_ca, Lg.Hot_fa, Lg.Hot_cf, Lg.Hot_gc, Lg.Hot_fl, Lg.Hot_sb, Lg.Hot_hot, Lg.prmC_ca, Lg.prmC_fa, Lg.BndW_1, Lg.InsC_r, Lg.InsK_i, Lg.insv_i, Lg.insv_r, Lg.cIns_i, Lg.itv_str, Lg.br_t, Lg.br_f, Lg.AND_t, Lg.Opt_s, Lg.Opt_n, Lg.One_1, Lg.Two_1, Lg.AsB_1, Lg.mk_t, Lg.mk_f, Lg.add_i, Lg.add_s, Lg.add_t, Lg.add_l, Lg.sub_i, Lg.mul_i, Lg.mul_l, Lg.set_all2, Lg.mul_t, Lg.mulC_l, Lg.fdiv_i, Lg.mod_i, Lg.pow_i, Lg.eq_i, Lg.ne_i, Lg.eq_s, Lg.ne_s, Lg.lt_i, Lg.le_i, Lg.gt_i, Lg.ge_i, Lg.is_n, Lg.isnt_n, Lg.isNon_bl, Lg.isNon_int, Lg.isNon_str, Lg.isNon_tup, Lg.isNon_lst, Lg.isNon_frl, Lg.isNon_dct, Lg.isNon_ref, Lg.isNon_ins, Lg.isNon_bnd, Lg.isNon_non, Lg.intv_i, Lg.tupv_t, Lg.itv_tup, Lg.itv_lst, Lg.itv_frl, Lg.itv_ref, Lg.seqv_tup, Lg.seqv_lst, Lg.seqv_frl, Lg.seqv_ref, Lg.sub_tup, Lg.sub_lst, Lg.sub_frl, Lg.sub_ref, Lg.subC_l, Lg.subC_d, Lg.slice_t, Lg.slice_l, Lg.slice_f, Lg.blt_len, Lg.len_tup, Lg.len_lst, Lg.len_frl, Lg.len_ref, Lg.cLst_l, Lg.cLen_l, Lg.cLen_d, Lg.blt_abs, Lg.blt_int, Lg.blt_str, Lg.blt_strs, Lg.blt_min, Lg.blt_max, Lg.blt_sum, Lg.blt_tuple, Lg.blt_list, Lg.bltC_list, Lg.hotX_1, Lg.rev_t, Lg.rev_l, Lg.rev_f, Lg.rev_ref, Lg.blt_all, Lg.blt_any, Lg.blt_divmod, Lg.bltC_dict, Lg.shl_i, Lg.shr_i, Lg.and_i, Lg.aug_add, Lg.aug_sub, Lg.lstv_lst, Lg.lstv_ref, Lg.hot_1, Lg.meth_app, Lg.appC_l, Lg.methT_count, Lg.methT_index, Lg.meth_popi, Lg.methT_popi, Lg.popC_l, Lg.methT_app, Lg.set_ref, Lg.setC_l, Lg.setC_d, Lg.kin_str, Lg.inC_d, Lg.keyOf_i, Lg.keyOf_s, Lg.truth_n, Lg.truth_b, Lg.truth_i, Lg.truth_tup, Lg.truth_lst, Lg.truth_frl, Lg.stay_t, Lg.stay_l, Lg.stay_f, Lg.isa_non_int, Lg.isa_non_bool, Lg.isa_non_str, Lg.isa_non_tuple, Lg.isa_non_list, Lg.isa_non_dict, Lg.isa_bl_int, Lg.isa_bl_bool, Lg.isa_bl_str, Lg.isa_bl_tuple, Lg.isa_bl_list, Lg.isa_bl_dict, Lg.isa_int_int, Lg.isa_int_bool, Lg.isa_int_str, Lg.isa_int_tuple, Lg.isa_int_list, Lg.isa_int_dict, Lg.isa_str_int, Lg.isa_str_bool, Lg.isa_str_str, Lg.isa_str_tuple, Lg.isa_str_list, Lg.isa_str_dict, Lg.isa_tup_int, Lg.isa_tup_bool, Lg.isa_tup_str, Lg.isa_tup_tuple, Lg.isa_tup_list, Lg.isa_tup_dict, Lg.isa_lst_int, Lg.isa_lst_bool, Lg.isa_lst_str, Lg.isa_lst_tuple, Lg.isa_lst_list, Lg.isa_lst_dict, Lg.isa_frl_int, Lg.isa_frl_bool, Lg.isa_frl_str, Lg.isa_frl_tuple, Lg.isa_frl_list, Lg.isa_frl_dict, Lg.isa_dct_int, Lg.isa_dct_bool, Lg.isa_dct_str, Lg.isa_dct_tuple, Lg.isa_dct_list, Lg.isa_dct_dict, Lg.rep_0, Lg.rep_1, Lg.rep_2, Lg.rep_3, Lg.rep_4, Lg.rep_5, Lg.rep_6, Lg.rep_7, Lg.rep_8, Lg.rep_9, Lg.rep_10, Lg.rep_11, Lg.rep_12, Lg.rep_13, Lg.rep_14, Lg.rep_15, Lg.rep_16, Lg.rep_17, Lg.rep_18, Lg.rep_19, Lg.rep_20, List.isEmpty_nil, List.isEmpty_cons, Int.reduceLT, Int.reduceLE, Int.reduceEq, Int.reduceToNat, Int.reduceNeg, Int.reduceAdd, Int.reduceSub, Int.reduceMul, Nat.reduceAdd, Nat.reduceSub, Lg.slot_z, Lg.slot_s, Lg.put_same, Lg.put_put, Lg.rngL_len, List.set_cons_zero, List.set_cons_succ, Lg.wipeS, Lg.setAll, Option.map_some, List.map_cons, List.map_nil, List.cons_append, List.nil_append, List.length_cons, List.length_nil, List.length_map, List.zip_cons_cons, List.zip_nil_left, decide_true, decide_false, Bool.not_true, Bool.not_false, Option.isSome_some, Lg.Tgs.len])
  | `(tactic| simp_arith only [$ts,*]) => `(tactic| simp only [$ts,*, ↓Lg.eWE_1, ↓Lg.eWE_2, ↓Lg.eWE_3, ↓Lg.eWE_4, ↓Lg.eWE_5, ↓Lg.eWE_6, ↓Lg.eWE_7, ↓Lg.eWE_9, ↓Lg.eWE_10, ↓Lg.eWE_11, ↓Lg.eWE_13, ↓Lg.eWE_14, ↓Lg.eWE_15, ↓Lg.eWE_17, ↓Lg.eWE_18, ↓Lg.eWE_19, ↓Lg.eWE_20, ↓Lg.eWE_23, ↓Lg.eWE_24, ↓Lg.eWE_26, ↓Lg.eWE_27, ↓Lg.eWO_1, ↓Lg.eWO_2, ↓Lg.eWT_1, ↓Lg.eWT_2, ↓Lg.eWT_4, ↓Lg.eWT_5, ↓Lg.eWT_6, ↓Lg.eWAn_1, ↓Lg.eWOr_1, ↓Lg.eWTo_1, ↓Lg.eWEs_1, ↓Lg.eWEs_2, ↓Lg.eWTs_1, ↓Lg.eWTg_1, ↓Lg.eWTg_3, ↓Lg.eWTgs_1, ↓Lg.eWI_1, ↓Lg.eWI_5, ↓Lg.eWI_6, ↓Lg.eWS_1, ↓Lg.eWS_2, ↓Lg.eWS_6, ↓Lg.eWS_7, ↓Lg.eWS_8, ↓Lg.eWS_12, ↓Lg.eWS_13, ↓Lg.eWS_14, ↓Lg.eWSs_1, ↓Lg.eWE_8, ↓Lg.eWE_12, ↓Lg.eWE_16, ↓Lg.eWE_25, ↓Lg.eWE_28, ↓Lg.eWE_29, ↓Lg.eWE_30, ↓Lg.eWE_31, ↓Lg.eWE_32, ↓Lg.eWE_33, ↓Lg.eWE_34, ↓Lg.eWE_35, ↓Lg.eWS_16, ↓Lg.eWSs_4, ↓Lg.eWE_22, ↓Lg.eWE_21, ↓Lg.eWT_3, ↓Lg.eWT_7, ↓Lg.eWTo_2, ↓Lg.eWTs_2, ↓Lg.eWTg_2, ↓Lg.eWTgs_2, ↓Lg.eWI_2, ↓Lg.eWI_3, ↓Lg.eWI_4, ↓Lg.eWS_3, ↓Lg.eWS_5, ↓Lg.eWS_9, ↓Lg.eWS_10, ↓Lg.eWS_11, ↓Lg.eWS_15, ↓Lg.eWSs_2, ↓Lg.eWSs_3, ↓Lg.eWHs_1, ↓Lg.eWHs_2, ↓Lg.eWHs_3, ↓Lg.eWAn_2, ↓Lg.eWAn_3, ↓Lg.eWOr_2, ↓Lg.eWOr_3, Lg.PF_cf, Lg.PF_gc, Lg.PF_fl, Lg.PF_sb, Lg.PF_hot, Lg.PF_ca, Lg.PF_fa, Lg.Hot_ca, Lg.Hot_fa, Lg.Hot_cf, Lg.Hot_gc, Lg.Hot_fl, Lg.Hot_sb, Lg.Hot_hot, Lg.prmC_ca, Lg.prmC_fa, Lg.BndW_1, Lg.InsC_r, Lg.InsK_i, Lg.insv_i, Lg.insv_r, Lg.cIns_i, Lg.itv_str, Lg.br_t, Lg.br_f, Lg.AND_t, Lg.Opt_s, Lg.Opt_n, Lg.One_1, Lg.Two_1, Lg.AsB_1, Lg.mk_t, Lg.mk_f, Lg.add_i, Lg.add_s, Lg.add_t, Lg.add_l, Lg.sub_i, Lg.mul_i, Lg.mul_l, Lg.set_all2, Lg.mul_t, Lg.mulC_l, Lg.fdiv_i, Lg.mod_i, Lg.pow_i, Lg.eq_i, Lg.ne_i, Lg.eq_s, Lg.ne_s, Lg.lt_i, Lg.le_i, Lg.gt_i, Lg.ge_i, Lg.is_n, Lg.isnt_n, Lg.isNon_bl, Lg.isNon_int, Lg.isNon_str, Lg.isNon_tup, Lg.isNon_lst, Lg.isNon_frl, Lg.isNon_dct, Lg.isNon_ref, Lg.isNon_ins, Lg.isNon_bnd, Lg.isNon_non, Lg.intv_i, Lg.tupv_t, Lg.itv_tup, Lg.itv_lst, Lg.itv_frl, Lg.itv_ref, Lg.seqv_tup, Lg.seqv_lst, Lg.seqv_frl, Lg.seqv_ref, Lg.sub_tup, Lg.sub_lst, Lg.sub_frl, Lg.sub_ref, Lg.subC_l, Lg.subC_d, Lg.slice_t, Lg.slice_l, Lg.slice_f, Lg.blt_len, Lg.len_tup, Lg.len_lst, Lg.len_frl, Lg.len_ref, Lg.cLst_l, Lg.cLen_l, Lg.cLen_d, Lg.blt_abs, Lg.blt_int, Lg.blt_str, Lg.blt_strs, Lg.blt_min, Lg.blt_max, Lg.blt_sum, Lg.blt_tuple, Lg.blt_list, Lg.bltC_list, Lg.hotX_1, Lg.rev_t, Lg.rev_l, Lg.rev_f, Lg.rev_ref, Lg.blt_all, Lg.blt_any, Lg.blt_divmod, Lg.bltC_dict, Lg.shl_i, Lg.shr_i, Lg.and_i, Lg.aug_add, Lg.aug_sub, Lg.lstv_lst, Lg.lstv_ref, Lg.hot_1, Lg.meth_app, Lg.appC_l, Lg.methT_count, Lg.methT_index, Lg.meth_popi, Lg.methT_popi, Lg.popC_l, Lg.methT_app, Lg.set_ref, Lg.setC_l, Lg.setC_d, Lg.kin_str, Lg.inC_d, Lg.keyOf_i, Lg.keyOf_s, Lg.truth_n, Lg.truth_b, Lg.truth_i, Lg.truth_tup, Lg.truth_lst, Lg.truth_frl, Lg.stay_t, Lg.stay_l, Lg.stay_f, Lg.isa_non_int, Lg.isa_non_bool, Lg.isa_non_str, Lg.isa_non_tuple, Lg.isa_non_list, Lg.isa_non_dict, Lg.isa_bl_int, Lg.isa_bl_bool, Lg.isa_bl_str, Lg.isa_bl_tuple, Lg.isa_bl_list, Lg.isa_bl_dict, Lg.isa_int_int, Lg.isa_int_bool, Lg.isa_int_str, Lg.isa_int_tuple, Lg.isa_int_list, Lg.isa_int_dict, Lg.isa_str_int, Lg.isa_str_bool, Lg.isa_str_str, Lg.isa_str_tuple, Lg.isa_str_list, Lg.isa_str_dict, Lg.isa_tup_int, Lg.isa_tup_bool, Lg.isa_tup_str, Lg.isa_tup_tuple, Lg.isa_tup_list, Lg.isa_tup_dict, Lg.isa_lst_int, Lg.isa_lst_bool, Lg.isa_lst_str, Lg.isa_lst_tuple, Lg.isa_lst_list, Lg.isa_lst_dict, Lg.isa_frl_int, Lg.isa_frl_bool, Lg.isa_frl_str, Lg.isa_frl_tuple, Lg.isa_frl_list, Lg.isa_frl_dict, Lg.isa_dct_int, Lg.isa_dct_bool, Lg.isa_dct_str, Lg.isa_dct_tuple, Lg.isa_dct_list, Lg.isa_dct_dict, Lg.rep_0, Lg.rep_1, Lg.rep_2, Lg.rep_3, Lg.rep_4, Lg.rep_5, Lg.rep_6, Lg.rep_7, Lg.rep_8, Lg.rep_9, Lg.rep_10, Lg.rep_11, Lg.rep_12, Lg.rep_13, Lg.rep_14, Lg.rep_15, Lg.rep_16, Lg.rep_17, Lg.rep_18, Lg.rep_19, Lg.rep_20, List.isEmpty_nil, List.isEmpty_cons, Int.reduceLT, Int.reduceLE, Int.reduceEq, Int.reduceToNat, Int.reduceNeg, Int.reduceAdd, Int.reduceSub, Int.reduceMul, Nat.reduceAdd, Nat.reduceSub, Lg.slot_z, Lg.slot_s, Lg.put_same, Lg.put_put, Lg.rngL_len, List.set_cons_zero, List.set_cons_succ, Lg.wipeS, Lg.setAll, Option.map_some, List.map_cons, List.map_nil, List.cons_append, List.nil_append, List.length_cons, List.length_nil, List.length_map, List.zip_cons_cons, List.zip_nil_left, decide_true, decide_false, Bool.not_true, Bool.not_false, Option.isSome_some, Lg.Tgs.len])
/-! ### the laws' common beginning: draws -/
namespace Lg
open PySem PySem.Spec PyProof.Rows L2
set_option checkBinderAnnotations false
def w_draws : Ss := .cons (.set (.nm 1) (.new .nil)) (.cons (.for_ (.nm 2) (.sq (.slc (.v 0) .no (.ex (.k (.int 63))))) [2, 3, 4, 5] (.cons (.set (.nm 3) (.blt .abs (.cons (.v 2) .nil))) (.cons (.ife (.cmp .GtE (.v 3) (.bin .Pow (.k (.int 10)) (.k (.int 18)))) (.cons (.for_ (.nm 4) (.r1 (.k (.int 60))) [4] (.cons (.ife (.cmp .Gt (.v 3) (.k (.int 0))) (.cons (.ex (.meth .append (.v 1) (.cons (.bin .Mod (.blt .int (.cons (.v 3) .nil)) (.k (.int 1009))) .nil))) (.cons (.set (.nm 3) (.bin .FloorDiv (.v 3) (.k (.int 1009)))) .nil)) .nil) .nil)) .nil) (.cons (.set (.nm 5) (.bin .Mod (.blt .int (.cons (.bin .Add (.bin .Mult (.v 3) (.k (.int 48271))) (.k (.int 11))) .nil)) (.k (.int 2147483647)))) (.cons (.for_ (.nm 4) (.r1 (.k (.int 12))) [4] (.cons (.set (.nm 5) (.bin .Mod (.blt .int (.cons (.bin .Add (.bin .Add (.bin .Mult (.v 5) (.k (.int 16807))) (.bin .Mult (.k (.int 69621)) (.v 4))) (.k (.int 5))) .nil)) (.k (.int 2147483629)))) (.cons (.ex (.meth .append (.v 1) (.cons (.bin .FloorDiv (.v 5) (.k (.int 1009))) .nil))) .nil))) .nil))) .nil))) (.cons (.ret (.v 1)) .nil))
def w_more : Ss := .cons (.set (.nm 2) (.bin .Mod (.blt .int (.cons (.bin .Add (.bin .Add (.bin .Mult (.v 1) (.k (.int 48271))) (.blt .len (.cons (.v 0) .nil))) (.k (.int 11))) .nil)) (.k (.int 2147483629)))) (.cons (.for_ (.nm 3) (.r1 (.k (.int 3))) [3] (.cons (.ife (.e (.v 0)) (.cons (.set (.nm 2) (.bin .Add (.v 2) (.sub (.v 0) (.bin .Mod (.blt .int (.cons (.bin .Add (.bin .Mult (.v 1) (.bin .Add (.v 3) (.k (.int 5)))) (.v 3)) .nil)) (.blt .len (.cons (.v 0) .nil)))))) .nil) .nil) (.cons (.set (.nm 2) (.bin .Mod (.blt .int (.cons (.bin .Add (.bin .Add (.bin .Mult (.v 2) (.k (.int 16807))) (.bin .Mult (.k (.int 69621)) (.v 3))) (.k (.int 5))) .nil)) (.k (.int 2147483629)))) .nil))) (.cons (.ret (.bin .FloorDiv (.v 2) (.k (.int 1009)))) .nil))
def w_take (c : Nat) : Ss := .cons (.set (.nm 3) (.sub (.v 1) (.k (.int 0)))) (.cons (.set (.sb (.v 1) (.k (.int 0))) (.bin .Add (.v 3) (.k (.int 1)))) (.cons (.ret (.bin .Mod (.blt .int (.cons (.ife (.cmp .Lt (.v 3) (.blt .len (.cons (.v 0) .nil))) (.sub (.v 0) (.v 3)) (.call c (.cons (.v 0) (.cons (.v 3) .nil)))) .nil)) (.v 2))) .nil))
def w_one (c : Nat) : Ss := .cons (.ret (.sub (.v 0) (.call c (.cons (.v 1) (.cons (.v 2) (.cons (.blt .len (.cons (.v 0) .nil)) .nil)))))) .nil
theorem at_some {α : Type} {xs : List α} {z : Int} (h0 : 0 ≤ z) (h1 : z < xs.length) : ∃ x, atI xs z = some x ∧ x ∈ xs := by
  obtain ⟨k, rfl⟩ := Int.eq_ofNat_of_zero_le h0
  have hk : k < xs.length := by omega
  refine ⟨xs[k], ?_, List.getElem_mem hk⟩
  unfold atI ixN
  rw [if_pos h0, if_pos h1]
  simp [hk]
theorem at_map {is : List Int} {z : Int} (h0 : 0 ≤ z) (h1 : z < is.length) : ∃ x, atI (is.map D.int) z = some (.int x) := by
  obtain ⟨x, e, m⟩ := at_some (xs := is.map D.int) h0 (by simpa using h1)
  obtain ⟨y, _, rfl⟩ := List.mem_map.mp m
  exact ⟨y, e⟩
theorem at_0 {α : Type} {x : α} {xs : List α} : atI (x :: xs) 0 = some x := by
  unfold atI ixN; simp
theorem at_1 {α : Type} {x y : α} {xs : List α} : atI (x :: y :: xs) 1 = some y := by
  unfold atI ixN; rw [if_pos (by decide), if_pos (by simp only [List.length_cons]; omega)]; rfl
theorem at_2 {α : Type} {x y z : α} {xs : List α} : atI (x :: y :: z :: xs) 2 = some z := by
  unfold atI ixN; rw [if_pos (by decide), if_pos (by simp only [List.length_cons]; omega)]; rfl
theorem rngC_len (lo c : Int) (n : Nat) : (rngC lo c n).length = n := by simp [rngC]
theorem at_nat {α : Type} {xs : List α} {k : Nat} : atI xs (k : Int) = xs[k]? := by
  unfold atI ixN
  by_cases z : k < xs.length
  · rw [if_pos (by omega), if_pos (by omega)]; simp
  · rw [if_pos (by omega), if_neg (by omega), List.getElem?_eq_none (by omega)]; rfl
theorem at_nat1 {α : Type} {xs : List α} {k : Nat} : atI xs ((k : Int) + 1) = xs[k + 1]? := at_nat (k := k + 1)
theorem ix_nat {n k : Nat} (h : k < n) : ixN n (k : Int) = some k := by
  unfold ixN
  rw [if_pos (by omega), if_pos (by omega)]; simp
theorem ix_1 : ixN 1 0 = some 0 := by decide
section
variable {P : Prm} {tb : Nat → Option Fn} {n i c : Nat} {h : LH} {Q : QD} {e : EX}
theorem draws_s (hi : tb i = some ⟨1, 6, w_draws⟩) {ns : List Int} (k : ∀ is : List Int, Q (.lst (is.map D.int)) h) : CF P tb (n + 1) i [.frl (ns.map D.int)] h Q e := by
  refine CF_of hi rfl ?_
  dsimp only
  unfold w_draws
  repeat (first | (simp_arith) | ((with_reducible refine AND_of ?_ ?_); (first | decide | exact mulR (by decide) (by decide) | exact mulL (by decide) (by decide) | exact ⟨by decide, by decide, by decide⟩)))
  refine New_of fun a ha => ?_
  repeat (first | (simp_arith) | ((with_reducible refine AND_of ?_ ?_); (first | decide | exact mulR (by decide) (by decide) | exact mulL (by decide) (by decide) | exact ⟨by decide, by decide, by decide⟩)))
  refine Loop_of (fun i ρ h' => ∃ is : List Int, is.length ≤ 60 * i ∧ ρ = [some (.frl (ns.map D.int)), some (.ref a), none, none, none, none] ∧ h' = put h a (.lst (is.map D.int))) ⟨[], by simp, rfl, rfl⟩ ?_ ?_
  · rintro i d ρ h' hd ⟨is, hl, rfl, rfl⟩
    have hd : ((ns.map D.int).take 63)[i]? = some d := by rw [← cut_hi]; exact hd
    have hi : i < 63 := by
      have := (List.getElem?_eq_some_iff.mp hd).1
      rw [List.length_take] at this; omega
    obtain ⟨x, rfl⟩ : ∃ x, d = .int x := by
      have := List.mem_of_mem_take (List.mem_of_getElem? hd)
      obtain ⟨x, _, rfl⟩ := List.mem_map.mp this
      exact ⟨x, rfl⟩
    simp_arith
    generalize (if x < 0 then -x else x) = r
    repeat (first | (simp_arith) | ((with_reducible refine AND_of ?_ ?_); (first | decide | exact mulR (by decide) (by decide) | exact mulL (by decide) (by decide) | exact ⟨by decide, by decide, by decide⟩)))
    refine br_of (fun _ => ?_) (fun _ => ?_)
    · repeat (first | (simp_arith) | ((with_reducible refine AND_of ?_ ?_); (first | decide | exact mulR (by decide) (by decide) | exact mulL (by decide) (by decide) | exact ⟨by decide, by decide, by decide⟩)))
      refine Loop_of (fun j ρ h' => ∃ (is : List Int) (r : Int), is.length ≤ 60 * i + j ∧ ρ = [some (.frl (ns.map D.int)), some (.ref a), some (.int x), some (.int r), none, none] ∧ h' = put h a (.lst (is.map D.int))) ⟨is, r, by omega, rfl, rfl⟩ ?_ ?_
      · rintro j d ρ h' hj ⟨is, r, hl, rfl, rfl⟩
        obtain ⟨hj, rfl⟩ := rngL_get hj
        repeat (first | (simp_arith) | ((with_reducible refine AND_of ?_ ?_); (first | decide | exact mulR (by decide) (by decide) | exact mulL (by decide) (by decide) | exact ⟨by decide, by decide, by decide⟩)))
        refine br_of (fun _ => ?_) (fun _ => ?_)
        · repeat (first | (simp_arith) | ((with_reducible refine AND_of ?_ ?_); (first | decide | exact mulR (by decide) (by decide) | exact mulL (by decide) (by decide) | exact ⟨by decide, by decide, by decide⟩)))
          refine AND_of (by unfold sizeLine; omega) ?_
          repeat (first | (simp_arith) | ((with_reducible refine AND_of ?_ ?_); (first | decide | exact mulR (by decide) (by decide) | exact mulL (by decide) (by decide) | exact ⟨by decide, by decide, by decide⟩)))
          refine ⟨is ++ [r % 1009], r / 1009, ?_, rfl, ?_⟩
          · simp; omega
          · simp
        · repeat (first | (simp_arith) | ((with_reducible refine AND_of ?_ ?_); (first | decide | exact mulR (by decide) (by decide) | exact mulL (by decide) (by decide) | exact ⟨by decide, by decide, by decide⟩)))
          exact ⟨is, r, by omega, (by first | rfl | trivial), (by first | rfl | trivial)⟩
      · rintro ρ h' ⟨is, r, hl, rfl, rfl⟩
        repeat (first | (simp_arith) | ((with_reducible refine AND_of ?_ ?_); (first | decide | exact mulR (by decide) (by decide) | exact mulL (by decide) (by decide) | exact ⟨by decide, by decide, by decide⟩)))
        exact ⟨is, by simp [rngL_len] at hl; omega, (by first | rfl | trivial), (by first | rfl | trivial)⟩
    · repeat (first | (simp_arith) | ((with_reducible refine AND_of ?_ ?_); (first | decide | exact mulR (by decide) (by decide) | exact mulL (by decide) (by decide) | exact ⟨by decide, by decide, by decide⟩)))
      refine Loop_of (fun j ρ h' => ∃ (is : List Int) (m : Int), is.length ≤ 60 * i + j ∧ ρ = [some (.frl (ns.map D.int)), some (.ref a), some (.int x), some (.int r), none, some (.int m)] ∧ h' = put h a (.lst (is.map D.int))) ⟨is, _, by omega, rfl, rfl⟩ ?_ ?_
      · rintro j d ρ h' hj ⟨is, m, hl, rfl, rfl⟩
        obtain ⟨hj, rfl⟩ := rngL_get hj
        repeat (first | (simp_arith) | ((with_reducible refine AND_of ?_ ?_); (first | decide | exact mulR (by decide) (by decide) | exact mulL (by decide) (by decide) | exact ⟨by decide, by decide, by decide⟩)))
        refine AND_of (by unfold sizeLine; omega) ?_
        repeat (first | (simp_arith) | ((with_reducible refine AND_of ?_ ?_); (first | decide | exact mulR (by decide) (by decide) | exact mulL (by decide) (by decide) | exact ⟨by decide, by decide, by decide⟩)))
        exact ⟨is ++ [(m * 16807 + 69621 * (0 + (j : Int)) + 5) % 2147483629 / 1009], _, by simp; omega, rfl, by simp⟩
      · rintro ρ h' ⟨is, r, hl, rfl, rfl⟩
        repeat (first | (simp_arith) | ((with_reducible refine AND_of ?_ ?_); (first | decide | exact mulR (by decide) (by decide) | exact mulL (by decide) (by decide) | exact ⟨by decide, by decide, by decide⟩)))
        exact ⟨is, by simp [rngL_len] at hl; omega, (by first | rfl | trivial), (by first | rfl | trivial)⟩
  · rintro ρ h' ⟨is, hl, rfl, rfl⟩
    repeat (first | (simp_arith) | ((with_reducible refine AND_of ?_ ?_); (first | decide | exact mulR (by decide) (by decide) | exact mulL (by decide) (by decide) | exact ⟨by decide, by decide, by decide⟩)))
    exact Done_frz ha (k is)
theorem more_s (hi : tb i = some ⟨2, 4, w_more⟩) {is : List Int} {p : Int} (k : ∀ r : Int, Q (.int r) h) : CF P tb (n + 1) i [.lst (is.map D.int), .int p] h Q e := by
  refine CF_of hi rfl ?_
  dsimp only
  unfold w_more
  repeat (first | (simp_arith) | ((with_reducible refine AND_of ?_ ?_); (first | decide | exact mulR (by decide) (by decide) | exact mulL (by decide) (by decide) | exact ⟨by decide, by decide, by decide⟩)))
  refine Loop_of (fun j ρ h' => ∃ m : Int, ρ = [some (.lst (is.map D.int)), some (.int p), some (.int m), none] ∧ h' = h) ⟨_, rfl, rfl⟩ ?_ ?_
  · rintro j d ρ h' hj ⟨m, rfl, rfl⟩
    obtain ⟨hj, rfl⟩ := rngL_get hj
    repeat (first | (simp_arith) | ((with_reducible refine AND_of ?_ ?_); (first | decide | exact mulR (by decide) (by decide) | exact mulL (by decide) (by decide) | exact ⟨by decide, by decide, by decide⟩)))
    refine br_of (fun hn => ?_) (fun hn => ?_)
    · repeat (first | (simp_arith) | ((with_reducible refine AND_of ?_ ?_); (first | decide | exact mulR (by decide) (by decide) | exact mulL (by decide) (by decide) | exact ⟨by decide, by decide, by decide⟩)))
      refine AND_of (mulR (by omega) (by omega)) ?_
      repeat (first | (simp_arith) | ((with_reducible refine AND_of ?_ ?_); (first | decide | exact mulR (by decide) (by decide) | exact mulL (by decide) (by decide) | exact ⟨by decide, by decide, by decide⟩)))
      have hl : 0 < is.length := by
        cases is with
        | nil => simp at hn
        | cons => simp
      simp_arith only [List.length_map, show decide ((0 : Int) < is.length) = true by simpa using hl]
      have hp := Int.emod_nonneg (p * (0 + ↑j + 5) + (0 + ↑j)) (show (is.length : Int) ≠ 0 by omega)
      have hq := Int.emod_lt_of_pos (p * (0 + ↑j + 5) + (0 + ↑j)) (show (0 : Int) < is.length by omega)
      generalize (p * (0 + ↑j + 5) + (0 + ↑j)) % (is.length : Int) = z at hp hq
      obtain ⟨y, hy⟩ := at_map (is := is) hp hq
      simp_arith only [hy]
      repeat (first | (simp_arith) | ((with_reducible refine AND_of ?_ ?_); (first | decide | exact mulR (by decide) (by decide) | exact mulL (by decide) (by decide) | exact ⟨by decide, by decide, by decide⟩)))
      exact ⟨_, rfl, (by first | rfl | trivial)⟩
    · repeat (first | (simp_arith) | ((with_reducible refine AND_of ?_ ?_); (first | decide | exact mulR (by decide) (by decide) | exact mulL (by decide) (by decide) | exact ⟨by decide, by decide, by decide⟩)))
      exact ⟨_, rfl, (by first | rfl | trivial)⟩
  · rintro ρ h' ⟨m, rfl, rfl⟩
    repeat (first | (simp_arith) | ((with_reducible refine AND_of ?_ ?_); (first | decide | exact mulR (by decide) (by decide) | exact mulL (by decide) (by decide) | exact ⟨by decide, by decide, by decide⟩)))
    exact Done_of (k _)
theorem take_s (hi : tb i = some ⟨3, 4, w_take c⟩) (hc : tb c = some ⟨2, 4, w_more⟩) {is : List Int} {a : Addr} {p many : Int} (ha : h a = some (.lst [.int p])) (hp : 0 ≤ p) (hm : 0 < many)
    (k : ∀ r, 0 ≤ r → r < many → Q (.int r) (put h a (.lst [.int (p + 1)]))) : CF P tb (n + 2) i [.lst (is.map D.int), .ref a, .int many] h Q e := by
  refine CF_of hi rfl ?_
  dsimp only
  unfold w_take
  have hd : decide (0 < many) = true := by simpa using hm
  simp_arith only [ha, at_0, ix_1]
  refine br_of (fun hq => ?_) (fun hq => ?_)
  · simp_arith
    obtain ⟨y, hy⟩ := at_map (is := is) hp (by simpa using hq)
    simp_arith only [hy, hd]
    exact Done_of (k _ (Int.emod_nonneg _ (by omega)) (Int.emod_lt_of_pos _ hm))
  · simp_arith
    refine more_s hc fun r => ?_
    simp_arith only [hd]
    exact Done_of (k _ (Int.emod_nonneg _ (by omega)) (Int.emod_lt_of_pos _ hm))
theorem one_s {t : Nat} (hi : tb i = some ⟨3, 3, w_one t⟩) (ht : tb t = some ⟨3, 4, w_take c⟩) (hc : tb c = some ⟨2, 4, w_more⟩) {is : List Int} {a : Addr} {p : Int} {ds : List D} (ha : h a = some (.lst [.int p])) (hp : 0 ≤ p) (hm : 0 < ds.length)
    (k : ∀ d, d ∈ ds → Q d (put h a (.lst [.int (p + 1)]))) : CF P tb (n + 3) i [.lst ds, .lst (is.map D.int), .ref a] h Q e := by
  refine CF_of hi rfl ?_
  dsimp only
  unfold w_one
  simp_arith
  refine take_s ht hc ha hp (by omega) fun r h0 h1 => ?_
  obtain ⟨d, e1, e2⟩ := at_some (xs := ds) h0 h1
  simp_arith only [e1]
  exact Done_of (k d e2)
theorem one_t {t : Nat} (hi : tb i = some ⟨3, 3, w_one t⟩) (ht : tb t = some ⟨3, 4, w_take c⟩) (hc : tb c = some ⟨2, 4, w_more⟩) {is : List Int} {a : Addr} {p : Int} {ds : List D} (ha : h a = some (.lst [.int p])) (hp : 0 ≤ p) (hm : 0 < ds.length)
    (k : ∀ d, d ∈ ds → Q d (put h a (.lst [.int (p + 1)]))) : CF P tb (n + 3) i [.tup ds, .lst (is.map D.int), .ref a] h Q e := by
  refine CF_of hi rfl ?_
  dsimp only
  unfold w_one
  simp_arith
  refine take_s ht hc ha hp (by omega) fun r h0 h1 => ?_
  obtain ⟨d, e1, e2⟩ := at_some (xs := ds) h0 h1
  simp_arith only [e1]
  exact Done_of (k d e2)
end
section
variable {h : LH} {Q : QD}
theorem pyL_ints : ∀ {is : List Int}, pyL (is.map D.int) = some (is.map PyData.int)
  | [] => rfl
  | i :: is => by simp only [List.map_cons, pyL, D.py, pyL_ints (is := is)]
theorem depthAll_ints : ∀ {is : List Int}, PyData.depthAll (is.map PyData.int) = 0
  | [] => rfl
  | i :: is => by simp only [List.map_cons, PyData.depthAll, PyData.depth, depthAll_ints (is := is)]; rfl
theorem minBy_ints : ∀ {is : List Int} {i : Int}, minBy pyD (.int i) (is.map D.int) = .int (is.foldl (fun a y => if y < a then y else a) i)
  | [], _ => rfl
  | j :: is, i => by
    have := minBy_ints (is := is) (i := if j < i then j else i)
    unfold minBy at this ⊢
    rw [List.map_cons, List.foldl_cons, List.foldl_cons, ← this]
    congr 1
    by_cases z : j < i <;> simp [pyD, D.py, PySem.W.dataLt_int, z]
theorem maxBy_ints : ∀ {is : List Int} {i : Int}, maxBy pyD (.int i) (is.map D.int) = .int (is.foldl (fun a y => if a < y then y else a) i)
  | [], _ => rfl
  | j :: is, i => by
    have := maxBy_ints (is := is) (i := if i < j then j else i)
    unfold maxBy at this ⊢
    rw [List.map_cons, List.foldl_cons, List.foldl_cons, ← this]
    congr 1
    by_cases z : i < j <;> simp [pyD, D.py, PySem.W.dataLt_int, z]
theorem alike_ints {is : List Int} : PySem.W.AlikeAll (is.map PyData.int) := by
  refine ⟨fun x hx y hy => ?_, fun x hx => ?_⟩
  · obtain ⟨a, _, rfl⟩ := List.mem_map.mp hx
    obtain ⟨b, _, rfl⟩ := List.mem_map.mp hy
    first | rfl | simp [PySem.W.alike]
  · obtain ⟨a, _, rfl⟩ := List.mem_map.mp hx
    exact nofun
theorem min_ints {i : Int} {is : List Int} (q : Q (.int (is.foldl (fun a y => if y < a then y else a) i)) h) : @wblt .min [.lst ((i :: is).map D.int)] h ⟨Q⟩ := by
  show opt (pyL ((i :: is).map D.int)) fun as => (PySem.W.AlikeAll as ∧ PyData.depthAll as ≤ 60) ∧ Q (minBy pyD (.int i) (is.map D.int)) h
  rw [pyL_ints, minBy_ints]
  exact ⟨⟨alike_ints, by rw [depthAll_ints]; decide⟩, q⟩
theorem max_ints {i : Int} {is : List Int} (q : Q (.int (is.foldl (fun a y => if a < y then y else a) i)) h) : @wblt .max [.lst ((i :: is).map D.int)] h ⟨Q⟩ := by
  show opt (pyL ((i :: is).map D.int)) fun as => (PySem.W.AlikeAll as ∧ PyData.depthAll as ≤ 60) ∧ Q (maxBy pyD (.int i) (is.map D.int)) h
  rw [pyL_ints, maxBy_ints]
  exact ⟨⟨alike_ints, by rw [depthAll_ints]; decide⟩, q⟩
theorem allInt_ints : ∀ {is : List Int}, allInt (is.map D.int) = some is
  | [] => rfl
  | i :: is => by simp only [List.map_cons, allInt, allInt_ints (is := is), Option.map_some]
end
end Lg

namespace Lg
open PySem
/-! ### repr tells data apart: None, bools, ints, tuples of such -/
def lc (s : Str) : List Nat := s.cps.toList
theorem lc_app (a b : Str) : lc (a ++ b) = lc a ++ lc b := by
  show (a.cps ++ b.cps).toList = _
  rw [Array.toList_append]; rfl
theorem lc_of (s : String) : lc (Str.ofString s) = s.toList.map Char.toNat := by
  unfold lc; rw [Str.ofString_eq_toList]
theorem lc_inj {a b : Str} (h : lc a = lc b) : a = b := by
  cases a with | mk x => cases b with | mk y =>
    have : x = y := Array.toList_inj.mp h
    rw [this]
mutual
def flat : PyData → Bool
  | .none | .bool _ | .int _ => true
  | .tuple xs => flatL xs
  | _ => false
def flatL : List PyData → Bool
  | [] => true
  | x :: xs => flat x && flatL xs
end
def stopL (x : List Nat) : Prop := x = [] ∨ ∃ c r, x = c :: r ∧ (c = 44 ∨ c = 41)
def tokC (c : Nat) : Prop := c ≠ 44 ∧ c ≠ 41 ∧ c ≠ 40
instance {c : Nat} : Decidable (tokC c) := inferInstanceAs (Decidable (_ ∧ _ ∧ _))
theorem stop_no {x t : List Nat} {c : Nat} (s : stopL x) (h : tokC c) : x ≠ c :: t := by
  rintro rfl
  rcases s with s | ⟨c', r, e, h'⟩
  · cases s
  · cases e; rcases h' with h' | h'
    · exact h.1 h'
    · exact h.2.1 h'
theorem tok_split : ∀ {t u x y : List Nat}, (∀ c ∈ t, tokC c) → (∀ c ∈ u, tokC c) → stopL x → stopL y → t ++ x = u ++ y → t = u ∧ x = y
  | [], [], _, _, _, _, _, _, h => ⟨rfl, h⟩
  | [], c :: u, _, _, _, hu, sx, _, h => (stop_no sx (hu c (List.mem_cons_self ..)) h).elim
  | c :: t, [], _, _, ht, _, _, sy, h => (stop_no sy (ht c (List.mem_cons_self ..)) h.symm).elim
  | c :: t, d :: u, _, _, ht, hu, sx, sy, h => by
    simp only [List.cons_append, List.cons.injEq] at h
    obtain ⟨e1, e2⟩ := tok_split (fun c hc => ht c (List.mem_cons_of_mem _ hc)) (fun c hc => hu c (List.mem_cons_of_mem _ hc)) sx sy h.2
    exact ⟨by rw [h.1, e1], e2⟩
def dg (n : Nat) : List Nat := (Nat.toDigits 10 n).map Char.toNat
theorem dg_mem {n c : Nat} (h : c ∈ dg n) : 48 ≤ c ∧ c ≤ 57 := by
  obtain ⟨x, hx, rfl⟩ := List.mem_map.mp h
  have := Nat.isDigit_of_mem_toDigits (by decide) (by decide) hx
  unfold Char.isDigit at this
  simp only [ge_iff_le, Bool.and_eq_true, decide_eq_true_eq] at this
  exact ⟨this.1, this.2⟩
theorem dg_inj {n m : Nat} (h : dg n = dg m) : n = m := by
  have e : Nat.toDigits 10 n = Nat.toDigits 10 m := by
    refine List.map_inj_right (f := Char.toNat) (fun a b h => ?_) |>.mp h
    exact Char.toNat_inj.mp h
  rw [← Nat.ofDigitChars_ten_toDigits (n := n), e, Nat.ofDigitChars_ten_toDigits]
theorem dg_ne {n : Nat} : dg n ≠ [] := fun h => Nat.toDigits_ne_nil (List.map_eq_nil_iff.mp h)
theorem sh_nat (n : Nat) : lc (PyData.shown (.int (n : Int))) = dg n := by
  rw [PyData.shown]
  show lc (Str.ofString (toString (n : Int))) = _
  rw [lc_of]
  have e : toString (n : Int) = n.repr := rfl
  rw [e, Nat.toList_repr]; rfl
theorem sh_neg (n : Nat) : lc (PyData.shown (.int (Int.negSucc n))) = 45 :: dg (n + 1) := by
  rw [PyData.shown]
  show lc (Str.ofString (toString (Int.negSucc n))) = _
  rw [lc_of]
  have e : toString (Int.negSucc n) = "-" ++ (n + 1).repr := rfl
  rw [e, String.toList_append, List.map_append, Nat.toList_repr]; rfl
/-- a scalar's signs -/
def scal : PyData → Bool
  | .none | .bool _ | .int _ => true
  | _ => false
theorem scal_tok {d : PyData} (h : scal d = true) : ∀ c ∈ lc d.shown, tokC c := by
  cases d with
  | none => decide
  | bool b => cases b <;> decide
  | int i =>
    cases i with
    | ofNat n =>
      intro c hc
      rw [show Int.ofNat n = (n : Int) from rfl, sh_nat] at hc
      have := dg_mem hc
      unfold tokC; omega
    | negSucc n =>
      intro c hc
      rw [sh_neg] at hc
      rcases List.mem_cons.mp hc with rfl | hc
      · unfold tokC; omega
      · have := dg_mem hc
        unfold tokC; omega
  | _ => cases h
theorem lc_none : lc PyData.none.shown = [78, 111, 110, 101] := by decide
theorem lc_true : lc (PyData.bool true).shown = [84, 114, 117, 101] := by decide
theorem lc_false : lc (PyData.bool false).shown = [70, 97, 108, 115, 101] := by decide
theorem int_hd {i : Int} {c : Nat} {r : List Nat} (h : lc (PyData.int i).shown = c :: r) : c ≤ 57 := by
  cases i with
  | ofNat n =>
    rw [show Int.ofNat n = (n : Int) from rfl, sh_nat] at h
    exact (dg_mem (n := n) (c := c) (by rw [h]; exact List.mem_cons_self ..)).2
  | negSucc n => rw [sh_neg] at h; cases h; decide
theorem int_sh {i j : Int} (h : lc (PyData.int i).shown = lc (PyData.int j).shown) : i = j := by
  cases i with
  | ofNat n =>
    rw [show Int.ofNat n = (n : Int) from rfl, sh_nat] at h
    cases j with
    | ofNat m =>
      rw [show Int.ofNat m = (m : Int) from rfl, sh_nat] at h
      rw [dg_inj h]
    | negSucc m =>
      rw [sh_neg] at h
      have := (dg_mem (n := n) (c := 45) (by rw [h]; exact List.mem_cons_self ..)).1
      omega
  | negSucc n =>
    rw [sh_neg] at h
    cases j with
    | ofNat m =>
      rw [show Int.ofNat m = (m : Int) from rfl, sh_nat] at h
      have := (dg_mem (n := m) (c := 45) (by rw [← h]; exact List.mem_cons_self ..)).1
      omega
    | negSucc m =>
      rw [sh_neg] at h
      cases dg_inj (List.cons.inj h).2
      rfl
theorem scal_inj {d e : PyData} (hd : scal d = true) (he : scal e = true) (h : lc d.shown = lc e.shown) : d = e := by
  cases d <;> first | (cases hd; done) | skip
  all_goals cases e <;> first | (cases he; done) | skip
  · rfl
  · rename_i b; cases b <;> exact absurd h (by decide)
  · rename_i i; rw [lc_none] at h; exact absurd (int_hd h.symm) (by decide)
  · rename_i b; cases b <;> exact absurd h (by decide)
  · rename_i b c; cases b <;> cases c <;> first | rfl | exact absurd h (by decide)
  · rename_i b i; cases b
    · rw [lc_false] at h; exact absurd (int_hd h.symm) (by decide)
    · rw [lc_true] at h; exact absurd (int_hd h.symm) (by decide)
  · rename_i i; rw [lc_none] at h; exact absurd (int_hd h) (by decide)
  · rename_i i b; cases b
    · rw [lc_false] at h; exact absurd (int_hd h) (by decide)
    · rw [lc_true] at h; exact absurd (int_hd h) (by decide)
  · rename_i i j; rw [int_sh h]
def tlT : List PyData → List Nat
  | [] => []
  | x :: xs => 44 :: 32 :: (lc x.shown ++ tlT xs)
def bdT : List PyData → List Nat → List Nat
  | [], x => 41 :: x
  | [a], x => lc a.shown ++ 44 :: 41 :: x
  | a :: b :: r, x => lc a.shown ++ (tlT (b :: r) ++ 41 :: x)
theorem lc_join : ∀ {r : List PyData} {a : PyData}, lc (Str.join ", " (a.shown :: PyData.shownAll r)) = lc a.shown ++ tlT r
  | [], a => by simp [PyData.shownAll, Str.join, tlT]
  | b :: r, a => by
    have ih := lc_join (r := r) (a := b)
    rw [PyData.shownAll]
    show lc (a.shown ++ ((", " : String) : Str) ++ Str.join ", " (b.shown :: PyData.shownAll r)) = _
    rw [lc_app, lc_app, ih, tlT]
    have : lc ((", " : String) : Str) = [44, 32] := by decide
    rw [this]
    simp
theorem lc_tup {ds : List PyData} {x : List Nat} : lc (PyData.tuple ds).shown ++ x = 40 :: bdT ds x := by
  rw [PyData.shown]
  unfold tupleText
  rw [lc_app, lc_app]
  have e1 : lc (("(" : String) : Str) = [40] := by decide
  have e2 : lc ((",)" : String) : Str) = [44, 41] := by decide
  have e3 : lc ((")" : String) : Str) = [41] := by decide
  rw [e1]
  match ds with
  | [] =>
    rw [PyData.shownAll]
    show [40] ++ lc (Str.join ", " []) ++ lc (((if (([] : List Str).length == 1) = true then ",)" else ")") : String) : Str) ++ x = _
    rw [if_neg (by decide), e3]
    rfl
  | [a] =>
    have e : PyData.shownAll [a] = a.shown :: PyData.shownAll [] := by simp only [PyData.shownAll]
    rw [e, lc_join]
    rw [if_pos (by rfl), e2]
    simp [tlT, bdT]
  | a :: b :: r =>
    have e : PyData.shownAll (a :: b :: r) = a.shown :: PyData.shownAll (b :: r) := by rw [PyData.shownAll]
    rw [e, lc_join]
    rw [if_neg (by rw [PyData.shownAll]; simp), e3]
    simp [bdT]
theorem hd_ok {d : PyData} (h : flat d = true) {x y : List Nat} : lc d.shown ++ x ≠ 41 :: y := by
  intro z
  by_cases s : scal d = true
  · have t := scal_tok s
    cases e : lc d.shown with
    | nil =>
      cases d with
      | none => rw [lc_none] at e; cases e
      | bool b => cases b <;> (revert e; decide)
      | int i => cases i with
        | ofNat n => rw [show Int.ofNat n = (n : Int) from rfl, sh_nat] at e; exact dg_ne e
        | negSucc n => rw [sh_neg] at e; cases e
      | _ => cases s
    | cons c r =>
      rw [e] at z t
      simp only [List.cons_append, List.cons.injEq] at z
      exact (t c (List.mem_cons_self ..)).2.1 z.1
  · cases d with
    | tuple ds => rw [lc_tup] at z; simp at z
    | none => exact s rfl
    | bool b => exact s rfl
    | int i => exact s rfl
    | _ => simp [flat] at h
theorem scal_ne {d : PyData} (s : scal d = true) {x y : List Nat} (sx : stopL x) : lc d.shown ++ x ≠ 40 :: y := by
  intro z
  have t := scal_tok s
  cases e : lc d.shown with
  | nil =>
    rw [e] at z
    rcases sx with rfl | ⟨c, r, rfl, h | h⟩
    · cases z
    · simp at z; omega
    · simp at z; omega
  | cons c r =>
    rw [e] at z t
    simp only [List.cons_append, List.cons.injEq] at z
    exact (t c (List.mem_cons_self ..)).2.2 z.1
theorem stop_tl {ds : List PyData} {x : List Nat} : stopL (tlT ds ++ 41 :: x) := by
  cases ds with
  | nil => exact .inr ⟨41, x, rfl, .inr rfl⟩
  | cons d ds => exact .inr ⟨44, _, rfl, .inl rfl⟩
theorem stop_1 {x : List Nat} : stopL (44 :: x) := .inr ⟨44, x, rfl, .inl rfl⟩
mutual
theorem sh_inj : ∀ (d e : PyData) (x y : List Nat), flat d = true → flat e = true → stopL x → stopL y → lc d.shown ++ x = lc e.shown ++ y → d = e ∧ x = y
  | .tuple ds, e, x, y, hd, he, sx, sy, h => by
    rw [lc_tup] at h
    cases e with
    | tuple es =>
      rw [lc_tup] at h
      simp only [List.cons.injEq, true_and] at h
      obtain ⟨e1, e2⟩ := sh_bd ds es x y (by simpa [flat] using hd) (by simpa [flat] using he) h
      exact ⟨by rw [e1], e2⟩
    | none => exact absurd h.symm (scal_ne rfl sy)
    | bool b => exact absurd h.symm (scal_ne rfl sy)
    | int i => exact absurd h.symm (scal_ne rfl sy)
    | _ => simp [flat] at he
  | .none, e, x, y, hd, he, sx, sy, h => sh_scal rfl he sx sy h
  | .bool b, e, x, y, hd, he, sx, sy, h => sh_scal rfl he sx sy h
  | .int i, e, x, y, hd, he, sx, sy, h => sh_scal rfl he sx sy h
  | .str s, e, x, y, hd, he, sx, sy, h => by simp [flat] at hd
  | .list s, e, x, y, hd, he, sx, sy, h => by simp [flat] at hd
  | .dict s, e, x, y, hd, he, sx, sy, h => by simp [flat] at hd
theorem sh_scal {d e : PyData} {x y : List Nat} (s : scal d = true) (he : flat e = true) (sx : stopL x) (sy : stopL y) (h : lc d.shown ++ x = lc e.shown ++ y) : d = e ∧ x = y := by
  by_cases t : scal e = true
  · obtain ⟨e1, e2⟩ := tok_split (scal_tok s) (scal_tok t) sx sy h
    exact ⟨scal_inj s t e1, e2⟩
  · cases e with
    | tuple es => rw [lc_tup (x := y)] at h; exact absurd h (scal_ne s sx)
    | none => exact absurd rfl t
    | bool b => exact absurd rfl t
    | int i => exact absurd rfl t
    | _ => simp [flat] at he
theorem sh_bd : ∀ (ds es : List PyData) (x y : List Nat), flatL ds = true → flatL es = true → bdT ds x = bdT es y → ds = es ∧ x = y
  | [], [], x, y, _, _, h => ⟨rfl, by simpa [bdT] using h⟩
  | [], [b], x, y, _, he, h => by
    simp only [flatL, Bool.and_eq_true] at he
    exact absurd h.symm (hd_ok he.1)
  | [], b :: c :: r, x, y, _, he, h => by
    simp only [flatL, Bool.and_eq_true] at he
    exact absurd h.symm (hd_ok he.1)
  | [a], [], x, y, hd, _, h => by
    simp only [flatL, Bool.and_eq_true] at hd
    exact absurd h (hd_ok hd.1)
  | [a], [b], x, y, hd, he, h => by
    simp only [flatL, Bool.and_eq_true] at hd he
    obtain ⟨e1, e2⟩ := sh_inj a b _ _ hd.1 he.1 stop_1 stop_1 h
    simp only [List.cons.injEq, true_and] at e2
    exact ⟨by rw [e1], e2⟩
  | [a], b :: c :: r, x, y, hd, he, h => by
    simp only [flatL, Bool.and_eq_true] at hd he
    obtain ⟨e1, e2⟩ := sh_inj a b _ _ hd.1 he.1 stop_1 stop_tl h
    simp [tlT] at e2
  | a :: c :: r, [], x, y, hd, _, h => by
    simp only [flatL, Bool.and_eq_true] at hd
    exact absurd h (hd_ok hd.1)
  | a :: c :: r, [b], x, y, hd, he, h => by
    simp only [flatL, Bool.and_eq_true] at hd he
    obtain ⟨e1, e2⟩ := sh_inj a b _ _ hd.1 he.1 stop_tl stop_1 h
    simp [tlT] at e2
  | a :: c :: r, b :: c' :: r', x, y, hd, he, h => by
    simp only [flatL, Bool.and_eq_true] at hd he
    obtain ⟨e1, e2⟩ := sh_inj a b _ _ hd.1 he.1 stop_tl stop_tl h
    obtain ⟨e3, e4⟩ := sh_tl (c :: r) (c' :: r') x y (by simp [flatL, hd.2]) (by simp [flatL, he.2]) e2
    exact ⟨by rw [e1, e3], e4⟩
theorem sh_tl : ∀ (ds es : List PyData) (x y : List Nat), flatL ds = true → flatL es = true → tlT ds ++ 41 :: x = tlT es ++ 41 :: y → ds = es ∧ x = y
  | [], [], x, y, _, _, h => ⟨rfl, by simpa [tlT] using h⟩
  | [], b :: r, x, y, _, _, h => by simp [tlT] at h
  | a :: r, [], x, y, _, _, h => by simp [tlT] at h
  | a :: r, b :: r', x, y, hd, he, h => by
    simp only [flatL, Bool.and_eq_true] at hd he
    simp only [tlT, List.cons_append, List.cons.injEq, true_and, List.append_assoc] at h
    obtain ⟨e1, e2⟩ := sh_inj a b _ _ hd.1 he.1 stop_tl stop_tl h
    obtain ⟨e3, e4⟩ := sh_tl r r' x y hd.2 he.2 e2
    exact ⟨by rw [e1, e3], e4⟩
end
/-- repr tells flat data apart -/
theorem shown_inj {d e : PyData} (hd : flat d = true) (he : flat e = true) (h : d.shown = e.shown) : d = e :=
  (sh_inj d e [] [] hd he (.inl rfl) (.inl rfl) (by rw [h])).1
end Lg

namespace Lg
open PySem
open L2 (atI ixN)
set_option checkBinderAnnotations false
/-! ### data without cells, ints within a bound -/
mutual
def gd (B : Int) : D → Prop
  | .non => True
  | .bl _ => True
  | .int i => -B ≤ i ∧ i ≤ B
  | .str _ => True
  | .tup ds => gdL B ds
  | _ => False
def gdL (B : Int) : List D → Prop
  | [] => True
  | d :: ds => gd B d ∧ gdL B ds
end
theorem gdL_iff {B : Int} : ∀ {ds : List D}, gdL B ds ↔ ∀ d ∈ ds, gd B d
  | [] => by simp [gdL]
  | d :: ds => by simp only [gdL, gdL_iff (ds := ds), List.mem_cons, forall_eq_or_imp]
theorem gd_tup {B : Int} {ds : List D} : gd B (.tup ds) ↔ ∀ d ∈ ds, gd B d := by
  rw [gd, gdL_iff]
mutual
theorem gd_mono {B C : Int} (h : B ≤ C) : ∀ {d : D}, gd B d → gd C d
  | .non, _ => trivial
  | .bl _, _ => trivial
  | .int i, z => by simp only [gd] at z ⊢; omega
  | .str _, _ => trivial
  | .tup ds, z => by simp only [gd] at z ⊢; exact gdL_mono h z
  | .lst _, z => by simp [gd] at z
  | .frl _, z => by simp [gd] at z
  | .dct _, z => by simp [gd] at z
  | .ref _, z => by simp [gd] at z
theorem gdL_mono {B C : Int} (h : B ≤ C) : ∀ {ds : List D}, gdL B ds → gdL C ds
  | [], _ => trivial
  | d :: ds, z => by simp only [gdL] at z ⊢; exact ⟨gd_mono h z.1, gdL_mono h z.2⟩
end
mutual
theorem gd_py {B : Int} : ∀ {d : D}, gd B d → ∃ a, D.py d = some a
  | .non, _ => ⟨_, rfl⟩
  | .bl _, _ => ⟨_, rfl⟩
  | .int i, _ => ⟨_, rfl⟩
  | .str _, _ => ⟨_, rfl⟩
  | .tup ds, z => by
    simp only [gd] at z
    obtain ⟨as, e⟩ := gdL_py z
    exact ⟨.tuple as, by simp [D.py, e]⟩
  | .lst _, z => by simp [gd] at z
  | .frl _, z => by simp [gd] at z
  | .dct _, z => by simp [gd] at z
  | .ref _, z => by simp [gd] at z
theorem gdL_py {B : Int} : ∀ {ds : List D}, gdL B ds → ∃ as, pyL ds = some as
  | [], _ => ⟨[], rfl⟩
  | d :: ds, z => by
    simp only [gdL] at z
    obtain ⟨a, e⟩ := gd_py z.1
    obtain ⟨as, e2⟩ := gdL_py z.2
    exact ⟨a :: as, by simp [pyL, e, e2]⟩
end
theorem eqv_nil {as : List PyData} : PyData.eqv (.list as) (.list []) = as.isEmpty := by
  cases as <;> simp [PyData.eqv, PyData.eqvAll]
theorem pyL_empty {ds : List D} {as : List PyData} (h : pyL ds = some as) : as.isEmpty = ds.isEmpty := by
  cases ds with
  | nil => cases h; rfl
  | cons d ds =>
    simp only [pyL] at h
    split at h
    · cases h; rfl
    · cases h
/-- xs != [] -/
theorem ne_nil {B : Int} {ds : List D} {h : LH} {Q : QD} (g : gdL B ds) : @wcmp .NotEq (.lst ds) (.lst []) h (Box.mk Q) = Q (.bl (!ds.isEmpty)) h := by
  obtain ⟨as, e⟩ := gdL_py g
  show eqW (.lst ds) (.lst []) h (fun b => Q (.bl (!b)) h) = _
  have e1 : pv_ h (.lst ds) = some (.list as) := by show (pyL ds).map PyData.list = _; rw [e]; rfl
  have e2 : pv_ h (.lst []) = some (.list []) := rfl
  simp only [eqW, e1, e2, eqv_nil, pyL_empty e]
  refine propext ⟨fun z => z.2, fun z => ⟨?_, z⟩⟩
  have : PyData.depth (.list []) ≤ 60 := by decide
  omega
def sD : Option Str → D
  | none => .non
  | some s => .str s
theorem ne_sD {x y : Option Str} {h : LH} {Q : QD} : @wcmp .NotEq (sD x) (sD y) h (Box.mk Q) = Q (.bl (!decide (x = y))) h := by
  rcases x with _ | i <;> rcases y with _ | j
  · show eqW .non .non h (fun b => Q (.bl (!b)) h) = _
    simp [eqW, pv_, D.py, PyData.depth, PyData.eqv]
  · show eqW .non (.str j) h (fun b => Q (.bl (!b)) h) = _
    simp [eqW, pv_, D.py, PyData.depth, PyData.eqv]
  · show eqW (.str i) .non h (fun b => Q (.bl (!b)) h) = _
    simp [eqW, pv_, D.py, PyData.depth, PyData.eqv]
  · rw [show sD (some i) = .str i from rfl, show sD (some j) = .str j from rfl, ne_s]
    simp
theorem piled_leG {c : Nat} : ∀ {ts : List Str}, (∀ t ∈ ts, t.length ≤ c) → PySem.piled ts ≤ (c + 2) * ts.length
  | [], _ => by simp [piled_nil]
  | t :: ts, h => by
    have := piled_leG (ts := ts) fun u m => h u (List.mem_cons_of_mem _ m)
    have := h t (List.mem_cons_self ..)
    rw [piled_cons, List.length_cons, Nat.mul_add]; omega
theorem sl_app {a b : Str} : (a ++ b).length = a.length + b.length := by
  first | exact strLen_append _ _ | exact strLen_append
theorem tuple_lenG {c : Nat} {ts : List Str} (h : ∀ t ∈ ts, t.length ≤ c) : (tupleText ts).length ≤ (c + 2) * ts.length + 4 := by
  have p := piled_leG h
  unfold tupleText
  rw [sl_app, sl_app]
  have e1 : (("(" : String) : Str).length = 1 := rfl
  have e2 : (((if (ts.length == 1) = true then ",)" else ")") : String) : Str).length ≤ 2 := by
    by_cases z : (ts.length == 1) = true
    · rw [if_pos z]; decide
    · rw [if_neg z]; decide
  by_cases z : ts = []
  · subst z
    have : (Str.join ", " []).length = 0 := rfl
    omega
  · have := join_length_add ts z
    omega
theorem int_len {i : Int} (h0 : -1000000000 < i) (h1 : i < 1000000000) : (PyData.shown (.int i)).length ≤ 10 := by
  have e : (PyData.shown (.int i)).length = (lc (PyData.int i).shown).length := by
    unfold lc; rw [Array.length_toList]; rfl
  rw [e]
  cases i with
  | ofNat n =>
    rw [show Int.ofNat n = (n : Int) from rfl] at h0 h1 ⊢
    rw [sh_nat, dg, List.length_map]
    have := (Nat.length_toDigits_le_iff (b := 10) (n := n) (k := 9) (by decide) (by decide)).mpr (by omega)
    omega
  | negSucc n =>
    rw [sh_neg, List.length_cons, dg, List.length_map]
    have := (Nat.length_toDigits_le_iff (b := 10) (n := n + 1) (k := 9) (by decide) (by decide)).mpr (by omega)
    omega
set_option exponentiation.threshold 3000
theorem int_show {i : Int} (h0 : -1000000000 < i) (h1 : i < 1000000000) : PyData.showable (.int i) = true := by
  simp only [PyData.showable, decide_eq_true_eq]
  by_cases z : i.natAbs = 0
  · rw [z]; decide
  · rw [Nat.log2_lt z]
    exact Nat.lt_of_le_of_lt (show i.natAbs ≤ 2 ^ 30 by omega) (Nat.pow_lt_pow_right (by decide) (by decide))
end Lg

namespace K72
open PySem PySem.Spec PyProof.Rows L2 Lg
abbrev pw : Program := PySem.Challenge.pw_skywrought_k72_whole_any_deficits_are_ju
def top (i : Nat) : Stmt := pw.main.body.getD i (.Pass ⟨0, 0, 0, 0⟩)
def inC (s : Stmt) (j : Nat) : Stmt := match s with
  | .ClassDef _ _ _ b _ _ _ _ _ _ _ => b.getD j (.Pass ⟨0, 0, 0, 0⟩)
  | _ => .Pass ⟨0, 0, 0, 0⟩
def s_is_integer : Stmt := top 17
def n_is_integer : List Str := ["value"]
def p_is_integer : List Str := ["value"]
def w_is_integer : Ss := .cons (.ret (.an (.cons (.isa (.v 0) "int") (.cons (.nt (.isa (.v 0) "bool")) .nil)))) .nil
def f_is_integer : FD := ⟨⟨("is_integer", none), "is_integer", "is_integer", defArgs s_is_integer, defBody s_is_integer, defScope s_is_integer, [], []⟩, ⟨1, 1, w_is_integer⟩, n_is_integer, p_is_integer, none⟩
def s_in_range : Stmt := top 18
def n_in_range : List Str := ["value", "least", "most"]
def p_in_range : List Str := ["value", "least", "most"]
def w_in_range : Ss := .cons (.ret (.an (.cons (.call 0 (.cons (.v 0) .nil)) (.cons (.chn .LtE .LtE (.v 1) (.v 0) (.v 2)) .nil)))) .nil
def f_in_range : FD := ⟨⟨("in_range", none), "in_range", "in_range", defArgs s_in_range, defBody s_in_range, defScope s_in_range, [], []⟩, ⟨3, 3, w_in_range⟩, n_in_range, p_in_range, none⟩
def s_by_name : Stmt := top 19
def n_by_name : List Str := ["rows", "row"]
def p_by_name : List Str := ["rows"]
def w_by_name : Ss := .cons (.ret (.dc [("row", 1)] (.nm 1) (.sq (.v 0)) .nil (.sub (.v 1) (.k (.int 0))) (.v 1))) .nil
def f_by_name : FD := ⟨⟨("by_name", none), "by_name", "by_name", defArgs s_by_name, defBody s_by_name, defScope s_by_name, [], []⟩, ⟨1, 2, w_by_name⟩, n_by_name, p_by_name, none⟩
def s_same_value : Stmt := top 21
def n_same_value : List Str := ["first", "second"]
def p_same_value : List Str := ["first", "second"]
def w_same_value : Ss := .cons (.ret (.an (.cons (.cmp .Eq (.v 0) (.v 1)) (.cons (.cmp .Eq (.blt .repr (.cons (.v 0) .nil)) (.blt .repr (.cons (.v 1) .nil))) .nil)))) .nil
def f_same_value : FD := ⟨⟨("same_value", none), "same_value", "same_value", defArgs s_same_value, defBody s_same_value, defScope s_same_value, [], []⟩, ⟨2, 2, w_same_value⟩, n_same_value, p_same_value, none⟩
def s_is_name : Stmt := top 25
def n_is_name : List Str := ["word", "sign"]
def p_is_name : List Str := ["word"]
def w_is_name : Ss := .cons (.ife (.or (.cons (.cmp .Eq (.v 0) (.k (.str ""))) (.cons (.cmp .NotIn (.sub (.v 0) (.k (.int 0))) (.g 0)) .nil))) (.cons (.ret (.k (.bl false))) .nil) .nil) (.cons (.ret (.blt .all (.cons (.lc false [("sign", 1)] (.nm 1) (.sq (.v 0)) .nil (.or (.cons (.cmp .In (.v 1) (.g 0)) (.cons (.cmp .In (.v 1) (.g 1)) (.cons (.cmp .Eq (.v 1) (.k (.str "_"))) .nil))))) .nil))) .nil)
def f_is_name : FD := ⟨⟨("is_name", none), "is_name", "is_name", defArgs s_is_name, defBody s_is_name, defScope s_is_name, [], []⟩, ⟨1, 2, w_is_name⟩, n_is_name, p_is_name, none⟩
def s_has_sort : Stmt := top 29
def n_has_sort : List Str := ["value", "sort", "part"]
def p_has_sort : List Str := ["value", "sort"]
def w_has_sort : Ss := .cons (.ife (.cmp .Eq (.v 1) (.k (.str "n"))) (.cons (.ret (.isa (.v 0) "str")) .nil) .nil) (.cons (.ife (.cmp .Eq (.v 1) (.k (.str "i"))) (.cons (.ret (.call 0 (.cons (.v 0) .nil))) .nil) .nil) (.cons (.ife (.nt (.e (.isa (.v 0) "tuple"))) (.cons (.ret (.k (.bl false))) .nil) .nil) (.cons (.ret (.blt .all (.cons (.lc false [("part", 2)] (.nm 2) (.sq (.v 0)) .nil (.call 5 (.cons (.v 2) (.cons (.ife (.cmp .Eq (.v 1) (.k (.str "r"))) (.k (.str "i")) (.k (.str "n"))) .nil)))) .nil))) .nil)))
def f_has_sort : FD := ⟨⟨("has_sort", none), "has_sort", "has_sort", defArgs s_has_sort, defBody s_has_sort, defScope s_has_sort, [], []⟩, ⟨2, 3, w_has_sort⟩, n_has_sort, p_has_sort, none⟩
def s_has_shape : Stmt := top 30
def n_has_shape : List Str := ["net", "rows", "sorts", "row", "parts", "part", "sort"]
def p_has_shape : List Str := ["net"]
def w_has_shape : Ss := .cons (.ife (.or (.cons (.nt (.e (.isa (.v 0) "tuple"))) (.cons (.cmp .NotEq (.blt .len (.cons (.v 0) .nil)) (.blt .len (.cons (.g 2) .nil))) .nil))) (.cons (.ret (.k (.bl false))) .nil) .nil) (.cons (.for_ (.tp (.cons (.nm 1) (.cons (.nm 2) .nil))) (.zp (.v 0) (.g 2)) [1, 2, 3, 4] (.cons (.ife (.nt (.e (.isa (.v 1) "tuple"))) (.cons (.ret (.k (.bl false))) .nil) .nil) (.cons (.for_ (.nm 3) (.sq (.v 1)) [3, 4] (.cons (.set (.nm 4) (.ife (.cmp .Eq (.v 2) (.k (.str "n"))) (.tup (.cons (.v 3) .nil)) (.v 3))) (.cons (.ife (.or (.cons (.nt (.e (.isa (.v 4) "tuple"))) (.cons (.cmp .NotEq (.blt .len (.cons (.v 4) .nil)) (.blt .len (.cons (.v 2) .nil))) .nil))) (.cons (.ret (.k (.bl false))) .nil) .nil) (.cons (.ife (.nt (.e (.blt .all (.cons (.lc false [("part", 5), ("sort", 6)] (.tp (.cons (.nm 5) (.cons (.nm 6) .nil))) (.zp (.v 4) (.v 2)) .nil (.call 5 (.cons (.v 5) (.cons (.v 6) .nil)))) .nil)))) (.cons (.ret (.k (.bl false))) .nil) .nil) .nil)))) .nil))) (.cons (.ret (.k (.bl true))) .nil))
def f_has_shape : FD := ⟨⟨("has_shape", none), "has_shape", "has_shape", defArgs s_has_shape, defBody s_has_shape, defScope s_has_shape, [], []⟩, ⟨1, 7, w_has_shape⟩, n_has_shape, p_has_shape, none⟩
def s_check : Stmt := top 32
def n_check : List Str := ["net", "part", "rows", "checking", "visits", "place", "row"]
def p_check : List Str := ["net"]
def w_check : Ss := .cons (.ife (.nt (.e (.call 6 (.cons (.v 0) .nil)))) (.cons (.raise 0 (.cons (.tup .nil) (.cons (.k (.str "shape")) .nil))) .nil) .nil) (.cons (.for_ (.tp (.cons (.nm 1) (.cons (.nm 2) .nil))) (.en (.v 0)) [1, 2] (.cons (.ife (.or (.cons (.cmp .Gt (.blt .len (.cons (.v 2) .nil)) (.sub (.g 3) (.v 1))) (.cons (.an (.cons (.cmp .Eq (.v 1) (.k (.int 2))) (.cons (.cmp .Eq (.v 2) (.tup .nil)) .nil))) .nil))) (.cons (.raise 0 (.cons (.tup (.cons (.v 1) .nil)) (.cons (.k (.str "many")) .nil))) .nil) .nil) .nil)) (.cons (.set (.nm 3) (.mk 1 29 (.cons (.v 0) .nil))) (.cons (.set (.nm 4) (.tup (.cons (.bm 1 "station" 32 (.v 3)) (.cons (.bm 1 "kind" 33 (.v 3)) (.cons (.k .non) (.cons (.bm 1 "flight" 35 (.v 3)) (.cons (.bm 1 "tail" 36 (.v 3)) (.cons (.bm 1 "fare" 37 (.v 3)) .nil)))))))) (.cons (.for_ (.tp (.cons (.nm 1) (.cons (.nm 2) .nil))) (.en (.v 0)) [1, 2, 5, 6] (.cons (.for_ (.tp (.cons (.nm 5) (.cons (.nm 6) .nil))) (.en (.v 2)) [5, 6] (.cons (.ex (.mcl 1 "named" 31 (.v 3) (.cons (.v 1) (.cons (.v 5) (.cons (.ife (.cmp .Eq (.v 1) (.k (.int 2))) (.v 6) (.sub (.v 6) (.k (.int 0)))) .nil))))) (.cons (.ife (.cmp .IsNot (.sub (.v 4) (.v 1)) (.k .non)) (.cons (.ex (.cv [32, 33, 35, 36, 37] (.sub (.v 4) (.v 1)) (.cons (.v 5) (.cons (.v 6) .nil)))) .nil) .nil) .nil))) .nil)) (.cons (.for_ (.tp (.cons (.nm 5) (.cons (.nm 6) .nil))) (.en (.sub (.v 0) (.k (.int 3)))) [5, 6] (.cons (.ife (.cmp .NotIn (.sub (.v 6) (.k (.int 0))) (.fld 1 (.v 3) "flown")) (.cons (.raise 0 (.cons (.tup (.cons (.k (.int 3)) (.cons (.v 5) .nil))) (.cons (.k (.str "alone")) .nil))) .nil) .nil) .nil)) .nil)))))
def f_check : FD := ⟨⟨("check", none), "check", "check", defArgs s_check, defBody s_check, defScope s_check, [], []⟩, ⟨1, 7, w_check⟩, n_check, p_check, none⟩
def s_flights_of : Stmt := top 34
def n_flights_of : List Str := ["net", "kind", "row", "flight"]
def p_flights_of : List Str := ["net", "kind"]
def w_flights_of : Ss := .cons (.ife (.or (.cons (.nt (.e (.isa (.v 1) "str"))) (.cons (.cmp .NotIn (.v 1) (.lc false [("row", 2)] (.nm 2) (.sq (.sub (.v 0) (.k (.int 1)))) .nil (.sub (.v 2) (.k (.int 0))))) .nil))) (.cons (.raise 1 (.cons (.k (.str "type")) .nil)) .nil) .nil) (.cons (.ret (.lc false [("flight", 3)] (.nm 3) (.sq (.sub (.v 0) (.k (.int 3)))) (.cons (.cmp .Eq (.sub (.v 3) (.k (.int 5))) (.v 1)) .nil) (.v 3))) .nil)
def f_flights_of : FD := ⟨⟨("flights_of", none), "flights_of", "flights_of", defArgs s_flights_of, defBody s_flights_of, defScope s_flights_of, [], []⟩, ⟨2, 4, w_flights_of⟩, n_flights_of, p_flights_of, none⟩
def s_deficit_at : Stmt := top 35
def n_deficit_at : List Str := ["flights", "turn", "station", "time", "gone", "flight"]
def p_deficit_at : List Str := ["flights", "turn", "station", "time"]
def w_deficit_at : Ss := .cons (.set (.nm 4) (.blt .len (.cons (.lc false [("flight", 5)] (.nm 5) (.sq (.v 0)) (.cons (.an (.cons (.cmp .Eq (.sub (.v 5) (.k (.int 1))) (.v 2)) (.cons (.cmp .LtE (.sub (.v 5) (.k (.int 3))) (.v 3)) .nil))) .nil) (.v 5)) .nil))) (.cons (.ret (.bin .Sub (.v 4) (.blt .len (.cons (.lc false [("flight", 5)] (.nm 5) (.sq (.v 0)) (.cons (.an (.cons (.cmp .Eq (.sub (.v 5) (.k (.int 2))) (.v 2)) (.cons (.cmp .LtE (.bin .Add (.sub (.v 5) (.k (.int 4))) (.v 1)) (.v 3)) .nil))) .nil) (.v 5)) .nil)))) .nil)
def f_deficit_at : FD := ⟨⟨("deficit_at", none), "deficit_at", "deficit_at", defArgs s_deficit_at, defBody s_deficit_at, defScope s_deficit_at, [], []⟩, ⟨4, 6, w_deficit_at⟩, n_deficit_at, p_deficit_at, none⟩
def s_deficit_of : Stmt := top 36
def n_deficit_of : List Str := ["flights", "turn", "station", "best", "time", "deficit", "flight"]
def p_deficit_of : List Str := ["flights", "turn", "station"]
def w_deficit_of : Ss := .cons (.set (.nm 3) (.tup (.cons (.k (.int 0)) (.cons (.k .non) .nil)))) (.cons (.for_ (.nm 4) (.sq (.blt .sorted (.cons (.lc false [("flight", 6)] (.nm 6) (.sq (.v 0)) (.cons (.cmp .Eq (.sub (.v 6) (.k (.int 1))) (.v 2)) .nil) (.sub (.v 6) (.k (.int 3)))) .nil))) [4, 5] (.cons (.set (.nm 5) (.call 9 (.cons (.v 0) (.cons (.v 1) (.cons (.v 2) (.cons (.v 4) .nil)))))) (.cons (.ife (.cmp .Gt (.v 5) (.sub (.v 3) (.k (.int 0)))) (.cons (.set (.nm 3) (.tup (.cons (.v 5) (.cons (.v 4) .nil)))) .nil) .nil) .nil))) (.cons (.ret (.v 3)) .nil))
def f_deficit_of : FD := ⟨⟨("deficit_of", none), "deficit_of", "deficit_of", defArgs s_deficit_of, defBody s_deficit_of, defScope s_deficit_of, [], []⟩, ⟨3, 7, w_deficit_of⟩, n_deficit_of, p_deficit_of, none⟩
def s_accept_deficits : Stmt := top 37
def n_accept_deficits : List Str := ["net", "kind", "told", "flights", "turn", "entry", "station"]
def p_accept_deficits : List Str := ["net", "kind", "told"]
def w_accept_deficits : Ss := .cons (.ex (.call 7 (.cons (.v 0) .nil))) (.cons (.set (.nm 3) (.call 8 (.cons (.v 0) (.cons (.v 1) .nil)))) (.cons (.set (.nm 4) (.mcl 0 "turn" 28 (.mk 0 25 (.cons (.v 0) .nil)) (.cons (.v 1) .nil))) (.cons (.ife (.or (.cons (.nt (.e (.isa (.v 2) "tuple"))) (.cons (.cmp .NotEq (.blt .len (.cons (.v 2) .nil)) (.blt .len (.cons (.sub (.v 0) (.k (.int 0))) .nil))) .nil))) (.cons (.raise 2 (.cons (.k (.str "form")) .nil)) .nil) .nil) (.cons (.for_ (.nm 5) (.sq (.v 2)) [5] (.cons (.ife (.or (.cons (.nt (.e (.isa (.v 5) "tuple"))) (.cons (.cmp .NotEq (.blt .len (.cons (.v 5) .nil)) (.k (.int 2))) (.cons (.nt (.e (.call 0 (.cons (.sub (.v 5) (.k (.int 0))) .nil)))) .nil)))) (.cons (.raise 2 (.cons (.k (.str "form")) .nil)) .nil) .nil) .nil)) (.cons (.for_ (.tp (.cons (.nm 6) (.cons (.nm 5) .nil))) (.zp (.sub (.v 0) (.k (.int 0))) (.v 2)) [5, 6] (.cons (.ife (.nt (.e (.call 3 (.cons (.v 5) (.cons (.call 10 (.cons (.v 3) (.cons (.v 4) (.cons (.sub (.v 6) (.k (.int 0))) .nil)))) .nil))))) (.cons (.raise 2 (.cons (.k (.str "entry")) .nil)) .nil) .nil) .nil)) .nil)))))
def f_accept_deficits : FD := ⟨⟨("accept_deficits", none), "accept_deficits", "accept_deficits", defArgs s_accept_deficits, defBody s_accept_deficits, defScope s_accept_deficits, [], []⟩, ⟨3, 7, w_accept_deficits⟩, n_accept_deficits, p_accept_deficits, none⟩
def s__law_draws : Stmt := top 39
def n__law_draws : List Str := ["script", "draws", "cell", "rest", "k", "mixed"]
def p__law_draws : List Str := ["script"]
def w__law_draws : Ss := .cons (.set (.nm 1) (.new .nil)) (.cons (.for_ (.nm 2) (.sq (.slc (.v 0) .no (.ex (.k (.int 63))))) [2, 3, 4, 5] (.cons (.set (.nm 3) (.blt .abs (.cons (.v 2) .nil))) (.cons (.ife (.cmp .GtE (.v 3) (.bin .Pow (.k (.int 10)) (.k (.int 18)))) (.cons (.for_ (.nm 4) (.r1 (.k (.int 60))) [4] (.cons (.ife (.cmp .Gt (.v 3) (.k (.int 0))) (.cons (.ex (.meth .append (.v 1) (.cons (.bin .Mod (.blt .int (.cons (.v 3) .nil)) (.k (.int 1009))) .nil))) (.cons (.set (.nm 3) (.bin .FloorDiv (.v 3) (.k (.int 1009)))) .nil)) .nil) .nil)) .nil) (.cons (.set (.nm 5) (.bin .Mod (.blt .int (.cons (.bin .Add (.bin .Mult (.v 3) (.k (.int 48271))) (.k (.int 11))) .nil)) (.k (.int 2147483647)))) (.cons (.for_ (.nm 4) (.r1 (.k (.int 12))) [4] (.cons (.set (.nm 5) (.bin .Mod (.blt .int (.cons (.bin .Add (.bin .Add (.bin .Mult (.v 5) (.k (.int 16807))) (.bin .Mult (.k (.int 69621)) (.v 4))) (.k (.int 5))) .nil)) (.k (.int 2147483629)))) (.cons (.ex (.meth .append (.v 1) (.cons (.bin .FloorDiv (.v 5) (.k (.int 1009))) .nil))) .nil))) .nil))) .nil))) (.cons (.ret (.v 1)) .nil))
def f__law_draws : FD := ⟨⟨("_law_draws", none), "_law_draws", "_law_draws", defArgs s__law_draws, defBody s__law_draws, defScope s__law_draws, [], []⟩, ⟨1, 6, w__law_draws⟩, n__law_draws, p__law_draws, none⟩
def s__law_more : Stmt := top 40
def n__law_more : List Str := ["draws", "place", "mixed", "k"]
def p__law_more : List Str := ["draws", "place"]
def w__law_more : Ss := .cons (.set (.nm 2) (.bin .Mod (.blt .int (.cons (.bin .Add (.bin .Add (.bin .Mult (.v 1) (.k (.int 48271))) (.blt .len (.cons (.v 0) .nil))) (.k (.int 11))) .nil)) (.k (.int 2147483629)))) (.cons (.for_ (.nm 3) (.r1 (.k (.int 3))) [3] (.cons (.ife (.e (.v 0)) (.cons (.set (.nm 2) (.bin .Add (.v 2) (.sub (.v 0) (.bin .Mod (.blt .int (.cons (.bin .Add (.bin .Mult (.v 1) (.bin .Add (.v 3) (.k (.int 5)))) (.v 3)) .nil)) (.blt .len (.cons (.v 0) .nil)))))) .nil) .nil) (.cons (.set (.nm 2) (.bin .Mod (.blt .int (.cons (.bin .Add (.bin .Add (.bin .Mult (.v 2) (.k (.int 16807))) (.bin .Mult (.k (.int 69621)) (.v 3))) (.k (.int 5))) .nil)) (.k (.int 2147483629)))) .nil))) (.cons (.ret (.bin .FloorDiv (.v 2) (.k (.int 1009)))) .nil))
def f__law_more : FD := ⟨⟨("_law_more", none), "_law_more", "_law_more", defArgs s__law_more, defBody s__law_more, defScope s__law_more, [], []⟩, ⟨2, 4, w__law_more⟩, n__law_more, p__law_more, none⟩
def s__law_take : Stmt := top 41
def n__law_take : List Str := ["draws", "at", "many", "place"]
def p__law_take : List Str := ["draws", "at", "many"]
def w__law_take : Ss := .cons (.set (.nm 3) (.sub (.v 1) (.k (.int 0)))) (.cons (.set (.sb (.v 1) (.k (.int 0))) (.bin .Add (.v 3) (.k (.int 1)))) (.cons (.ret (.bin .Mod (.blt .int (.cons (.ife (.cmp .Lt (.v 3) (.blt .len (.cons (.v 0) .nil))) (.sub (.v 0) (.v 3)) (.call 13 (.cons (.v 0) (.cons (.v 3) .nil)))) .nil)) (.v 2))) .nil))
def f__law_take : FD := ⟨⟨("_law_take", none), "_law_take", "_law_take", defArgs s__law_take, defBody s__law_take, defScope s__law_take, [], []⟩, ⟨3, 4, w__law_take⟩, n__law_take, p__law_take, none⟩
def s__law_one : Stmt := top 42
def n__law_one : List Str := ["rows", "draws", "at"]
def p__law_one : List Str := ["rows", "draws", "at"]
def w__law_one : Ss := .cons (.ret (.sub (.v 0) (.call 14 (.cons (.v 1) (.cons (.v 2) (.cons (.blt .len (.cons (.v 0) .nil)) .nil)))))) .nil
def f__law_one : FD := ⟨⟨("_law_one", none), "_law_one", "_law_one", defArgs s__law_one, defBody s__law_one, defScope s__law_one, [], []⟩, ⟨3, 3, w__law_one⟩, n__law_one, p__law_one, none⟩
def s__law_limits : Stmt := top 43
def n__law_limits : List Str := ["seats", "count", "draws", "at", "limits", "most", "k"]
def p__law_limits : List Str := ["seats", "count", "draws", "at"]
def w__law_limits : Ss := .cons (.set (.nm 4) (.new .nil)) (.cons (.set (.nm 5) (.blt .min (.cons (.k (.int 999)) (.cons (.bin .Add (.v 0) (.call 14 (.cons (.v 2) (.cons (.v 3) (.cons (.k (.int 3)) .nil))))) .nil)))) (.cons (.for_ (.nm 6) (.r1 (.v 1)) [6] (.cons (.ex (.meth .append (.v 4) (.cons (.v 5) .nil))) (.cons (.set (.nm 5) (.blt .max (.cons (.k (.int 0)) (.cons (.bin .Sub (.v 5) (.bin .FloorDiv (.call 14 (.cons (.v 2) (.cons (.v 3) (.cons (.bin .Add (.k (.int 1)) (.blt .max (.cons (.k (.int 1)) (.cons (.v 5) .nil)))) .nil)))) (.k (.int 2)))) .nil)))) .nil))) (.cons (.ret (.blt .tuple (.cons (.v 4) .nil))) .nil)))
def f__law_limits : FD := ⟨⟨("_law_limits", none), "_law_limits", "_law_limits", defArgs s__law_limits, defBody s__law_limits, defScope s__law_limits, [], []⟩, ⟨4, 7, w__law_limits⟩, n__law_limits, p__law_limits, none⟩
def s__law_net : Stmt := top 44
def n__law_net : List Str := ["draws", "at", "small", "names", "stations", "name", "types", "k", "seats", "classes", "flights", "tails", "kind", "here", "time", "row", "j", "there", "depart", "arrive", "turn", "order", "fares", "start", "end", "price", "place"]
def p__law_net : List Str := ["draws", "at", "small"]
def w__law_net : Ss := .cons (.set (.nm 3) (.slc (.lst (.cons (.k (.str "AAA")) (.cons (.k (.str "BB")) (.cons (.k (.str "C_1")) (.cons (.k (.str "Dd")) (.cons (.k (.str "E")) (.cons (.k (.str "FFFFFFFFFFFF")) .nil))))))) .no (.ex (.bin .Add (.k (.int 2)) (.call 14 (.cons (.v 0) (.cons (.v 1) (.cons (.k (.int 5)) .nil)))))))) (.cons (.set (.nm 4) (.blt .tuple (.cons (.lc false [("name", 5)] (.nm 5) (.sq (.v 3)) .nil (.tup (.cons (.v 5) (.cons (.call 15 (.cons (.lst (.cons (.k (.int 0)) (.cons (.k (.int 60)) (.cons (.neg (.k (.int 300))) (.cons (.k (.int 840)) (.cons (.neg (.k (.int 720))) (.cons (.k (.int 345)) .nil))))))) (.cons (.v 0) (.cons (.v 1) .nil)))) (.cons (.call 15 (.cons (.lst (.cons (.k (.int 0)) (.cons (.k (.int 20)) (.cons (.k (.int 45)) (.cons (.k (.int 30)) (.cons (.k (.int 90)) .nil)))))) (.cons (.v 0) (.cons (.v 1) .nil)))) .nil))))) .nil))) (.cons (.set (.nm 6) (.new .nil)) (.cons (.for_ (.nm 7) (.r1 (.bin .Add (.k (.int 1)) (.call 14 (.cons (.v 0) (.cons (.v 1) (.cons (.k (.int 3)) .nil)))))) [7, 8] (.cons (.set (.nm 8) (.ife (.e (.v 2)) (.bin .Add (.k (.int 1)) (.call 14 (.cons (.v 0) (.cons (.v 1) (.cons (.k (.int 4)) .nil))))) (.call 15 (.cons (.lst (.cons (.k (.int 1)) (.cons (.k (.int 2)) (.cons (.k (.int 40)) (.cons (.k (.int 150)) (.cons (.k (.int 500)) .nil)))))) (.cons (.v 0) (.cons (.v 1) .nil)))))) (.cons (.ex (.meth .append (.v 6) (.cons (.tup (.cons (.bin .Add (.k (.str "T")) (.blt .str (.cons (.v 7) .nil))) (.cons (.v 8) (.cons (.call 15 (.cons (.lst (.cons (.k (.int 0)) (.cons (.k (.int 15)) (.cons (.k (.int 40)) (.cons (.k (.int 120)) .nil))))) (.cons (.v 0) (.cons (.v 1) .nil)))) .nil)))) .nil))) .nil))) (.cons (.set (.nm 9) (.slc (.tup (.cons (.k (.str "Y")) (.cons (.k (.str "B")) (.cons (.k (.str "K")) (.cons (.k (.str "Q")) .nil))))) .no (.ex (.bin .Add (.k (.int 1)) (.call 14 (.cons (.v 0) (.cons (.v 1) (.cons (.k (.int 4)) .nil)))))))) (.cons (.set (.nm 10) (.new .nil)) (.cons (.set (.nm 11) (.new .nil)) (.cons (.for_ (.nm 7) (.r1 (.bin .Add (.k (.int 1)) (.call 14 (.cons (.v 0) (.cons (.v 1) (.cons (.k (.int 5)) .nil)))))) [5, 7, 12, 13, 14, 15, 16, 17, 18, 19] (.cons (.set (.nm 12) (.call 15 (.cons (.v 6) (.cons (.v 0) (.cons (.v 1) .nil))))) (.cons (.set (.nm 13) (.call 15 (.cons (.v 3) (.cons (.v 0) (.cons (.v 1) .nil))))) (.cons (.set (.nm 14) (.call 14 (.cons (.v 0) (.cons (.v 1) (.cons (.k (.int 300)) .nil))))) (.cons (.set (.nm 15) (.new .nil)) (.cons (.for_ (.nm 16) (.r1 (.sub (.lst (.cons (.k (.int 0)) (.cons (.k (.int 2)) (.cons (.k (.int 3)) (.cons (.k (.int 4)) (.cons (.k (.int 5)) (.cons (.k (.int 5)) .nil))))))) (.call 14 (.cons (.v 0) (.cons (.v 1) (.cons (.k (.int 6)) .nil)))))) [5, 16, 17, 18, 19] (.cons (.set (.nm 17) (.call 15 (.cons (.lc false [("name", 5)] (.nm 5) (.sq (.v 3)) (.cons (.cmp .NotEq (.v 5) (.v 13)) .nil) (.v 5)) (.cons (.v 0) (.cons (.v 1) .nil))))) (.cons (.set (.nm 18) (.bin .Add (.v 14) (.call 15 (.cons (.lst (.cons (.k (.int 0)) (.cons (.k (.int 0)) (.cons (.k (.int 10)) (.cons (.k (.int 35)) (.cons (.k (.int 60)) (.cons (.k (.int 200)) (.cons (.k (.int 900)) .nil)))))))) (.cons (.v 0) (.cons (.v 1) .nil)))))) (.cons (.set (.nm 19) (.bin .Add (.v 18) (.call 15 (.cons (.lst (.cons (.k (.int 30)) (.cons (.k (.int 60)) (.cons (.k (.int 100)) (.cons (.k (.int 45)) (.cons (.k (.int 400)) .nil)))))) (.cons (.v 0) (.cons (.v 1) .nil)))))) (.cons (.set (.nm 5) (.bin .Add (.bin .Add (.k (.str "f")) (.blt .str (.cons (.v 7) .nil))) (.blt .str (.cons (.v 16) .nil)))) (.cons (.ex (.meth .append (.v 10) (.cons (.tup (.cons (.v 5) (.cons (.v 13) (.cons (.v 17) (.cons (.v 18) (.cons (.v 19) (.cons (.sub (.v 12) (.k (.int 0))) (.cons (.bin .Add (.k (.int 1)) (.call 14 (.cons (.v 0) (.cons (.v 1) (.cons (.k (.int 900)) .nil))))) (.cons (.call 16 (.cons (.sub (.v 12) (.k (.int 1))) (.cons (.blt .len (.cons (.v 9) .nil)) (.cons (.v 0) (.cons (.v 1) .nil))))) .nil))))))))) .nil))) (.cons (.ex (.meth .append (.v 15) (.cons (.v 5) .nil))) (.cons (.set (.nm 13) (.v 17)) (.cons (.set (.nm 14) (.bin .Add (.v 19) (.sub (.v 12) (.k (.int 2))))) .nil))))))))) (.cons (.ex (.meth .append (.v 11) (.cons (.tup (.cons (.bin .Add (.k (.str "N")) (.blt .str (.cons (.v 7) .nil))) (.cons (.sub (.v 12) (.k (.int 0))) (.cons (.blt .tuple (.cons (.v 15) .nil)) .nil)))) .nil))) .nil))))))) (.cons (.set (.nm 20) (.call 14 (.cons (.v 0) (.cons (.v 1) (.cons (.k (.int 7)) .nil))))) (.cons (.set (.nm 21) (.blt .sorted (.cons (.lc false [("k", 7)] (.nm 7) (.r1 (.blt .len (.cons (.v 10) .nil))) .nil (.tup (.cons (.bin .Mod (.blt .int (.cons (.bin .Add (.bin .Mult (.v 7) (.bin .Add (.v 20) (.k (.int 3)))) (.v 20)) .nil)) (.k (.int 31))) (.cons (.v 7) .nil)))) .nil))) (.cons (.set (.nm 22) (.new .nil)) (.cons (.for_ (.nm 7) (.r1 (.call 14 (.cons (.v 0) (.cons (.v 1) (.cons (.k (.int 9)) .nil))))) [7, 23, 24, 25] (.cons (.set (.nm 23) (.call 15 (.cons (.v 3) (.cons (.v 0) (.cons (.v 1) .nil))))) (.cons (.set (.nm 24) (.call 15 (.cons (.lc false [("name", 5)] (.nm 5) (.sq (.v 3)) (.cons (.cmp .NotEq (.v 5) (.v 23)) .nil) (.v 5)) (.cons (.v 0) (.cons (.v 1) .nil))))) (.cons (.set (.nm 25) (.call 15 (.cons (.lst (.cons (.k (.int 0)) (.cons (.k (.int 99)) (.cons (.k (.int 100)) (.cons (.k (.int 1000)) (.cons (.k (.int 12345)) (.cons (.k (.int 1000000)) .nil))))))) (.cons (.v 0) (.cons (.v 1) .nil))))) (.cons (.ex (.meth .append (.v 22) (.cons (.tup (.cons (.bin .Add (.k (.str "r")) (.blt .str (.cons (.v 7) .nil))) (.cons (.v 23) (.cons (.v 24) (.cons (.call 15 (.cons (.v 9) (.cons (.v 0) (.cons (.v 1) .nil)))) (.cons (.v 25) (.cons (.call 14 (.cons (.v 0) (.cons (.v 1) (.cons (.k (.int 4)) .nil)))) (.cons (.call 14 (.cons (.v 0) (.cons (.v 1) (.cons (.k (.int 200)) .nil)))) (.cons (.call 15 (.cons (.lst (.cons (.k (.int 0)) (.cons (.k (.int 50)) (.cons (.k (.int 100)) (.cons (.k (.int 33)) .nil))))) (.cons (.v 0) (.cons (.v 1) .nil)))) .nil))))))))) .nil))) .nil))))) (.cons (.ret (.tup (.cons (.v 4) (.cons (.blt .tuple (.cons (.v 6) .nil)) (.cons (.v 9) (.cons (.blt .tuple (.cons (.lc false [("place", 26), ("k", 7)] (.tp (.cons (.nm 26) (.cons (.nm 7) .nil))) (.sq (.v 21)) .nil (.sub (.v 10) (.v 7))) .nil)) (.cons (.blt .tuple (.cons (.v 11) .nil)) (.cons (.blt .tuple (.cons (.v 22) .nil)) .nil)))))))) .nil))))))))))))
def f__law_net : FD := ⟨⟨("_law_net", none), "_law_net", "_law_net", defArgs s__law_net, defBody s__law_net, defScope s__law_net, [], []⟩, ⟨3, 27, w__law_net⟩, n__law_net, p__law_net, none⟩
def s__law_busy : Stmt := top 45
def n__law_busy : List Str := ["draws", "at", "stations", "types", "classes", "flights", "tails", "k", "kind", "here", "time", "row", "j", "there", "depart", "name"]
def p__law_busy : List Str := ["draws", "at"]
def w__law_busy : Ss := .cons (.set (.nm 2) (.tup (.cons (.tup (.cons (.k (.str "A")) (.cons (.k (.int 0)) (.cons (.call 15 (.cons (.lst (.cons (.k (.int 0)) (.cons (.k (.int 20)) (.cons (.k (.int 45)) .nil)))) (.cons (.v 0) (.cons (.v 1) .nil)))) .nil)))) (.cons (.tup (.cons (.k (.str "B")) (.cons (.k (.int 60)) (.cons (.call 15 (.cons (.lst (.cons (.k (.int 0)) (.cons (.k (.int 20)) (.cons (.k (.int 45)) .nil)))) (.cons (.v 0) (.cons (.v 1) .nil)))) .nil)))) (.cons (.tup (.cons (.k (.str "C")) (.cons (.neg (.k (.int 60))) (.cons (.k (.int 30)) .nil)))) .nil))))) (.cons (.set (.nm 3) (.tup (.cons (.tup (.cons (.k (.str "T")) (.cons (.bin .Add (.k (.int 1)) (.call 14 (.cons (.v 0) (.cons (.v 1) (.cons (.k (.int 3)) .nil))))) (.cons (.k (.int 20)) .nil)))) (.cons (.tup (.cons (.k (.str "U")) (.cons (.k (.int 2)) (.cons (.k (.int 0)) .nil)))) (.cons (.tup (.cons (.k (.str "S")) (.cons (.k (.int 1)) (.cons (.k (.int 30)) .nil)))) .nil))))) (.cons (.set (.nm 4) (.slc (.tup (.cons (.k (.str "Y")) (.cons (.k (.str "B")) (.cons (.k (.str "K")) .nil)))) .no (.ex (.bin .Add (.k (.int 1)) (.call 14 (.cons (.v 0) (.cons (.v 1) (.cons (.k (.int 3)) .nil)))))))) (.cons (.set (.nm 5) (.new .nil)) (.cons (.set (.nm 6) (.new .nil)) (.cons (.for_ (.nm 7) (.r1 (.bin .Add (.k (.int 3)) (.call 14 (.cons (.v 0) (.cons (.v 1) (.cons (.k (.int 6)) .nil)))))) [7, 8, 9, 10, 11, 12, 13, 14, 15] (.cons (.set (.nm 8) (.sub (.v 3) (.sub (.lst (.cons (.k (.int 0)) (.cons (.k (.int 0)) (.cons (.k (.int 1)) (.cons (.k (.int 2)) .nil))))) (.call 14 (.cons (.v 0) (.cons (.v 1) (.cons (.k (.int 4)) .nil))))))) (.cons (.set (.nm 9) (.call 15 (.cons (.lst (.cons (.k (.str "A")) (.cons (.k (.str "A")) (.cons (.k (.str "B")) (.cons (.k (.str "C")) .nil))))) (.cons (.v 0) (.cons (.v 1) .nil))))) (.cons (.set (.nm 10) (.bin .Mult (.k (.int 40)) (.call 14 (.cons (.v 0) (.cons (.v 1) (.cons (.k (.int 12)) .nil)))))) (.cons (.set (.nm 11) (.new .nil)) (.cons (.for_ (.nm 12) (.r1 (.bin .Add (.k (.int 1)) (.call 14 (.cons (.v 0) (.cons (.v 1) (.cons (.k (.int 3)) .nil)))))) [12, 13, 14, 15] (.cons (.set (.nm 13) (.call 15 (.cons (.lc false [("name", 15)] (.nm 15) (.sq (.lst (.cons (.k (.str "B")) (.cons (.k (.str "C")) (.cons (.k (.str "C")) (.cons (.k (.str "A")) .nil)))))) (.cons (.cmp .NotEq (.v 15) (.v 9)) .nil) (.v 15)) (.cons (.v 0) (.cons (.v 1) .nil))))) (.cons (.set (.nm 14) (.bin .Add (.v 10) (.call 15 (.cons (.lst (.cons (.k (.int 0)) (.cons (.k (.int 10)) (.cons (.k (.int 40)) (.cons (.k (.int 100)) .nil))))) (.cons (.v 0) (.cons (.v 1) .nil)))))) (.cons (.set (.nm 15) (.bin .Add (.bin .Add (.bin .Add (.k (.str "f")) (.blt .str (.cons (.v 7) .nil))) (.k (.str "_"))) (.blt .str (.cons (.v 12) .nil)))) (.cons (.ex (.meth .append (.v 5) (.cons (.tup (.cons (.v 15) (.cons (.v 9) (.cons (.v 13) (.cons (.v 14) (.cons (.bin .Add (.v 14) (.k (.int 60))) (.cons (.sub (.v 8) (.k (.int 0))) (.cons (.bin .Add (.k (.int 100)) (.bin .Mult (.k (.int 10)) (.v 7))) (.cons (.bin .Mult (.tup (.cons (.k (.int 9)) .nil)) (.blt .len (.cons (.v 4) .nil))) .nil))))))))) .nil))) (.cons (.ex (.meth .append (.v 11) (.cons (.v 15) .nil))) (.cons (.set (.nm 9) (.v 13)) (.cons (.set (.nm 10) (.bin .Add (.bin .Add (.v 14) (.k (.int 60))) (.sub (.v 8) (.k (.int 2))))) .nil)))))))) (.cons (.ex (.meth .append (.v 6) (.cons (.tup (.cons (.bin .Add (.k (.str "N")) (.blt .str (.cons (.v 7) .nil))) (.cons (.sub (.v 8) (.k (.int 0))) (.cons (.blt .tuple (.cons (.v 11) .nil)) .nil)))) .nil))) .nil))))))) (.cons (.ret (.tup (.cons (.v 2) (.cons (.v 3) (.cons (.v 4) (.cons (.blt .tuple (.cons (.v 5) .nil)) (.cons (.blt .tuple (.cons (.v 6) .nil)) (.cons (.tup .nil) .nil)))))))) .nil))))))
def f__law_busy : FD := ⟨⟨("_law_busy", none), "_law_busy", "_law_busy", defArgs s__law_busy, defBody s__law_busy, defScope s__law_busy, [], []⟩, ⟨2, 16, w__law_busy⟩, n__law_busy, p__law_busy, none⟩
def s__law_some_net : Stmt := top 46
def n__law_some_net : List Str := ["draws", "at", "net"]
def p__law_some_net : List Str := ["draws", "at"]
def w__law_some_net : Ss := .cons (.set (.nm 2) (.ife (.cmp .Gt (.call 14 (.cons (.v 0) (.cons (.v 1) (.cons (.k (.int 4)) .nil)))) (.k (.int 0))) (.call 18 (.cons (.v 0) (.cons (.v 1) .nil))) (.call 17 (.cons (.v 0) (.cons (.v 1) (.cons (.k (.bl true)) .nil)))))) (.cons (.ret (.ife (.cmp .NotEq (.sub (.v 2) (.k (.int 3))) (.tup .nil)) (.v 2) (.call 18 (.cons (.v 0) (.cons (.v 1) .nil))))) .nil)
def f__law_some_net : FD := ⟨⟨("_law_some_net", none), "_law_some_net", "_law_some_net", defArgs s__law_some_net, defBody s__law_some_net, defScope s__law_some_net, [], []⟩, ⟨2, 3, w__law_some_net⟩, n__law_some_net, p__law_some_net, none⟩
def s__law_deficit : Stmt := top 47
def n__law_deficit : List Str := ["net", "kind", "station", "flights", "row", "best", "time", "gone", "ready"]
def p__law_deficit : List Str := ["net", "kind", "station"]
def w__law_deficit : Ss := .cons (.set (.nm 3) (.lc false [("row", 4)] (.nm 4) (.sq (.sub (.v 0) (.k (.int 3)))) (.cons (.cmp .Eq (.sub (.v 4) (.k (.int 5))) (.sub (.v 1) (.k (.int 0)))) .nil) (.v 4))) (.cons (.set (.nm 5) (.tup (.cons (.k (.int 0)) (.cons (.k .non) .nil)))) (.cons (.for_ (.nm 6) (.sq (.blt .sorted (.cons (.lc false [("row", 4)] (.nm 4) (.sq (.v 3)) (.cons (.cmp .Eq (.sub (.v 4) (.k (.int 1))) (.v 2)) .nil) (.sub (.v 4) (.k (.int 3)))) .nil))) [6, 7, 8] (.cons (.set (.nm 7) (.lc false [("row", 4)] (.nm 4) (.sq (.v 3)) (.cons (.an (.cons (.cmp .Eq (.sub (.v 4) (.k (.int 1))) (.v 2)) (.cons (.cmp .LtE (.sub (.v 4) (.k (.int 3))) (.v 6)) .nil))) .nil) (.v 4))) (.cons (.set (.nm 8) (.lc false [("row", 4)] (.nm 4) (.sq (.v 3)) (.cons (.an (.cons (.cmp .Eq (.sub (.v 4) (.k (.int 2))) (.v 2)) (.cons (.cmp .LtE (.bin .Add (.sub (.v 4) (.k (.int 4))) (.sub (.v 1) (.k (.int 2)))) (.v 6)) .nil))) .nil) (.v 4))) (.cons (.ife (.cmp .Gt (.bin .Sub (.blt .len (.cons (.v 7) .nil)) (.blt .len (.cons (.v 8) .nil))) (.sub (.v 5) (.k (.int 0)))) (.cons (.set (.nm 5) (.tup (.cons (.bin .Sub (.blt .len (.cons (.v 7) .nil)) (.blt .len (.cons (.v 8) .nil))) (.cons (.v 6) .nil)))) .nil) .nil) .nil)))) (.cons (.ret (.v 5)) .nil)))
def f__law_deficit : FD := ⟨⟨("_law_deficit", none), "_law_deficit", "_law_deficit", defArgs s__law_deficit, defBody s__law_deficit, defScope s__law_deficit, [], []⟩, ⟨3, 9, w__law_deficit⟩, n__law_deficit, p__law_deficit, none⟩
def s__law_has_form : Stmt := top 48
def n__law_has_form : List Str := ["value", "size", "entry"]
def p__law_has_form : List Str := ["value", "size"]
def w__law_has_form : Ss := .cons (.ife (.or (.cons (.nt (.e (.isa (.v 0) "tuple"))) (.cons (.cmp .NotEq (.blt .len (.cons (.v 0) .nil)) (.v 1)) .nil))) (.cons (.ret (.k (.bl false))) .nil) .nil) (.cons (.for_ (.nm 2) (.sq (.v 0)) [2] (.cons (.ife (.or (.cons (.nt (.e (.isa (.v 2) "tuple"))) (.cons (.cmp .NotEq (.blt .len (.cons (.v 2) .nil)) (.k (.int 2))) (.cons (.nt (.e (.isa (.sub (.v 2) (.k (.int 0))) "int"))) (.cons (.e (.isa (.sub (.v 2) (.k (.int 0))) "bool")) .nil))))) (.cons (.ret (.k (.bl false))) .nil) .nil) .nil)) (.cons (.ret (.k (.bl true))) .nil))
def f__law_has_form : FD := ⟨⟨("_law_has_form", none), "_law_has_form", "_law_has_form", defArgs s__law_has_form, defBody s__law_has_form, defScope s__law_has_form, [], []⟩, ⟨2, 3, w__law_has_form⟩, n__law_has_form, p__law_has_form, none⟩
def s__law_bent : Stmt := top 49
def n__law_bent : List Str := ["told", "times", "draws", "at", "k", "number", "time", "other", "near", "rows", "odd"]
def p__law_bent : List Str := ["told", "times", "draws", "at"]
def w__law_bent : Ss := .cons (.set (.nm 4) (.call 14 (.cons (.v 2) (.cons (.v 3) (.cons (.blt .len (.cons (.v 0) .nil)) .nil))))) (.cons (.set (.tp (.cons (.nm 5) (.cons (.nm 6) .nil))) (.sub (.v 0) (.v 4))) (.cons (.set (.nm 7) (.sub (.v 0) (.call 14 (.cons (.v 2) (.cons (.v 3) (.cons (.blt .len (.cons (.v 0) .nil)) .nil)))))) (.cons (.set (.nm 8) (.call 15 (.cons (.bin .Add (.v 1) (.lst (.cons (.k (.int 0)) .nil))) (.cons (.v 2) (.cons (.v 3) .nil))))) (.cons (.set (.nm 9) (.lst (.cons (.tup (.cons (.bin .Add (.v 5) (.k (.int 1))) (.cons (.v 6) .nil))) (.cons (.tup (.cons (.bin .Sub (.v 5) (.k (.int 1))) (.cons (.v 6) .nil))) (.cons (.tup (.cons (.v 5) (.cons (.v 8) .nil))) (.cons (.tup (.cons (.v 5) (.cons (.k .non) .nil))) (.cons (.tup (.cons (.k (.int 0)) (.cons (.k .non) .nil))) (.cons (.v 7) (.cons (.tup (.cons (.v 5) (.cons (.k (.bl true)) .nil))) (.cons (.tup (.cons (.v 5) (.cons (.blt .str (.cons (.v 6) .nil)) .nil))) (.cons (.tup (.cons (.v 5) (.cons (.tup (.cons (.v 6) .nil)) .nil))) .nil))))))))))) (.cons (.ife (.cmp .Gt (.call 14 (.cons (.v 2) (.cons (.v 3) (.cons (.k (.int 3)) .nil)))) (.k (.int 0))) (.cons (.ret (.bin .Add (.bin .Add (.slc (.v 0) .no (.ex (.v 4))) (.tup (.cons (.call 15 (.cons (.v 9) (.cons (.v 2) (.cons (.v 3) .nil)))) .nil))) (.slc (.v 0) (.ex (.bin .Add (.v 4) (.k (.int 1)))) .no))) .nil) .nil) (.cons (.set (.nm 10) (.lst (.cons (.slc (.v 0) (.ex (.k (.int 1))) .no) (.cons (.bin .Add (.v 0) (.tup (.cons (.tup (.cons (.k (.int 0)) (.cons (.k .non) .nil))) .nil))) (.cons (.bin .Add (.bin .Add (.slc (.v 0) .no (.ex (.v 4))) (.tup (.cons (.k .non) .nil))) (.slc (.v 0) (.ex (.bin .Add (.v 4) (.k (.int 1)))) .no)) (.cons (.bin .Add (.bin .Add (.slc (.v 0) .no (.ex (.v 4))) (.tup (.cons (.tup (.cons (.v 5) .nil)) .nil))) (.slc (.v 0) (.ex (.bin .Add (.v 4) (.k (.int 1)))) .no)) (.cons (.k .non) (.cons (.tup (.cons (.v 0) .nil)) (.cons (.bin .Add (.bin .Add (.slc (.v 0) .no (.ex (.v 4))) (.tup (.cons (.tup (.cons (.k (.bl true)) (.cons (.v 6) .nil))) .nil))) (.slc (.v 0) (.ex (.bin .Add (.v 4) (.k (.int 1)))) .no)) (.cons (.bin .Add (.bin .Add (.slc (.v 0) .no (.ex (.v 4))) (.tup (.cons (.tup (.cons (.k .non) (.cons (.v 6) .nil))) .nil))) (.slc (.v 0) (.ex (.bin .Add (.v 4) (.k (.int 1)))) .no)) (.cons (.rev (.v 0)) (.cons (.bin .Add (.bin .Add (.slc (.v 0) .no (.ex (.v 4))) (.tup (.cons (.tup (.cons (.v 5) (.cons (.v 6) (.cons (.k (.int 0)) .nil)))) .nil))) (.slc (.v 0) (.ex (.bin .Add (.v 4) (.k (.int 1)))) .no)) .nil)))))))))))) (.cons (.ret (.call 15 (.cons (.v 10) (.cons (.v 2) (.cons (.v 3) .nil))))) .nil)))))))
def f__law_bent : FD := ⟨⟨("_law_bent", none), "_law_bent", "_law_bent", defArgs s__law_bent, defBody s__law_bent, defScope s__law_bent, [], []⟩, ⟨4, 11, w__law_bent⟩, n__law_bent, p__law_bent, none⟩
def s__law_far_net : Stmt := top 50
def n__law_far_net : List Str := ["net", "draws", "at", "stations", "types", "classes", "flights", "tails", "fares", "more", "spots", "k", "kind", "far", "rows", "pair", "here", "time", "row", "j", "there", "name", "near"]
def p__law_far_net : List Str := ["net", "draws", "at"]
def w__law_far_net : Ss := .cons (.set (.tp (.cons (.nm 3) (.cons (.nm 4) (.cons (.nm 5) (.cons (.nm 6) (.cons (.nm 7) (.cons (.nm 8) .nil))))))) (.v 0)) (.cons (.ife (.or (.cons (.cmp .Gt (.call 14 (.cons (.v 1) (.cons (.v 2) (.cons (.k (.int 3)) .nil)))) (.k (.int 0))) (.cons (.cmp .Eq (.v 6) (.tup .nil)) .nil))) (.cons (.ret (.v 0)) .nil) .nil) (.cons (.set (.nm 9) (.slc (.tup (.cons (.k (.str "V")) (.cons (.k (.str "W")) .nil))) .no (.ex (.call 14 (.cons (.v 1) (.cons (.v 2) (.cons (.k (.int 3)) .nil))))))) (.cons (.set (.nm 10) (.lc false [("k", 11)] (.nm 11) (.r1 (.bin .Add (.k (.int 2)) (.call 14 (.cons (.v 1) (.cons (.v 2) (.cons (.bin .Sub (.k (.int 11)) (.blt .len (.cons (.v 3) .nil))) .nil)))))) .nil (.tup (.cons (.bin .Add (.k (.str "Z")) (.blt .str (.cons (.v 11) .nil))) (.cons (.call 15 (.cons (.lst (.cons (.k (.int 0)) (.cons (.k (.int 840)) (.cons (.neg (.k (.int 720))) .nil)))) (.cons (.v 1) (.cons (.v 2) .nil)))) (.cons (.call 15 (.cons (.lst (.cons (.k (.int 0)) (.cons (.k (.int 30)) (.cons (.k (.int 600)) .nil)))) (.cons (.v 1) (.cons (.v 2) .nil)))) .nil)))))) (.cons (.set (.nm 12) (.tup (.cons (.k (.str "W9")) (.cons (.call 15 (.cons (.lst (.cons (.k (.int 60)) (.cons (.k (.int 150)) (.cons (.k (.int 500)) .nil)))) (.cons (.v 1) (.cons (.v 2) .nil)))) (.cons (.call 15 (.cons (.lst (.cons (.k (.int 0)) (.cons (.k (.int 45)) .nil))) (.cons (.v 1) (.cons (.v 2) .nil)))) .nil))))) (.cons (.set (.nm 13) (.new .nil)) (.cons (.set (.nm 14) (.new .nil)) (.cons (.for_ (.nm 11) (.r1 (.call 14 (.cons (.v 1) (.cons (.v 2) (.cons (.bin .Sub (.k (.int 13)) (.blt .len (.cons (.v 7) .nil))) .nil))))) [11, 15, 16, 17, 18, 19, 20, 21] (.cons (.set (.nm 15) (.bin .Mod (.blt .int (.cons (.bin .Mult (.k (.int 2)) (.v 11)) .nil)) (.bin .Sub (.blt .len (.cons (.v 10) .nil)) (.k (.int 1))))) (.cons (.set (.nm 16) (.bin .Add (.v 15) (.call 14 (.cons (.v 1) (.cons (.v 2) (.cons (.k (.int 2)) .nil)))))) (.cons (.set (.nm 17) (.bin .Mult (.k (.int 60)) (.call 14 (.cons (.v 1) (.cons (.v 2) (.cons (.k (.int 12)) .nil)))))) (.cons (.set (.nm 18) (.new .nil)) (.cons (.for_ (.nm 19) (.r1 (.blt .min (.cons (.bin .Add (.k (.int 1)) (.call 14 (.cons (.v 1) (.cons (.v 2) (.cons (.k (.int 5)) .nil))))) (.cons (.bin .Sub (.bin .Sub (.k (.int 40)) (.blt .len (.cons (.v 6) .nil))) (.blt .len (.cons (.v 13) .nil))) .nil)))) [19, 20, 21] (.cons (.set (.nm 20) (.bin .Sub (.bin .Add (.bin .Mult (.k (.int 2)) (.v 15)) (.k (.int 1))) (.v 16))) (.cons (.set (.nm 21) (.bin .Add (.bin .Add (.bin .Add (.k (.str "z")) (.blt .str (.cons (.v 11) .nil))) (.k (.str "_"))) (.blt .str (.cons (.v 19) .nil)))) (.cons (.ex (.meth .append (.v 13) (.cons (.tup (.cons (.v 21) (.cons (.sub (.sub (.v 10) (.v 16)) (.k (.int 0))) (.cons (.sub (.sub (.v 10) (.v 20)) (.k (.int 0))) (.cons (.v 17) (.cons (.bin .Add (.v 17) (.k (.int 90))) (.cons (.sub (.v 12) (.k (.int 0))) (.cons (.k (.int 500)) (.cons (.bin .Mult (.tup (.cons (.sub (.v 12) (.k (.int 1))) .nil)) (.bin .Add (.blt .len (.cons (.v 5) .nil)) (.blt .len (.cons (.v 9) .nil)))) .nil))))))))) .nil))) (.cons (.ex (.meth .append (.v 18) (.cons (.v 21) .nil))) (.cons (.set (.nm 16) (.v 20)) (.cons (.set (.nm 17) (.bin .Add (.bin .Add (.bin .Add (.v 17) (.k (.int 90))) (.sub (.v 12) (.k (.int 2)))) (.call 15 (.cons (.lst (.cons (.k (.int 0)) (.cons (.k (.int 30)) (.cons (.k (.int 200)) .nil)))) (.cons (.v 1) (.cons (.v 2) .nil)))))) .nil))))))) (.cons (.ex (.meth .append (.v 14) (.cons (.tup (.cons (.bin .Add (.k (.str "Z")) (.blt .str (.cons (.v 11) .nil))) (.cons (.sub (.v 12) (.k (.int 0))) (.cons (.blt .tuple (.cons (.v 18) .nil)) .nil)))) .nil))) .nil))))))) (.cons (.set (.nm 22) (.blt .tuple (.cons (.lc false [("row", 18)] (.nm 18) (.sq (.v 6)) .nil (.bin .Add (.slc (.v 18) .no (.ex (.k (.int 7)))) (.tup (.cons (.bin .Add (.sub (.v 18) (.k (.int 7))) (.bin .Mult (.slc (.sub (.v 18) (.k (.int 7))) (.ex (.neg (.k (.int 1)))) .no) (.blt .len (.cons (.v 9) .nil)))) .nil)))) .nil))) (.cons (.set (.nm 6) (.call 15 (.cons (.lst (.cons (.bin .Add (.v 22) (.blt .tuple (.cons (.v 13) .nil))) (.cons (.bin .Add (.blt .tuple (.cons (.v 13) .nil)) (.v 22)) .nil))) (.cons (.v 1) (.cons (.v 2) .nil))))) (.cons (.ret (.tup (.cons (.call 15 (.cons (.lst (.cons (.bin .Add (.v 3) (.blt .tuple (.cons (.v 10) .nil))) (.cons (.bin .Add (.blt .tuple (.cons (.v 10) .nil)) (.v 3)) .nil))) (.cons (.v 1) (.cons (.v 2) .nil)))) (.cons (.bin .Add (.v 4) (.tup (.cons (.v 12) .nil))) (.cons (.bin .Add (.v 5) (.v 9)) (.cons (.v 6) (.cons (.bin .Add (.v 7) (.blt .tuple (.cons (.v 14) .nil))) (.cons (.v 8) .nil)))))))) .nil))))))))))
def f__law_far_net : FD := ⟨⟨("_law_far_net", none), "_law_far_net", "_law_far_net", defArgs s__law_far_net, defBody s__law_far_net, defScope s__law_far_net, [], []⟩, ⟨3, 23, w__law_far_net⟩, n__law_far_net, p__law_far_net, none⟩
def s_law : Stmt := top 51
def n_law : List Str := ["script", "draws", "at", "net", "kind", "right", "station", "times", "row", "turn", "told", "due", "reason", "e"]
def p_law : List Str := ["script"]
def w_law : Ss := .cons (.set (.nm 1) (.call 12 (.cons (.v 0) .nil))) (.cons (.set (.nm 2) (.new (.cons (.k (.int 0)) .nil))) (.cons (.set (.nm 3) (.call 19 (.cons (.v 1) (.cons (.v 2) .nil)))) (.cons (.set (.nm 3) (.call 23 (.cons (.v 3) (.cons (.v 1) (.cons (.v 2) .nil))))) (.cons (.set (.nm 4) (.call 15 (.cons (.sub (.v 3) (.k (.int 1))) (.cons (.v 1) (.cons (.v 2) .nil))))) (.cons (.set (.nm 5) (.blt .tuple (.cons (.lc false [("station", 6)] (.nm 6) (.sq (.sub (.v 3) (.k (.int 0)))) .nil (.call 20 (.cons (.v 3) (.cons (.v 4) (.cons (.sub (.v 6) (.k (.int 0))) .nil))))) .nil))) (.cons (.set (.nm 7) (.lc false [("row", 8)] (.nm 8) (.sq (.sub (.v 3) (.k (.int 3)))) (.cons (.cmp .Eq (.sub (.v 8) (.k (.int 5))) (.sub (.v 4) (.k (.int 0)))) .nil) (.sub (.v 8) (.k (.int 3))))) (.cons (.for_ (.nm 9) (.r1 (.k (.int 10))) [9, 10, 11, 12, 13] (.cons (.set (.nm 10) (.v 5)) (.cons (.ife (.cmp .Gt (.v 9) (.k (.int 0))) (.cons (.set (.nm 10) (.call 22 (.cons (.v 10) (.cons (.v 7) (.cons (.v 1) (.cons (.v 2) .nil)))))) .nil) .nil) (.cons (.ife (.an (.cons (.cmp .Eq (.call 14 (.cons (.v 1) (.cons (.v 2) (.cons (.k (.int 3)) .nil)))) (.k (.int 0))) (.cons (.e (.call 21 (.cons (.v 10) (.cons (.blt .len (.cons (.sub (.v 3) (.k (.int 0))) .nil)) .nil)))) .nil))) (.cons (.set (.nm 10) (.ife (.cmp .Gt (.v 9) (.k (.int 0))) (.call 22 (.cons (.v 10) (.cons (.v 7) (.cons (.v 1) (.cons (.v 2) .nil))))) (.v 10))) .nil) .nil) (.cons (.set (.nm 11) (.k (.str "form"))) (.cons (.ife (.e (.call 21 (.cons (.v 10) (.cons (.blt .len (.cons (.sub (.v 3) (.k (.int 0))) .nil)) .nil)))) (.cons (.set (.nm 11) (.ife (.cmp .Eq (.blt .repr (.cons (.v 10) .nil)) (.blt .repr (.cons (.v 5) .nil))) (.k .non) (.k (.str "entry")))) .nil) .nil) (.cons (.set (.nm 12) (.k .non)) (.cons (.try_ (.cons (.ex (.call 11 (.cons (.v 3) (.cons (.sub (.v 4) (.k (.int 0))) (.cons (.v 10) .nil))))) .nil) (.cons 2 (some 13) (.cons (.set (.nm 12) (.xf 13 "reason")) .nil) .nil)) (.cons (.ife (.cmp .NotEq (.v 12) (.v 11)) (.cons (.ret (.k (.bl false))) .nil) .nil) .nil))))))))) (.cons (.ret (.k (.bl true))) .nil))))))))
def f_law : FD := ⟨⟨("law", none), "law", "law", defArgs s_law, defBody s_law, defScope s_law, [], []⟩, ⟨1, 14, w_law⟩, n_law, p_law, none⟩
def s_Lookup___init__ : Stmt := inC (top 20) 0
def n_Lookup___init__ : List Str := ["self", "net", "rank", "name"]
def p_Lookup___init__ : List Str := ["self", "net"]
def w_Lookup___init__ : Ss := .cons (.setF 0 (.v 0) "stations" (.call 2 (.cons (.sub (.v 1) (.k (.int 0))) .nil))) (.cons (.setF 0 (.v 0) "types" (.call 2 (.cons (.sub (.v 1) (.k (.int 1))) .nil))) (.cons (.setF 0 (.v 0) "flights" (.call 2 (.cons (.sub (.v 1) (.k (.int 3))) .nil))) (.cons (.setF 0 (.v 0) "tails" (.sub (.v 1) (.k (.int 4)))) (.cons (.setF 0 (.v 0) "ranks" (.dc [("rank", 2), ("name", 3)] (.tp (.cons (.nm 2) (.cons (.nm 3) .nil))) (.en (.sub (.v 1) (.k (.int 2)))) .nil (.v 3) (.v 2))) (.cons (.setF 0 (.v 0) "fares" (.sub (.v 1) (.k (.int 5)))) .nil)))))
def f_Lookup___init__ : FD := ⟨⟨("Lookup", some "__init__"), "__init__", "Lookup.__init__", defArgs s_Lookup___init__, defBody s_Lookup___init__, defScope s_Lookup___init__, [], []⟩, ⟨2, 4, w_Lookup___init__⟩, n_Lookup___init__, p_Lookup___init__, none⟩
def s_Lookup_least : Stmt := inC (top 20) 1
def n_Lookup_least : List Str := ["self", "station"]
def p_Lookup_least : List Str := ["self", "station"]
def w_Lookup_least : Ss := .cons (.ret (.sub (.sub (.fld 0 (.v 0) "stations") (.v 1)) (.k (.int 2)))) .nil
def f_Lookup_least : FD := ⟨⟨("Lookup", some "least"), "least", "Lookup.least", defArgs s_Lookup_least, defBody s_Lookup_least, defScope s_Lookup_least, [], []⟩, ⟨2, 2, w_Lookup_least⟩, n_Lookup_least, p_Lookup_least, none⟩
def s_Lookup_seats : Stmt := inC (top 20) 2
def n_Lookup_seats : List Str := ["self", "flight"]
def p_Lookup_seats : List Str := ["self", "flight"]
def w_Lookup_seats : Ss := .cons (.ret (.sub (.sub (.fld 0 (.v 0) "types") (.sub (.sub (.fld 0 (.v 0) "flights") (.v 1)) (.k (.int 5)))) (.k (.int 1)))) .nil
def f_Lookup_seats : FD := ⟨⟨("Lookup", some "seats"), "seats", "Lookup.seats", defArgs s_Lookup_seats, defBody s_Lookup_seats, defScope s_Lookup_seats, [], []⟩, ⟨2, 2, w_Lookup_seats⟩, n_Lookup_seats, p_Lookup_seats, none⟩
def s_Lookup_turn : Stmt := inC (top 20) 3
def n_Lookup_turn : List Str := ["self", "kind"]
def p_Lookup_turn : List Str := ["self", "kind"]
def w_Lookup_turn : Ss := .cons (.ret (.sub (.sub (.fld 0 (.v 0) "types") (.v 1)) (.k (.int 2)))) .nil
def f_Lookup_turn : FD := ⟨⟨("Lookup", some "turn"), "turn", "Lookup.turn", defArgs s_Lookup_turn, defBody s_Lookup_turn, defScope s_Lookup_turn, [], []⟩, ⟨2, 2, w_Lookup_turn⟩, n_Lookup_turn, p_Lookup_turn, none⟩
def s_Checking___init__ : Stmt := inC (top 31) 0
def n_Checking___init__ : List Str := ["self", "net", "part"]
def p_Checking___init__ : List Str := ["self", "net"]
def w_Checking___init__ : Ss := .cons (.setF 1 (.v 0) "net" (.v 1)) (.cons (.setF 1 (.v 0) "known" (.lc false [("part", 2)] (.nm 2) (.sq (.v 1)) .nil .newD)) (.cons (.setF 1 (.v 0) "flown" .newD) .nil))
def f_Checking___init__ : FD := ⟨⟨("Checking", some "__init__"), "__init__", "Checking.__init__", defArgs s_Checking___init__, defBody s_Checking___init__, defScope s_Checking___init__, [], []⟩, ⟨2, 3, w_Checking___init__⟩, n_Checking___init__, p_Checking___init__, none⟩
def s_Checking_demand : Stmt := inC (top 31) 1
def n_Checking_demand : List Str := ["self", "path", "rules", "holds", "reason"]
def p_Checking_demand : List Str := ["self", "path", "rules"]
def w_Checking_demand : Ss := .cons (.for_ (.tp (.cons (.nm 3) (.cons (.nm 4) .nil))) (.sq (.v 2)) [3, 4] (.cons (.ife (.nt (.e (.v 3))) (.cons (.raise 0 (.cons (.v 1) (.cons (.v 4) .nil))) .nil) .nil) .nil)) .nil
def f_Checking_demand : FD := ⟨⟨("Checking", some "demand"), "demand", "Checking.demand", defArgs s_Checking_demand, defBody s_Checking_demand, defScope s_Checking_demand, [], []⟩, ⟨3, 5, w_Checking_demand⟩, n_Checking_demand, p_Checking_demand, some 2⟩
def s_Checking_named : Stmt := inC (top 31) 2
def n_Checking_named : List Str := ["self", "part", "place", "name"]
def p_Checking_named : List Str := ["self", "part", "place", "name"]
def w_Checking_named : Ss := .cons (.ex (.mst 1 "demand" 30 1 (.v 0) (.cons (.tup (.cons (.v 1) (.cons (.v 2) .nil))) (.cons (.tup (.cons (.an (.cons (.call 4 (.cons (.v 3) .nil)) (.cons (.cmp .LtE (.blt .len (.cons (.v 3) .nil)) (.g 4)) .nil))) (.cons (.k (.str "name")) .nil))) .nil)))) (.cons (.ex (.mst 1 "demand" 30 1 (.v 0) (.cons (.tup (.cons (.v 1) (.cons (.v 2) .nil))) (.cons (.tup (.cons (.cmp .NotIn (.v 3) (.sub (.fld 1 (.v 0) "known") (.v 1))) (.cons (.k (.str "twice")) .nil))) .nil)))) (.cons (.set (.sb (.sub (.fld 1 (.v 0) "known") (.v 1)) (.v 3)) (.v 2)) .nil))
def f_Checking_named : FD := ⟨⟨("Checking", some "named"), "named", "Checking.named", defArgs s_Checking_named, defBody s_Checking_named, defScope s_Checking_named, [], []⟩, ⟨4, 4, w_Checking_named⟩, n_Checking_named, p_Checking_named, none⟩
def s_Checking_station : Stmt := inC (top 31) 3
def n_Checking_station : List Str := ["self", "place", "row"]
def p_Checking_station : List Str := ["self", "place", "row"]
def w_Checking_station : Ss := .cons (.ex (.mst 1 "demand" 30 1 (.v 0) (.cons (.tup (.cons (.k (.int 0)) (.cons (.v 1) .nil))) (.cons (.tup (.cons (.an (.cons (.call 1 (.cons (.sub (.v 2) (.k (.int 1))) (.cons (.neg (.k (.int 720))) (.cons (.k (.int 840)) .nil)))) (.cons (.call 1 (.cons (.sub (.v 2) (.k (.int 2))) (.cons (.k (.int 0)) (.cons (.k (.int 600)) .nil)))) .nil))) (.cons (.k (.str "range")) .nil))) .nil)))) .nil
def f_Checking_station : FD := ⟨⟨("Checking", some "station"), "station", "Checking.station", defArgs s_Checking_station, defBody s_Checking_station, defScope s_Checking_station, [], []⟩, ⟨3, 3, w_Checking_station⟩, n_Checking_station, p_Checking_station, none⟩
def s_Checking_kind : Stmt := inC (top 31) 4
def n_Checking_kind : List Str := ["self", "place", "row"]
def p_Checking_kind : List Str := ["self", "place", "row"]
def w_Checking_kind : Ss := .cons (.ex (.mst 1 "demand" 30 1 (.v 0) (.cons (.tup (.cons (.k (.int 1)) (.cons (.v 1) .nil))) (.cons (.tup (.cons (.an (.cons (.call 1 (.cons (.sub (.v 2) (.k (.int 1))) (.cons (.k (.int 1)) (.cons (.k (.int 500)) .nil)))) (.cons (.call 1 (.cons (.sub (.v 2) (.k (.int 2))) (.cons (.k (.int 0)) (.cons (.k (.int 600)) .nil)))) .nil))) (.cons (.k (.str "range")) .nil))) .nil)))) .nil
def f_Checking_kind : FD := ⟨⟨("Checking", some "kind"), "kind", "Checking.kind", defArgs s_Checking_kind, defBody s_Checking_kind, defScope s_Checking_kind, [], []⟩, ⟨3, 3, w_Checking_kind⟩, n_Checking_kind, p_Checking_kind, none⟩
def s_Checking_ends : Stmt := inC (top 31) 5
def n_Checking_ends : List Str := ["self", "path", "start", "end"]
def p_Checking_ends : List Str := ["self", "path", "start", "end"]
def w_Checking_ends : Ss := .cons (.ex (.mst 1 "demand" 30 1 (.v 0) (.cons (.v 1) (.cons (.tup (.cons (.an (.cons (.cmp .In (.v 2) (.sub (.fld 1 (.v 0) "known") (.k (.int 0)))) (.cons (.cmp .In (.v 3) (.sub (.fld 1 (.v 0) "known") (.k (.int 0)))) .nil))) (.cons (.k (.str "station")) .nil))) (.cons (.tup (.cons (.cmp .NotEq (.v 2) (.v 3)) (.cons (.k (.str "same")) .nil))) .nil))))) .nil
def f_Checking_ends : FD := ⟨⟨("Checking", some "ends"), "ends", "Checking.ends", defArgs s_Checking_ends, defBody s_Checking_ends, defScope s_Checking_ends, [], []⟩, ⟨4, 4, w_Checking_ends⟩, n_Checking_ends, p_Checking_ends, none⟩
def s_Checking_flight : Stmt := inC (top 31) 6
def n_Checking_flight : List Str := ["self", "place", "row", "path", "times", "limits", "falling", "at", "right", "limit"]
def p_Checking_flight : List Str := ["self", "place", "row"]
def w_Checking_flight : Ss := .cons (.set (.nm 3) (.tup (.cons (.k (.int 3)) (.cons (.v 1) .nil)))) (.cons (.ex (.mcl 1 "ends" 34 (.v 0) (.cons (.v 3) (.cons (.sub (.v 2) (.k (.int 1))) (.cons (.sub (.v 2) (.k (.int 2))) .nil))))) (.cons (.set (.nm 4) (.an (.cons (.call 1 (.cons (.sub (.v 2) (.k (.int 3))) (.cons (.k (.int 0)) (.cons (.g 5) .nil)))) (.cons (.call 1 (.cons (.sub (.v 2) (.k (.int 4))) (.cons (.k (.int 0)) (.cons (.g 5) .nil)))) (.cons (.cmp .Lt (.sub (.v 2) (.k (.int 3))) (.sub (.v 2) (.k (.int 4)))) .nil))))) (.cons (.ex (.mst 1 "demand" 30 1 (.v 0) (.cons (.v 3) (.cons (.tup (.cons (.v 4) (.cons (.k (.str "times")) .nil))) (.cons (.tup (.cons (.cmp .In (.sub (.v 2) (.k (.int 5))) (.sub (.fld 1 (.v 0) "known") (.k (.int 1)))) (.cons (.k (.str "type")) .nil))) (.cons (.tup (.cons (.call 1 (.cons (.sub (.v 2) (.k (.int 6))) (.cons (.k (.int 1)) (.cons (.k (.int 20000)) .nil)))) (.cons (.k (.str "range")) .nil))) .nil)))))) (.cons (.set (.nm 5) (.sub (.v 2) (.k (.int 7)))) (.cons (.set (.nm 6) (.blt .all (.cons (.lc false [("at", 7)] (.nm 7) (.r1 (.bin .Sub (.blt .len (.cons (.v 5) .nil)) (.k (.int 1)))) .nil (.cmp .GtE (.sub (.v 5) (.v 7)) (.sub (.v 5) (.bin .Add (.v 7) (.k (.int 1)))))) .nil))) (.cons (.set (.nm 8) (.an (.cons (.cmp .Eq (.blt .len (.cons (.v 5) .nil)) (.blt .len (.cons (.sub (.fld 1 (.v 0) "net") (.k (.int 2))) .nil))) (.cons (.blt .all (.cons (.lc false [("limit", 9)] (.nm 9) (.sq (.v 5)) .nil (.call 1 (.cons (.v 9) (.cons (.k (.int 0)) (.cons (.k (.int 999)) .nil))))) .nil)) .nil)))) (.cons (.ex (.mst 1 "demand" 30 1 (.v 0) (.cons (.v 3) (.cons (.tup (.cons (.an (.cons (.v 8) (.cons (.v 6) .nil))) (.cons (.k (.str "limits")) .nil))) .nil)))) .nil)))))))
def f_Checking_flight : FD := ⟨⟨("Checking", some "flight"), "flight", "Checking.flight", defArgs s_Checking_flight, defBody s_Checking_flight, defScope s_Checking_flight, [], []⟩, ⟨3, 10, w_Checking_flight⟩, n_Checking_flight, p_Checking_flight, none⟩
def s_Checking_tail : Stmt := inC (top 31) 7
def n_Checking_tail : List Str := ["self", "place", "row", "path", "before", "name", "flight", "turn"]
def p_Checking_tail : List Str := ["self", "place", "row"]
def w_Checking_tail : Ss := .cons (.set (.nm 3) (.tup (.cons (.k (.int 4)) (.cons (.v 1) .nil)))) (.cons (.ex (.mst 1 "demand" 30 1 (.v 0) (.cons (.v 3) (.cons (.tup (.cons (.cmp .In (.sub (.v 2) (.k (.int 1))) (.sub (.fld 1 (.v 0) "known") (.k (.int 1)))) (.cons (.k (.str "type")) .nil))) .nil)))) (.cons (.set (.nm 4) (.k .non)) (.cons (.for_ (.nm 5) (.sq (.sub (.v 2) (.k (.int 2)))) [5, 6, 7] (.cons (.ex (.mst 1 "demand" 30 1 (.v 0) (.cons (.v 3) (.cons (.tup (.cons (.cmp .In (.v 5) (.sub (.fld 1 (.v 0) "known") (.k (.int 3)))) (.cons (.k (.str "flight")) .nil))) (.cons (.tup (.cons (.cmp .NotIn (.v 5) (.fld 1 (.v 0) "flown")) (.cons (.k (.str "flown")) .nil))) .nil))))) (.cons (.set (.sb (.fld 1 (.v 0) "flown") (.v 5)) (.k (.bl true))) (.cons (.set (.nm 6) (.sub (.sub (.fld 1 (.v 0) "net") (.k (.int 3))) (.sub (.sub (.fld 1 (.v 0) "known") (.k (.int 3))) (.v 5)))) (.cons (.ex (.mst 1 "demand" 30 1 (.v 0) (.cons (.v 3) (.cons (.tup (.cons (.cmp .Eq (.sub (.v 6) (.k (.int 5))) (.sub (.v 2) (.k (.int 1)))) (.cons (.k (.str "kind")) .nil))) .nil)))) (.cons (.ife (.cmp .IsNot (.v 4) (.k .non)) (.cons (.set (.nm 7) (.sub (.sub (.sub (.fld 1 (.v 0) "net") (.k (.int 1))) (.sub (.sub (.fld 1 (.v 0) "known") (.k (.int 1))) (.sub (.v 2) (.k (.int 1))))) (.k (.int 2)))) (.cons (.ex (.mst 1 "demand" 30 1 (.v 0) (.cons (.v 3) (.cons (.tup (.cons (.cmp .Eq (.sub (.v 4) (.k (.int 2))) (.sub (.v 6) (.k (.int 1)))) (.cons (.k (.str "place")) .nil))) (.cons (.tup (.cons (.cmp .LtE (.bin .Add (.sub (.v 4) (.k (.int 4))) (.v 7)) (.sub (.v 6) (.k (.int 3)))) (.cons (.k (.str "turn")) .nil))) .nil))))) .nil)) .nil) (.cons (.set (.nm 4) (.v 6)) .nil))))))) .nil)))
def f_Checking_tail : FD := ⟨⟨("Checking", some "tail"), "tail", "Checking.tail", defArgs s_Checking_tail, defBody s_Checking_tail, defScope s_Checking_tail, [], []⟩, ⟨3, 8, w_Checking_tail⟩, n_Checking_tail, p_Checking_tail, none⟩
def s_Checking_fare : Stmt := inC (top 31) 8
def n_Checking_fare : List Str := ["self", "place", "row", "path", "right"]
def p_Checking_fare : List Str := ["self", "place", "row"]
def w_Checking_fare : Ss := .cons (.set (.nm 3) (.tup (.cons (.k (.int 5)) (.cons (.v 1) .nil)))) (.cons (.ex (.mcl 1 "ends" 34 (.v 0) (.cons (.v 3) (.cons (.sub (.v 2) (.k (.int 1))) (.cons (.sub (.v 2) (.k (.int 2))) .nil))))) (.cons (.set (.nm 4) (.an (.cons (.call 1 (.cons (.sub (.v 2) (.k (.int 4))) (.cons (.k (.int 0)) (.cons (.g 6) .nil)))) (.cons (.call 1 (.cons (.sub (.v 2) (.k (.int 6))) (.cons (.k (.int 0)) (.cons (.g 6) .nil)))) .nil)))) (.cons (.set (.nm 4) (.an (.cons (.v 4) (.cons (.call 1 (.cons (.sub (.v 2) (.k (.int 5))) (.cons (.k (.int 0)) (.cons (.g 7) .nil)))) (.cons (.call 1 (.cons (.sub (.v 2) (.k (.int 7))) (.cons (.k (.int 0)) (.cons (.k (.int 100)) .nil)))) .nil))))) (.cons (.ex (.mst 1 "demand" 30 1 (.v 0) (.cons (.v 3) (.cons (.tup (.cons (.cmp .In (.sub (.v 2) (.k (.int 3))) (.sub (.fld 1 (.v 0) "known") (.k (.int 2)))) (.cons (.k (.str "class")) .nil))) (.cons (.tup (.cons (.v 4) (.cons (.k (.str "range")) .nil))) .nil))))) .nil))))
def f_Checking_fare : FD := ⟨⟨("Checking", some "fare"), "fare", "Checking.fare", defArgs s_Checking_fare, defBody s_Checking_fare, defScope s_Checking_fare, [], []⟩, ⟨3, 5, w_Checking_fare⟩, n_Checking_fare, p_Checking_fare, none⟩
def si_NetError : Stmt := inC (top 5) 0
def i_NetError : ID := ⟨"NetError", ["path", "reason"], "NetError.__init__", defArgs si_NetError, defBody si_NetError, defScope si_NetError⟩
def si_ReasonError : Stmt := inC (top 2) 0
def i_ReasonError : ID := ⟨"ReasonError", ["reason"], "ReasonError.__init__", defArgs si_ReasonError, defBody si_ReasonError, defScope si_ReasonError⟩
def pgm : Pgm := ⟨pw.main.file, [f_is_integer, f_in_range, f_by_name, f_same_value, f_is_name, f_has_sort, f_has_shape, f_check, f_flights_of, f_deficit_at, f_deficit_of, f_accept_deficits, f__law_draws, f__law_more, f__law_take, f__law_one, f__law_limits, f__law_net, f__law_busy, f__law_some_net, f__law_deficit, f__law_has_form, f__law_bent, f__law_far_net, f_law, f_Lookup___init__, f_Lookup_least, f_Lookup_seats, f_Lookup_turn, f_Checking___init__, f_Checking_demand, f_Checking_named, f_Checking_station, f_Checking_kind, f_Checking_ends, f_Checking_flight, f_Checking_tail, f_Checking_fare], [("LETTERS", .str "abcdefghijklmnopqrstuvwxyzABCDEFGHIJKLMNOPQRSTUVWXYZ"), ("DIGITS", .str "0123456789"), ("SHAPES", .tup [.str "nii", .str "nii", .str "n", .str "nnniinir", .str "nnq", .str "nnnniiii"]), ("MOST", .tup [.int 12, .int 4, .int 6, .int 40, .int 12, .int 40]), ("MAX_NAME", .int 12), ("MAX_TIME", .int 20160), ("MAX_COIN", .int 1000000), ("MAX_STOPS", .int 3)], [⟨"NetError", some 0⟩, ⟨"ArgumentError", some 1⟩, ⟨"PaperError", some 1⟩], [i_NetError, i_ReasonError], [[true, false, false], [false, true, false], [false, false, true]], [⟨"Lookup", ["stations", "types", "flights", "tails", "ranks", "fares"], [("least", 26), ("seats", 27), ("turn", 28)], some 25⟩, ⟨"Checking", ["net", "known", "flown"], [("demand", 30), ("named", 31), ("station", 32), ("kind", 33), ("ends", 34), ("flight", 35), ("tail", 36), ("fare", 37)], some 29⟩]⟩
set_option maxHeartbeats 0 in
theorem k_is_integer : chkSs { pgm.Γ with N := n_is_integer, sc := defScope s_is_integer, all := true, bsc := defScope s_is_integer, calm := true, body := true } w_is_integer (defBody s_is_integer) = true := by decide +kernel
theorem o_is_integer : FDok pgm f_is_integer := ⟨(fun _ => rfl), rfl, rfl, ⟨by decide +kernel, by decide +kernel, by decide +kernel, by decide +kernel, by decide +kernel, by decide +kernel, by decide +kernel⟩, rfl, rfl, k_is_integer, fun _ _ _ _ _ _ us hl => match us, hl with | [_], _ => rfl⟩
set_option maxHeartbeats 0 in
theorem k_in_range : chkSs { pgm.Γ with N := n_in_range, sc := defScope s_in_range, all := true, bsc := defScope s_in_range, calm := true, body := true } w_in_range (defBody s_in_range) = true := by decide +kernel
theorem o_in_range : FDok pgm f_in_range := ⟨(fun _ => rfl), rfl, rfl, ⟨by decide +kernel, by decide +kernel, by decide +kernel, by decide +kernel, by decide +kernel, by decide +kernel, by decide +kernel⟩, rfl, rfl, k_in_range, fun _ _ _ _ _ _ us hl => match us, hl with | [_, _, _], _ => rfl⟩
set_option maxHeartbeats 0 in
theorem k_by_name : chkSs { pgm.Γ with N := n_by_name, sc := defScope s_by_name, all := true, bsc := defScope s_by_name, calm := true, body := true } w_by_name (defBody s_by_name) = true := by decide +kernel
theorem o_by_name : FDok pgm f_by_name := ⟨(fun _ => rfl), rfl, rfl, ⟨by decide +kernel, by decide +kernel, by decide +kernel, by decide +kernel, by decide +kernel, by decide +kernel, by decide +kernel⟩, rfl, rfl, k_by_name, fun _ _ _ _ _ _ us hl => match us, hl with | [_], _ => rfl⟩
set_option maxHeartbeats 0 in
theorem k_same_value : chkSs { pgm.Γ with N := n_same_value, sc := defScope s_same_value, all := true, bsc := defScope s_same_value, calm := true, body := true } w_same_value (defBody s_same_value) = true := by decide +kernel
theorem o_same_value : FDok pgm f_same_value := ⟨(fun _ => rfl), rfl, rfl, ⟨by decide +kernel, by decide +kernel, by decide +kernel, by decide +kernel, by decide +kernel, by decide +kernel, by decide +kernel⟩, rfl, rfl, k_same_value, fun _ _ _ _ _ _ us hl => match us, hl with | [_, _], _ => rfl⟩
set_option maxHeartbeats 0 in
theorem k_is_name : chkSs { pgm.Γ with N := n_is_name, sc := defScope s_is_name, all := true, bsc := defScope s_is_name, calm := true, body := true } w_is_name (defBody s_is_name) = true := by decide +kernel
theorem o_is_name : FDok pgm f_is_name := ⟨(fun _ => rfl), rfl, rfl, ⟨by decide +kernel, by decide +kernel, by decide +kernel, by decide +kernel, by decide +kernel, by decide +kernel, by decide +kernel⟩, rfl, rfl, k_is_name, fun _ _ _ _ _ _ us hl => match us, hl with | [_], _ => rfl⟩
set_option maxHeartbeats 0 in
theorem k_has_sort : chkSs { pgm.Γ with N := n_has_sort, sc := defScope s_has_sort, all := true, bsc := defScope s_has_sort, calm := true, body := true } w_has_sort (defBody s_has_sort) = true := by decide +kernel
theorem o_has_sort : FDok pgm f_has_sort := ⟨(fun _ => rfl), rfl, rfl, ⟨by decide +kernel, by decide +kernel, by decide +kernel, by decide +kernel, by decide +kernel, by decide +kernel, by decide +kernel⟩, rfl, rfl, k_has_sort, fun _ _ _ _ _ _ us hl => match us, hl with | [_, _], _ => rfl⟩
set_option maxHeartbeats 0 in
theorem k_has_shape : chkSs { pgm.Γ with N := n_has_shape, sc := defScope s_has_shape, all := true, bsc := defScope s_has_shape, calm := true, body := true } w_has_shape (defBody s_has_shape) = true := by decide +kernel
theorem o_has_shape : FDok pgm f_has_shape := ⟨(fun _ => rfl), rfl, rfl, ⟨by decide +kernel, by decide +kernel, by decide +kernel, by decide +kernel, by decide +kernel, by decide +kernel, by decide +kernel⟩, rfl, rfl, k_has_shape, fun _ _ _ _ _ _ us hl => match us, hl with | [_], _ => rfl⟩
set_option maxHeartbeats 0 in
theorem k_check : chkSs { pgm.Γ with N := n_check, sc := defScope s_check, all := true, bsc := defScope s_check, calm := true, body := true } w_check (defBody s_check) = true := by decide +kernel
theorem o_check : FDok pgm f_check := ⟨(fun _ => rfl), rfl, rfl, ⟨by decide +kernel, by decide +kernel, by decide +kernel, by decide +kernel, by decide +kernel, by decide +kernel, by decide +kernel⟩, rfl, rfl, k_check, fun _ _ _ _ _ _ us hl => match us, hl with | [_], _ => rfl⟩
set_option maxHeartbeats 0 in
theorem k_flights_of : chkSs { pgm.Γ with N := n_flights_of, sc := defScope s_flights_of, all := true, bsc := defScope s_flights_of, calm := true, body := true } w_flights_of (defBody s_flights_of) = true := by decide +kernel
theorem o_flights_of : FDok pgm f_flights_of := ⟨(fun _ => rfl), rfl, rfl, ⟨by decide +kernel, by decide +kernel, by decide +kernel, by decide +kernel, by decide +kernel, by decide +kernel, by decide +kernel⟩, rfl, rfl, k_flights_of, fun _ _ _ _ _ _ us hl => match us, hl with | [_, _], _ => rfl⟩
set_option maxHeartbeats 0 in
theorem k_deficit_at : chkSs { pgm.Γ with N := n_deficit_at, sc := defScope s_deficit_at, all := true, bsc := defScope s_deficit_at, calm := true, body := true } w_deficit_at (defBody s_deficit_at) = true := by decide +kernel
theorem o_deficit_at : FDok pgm f_deficit_at := ⟨(fun _ => rfl), rfl, rfl, ⟨by decide +kernel, by decide +kernel, by decide +kernel, by decide +kernel, by decide +kernel, by decide +kernel, by decide +kernel⟩, rfl, rfl, k_deficit_at, fun _ _ _ _ _ _ us hl => match us, hl with | [_, _, _, _], _ => rfl⟩
set_option maxHeartbeats 0 in
theorem k_deficit_of : chkSs { pgm.Γ with N := n_deficit_of, sc := defScope s_deficit_of, all := true, bsc := defScope s_deficit_of, calm := true, body := true } w_deficit_of (defBody s_deficit_of) = true := by decide +kernel
theorem o_deficit_of : FDok pgm f_deficit_of := ⟨(fun _ => rfl), rfl, rfl, ⟨by decide +kernel, by decide +kernel, by decide +kernel, by decide +kernel, by decide +kernel, by decide +kernel, by decide +kernel⟩, rfl, rfl, k_deficit_of, fun _ _ _ _ _ _ us hl => match us, hl with | [_, _, _], _ => rfl⟩
set_option maxHeartbeats 0 in
theorem k_accept_deficits : chkSs { pgm.Γ with N := n_accept_deficits, sc := defScope s_accept_deficits, all := true, bsc := defScope s_accept_deficits, calm := true, body := true } w_accept_deficits (defBody s_accept_deficits) = true := by decide +kernel
theorem o_accept_deficits : FDok pgm f_accept_deficits := ⟨(fun _ => rfl), rfl, rfl, ⟨by decide +kernel, by decide +kernel, by decide +kernel, by decide +kernel, by decide +kernel, by decide +kernel, by decide +kernel⟩, rfl, rfl, k_accept_deficits, fun _ _ _ _ _ _ us hl => match us, hl with | [_, _, _], _ => rfl⟩
set_option maxHeartbeats 0 in
theorem k__law_draws : chkSs { pgm.Γ with N := n__law_draws, sc := defScope s__law_draws, all := true, bsc := defScope s__law_draws, calm := true, body := true } w__law_draws (defBody s__law_draws) = true := by decide +kernel
theorem o__law_draws : FDok pgm f__law_draws := ⟨(fun _ => rfl), rfl, rfl, ⟨by decide +kernel, by decide +kernel, by decide +kernel, by decide +kernel, by decide +kernel, by decide +kernel, by decide +kernel⟩, rfl, rfl, k__law_draws, fun _ _ _ _ _ _ us hl => match us, hl with | [_], _ => rfl⟩
set_option maxHeartbeats 0 in
theorem k__law_more : chkSs { pgm.Γ with N := n__law_more, sc := defScope s__law_more, all := true, bsc := defScope s__law_more, calm := true, body := true } w__law_more (defBody s__law_more) = true := by decide +kernel
theorem o__law_more : FDok pgm f__law_more := ⟨(fun _ => rfl), rfl, rfl, ⟨by decide +kernel, by decide +kernel, by decide +kernel, by decide +kernel, by decide +kernel, by decide +kernel, by decide +kernel⟩, rfl, rfl, k__law_more, fun _ _ _ _ _ _ us hl => match us, hl with | [_, _], _ => rfl⟩
set_option maxHeartbeats 0 in
theorem k__law_take : chkSs { pgm.Γ with N := n__law_take, sc := defScope s__law_take, all := true, bsc := defScope s__law_take, calm := true, body := true } w__law_take (defBody s__law_take) = true := by decide +kernel
theorem o__law_take : FDok pgm f__law_take := ⟨(fun _ => rfl), rfl, rfl, ⟨by decide +kernel, by decide +kernel, by decide +kernel, by decide +kernel, by decide +kernel, by decide +kernel, by decide +kernel⟩, rfl, rfl, k__law_take, fun _ _ _ _ _ _ us hl => match us, hl with | [_, _, _], _ => rfl⟩
set_option maxHeartbeats 0 in
theorem k__law_one : chkSs { pgm.Γ with N := n__law_one, sc := defScope s__law_one, all := true, bsc := defScope s__law_one, calm := true, body := true } w__law_one (defBody s__law_one) = true := by decide +kernel
theorem o__law_one : FDok pgm f__law_one := ⟨(fun _ => rfl), rfl, rfl, ⟨by decide +kernel, by decide +kernel, by decide +kernel, by decide +kernel, by decide +kernel, by decide +kernel, by decide +kernel⟩, rfl, rfl, k__law_one, fun _ _ _ _ _ _ us hl => match us, hl with | [_, _, _], _ => rfl⟩
set_option maxHeartbeats 0 in
theorem k__law_limits : chkSs { pgm.Γ with N := n__law_limits, sc := defScope s__law_limits, all := true, bsc := defScope s__law_limits, calm := true, body := true } w__law_limits (defBody s__law_limits) = true := by decide +kernel
theorem o__law_limits : FDok pgm f__law_limits := ⟨(fun _ => rfl), rfl, rfl, ⟨by decide +kernel, by decide +kernel, by decide +kernel, by decide +kernel, by decide +kernel, by decide +kernel, by decide +kernel⟩, rfl, rfl, k__law_limits, fun _ _ _ _ _ _ us hl => match us, hl with | [_, _, _, _], _ => rfl⟩
set_option maxHeartbeats 0 in
theorem k__law_net : chkSs { pgm.Γ with N := n__law_net, sc := defScope s__law_net, all := true, bsc := defScope s__law_net, calm := true, body := true } w__law_net (defBody s__law_net) = true := by decide +kernel
theorem o__law_net : FDok pgm f__law_net := ⟨(fun _ => rfl), rfl, rfl, ⟨by decide +kernel, by decide +kernel, by decide +kernel, by decide +kernel, by decide +kernel, by decide +kernel, by decide +kernel⟩, rfl, rfl, k__law_net, fun _ _ _ _ _ _ us hl => match us, hl with | [_, _, _], _ => rfl⟩
set_option maxHeartbeats 0 in
theorem k__law_busy : chkSs { pgm.Γ with N := n__law_busy, sc := defScope s__law_busy, all := true, bsc := defScope s__law_busy, calm := true, body := true } w__law_busy (defBody s__law_busy) = true := by decide +kernel
theorem o__law_busy : FDok pgm f__law_busy := ⟨(fun _ => rfl), rfl, rfl, ⟨by decide +kernel, by decide +kernel, by decide +kernel, by decide +kernel, by decide +kernel, by decide +kernel, by decide +kernel⟩, rfl, rfl, k__law_busy, fun _ _ _ _ _ _ us hl => match us, hl with | [_, _], _ => rfl⟩
set_option maxHeartbeats 0 in
theorem k__law_some_net : chkSs { pgm.Γ with N := n__law_some_net, sc := defScope s__law_some_net, all := true, bsc := defScope s__law_some_net, calm := true, body := true } w__law_some_net (defBody s__law_some_net) = true := by decide +kernel
theorem o__law_some_net : FDok pgm f__law_some_net := ⟨(fun _ => rfl), rfl, rfl, ⟨by decide +kernel, by decide +kernel, by decide +kernel, by decide +kernel, by decide +kernel, by decide +kernel, by decide +kernel⟩, rfl, rfl, k__law_some_net, fun _ _ _ _ _ _ us hl => match us, hl with | [_, _], _ => rfl⟩
set_option maxHeartbeats 0 in
theorem k__law_deficit : chkSs { pgm.Γ with N := n__law_deficit, sc := defScope s__law_deficit, all := true, bsc := defScope s__law_deficit, calm := true, body := true } w__law_deficit (defBody s__law_deficit) = true := by decide +kernel
theorem o__law_deficit : FDok pgm f__law_deficit := ⟨(fun _ => rfl), rfl, rfl, ⟨by decide +kernel, by decide +kernel, by decide +kernel, by decide +kernel, by decide +kernel, by decide +kernel, by decide +kernel⟩, rfl, rfl, k__law_deficit, fun _ _ _ _ _ _ us hl => match us, hl with | [_, _, _], _ => rfl⟩
set_option maxHeartbeats 0 in
theorem k__law_has_form : chkSs { pgm.Γ with N := n__law_has_form, sc := defScope s__law_has_form, all := true, bsc := defScope s__law_has_form, calm := true, body := true } w__law_has_form (defBody s__law_has_form) = true := by decide +kernel
theorem o__law_has_form : FDok pgm f__law_has_form := ⟨(fun _ => rfl), rfl, rfl, ⟨by decide +kernel, by decide +kernel, by decide +kernel, by decide +kernel, by decide +kernel, by decide +kernel, by decide +kernel⟩, rfl, rfl, k__law_has_form, fun _ _ _ _ _ _ us hl => match us, hl with | [_, _], _ => rfl⟩
set_option maxHeartbeats 0 in
theorem k__law_bent : chkSs { pgm.Γ with N := n__law_bent, sc := defScope s__law_bent, all := true, bsc := defScope s__law_bent, calm := true, body := true } w__law_bent (defBody s__law_bent) = true := by decide +kernel
theorem o__law_bent : FDok pgm f__law_bent := ⟨(fun _ => rfl), rfl, rfl, ⟨by decide +kernel, by decide +kernel, by decide +kernel, by decide +kernel, by decide +kernel, by decide +kernel, by decide +kernel⟩, rfl, rfl, k__law_bent, fun _ _ _ _ _ _ us hl => match us, hl with | [_, _, _, _], _ => rfl⟩
set_option maxHeartbeats 0 in
theorem k__law_far_net : chkSs { pgm.Γ with N := n__law_far_net, sc := defScope s__law_far_net, all := true, bsc := defScope s__law_far_net, calm := true, body := true } w__law_far_net (defBody s__law_far_net) = true := by decide +kernel
theorem o__law_far_net : FDok pgm f__law_far_net := ⟨(fun _ => rfl), rfl, rfl, ⟨by decide +kernel, by decide +kernel, by decide +kernel, by decide +kernel, by decide +kernel, by decide +kernel, by decide +kernel⟩, rfl, rfl, k__law_far_net, fun _ _ _ _ _ _ us hl => match us, hl with | [_, _, _], _ => rfl⟩
set_option maxHeartbeats 0 in
theorem k_law : chkSs { pgm.Γ with N := n_law, sc := defScope s_law, all := true, bsc := defScope s_law, calm := true, body := true } w_law (defBody s_law) = true := by decide +kernel
theorem o_law : FDok pgm f_law := ⟨(fun _ => rfl), rfl, rfl, ⟨by decide +kernel, by decide +kernel, by decide +kernel, by decide +kernel, by decide +kernel, by decide +kernel, by decide +kernel⟩, rfl, rfl, k_law, fun _ _ _ _ _ _ us hl => match us, hl with | [_], _ => rfl⟩
set_option maxHeartbeats 0 in
theorem k_Lookup___init__ : chkSs { pgm.Γ with N := n_Lookup___init__, sc := defScope s_Lookup___init__, all := true, bsc := defScope s_Lookup___init__, calm := true, body := true } w_Lookup___init__ (defBody s_Lookup___init__) = true := by decide +kernel
theorem o_Lookup___init__ : FDok pgm f_Lookup___init__ := ⟨(fun h => by cases h), rfl, rfl, ⟨by decide +kernel, by decide +kernel, by decide +kernel, by decide +kernel, by decide +kernel, by decide +kernel, by decide +kernel⟩, rfl, rfl, k_Lookup___init__, fun _ _ _ _ _ _ us hl => match us, hl with | [_, _], _ => rfl⟩
set_option maxHeartbeats 0 in
theorem k_Lookup_least : chkSs { pgm.Γ with N := n_Lookup_least, sc := defScope s_Lookup_least, all := true, bsc := defScope s_Lookup_least, calm := true, body := true } w_Lookup_least (defBody s_Lookup_least) = true := by decide +kernel
theorem o_Lookup_least : FDok pgm f_Lookup_least := ⟨(fun h => by cases h), rfl, rfl, ⟨by decide +kernel, by decide +kernel, by decide +kernel, by decide +kernel, by decide +kernel, by decide +kernel, by decide +kernel⟩, rfl, rfl, k_Lookup_least, fun _ _ _ _ _ _ us hl => match us, hl with | [_, _], _ => rfl⟩
set_option maxHeartbeats 0 in
theorem k_Lookup_seats : chkSs { pgm.Γ with N := n_Lookup_seats, sc := defScope s_Lookup_seats, all := true, bsc := defScope s_Lookup_seats, calm := true, body := true } w_Lookup_seats (defBody s_Lookup_seats) = true := by decide +kernel
theorem o_Lookup_seats : FDok pgm f_Lookup_seats := ⟨(fun h => by cases h), rfl, rfl, ⟨by decide +kernel, by decide +kernel, by decide +kernel, by decide +kernel, by decide +kernel, by decide +kernel, by decide +kernel⟩, rfl, rfl, k_Lookup_seats, fun _ _ _ _ _ _ us hl => match us, hl with | [_, _], _ => rfl⟩
set_option maxHeartbeats 0 in
theorem k_Lookup_turn : chkSs { pgm.Γ with N := n_Lookup_turn, sc := defScope s_Lookup_turn, all := true, bsc := defScope s_Lookup_turn, calm := true, body := true } w_Lookup_turn (defBody s_Lookup_turn) = true := by decide +kernel
theorem o_Lookup_turn : FDok pgm f_Lookup_turn := ⟨(fun h => by cases h), rfl, rfl, ⟨by decide +kernel, by decide +kernel, by decide +kernel, by decide +kernel, by decide +kernel, by decide +kernel, by decide +kernel⟩, rfl, rfl, k_Lookup_turn, fun _ _ _ _ _ _ us hl => match us, hl with | [_, _], _ => rfl⟩
set_option maxHeartbeats 0 in
theorem k_Checking___init__ : chkSs { pgm.Γ with N := n_Checking___init__, sc := defScope s_Checking___init__, all := true, bsc := defScope s_Checking___init__, calm := true, body := true } w_Checking___init__ (defBody s_Checking___init__) = true := by decide +kernel
theorem o_Checking___init__ : FDok pgm f_Checking___init__ := ⟨(fun h => by cases h), rfl, rfl, ⟨by decide +kernel, by decide +kernel, by decide +kernel, by decide +kernel, by decide +kernel, by decide +kernel, by decide +kernel⟩, rfl, rfl, k_Checking___init__, fun _ _ _ _ _ _ us hl => match us, hl with | [_, _], _ => rfl⟩
set_option maxHeartbeats 0 in
theorem k_Checking_demand : chkSs { pgm.Γ with N := n_Checking_demand, sc := defScope s_Checking_demand, all := true, bsc := defScope s_Checking_demand, calm := true, body := true } w_Checking_demand (defBody s_Checking_demand) = true := by decide +kernel
theorem o_Checking_demand : FDok pgm f_Checking_demand := ⟨(fun h => by cases h), rfl, rfl, ⟨by decide +kernel, by decide +kernel, by decide +kernel, by decide +kernel, by decide +kernel, by decide +kernel, by decide +kernel⟩, rfl, rfl, k_Checking_demand, ⟨["self", "path"], "rules", rfl, rfl, fun _ _ _ _ _ _ => StX.bind_star2 (B := fun us => bindArgs _ ⟨us, []⟩) (fun _ _ => rfl) (fun _ _ _ _ => rfl)⟩⟩
set_option maxHeartbeats 0 in
theorem k_Checking_named : chkSs { pgm.Γ with N := n_Checking_named, sc := defScope s_Checking_named, all := true, bsc := defScope s_Checking_named, calm := true, body := true } w_Checking_named (defBody s_Checking_named) = true := by decide +kernel
theorem o_Checking_named : FDok pgm f_Checking_named := ⟨(fun h => by cases h), rfl, rfl, ⟨by decide +kernel, by decide +kernel, by decide +kernel, by decide +kernel, by decide +kernel, by decide +kernel, by decide +kernel⟩, rfl, rfl, k_Checking_named, fun _ _ _ _ _ _ us hl => match us, hl with | [_, _, _, _], _ => rfl⟩
set_option maxHeartbeats 0 in
theorem k_Checking_station : chkSs { pgm.Γ with N := n_Checking_station, sc := defScope s_Checking_station, all := true, bsc := defScope s_Checking_station, calm := true, body := true } w_Checking_station (defBody s_Checking_station) = true := by decide +kernel
theorem o_Checking_station : FDok pgm f_Checking_station := ⟨(fun h => by cases h), rfl, rfl, ⟨by decide +kernel, by decide +kernel, by decide +kernel, by decide +kernel, by decide +kernel, by decide +kernel, by decide +kernel⟩, rfl, rfl, k_Checking_station, fun _ _ _ _ _ _ us hl => match us, hl with | [_, _, _], _ => rfl⟩
set_option maxHeartbeats 0 in
theorem k_Checking_kind : chkSs { pgm.Γ with N := n_Checking_kind, sc := defScope s_Checking_kind, all := true, bsc := defScope s_Checking_kind, calm := true, body := true } w_Checking_kind (defBody s_Checking_kind) = true := by decide +kernel
theorem o_Checking_kind : FDok pgm f_Checking_kind := ⟨(fun h => by cases h), rfl, rfl, ⟨by decide +kernel, by decide +kernel, by decide +kernel, by decide +kernel, by decide +kernel, by decide +kernel, by decide +kernel⟩, rfl, rfl, k_Checking_kind, fun _ _ _ _ _ _ us hl => match us, hl with | [_, _, _], _ => rfl⟩
set_option maxHeartbeats 0 in
theorem k_Checking_ends : chkSs { pgm.Γ with N := n_Checking_ends, sc := defScope s_Checking_ends, all := true, bsc := defScope s_Checking_ends, calm := true, body := true } w_Checking_ends (defBody s_Checking_ends) = true := by decide +kernel
theorem o_Checking_ends : FDok pgm f_Checking_ends := ⟨(fun h => by cases h), rfl, rfl, ⟨by decide +kernel, by decide +kernel, by decide +kernel, by decide +kernel, by decide +kernel, by decide +kernel, by decide +kernel⟩, rfl, rfl, k_Checking_ends, fun _ _ _ _ _ _ us hl => match us, hl with | [_, _, _, _], _ => rfl⟩
set_option maxHeartbeats 0 in
theorem k_Checking_flight : chkSs { pgm.Γ with N := n_Checking_flight, sc := defScope s_Checking_flight, all := true, bsc := defScope s_Checking_flight, calm := true, body := true } w_Checking_flight (defBody s_Checking_flight) = true := by decide +kernel
theorem o_Checking_flight : FDok pgm f_Checking_flight := ⟨(fun h => by cases h), rfl, rfl, ⟨by decide +kernel, by decide +kernel, by decide +kernel, by decide +kernel, by decide +kernel, by decide +kernel, by decide +kernel⟩, rfl, rfl, k_Checking_flight, fun _ _ _ _ _ _ us hl => match us, hl with | [_, _, _], _ => rfl⟩
set_option maxHeartbeats 0 in
theorem k_Checking_tail : chkSs { pgm.Γ with N := n_Checking_tail, sc := defScope s_Checking_tail, all := true, bsc := defScope s_Checking_tail, calm := true, body := true } w_Checking_tail (defBody s_Checking_tail) = true := by decide +kernel
theorem o_Checking_tail : FDok pgm f_Checking_tail := ⟨(fun h => by cases h), rfl, rfl, ⟨by decide +kernel, by decide +kernel, by decide +kernel, by decide +kernel, by decide +kernel, by decide +kernel, by decide +kernel⟩, rfl, rfl, k_Checking_tail, fun _ _ _ _ _ _ us hl => match us, hl with | [_, _, _], _ => rfl⟩
set_option maxHeartbeats 0 in
theorem k_Checking_fare : chkSs { pgm.Γ with N := n_Checking_fare, sc := defScope s_Checking_fare, all := true, bsc := defScope s_Checking_fare, calm := true, body := true } w_Checking_fare (defBody s_Checking_fare) = true := by decide +kernel
theorem o_Checking_fare : FDok pgm f_Checking_fare := ⟨(fun h => by cases h), rfl, rfl, ⟨by decide +kernel, by decide +kernel, by decide +kernel, by decide +kernel, by decide +kernel, by decide +kernel, by decide +kernel⟩, rfl, rfl, k_Checking_fare, fun _ _ _ _ _ _ us hl => match us, hl with | [_, _, _], _ => rfl⟩
theorem oi_NetError : IDok i_NetError := ⟨fun T lk hc no => ini2 T lk hc rfl rfl ⟨by decide +kernel, by decide +kernel, by decide +kernel, by decide +kernel, by decide +kernel, by decide +kernel, by decide +kernel, by decide +kernel, by decide +kernel⟩ (fun _ => rfl) (by decide) (by decide) (by decide) (by decide) (no "path" (by decide +kernel)) (no "reason" (by decide +kernel)), by decide +kernel, fun _ _ _ _ _ _ _ us hl => match us, hl with | [_, _, _], _ => rfl⟩
theorem oi_ReasonError : IDok i_ReasonError := ⟨fun T lk hc no => ini1 T lk hc rfl rfl ⟨by decide +kernel, by decide +kernel, by decide +kernel, by decide +kernel, by decide +kernel, by decide +kernel, by decide +kernel, by decide +kernel, by decide +kernel⟩ (fun _ => rfl) (by decide) (by decide) (no "reason" (by decide +kernel)), by decide +kernel, fun _ _ _ _ _ _ _ us hl => match us, hl with | [_, _], _ => rfl⟩
theorem ok : PgmOk pgm pw := ⟨rfl, by decide +kernel, fun f hf => by
  simp only [pgm, List.mem_cons, List.not_mem_nil, or_false] at hf
  rcases hf with rfl | rfl | rfl | rfl | rfl | rfl | rfl | rfl | rfl | rfl | rfl | rfl | rfl | rfl | rfl | rfl | rfl | rfl | rfl | rfl | rfl | rfl | rfl | rfl | rfl | rfl | rfl | rfl | rfl | rfl | rfl | rfl | rfl | rfl | rfl | rfl | rfl | rfl
  · exact o_is_integer
  · exact o_in_range
  · exact o_by_name
  · exact o_same_value
  · exact o_is_name
  · exact o_has_sort
  · exact o_has_shape
  · exact o_check
  · exact o_flights_of
  · exact o_deficit_at
  · exact o_deficit_of
  · exact o_accept_deficits
  · exact o__law_draws
  · exact o__law_more
  · exact o__law_take
  · exact o__law_one
  · exact o__law_limits
  · exact o__law_net
  · exact o__law_busy
  · exact o__law_some_net
  · exact o__law_deficit
  · exact o__law_has_form
  · exact o__law_bent
  · exact o__law_far_net
  · exact o_law
  · exact o_Lookup___init__
  · exact o_Lookup_least
  · exact o_Lookup_seats
  · exact o_Lookup_turn
  · exact o_Checking___init__
  · exact o_Checking_demand
  · exact o_Checking_named
  · exact o_Checking_station
  · exact o_Checking_kind
  · exact o_Checking_ends
  · exact o_Checking_flight
  · exact o_Checking_tail
  · exact o_Checking_fare, fun i hi => by
  simp only [pgm, List.mem_cons, List.not_mem_nil, or_false] at hi
  rcases hi with rfl | rfl
  · exact oi_NetError
  · exact oi_ReasonError⟩
end K72

namespace Net
open PySem Lg
/-! ### nets: the model -/
structure St where
  nm : Str
  z : Int
  l : Int
structure Ty where
  nm : Str
  s : Int
  t : Int
structure Fl where
  nm : Str
  a : Str
  b : Str
  dp : Int
  ar : Int
  ty : Str
  pr : Int
  lim : List Int
structure Ta where
  nm : Str
  ty : Str
  fl : List Str
structure Fa where
  nm : Str
  a : Str
  b : Str
  cl : Str
  p : Int
  x : Int
  r : Int
  o : Int
structure N where
  st : List St
  ty : List Ty
  cl : List Str
  fl : List Fl
  ta : List Ta
  fa : List Fa
instance : Inhabited St := ⟨⟨default, 0, 0⟩⟩
instance : Inhabited Ty := ⟨⟨default, 0, 0⟩⟩
instance : Inhabited Fl := ⟨⟨default, default, default, 0, 0, default, 0, []⟩⟩
def stD (s : St) : D := .tup [.str s.nm, .int s.z, .int s.l]
def tyD (t : Ty) : D := .tup [.str t.nm, .int t.s, .int t.t]
def flD (f : Fl) : D := .tup [.str f.nm, .str f.a, .str f.b, .int f.dp, .int f.ar, .str f.ty, .int f.pr, .tup (f.lim.map .int)]
def taD (t : Ta) : D := .tup [.str t.nm, .str t.ty, .tup (t.fl.map .str)]
def faD (f : Fa) : D := .tup [.str f.nm, .str f.a, .str f.b, .str f.cl, .int f.p, .int f.x, .int f.r, .int f.o]
def netL (n : N) : List D := [.tup (n.st.map stD), .tup (n.ty.map tyD), .tup (n.cl.map .str), .tup (n.fl.map flD), .tup (n.ta.map taD), .tup (n.fa.map faD)]
def netD (n : N) : D := .tup (netL n)
/-- the names of a part -/
def nms (n : N) : Nat → List Str
  | 0 => n.st.map (·.nm)
  | 1 => n.ty.map (·.nm)
  | 2 => n.cl
  | 3 => n.fl.map (·.nm)
  | 4 => n.ta.map (·.nm)
  | _ => n.fa.map (·.nm)
def most : Nat → Nat
  | 0 => 12
  | 1 => 4
  | 2 => 6
  | 3 => 40
  | 4 => 12
  | _ => 40
def letters : List Nat := ("abcdefghijklmnopqrstuvwxyzABCDEFGHIJKLMNOPQRSTUVWXYZ" : Str).cps.toList
def digits : List Nat := ("0123456789" : Str).cps.toList
def isSign (c : Nat) : Bool := decide (c ∈ letters) || (decide (c ∈ digits) || decide (c = 95))
def isName (s : Str) : Bool := match s.cps.toList with
  | [] => false
  | c :: cs => decide (c ∈ letters) && (c :: cs).all isSign
def okNm (s : Str) : Bool := isName s && decide (s.length ≤ 12)
/-- flights, one behind the other -/
def chain (n : N) (k t : Str) (turn : Int) : Option Fl → List Str → Prop
  | _, [] => True
  | o, s :: l => ∃ f, f ∈ n.fl ∧ f.nm = s ∧ f.ty = t ∧ (∀ g, o = some g → g.b = f.a ∧ g.ar + turn ≤ f.dp) ∧ chain n k t turn (some f) l
structure Right (n : N) : Prop where
  many : ∀ q, q < 6 → (nms n q).length ≤ most q
  cls : n.cl ≠ []
  good : ∀ q, q < 6 → ∀ s ∈ nms n q, okNm s = true
  once : ∀ q, q < 6 → (nms n q).Nodup
  st : ∀ s ∈ n.st, (-720 ≤ s.z ∧ s.z ≤ 840) ∧ (0 ≤ s.l ∧ s.l ≤ 600)
  ty : ∀ t ∈ n.ty, (1 ≤ t.s ∧ t.s ≤ 500) ∧ (0 ≤ t.t ∧ t.t ≤ 600)
  fl : ∀ f ∈ n.fl, (f.a ∈ nms n 0 ∧ f.b ∈ nms n 0 ∧ f.a ≠ f.b) ∧ (0 ≤ f.dp ∧ f.dp < f.ar ∧ f.ar ≤ 20160) ∧ f.ty ∈ nms n 1 ∧ (1 ≤ f.pr ∧ f.pr ≤ 20000) ∧ f.lim.length = n.cl.length ∧ (∀ x ∈ f.lim, 0 ≤ x ∧ x ≤ 999) ∧ f.lim.Pairwise (· ≥ ·)
  ta : ∀ t ∈ n.ta, ∃ y ∈ n.ty, y.nm = t.ty ∧ chain n t.nm t.ty y.t none t.fl
  flown : (n.ta.map (·.fl)).flatten.Perm (nms n 3)
  fa : ∀ f ∈ n.fa, (f.a ∈ nms n 0 ∧ f.b ∈ nms n 0 ∧ f.a ≠ f.b) ∧ f.cl ∈ n.cl ∧ (0 ≤ f.p ∧ f.p ≤ 1000000) ∧ (0 ≤ f.x ∧ f.x ≤ 3) ∧ (0 ≤ f.r ∧ f.r ≤ 1000000) ∧ (0 ≤ f.o ∧ f.o ≤ 100)
end Net

namespace K72
open PySem Lg Net
open L2 (atI ixN)
set_option checkBinderAnnotations false
variable {ζ : Ad}
abbrev PP (ζ : Ad) := pgm.prmC ζ
abbrev TB := pgm.tb
theorem gL : (PP ζ).gc 0 = some (.str "abcdefghijklmnopqrstuvwxyzABCDEFGHIJKLMNOPQRSTUVWXYZ") := rfl
theorem gDg : (PP ζ).gc 1 = some (.str "0123456789") := rfl
theorem gSh : (PP ζ).gc 2 = some (.tup [.str "nii", .str "nii", .str "n", .str "nnniinir", .str "nnq", .str "nnnniiii"]) := rfl
theorem gMo : (PP ζ).gc 3 = some (.tup [.int 12, .int 4, .int 6, .int 40, .int 12, .int 40]) := rfl
theorem gNm : (PP ζ).gc 4 = some (.int 12) := rfl
theorem gTi : (PP ζ).gc 5 = some (.int 20160) := rfl
theorem gCo : (PP ζ).gc 6 = some (.int 1000000) := rfl
theorem gSt : (PP ζ).gc 7 = some (.int 3) := rfl
section
variable {n : Nat} {h : LH} {Q : QD} {e : EX}
theorem in_sgn {c : Nat} {t : Str} : @wcmp .In (.str ⟨#[c]⟩) (.str t) h (Box.mk Q) = Q (.bl (decide (c ∈ t.cps.toList))) h := rfl
theorem notin_sgn {c : Nat} {t : Str} : @wcmp .NotIn (.str ⟨#[c]⟩) (.str t) h (Box.mk Q) = Q (.bl (!decide (c ∈ t.cps.toList))) h := rfl
theorem is_integer_i {i : Int} (k : Q (.bl true) h) : CF (PP ζ) TB (n + 1) 0 [.int i] h Q e := by
  refine CF_of (fn := ⟨1, 1, w_is_integer⟩) rfl rfl ?_; dsimp only; unfold w_is_integer
  repeat (first | (simp_arith) | ((with_reducible refine AND_of ?_ ?_); (first | decide | exact mulR (by decide) (by decide) | exact mulL (by decide) (by decide) | exact ⟨by decide, by decide, by decide⟩)))
  exact Done_of k
theorem in_range_i {i l m : Int} (k : Q (.bl (decide (l ≤ i) && decide (i ≤ m))) h) : CF (PP ζ) TB (n + 2) 1 [.int i, .int l, .int m] h Q e := by
  refine CF_of (fn := ⟨3, 3, w_in_range⟩) rfl rfl ?_; dsimp only; unfold w_in_range
  simp_arith only [PF_cf]
  refine is_integer_i ?_
  simp_arith
  refine br_of (fun z => ?_) (fun z => ?_)
  · rw [z, Bool.true_and] at k
    repeat (first | (simp_arith) | ((with_reducible refine AND_of ?_ ?_); (first | decide | exact mulR (by decide) (by decide) | exact mulL (by decide) (by decide) | exact ⟨by decide, by decide, by decide⟩)))
    exact Done_of k
  · rw [z, Bool.false_and] at k
    repeat (first | (simp_arith) | ((with_reducible refine AND_of ?_ ?_); (first | decide | exact mulR (by decide) (by decide) | exact mulL (by decide) (by decide) | exact ⟨by decide, by decide, by decide⟩)))
    exact Done_of k
theorem sub_str {t : Str} {i : Int} : @wsub (.str t) (.int i) h (Box.mk Q) = @AND (t.length ≤ sizeLine) (Box.mk (@Opt _ (atI t.cps.toList i) (Box.mk (fun c => Q (.str ⟨#[c]⟩) h)))) := rfl
def fSg : D → Option D
  | .str s => match s.cps.toList with
    | [c] => some (.bl (isSign c))
    | _ => none
  | _ => none
theorem all_blm {α : Type} {g : α → Bool} : ∀ {l : List α}, allBl (l.map fun x => D.bl (g x)) = some (l.map g)
  | [] => rfl
  | x :: l => by simp only [List.map_cons, allBl, all_blm (l := l), Option.map_some]
theorem fm_map {α β γ : Type} {g : α → β} {f : β → Option γ} {k : α → γ} {l : List α} (h : ∀ a ∈ l, f (g a) = some (k a)) : (l.map g).filterMap f = l.map k := by
  induction l with
  | nil => rfl
  | cons a l ih => rw [List.map_cons, List.filterMap_cons, h a (List.mem_cons_self ..), ih fun b hb => h b (List.mem_cons_of_mem _ hb)]; rfl
theorem is_name_s {s : Str} (hl : s.length ≤ 1000) (k : Q (.bl (isName s)) h) : CF (PP ζ) TB (n + 1) 4 [.str s] h Q e := by
  refine CF_of (fn := ⟨1, 2, w_is_name⟩) rfl rfl ?_; dsimp only; unfold w_is_name
  simp_arith only [PF_gc, gL, gDg]
  refine br_of (fun z => ?_) (fun z => ?_)
  · have z : s = "" := of_decide_eq_true z
    subst z
    simp_arith
    exact Done_of k
  · have z : s ≠ "" := of_decide_eq_false z
    obtain ⟨c, cs, e⟩ : ∃ c cs, s.cps.toList = c :: cs := by
      cases q : s.cps.toList with
      | nil =>
        exfalso
        apply z
        have : s.cps = #[] := Array.toList_inj.mp q
        cases s; simp only at this; subst this; rfl
      | cons c cs => exact ⟨c, cs, rfl⟩
    have a0 : atI s.cps.toList 0 = some c := by rw [e]; exact at_0
    have es : ∀ t : Str, s = t → t.cps.toList = c :: cs := fun t q => q ▸ e
    simp_arith only [PF_gc, gL, gDg, sub_str]
    refine AND_of (by unfold sizeLine; omega) ?_
    simp_arith only [a0, notin_sgn, PF_gc, gL]
    refine br_of (fun y => ?_) (fun y => ?_)
    · have y : c ∉ letters := by simpa [letters] using y
      have : isName s = false := by unfold isName; rw [e]; simp [y]
      rw [this] at k
      simp_arith
      exact Done_of k
    · have y : c ∈ letters := by simpa [letters] using y
      have : isName s = (c :: cs).all isSign := by unfold isName; rw [e]; simp [y]
      rw [this] at k
      simp_arith
      refine Compr_of fSg (by unfold chars; rw [List.length_map, Array.length_toList]; have : s.cps.size = s.length := rfl; unfold sizeLine; omega) trivial (fun d K hd hk => ?_) ?_
      · obtain ⟨x, hx, rfl⟩ := List.mem_map.mp hd
        have hk : K (some (.bl (isSign x))) h := hk
        simp_arith only [in_sgn, PF_gc, gL, gDg]
        refine br_of (fun w1 => ?_) (fun w1 => ?_)
        · have : isSign x = true := by unfold isSign; rw [show decide (x ∈ letters) = true from w1]; rfl
          rw [this] at hk
          rw [w1]
          exact hk
        · simp_arith only [in_sgn, PF_gc, gL, gDg]
          refine br_of (fun w2 => ?_) (fun w2 => ?_)
          · have : isSign x = true := by unfold isSign; rw [show decide (x ∈ letters) = false from w1, show decide (x ∈ digits) = true from w2]; rfl
            rw [this] at hk
            rw [w2]
            exact hk
          · have : isSign x = decide ((⟨#[x]⟩ : Str) = "_") := by
              unfold isSign
              rw [show decide (x ∈ letters) = false from w1, show decide (x ∈ digits) = false from w2]
              show decide (x = 95) = _
              refine decide_eq_decide.mpr ⟨fun q => by subst q; rfl, fun q => ?_⟩
              have : (#[x] : Array Nat) = #[95] := congrArg Str.cps q
              simpa using this
            rw [this] at hk
            simp_arith
            exact hk
      · have e1 : (chars s).filterMap fSg = (c :: cs).map fun x => D.bl (isSign x) := by
          unfold chars
          rw [e]
          exact fm_map (g := fun x : Nat => D.str ⟨#[x]⟩) (f := fSg) (k := fun x => D.bl (isSign x)) fun x _ => rfl
        rw [e1]
        generalize c :: cs = l at k
        simp_arith only [all_blm]
        have e2 : (l.map isSign).all id = l.all isSign := by rw [List.all_map]; rfl
        rw [e2]
        exact Done_of k
end
end K72

namespace K72
open PySem Lg Net
open L2 (atI ixN)
set_option checkBinderAnnotations false
variable {ζ : Ad}
def sg (c : Nat) : Str := ⟨#[c]⟩
inductive OkV : D → Nat → Prop
  | n (s : Str) : OkV (.str s) 110
  | i (i : Int) : OkV (.int i) 105
  | r {l : List Int} : l.length ≤ 1000 → OkV (.tup (l.map .int)) 114
  | q {l : List Str} : l.length ≤ 1000 → OkV (.tup (l.map .str)) 113
def OkRow (r : D) (s : Str) (ds : List D) : Prop := (if s = "n" then ds = [r] else r = .tup ds) ∧ ds.length = s.cps.toList.length ∧ ∀ p ∈ ds.zip s.cps.toList, OkV p.1 p.2
def tt : D → Option D := fun _ => some (.bl true)
theorem tt_map {l : List D} : l.filterMap tt = l.map fun _ => D.bl true := by
  induction l with
  | nil => rfl
  | cons x l ih => rw [List.filterMap_cons, List.map_cons, ← ih]; rfl
theorem all_tt {l : List D} : (l.map fun _ => true).all id = true := by
  induction l with
  | nil => rfl
  | cons x l ih => rw [List.map_cons, List.all_cons, ih]; rfl
section
variable {n : Nat} {h : LH} {Q : QD} {e : EX}
theorem sort_n {s : Str} (k : Q (.bl true) h) : CF (PP ζ) TB (n + 2) 5 [.str s, .str "n"] h Q e := by
  refine CF_of (fn := ⟨2, 3, w_has_sort⟩) rfl rfl ?_; dsimp only; unfold w_has_sort
  repeat (first | (simp_arith) | ((with_reducible refine AND_of ?_ ?_); (first | decide | exact mulR (by decide) (by decide) | exact mulL (by decide) (by decide) | exact ⟨by decide, by decide, by decide⟩)))
  exact Done_of k
theorem sort_i {i : Int} (k : Q (.bl true) h) : CF (PP ζ) TB (n + 2) 5 [.int i, .str "i"] h Q e := by
  refine CF_of (fn := ⟨2, 3, w_has_sort⟩) rfl rfl ?_; dsimp only; unfold w_has_sort
  simp_arith
  refine br_of (fun y => absurd y (by decide)) fun _ => ?_
  simp_arith only [PF_cf]
  refine is_integer_i ?_
  exact Done_of k
theorem sort_r {l : List Int} (hl : l.length ≤ 1000) (k : Q (.bl true) h) : CF (PP ζ) TB (n + 3) 5 [.tup (l.map .int), .str "r"] h Q e := by
  refine CF_of (fn := ⟨2, 3, w_has_sort⟩) rfl rfl ?_; dsimp only; unfold w_has_sort
  simp_arith
  refine br_of (fun y => absurd y (by decide)) fun _ => ?_
  simp_arith
  refine br_of (fun y => absurd y (by decide)) fun _ => ?_
  simp_arith
  refine Compr_of tt (by rw [List.length_map]; unfold sizeLine; omega) trivial (fun d K hd hk => ?_) ?_
  · obtain ⟨x, hx, rfl⟩ := List.mem_map.mp hd
    simp_arith only [PF_cf]
    refine sort_i ?_
    exact hk
  · rw [tt_map]
    simp_arith only [all_blm (g := fun _ : D => true), all_tt]
    exact Done_of k
theorem sort_q {l : List Str} (hl : l.length ≤ 1000) (k : Q (.bl true) h) : CF (PP ζ) TB (n + 3) 5 [.tup (l.map .str), .str "q"] h Q e := by
  refine CF_of (fn := ⟨2, 3, w_has_sort⟩) rfl rfl ?_; dsimp only; unfold w_has_sort
  simp_arith
  refine br_of (fun y => absurd y (by decide)) fun _ => ?_
  simp_arith
  refine br_of (fun y => absurd y (by decide)) fun _ => ?_
  simp_arith
  refine Compr_of tt (by rw [List.length_map]; unfold sizeLine; omega) trivial (fun d K hd hk => ?_) ?_
  · obtain ⟨x, hx, rfl⟩ := List.mem_map.mp hd
    simp_arith only [PF_cf]
    refine br_of (fun y => absurd y (by decide)) fun _ => ?_
    simp_arith only [PF_cf]
    refine sort_n ?_
    exact hk
  · rw [tt_map]
    simp_arith only [all_blm (g := fun _ : D => true), all_tt]
    exact Done_of k
theorem sort_s {d : D} {c : Nat} (hd : OkV d c) (k : Q (.bl true) h) : CF (PP ζ) TB (n + 3) 5 [d, .str ⟨#[c]⟩] h Q e := by
  cases hd with
  | n s => exact sort_n (s := s) k
  | i i => exact sort_i (i := i) k
  | r hl => exact sort_r hl k
  | q hl => exact sort_q hl k
theorem zipL_map {α : Type} {f g : α → D} : ∀ {l : List α}, zipL (l.map f) (l.map g) = l.map fun x => .tup [f x, g x]
  | [] => rfl
  | x :: l => by
    have ih := zipL_map (f := f) (g := g) (l := l)
    unfold zipL at ih ⊢
    simp only [List.map_cons, List.zipWith_cons_cons, List.zip_cons_cons] at ih ⊢
    rw [ih]
theorem zipL_chars {ds : List D} {s : Str} : zipL ds (chars s) = (ds.zip s.cps.toList).map fun p => .tup [p.1, .str ⟨#[p.2]⟩] := by
  unfold zipL chars
  generalize s.cps.toList = l
  induction ds generalizing l with
  | nil => rfl
  | cons d ds ih => cases l with
    | nil => rfl
    | cons c l => simp only [List.map_cons, List.zipWith_cons_cons, List.zip_cons_cons, ih]
theorem len_str {t : Str} (h0 : t.length ≤ 1000) : lenD h (.str t) = some t.length := by
  show (if t.length ≤ sizeLine then some t.length else none) = _
  rw [if_pos (by unfold sizeLine; omega)]
theorem has_shape_s {net : List (List D × Str)} (hn : net.map (·.2) = ([("nii" : Str), "nii", "n", "nnniinir", "nnq", "nnnniiii"] : List Str)) (ok : ∀ x ∈ net, x.1.length ≤ 1000 ∧ ∀ r ∈ x.1, ∃ ds, OkRow r x.2 ds) (k : Q (.bl true) h) :
    CF (PP ζ) TB (n + 4) 6 [.tup (net.map fun x => .tup x.1)] h Q e := by
  have hl : net.length = 6 := by have := congrArg List.length hn; simpa using this
  refine CF_of (fn := ⟨1, 7, w_has_shape⟩) rfl rfl ?_; dsimp only; unfold w_has_shape
  simp_arith only [PF_gc, gSh, hl]
  have hs1 : ∀ x ∈ net, x.2.cps.toList.length ≤ 1000 := fun x hx => by
    have : x.2 ∈ net.map (·.2) := List.mem_map_of_mem hx
    rw [hn] at this
    have all : ∀ s ∈ ([("nii" : Str), "nii", "n", "nnniinir", "nnq", "nnnniiii"] : List Str), s.cps.toList.length ≤ 1000 := by decide
    exact all _ this
  have e1 : [D.str "nii", .str "nii", .str "n", .str "nnniinir", .str "nnq", .str "nnnniiii"] = net.map fun x => .str x.2 := by
    rw [show (net.map fun x => D.str x.2) = (net.map (·.2)).map D.str by rw [List.map_map]; rfl, hn]; rfl
  rw [e1, zipL_map]
  refine Loop_of (fun i ρ h' => ρ = [some (.tup (net.map fun x => .tup x.1)), none, none, none, none, none, none] ∧ h' = h) ⟨(by first | rfl | trivial), rfl⟩ ?_ ?_
  · rintro i d ρ h0 hd ⟨rfl, rfl⟩
    obtain ⟨x, hx, rfl⟩ : ∃ x ∈ net, d = .tup [.tup x.1, .str x.2] := by
      obtain ⟨x, hx, e⟩ := List.mem_map.mp (List.mem_of_getElem? hd)
      exact ⟨x, hx, e.symm⟩
    obtain ⟨rows, s⟩ := x
    obtain ⟨hl2, hr⟩ := ok _ hx
    dsimp only at hl2 hr
    simp_arith
    refine AND_of ⟨trivial, trivial⟩ ?_
    simp_arith
    refine ⟨trivial, ?_⟩
    refine Loop_of (fun i ρ h' => ρ = [some (.tup (net.map fun x => .tup x.1)), some (.tup rows), some (.str s), none, none, none, none] ∧ h' = h0) ⟨(by first | rfl | trivial), rfl⟩ ?_ ?_
    · rintro j d ρ h' hd ⟨rfl, rfl⟩
      obtain ⟨ds, o1, o2, o3⟩ := hr _ (List.mem_of_getElem? hd)
      have o2' : (ds.length : Int) = (s.length : Int) := by rw [o2, Array.length_toList]; rfl
      have o5 : s.length ≤ 1000 := hs1 _ hx
      have o4 : s.cps.toList.length ≤ 1000 := hs1 _ hx
      by_cases z : s = "n"
      · rw [if_pos z] at o1
        subst o1
        simp_arith only [decide_eq_true z]
        simp_arith only [len_str o5]
        refine br_of (fun y => absurd y (by first | (rw [o2']; simp; done) | (rw [← o2']; simp))) fun _ => ?_
        simp_arith only [zipL_chars]
        refine Compr_of tt (by rw [List.length_map, List.length_zip]; have := o4; unfold sizeLine; omega) ⟨trivial, trivial⟩ (fun d K hd hk => ?_) ?_
        · obtain ⟨x, hx, rfl⟩ := List.mem_map.mp hd
          simp_arith only [PF_cf]
          refine ⟨trivial, ?_⟩
          exact sort_s (o3 x hx) hk
        · rw [tt_map]
          simp_arith only [all_blm (g := fun _ : D => true), all_tt]
          exact ⟨trivial, trivial⟩
      · rw [if_neg z] at o1
        subst o1
        simp_arith only [decide_eq_false z]
        simp_arith only [len_str o5]
        refine br_of (fun y => absurd y (by first | (rw [o2']; simp; done) | (rw [← o2']; simp))) fun _ => ?_
        simp_arith only [zipL_chars]
        refine Compr_of tt (by rw [List.length_map, List.length_zip]; have := o4; unfold sizeLine; omega) ⟨trivial, trivial⟩ (fun d K hd hk => ?_) ?_
        · obtain ⟨x, hx, rfl⟩ := List.mem_map.mp hd
          simp_arith only [PF_cf]
          refine ⟨trivial, ?_⟩
          exact sort_s (o3 x hx) hk
        · rw [tt_map]
          simp_arith only [all_blm (g := fun _ : D => true), all_tt]
          exact ⟨trivial, trivial⟩
    · rintro ρ h' ⟨rfl, rfl⟩
      simp_arith
      exact ⟨trivial, trivial⟩
  · rintro ρ h' ⟨rfl, rfl⟩
    refine AND_of ⟨trivial, trivial⟩ ?_
    simp_arith
    exact Done_of k
end
end K72

namespace K72
open PySem Lg Net
open L2 (atI ixN)
set_option checkBinderAnnotations false
variable {ζ : Ad}
theorem Compr_inv {c : Bool} {its : List D} {g : LH → Prop} {h : LH} {Q : QD} {turn : D → LH → (Option D → LH → Prop) → Prop} (J : Nat → List D → LH → Prop) (hl : its.length ≤ sizeLine) (a : J 0 [] h)
    (b : ∀ i d acc h, its[i]? = some d → J i acc h → g h ∧ turn d h fun o h2 => match o with
      | some y => J (i + 1) (acc ++ [y]) h2
      | none => J (i + 1) acc h2) (k : ∀ acc h, J its.length acc h → g h ∧ @wmk c acc h (Box.mk Q)) : @Compr c its (Box.mk g) h (Box.mk Q) (Box.mk turn) := ⟨J, hl, a, b, k⟩
theorem none_sub {h H : LH} {a : Addr} (s : Sub h H) (n : H a = none) : h a = none := by
  cases q : h a with
  | none => rfl
  | some c => rw [s a c q] at n; cases n
theorem ne_cell {h : LH} {a b : Addr} {c : Cell} (e : h b = some c) (n : h a = none) : b ≠ a := fun q => by rw [q, n] at e; cases e
/-- the instance of Checking, half way -/
structure CK (C : Addr) (m : N) (h0 h : LH) (b f : Addr) (ks : List Addr) (kn : Nat → List ((Int ⊕ Str) × D)) (fw : List Str) : Prop where
  ins : h b = some (.ins C [("net", netD m), ("known", .lst (ks.map .ref)), ("flown", .ref f)])
  fl : h f = some (.dct (fw.map fun s => (.inr s, .bl true)))
  kn : ∀ q a, ks[q]? = some a → h a = some (.dct (kn q))
  len : ks.length = 6
  nd : (b :: f :: ks).Nodup
  new : ∀ x ∈ b :: f :: ks, h0 x = none
  sub : Sub h0 h
section
variable {n : Nat} {h : LH} {Q : QD} {e : EX}
/-- rules that hold -/
def okR (rs : List D) : Prop := ∀ r ∈ rs, ∃ s : Str, r = .tup [.bl true, .str s]
theorem demand_s {a p : D} {rs : List D} (hr : okR rs) (k : Q .non h) : CF (PP ζ) TB (n + 1) 30 [a, p, .tup rs] h Q e := by
  refine CF_of (fn := ⟨3, 5, w_Checking_demand⟩) rfl rfl ?_; dsimp only; unfold w_Checking_demand
  simp_arith
  refine Loop_of (fun i ρ h' => ρ = [some a, some p, some (.tup rs), none, none] ∧ h' = h) ⟨(by first | rfl | trivial), rfl⟩ ?_ ?_
  · rintro i d ρ h' hd ⟨rfl, rfl⟩
    obtain ⟨s, rfl⟩ := hr _ (List.mem_of_getElem? hd)
    simp_arith
    first
    | exact ⟨trivial, trivial⟩
    | exact ⟨trivial, trivial, trivial⟩
  · rintro ρ h' ⟨rfl, rfl⟩
    simp_arith
    exact Done_of k
theorem ndp {a : Addr} {l : List Addr} (h : l.Nodup) (n : a ∉ l) : (a :: l).Nodup := List.nodup_cons.mpr ⟨n, h⟩
theorem init_s {b : Addr} {m : N} {h0 : LH} (hb : h0 b = none) (k : ∀ ks f h', CK (ζ.1 1) m h0 h' b f ks (fun _ => []) [] → Q .non h') :
    CF (PP ζ) TB (n + 1) 29 [.ref b, netD m] (put h0 b (.ins (ζ.1 1) [])) Q e := by
  refine CF_of (fn := ⟨2, 3, w_Checking___init__⟩) rfl rfl ?_; dsimp only; unfold w_Checking___init__
  simp_arith only [PF_ca, prmC_ca]
  refine AND_of (by decide) ?_
  simp_arith only [putFD, netD]
  refine Compr_inv (fun i acc h' => ∃ ks : List Addr, ks.length = i ∧ acc = ks.map D.ref ∧ (b :: ks).Nodup ∧ (∀ x ∈ b :: ks, h0 x = none) ∧ Sub h0 h' ∧ h' b = some (.ins (ζ.1 1) [("net", .tup (netL m))]) ∧ ∀ a ∈ ks, h' a = some (.dct [])) (by show 6 ≤ sizeLine; decide)
    ⟨[], rfl, rfl, by simp, fun x hx => by rw [List.mem_singleton.mp hx]; exact hb, Sub.put hb (Sub.refl h0), put_same, nofun⟩ ?_ ?_
  · rintro i d acc h' hd ⟨ks, hl, rfl, nd, nw, sb, g0, gk⟩
    simp_arith
    refine ⟨trivial, New_of fun a ha => ?_⟩
    simp_arith
    have na : h0 a = none := none_sub sb ha
    have nb : a ≠ b := fun q => by rw [q, g0] at ha; cases ha
    have nk : a ∉ ks := fun q => by rw [gk a q] at ha; cases ha
    refine ⟨ks ++ [a], by simp [hl], by simp, ?_, ?_, Sub.put na sb, by rw [put_ne nb.symm]; exact g0, fun x hx => ?_⟩
    · rw [List.nodup_cons] at nd ⊢
      refine ⟨by simp [nd.1, nb.symm], List.nodup_append.mpr ⟨nd.2, by simp, fun x hx y hy => ?_⟩⟩
      rw [List.mem_singleton.mp hy]
      exact fun q => nk (q ▸ hx)
    · intro x hx
      rcases List.mem_cons.mp hx with q | q
      · rw [q]; exact hb
      · rcases List.mem_append.mp q with q | q
        · exact nw x (List.mem_cons_of_mem _ q)
        · rw [List.mem_singleton.mp q]; exact na
    · rcases List.mem_append.mp hx with q | q
      · rw [put_ne (fun e : x = a => nk (e ▸ q))]; exact gk x q
      · rw [List.mem_singleton.mp q]; exact put_same
  · rintro acc h' ⟨ks, hl, rfl, nd, nw, sb, g0, gk⟩
    simp_arith only [PF_ca, prmC_ca, g0]
    refine ⟨trivial, AND_of (by decide) ?_⟩
    have e1 : (("net" : Str) = "known") = False := eq_false (by decide)
    have e2 : (("net" : Str) = "flown") = False := eq_false (by decide)
    have e3 : (("known" : Str) = "flown") = False := eq_false (by decide)
    simp_arith only [putFD, e1, if_false, PF_ca, prmC_ca]
    refine New_of fun f hf => ?_
    have nf : b ≠ f := ne_cell put_same hf
    have zf : h' f = none := by rw [put_ne nf.symm] at hf; exact hf
    have zf0 : h0 f = none := none_sub sb zf
    have nfk : f ∉ ks := fun q => by rw [gk f q] at zf; cases zf
    have gb : ∀ c c', put (put h' b c) f c' b = some c := fun c c' => by rw [put_ne nf]; exact put_same
    simp_arith only [gb, PF_ca, prmC_ca]
    refine AND_of (by simp only [putFD, e1, if_false]; simp) ?_
    simp_arith only [putFD, e2, e3, if_false, PF_ca, prmC_ca]
    rw [List.nodup_cons] at nd
    refine Done_of (k ks f _ ⟨put_same, ?_, fun q a hq => ?_, hl, ?_, fun x hx => ?_, Sub.put hb (Sub.put zf0 (Sub.put hb sb))⟩)
    · rw [put_ne nf.symm]; exact put_same
    · have hq := List.mem_of_getElem? hq
      rw [put_ne (fun e : a = b => nd.1 (e ▸ hq)), put_ne (fun e : a = f => nfk (e ▸ hq)), put_ne (fun e : a = b => nd.1 (e ▸ hq))]
      exact gk a hq
    · rw [List.nodup_cons, List.nodup_cons]
      refine ⟨fun z => ?_, nfk, nd.2⟩
      rcases List.mem_cons.mp z with z | z
      · exact nf z
      · exact nd.1 z
    · rcases List.mem_cons.mp hx with q | q
      · rw [q]; exact hb
      · rcases List.mem_cons.mp q with q | q
        · rw [q]; exact zf0
        · exact nw x (List.mem_cons_of_mem _ q)
end
end K72

namespace K72
open PySem Lg Net
open L2 (atI ixN)
set_option checkBinderAnnotations false
variable {ζ : Ad}
def kvN (l : List Str) : List ((Int ⊕ Str) × D) := l.zipIdx.map fun y => (.inr y.1, .int (y.2 : Int))
theorem kvN_len {l : List Str} : (kvN l).length = l.length := by simp [kvN]
theorem look_zip {s : Str} : ∀ {l : List Str} {k : Nat}, (look (l.zipIdx.map fun y => ((Sum.inr y.1 : Int ⊕ Str), D.int (y.2 : Int))) (.inr s)).isSome = decide (s ∈ l) := by
  intro l k
  unfold look
  rw [Option.isSome_map, Bool.eq_iff_iff, List.find?_isSome]
  simp only [List.mem_map, decide_eq_true_eq]
  constructor
  · rintro ⟨_, ⟨y, hy, rfl⟩, e⟩
    have e : y.1 = s := by simpa using e
    have := List.mem_map_of_mem (f := (·.1)) hy
    rw [List.zipIdx_map_fst] at this
    rw [← e]; exact this
  · intro hs
    obtain ⟨i, hi, rfl⟩ := List.mem_iff_getElem.mp hs
    exact ⟨(.inr l[i], .int (i : Int)), ⟨(l[i], i), by rw [List.mem_iff_getElem?]; exact ⟨i, by simp [hi]⟩, rfl⟩, rfl⟩
theorem look_kvN {l : List Str} {s : Str} : (look (kvN l) (.inr s)).isSome = decide (s ∈ l) := look_zip (k := 0)
theorem find_zip {s : Str} : ∀ {l : List Str} {k i : Nat}, l.Nodup → l[i]? = some s → look ((l.zipIdx k).map fun y => ((Sum.inr y.1 : Int ⊕ Str), D.int (y.2 : Int))) (.inr s) = some (.int ((k + i : Nat) : Int))
  | [], _, _, _, h => by cases h
  | x :: l, k, i, nd, h => by
    rw [List.nodup_cons] at nd
    rw [List.zipIdx_cons, List.map_cons]
    unfold look
    rw [List.find?_cons]
    cases i with
    | zero =>
      rw [List.getElem?_cons_zero] at h
      cases h
      simp
    | succ i =>
      rw [List.getElem?_cons_succ] at h
      have ne : x ≠ s := fun e => nd.1 (e ▸ List.mem_of_getElem? h)
      have : decide ((Sum.inr x : Int ⊕ Str) = .inr s) = false := by simpa using ne
      simp only [this]
      have ih := find_zip (k := k + 1) nd.2 h
      unfold look at ih
      rw [ih]
      congr 2; omega
theorem find_kvN {l : List Str} {s : Str} {i : Nat} (nd : l.Nodup) (h : l[i]? = some s) : look (kvN l) (.inr s) = some (.int (i : Int)) := by
  have := find_zip (k := 0) nd h
  rw [Nat.zero_add] at this
  exact this
theorem put_kvN {l : List Str} {s : Str} (h : s ∉ l) : putD (kvN l) (.inr s) (.int (l.length : Int)) = kvN (l ++ [s]) := by
  unfold putD
  have : ((kvN l).any fun kv => decide (kv.1 = .inr s)) = false := by
    have := look_kvN (l := l) (s := s)
    rw [decide_eq_false h] at this
    unfold look at this
    rw [Option.isSome_map] at this
    rw [Bool.eq_false_iff]
    intro z
    rw [List.any_eq_true] at z
    have z2 := List.find?_isSome.mpr z
    rw [this] at z2; cases z2
  rw [if_neg (by rw [this]; exact Bool.false_ne_true)]
  unfold kvN
  rw [List.zipIdx_append, List.map_append]
  simp
def kvF (l : List Str) : List ((Int ⊕ Str) × D) := l.map fun s => (.inr s, .bl true)
theorem look_kvF {l : List Str} {s : Str} : (look (kvF l) (.inr s)).isSome = decide (s ∈ l) := by
  unfold look kvF
  rw [Option.isSome_map, Bool.eq_iff_iff, List.find?_isSome]
  simp
  exact ⟨fun ⟨_, _, m, e, _⟩ => e ▸ m, fun m => ⟨_, s, m, rfl, rfl⟩⟩
theorem put_kvF {l : List Str} {s : Str} (h : s ∉ l) : putD (kvF l) (.inr s) (.bl true) = kvF (l ++ [s]) := by
  unfold putD kvF
  rw [if_neg (by simpa using h)]
  simp
def kset (kn : Nat → List ((Int ⊕ Str) × D)) (q : Nat) (l : List ((Int ⊕ Str) × D)) : Nat → List ((Int ⊕ Str) × D) := fun r => if r = q then l else kn r
section
variable {C : Addr} {m : N} {h0 h : LH} {b f : Addr} {ks : List Addr} {kn : Nat → List ((Int ⊕ Str) × D)} {fw : List Str}
theorem CK.known (c : CK C m h0 h b f ks kn fw) {q : Nat} {a : Addr} {l : List ((Int ⊕ Str) × D)} (hq : ks[q]? = some a) : CK C m h0 (put h a (.dct l)) b f ks (kset kn q l) fw := by
  have nd := c.nd
  rw [List.nodup_cons, List.nodup_cons] at nd
  have ha := List.mem_of_getElem? hq
  have nb : b ≠ a := fun e => nd.1 (e ▸ List.mem_cons_of_mem _ ha)
  have nf : f ≠ a := fun e => nd.2.1 (e ▸ ha)
  refine ⟨by rw [put_ne nb]; exact c.ins, by rw [put_ne nf]; exact c.fl, fun r x hr => ?_, c.len, c.nd, c.new, Sub.put (c.new a (List.mem_cons_of_mem _ (List.mem_cons_of_mem _ ha))) c.sub⟩
  unfold kset
  by_cases e : r = q
  · subst e
    rw [hq] at hr; cases hr
    rw [if_pos rfl]; exact put_same
  · rw [if_neg e, put_ne ?_]
    · exact c.kn r x hr
    · intro z
      subst z
      obtain ⟨h1, e1⟩ := List.getElem?_eq_some_iff.mp hq
      obtain ⟨h2, e2⟩ := List.getElem?_eq_some_iff.mp hr
      have := List.pairwise_iff_getElem.mp nd.2.2
      rcases Nat.lt_or_gt_of_ne e with l | l
      · exact this r q h2 h1 l (by rw [e1, e2])
      · exact this q r h1 h2 l (by rw [e1, e2])
theorem CK.flown (c : CK C m h0 h b f ks kn fw) {s : Str} : CK C m h0 (put h f (.dct (kvF (fw ++ [s])))) b f ks kn (fw ++ [s]) := by
  have nd := c.nd
  rw [List.nodup_cons, List.nodup_cons] at nd
  have nb : b ≠ f := fun e => nd.1 (e ▸ List.mem_cons_self ..)
  refine ⟨by rw [put_ne nb]; exact c.ins, put_same, fun r x hr => ?_, c.len, c.nd, c.new, Sub.put (c.new f (by simp)) c.sub⟩
  have ha := List.mem_of_getElem? hr
  rw [put_ne (fun e : x = f => nd.2.1 (e ▸ ha))]
  exact c.kn r x hr
theorem CK.at (c : CK C m h0 h b f ks kn fw) {q : Nat} (hq : q < 6) : ∃ a, ks[q]? = some a ∧ atI (ks.map D.ref) (q : Int) = some (.ref a) ∧ h a = some (.dct (kn q)) := by
  have : q < ks.length := by rw [c.len]; exact hq
  refine ⟨ks[q], List.getElem?_eq_getElem this, ?_, c.kn q _ (List.getElem?_eq_getElem this)⟩
  rw [at_nat, List.getElem?_map, List.getElem?_eq_getElem this]; rfl
end
theorem okR1 {s : Str} : okR [.tup [.bl true, .str s]] := fun r hr => ⟨s, List.mem_singleton.mp hr⟩
section
variable {n : Nat} {h0 h : LH} {Q : QD} {e : EX} {m : N} {b f : Addr} {ks : List Addr} {kn : Nat → List ((Int ⊕ Str) × D)} {fw : List Str}
theorem lkK {x y z : D} : List.lookup ("known" : Str) [(("net" : Str), x), ("known", y), ("flown", z)] = some y := rfl
theorem lkN {x y z : D} : List.lookup ("net" : Str) [(("net" : Str), x), ("known", y), ("flown", z)] = some x := rfl
theorem lkF {x y z : D} : List.lookup ("flown" : Str) [(("net" : Str), x), ("known", y), ("flown", z)] = some z := rfl
theorem notin_dct {a : Addr} {s : Str} {l : List ((Int ⊕ Str) × D)} (ha : h a = some (.dct l)) : @wcmp .NotIn (.str s) (.ref a) h (Box.mk Q) = Q (.bl (!(look l (.inr s)).isSome)) h := by
  show inW (.str s) (.ref a) h (fun b => Q (.bl (!b)) h) = _
  unfold inW inData
  simp only [dctv, ha, keyOf]
theorem in_dct {a : Addr} {s : Str} {l : List ((Int ⊕ Str) × D)} (ha : h a = some (.dct l)) : @wcmp .In (.str s) (.ref a) h (Box.mk Q) = Q (.bl (look l (.inr s)).isSome) h := by
  show inW (.str s) (.ref a) h (fun b => Q (.bl b) h) = _
  unfold inW inData
  simp only [dctv, ha, keyOf]
theorem named_s (c : CK (ζ.1 1) m h0 h b f ks kn fw) {q : Nat} {l : List Str} {s : Str} (hq : q < 6) (hk : kn q = kvN l) (hs : s ∉ l) (hl : l.length ≤ 1000) (ok : okNm s = true)
    (k : ∀ h', CK (ζ.1 1) m h0 h' b f ks (kset kn q (kvN (l ++ [s]))) fw → Q .non h') : CF (PP ζ) TB (n + 3) 31 [.ref b, .int (q : Int), .int (l.length : Int), .str s] h Q e := by
  unfold okNm at ok
  rw [Bool.and_eq_true, decide_eq_true_eq] at ok
  obtain ⟨a, a1, a2, a3⟩ := c.at hq
  have ci := c.ins
  rw [hk] at a3
  refine CF_of (fn := ⟨4, 4, w_Checking_named⟩) rfl rfl ?_; dsimp only; unfold w_Checking_named
  simp_arith only [PF_cf, PF_ca, prmC_ca, ci]
  refine AND_of ⟨trivial, rfl⟩ ?_
  simp_arith only [PF_cf]
  refine is_name_s (by omega) ?_
  rw [ok.1]
  simp_arith only [len_str (show s.length ≤ 1000 by omega), PF_gc, gNm]
  refine AND_of (by decide) ?_
  have e12 : decide ((s.length : Int) ≤ 12) = true := decide_eq_true (by omega)
  simp_arith only [e12, PF_cf]
  refine demand_s okR1 ?_
  simp_arith only [PF_cf, PF_ca, prmC_ca, ci]
  refine AND_of ⟨trivial, rfl⟩ ?_
  simp_arith only [PF_cf, PF_ca, prmC_ca, ci, lkK, lkF, lkN, a2, notin_dct a3, look_kvN, decide_eq_false hs]
  refine AND_of (by decide) ?_
  simp_arith only [PF_cf, PF_ca, prmC_ca, ci, lkK, lkF, lkN, a2, notin_dct a3, look_kvN, decide_eq_false hs]
  refine demand_s okR1 ?_
  simp_arith only [PF_cf, PF_ca, prmC_ca, ci, lkK, lkF, lkN, a2, a3]
  refine AND_of (by rw [kvN_len]; unfold sizeLine; omega) ?_
  simp_arith only [PF_cf, PF_ca, prmC_ca, ci, lkK, lkF, lkN, put_kvN hs]
  exact Done_of (k _ (c.known a1))
end
end K72

namespace K72
open PySem Lg Net
open L2 (atI ixN)
set_option checkBinderAnnotations false
variable {ζ : Ad}
theorem at_3 {a b c d : D} {r : List D} : atI (a :: b :: c :: d :: r) 3 = some d := (at_nat (k := 3)).trans rfl
theorem at_4 {a b c d e : D} {r : List D} : atI (a :: b :: c :: d :: e :: r) 4 = some e := (at_nat (k := 4)).trans rfl
theorem at_5 {a b c d e f : D} {r : List D} : atI (a :: b :: c :: d :: e :: f :: r) 5 = some f := (at_nat (k := 5)).trans rfl
theorem at_6 {a b c d e f g : D} {r : List D} : atI (a :: b :: c :: d :: e :: f :: g :: r) 6 = some g := (at_nat (k := 6)).trans rfl
theorem at_7 {a b c d e f g i : D} {r : List D} : atI (a :: b :: c :: d :: e :: f :: g :: i :: r) 7 = some i := (at_nat (k := 7)).trans rfl
theorem rg {l i m : Int} (h1 : l ≤ i) (h2 : i ≤ m) : (decide (l ≤ i) && decide (i ≤ m)) = true := by rw [decide_eq_true h1, decide_eq_true h2]; rfl
theorem okR2 {s t : Str} : okR [.tup [.bl true, .str s], .tup [.bl true, .str t]] := fun r hr => by
  simp only [List.mem_cons, List.not_mem_nil, or_false] at hr
  rcases hr with rfl | rfl
  · exact ⟨s, rfl⟩
  · exact ⟨t, rfl⟩
theorem okR3 {s t u : Str} : okR [.tup [.bl true, .str s], .tup [.bl true, .str t], .tup [.bl true, .str u]] := fun r hr => by
  simp only [List.mem_cons, List.not_mem_nil, or_false] at hr
  rcases hr with rfl | rfl | rfl
  · exact ⟨s, rfl⟩
  · exact ⟨t, rfl⟩
  · exact ⟨u, rfl⟩
section
variable {n : Nat} {h0 h : LH} {Q : QD} {e : EX} {m : N} {b f : Addr} {ks : List Addr} {kn : Nat → List ((Int ⊕ Str) × D)} {fw : List Str} {j : Int}
theorem inr_ok {i l u : Int} (h1 : l ≤ i) (h2 : i ≤ u) (k : Q (.bl true) h) : CF (PP ζ) TB (n + 2) 1 [.int i, .int l, .int u] h Q e := in_range_i (by rw [rg h1 h2]; exact k)
theorem station_s (c : CK (ζ.1 1) m h0 h b f ks kn fw) {s : St} (h1 : -720 ≤ s.z ∧ s.z ≤ 840) (h2 : 0 ≤ s.l ∧ s.l ≤ 600) (k : Q .non h) : CF (PP ζ) TB (n + 3) 32 [.ref b, .int j, stD s] h Q e := by
  have ci := c.ins
  refine CF_of (fn := ⟨3, 3, w_Checking_station⟩) rfl rfl ?_; dsimp only; unfold w_Checking_station
  simp_arith only [PF_cf, PF_ca, prmC_ca, ci, lkK, lkF, lkN, at_0, at_1, at_2, at_3, at_4, at_5, at_6, at_7, PF_gc, gTi, gCo, gSt]
  refine AND_of ⟨trivial, rfl⟩ ?_
  simp_arith only [PF_cf, PF_ca, prmC_ca, ci, lkK, lkF, lkN, at_0, at_1, at_2, at_3, at_4, at_5, at_6, at_7, PF_gc, gTi, gCo, gSt, stD]
  refine inr_ok h1.1 h1.2 ?_
  simp_arith only [PF_cf, PF_ca, prmC_ca, ci, lkK, lkF, lkN, at_0, at_1, at_2, at_3, at_4, at_5, at_6, at_7, PF_gc, gTi, gCo, gSt]
  refine inr_ok h2.1 h2.2 ?_
  simp_arith only [PF_cf, PF_ca, prmC_ca, ci, lkK, lkF, lkN, at_0, at_1, at_2, at_3, at_4, at_5, at_6, at_7, PF_gc, gTi, gCo, gSt]
  refine AND_of (by decide) ?_
  simp_arith only [PF_cf, PF_ca, prmC_ca, ci, lkK, lkF, lkN, at_0, at_1, at_2, at_3, at_4, at_5, at_6, at_7, PF_gc, gTi, gCo, gSt]
  refine demand_s okR1 ?_
  simp_arith only [PF_cf, PF_ca, prmC_ca, ci, lkK, lkF, lkN, at_0, at_1, at_2, at_3, at_4, at_5, at_6, at_7, PF_gc, gTi, gCo, gSt]
  exact Done_of k
theorem kind_s (c : CK (ζ.1 1) m h0 h b f ks kn fw) {s : Ty} (h1 : 1 ≤ s.s ∧ s.s ≤ 500) (h2 : 0 ≤ s.t ∧ s.t ≤ 600) (k : Q .non h) : CF (PP ζ) TB (n + 3) 33 [.ref b, .int j, tyD s] h Q e := by
  have ci := c.ins
  refine CF_of (fn := ⟨3, 3, w_Checking_kind⟩) rfl rfl ?_; dsimp only; unfold w_Checking_kind
  simp_arith only [PF_cf, PF_ca, prmC_ca, ci, lkK, lkF, lkN, at_0, at_1, at_2, at_3, at_4, at_5, at_6, at_7, PF_gc, gTi, gCo, gSt]
  refine AND_of ⟨trivial, rfl⟩ ?_
  simp_arith only [PF_cf, PF_ca, prmC_ca, ci, lkK, lkF, lkN, at_0, at_1, at_2, at_3, at_4, at_5, at_6, at_7, PF_gc, gTi, gCo, gSt, tyD]
  refine inr_ok h1.1 h1.2 ?_
  simp_arith only [PF_cf, PF_ca, prmC_ca, ci, lkK, lkF, lkN, at_0, at_1, at_2, at_3, at_4, at_5, at_6, at_7, PF_gc, gTi, gCo, gSt]
  refine inr_ok h2.1 h2.2 ?_
  simp_arith only [PF_cf, PF_ca, prmC_ca, ci, lkK, lkF, lkN, at_0, at_1, at_2, at_3, at_4, at_5, at_6, at_7, PF_gc, gTi, gCo, gSt]
  refine AND_of (by decide) ?_
  simp_arith only [PF_cf, PF_ca, prmC_ca, ci, lkK, lkF, lkN, at_0, at_1, at_2, at_3, at_4, at_5, at_6, at_7, PF_gc, gTi, gCo, gSt]
  refine demand_s okR1 ?_
  simp_arith only [PF_cf, PF_ca, prmC_ca, ci, lkK, lkF, lkN, at_0, at_1, at_2, at_3, at_4, at_5, at_6, at_7, PF_gc, gTi, gCo, gSt]
  exact Done_of k
theorem ends_s (c : CK (ζ.1 1) m h0 h b f ks kn fw) {p : D} {x y : Str} {l : List Str} (hk : kn 0 = kvN l) (hx : x ∈ l) (hy : y ∈ l) (ne : x ≠ y) (k : Q .non h) : CF (PP ζ) TB (n + 2) 34 [.ref b, p, .str x, .str y] h Q e := by
  have ci := c.ins
  obtain ⟨a, a1, a2, a3⟩ := c.at (q := 0) (by decide)
  rw [hk] at a3
  have a2 : atI (ks.map D.ref) 0 = some (.ref a) := a2
  have ne1 : (!decide (x = y)) = true := by simpa using ne
  refine CF_of (fn := ⟨4, 4, w_Checking_ends⟩) rfl rfl ?_; dsimp only; unfold w_Checking_ends
  simp_arith only [PF_cf, PF_ca, prmC_ca, ci, lkK, lkF, lkN, at_0, at_1, at_2, at_3, at_4, at_5, at_6, at_7, PF_gc, gTi, gCo, gSt]
  refine AND_of ⟨trivial, rfl⟩ ?_
  simp_arith only [PF_cf, PF_ca, prmC_ca, ci, lkK, lkF, lkN, at_0, at_1, at_2, at_3, at_4, at_5, at_6, at_7, PF_gc, gTi, gCo, gSt, a2, in_dct a3, look_kvN, decide_eq_true hx, decide_eq_true hy, ne1]
  refine AND_of (by decide) ?_
  simp_arith only [PF_cf, PF_ca, prmC_ca, ci, lkK, lkF, lkN, at_0, at_1, at_2, at_3, at_4, at_5, at_6, at_7, PF_gc, gTi, gCo, gSt, a2, in_dct a3, look_kvN, decide_eq_true hx, decide_eq_true hy, ne1]
  refine demand_s okR2 ?_
  simp_arith only [PF_cf, PF_ca, prmC_ca, ci, lkK, lkF, lkN, at_0, at_1, at_2, at_3, at_4, at_5, at_6, at_7, PF_gc, gTi, gCo, gSt]
  exact Done_of k
end
end K72

namespace K72
open PySem Lg Net
open L2 (atI ixN)
set_option checkBinderAnnotations false
variable {ζ : Ad}
def oD : Option Fl → D
  | none => .non
  | some g => flD g
section
variable {n : Nat} {h0 h : LH} {Q : QD} {e : EX} {m : N} {b f : Addr} {ks : List Addr} {kn : Nat → List ((Int ⊕ Str) × D)} {fw : List Str} {j : Int}
theorem len_strs : (nms m 2).length = m.cl.length := rfl
theorem flight_s (c : CK (ζ.1 1) m h0 h b f ks kn fw) {r : Fl} (R : Right m) (hr : r ∈ m.fl) (hk0 : kn 0 = kvN (nms m 0)) (hk1 : kn 1 = kvN (nms m 1)) (k : Q .non h) :
    CF (PP ζ) TB (n + 3) 35 [.ref b, .int j, flD r] h Q e := by
  have ci := c.ins
  obtain ⟨⟨x1, x2, x3⟩, ⟨t1, t2, t3⟩, y1, p1, l1, l2, l3⟩ := R.fl r hr
  obtain ⟨a, a1, a2, a3⟩ := c.at (q := 1) (by decide)
  rw [hk1] at a3
  have a2 : atI (ks.map D.ref) 1 = some (.ref a) := a2
  have el : decide ((r.lim.length : Int) = (m.cl.length : Int)) = true := by rw [l1]; simp
  have cl6 : m.cl.length ≤ 6 := R.many 2 (by decide)
  refine CF_of (fn := ⟨3, 10, w_Checking_flight⟩) rfl rfl ?_; dsimp only; unfold w_Checking_flight
  simp_arith only [PF_cf, PF_ca, prmC_ca, ci, lkK, lkF, lkN, at_0, at_1, at_2, at_3, at_4, at_5, at_6, at_7, PF_gc, gTi, gCo, gSt, flD, faD, taD, oD]
  refine AND_of ⟨trivial, rfl⟩ ?_
  simp_arith only [PF_cf, PF_ca, prmC_ca, ci, lkK, lkF, lkN, at_0, at_1, at_2, at_3, at_4, at_5, at_6, at_7, PF_gc, gTi, gCo, gSt, flD, faD, taD, oD]
  refine ends_s c hk0 x1 x2 x3 ?_
  simp_arith only [PF_cf, PF_ca, prmC_ca, ci, lkK, lkF, lkN, at_0, at_1, at_2, at_3, at_4, at_5, at_6, at_7, PF_gc, gTi, gCo, gSt, flD, faD, taD, oD]
  refine inr_ok t1 (by omega) ?_
  simp_arith only [PF_cf, PF_ca, prmC_ca, ci, lkK, lkF, lkN, at_0, at_1, at_2, at_3, at_4, at_5, at_6, at_7, PF_gc, gTi, gCo, gSt, flD, faD, taD, oD]
  refine inr_ok (by omega) t3 ?_
  simp_arith only [PF_cf, PF_ca, prmC_ca, ci, lkK, lkF, lkN, at_0, at_1, at_2, at_3, at_4, at_5, at_6, at_7, PF_gc, gTi, gCo, gSt, flD, faD, taD, oD, decide_eq_true t2]
  refine AND_of ⟨trivial, rfl⟩ ?_
  simp_arith only [PF_cf, PF_ca, prmC_ca, ci, lkK, lkF, lkN, at_0, at_1, at_2, at_3, at_4, at_5, at_6, at_7, PF_gc, gTi, gCo, gSt, flD, faD, taD, oD, a2, in_dct a3, look_kvN, decide_eq_true y1]
  refine inr_ok p1.1 p1.2 ?_
  simp_arith only [PF_cf, PF_ca, prmC_ca, ci, lkK, lkF, lkN, at_0, at_1, at_2, at_3, at_4, at_5, at_6, at_7, PF_gc, gTi, gCo, gSt, flD, faD, taD, oD, a2, in_dct a3, look_kvN, decide_eq_true y1]
  refine AND_of (by decide) ?_
  simp_arith only [PF_cf, PF_ca, prmC_ca, ci, lkK, lkF, lkN, at_0, at_1, at_2, at_3, at_4, at_5, at_6, at_7, PF_gc, gTi, gCo, gSt, flD, faD, taD, oD, a2, in_dct a3, look_kvN, decide_eq_true y1, decide_eq_true t2]
  refine demand_s okR3 ?_
  simp_arith only [PF_cf, PF_ca, prmC_ca, ci, lkK, lkF, lkN, at_0, at_1, at_2, at_3, at_4, at_5, at_6, at_7, PF_gc, gTi, gCo, gSt, flD, faD, taD, oD]
  refine AND_of (by omega) ?_
  refine Compr_of tt (by rw [rngL_len]; unfold sizeLine; omega) trivial (fun d K hd hk => ?_) ?_
  · obtain ⟨i, hi0⟩ := List.getElem?_of_mem hd
    obtain ⟨hi, rfl⟩ := rngL_get hi0
    have hi : i + 1 < r.lim.length := by omega
    have g1 : atI (r.lim.map D.int) (0 + (i : Int)) = some (.int r.lim[i]) := by
      rw [show (0 : Int) + (i : Int) = (i : Int) by omega, at_nat, List.getElem?_map, List.getElem?_eq_getElem (by omega)]; rfl
    have g2 : atI (r.lim.map D.int) (0 + (i : Int) + 1) = some (.int r.lim[i + 1]) := by
      rw [show (0 : Int) + (i : Int) + 1 = ((i + 1 : Nat) : Int) by omega, at_nat, List.getElem?_map, List.getElem?_eq_getElem (by omega)]; rfl
    have ge : r.lim[i] ≥ r.lim[i + 1] := List.pairwise_iff_getElem.mp l3 i (i + 1) (by omega) hi (by omega)
    have ge1 : decide (r.lim[i + 1] ≤ r.lim[i]) = true := decide_eq_true ge
    simp_arith only [g1, g2, ge1]
    exact hk
  rw [tt_map]
  simp_arith only [all_blm (g := fun _ : D => true), all_tt, PF_cf, PF_ca, prmC_ca, ci, lkK, lkF, lkN, at_0, at_1, at_2, at_3, at_4, at_5, at_6, at_7, PF_gc, gTi, gCo, gSt, flD, faD, taD, oD, netD, netL, el]
  refine Compr_of tt (by rw [List.length_map]; unfold sizeLine; omega) trivial (fun d K hd hk => ?_) ?_
  · obtain ⟨x, hx, rfl⟩ := List.mem_map.mp hd
    have := l2 x hx
    simp_arith only [PF_cf, PF_ca, prmC_ca, ci, lkK, lkF, lkN, at_0, at_1, at_2, at_3, at_4, at_5, at_6, at_7, PF_gc, gTi, gCo, gSt, flD, faD, taD, oD]
    refine inr_ok this.1 this.2 ?_
    exact hk
  rw [tt_map]
  simp_arith only [all_blm (g := fun _ : D => true), all_tt, PF_cf, PF_ca, prmC_ca, ci, lkK, lkF, lkN, at_0, at_1, at_2, at_3, at_4, at_5, at_6, at_7, PF_gc, gTi, gCo, gSt, flD, faD, taD, oD]
  refine AND_of ⟨trivial, rfl⟩ ?_
  simp_arith only [all_tt, PF_cf, PF_ca, prmC_ca, ci, lkK, lkF, lkN, at_0, at_1, at_2, at_3, at_4, at_5, at_6, at_7, PF_gc, gTi, gCo, gSt, flD, faD, taD, oD]
  refine AND_of (by decide) ?_
  simp_arith only [all_tt, PF_cf, PF_ca, prmC_ca, ci, lkK, lkF, lkN, at_0, at_1, at_2, at_3, at_4, at_5, at_6, at_7, PF_gc, gTi, gCo, gSt, flD, faD, taD, oD]
  refine demand_s okR1 ?_
  simp_arith only [PF_cf, PF_ca, prmC_ca, ci, lkK, lkF, lkN, at_0, at_1, at_2, at_3, at_4, at_5, at_6, at_7, PF_gc, gTi, gCo, gSt, flD, faD, taD, oD]
  exact Done_of k
theorem fare_s (c : CK (ζ.1 1) m h0 h b f ks kn fw) {r : Fa} (R : Right m) (hr : r ∈ m.fa) (hk0 : kn 0 = kvN (nms m 0)) (hk2 : kn 2 = kvN (nms m 2)) (k : Q .non h) :
    CF (PP ζ) TB (n + 3) 37 [.ref b, .int j, faD r] h Q e := by
  have ci := c.ins
  obtain ⟨⟨x1, x2, x3⟩, y1, p1, p2, p3, p4⟩ := R.fa r hr
  obtain ⟨a, a1, a2, a3⟩ := c.at (q := 2) (by decide)
  rw [hk2] at a3
  have a2 : atI (ks.map D.ref) 2 = some (.ref a) := a2
  have y1 : r.cl ∈ nms m 2 := y1
  refine CF_of (fn := ⟨3, 5, w_Checking_fare⟩) rfl rfl ?_; dsimp only; unfold w_Checking_fare
  simp_arith only [PF_cf, PF_ca, prmC_ca, ci, lkK, lkF, lkN, at_0, at_1, at_2, at_3, at_4, at_5, at_6, at_7, PF_gc, gTi, gCo, gSt, flD, faD, taD, oD]
  refine AND_of ⟨trivial, rfl⟩ ?_
  simp_arith only [PF_cf, PF_ca, prmC_ca, ci, lkK, lkF, lkN, at_0, at_1, at_2, at_3, at_4, at_5, at_6, at_7, PF_gc, gTi, gCo, gSt, flD, faD, taD, oD]
  refine ends_s c hk0 x1 x2 x3 ?_
  simp_arith only [PF_cf, PF_ca, prmC_ca, ci, lkK, lkF, lkN, at_0, at_1, at_2, at_3, at_4, at_5, at_6, at_7, PF_gc, gTi, gCo, gSt, flD, faD, taD, oD]
  refine inr_ok p1.1 p1.2 ?_
  simp_arith only [PF_cf, PF_ca, prmC_ca, ci, lkK, lkF, lkN, at_0, at_1, at_2, at_3, at_4, at_5, at_6, at_7, PF_gc, gTi, gCo, gSt, flD, faD, taD, oD]
  refine inr_ok p3.1 p3.2 ?_
  simp_arith only [PF_cf, PF_ca, prmC_ca, ci, lkK, lkF, lkN, at_0, at_1, at_2, at_3, at_4, at_5, at_6, at_7, PF_gc, gTi, gCo, gSt, flD, faD, taD, oD]
  refine inr_ok p2.1 p2.2 ?_
  simp_arith only [PF_cf, PF_ca, prmC_ca, ci, lkK, lkF, lkN, at_0, at_1, at_2, at_3, at_4, at_5, at_6, at_7, PF_gc, gTi, gCo, gSt, flD, faD, taD, oD]
  refine inr_ok p4.1 p4.2 ?_
  simp_arith only [PF_cf, PF_ca, prmC_ca, ci, lkK, lkF, lkN, at_0, at_1, at_2, at_3, at_4, at_5, at_6, at_7, PF_gc, gTi, gCo, gSt, flD, faD, taD, oD]
  refine AND_of ⟨trivial, rfl⟩ ?_
  simp_arith only [PF_cf, PF_ca, prmC_ca, ci, lkK, lkF, lkN, at_0, at_1, at_2, at_3, at_4, at_5, at_6, at_7, PF_gc, gTi, gCo, gSt, flD, faD, taD, oD, a2, in_dct a3, look_kvN, decide_eq_true y1]
  refine AND_of (by decide) ?_
  simp_arith only [PF_cf, PF_ca, prmC_ca, ci, lkK, lkF, lkN, at_0, at_1, at_2, at_3, at_4, at_5, at_6, at_7, PF_gc, gTi, gCo, gSt, flD, faD, taD, oD, a2, in_dct a3, look_kvN, decide_eq_true y1]
  refine demand_s okR2 ?_
  simp_arith only [PF_cf, PF_ca, prmC_ca, ci, lkK, lkF, lkN, at_0, at_1, at_2, at_3, at_4, at_5, at_6, at_7, PF_gc, gTi, gCo, gSt, flD, faD, taD, oD]
  exact Done_of k
theorem find_i {α : Type} {g : α → Str} {l : List α} {x : α} (h : x ∈ l) : ∃ i : Nat, (l.map g)[i]? = some (g x) ∧ l[i]? = some x := by
  obtain ⟨i, hi, e⟩ := List.mem_iff_getElem.mp h
  exact ⟨i, by rw [List.getElem?_map, List.getElem?_eq_getElem hi, e]; rfl, by rw [List.getElem?_eq_getElem hi, e]⟩
theorem tail_s (c : CK (ζ.1 1) m h0 h b f ks kn fw) {t : Ta} (R : Right m) (ht : t ∈ m.ta) (hk1 : kn 1 = kvN (nms m 1)) (hk3 : kn 3 = kvN (nms m 3)) (hnd : (fw ++ t.fl).Nodup) (hl : (fw ++ t.fl).length ≤ 1000)
    (k : ∀ h', CK (ζ.1 1) m h0 h' b f ks kn (fw ++ t.fl) → Q .non h') :
    CF (PP ζ) TB (n + 3) 36 [.ref b, .int j, taD t] h Q e := by
  have ci := c.ins
  obtain ⟨y, hy, yn, ch⟩ := R.ta t ht
  obtain ⟨iy, y1, y2⟩ := find_i (g := (·.nm)) hy
  rw [yn] at y1
  have y3 := find_kvN (R.once 1 (by decide)) y1
  have y4 : atI (m.ty.map tyD) (iy : Int) = some (tyD y) := by rw [at_nat, List.getElem?_map, y2]; rfl
  have tin : t.ty ∈ nms m 1 := List.mem_of_getElem? y1
  obtain ⟨a, a1, a2, a3⟩ := c.at (q := 1) (by decide)
  rw [hk1] at a3
  have a2 : atI (ks.map D.ref) 1 = some (.ref a) := a2
  refine CF_of (fn := ⟨3, 8, w_Checking_tail⟩) rfl rfl ?_; dsimp only; unfold w_Checking_tail
  simp_arith only [PF_cf, PF_ca, prmC_ca, ci, lkK, lkF, lkN, at_0, at_1, at_2, at_3, at_4, at_5, at_6, at_7, PF_gc, gTi, gCo, gSt, flD, faD, taD, oD]
  refine AND_of ⟨trivial, rfl⟩ ?_
  simp_arith only [PF_cf, PF_ca, prmC_ca, ci, lkK, lkF, lkN, at_0, at_1, at_2, at_3, at_4, at_5, at_6, at_7, PF_gc, gTi, gCo, gSt, flD, faD, taD, oD, a2, in_dct a3, look_kvN, decide_eq_true tin]
  refine AND_of (by decide) ?_
  simp_arith only [PF_cf, PF_ca, prmC_ca, ci, lkK, lkF, lkN, at_0, at_1, at_2, at_3, at_4, at_5, at_6, at_7, PF_gc, gTi, gCo, gSt, flD, faD, taD, oD, a2, in_dct a3, look_kvN, decide_eq_true tin]
  refine demand_s okR1 ?_
  simp_arith only [PF_cf, PF_ca, prmC_ca, ci, lkK, lkF, lkN, at_0, at_1, at_2, at_3, at_4, at_5, at_6, at_7, PF_gc, gTi, gCo, gSt, flD, faD, taD, oD]
  refine Loop_of (fun i ρ h' => ∃ o : Option Fl, CK (ζ.1 1) m h0 h' b f ks kn (fw ++ t.fl.take i) ∧ chain m t.nm t.ty y.t o (t.fl.drop i) ∧ ρ = [some (.ref b), some (.int j), some (taD t), some (.tup [.int 4, .int j]), some (oD o), none, none, none]) ⟨none, by rw [List.take_zero, List.append_nil]; exact c, ch, (by first | rfl | trivial)⟩ ?_ ?_
  · rintro i d ρ h1 hd ⟨o, c1, ch1, rfl⟩
    have hd' : (t.fl.map D.str)[i]? = some d := hd
    rw [List.getElem?_map] at hd'
    obtain ⟨s, hs, rfl⟩ : ∃ s, t.fl[i]? = some s ∧ d = .str s := by
      cases q : t.fl[i]? with
      | none => rw [q] at hd'; cases hd'
      | some s => rw [q] at hd'; exact ⟨s, rfl, (Option.some.inj hd').symm⟩
    have hi : i < t.fl.length := (List.getElem?_eq_some_iff.mp hs).1
    have dr : t.fl.drop i = s :: t.fl.drop (i + 1) := by rw [List.drop_eq_getElem_cons hi, (List.getElem?_eq_some_iff.mp hs).2]
    have tk : t.fl.take (i + 1) = t.fl.take i ++ [s] := by rw [List.take_succ, hs]; rfl
    rw [dr] at ch1
    obtain ⟨r, hr, rn, rt, ro, ch2⟩ := ch1
    have fresh : s ∉ fw ++ t.fl.take i := fun z => by
      have : fw ++ t.fl = (fw ++ t.fl.take i) ++ s :: t.fl.drop (i + 1) := by rw [List.append_assoc, ← dr, List.take_append_drop]
      rw [this, List.nodup_append] at hnd
      exact hnd.2.2 s z s (List.mem_cons_self ..) rfl
    have hlen : (fw ++ t.fl.take i).length ≤ 1000 := by
      rw [List.length_append] at hl ⊢
      rw [List.length_take]; omega
    obtain ⟨ir, r1, r2⟩ := find_i (g := (·.nm)) hr
    rw [rn] at r1
    have r3 := find_kvN (R.once 3 (by decide)) r1
    have r4 : atI (m.fl.map flD) (ir : Int) = some (flD r) := by rw [at_nat, List.getElem?_map, r2]; rfl
    have sin : s ∈ nms m 3 := List.mem_of_getElem? r1
    have c1i := c1.ins
    have c1f := c1.fl
    obtain ⟨u, u1, u2, u3⟩ := c1.at (q := 3) (by decide)
    rw [hk3] at u3
    have u2 : atI (ks.map D.ref) 3 = some (.ref u) := u2
    clear ci
    have ci := c1i
    have c1f : h1 f = some (.dct (kvF (fw ++ t.fl.take i))) := c1f
    simp_arith only [PF_cf, PF_ca, prmC_ca, ci, lkK, lkF, lkN, at_0, at_1, at_2, at_3, at_4, at_5, at_6, at_7, PF_gc, gTi, gCo, gSt, flD, faD, taD, oD]
    refine AND_of ⟨trivial, rfl⟩ ?_
    simp_arith only [PF_cf, PF_ca, prmC_ca, ci, lkK, lkF, lkN, at_0, at_1, at_2, at_3, at_4, at_5, at_6, at_7, PF_gc, gTi, gCo, gSt, flD, faD, taD, oD, u2, in_dct u3, look_kvN, decide_eq_true sin, notin_dct c1f, look_kvF, decide_eq_false fresh]
    refine AND_of (by decide) ?_
    simp_arith only [PF_cf, PF_ca, prmC_ca, ci, lkK, lkF, lkN, at_0, at_1, at_2, at_3, at_4, at_5, at_6, at_7, PF_gc, gTi, gCo, gSt, flD, faD, taD, oD, u2, in_dct u3, look_kvN, decide_eq_true sin, notin_dct c1f, look_kvF, decide_eq_false fresh]
    refine demand_s okR2 ?_
    simp_arith only [PF_cf, PF_ca, prmC_ca, ci, lkK, lkF, lkN, at_0, at_1, at_2, at_3, at_4, at_5, at_6, at_7, PF_gc, gTi, gCo, gSt, flD, faD, taD, oD, c1f]
    refine AND_of (by unfold kvF; rw [List.length_map]; unfold sizeLine; omega) ?_
    have c2 := c1.flown (s := s)
    have c2i := c2.ins
    have v3 := c2.kn 3 u u1
    have v1 := c2.kn 1 a a1
    rw [hk3] at v3
    rw [hk1] at v1
    have rtd : decide (r.ty = t.ty) = true := decide_eq_true rt
    rw [put_kvF fresh]
    clear ci
    have ci := c2i
    generalize hh : put h1 f (.dct (kvF (fw ++ t.fl.take i ++ [s]))) = h2 at *
    simp_arith only [PF_cf, PF_ca, prmC_ca, ci, lkK, lkF, lkN, at_0, at_1, at_2, at_3, at_4, at_5, at_6, at_7, PF_gc, gTi, gCo, gSt, flD, faD, taD, oD, u2, v3, netD, netL, r3, r4]
    refine AND_of ⟨trivial, rfl⟩ ?_
    simp_arith only [PF_cf, PF_ca, prmC_ca, ci, lkK, lkF, lkN, at_0, at_1, at_2, at_3, at_4, at_5, at_6, at_7, PF_gc, gTi, gCo, gSt, flD, faD, taD, oD, rtd]
    refine AND_of (by decide) ?_
    simp_arith only [PF_cf, PF_ca, prmC_ca, ci, lkK, lkF, lkN, at_0, at_1, at_2, at_3, at_4, at_5, at_6, at_7, PF_gc, gTi, gCo, gSt, flD, faD, taD, oD, rtd]
    refine demand_s okR1 ?_
    simp_arith only [PF_cf, PF_ca, prmC_ca, ci, lkK, lkF, lkN, at_0, at_1, at_2, at_3, at_4, at_5, at_6, at_7, PF_gc, gTi, gCo, gSt, flD, faD, taD, oD]
    have c3 : CK (ζ.1 1) m h0 h2 b f ks kn (fw ++ t.fl.take (i + 1)) := by rw [tk, ← List.append_assoc]; exact c2
    cases o with
    | none =>
      simp_arith only [PF_cf, PF_ca, prmC_ca, ci, lkK, lkF, lkN, at_0, at_1, at_2, at_3, at_4, at_5, at_6, at_7, PF_gc, gTi, gCo, gSt, flD, faD, taD, oD]
      exact ⟨some r, c3, ch2, (by first | rfl | trivial)⟩
    | some g =>
      obtain ⟨g1, g2⟩ := ro g rfl
      have g1 : decide (g.b = r.a) = true := decide_eq_true g1
      have g2 : decide (g.ar + y.t ≤ r.dp) = true := decide_eq_true g2
      simp_arith only [PF_cf, PF_ca, prmC_ca, ci, lkK, lkF, lkN, at_0, at_1, at_2, at_3, at_4, at_5, at_6, at_7, PF_gc, gTi, gCo, gSt, flD, faD, taD, oD, a2, v1, netD, netL, y3, y4, tyD]
      refine AND_of ⟨trivial, rfl⟩ ?_
      simp_arith only [PF_cf, PF_ca, prmC_ca, ci, lkK, lkF, lkN, at_0, at_1, at_2, at_3, at_4, at_5, at_6, at_7, PF_gc, gTi, gCo, gSt, flD, faD, taD, oD, g1, g2]
      refine AND_of (by decide) ?_
      simp_arith only [PF_cf, PF_ca, prmC_ca, ci, lkK, lkF, lkN, at_0, at_1, at_2, at_3, at_4, at_5, at_6, at_7, PF_gc, gTi, gCo, gSt, flD, faD, taD, oD, g1, g2]
      refine demand_s okR2 ?_
      simp_arith only [PF_cf, PF_ca, prmC_ca, ci, lkK, lkF, lkN, at_0, at_1, at_2, at_3, at_4, at_5, at_6, at_7, PF_gc, gTi, gCo, gSt, flD, faD, taD, oD]
      exact ⟨some r, c3, ch2, (by first | rfl | trivial)⟩
  · rintro ρ h1 ⟨o, c1, ch1, rfl⟩
    rw [List.length_map, List.take_length] at c1
    simp_arith
    exact Done_of (k _ c1)
end
end K72

namespace K72
open PySem Lg Net
open L2 (atI ixN)
set_option checkBinderAnnotations false
variable {ζ : Ad}
def partL (m : N) : Nat → List D
  | 0 => m.st.map stD
  | 1 => m.ty.map tyD
  | 2 => m.cl.map .str
  | 3 => m.fl.map flD
  | 4 => m.ta.map taD
  | _ => m.fa.map faD
theorem partL_len {m : N} {q : Nat} : (partL m q).length = (nms m q).length := by
  unfold partL nms
  split <;> simp
theorem row_st {s : St} : OkRow (stD s) "nii" [.str s.nm, .int s.z, .int s.l] := ⟨by rw [if_neg (by decide)]; rfl, rfl, fun p hp => by
  have e : ("nii" : Str).cps.toList = [110, 105, 105] := by decide
  rw [e] at hp
  simp only [List.zip_cons_cons, List.zip_nil_left, List.zip_nil_right, List.mem_cons, List.not_mem_nil, or_false] at hp
  rcases hp with rfl | rfl | rfl
  · exact .n _
  · exact .i _
  · exact .i _⟩
theorem row_ty {s : Ty} : OkRow (tyD s) "nii" [.str s.nm, .int s.s, .int s.t] := ⟨by rw [if_neg (by decide)]; rfl, rfl, fun p hp => by
  have e : ("nii" : Str).cps.toList = [110, 105, 105] := by decide
  rw [e] at hp
  simp only [List.zip_cons_cons, List.zip_nil_left, List.zip_nil_right, List.mem_cons, List.not_mem_nil, or_false] at hp
  rcases hp with rfl | rfl | rfl
  · exact .n _
  · exact .i _
  · exact .i _⟩
theorem row_cl {s : Str} : OkRow (.str s) "n" [.str s] := ⟨by rw [if_pos rfl], rfl, fun p hp => by
  have e : ("n" : Str).cps.toList = [110] := by decide
  rw [e] at hp
  simp only [List.zip_cons_cons, List.zip_nil_left, List.zip_nil_right, List.mem_cons, List.not_mem_nil, or_false] at hp
  rcases hp with rfl
  exact .n _⟩
theorem row_fl {r : Fl} (h : r.lim.length ≤ 1000) : OkRow (flD r) "nnniinir" [.str r.nm, .str r.a, .str r.b, .int r.dp, .int r.ar, .str r.ty, .int r.pr, .tup (r.lim.map .int)] := ⟨by rw [if_neg (by decide)]; rfl, rfl, fun p hp => by
  have e : ("nnniinir" : Str).cps.toList = [110, 110, 110, 105, 105, 110, 105, 114] := by decide
  rw [e] at hp
  simp only [List.zip_cons_cons, List.zip_nil_left, List.zip_nil_right, List.mem_cons, List.not_mem_nil, or_false] at hp
  rcases hp with rfl | rfl | rfl | rfl | rfl | rfl | rfl | rfl
  · exact .n _
  · exact .n _
  · exact .n _
  · exact .i _
  · exact .i _
  · exact .n _
  · exact .i _
  · exact .r h⟩
theorem row_ta {r : Ta} (h : r.fl.length ≤ 1000) : OkRow (taD r) "nnq" [.str r.nm, .str r.ty, .tup (r.fl.map .str)] := ⟨by rw [if_neg (by decide)]; rfl, rfl, fun p hp => by
  have e : ("nnq" : Str).cps.toList = [110, 110, 113] := by decide
  rw [e] at hp
  simp only [List.zip_cons_cons, List.zip_nil_left, List.zip_nil_right, List.mem_cons, List.not_mem_nil, or_false] at hp
  rcases hp with rfl | rfl | rfl
  · exact .n _
  · exact .n _
  · exact .q h⟩
theorem row_fa {r : Fa} : OkRow (faD r) "nnnniiii" [.str r.nm, .str r.a, .str r.b, .str r.cl, .int r.p, .int r.x, .int r.r, .int r.o] := ⟨by rw [if_neg (by decide)]; rfl, rfl, fun p hp => by
  have e : ("nnnniiii" : Str).cps.toList = [110, 110, 110, 110, 105, 105, 105, 105] := by decide
  rw [e] at hp
  simp only [List.zip_cons_cons, List.zip_nil_left, List.zip_nil_right, List.mem_cons, List.not_mem_nil, or_false] at hp
  rcases hp with rfl | rfl | rfl | rfl | rfl | rfl | rfl | rfl
  · exact .n _
  · exact .n _
  · exact .n _
  · exact .n _
  · exact .i _
  · exact .i _
  · exact .i _
  · exact .i _⟩
def flat (m : N) : List Str := (m.ta.map (·.fl)).flatten
theorem flat_len {m : N} (R : Right m) : (flat m).length ≤ 40 := by
  have := R.flown.length_eq
  have := R.many 3 (by decide)
  unfold flat; simp only [most] at *; omega
theorem sub_flat {m : N} {t : Ta} (h : t ∈ m.ta) : t.fl.length ≤ (flat m).length := by
  unfold flat
  have := List.sublist_flatten_of_mem (List.mem_map_of_mem (f := (·.fl)) h)
  exact this.length_le
section
variable {n : Nat} {h : LH} {Q : QD} {e : EX}
theorem shape_s {m : N} (R : Right m) (k : Q (.bl true) h) : CF (PP ζ) TB (n + 4) 6 [netD m] h Q e := by
  have M := fun q (hq : q < 6) => R.many q hq
  have c0 : m.st.length ≤ 12 := by have := M 0 (by decide); simpa [nms, most] using this
  have c1 : m.ty.length ≤ 4 := by have := M 1 (by decide); simpa [nms, most] using this
  have c2 : m.cl.length ≤ 6 := by have := M 2 (by decide); simpa [nms, most] using this
  have c3 : m.fl.length ≤ 40 := by have := M 3 (by decide); simpa [nms, most] using this
  have c4 : m.ta.length ≤ 12 := by have := M 4 (by decide); simpa [nms, most] using this
  have c5 : m.fa.length ≤ 40 := by have := M 5 (by decide); simpa [nms, most] using this
  refine has_shape_s (net := [(m.st.map stD, "nii"), (m.ty.map tyD, "nii"), (m.cl.map .str, "n"), (m.fl.map flD, "nnniinir"), (m.ta.map taD, "nnq"), (m.fa.map faD, "nnnniiii")]) rfl (fun x hx => ?_) k
  simp only [List.mem_cons, List.not_mem_nil, or_false] at hx
  rcases hx with rfl | rfl | rfl | rfl | rfl | rfl
  · refine ⟨by rw [List.length_map]; omega, fun r hr => ?_⟩
    obtain ⟨s, _, rfl⟩ := List.mem_map.mp hr
    exact ⟨_, row_st⟩
  · refine ⟨by rw [List.length_map]; omega, fun r hr => ?_⟩
    obtain ⟨s, _, rfl⟩ := List.mem_map.mp hr
    exact ⟨_, row_ty⟩
  · refine ⟨by rw [List.length_map]; omega, fun r hr => ?_⟩
    obtain ⟨s, _, rfl⟩ := List.mem_map.mp hr
    exact ⟨_, row_cl⟩
  · refine ⟨by rw [List.length_map]; omega, fun r hr => ?_⟩
    obtain ⟨s, hs, rfl⟩ := List.mem_map.mp hr
    have := (R.fl s hs).2.2.2.2.1
    exact ⟨_, row_fl (by omega)⟩
  · refine ⟨by rw [List.length_map]; omega, fun r hr => ?_⟩
    obtain ⟨s, hs, rfl⟩ := List.mem_map.mp hr
    have := sub_flat hs
    have := flat_len R
    exact ⟨_, row_ta (by omega)⟩
  · refine ⟨by rw [List.length_map]; omega, fun r hr => ?_⟩
    obtain ⟨s, _, rfl⟩ := List.mem_map.mp hr
    exact ⟨_, row_fa⟩
end
end K72

namespace K72
open PySem Lg Net
open L2 (atI ixN)
set_option checkBinderAnnotations false
variable {ζ : Ad}
theorem netL_eq {m : N} : netL m = (List.range 6).map fun q => .tup (partL m q) := rfl
theorem enum_get {l : List D} {i : Nat} {d : D} (h : (enumL l)[i]? = some d) : ∃ x, l[i]? = some x ∧ d = .tup [.int (i : Int), x] := by
  unfold enumL at h
  rw [List.getElem?_mapIdx] at h
  cases q : l[i]? with
  | none => rw [q] at h; cases h
  | some x => rw [q] at h; exact ⟨x, rfl, (Option.some.inj h).symm⟩
theorem get_map {α β : Type} {f : α → β} {l : List α} {i : Nat} {d : β} (h : (l.map f)[i]? = some d) : ∃ x, l[i]? = some x ∧ d = f x := by
  rw [List.getElem?_map] at h
  cases q : l[i]? with
  | none => rw [q] at h; cases h
  | some x => rw [q] at h; exact ⟨x, rfl, (Option.some.inj h).symm⟩
theorem nm_at {m : N} (R : Right m) {i j : Nat} {s : Str} (hi : i < 6) (hn : (nms m i)[j]? = some s) :
    ((nms m i).take j).length = j ∧ ((nms m i).take j).length ≤ 1000 ∧ s ∉ (nms m i).take j ∧ okNm s = true ∧ (nms m i).take (j + 1) = (nms m i).take j ++ [s] := by
  have hl := (List.getElem?_eq_some_iff.mp hn).1
  have l1 : ((nms m i).take j).length = j := by rw [List.length_take]; omega
  have mx := R.many i hi
  have m40 : most i ≤ 40 := by unfold most; split <;> decide
  refine ⟨l1, by omega, fun z => ?_, R.good i hi s (List.mem_of_getElem? hn), by rw [List.take_succ, hn]; rfl⟩
  have nd := R.once i hi
  rw [← List.take_append_drop j (nms m i), List.nodup_append] at nd
  refine nd.2.2 s z s ?_ rfl
  rw [List.drop_eq_getElem_cons hl, (List.getElem?_eq_some_iff.mp hn).2]
  exact List.mem_cons_self ..
theorem part_get {m : N} {i : Nat} {x : D} (h : (netL m)[i]? = some x) : i < 6 ∧ x = .tup (partL m i) := by
  rw [netL_eq, List.getElem?_map] at h
  by_cases hi : i < 6
  · rw [List.getElem?_range hi] at h
    exact ⟨hi, (Option.some.inj h).symm⟩
  · rw [List.getElem?_eq_none (by simpa using hi)] at h; cases h
theorem most_at {i : Nat} (h : i < 6) : atI [D.int 12, .int 4, .int 6, .int 40, .int 12, .int 40] (i : Int) = some (.int (most i : Nat)) := by
  rw [at_nat]
  match i, h with
  | 0, _ => rfl
  | 1, _ => rfl
  | 2, _ => rfl
  | 3, _ => rfl
  | 4, _ => rfl
  | 5, _ => rfl
theorem eq_strs {h : LH} {Q : QD} {l : List Str} (hl : l ≠ []) : @wcmp .Eq (.tup (l.map .str)) (.tup []) h (Box.mk Q) = Q (.bl false) h := by
  show eqW (.tup (l.map .str)) (.tup []) h (fun b => Q (.bl b) h) = _
  have p : ∀ l : List Str, pyL (l.map D.str) = some (l.map PyData.str) := fun l => by
    induction l with
    | nil => rfl
    | cons x l ih => simp only [List.map_cons, pyL, D.py, ih]
  have e1 : pv_ h (.tup (l.map .str)) = some (.tuple (l.map .str)) := by
    show D.py (.tup (l.map .str)) = _
    simp only [D.py, p, Option.map_some]
  have e2 : pv_ h (.tup []) = some (.tuple []) := rfl
  unfold eqW
  rw [e1, e2]
  have e3 : PyData.eqv (.tuple (l.map .str)) (.tuple []) = false := by
    cases l with
    | nil => exact absurd rfl hl
    | cons x l => simp [PyData.eqv, PyData.eqvAll]
  simp only [e3]
  exact propext ⟨fun z => z.2, fun z => ⟨by simp only [PyData.depth, PyData.depthAll]; omega, z⟩⟩
theorem Done_sub {Q : QD} {d : D} {h h' : LH} (s : Sub h h') (q : Q d h) : @Done d h' (Box.mk Q) := done_sub s q
def knA (m : N) (i : Nat) : Nat → List ((Int ⊕ Str) × D) := fun r => if r < i then kvN (nms m r) else []
theorem kset_self {kn : Nat → List ((Int ⊕ Str) × D)} {q : Nat} {l : List ((Int ⊕ Str) × D)} (h : kn q = l) : kset kn q l = kn := by
  funext r
  unfold kset
  by_cases e : r = q
  · rw [if_pos e, e, h]
  · rw [if_neg e]
theorem kset_kset {kn : Nat → List ((Int ⊕ Str) × D)} {q : Nat} {l l' : List ((Int ⊕ Str) × D)} : kset (kset kn q l) q l' = kset kn q l' := by
  funext r
  unfold kset
  by_cases e : r = q
  · rw [if_pos e, if_pos e]
  · rw [if_neg e, if_neg e, if_neg e]
theorem knA_succ {m : N} {i : Nat} : kset (knA m i) i (kvN (nms m i)) = knA m (i + 1) := by
  funext r
  unfold kset knA
  by_cases e : r = i
  · subst e; rw [if_pos rfl, if_pos (by omega)]
  · rw [if_neg e]
    by_cases l : r < i
    · rw [if_pos l, if_pos (by omega)]
    · rw [if_neg l, if_neg (by omega)]
def fwJ (m : N) (i j : Nat) : List Str := if i < 4 then [] else if i = 4 then ((m.ta.take j).map (·.fl)).flatten else flat m
def visD (ζ : Ad) (b : Addr) : D := .tup [.bnd (ζ.2 32) (.ref b), .bnd (ζ.2 33) (.ref b), .non, .bnd (ζ.2 35) (.ref b), .bnd (ζ.2 36) (.ref b), .bnd (ζ.2 37) (.ref b)]
theorem named2_s {n : Nat} {h0 h : LH} {Q : QD} {e : EX} {m : N} {b f : Addr} {ks : List Addr} {kn : Nat → List ((Int ⊕ Str) × D)} {fw : List Str} (c : CK (ζ.1 1) m h0 h b f ks kn fw) {q : Nat} {l : List Str} {s : Str} {p : D} {x : Int} (hx : (q : Int) = x) (hp : p = .int (l.length : Int)) (hq : q < 6) (hk : kn q = kvN l) (hs : s ∉ l) (hl : l.length ≤ 1000) (ok : okNm s = true)
    (k : ∀ h', CK (ζ.1 1) m h0 h' b f ks (kset kn q (kvN (l ++ [s]))) fw → Q .non h') : CF (PP ζ) TB (n + 3) 31 [.ref b, .int x, p, .str s] h Q e := by
  subst hp; subst hx
  exact named_s c hq hk hs hl ok k
theorem fwJ_end {m : N} {i : Nat} : fwJ m i (nms m i).length = fwJ m (i + 1) 0 := by
  unfold fwJ flat
  by_cases h1 : i < 4
  · rw [if_pos h1]
    by_cases h2 : i + 1 < 4
    · rw [if_pos h2]
    · rw [if_neg h2, if_pos (by omega)]; simp
  · rw [if_neg h1, if_neg (show ¬ i + 1 < 4 by omega), if_neg (show ¬ i + 1 = 4 by omega)]
    by_cases h2 : i = 4
    · subst h2
      rw [if_pos rfl, List.take_of_length_le (by show m.ta.length ≤ (m.ta.map (·.nm)).length; rw [List.length_map]; exact Nat.le_refl _)]
    · rw [if_neg h2]
theorem fwJ4 {m : N} {j : Nat} {t : Ta} (h : m.ta[j]? = some t) : fwJ m 4 (j + 1) = fwJ m 4 j ++ t.fl := by
  unfold fwJ
  rw [if_neg (by decide), if_pos rfl, if_neg (by decide), if_pos rfl, List.take_succ, h]
  simp
theorem flat_pre {m : N} (R : Right m) {j : Nat} {t : Ta} (h : m.ta[j]? = some t) : (fwJ m 4 j ++ t.fl).Nodup ∧ (fwJ m 4 j ++ t.fl).length ≤ 1000 := by
  rw [← fwJ4 h]
  have nd : (flat m).Nodup := R.flown.nodup_iff.mpr (R.once 3 (by decide))
  have fl := flat_len R
  have pre : (fwJ m 4 (j + 1)).Sublist (flat m) := by
    unfold fwJ flat
    rw [if_neg (by decide), if_pos rfl]
    have e : (m.ta.map (·.fl)) = ((m.ta.take (j + 1)).map (·.fl)) ++ ((m.ta.drop (j + 1)).map (·.fl)) := by rw [← List.map_append, List.take_append_drop]
    rw [e, List.flatten_append]
    exact List.sublist_append_left ..
  exact ⟨pre.nodup nd, by have := pre.length_le; omega⟩
section
variable {n : Nat} {h : LH} {Q : QD} {e : EX}
theorem check_s {m : N} (R : Right m) (k : Q .non h) : CF (PP ζ) TB (n + 6) 7 [netD m] h Q e := by
  refine CF_of (fn := ⟨1, 7, w_check⟩) rfl rfl ?_; dsimp only; unfold w_check
  simp_arith only [PF_cf]
  refine shape_s R ?_
  simp_arith only [netD, PF_cf, PF_ca, prmC_ca, PF_fa, prmC_fa, lkK, lkF, lkN, at_0, at_1, at_2, at_3, at_4, at_5, PF_gc, gMo]
  refine Loop_of (fun i ρ h' => ρ = [some (netD m), none, none, none, none, none, none] ∧ h' = h) ⟨(by first | rfl | trivial), rfl⟩ ?_ ?_
  · rintro i d ρ h' hd ⟨rfl, rfl⟩
    obtain ⟨x, hx, rfl⟩ := enum_get hd
    obtain ⟨hi, rfl⟩ := part_get hx
    have mi := R.many i hi
    have gt : decide ((most i : Int) < ((partL m i).length : Int)) = false := decide_eq_false (by rw [partL_len]; omega)
    refine AND_of ?_ ?_
    · trivial
    simp_arith only [most_at hi, gt, PF_cf, PF_ca, prmC_ca, PF_fa, prmC_fa, lkK, lkF, lkN, at_0, at_1, at_2, at_3, at_4, at_5, PF_gc, gMo]
    refine ⟨trivial, ?_⟩
    refine br_of (fun z => ?_) (fun z => ?_)
    · have z : i = 2 := by have := of_decide_eq_true z; omega
      subst z
      simp_arith only [partL, eq_strs R.cls, PF_cf, PF_ca, prmC_ca, PF_fa, prmC_fa, lkK, lkF, lkN, at_0, at_1, at_2, at_3, at_4, at_5, PF_gc, gMo]
      exact ⟨trivial, trivial⟩
    · simp_arith only [PF_cf, PF_ca, prmC_ca, PF_fa, prmC_fa, lkK, lkF, lkN, at_0, at_1, at_2, at_3, at_4, at_5, PF_gc, gMo]
      exact ⟨trivial, trivial⟩
  rintro ρ h0 ⟨rfl, rfl⟩
  simp_arith only [netD, PF_cf, PF_ca, prmC_ca, PF_fa, prmC_fa, lkK, lkF, lkN, at_0, at_1, at_2, at_3, at_4, at_5, PF_gc, gMo]
  refine New_of fun b hb => ?_
  simp_arith only [PF_cf, PF_ca, prmC_ca, PF_fa, prmC_fa, lkK, lkF, lkN, at_0, at_1, at_2, at_3, at_4, at_5, PF_gc, gMo]
  refine init_s hb fun ks f h1 c => ?_
  have ci := c.ins
  simp_arith only [PF_cf, PF_ca, prmC_ca, PF_fa, prmC_fa, ci, lkK, lkF, lkN, at_0, at_1, at_2, at_3, at_4, at_5, PF_gc, gMo]
  refine ⟨trivial, AND_of ⟨trivial, rfl⟩ ?_⟩
  simp_arith only [PF_cf, PF_ca, prmC_ca, PF_fa, prmC_fa, ci, lkK, lkF, lkN, at_0, at_1, at_2, at_3, at_4, at_5, PF_gc, gMo]
  refine AND_of ⟨trivial, rfl⟩ ?_
  simp_arith only [PF_cf, PF_ca, prmC_ca, PF_fa, prmC_fa, ci, lkK, lkF, lkN, at_0, at_1, at_2, at_3, at_4, at_5, PF_gc, gMo]
  refine AND_of ⟨trivial, rfl⟩ ?_
  simp_arith only [PF_cf, PF_ca, prmC_ca, PF_fa, prmC_fa, ci, lkK, lkF, lkN, at_0, at_1, at_2, at_3, at_4, at_5, PF_gc, gMo]
  refine AND_of ⟨trivial, rfl⟩ ?_
  simp_arith only [PF_cf, PF_ca, prmC_ca, PF_fa, prmC_fa, ci, lkK, lkF, lkN, at_0, at_1, at_2, at_3, at_4, at_5, PF_gc, gMo]
  refine AND_of ⟨trivial, rfl⟩ ?_
  simp_arith only [PF_cf, PF_ca, prmC_ca, PF_fa, prmC_fa, ci, lkK, lkF, lkN, at_0, at_1, at_2, at_3, at_4, at_5, PF_gc, gMo]
  simp_arith only [netD, PF_cf, PF_ca, prmC_ca, PF_fa, prmC_fa, ci, lkK, lkF, lkN, at_0, at_1, at_2, at_3, at_4, at_5, PF_gc, gMo]
  refine Loop_of (fun i ρ h' => CK (ζ.1 1) m h0 h' b f ks (knA m i) (fwJ m i 0) ∧ ρ = [some (netD m), none, none, some (.ref b), some (visD ζ b), none, none]) ⟨c, (by first | rfl | trivial)⟩ ?_ ?_
  · rintro i d ρ h2 hd ⟨c, rfl⟩
    obtain ⟨x, hx, rfl⟩ := enum_get hd
    obtain ⟨hi, rfl⟩ := part_get hx
    clear ci
    have ci := c.ins
    refine AND_of trivial ?_
    simp_arith only [visD, PF_cf, PF_ca, prmC_ca, PF_fa, prmC_fa, ci, lkK, lkF, lkN, at_0, at_1, at_2, at_3, at_4, at_5, PF_gc, gMo]
    refine ⟨trivial, ?_⟩
    refine Loop_of (fun j ρ h' => CK (ζ.1 1) m h0 h' b f ks (kset (knA m i) i (kvN ((nms m i).take j))) (fwJ m i j) ∧ ρ = [some (netD m), some (.int (i : Int)), some (.tup (partL m i)), some (.ref b), some (visD ζ b), none, none]) ⟨?_, (by first | rfl | trivial)⟩ ?_ ?_
    · rw [List.take_zero, kset_self (by unfold knA kvN; simp)]; exact c
    · rintro j d ρ h3 hd ⟨c3, rfl⟩
      obtain ⟨x, hxj, rfl⟩ := enum_get hd
      clear ci
      have ci := c3.ins
      refine AND_of trivial ?_
      obtain rfl | rfl | rfl | rfl | rfl | rfl : i = 0 ∨ i = 1 ∨ i = 2 ∨ i = 3 ∨ i = 4 ∨ i = 5 := by omega
      · obtain ⟨r, hr, rfl⟩ := get_map (f := stD) (l := m.st) hxj
        have hm := List.mem_of_getElem? hr
        have hn : (nms m 0)[j]? = some r.nm := by
          first
          | exact hr
          | (show (m.st.map (·.nm))[j]? = _; rw [List.getElem?_map, hr]; rfl)
        obtain ⟨lj, l1000, fresh, ok, tk⟩ := nm_at R hi hn
        simp_arith only [visD, partL, stD, PF_cf, PF_ca, prmC_ca, PF_fa, prmC_fa, ci, lkK, lkF, lkN, at_0, at_1, at_2, at_3, at_4, at_5, PF_gc, gMo]
        refine ⟨trivial, AND_of ⟨trivial, rfl⟩ ?_⟩
        simp_arith only [visD, partL, stD, PF_cf, PF_ca, prmC_ca, PF_fa, prmC_fa, ci, lkK, lkF, lkN, at_0, at_1, at_2, at_3, at_4, at_5, PF_gc, gMo]
        refine br_of (fun z => absurd z (by decide)) fun _ => ?_
        simp_arith only [visD, partL, stD, PF_cf, PF_ca, prmC_ca, PF_fa, prmC_fa, ci, lkK, lkF, lkN, at_0, at_1, at_2, at_3, at_4, at_5, PF_gc, gMo]
        refine named2_s (q := 0) c3 rfl (by rw [lj]) (by decide) (by unfold kset; rw [if_pos rfl]) fresh l1000 ok fun h4 c4 => ?_
        rw [kset_kset, ← tk] at c4
        clear ci
        have ci := c4.ins
        simp_arith only [visD, partL, PF_cf, PF_ca, prmC_ca, PF_fa, prmC_fa, ci, lkK, lkF, lkN, at_0, at_1, at_2, at_3, at_4, at_5, PF_gc, gMo]
        refine CvX_of 32 (by decide) rfl ?_
        simp_arith only [visD, partL, PF_cf, PF_ca, prmC_ca, PF_fa, prmC_fa, ci, lkK, lkF, lkN, at_0, at_1, at_2, at_3, at_4, at_5, PF_gc, gMo]
        refine station_s (s := r) c4 (R.st r hm).1 (R.st r hm).2 ?_
        exact ⟨c4, (by first | rfl | trivial)⟩
      · obtain ⟨r, hr, rfl⟩ := get_map (f := tyD) (l := m.ty) hxj
        have hm := List.mem_of_getElem? hr
        have hn : (nms m 1)[j]? = some r.nm := by
          first
          | exact hr
          | (show (m.ty.map (·.nm))[j]? = _; rw [List.getElem?_map, hr]; rfl)
        obtain ⟨lj, l1000, fresh, ok, tk⟩ := nm_at R hi hn
        simp_arith only [visD, partL, tyD, PF_cf, PF_ca, prmC_ca, PF_fa, prmC_fa, ci, lkK, lkF, lkN, at_0, at_1, at_2, at_3, at_4, at_5, PF_gc, gMo]
        refine ⟨trivial, AND_of ⟨trivial, rfl⟩ ?_⟩
        simp_arith only [visD, partL, tyD, PF_cf, PF_ca, prmC_ca, PF_fa, prmC_fa, ci, lkK, lkF, lkN, at_0, at_1, at_2, at_3, at_4, at_5, PF_gc, gMo]
        refine br_of (fun z => absurd z (by decide)) fun _ => ?_
        simp_arith only [visD, partL, tyD, PF_cf, PF_ca, prmC_ca, PF_fa, prmC_fa, ci, lkK, lkF, lkN, at_0, at_1, at_2, at_3, at_4, at_5, PF_gc, gMo]
        refine named2_s (q := 1) c3 rfl (by rw [lj]) (by decide) (by unfold kset; rw [if_pos rfl]) fresh l1000 ok fun h4 c4 => ?_
        rw [kset_kset, ← tk] at c4
        clear ci
        have ci := c4.ins
        simp_arith only [visD, partL, PF_cf, PF_ca, prmC_ca, PF_fa, prmC_fa, ci, lkK, lkF, lkN, at_0, at_1, at_2, at_3, at_4, at_5, PF_gc, gMo]
        refine CvX_of 33 (by decide) rfl ?_
        simp_arith only [visD, partL, PF_cf, PF_ca, prmC_ca, PF_fa, prmC_fa, ci, lkK, lkF, lkN, at_0, at_1, at_2, at_3, at_4, at_5, PF_gc, gMo]
        refine kind_s (s := r) c4 (R.ty r hm).1 (R.ty r hm).2 ?_
        exact ⟨c4, (by first | rfl | trivial)⟩
      · obtain ⟨r, hr, rfl⟩ := get_map (f := D.str) (l := m.cl) hxj
        have hm := List.mem_of_getElem? hr
        have hn : (nms m 2)[j]? = some r := by
          first
          | exact hr
          | (show (m.cl.map (·.nm))[j]? = _; rw [List.getElem?_map, hr]; rfl)
        obtain ⟨lj, l1000, fresh, ok, tk⟩ := nm_at R hi hn
        simp_arith only [visD, partL, PF_cf, PF_ca, prmC_ca, PF_fa, prmC_fa, ci, lkK, lkF, lkN, at_0, at_1, at_2, at_3, at_4, at_5, PF_gc, gMo]
        refine ⟨trivial, AND_of ⟨trivial, rfl⟩ ?_⟩
        simp_arith only [visD, partL, PF_cf, PF_ca, prmC_ca, PF_fa, prmC_fa, ci, lkK, lkF, lkN, at_0, at_1, at_2, at_3, at_4, at_5, PF_gc, gMo]
        refine br_of (fun _ => ?_) fun z => absurd z (by decide)
        simp_arith only [visD, partL, PF_cf, PF_ca, prmC_ca, PF_fa, prmC_fa, ci, lkK, lkF, lkN, at_0, at_1, at_2, at_3, at_4, at_5, PF_gc, gMo]
        refine named2_s (q := 2) c3 rfl (by rw [lj]) (by decide) (by unfold kset; rw [if_pos rfl]) fresh l1000 ok fun h4 c4 => ?_
        rw [kset_kset, ← tk] at c4
        simp_arith only [visD, partL, PF_cf, PF_ca, prmC_ca, PF_fa, prmC_fa, ci, lkK, lkF, lkN, at_0, at_1, at_2, at_3, at_4, at_5, PF_gc, gMo]
        exact ⟨c4, (by first | rfl | trivial)⟩
      · obtain ⟨r, hr, rfl⟩ := get_map (f := flD) (l := m.fl) hxj
        have hm := List.mem_of_getElem? hr
        have hn : (nms m 3)[j]? = some r.nm := by
          first
          | exact hr
          | (show (m.fl.map (·.nm))[j]? = _; rw [List.getElem?_map, hr]; rfl)
        obtain ⟨lj, l1000, fresh, ok, tk⟩ := nm_at R hi hn
        simp_arith only [visD, partL, flD, PF_cf, PF_ca, prmC_ca, PF_fa, prmC_fa, ci, lkK, lkF, lkN, at_0, at_1, at_2, at_3, at_4, at_5, PF_gc, gMo]
        refine ⟨trivial, AND_of ⟨trivial, rfl⟩ ?_⟩
        simp_arith only [visD, partL, flD, PF_cf, PF_ca, prmC_ca, PF_fa, prmC_fa, ci, lkK, lkF, lkN, at_0, at_1, at_2, at_3, at_4, at_5, PF_gc, gMo]
        refine br_of (fun z => absurd z (by decide)) fun _ => ?_
        simp_arith only [visD, partL, flD, PF_cf, PF_ca, prmC_ca, PF_fa, prmC_fa, ci, lkK, lkF, lkN, at_0, at_1, at_2, at_3, at_4, at_5, PF_gc, gMo]
        refine named2_s (q := 3) c3 rfl (by rw [lj]) (by decide) (by unfold kset; rw [if_pos rfl]) fresh l1000 ok fun h4 c4 => ?_
        rw [kset_kset, ← tk] at c4
        clear ci
        have ci := c4.ins
        simp_arith only [visD, partL, PF_cf, PF_ca, prmC_ca, PF_fa, prmC_fa, ci, lkK, lkF, lkN, at_0, at_1, at_2, at_3, at_4, at_5, PF_gc, gMo]
        refine CvX_of 35 (by decide) rfl ?_
        simp_arith only [visD, partL, PF_cf, PF_ca, prmC_ca, PF_fa, prmC_fa, ci, lkK, lkF, lkN, at_0, at_1, at_2, at_3, at_4, at_5, PF_gc, gMo]
        refine flight_s (r := r) c4 R hm rfl rfl ?_
        exact ⟨c4, (by first | rfl | trivial)⟩
      · obtain ⟨r, hr, rfl⟩ := get_map (f := taD) (l := m.ta) hxj
        have hm := List.mem_of_getElem? hr
        have hn : (nms m 4)[j]? = some r.nm := by
          first
          | exact hr
          | (show (m.ta.map (·.nm))[j]? = _; rw [List.getElem?_map, hr]; rfl)
        obtain ⟨lj, l1000, fresh, ok, tk⟩ := nm_at R hi hn
        simp_arith only [visD, partL, taD, PF_cf, PF_ca, prmC_ca, PF_fa, prmC_fa, ci, lkK, lkF, lkN, at_0, at_1, at_2, at_3, at_4, at_5, PF_gc, gMo]
        refine ⟨trivial, AND_of ⟨trivial, rfl⟩ ?_⟩
        simp_arith only [visD, partL, taD, PF_cf, PF_ca, prmC_ca, PF_fa, prmC_fa, ci, lkK, lkF, lkN, at_0, at_1, at_2, at_3, at_4, at_5, PF_gc, gMo]
        refine br_of (fun z => absurd z (by decide)) fun _ => ?_
        simp_arith only [visD, partL, taD, PF_cf, PF_ca, prmC_ca, PF_fa, prmC_fa, ci, lkK, lkF, lkN, at_0, at_1, at_2, at_3, at_4, at_5, PF_gc, gMo]
        refine named2_s (q := 4) c3 rfl (by rw [lj]) (by decide) (by unfold kset; rw [if_pos rfl]) fresh l1000 ok fun h4 c4 => ?_
        rw [kset_kset, ← tk] at c4
        clear ci
        have ci := c4.ins
        have fw1 := fwJ4 (m := m) (j := j) hr
        have fw2 := flat_pre R hr
        simp_arith only [visD, partL, PF_cf, PF_ca, prmC_ca, PF_fa, prmC_fa, ci, lkK, lkF, lkN, at_0, at_1, at_2, at_3, at_4, at_5, PF_gc, gMo]
        refine CvX_of 36 (by decide) rfl ?_
        simp_arith only [visD, partL, PF_cf, PF_ca, prmC_ca, PF_fa, prmC_fa, ci, lkK, lkF, lkN, at_0, at_1, at_2, at_3, at_4, at_5, PF_gc, gMo]
        refine tail_s (t := r) c4 R hm rfl rfl fw2.1 fw2.2 fun h5 c5 => ?_
        exact ⟨by rw [fw1]; exact c5, (by first | rfl | trivial)⟩
      · obtain ⟨r, hr, rfl⟩ := get_map (f := faD) (l := m.fa) hxj
        have hm := List.mem_of_getElem? hr
        have hn : (nms m 5)[j]? = some r.nm := by
          first
          | exact hr
          | (show (m.fa.map (·.nm))[j]? = _; rw [List.getElem?_map, hr]; rfl)
        obtain ⟨lj, l1000, fresh, ok, tk⟩ := nm_at R hi hn
        simp_arith only [visD, partL, faD, PF_cf, PF_ca, prmC_ca, PF_fa, prmC_fa, ci, lkK, lkF, lkN, at_0, at_1, at_2, at_3, at_4, at_5, PF_gc, gMo]
        refine ⟨trivial, AND_of ⟨trivial, rfl⟩ ?_⟩
        simp_arith only [visD, partL, faD, PF_cf, PF_ca, prmC_ca, PF_fa, prmC_fa, ci, lkK, lkF, lkN, at_0, at_1, at_2, at_3, at_4, at_5, PF_gc, gMo]
        refine br_of (fun z => absurd z (by decide)) fun _ => ?_
        simp_arith only [visD, partL, faD, PF_cf, PF_ca, prmC_ca, PF_fa, prmC_fa, ci, lkK, lkF, lkN, at_0, at_1, at_2, at_3, at_4, at_5, PF_gc, gMo]
        refine named2_s (q := 5) c3 rfl (by rw [lj]) (by decide) (by unfold kset; rw [if_pos rfl]) fresh l1000 ok fun h4 c4 => ?_
        rw [kset_kset, ← tk] at c4
        clear ci
        have ci := c4.ins
        simp_arith only [visD, partL, PF_cf, PF_ca, prmC_ca, PF_fa, prmC_fa, ci, lkK, lkF, lkN, at_0, at_1, at_2, at_3, at_4, at_5, PF_gc, gMo]
        refine CvX_of 37 (by decide) rfl ?_
        simp_arith only [visD, partL, PF_cf, PF_ca, prmC_ca, PF_fa, prmC_fa, ci, lkK, lkF, lkN, at_0, at_1, at_2, at_3, at_4, at_5, PF_gc, gMo]
        refine fare_s (r := r) c4 R hm rfl rfl ?_
        exact ⟨c4, (by first | rfl | trivial)⟩
    · rintro ρ h3 ⟨c3, rfl⟩
      refine AND_of trivial ?_
      have el : (enumL (partL m i)).length = (nms m i).length := by unfold enumL; rw [List.length_mapIdx, partL_len]
      rw [el, List.take_length, knA_succ, fwJ_end] at c3
      simp_arith only [PF_cf, PF_ca, prmC_ca, PF_fa, prmC_fa, ci, lkK, lkF, lkN, at_0, at_1, at_2, at_3, at_4, at_5, PF_gc, gMo]
      exact ⟨c3, (by first | rfl | trivial)⟩
  · rintro ρ h2 ⟨c2, rfl⟩
    refine AND_of trivial ?_
    have el : (enumL (netL m)).length = 6 := rfl
    rw [el] at c2
    clear ci
    have ci := c2.ins
    have cf := c2.fl
    have cf : h2 f = some (.dct (kvF (flat m))) := cf
    simp_arith only [netD, netL, PF_cf, PF_ca, prmC_ca, PF_fa, prmC_fa, ci, lkK, lkF, lkN, at_0, at_1, at_2, at_3, at_4, at_5, PF_gc, gMo]
    refine Loop_of (fun i ρ h' => ρ = [some (.tup (netL m)), none, none, some (.ref b), some (visD ζ b), none, none] ∧ h' = h2) ⟨(by first | rfl | trivial), rfl⟩ ?_ ?_
    · rintro i d ρ h3 hd ⟨rfl, rfl⟩
      obtain ⟨x, hx, rfl⟩ := enum_get hd
      obtain ⟨r, hr, rfl⟩ := get_map hx
      have hin : r.nm ∈ flat m := R.flown.mem_iff.mpr (List.mem_map_of_mem (f := (·.nm)) (List.mem_of_getElem? hr))
      refine AND_of trivial ?_
      simp_arith only [flD, PF_cf, PF_ca, prmC_ca, PF_fa, prmC_fa, ci, lkK, lkF, lkN, at_0, at_1, at_2, at_3, at_4, at_5, PF_gc, gMo, notin_dct cf, look_kvF, decide_eq_true hin]
      exact ⟨trivial, (by first | rfl | trivial), trivial⟩
    · rintro ρ h3 ⟨rfl, rfl⟩
      refine AND_of trivial ?_
      simp_arith only [PF_cf, PF_ca, prmC_ca, PF_fa, prmC_fa, ci, lkK, lkF, lkN, at_0, at_1, at_2, at_3, at_4, at_5, PF_gc, gMo]
      exact Done_sub c2.sub k
end
end K72

namespace K72
open PySem Lg Net
open L2 (atI ixN)
set_option checkBinderAnnotations false
variable {ζ : Ad}
theorem tbT : TB 14 = some ⟨3, 4, w_take 13⟩ := rfl
theorem tbM : TB 13 = some ⟨2, 4, w_more⟩ := rfl
theorem tbO : TB 15 = some ⟨3, 3, w_one 14⟩ := rfl
theorem tbD : TB 12 = some ⟨1, 6, w_draws⟩ := rfl
section
variable {n : Nat} {h : LH} {Q : QD} {e : EX}
theorem takeC {is : List Int} {a : Addr} {p many : Int} (ha : h a = some (.lst [.int p])) (hp : 0 ≤ p) (hm : 0 < many)
    (k : ∀ r, 0 ≤ r → r < many → Q (.int r) (put h a (.lst [.int (p + 1)]))) : @Call (Box.mk (PP ζ)) (Box.mk TB) (n + 2) 14 [.lst (is.map D.int), .ref a, .int many] h (Box.mk Q) (Box.mk e) := take_s tbT tbM ha hp hm k
theorem oneC {is : List Int} {a : Addr} {p : Int} {ds : List D} (ha : h a = some (.lst [.int p])) (hp : 0 ≤ p) (hm : 0 < ds.length)
    (k : ∀ d, d ∈ ds → Q d (put h a (.lst [.int (p + 1)]))) : @Call (Box.mk (PP ζ)) (Box.mk TB) (n + 3) 15 [.lst ds, .lst (is.map D.int), .ref a] h (Box.mk Q) (Box.mk e) := one_s tbO tbT tbM ha hp hm k
/-- the heap of a drawing function: the place drawn from at a, local cells beside -/
structure Gn (a : Addr) (h h' : LH) (p : Int) : Prop where
  at_ : h' a = some (.lst [.int p])
  nn : 0 ≤ p
  sub : ∀ x c, x ≠ a → h x = some c → h' x = some c
theorem Gn.refl {a : Addr} {h : LH} {p : Int} (ha : h a = some (.lst [.int p])) (hp : 0 ≤ p) : Gn a h h p := ⟨ha, hp, fun _ _ _ e => e⟩
theorem Gn.mv {a : Addr} {h h' : LH} {p p' : Int} (g : Gn a h h' p) (hp : 0 ≤ p') : Gn a h (put h' a (.lst [.int p'])) p' := ⟨put_same, hp, fun x c n e => by rw [put_ne n]; exact g.sub x c n e⟩
theorem Gn.loc {a b : Addr} {h h' : LH} {p : Int} {c : Cell} (g : Gn a h h' p) (hb : h b = none) (n : b ≠ a) : Gn a h (put h' b c) p := ⟨by rw [put_ne n.symm]; exact g.at_, g.nn, fun x d nx e => by
  rw [put_ne (fun q => by rw [q, hb] at e; cases e)]; exact g.sub x d nx e⟩
theorem Gn.none {a b : Addr} {h h' : LH} {p : Int} (g : Gn a h h' p) (hb : h' b = none) : h b = none ∧ b ≠ a := by
  have n : b ≠ a := fun q => by rw [q, g.at_] at hb; cases hb
  refine ⟨?_, n⟩
  cases q : h b with
  | none => rfl
  | some c => rw [g.sub b c n q] at hb; cases hb
theorem Gn.back {a : Addr} {h h' : LH} {p : Int} (g : Gn a h h' p) : Sub (put h a (.lst [.int p])) h' := fun x c e => by
  by_cases q : x = a
  · subst q; rw [put_same] at e; rw [← e]; exact g.at_
  · rw [put_ne q] at e; exact g.sub x c q e
theorem Gn.get {a b : Addr} {h h' : LH} {p : Int} {c : Cell} (g : Gn a h h' p) (hb : h' b = some c) (n : b ≠ a) {d : Cell} : (put h' a d) b = some c := by rw [put_ne n]; exact hb
theorem limits_s {is : List Int} {a : Addr} {p seats : Int} {cnt : Nat} (ha : h a = some (.lst [.int p])) (hp : 0 ≤ p) (h1 : 0 ≤ seats) (h2 : seats ≤ 1000) (hc : cnt ≤ 6)
    (k : ∀ (l : List Int) (p' : Int), l.length = cnt → (∀ x ∈ l, 0 ≤ x ∧ x ≤ 999) → l.Pairwise (· ≥ ·) → 0 ≤ p' → Q (.tup (l.map .int)) (put h a (.lst [.int p']))) :
    CF (PP ζ) TB (n + 3) 16 [.int seats, .int (cnt : Int), .lst (is.map D.int), .ref a] h Q e := by
  have g := Gn.refl ha hp
  refine CF_of (fn := ⟨4, 7, w__law_limits⟩) rfl rfl ?_; dsimp only; unfold w__law_limits
  simp_arith only [PF_cf]
  refine New_of fun b hb => ?_
  have nb := (g.none hb).2
  have g1 := g.loc (c := .lst []) hb nb
  simp_arith only [PF_cf]
  refine takeC g1.at_ hp (by decide) fun r r0 r1 => ?_
  have g2 := g1.mv (p' := p + 1) (by omega)
  have gb : put (put h b (.lst [])) a (.lst [.int (p + 1)]) b = some (.lst []) := g1.get put_same nb
  generalize put (put h b (.lst [])) a (.lst [.int (p + 1)]) = H at *
  simp_arith only [PF_cf]
  refine AND_of (by omega) ?_
  refine Loop_of (fun i ρ h' => ∃ (l : List Int) (most p' : Int), l.length = i ∧ (∀ x ∈ l, most ≤ x ∧ x ≤ 999) ∧ l.Pairwise (· ≥ ·) ∧ 0 ≤ most ∧ most ≤ 999 ∧ ρ = [some (.int seats), some (.int (cnt : Int)), some (.lst (is.map D.int)), some (.ref a), some (.ref b), some (.int most), none] ∧ h' b = some (.lst (l.map .int)) ∧ Gn a h h' p') ⟨[], (if seats + r < 999 then seats + r else 999), p + 1, rfl, nofun, List.Pairwise.nil, by split <;> omega, by split <;> omega, (by first | rfl | trivial), gb, g2⟩ ?_ ?_
  · rintro i d ρ h' hd ⟨l, most, p', hl, hx, pw, m0, m1, rfl, hlb, g3⟩
    obtain ⟨hi, rfl⟩ := rngL_get hd
    simp_arith only [hlb, PF_cf]
    refine AND_of (by unfold sizeLine; omega) ?_
    have g4 := g3.loc (c := .lst (l.map .int ++ [.int most])) hb nb
    simp_arith only [hlb, PF_cf]
    refine takeC g4.at_ g4.nn (by split <;> omega) fun r r0 r1 => ?_
    simp_arith only [PF_cf]
    have q0 : 0 ≤ r / 2 := by omega
    have q1 : r / 2 ≤ most := by
      have : r < 1 + if most > 1 then most else 1 := r1
      split at this <;> omega
    have g5 := g4.mv (p' := p' + 1) (by have := g3.nn; omega)
    refine ⟨l ++ [most], _, p' + 1, by simp [hl], fun x hx' => ?_, ?_, ?_, ?_, rfl, ?_, g5⟩
    · rcases List.mem_append.mp hx' with q | q
      · have := hx x q
        split <;> omega
      · rw [List.mem_singleton.mp q]
        split <;> omega
    · refine List.pairwise_append.mpr ⟨pw, by simp, fun x hx' y hy => ?_⟩
      rw [List.mem_singleton.mp hy]
      exact (hx x hx').1
    · split <;> omega
    · split <;> omega
    · rw [g4.get put_same nb, List.map_append]; rfl
  · rintro ρ h' ⟨l, most, p', hl, hx, pw, m0, m1, rfl, hlb, g3⟩
    rw [rngL_len] at hl
    simp_arith only [hlb]
    exact Done_sub g3.back (k l p' (by omega) (fun x h => by have := hx x h; omega) pw g3.nn)
end
end K72

namespace Net
open PySem Lg
inductive chE (L : List Fl) (t : Str) (turn : Int) : List Str → Option Fl → Prop
  | nil : chE L t turn [] none
  | snoc {l : List Str} {o : Option Fl} {f : Fl} : chE L t turn l o → f ∈ L → f.ty = t → (∀ g, o = some g → g.b = f.a ∧ g.ar + turn ≤ f.dp) → chE L t turn (l ++ [f.nm]) (some f)
theorem chE.mono {L L' : List Fl} {t : Str} {turn : Int} {l : List Str} {o : Option Fl} (h : chE L t turn l o) (s : ∀ f ∈ L, f ∈ L') : chE L' t turn l o := by
  induction h with
  | nil => exact .nil
  | snoc _ h1 h2 h3 ih => exact .snoc ih (s _ h1) h2 h3
theorem chE.chain {n : N} {k t : Str} {turn : Int} {l : List Str} {o : Option Fl} (h : chE n.fl t turn l o) : ∀ rest, Net.chain n k t turn o rest → Net.chain n k t turn none (l ++ rest) := by
  induction h with
  | nil => intro rest h; exact h
  | @snoc l o f _ h1 h2 h3 ih =>
    intro rest h
    rw [List.append_assoc]
    exact ih _ ⟨f, h1, rfl, h2, h3, h⟩
def base : List Str := ["AAA", "BB", "C_1", "Dd", "E", "FFFFFFFFFFFF"]
def cbase : List Str := ["Y", "B", "K", "Q"]
def nmK (s : String) (k : Nat) : Str := (s : Str) ++ ((toString (k : Int) : String) : Str)
def nmKJ (s : String) (k j : Nat) : Str := nmK s k ++ ((toString (j : Int) : String) : Str)
def nmF (us : Bool) (k j : Nat) : Str := if us then nmK "f" k ++ ("_" : Str) ++ ((toString (j : Int) : String) : Str) else nmKJ "f" k j
theorem base_ok : base.Nodup ∧ ∀ s ∈ base, okNm s = true := by decide +kernel
def stN : List Str := base ++ (["A", "B", "C"] : List Str)
def tyN : List Str := (List.range 3).map (nmK "T") ++ (["T", "U", "S"] : List Str)
theorem stN_ok : ∀ s ∈ stN, okNm s = true := by decide +kernel
theorem tyN_ok : ∀ s ∈ tyN, okNm s = true := by decide +kernel
theorem cbase_ok : cbase.Nodup ∧ ∀ s ∈ cbase, okNm s = true := by decide +kernel
theorem T_ok : ((List.range 3).map (nmK "T")).Nodup ∧ ∀ s ∈ (List.range 3).map (nmK "T"), okNm s = true := by decide +kernel
theorem N_ok : ((List.range 9).map (nmK "N")).Nodup ∧ ∀ s ∈ (List.range 9).map (nmK "N"), okNm s = true := by decide +kernel
theorem r_ok : ((List.range 9).map (nmK "r")).Nodup ∧ ∀ s ∈ (List.range 9).map (nmK "r"), okNm s = true := by decide +kernel
theorem f_ok : ∀ us : Bool, ∀ k, k < 9 → ∀ j, j < 5 → okNm (nmF us k j) = true := by decide +kernel
def prs : List (Nat × Nat) := (List.range 9).flatMap fun k => (List.range 5).map fun j => (k, j)
theorem f_inj0 : ∀ us : Bool, ∀ x ∈ prs, ∀ y ∈ prs, nmF us x.1 x.2 = nmF us y.1 y.2 → x = y := by decide +kernel
theorem prs_in {k j : Nat} (hk : k < 9) (hj : j < 5) : (k, j) ∈ prs := List.mem_flatMap.mpr ⟨k, List.mem_range.mpr hk, List.mem_map.mpr ⟨j, List.mem_range.mpr hj, rfl⟩⟩
theorem f_inj {us : Bool} {k j k' j' : Nat} (h1 : k < 9) (h2 : j < 5) (h3 : k' < 9) (h4 : j' < 5) (e : nmF us k j = nmF us k' j') : k = k' ∧ j = j' := by
  have := f_inj0 us _ (prs_in h1 h2) _ (prs_in h3 h4) e
  cases this; exact ⟨rfl, rfl⟩
theorem nm_log {k : Nat} (h : k < 100) : (k : Int).natAbs.log2 < 1920 := Nat.lt_of_le_of_lt (Nat.log2_le_self _) (by omega)
theorem nm_fit : ∀ k, k < 100 → ((toString ((k : Nat) : Int) : String) : Str).length ≤ 10 := by decide +kernel
theorem nm_fit1 : ∀ k, k < 100 → ("T" : Str).length + ((toString ((k : Nat) : Int) : String) : Str).length ≤ 10 := by decide +kernel
/-- a net as the laws draw it near -/
structure Near (m : N) : Prop where
  st : ∀ s ∈ nms m 0, s ∈ stN
  stl : m.st.length ≤ 6
  ty : ∀ s ∈ nms m 1, s ∈ tyN
  tyl : m.ty.length ≤ 3
  cl : ∀ s ∈ m.cl, s ∈ cbase
  cll : m.cl.length ≤ 4
  fl : ∀ s ∈ nms m 3, ∃ us k j, k < 9 ∧ j < 5 ∧ s = nmF us k j
  fll : m.fl.length ≤ 40
  ta : ∀ s ∈ nms m 4, s ∈ (List.range 9).map (nmK "N")
  tal : m.ta.length ≤ 9
  fal : m.fa.length ≤ 8
  st2 : 2 ≤ m.st.length
  ty1 : 1 ≤ m.ty.length
end Net
namespace Net
open PySem Lg
structure FlOk (nm : List Str) (T : List Ty) (cc : Nat) (r : Fl) : Prop where
  ends : r.a ∈ nm ∧ r.b ∈ nm ∧ r.a ≠ r.b
  times : 0 ≤ r.dp ∧ r.dp < r.ar ∧ r.ar ≤ 20160
  ty : r.ty ∈ T.map (·.nm)
  pr : 1 ≤ r.pr ∧ r.pr ≤ 20000
  ll : r.lim.length = cc
  lr : ∀ x ∈ r.lim, 0 ≤ x ∧ x ≤ 999
  lp : r.lim.Pairwise (· ≥ ·)
structure FS (us : Bool) (nm : List Str) (T : List Ty) (cc K J : Nat) (fls : List Fl) : Prop where
  ok : ∀ r ∈ fls, FlOk nm T cc r
  nm : ∀ r ∈ fls, ∃ k j, j < 5 ∧ (k < K ∨ (k = K ∧ j < J)) ∧ r.nm = nmF us k j
  nd : (fls.map (·.nm)).Nodup
  len : fls.length ≤ 5 * K + J
theorem FS.next {us : Bool} {nm : List Str} {T : List Ty} {cc K J : Nat} {fls : List Fl} (s : FS us nm T cc K J fls) (hJ : J ≤ 5) : FS us nm T cc (K + 1) 0 fls :=
  ⟨s.ok, fun r hr => by
    obtain ⟨k, j, h1, h2, h3⟩ := s.nm r hr
    exact ⟨k, j, h1, .inl (by omega), h3⟩, s.nd, by have := s.len; omega⟩
theorem FS.snoc {us : Bool} {nm : List Str} {T : List Ty} {cc K J : Nat} {fls : List Fl} {r : Fl} (s : FS us nm T cc K J fls) (hK : K < 9) (hJ : J < 5) (ok : FlOk nm T cc r) (hn : r.nm = nmF us K J) : FS us nm T cc K (J + 1) (fls ++ [r]) := by
  refine ⟨fun x hx => ?_, fun x hx => ?_, ?_, by have := s.len; simp; omega⟩
  · rcases List.mem_append.mp hx with q | q
    · exact s.ok x q
    · rw [List.mem_singleton.mp q]; exact ok
  · rcases List.mem_append.mp hx with q | q
    · obtain ⟨k, j, h1, h2, h3⟩ := s.nm x q
      exact ⟨k, j, h1, by omega, h3⟩
    · rw [List.mem_singleton.mp q]; exact ⟨K, J, hJ, by omega, hn⟩
  · rw [List.map_append, List.nodup_append]
    refine ⟨s.nd, by simp, fun a ha b hb e => ?_⟩
    obtain ⟨x, hx, rfl⟩ := List.mem_map.mp ha
    have hb : b = r.nm := by simpa using hb
    obtain ⟨k, j, h1, h2, h3⟩ := s.nm x hx
    rw [hb, h3, hn] at e
    obtain ⟨e1, e2⟩ := f_inj (by omega) h1 hK hJ e
    omega
structure TS (T : List Ty) (K : Nat) (fls : List Fl) (tas : List Ta) (row : List Str) : Prop where
  nm : tas.map (·.nm) = (List.range K).map (nmK "N")
  ok : ∀ t ∈ tas, ∃ y ∈ T, y.nm = t.ty ∧ ∃ o, chE fls t.ty y.t t.fl o
  fl : (tas.map (·.fl)).flatten ++ row = fls.map (·.nm)
theorem TS.leg {T : List Ty} {K : Nat} {fls : List Fl} {tas : List Ta} {row : List Str} {r : Fl} (s : TS T K fls tas row) : TS T K (fls ++ [r]) tas (row ++ [r.nm]) :=
  ⟨s.nm, fun t ht => by
    obtain ⟨y, h1, h2, o, h3⟩ := s.ok t ht
    exact ⟨y, h1, h2, o, h3.mono fun f hf => List.mem_append_left _ hf⟩, by rw [← List.append_assoc, s.fl, List.map_append]; rfl⟩
theorem TS.tail {T : List Ty} {K : Nat} {fls : List Fl} {tas : List Ta} {row : List Str} {y : Ty} {o : Option Fl} (s : TS T K fls tas row) (hy : y ∈ T) (c : chE fls y.nm y.t row o) : TS T (K + 1) fls (tas ++ [⟨nmK "N" K, y.nm, row⟩]) [] :=
  ⟨by rw [List.map_append, s.nm, List.range_succ, List.map_append]; rfl, fun t ht => by
    rcases List.mem_append.mp ht with q | q
    · exact s.ok t q
    · rw [List.mem_singleton.mp q]; exact ⟨y, hy, rfl, o, c⟩, by rw [List.append_nil, ← s.fl, List.map_append, List.flatten_append]; simp⟩
end Net

namespace Net
open PySem Lg
open L2 (atI ixN)
structure FaOk (nm cl : List Str) (f : Fa) : Prop where
  ends : f.a ∈ nm ∧ f.b ∈ nm ∧ f.a ≠ f.b
  cls : f.cl ∈ cl
  p : 0 ≤ f.p ∧ f.p ≤ 1000000
  x : 0 ≤ f.x ∧ f.x ≤ 3
  r : 0 ≤ f.r ∧ f.r ≤ 1000000
  o : 0 ≤ f.o ∧ f.o ≤ 100
theorem mk_net {nm cl : List Str} {L : List St} {T : List Ty} {fls fls' : List Fl} {tas : List Ta} {fas : List Fa} {us : Bool} {K kf : Nat}
    (e1 : L.map (·.nm) = nm) (nmB : ∀ s ∈ nm, s ∈ stN) (nmN : nm.Nodup) (nm2 : 2 ≤ nm.length ∧ nm.length ≤ 6) (e2 : ∀ s ∈ L, (-720 ≤ s.z ∧ s.z ≤ 840) ∧ (0 ≤ s.l ∧ s.l ≤ 600))
    (tN : (T.map (·.nm)).Nodup) (tB : ∀ s ∈ T.map (·.nm), s ∈ tyN) (hkt : 1 ≤ T.length ∧ T.length ≤ 3) (hT : ∀ t ∈ T, (1 ≤ t.s ∧ t.s ≤ 500) ∧ (0 ≤ t.t ∧ t.t ≤ 600))
    (clB : ∀ s ∈ cl, s ∈ cbase) (clN : cl.Nodup) (cl2 : 1 ≤ cl.length ∧ cl.length ≤ 4)
    (fs : FS us nm T cl.length K 0 fls) (hK : K ≤ 8) (ts : TS T K fls tas []) (pf : fls'.Perm fls)
    (ef : fas.map (·.nm) = (List.range kf).map (nmK "r")) (hkf : kf ≤ 8) (hf : ∀ f ∈ fas, FaOk nm cl f) : Right ⟨L, T, cl, fls', tas, fas⟩ ∧ Near ⟨L, T, cl, fls', tas, fas⟩ := by
  have lf : fas.length = kf := by have := congrArg List.length ef; simpa using this
  have lt : tas.length = K := by have := congrArg List.length ts.nm; simpa using this
  have lL : L.length = nm.length := by rw [← e1, List.length_map]
  have lF : fls'.length = fls.length := pf.length_eq
  have fsl := fs.len
  have pn : (fls'.map (·.nm)).Perm (fls.map (·.nm)) := pf.map _
  have sub1 : ∀ (s : String) (k n : Nat), k ≤ n → (∀ x ∈ (List.range n).map (nmK s), okNm x = true) → ((List.range n).map (nmK s)).Nodup → (∀ x ∈ (List.range k).map (nmK s), okNm x = true) ∧ ((List.range k).map (nmK s)).Nodup ∧ ∀ x ∈ (List.range k).map (nmK s), x ∈ (List.range n).map (nmK s) := fun s k n hk h1 h2 => by
    have sl : ((List.range k).map (nmK s)).Sublist ((List.range n).map (nmK s)) := (List.range_sublist.mpr hk).map _
    exact ⟨fun x hx => h1 x (sl.subset hx), h2.sublist sl, fun x hx => sl.subset hx⟩
  obtain ⟨N1, N2, N3⟩ := sub1 "N" K 9 (by omega) N_ok.2 N_ok.1
  obtain ⟨r1, r2, r3⟩ := sub1 "r" kf 9 (by omega) r_ok.2 r_ok.1
  refine ⟨{ many := ?_, cls := ?_, good := ?_, once := ?_, st := e2, ty := hT, fl := ?_, ta := ?_, flown := ?_, fa := ?_ }, { st := ?_, stl := by show L.length ≤ 6; omega, ty := ?_, tyl := by show T.length ≤ 3; omega, cl := clB, cll := cl2.2, fl := ?_, fll := by show fls'.length ≤ 40; omega, ta := ?_, tal := by show tas.length ≤ 9; omega, fal := by show fas.length ≤ 8; omega, st2 := by show 2 ≤ L.length; omega, ty1 := by show 1 ≤ T.length; omega }⟩
  · intro q hq
    obtain rfl | rfl | rfl | rfl | rfl | rfl : q = 0 ∨ q = 1 ∨ q = 2 ∨ q = 3 ∨ q = 4 ∨ q = 5 := by omega
    · show (L.map (·.nm)).length ≤ 12; rw [List.length_map]; omega
    · show (T.map (·.nm)).length ≤ 4; rw [List.length_map]; omega
    · show cl.length ≤ 6; omega
    · show (fls'.map (·.nm)).length ≤ 40; rw [List.length_map]; omega
    · show (tas.map (·.nm)).length ≤ 12; rw [List.length_map]; omega
    · show (fas.map (·.nm)).length ≤ 40; rw [List.length_map]; omega
  · intro e
    have : cl.length = 0 := by rw [show cl = [] from e]; rfl
    omega
  · intro q hq
    obtain rfl | rfl | rfl | rfl | rfl | rfl : q = 0 ∨ q = 1 ∨ q = 2 ∨ q = 3 ∨ q = 4 ∨ q = 5 := by omega
    · show ∀ s ∈ L.map (·.nm), _; rw [e1]; exact fun s hs => stN_ok s (nmB s hs)
    · exact fun s hs => tyN_ok s (tB s hs)
    · exact fun s hs => cbase_ok.2 s (clB s hs)
    · intro s hs
      obtain ⟨r, hr, rfl⟩ := List.mem_map.mp hs
      obtain ⟨k, j, h1, h2, h3⟩ := fs.nm r (pf.mem_iff.mp hr)
      rw [h3]; exact f_ok us k (by omega) j h1
    · show ∀ s ∈ tas.map (·.nm), _; rw [ts.nm]; exact N1
    · show ∀ s ∈ fas.map (·.nm), _; rw [ef]; exact r1
  · intro q hq
    obtain rfl | rfl | rfl | rfl | rfl | rfl : q = 0 ∨ q = 1 ∨ q = 2 ∨ q = 3 ∨ q = 4 ∨ q = 5 := by omega
    · show (L.map (·.nm)).Nodup; rw [e1]; exact nmN
    · exact tN
    · exact clN
    · exact pn.nodup_iff.mpr fs.nd
    · show (tas.map (·.nm)).Nodup; rw [ts.nm]; exact N2
    · show (fas.map (·.nm)).Nodup; rw [ef]; exact r2
  · intro r hr
    have o := fs.ok r (pf.mem_iff.mp hr)
    refine ⟨?_, o.times, o.ty, o.pr, o.ll, o.lr, o.lp⟩
    show r.a ∈ L.map (·.nm) ∧ r.b ∈ L.map (·.nm) ∧ r.a ≠ r.b
    rw [e1]; exact o.ends
  · intro t ht
    obtain ⟨y, h1, h2, o, h3⟩ := ts.ok t ht
    refine ⟨y, h1, h2, ?_⟩
    have := (h3.mono fun f hf => pf.mem_iff.mpr hf).chain (n := ⟨L, T, cl, fls', tas, fas⟩) (k := t.nm) [] trivial
    rwa [List.append_nil] at this
  · have := ts.fl
    rw [List.append_nil] at this
    show (tas.map (·.fl)).flatten.Perm (fls'.map (·.nm))
    rw [this]; exact pn.symm
  · intro f hf'
    have o := hf f hf'
    refine ⟨?_, o.cls, o.p, o.x, o.r, o.o⟩
    show f.a ∈ L.map (·.nm) ∧ f.b ∈ L.map (·.nm) ∧ f.a ≠ f.b
    rw [e1]; exact o.ends
  · show ∀ s ∈ L.map (·.nm), _; rw [e1]; exact nmB
  · exact tB
  · intro s hs
    obtain ⟨r, hr, rfl⟩ := List.mem_map.mp hs
    obtain ⟨k, j, h1, h2, h3⟩ := fs.nm r (pf.mem_iff.mp hr)
    exact ⟨us, k, j, by omega, h1, h3⟩
  · show ∀ s ∈ tas.map (·.nm), _; rw [ts.nm]; exact N3
/-! ### sorted pairs -/
def prD (y : Int × Nat) : D := .tup [.int y.1, .int (y.2 : Int)]
def prP (y : Int × Nat) : PyData := .tuple [.int y.1, .int (y.2 : Int)]
def le2 (a b : Int × Nat) : Bool := decide (a.1 < b.1 ∨ (a.1 = b.1 ∧ (a.2 : Int) ≤ b.2))
theorem srt_w {h : LH} {Q : QD} {l : List (Int × Nat)} : @wblt .sorted [.lst (l.map prD)] h (Box.mk Q) = Q (.lst ((l.mergeSort le2).map prD)) h := by
  rw [blt_sorted]
  show opt (some (l.map prD)) (fun ds => opt (pyL ds) fun as => (PySem.W.AllAlike as ∧ PySem.W.Sortable as ∧ PyData.depthAll as ≤ 60) ∧ Q (.lst (ds.mergeSort (PySem.W.dataLe false pyD))) h) = _
  have e : ∀ l : List (Int × Nat), pyL (l.map prD) = some (l.map prP) := fun l => by
    induction l with
    | nil => rfl
    | cons x l ih => simp only [List.map_cons, pyL, prD, prP, D.py, ih, Option.map_some]
  have e2 : (l.map prD).mergeSort (PySem.W.dataLe false pyD) = (l.mergeSort le2).map prD := by
    refine (List.map_mergeSort fun a _ b _ => ?_).symm
    have := congrFun (congrFun (PySem.W.dataLe_ii (fun y : Int × Nat => y.1) (fun y => (y.2 : Int))) a) b
    exact this.symm
  have dp : ∀ l : List (Int × Nat), PyData.depthAll (l.map prP) ≤ 60 := fun l => by
    induction l with
    | nil => simp only [List.map_nil, PyData.depthAll]; omega
    | cons x l ih => simp only [List.map_cons, PyData.depthAll, prP, PyData.depth]; omega
  simp only [opt, e, e2]
  refine propext ⟨fun z => z.2, fun z => ⟨⟨PySem.W.AllAlike.of fun a b => ?_, PySem.W.Sortable.tuples fun a => ⟨_, _, rfl⟩, dp l⟩, z⟩⟩
  simp only [prP, PySem.W.alike, PySem.W.alikeAll, Bool.and_self]
end Net

namespace K72
open PySem Lg Net
open L2 (atI ixN)
set_option checkBinderAnnotations false
variable {ζ : Ad}
theorem rep24 : List.replicate 24 (none : Option D) = [none, none, none, none, none, none, none, none, none, none, none, none, none, none, none, none, none, none, none, none, none, none, none, none] := rfl
theorem cut_nm {l : List Str} {ds : List D} (e : ds = l.map .str) {x : Int} {k : Nat} (hx : x = (k : Int)) : cutD ds none (some x) = (l.take k).map .str := by
  subst e; subst hx
  rw [cut_hi, List.map_take]
def fOr (tu : Int) : D → Option D
  | .int k => some (.tup [.int ((k * (tu + 3) + tu) % 31), .int k])
  | _ => none
def fPk (fls : List Fl) : D → Option D
  | .tup [_, .int k] => atI (fls.map flD) k
  | _ => none
theorem fk_fit : ∀ k, k < 5 → ∀ j, j < 5 → (("f" : Str) ++ ((toString ((k : Nat) : Int) : String) : Str)).length + ((toString ((j : Nat) : Int) : String) : Str).length ≤ 10 := by decide +kernel
theorem other {l : List Str} (nd : l.Nodup) (h2 : 2 ≤ l.length) (x : Str) : 0 < (l.filter fun s => !decide (s = x)).length := by
  match l, h2 with
  | a :: b :: r, _ =>
    rw [List.nodup_cons] at nd
    have ne : a ≠ b := fun e => nd.1 (e ▸ List.mem_cons_self ..)
    by_cases e : a = x
    · have : b ≠ x := fun q => ne (e.trans q.symm)
      exact List.length_pos_of_mem (a := b) (List.mem_filter.mpr ⟨by simp, by simpa using this⟩)
    · exact List.length_pos_of_mem (a := a) (List.mem_filter.mpr ⟨by simp, by simpa using e⟩)
def fNe (x : Str) : D → Option D
  | .str s => if s = x then none else some (.str s)
  | _ => none
theorem fNe_map {x : Str} : ∀ {l : List Str}, (l.map D.str).filterMap (fNe x) = (l.filter fun s => !decide (s = x)).map D.str
  | [] => rfl
  | s :: l => by
    have ih := fNe_map (x := x) (l := l)
    rw [List.map_cons, List.filterMap_cons, List.filter_cons]
    by_cases z : s = x
    · simp only [fNe, if_pos z, decide_eq_true z, Bool.not_true, Bool.false_eq_true, if_false]; exact ih
    · simp only [fNe, if_neg z, decide_eq_false z, Bool.not_false, if_true, List.map_cons]; congr 1
theorem pick {d : D} {l : List Int} {lo hi : Int} (h : d ∈ l.map D.int) (b : ∀ x ∈ l, lo ≤ x ∧ x ≤ hi) : ∃ z, d = .int z ∧ lo ≤ z ∧ z ≤ hi := by
  obtain ⟨x, hx, rfl⟩ := List.mem_map.mp h
  exact ⟨x, rfl, b x hx⟩
theorem Gn.nn2 {a : Addr} {h h' : LH} {p : Int} (g : Gn a h h' p) : 0 ≤ p + 1 := by have := g.nn; omega
section
variable {n : Nat} {h : LH} {Q : QD} {e : EX}
theorem oneR {is : List Int} {a b : Addr} {p : Int} {ds : List D} (ha : h a = some (.lst [.int p])) (hp : 0 ≤ p) (hb : h b = some (.lst ds)) (nb : b ≠ a) (hm : 0 < ds.length)
    (k : ∀ d, d ∈ ds → Q d (put h a (.lst [.int (p + 1)]))) : @Call (Box.mk (PP ζ)) (Box.mk TB) (n + 3) 15 [.ref b, .lst (is.map D.int), .ref a] h (Box.mk Q) (Box.mk e) := by
  show CF (PP ζ) TB (n + 3) 15 [.ref b, .lst (is.map D.int), .ref a] h Q e
  refine CF_of tbO rfl ?_
  dsimp only
  unfold w_one
  have hb2 : ∀ c, put h a c b = some (.lst ds) := fun c => by rw [put_ne nb]; exact hb
  simp_arith only [hb, PF_cf]
  refine takeC ha hp (by omega) fun r r0 r1 => ?_
  obtain ⟨d, hd, m⟩ := at_some (xs := ds) r0 r1
  simp_arith only [hb2, hd]
  exact Done_of (k d m)
theorem oneT {is : List Int} {a : Addr} {p : Int} {ds : List D} (ha : h a = some (.lst [.int p])) (hp : 0 ≤ p) (hm : 0 < ds.length)
    (k : ∀ d, d ∈ ds → Q d (put h a (.lst [.int (p + 1)]))) : @Call (Box.mk (PP ζ)) (Box.mk TB) (n + 3) 15 [.tup ds, .lst (is.map D.int), .ref a] h (Box.mk Q) (Box.mk e) := by
  show CF (PP ζ) TB (n + 3) 15 [.tup ds, .lst (is.map D.int), .ref a] h Q e
  refine CF_of tbO rfl ?_
  dsimp only
  unfold w_one
  simp_arith only [PF_cf]
  refine takeC ha hp (by omega) fun r r0 r1 => ?_
  obtain ⟨d, hd, m⟩ := at_some (xs := ds) r0 r1
  simp_arith only [hd]
  exact Done_of (k d m)
end
section
variable {n : Nat} {h : LH} {Q : QD} {e : EX}
theorem net_s {is : List Int} {a : Addr} {p : Int} {sm : Bool} (ha : h a = some (.lst [.int p])) (hp : 0 ≤ p)
    (k : ∀ (m : N) (p' : Int), Right m → Near m → 0 ≤ p' → Q (netD m) (put h a (.lst [.int p']))) :
    CF (PP ζ) TB (n + 5) 17 [.lst (is.map D.int), .ref a, .bl sm] h Q e := by
  have g := Gn.refl ha hp
  refine CF_of (fn := ⟨3, 27, w__law_net⟩) rfl rfl ?_; dsimp only; unfold w__law_net
  simp_arith only [PF_cf]
  refine takeC ha hp (by decide) fun r r0 r1 => ?_
  have g := g.mv (p' := p + 1) (by omega)
  generalize put h a (.lst [.int (p + 1)]) = H at *
  simp_arith only [PF_cf]
  obtain ⟨c0, rfl⟩ : ∃ c : Nat, r = (c : Int) := ⟨r.toNat, by omega⟩
  have en := cut_nm (l := base) (ds := [.str "AAA", .str "BB", .str "C_1", .str "Dd", .str "E", .str "FFFFFFFFFFFF"]) rfl (x := 2 + (c0 : Int)) (k := 2 + c0) (by omega)
  have nmL : (base.take (2 + c0)).length = 2 + c0 := by rw [List.length_take]; show min (2 + c0) 6 = _; omega
  have nmB : ∀ s ∈ base.take (2 + c0), s ∈ base := fun s hs => List.mem_of_mem_take hs
  have nmN : (base.take (2 + c0)).Nodup := base_ok.1.sublist (List.take_sublist _ _)
  have nm2 : 2 ≤ (base.take (2 + c0)).length ∧ (base.take (2 + c0)).length ≤ 6 := by omega
  generalize base.take (2 + c0) = nm at *
  simp_arith only [rep24, en, PF_cf]
  refine Compr_inv (fun i acc h' => ∃ (L : List St) (p' : Int), L.map (·.nm) = nm.take i ∧ (∀ s ∈ L, (-720 ≤ s.z ∧ s.z ≤ 840) ∧ (0 ≤ s.l ∧ s.l ≤ 600)) ∧ acc = L.map stD ∧ Gn a h h' p') (by rw [List.length_map]; unfold sizeLine; omega) ⟨[], _, rfl, nofun, rfl, g⟩ ?_ ?_
  · rintro i d acc h' hd ⟨L, p', e1, e2, rfl, g⟩
    obtain ⟨s, hs, rfl⟩ := get_map hd
    refine ⟨trivial, ?_⟩
    simp_arith only [PF_cf]
    refine oneC g.at_ g.nn (by simp) fun d hd1 => ?_
    have g := g.mv (p' := p' + 1) (by have := g.nn; omega)
    simp_arith only [PF_cf]
    refine oneC g.at_ g.nn (by simp) fun d2 hd2 => ?_
    have g := g.mv (p' := p' + 1 + 1) g.nn2
    obtain ⟨z, rfl, z1, z2⟩ := pick (l := [0, 60, -300, 840, -720, 345]) (lo := -720) (hi := 840) hd1 (by decide)
    obtain ⟨y, rfl, y1, y2⟩ := pick (l := [0, 20, 45, 30, 90]) (lo := 0) (hi := 600) hd2 (by decide)
    refine ⟨L ++ [⟨s, z, y⟩], _, by rw [List.map_append, e1, List.take_succ, hs]; rfl, fun t ht => ?_, by rw [List.map_append]; rfl, g⟩
    rcases List.mem_append.mp ht with q | q
    · exact e2 t q
    · rw [List.mem_singleton.mp q]; exact ⟨⟨z1, z2⟩, y1, y2⟩
  rintro acc H ⟨L, p', e1, e2, rfl, g⟩
  rw [List.length_map, List.take_length] at e1
  refine ⟨trivial, ?_⟩
  simp_arith only [PF_cf]
  -- the types
  refine New_of fun b6 hb6 => ?_
  obtain ⟨h6, n6⟩ := g.none hb6
  have g := g.loc (c := .lst []) h6 n6
  have t6 : put H b6 (.lst []) b6 = some (.lst []) := put_same
  generalize put H b6 (.lst []) = H at *
  simp_arith only [PF_cf]
  refine takeC g.at_ g.nn (by decide) fun r r0 r1 => ?_
  have t6 := g.get t6 n6 (d := .lst [.int (p' + 1)])
  have g := g.mv (p' := p' + 1) g.nn2
  generalize put H a (.lst [.int (p' + 1)]) = H at *
  simp_arith only [PF_cf]
  obtain ⟨c1, rfl⟩ : ∃ c : Nat, r = (c : Int) := ⟨r.toNat, by omega⟩
  refine AND_of (by omega) ?_
  refine Loop_of (fun i ρ h' => ∃ (T : List Ty) (p' : Int), T.map (·.nm) = (List.range i).map (nmK "T") ∧ (∀ t ∈ T, (1 ≤ t.s ∧ t.s ≤ 500) ∧ (0 ≤ t.t ∧ t.t ≤ 600)) ∧
    ρ = [some (.lst (is.map D.int)), some (.ref a), some (.bl sm), some (.lst (nm.map .str)), some (.tup (L.map stD)), none, some (.ref b6), none, none, none, none, none, none, none, none, none, none, none, none, none, none, none, none, none, none, none, none] ∧
    h' b6 = some (.lst (T.map tyD)) ∧ Gn a h h' p') ⟨[], _, rfl, nofun, by rw [en]; rfl, t6, g⟩ ?_ ?_
  · clear t6 g
    rintro i d ρ H hd ⟨T, p', eT, hT, rfl, t6, g⟩
    obtain ⟨hi, rfl⟩ := rngL_get hd
    rw [show (0 : Int) + (i : Int) = (i : Int) by omega]
    cases sm with
    | true =>
    simp_arith only [PF_cf]
    refine takeC g.at_ g.nn (by decide) fun r q0 q1 => ?_
    have s1 : 1 ≤ 1 + r := by omega
    have s2 : 1 + r ≤ 500 := by omega
    have t6 := g.get t6 n6 (d := .lst [.int (p' + 1)])
    have g := g.mv (p' := p' + 1) g.nn2
    simp_arith only [PF_cf]
    refine AND_of (by rw [t6]; rfl) ?_
    simp_arith only [PF_cf]
    refine AND_of (nm_log (by omega)) ?_
    simp_arith only [PF_cf]
    refine AND_of (Nat.le_trans (nm_fit1 i (by omega)) (by decide)) ?_
    simp_arith only [PF_cf]
    refine oneC g.at_ g.nn (by simp) fun d2 hd2 => ?_
    obtain ⟨tt, rfl, v1, v2⟩ := pick (l := [0, 15, 40, 120]) (lo := 0) (hi := 600) hd2 (by decide)
    have t6 := g.get t6 n6 (d := .lst [.int (p' + 1 + 1)])
    have g := g.mv (p' := p' + 1 + 1) g.nn2
    rw [put_put] at g t6
    simp_arith only [t6, PF_cf]
    refine AND_of (by have := congrArg List.length eT; simp at this; unfold sizeLine; omega) ?_
    have g := g.loc (c := .lst (T.map tyD ++ [tyD ⟨nmK "T" i, 1 + r, tt⟩])) h6 n6
    refine ⟨T ++ [⟨nmK "T" i, 1 + r, tt⟩], p' + 1 + 1, by rw [List.map_append, eT, List.range_succ, List.map_append]; rfl, fun t ht => ?_, (by first | rfl | trivial), by rw [List.map_append]; exact put_same, g⟩
    rcases List.mem_append.mp ht with q | q
    · exact hT t q
    · rw [List.mem_singleton.mp q]; exact ⟨⟨s1, s2⟩, v1, v2⟩
    | false =>
    simp_arith only [PF_cf]
    refine oneC g.at_ g.nn (by simp) fun d q0 => ?_
    obtain ⟨seats, rfl, s1, s2⟩ := pick (l := [1, 2, 40, 150, 500]) (lo := 1) (hi := 500) q0 (by decide)
    have t6 := g.get t6 n6 (d := .lst [.int (p' + 1)])
    have g := g.mv (p' := p' + 1) g.nn2
    refine AND_of (by rw [t6]; rfl) ?_
    simp_arith only [PF_cf]
    refine AND_of (nm_log (by omega)) ?_
    simp_arith only [PF_cf]
    refine AND_of (Nat.le_trans (nm_fit1 i (by omega)) (by decide)) ?_
    simp_arith only [PF_cf]
    refine oneC g.at_ g.nn (by simp) fun d2 hd2 => ?_
    obtain ⟨tt, rfl, v1, v2⟩ := pick (l := [0, 15, 40, 120]) (lo := 0) (hi := 600) hd2 (by decide)
    have t6 := g.get t6 n6 (d := .lst [.int (p' + 1 + 1)])
    have g := g.mv (p' := p' + 1 + 1) g.nn2
    rw [put_put] at g t6
    simp_arith only [t6, PF_cf]
    refine AND_of (by have := congrArg List.length eT; simp at this; unfold sizeLine; omega) ?_
    have g := g.loc (c := .lst (T.map tyD ++ [tyD ⟨nmK "T" i, seats, tt⟩])) h6 n6
    refine ⟨T ++ [⟨nmK "T" i, seats, tt⟩], p' + 1 + 1, by rw [List.map_append, eT, List.range_succ, List.map_append]; rfl, fun t ht => ?_, (by first | rfl | trivial), by rw [List.map_append]; exact put_same, g⟩
    rcases List.mem_append.mp ht with q | q
    · exact hT t q
    · rw [List.mem_singleton.mp q]; exact ⟨⟨s1, s2⟩, v1, v2⟩
  rintro ρ H ⟨T, p', eT, hT, rfl, t6, g⟩
  rw [rngL_len] at eT
  simp_arith only [PF_cf]
  have tl : T.length = 1 + c1 := by have := congrArg List.length eT; simp at this; omega
  refine takeC g.at_ g.nn (by decide) fun r r0 r1 => ?_
  obtain ⟨c2, rfl⟩ : ∃ c : Nat, r = (c : Int) := ⟨r.toNat, by omega⟩
  have t6 := g.get t6 n6 (d := .lst [.int (p' + 1)])
  have g := g.mv (p' := p' + 1) g.nn2
  generalize put H a (.lst [.int (p' + 1)]) = H at *
  have ec := cut_nm (l := cbase) (ds := [.str "Y", .str "B", .str "K", .str "Q"]) rfl (x := 1 + (c2 : Int)) (k := 1 + c2) (by omega)
  have clL : (cbase.take (1 + c2)).length = 1 + c2 := by rw [List.length_take]; show min (1 + c2) 4 = _; omega
  have clB : ∀ s ∈ cbase.take (1 + c2), s ∈ cbase := fun s hs => List.mem_of_mem_take hs
  have clN : (cbase.take (1 + c2)).Nodup := cbase_ok.1.sublist (List.take_sublist _ _)
  generalize cbase.take (1 + c2) = cl at *
  simp_arith only [ec, PF_cf]
  refine New_of fun b10 hb10 => ?_
  obtain ⟨h10, n10⟩ := g.none hb10
  have x6 : b6 ≠ b10 := ne_cell t6 hb10
  have t6 : put H b10 (.lst []) b6 = some (.lst (T.map tyD)) := by rw [put_ne x6]; exact t6
  have t10 : put H b10 (.lst []) b10 = some (.lst []) := put_same
  have g := g.loc (c := .lst []) h10 n10
  generalize put H b10 (.lst []) = H at *
  simp_arith only [PF_cf]
  refine New_of fun b11 hb11 => ?_
  obtain ⟨h11, n11⟩ := g.none hb11
  have y6 : b6 ≠ b11 := ne_cell t6 hb11
  have y10 : b10 ≠ b11 := ne_cell t10 hb11
  have t6 : put H b11 (.lst []) b6 = some (.lst (T.map tyD)) := by rw [put_ne y6]; exact t6
  have t10 : put H b11 (.lst []) b10 = some (.lst []) := by rw [put_ne y10]; exact t10
  have t11 : put H b11 (.lst []) b11 = some (.lst []) := put_same
  have g := g.loc (c := .lst []) h11 n11
  generalize put H b11 (.lst []) = H at *
  simp_arith only [PF_cf]
  refine takeC g.at_ g.nn (by decide) fun r r0 r1 => ?_
  obtain ⟨c3, rfl⟩ : ∃ c : Nat, r = (c : Int) := ⟨r.toNat, by omega⟩
  have t6 := g.get t6 n6 (d := .lst [.int (p' + 1 + 1)])
  have t10 := g.get t10 n10 (d := .lst [.int (p' + 1 + 1)])
  have t11 := g.get t11 n11 (d := .lst [.int (p' + 1 + 1)])
  have g := g.mv (p' := p' + 1 + 1) g.nn2
  generalize put H a (.lst [.int (p' + 1 + 1)]) = H at *
  simp_arith only [PF_cf]
  refine AND_of (by omega) ?_
  have c3lt : 1 + c3 ≤ 5 := by omega
  refine Loop_of (fun i ρ h' => ∃ (fls : List Fl) (tas : List Ta) (p' : Int), FS false nm T cl.length i 0 fls ∧ TS T i fls tas [] ∧
    ρ = [some (.lst (is.map D.int)), some (.ref a), some (.bl sm), some (.lst (nm.map .str)), some (.tup (L.map stD)), none, some (.ref b6), none, none, some (.tup (cl.map .str)), some (.ref b10), some (.ref b11), none, none, none, none, none, none, none, none, none, none, none, none, none, none, none] ∧
    h' b6 = some (.lst (T.map tyD)) ∧ h' b10 = some (.lst (fls.map flD)) ∧ h' b11 = some (.lst (tas.map taD)) ∧ Gn a h h' p')
    ⟨[], [], _, ⟨nofun, nofun, List.nodup_nil, Nat.zero_le _⟩, ⟨rfl, nofun, rfl⟩, by rw [ec]; rfl, t6, t10, t11, g⟩ ?_ ?_
  · clear t6 t10 t11 g
    rintro i d ρ H hd ⟨fls, tas, p', fs, ts, rfl, t6, t10, t11, g⟩
    obtain ⟨hi, rfl⟩ := rngL_get hd
    rw [show (0 : Int) + (i : Int) = (i : Int) by omega]
    have hi : i < 5 := by omega
    simp_arith only [t6, PF_cf]
    refine oneR g.at_ g.nn t6 n6 (by rw [List.length_map]; omega) fun d hd => ?_
    obtain ⟨y, hy, rfl⟩ := List.mem_map.mp hd
    have t6 := g.get t6 n6 (d := .lst [.int (p' + 1)])
    have t10 := g.get t10 n10 (d := .lst [.int (p' + 1)])
    have t11 := g.get t11 n11 (d := .lst [.int (p' + 1)])
    have g := g.mv (p' := p' + 1) g.nn2
    generalize p' + 1 = p' at *
    generalize put H a (.lst [.int p']) = H at *
    refine oneC (ds := nm.map .str) g.at_ g.nn (by rw [List.length_map]; omega) fun d hd => ?_
    obtain ⟨here, hh, rfl⟩ := List.mem_map.mp hd
    have t6 := g.get t6 n6 (d := .lst [.int (p' + 1)])
    have t10 := g.get t10 n10 (d := .lst [.int (p' + 1)])
    have t11 := g.get t11 n11 (d := .lst [.int (p' + 1)])
    have g := g.mv (p' := p' + 1) g.nn2
    generalize p' + 1 = p' at *
    generalize put H a (.lst [.int p']) = H at *
    refine takeC g.at_ g.nn (by decide) fun time u0 u1 => ?_
    have t6 := g.get t6 n6 (d := .lst [.int (p' + 1)])
    have t10 := g.get t10 n10 (d := .lst [.int (p' + 1)])
    have t11 := g.get t11 n11 (d := .lst [.int (p' + 1)])
    have g := g.mv (p' := p' + 1) g.nn2
    generalize p' + 1 = p' at *
    generalize put H a (.lst [.int p']) = H at *
    refine New_of fun b15 hb15 => ?_
    obtain ⟨h15, n15⟩ := g.none hb15
    have z6 : b6 ≠ b15 := ne_cell t6 hb15
    have z10 : b10 ≠ b15 := ne_cell t10 hb15
    have z11 : b11 ≠ b15 := ne_cell t11 hb15
    have t6 : put H b15 (.lst []) b6 = some (.lst (T.map tyD)) := by rw [put_ne z6]; exact t6
    have t10 : put H b15 (.lst []) b10 = some (.lst (fls.map flD)) := by rw [put_ne z10]; exact t10
    have t11 : put H b15 (.lst []) b11 = some (.lst (tas.map taD)) := by rw [put_ne z11]; exact t11
    have t15 : put H b15 (.lst []) b15 = some (.lst []) := put_same
    have g := g.loc (c := .lst []) h15 n15
    generalize put H b15 (.lst []) = H at *
    simp_arith only [PF_cf]
    refine takeC g.at_ g.nn (by decide) fun r r0 r1 => ?_
    obtain ⟨c4, hc4, mem⟩ := at_some (xs := [D.int 0, .int 2, .int 3, .int 4, .int 5, .int 5]) r0 r1
    obtain ⟨c4, rfl, m1, m2⟩ := pick (l := [0, 2, 3, 4, 5, 5]) (lo := 0) (hi := 5) mem (by decide)
    obtain ⟨c4, rfl⟩ : ∃ c : Nat, c4 = (c : Int) := ⟨c4.toNat, by omega⟩
    have t6 := g.get t6 n6 (d := .lst [.int (p' + 1)])
    have t10 := g.get t10 n10 (d := .lst [.int (p' + 1)])
    have t11 := g.get t11 n11 (d := .lst [.int (p' + 1)])
    have t15 := g.get t15 n15 (d := .lst [.int (p' + 1)])
    have g := g.mv (p' := p' + 1) g.nn2
    generalize p' + 1 = p' at *
    generalize put H a (.lst [.int p']) = H at *
    simp_arith only [hc4, PF_cf]
    refine AND_of (by omega) ?_
    obtain ⟨⟨ys1, ys2⟩, yt1, yt2⟩ := hT y hy
    refine Loop_of (fun j ρ h' => ∃ (fls : List Fl) (row : List Str) (o : Option Fl) (here : Str) (time p' : Int), FS false nm T cl.length i j fls ∧ TS T i fls tas row ∧ chE fls y.nm y.t row o ∧ (∀ g, o = some g → g.b = here ∧ g.ar + y.t ≤ time) ∧ here ∈ nm ∧ 0 ≤ time ∧ time ≤ 300 + 2000 * (j : Int) ∧
      ρ = [some (.lst (is.map D.int)), some (.ref a), some (.bl sm), some (.lst (nm.map .str)), some (.tup (L.map stD)), none, some (.ref b6), some (.int (i : Int)), none, some (.tup (cl.map .str)), some (.ref b10), some (.ref b11), some (tyD y), some (.str here), some (.int time), some (.ref b15), none, none, none, none, none, none, none, none, none, none, none] ∧
      h' b6 = some (.lst (T.map tyD)) ∧ h' b10 = some (.lst (fls.map flD)) ∧ h' b11 = some (.lst (tas.map taD)) ∧ h' b15 = some (.lst (row.map .str)) ∧ Gn a h h' p')
      ⟨fls, [], none, here, time, p', fs, ts, .nil, nofun, hh, u0, by omega, (by first | rfl | trivial), t6, t10, t11, t15, g⟩ ?_ ?_
    · clear t6 t10 t11 t15 g fs ts hh u0 u1
      rintro j d ρ H hd ⟨fls, row, o, here, time, p', fs, ts, ch, ho, hh, u0, u1, rfl, t6, t10, t11, t15, g⟩
      obtain ⟨hj, rfl⟩ := rngL_get hd
      rw [show (0 : Int) + (j : Int) = (j : Int) by omega]
      have hj : j < 5 := by omega
      simp_arith only [PF_cf]
      refine Compr_of (fNe here) (by rw [List.length_map]; unfold sizeLine; omega) trivial (fun d K hd hk => ?_) ?_
      · obtain ⟨s, hs, rfl⟩ := List.mem_map.mp hd
        simp_arith
        simp only [fNe] at hk
        refine br_of (fun z => ?_) (fun z => ?_)
        · rw [if_neg (by simpa using z)] at hk
          simp_arith; exact hk
        · rw [if_pos (by simpa using z)] at hk
          simp_arith; exact hk
      rw [fNe_map]
      have oth := other nmN nm2.1 here
      try simp_arith only [PF_cf]
      refine oneC (ds := (nm.filter fun s => !decide (s = here)).map .str) g.at_ g.nn (by rw [List.length_map]; exact oth) fun d hd => ?_
      obtain ⟨there, hth, rfl⟩ := List.mem_map.mp hd
      obtain ⟨th1, th2⟩ := List.mem_filter.mp hth
      have th2 : there ≠ here := by simpa using th2
      have t6 := g.get t6 n6 (d := .lst [.int (p' + 1)])
      have t10 := g.get t10 n10 (d := .lst [.int (p' + 1)])
      have t11 := g.get t11 n11 (d := .lst [.int (p' + 1)])
      have t15 := g.get t15 n15 (d := .lst [.int (p' + 1)])
      have g := g.mv (p' := p' + 1) g.nn2
      generalize p' + 1 = p' at *
      generalize put H a (.lst [.int p']) = H at *
      try simp_arith only [PF_cf]
      refine oneC g.at_ g.nn (by simp) fun d hd => ?_
      obtain ⟨dd, rfl, d1, d2⟩ := pick (l := [0, 0, 10, 35, 60, 200, 900]) (lo := 0) (hi := 900) hd (by decide)
      have t6 := g.get t6 n6 (d := .lst [.int (p' + 1)])
      have t10 := g.get t10 n10 (d := .lst [.int (p' + 1)])
      have t11 := g.get t11 n11 (d := .lst [.int (p' + 1)])
      have t15 := g.get t15 n15 (d := .lst [.int (p' + 1)])
      have g := g.mv (p' := p' + 1) g.nn2
      generalize p' + 1 = p' at *
      generalize put H a (.lst [.int p']) = H at *
      try simp_arith only [PF_cf]
      refine oneC g.at_ g.nn (by simp) fun d hd => ?_
      obtain ⟨aa, rfl, a1, a2⟩ := pick (l := [30, 60, 100, 45, 400]) (lo := 1) (hi := 400) hd (by decide)
      have t6 := g.get t6 n6 (d := .lst [.int (p' + 1)])
      have t10 := g.get t10 n10 (d := .lst [.int (p' + 1)])
      have t11 := g.get t11 n11 (d := .lst [.int (p' + 1)])
      have t15 := g.get t15 n15 (d := .lst [.int (p' + 1)])
      have g := g.mv (p' := p' + 1) g.nn2
      generalize p' + 1 = p' at *
      generalize put H a (.lst [.int p']) = H at *
      simp_arith only [PF_cf]
      refine AND_of (nm_log (by omega)) ?_
      simp_arith only [PF_cf]
      refine AND_of (Nat.le_trans (nm_fit1 i (by omega)) (by decide)) ?_
      simp_arith only [PF_cf]
      refine AND_of (nm_log (by omega)) ?_
      simp_arith only [PF_cf]
      refine AND_of (Nat.le_trans (fk_fit i (by omega) j (by omega)) (by decide)) ?_
      simp_arith only [PF_cf]
      refine AND_of (by rw [t10]; rfl) ?_
      obtain ⟨nn, enn⟩ : ∃ nn : Str, nn = nmKJ "f" i j := ⟨_, rfl⟩
      simp_arith only [tyD, at_0, PF_cf]
      refine takeC g.at_ g.nn (by decide) fun pr v0 v1 => ?_
      have t6 := g.get t6 n6 (d := .lst [.int (p' + 1)])
      have t10 := g.get t10 n10 (d := .lst [.int (p' + 1)])
      have t11 := g.get t11 n11 (d := .lst [.int (p' + 1)])
      have t15 := g.get t15 n15 (d := .lst [.int (p' + 1)])
      have g := g.mv (p' := p' + 1) g.nn2
      generalize p' + 1 = p' at *
      generalize put H a (.lst [.int p']) = H at *
      simp_arith only [tyD, at_1, PF_cf]
      refine limits_s g.at_ g.nn (by omega) (by omega) (cnt := cl.length) (by omega) fun lim p2 l1 l2 l3 hp2 => ?_
      have t6 := g.get t6 n6 (d := .lst [.int p2])
      have t10 := g.get t10 n10 (d := .lst [.int p2])
      have t11 := g.get t11 n11 (d := .lst [.int p2])
      have t15 := g.get t15 n15 (d := .lst [.int p2])
      have g := g.mv (p' := p2) hp2
      generalize put H a (.lst [.int p2]) = H at *
      simp_arith only [t10, PF_cf]
      have fsl := fs.len
      have rowl : row.length ≤ 25 := by
        have := congrArg List.length ts.fl
        simp only [List.length_append, List.length_map] at this
        omega
      refine AND_of (by unfold sizeLine; omega) ?_
      have q15 : ∀ c, put H b10 c b15 = some (.lst (row.map .str)) := fun c => by rw [put_ne z10.symm]; exact t15
      simp_arith only [q15, PF_cf]
      refine AND_of (by unfold sizeLine; omega) ?_
      simp_arith only [tyD, at_2, PF_cf]
      obtain ⟨r, er⟩ : ∃ r : Fl, r = ⟨nmKJ "f" i j, here, there, time + dd, time + dd + aa, y.nm, 1 + pr, lim⟩ := ⟨_, rfl⟩
      have ok : FlOk nm T cl.length r := by
        subst er
        exact ⟨⟨hh, th1, fun q => th2 q.symm⟩, ⟨by dsimp only; omega, by dsimp only; omega, by dsimp only; omega⟩, List.mem_map_of_mem (f := (·.nm)) hy, ⟨by dsimp only; omega, by dsimp only; omega⟩, l1, l2, l3⟩
      have rn : r.nm = nmF false i j := by rw [er]; rfl
      refine ⟨fls ++ [r], row ++ [r.nm], some r, there, time + dd + aa + y.t, p2, fs.snoc (by omega) hj ok rn, ts.leg, .snoc (ch.mono fun f hf => List.mem_append_left _ hf) (by simp) (by rw [er]) (fun g hg => ?_), fun g hg => ?_, th1, by omega, by omega, ?_, ?_, ?_, ?_, ?_, ?_⟩
      · obtain ⟨w1, w2⟩ := ho g hg
        rw [er]; exact ⟨w1, by dsimp only; omega⟩
      · cases hg
        rw [er]; exact ⟨rfl, by dsimp only; omega⟩
      · exact (by first | rfl | trivial)
      · rw [put_ne z6, put_ne x6]; exact t6
      · rw [put_ne z10, put_same, List.map_append, er]; rfl
      · rw [put_ne z11, put_ne y10.symm]; exact t11
      · rw [List.map_append, rn]; rfl
      · exact (g.loc h10 n10).loc h15 n15
    · rintro ρ H ⟨fls, row, o, here, time, p', fs, ts, ch, ho, hh, u0, u1, rfl, t6, t10, t11, t15, g⟩
      rw [rngL_len] at fs
      simp_arith only [t15, PF_cf]
      refine AND_of (by rw [t11]; rfl) ?_
      simp_arith only [PF_cf]
      refine AND_of (nm_log (by omega)) ?_
      simp_arith only [PF_cf]
      refine AND_of (Nat.le_trans (nm_fit1 i (by omega)) (by decide)) ?_
      simp_arith only [tyD, at_0, t15, t11, PF_cf]
      have tal : tas.length = i := by have := congrArg List.length ts.nm; simpa using this
      refine AND_of (by unfold sizeLine; omega) ?_
      simp_arith only [PF_cf]
      refine ⟨fls, tas ++ [⟨nmK "N" i, y.nm, row⟩], p', fs.next (by omega), ts.tail hy ch, (by first | rfl | trivial), ?_, ?_, ?_, g.loc h11 n11⟩
      · rw [put_ne y6]; exact t6
      · rw [put_ne y10]; exact t10
      · rw [List.map_append]; rfl
  rintro ρ H ⟨fls, tas, p', fs, ts, rfl, t6, t10, t11, g⟩
  rw [rngL_len, show (1 + (c3 : Int)).toNat = 1 + c3 by omega] at fs ts
  have fsl := fs.len
  have tal : tas.length = 1 + c3 := by have := congrArg List.length ts.nm; simpa using this
  simp_arith only [PF_cf]
  refine takeC g.at_ g.nn (by decide) fun tu v0 v1 => ?_
  have t6 := g.get t6 n6 (d := .lst [.int (p' + 1)])
  have t10 := g.get t10 n10 (d := .lst [.int (p' + 1)])
  have t11 := g.get t11 n11 (d := .lst [.int (p' + 1)])
  have g := g.mv (p' := p' + 1) g.nn2
  generalize p' + 1 = p' at *
  generalize put H a (.lst [.int p']) = H at *
  simp_arith only [t10, PF_cf]
  refine AND_of (by omega) ?_
  refine Compr_of (fOr tu) (by rw [rngL_len]; unfold sizeLine; omega) trivial (fun d K hd hk => ?_) ?_
  · obtain ⟨i, hi0⟩ := List.getElem?_of_mem hd
    obtain ⟨hi, rfl⟩ := rngL_get hi0
    rw [show (0 : Int) + (i : Int) = (i : Int) by omega] at hk ⊢
    simp_arith
    refine AND_of (mulL (by omega) (by omega)) ?_
    simp_arith
    exact hk
  rw [show rngL 0 ((fls.length : Int)).toNat = (List.range fls.length).map fun k => D.int ((k : Nat) : Int) by unfold rngL; simp]
  rw [fm_map (g := fun k : Nat => D.int (k : Int)) (f := fOr tu) (k := fun k : Nat => prD (((k : Int) * (tu + 3) + tu) % 31, k)) (fun k _ => rfl)]
  have eo : ((List.range fls.length).map fun k : Nat => prD (((k : Int) * (tu + 3) + tu) % 31, k)) = ((List.range fls.length).map fun k : Nat => ((((k : Int) * (tu + 3) + tu) % 31, k) : Int × Nat)).map prD := by rw [List.map_map]; rfl
  rw [eo]
  have op : ((((List.range fls.length).map fun k : Nat => ((((k : Int) * (tu + 3) + tu) % 31, k) : Int × Nat)).mergeSort le2).map (·.2)).Perm (List.range fls.length) := by
    refine ((List.mergeSort_perm _ le2).map _).trans ?_
    rw [List.map_map]
    exact List.Perm.of_eq (List.map_id _)
  simp_arith only [srt_w, PF_cf]
  generalize ((List.range fls.length).map fun k : Nat => ((((k : Int) * (tu + 3) + tu) % 31, k) : Int × Nat)).mergeSort le2 = od at *
  refine New_of fun b22 hb22 => ?_
  obtain ⟨h22, n22⟩ := g.none hb22
  have w6 : b6 ≠ b22 := ne_cell t6 hb22
  have w10 : b10 ≠ b22 := ne_cell t10 hb22
  have w11 : b11 ≠ b22 := ne_cell t11 hb22
  have t6 : put H b22 (.lst []) b6 = some (.lst (T.map tyD)) := by rw [put_ne w6]; exact t6
  have t10 : put H b22 (.lst []) b10 = some (.lst (fls.map flD)) := by rw [put_ne w10]; exact t10
  have t11 : put H b22 (.lst []) b11 = some (.lst (tas.map taD)) := by rw [put_ne w11]; exact t11
  have t22 : put H b22 (.lst []) b22 = some (.lst []) := put_same
  have g := g.loc (c := .lst []) h22 n22
  generalize put H b22 (.lst []) = H at *
  simp_arith only [PF_cf]
  refine takeC g.at_ g.nn (by decide) fun r q0 q1 => ?_
  obtain ⟨kf, rfl⟩ : ∃ c : Nat, r = (c : Int) := ⟨r.toNat, by omega⟩
  have t22 := g.get t22 n22 (d := .lst [.int (p' + 1)])
  have t6 := g.get t6 n6 (d := .lst [.int (p' + 1)])
  have t10 := g.get t10 n10 (d := .lst [.int (p' + 1)])
  have t11 := g.get t11 n11 (d := .lst [.int (p' + 1)])
  have g := g.mv (p' := p' + 1) g.nn2
  generalize p' + 1 = p' at *
  generalize put H a (.lst [.int p']) = H at *
  simp_arith only [PF_cf]
  refine AND_of (by omega) ?_
  refine Loop_of (fun i ρ h' => ∃ (fas : List Fa) (p' : Int), fas.map (·.nm) = (List.range i).map (nmK "r") ∧ (∀ f ∈ fas, FaOk nm cl f) ∧
    ρ = [some (.lst (is.map D.int)), some (.ref a), some (.bl sm), some (.lst (nm.map .str)), some (.tup (L.map stD)), none, some (.ref b6), none, none, some (.tup (cl.map .str)), some (.ref b10), some (.ref b11), none, none, none, none, none, none, none, none, some (.int tu), some (.lst (od.map prD)), some (.ref b22), none, none, none, none] ∧
    h' b6 = some (.lst (T.map tyD)) ∧ h' b10 = some (.lst (fls.map flD)) ∧ h' b11 = some (.lst (tas.map taD)) ∧ h' b22 = some (.lst (fas.map faD)) ∧ Gn a h h' p') ⟨[], p', rfl, nofun, (by first | rfl | trivial), t6, t10, t11, t22, g⟩ ?_ ?_
  · clear t6 t10 t11 t22 g
    rintro i d ρ H hd ⟨fas, p', ef, hf, rfl, t6, t10, t11, t22, g⟩
    obtain ⟨hi, rfl⟩ := rngL_get hd
    rw [show (0 : Int) + (i : Int) = (i : Int) by omega]
    have hi : i < 9 := by omega
    simp_arith only [PF_cf]
    refine oneC (ds := nm.map .str) g.at_ g.nn (by rw [List.length_map]; omega) fun d hd => ?_
    obtain ⟨st, hst, rfl⟩ := List.mem_map.mp hd
    have t6 := g.get t6 n6 (d := .lst [.int (p' + 1)])
    have t10 := g.get t10 n10 (d := .lst [.int (p' + 1)])
    have t11 := g.get t11 n11 (d := .lst [.int (p' + 1)])
    have t22 := g.get t22 n22 (d := .lst [.int (p' + 1)])
    have g := g.mv (p' := p' + 1) g.nn2
    generalize p' + 1 = p' at *
    generalize put H a (.lst [.int p']) = H at *
    try simp_arith only [PF_cf]
    refine Compr_of (fNe st) (by rw [List.length_map]; unfold sizeLine; omega) trivial (fun d K hd hk => ?_) ?_
    · obtain ⟨s, hs, rfl⟩ := List.mem_map.mp hd
      simp_arith
      simp only [fNe] at hk
      refine br_of (fun z => ?_) (fun z => ?_)
      · rw [if_neg (by simpa using z)] at hk
        simp_arith; exact hk
      · rw [if_pos (by simpa using z)] at hk
        simp_arith; exact hk
    rw [fNe_map]
    have oth := other nmN nm2.1 st
    simp_arith only [PF_cf]
    refine oneC (ds := (nm.filter fun s => !decide (s = st)).map .str) g.at_ g.nn (by rw [List.length_map]; exact oth) fun d hd => ?_
    obtain ⟨en, hth, rfl⟩ := List.mem_map.mp hd
    obtain ⟨th1, th2⟩ := List.mem_filter.mp hth
    have th2 : en ≠ st := by simpa using th2
    have t6 := g.get t6 n6 (d := .lst [.int (p' + 1)])
    have t10 := g.get t10 n10 (d := .lst [.int (p' + 1)])
    have t11 := g.get t11 n11 (d := .lst [.int (p' + 1)])
    have t22 := g.get t22 n22 (d := .lst [.int (p' + 1)])
    have g := g.mv (p' := p' + 1) g.nn2
    generalize p' + 1 = p' at *
    generalize put H a (.lst [.int p']) = H at *
    try simp_arith only [PF_cf]
    refine oneC g.at_ g.nn (by simp) fun d hd => ?_
    obtain ⟨pr, rfl, c1', c2'⟩ := pick (l := [0, 99, 100, 1000, 12345, 1000000]) (lo := 0) (hi := 1000000) hd (by decide)
    have t6 := g.get t6 n6 (d := .lst [.int (p' + 1)])
    have t10 := g.get t10 n10 (d := .lst [.int (p' + 1)])
    have t11 := g.get t11 n11 (d := .lst [.int (p' + 1)])
    have t22 := g.get t22 n22 (d := .lst [.int (p' + 1)])
    have g := g.mv (p' := p' + 1) g.nn2
    generalize p' + 1 = p' at *
    generalize put H a (.lst [.int p']) = H at *
    try simp_arith only [PF_cf]
    refine AND_of (by rw [t22]; rfl) ?_
    simp_arith only [PF_cf]
    refine AND_of (nm_log (by omega)) ?_
    simp_arith only [PF_cf]
    refine AND_of (Nat.le_trans (nm_fit1 i (by omega)) (by decide)) ?_
    simp_arith only [PF_cf]
    refine oneT (ds := cl.map .str) g.at_ g.nn (by rw [List.length_map]; omega) fun d hd => ?_
    obtain ⟨fc, hfc, rfl⟩ := List.mem_map.mp hd
    have t6 := g.get t6 n6 (d := .lst [.int (p' + 1)])
    have t10 := g.get t10 n10 (d := .lst [.int (p' + 1)])
    have t11 := g.get t11 n11 (d := .lst [.int (p' + 1)])
    have t22 := g.get t22 n22 (d := .lst [.int (p' + 1)])
    have g := g.mv (p' := p' + 1) g.nn2
    generalize p' + 1 = p' at *
    generalize put H a (.lst [.int p']) = H at *
    try simp_arith only [PF_cf]
    refine takeC g.at_ g.nn (by decide) fun fx x0 x1 => ?_
    have t6 := g.get t6 n6 (d := .lst [.int (p' + 1)])
    have t10 := g.get t10 n10 (d := .lst [.int (p' + 1)])
    have t11 := g.get t11 n11 (d := .lst [.int (p' + 1)])
    have t22 := g.get t22 n22 (d := .lst [.int (p' + 1)])
    have g := g.mv (p' := p' + 1) g.nn2
    generalize p' + 1 = p' at *
    generalize put H a (.lst [.int p']) = H at *
    try simp_arith only [PF_cf]
    refine takeC g.at_ g.nn (by decide) fun fr z0 z1 => ?_
    have t6 := g.get t6 n6 (d := .lst [.int (p' + 1)])
    have t10 := g.get t10 n10 (d := .lst [.int (p' + 1)])
    have t11 := g.get t11 n11 (d := .lst [.int (p' + 1)])
    have t22 := g.get t22 n22 (d := .lst [.int (p' + 1)])
    have g := g.mv (p' := p' + 1) g.nn2
    generalize p' + 1 = p' at *
    generalize put H a (.lst [.int p']) = H at *
    try simp_arith only [PF_cf]
    refine oneC g.at_ g.nn (by simp) fun d hd => ?_
    obtain ⟨fo, rfl, o1, o2⟩ := pick (l := [0, 50, 100, 33]) (lo := 0) (hi := 100) hd (by decide)
    have t6 := g.get t6 n6 (d := .lst [.int (p' + 1)])
    have t10 := g.get t10 n10 (d := .lst [.int (p' + 1)])
    have t11 := g.get t11 n11 (d := .lst [.int (p' + 1)])
    have t22 := g.get t22 n22 (d := .lst [.int (p' + 1)])
    have g := g.mv (p' := p' + 1) g.nn2
    generalize p' + 1 = p' at *
    generalize put H a (.lst [.int p']) = H at *
    have fl := congrArg List.length ef
    simp only [List.length_map, List.length_range] at fl
    simp_arith only [t22, PF_cf]
    refine AND_of (by unfold sizeLine; omega) ?_
    simp_arith only [PF_cf]
    refine ⟨fas ++ [⟨nmK "r" i, st, en, fc, pr, fx, fr, fo⟩], p', by rw [List.map_append, ef, List.range_succ, List.map_append]; rfl, fun f hf' => ?_, (by first | rfl | trivial), ?_, ?_, ?_, ?_, g.loc h22 n22⟩
    · rcases List.mem_append.mp hf' with q | q
      · exact hf f q
      · rw [List.mem_singleton.mp q]
        exact ⟨⟨hst, th1, fun q => th2 q.symm⟩, hfc, ⟨c1', c2'⟩, ⟨x0, by dsimp only; omega⟩, ⟨z0, by dsimp only; omega⟩, o1, o2⟩
    · rw [put_ne w6]; exact t6
    · rw [put_ne w10]; exact t10
    · rw [put_ne w11]; exact t11
    · rw [List.map_append]; exact (by first | rfl | trivial)
  rintro ρ H ⟨fas, p', ef, hf, rfl, t6, t10, t11, t22, g⟩
  rw [rngL_len, show ((kf : Int)).toNat = kf by omega] at ef
  simp_arith only [t6, t10, t11, t22, PF_cf]
  have odl : od.length = fls.length := by have := op.length_eq; simpa using this
  have odm : ∀ y ∈ od, y.2 < fls.length := fun y hy => List.mem_range.mp (op.mem_iff.mp (List.mem_map_of_mem (f := (·.2)) hy))
  have pk : ∀ y ∈ od, atI (fls.map flD) (y.2 : Int) = some (flD (fls.getD y.2 default)) := fun y hy => by
    rw [at_nat, List.getElem?_map, List.getElem?_eq_getElem (odm y hy), List.getD_eq_getElem?_getD, List.getElem?_eq_getElem (odm y hy)]; rfl
  refine Compr_of (fPk fls) (by rw [List.length_map]; unfold sizeLine; omega) trivial (fun d K hd hk => ?_) ?_
  · obtain ⟨y, hy, rfl⟩ := List.mem_map.mp hd
    simp only [prD, fPk, pk y hy] at hk
    simp_arith only [prD, t10, pk y hy]
    exact ⟨trivial, hk⟩
  rw [fm_map (g := prD) (f := fPk fls) (k := fun y => flD (fls.getD y.2 default)) fun y hy => pk y hy]
  have ef2 : (od.map fun y => flD (fls.getD y.2 default)) = (od.map fun y => fls.getD y.2 default).map flD := by rw [List.map_map]; rfl
  rw [ef2]
  have pf : (od.map fun y => fls.getD y.2 default).Perm fls := by
    have e1 : (od.map fun y => fls.getD y.2 default) = (od.map (·.2)).map fun i => fls.getD i default := by rw [List.map_map]; rfl
    rw [e1]
    refine (op.map _).trans (List.Perm.of_eq ?_)
    apply List.ext_getElem
    · simp
    · intro i h1 h2
      rw [List.getElem_map, List.getElem_range, List.getD_eq_getElem?_getD, List.getElem?_eq_getElem h2]; rfl
  generalize (od.map fun y => fls.getD y.2 default) = fls' at pf
  obtain ⟨R, Nr⟩ := mk_net e1 (fun s hs => List.mem_append_left _ (nmB s hs)) nmN nm2 e2 (by rw [eT]; exact T_ok.1.sublist ((List.range_sublist.mpr (by omega)).map _)) (fun s hs => List.mem_append_left _ (((List.range_sublist.mpr (show _ ≤ 3 by omega)).map _).subset (eT ▸ hs))) (by omega) hT clB clN (by omega) fs (by omega) ts pf ef (by omega) hf
  simp_arith only [t11, t22, PF_cf]
  exact Done_sub g.back (k _ p' R Nr g.nn)
end
end K72

namespace Net
open PySem Lg
open L2 (atI ixN)
/-! ### the far part -/
def nmZ (k j : Nat) : Str := nmK "z" k ++ "_" ++ ((toString (j : Int) : String) : Str)
def prz : List (Nat × Nat) := (List.range 13).flatMap fun k => (List.range 5).map fun j => (k, j)
theorem prz_in {k j : Nat} (hk : k < 13) (hj : j < 5) : (k, j) ∈ prz := List.mem_flatMap.mpr ⟨k, List.mem_range.mpr hk, List.mem_map.mpr ⟨j, List.mem_range.mpr hj, rfl⟩⟩
theorem z_inj0 : ∀ x ∈ prz, ∀ y ∈ prz, nmZ x.1 x.2 = nmZ y.1 y.2 → x = y := by decide +kernel
theorem z_inj {k j k' j' : Nat} (h1 : k < 13) (h2 : j < 5) (h3 : k' < 13) (h4 : j' < 5) (e : nmZ k j = nmZ k' j') : k = k' ∧ j = j' := by
  have := z_inj0 _ (prz_in h1 h2) _ (prz_in h3 h4) e
  cases this; exact ⟨rfl, rfl⟩
theorem z_ok : ∀ x ∈ prz, okNm (nmZ x.1 x.2) = true := by decide +kernel
theorem fz_ne : ∀ us : Bool, ∀ x ∈ prs, ∀ y ∈ prz, nmF us x.1 x.2 ≠ nmZ y.1 y.2 := by decide +kernel
def zL : List Str := (List.range 13).map (nmK "Z")
theorem Z_ok : zL.Nodup ∧ ∀ s ∈ zL, okNm s = true := by decide +kernel
theorem bZ_ne : ∀ s ∈ stN, ∀ t ∈ zL, s ≠ t := by decide +kernel
theorem nZ_ne : ∀ s ∈ (List.range 9).map (nmK "N"), ∀ t ∈ zL, s ≠ t := by decide +kernel
theorem W_ok : okNm "W9" = true ∧ ∀ s ∈ tyN, s ≠ "W9" := by decide +kernel
def vw : List Str := ["V", "W"]
theorem vw_ok : vw.Nodup ∧ (∀ s ∈ vw, okNm s = true) ∧ ∀ s ∈ cbase, ∀ t ∈ vw, s ≠ t := by decide +kernel
structure FZ (nm : List Str) (T : List Ty) (cc K J : Nat) (fls : List Fl) : Prop where
  ok : ∀ r ∈ fls, FlOk nm T cc r
  nm : ∀ r ∈ fls, ∃ k j, j < 5 ∧ (k < K ∨ (k = K ∧ j < J)) ∧ r.nm = nmZ k j
  nd : (fls.map (·.nm)).Nodup
theorem FZ.next {nm : List Str} {T : List Ty} {cc K J : Nat} {fls : List Fl} (s : FZ nm T cc K J fls) : FZ nm T cc (K + 1) 0 fls :=
  ⟨s.ok, fun r hr => by
    obtain ⟨k, j, h1, h2, h3⟩ := s.nm r hr
    exact ⟨k, j, h1, .inl (by omega), h3⟩, s.nd⟩
theorem FZ.snoc {nm : List Str} {T : List Ty} {cc K J : Nat} {fls : List Fl} {r : Fl} (s : FZ nm T cc K J fls) (hK : K < 13) (hJ : J < 5) (ok : FlOk nm T cc r) (hn : r.nm = nmZ K J) : FZ nm T cc K (J + 1) (fls ++ [r]) := by
  refine ⟨fun x hx => ?_, fun x hx => ?_, ?_⟩
  · rcases List.mem_append.mp hx with q | q
    · exact s.ok x q
    · rw [List.mem_singleton.mp q]; exact ok
  · rcases List.mem_append.mp hx with q | q
    · obtain ⟨k, j, h1, h2, h3⟩ := s.nm x q
      exact ⟨k, j, h1, by omega, h3⟩
    · rw [List.mem_singleton.mp q]; exact ⟨K, J, hJ, by omega, hn⟩
  · rw [List.map_append, List.nodup_append]
    refine ⟨s.nd, by simp, fun a ha b hb e => ?_⟩
    obtain ⟨x, hx, rfl⟩ := List.mem_map.mp ha
    have hb : b = r.nm := by simpa using hb
    obtain ⟨k, j, h1, h2, h3⟩ := s.nm x hx
    rw [hb, h3, hn] at e
    obtain ⟨e1, e2⟩ := z_inj (by omega) h1 hK hJ e
    omega
structure TZ (T : List Ty) (K : Nat) (fls : List Fl) (tas : List Ta) (row : List Str) : Prop where
  nm : tas.map (·.nm) = (List.range K).map (nmK "Z")
  ok : ∀ t ∈ tas, ∃ y ∈ T, y.nm = t.ty ∧ ∃ o, chE fls t.ty y.t t.fl o
  fl : (tas.map (·.fl)).flatten ++ row = fls.map (·.nm)
theorem TZ.leg {T : List Ty} {K : Nat} {fls : List Fl} {tas : List Ta} {row : List Str} {r : Fl} (s : TZ T K fls tas row) : TZ T K (fls ++ [r]) tas (row ++ [r.nm]) :=
  ⟨s.nm, fun t ht => by
    obtain ⟨y, h1, h2, o, h3⟩ := s.ok t ht
    exact ⟨y, h1, h2, o, h3.mono fun f hf => List.mem_append_left _ hf⟩, by rw [← List.append_assoc, s.fl, List.map_append]; rfl⟩
theorem TZ.tail {T : List Ty} {K : Nat} {fls : List Fl} {tas : List Ta} {row : List Str} {y : Ty} {o : Option Fl} (s : TZ T K fls tas row) (hy : y ∈ T) (c : chE fls y.nm y.t row o) : TZ T (K + 1) fls (tas ++ [⟨nmK "Z" K, y.nm, row⟩]) [] :=
  ⟨by rw [List.map_append, s.nm, List.range_succ, List.map_append]; rfl, fun t ht => by
    rcases List.mem_append.mp ht with q | q
    · exact s.ok t q
    · rw [List.mem_singleton.mp q]; exact ⟨y, hy, rfl, o, c⟩, by rw [List.append_nil, ← s.fl, List.map_append, List.flatten_append]; simp⟩
/-- a flight with limits for more classes -/
def ext (c : Nat) (r : Fl) : Fl := { r with lim := r.lim ++ List.replicate c (r.lim.getLastD 0) }
theorem last_le {l : List Int} (pw : l.Pairwise (· ≥ ·)) : ∀ x ∈ l, x ≥ l.getLastD 0 := by
  intro x hx
  obtain ⟨ys, y, rfl⟩ : ∃ ys y, l = ys ++ [y] := ⟨l.dropLast, l.getLast (List.ne_nil_of_mem hx), (List.dropLast_concat_getLast _).symm⟩
  rw [List.getLastD_concat]
  rcases List.mem_append.mp hx with q | q
  · exact (List.pairwise_append.mp pw).2.2 x q y (by simp)
  · rw [List.mem_singleton.mp q]; exact Int.le_refl _
theorem last_mem {l : List Int} (h : l ≠ []) : l.getLastD 0 ∈ l := by
  obtain ⟨ys, y, rfl⟩ : ∃ ys y, l = ys ++ [y] := ⟨l.dropLast, l.getLast h, (List.dropLast_concat_getLast _).symm⟩
  rw [List.getLastD_concat]; simp
theorem chain_map {n n' : N} {c : Nat} {k t : Str} {turn : Int} (h : ∀ r ∈ n.fl, ext c r ∈ n'.fl) : ∀ {l : List Str} {o : Option Fl}, chain n k t turn o l → chain n' k t turn (o.map (ext c)) l
  | [], _, _ => trivial
  | s :: l, o, ⟨f, h1, h2, h3, h4, h5⟩ => by
    refine ⟨ext c f, h f h1, h2, h3, fun g hg => ?_, chain_map h h5⟩
    cases o with
    | none => cases hg
    | some g0 => cases hg; exact h4 g0 rfl
end Net

namespace Net
open PySem Lg
open L2 (atI ixN)
theorem nd_app {α : Type} {a b : List α} (h1 : a.Nodup) (h2 : b.Nodup) (h3 : ∀ x ∈ a, ∀ y ∈ b, x ≠ y) : (a ++ b).Nodup := List.nodup_append.mpr ⟨h1, h2, h3⟩
theorem mk_far {m : N} (R : Right m) (Nr : Near m) {sp st' : List St} {y : Ty} {mo : List Str} {z fl' : List Fl} {tz : List Ta} {s kz : Nat}
    (es : sp.map (·.nm) = (List.range s).map (nmK "Z")) (hs : 2 ≤ s ∧ m.st.length + s ≤ 12) (hsp : ∀ x ∈ sp, (-720 ≤ x.z ∧ x.z ≤ 840) ∧ (0 ≤ x.l ∧ x.l ≤ 600))
    (ey : y.nm = "W9") (hy : (1 ≤ y.s ∧ y.s ≤ 500) ∧ (0 ≤ y.t ∧ y.t ≤ 600)) (hmo : mo.Sublist vw)
    (fz : FZ (sp.map (·.nm)) [y] (m.cl.length + mo.length) kz 0 z) (zl : m.fl.length + z.length ≤ 40) (hkz : m.ta.length + kz ≤ 12) (tz' : TZ [y] kz z tz [])
    (ps : st'.Perm (m.st ++ sp)) (pf : fl'.Perm (m.fl.map (ext mo.length) ++ z)) :
    Right ⟨st', m.ty ++ [y], m.cl ++ mo, fl', m.ta ++ tz, m.fa⟩ := by
  have mol : mo.length ≤ 2 := hmo.length_le
  have lsp : sp.length = s := by have := congrArg List.length es; simpa using this
  have ltz : tz.length = kz := by have := congrArg List.length tz'.nm; simpa using this
  have lst : st'.length = m.st.length + sp.length := by rw [ps.length_eq, List.length_append]
  have lfl : fl'.length = m.fl.length + z.length := by rw [pf.length_eq, List.length_append, List.length_map]
  have M := fun q (hq : q < 6) => R.many q hq
  have c1 : m.ty.length ≤ 3 := Nr.tyl
  have c2 : m.cl.length ≤ 4 := Nr.cll
  have c5 : m.fa.length ≤ 8 := Nr.fal
  have zsub : ∀ k, k ≤ 13 → ((List.range k).map (nmK "Z")).Sublist zL := fun k hk => (List.range_sublist.mpr hk).map _
  have zs := zsub s (by omega)
  have zk := zsub kz (by omega)
  have pst : (st'.map (·.nm)).Perm (nms m 0 ++ sp.map (·.nm)) := by
    have := ps.map (·.nm)
    rwa [List.map_append] at this
  have extn : (m.fl.map (ext mo.length)).map (·.nm) = nms m 3 := by rw [List.map_map]; rfl
  have pfl : (fl'.map (·.nm)).Perm (nms m 3 ++ z.map (·.nm)) := by
    have := pf.map (·.nm)
    rwa [List.map_append, extn] at this
  have zn : ∀ r ∈ z, ∃ k j, (k, j) ∈ prz ∧ r.nm = nmZ k j := fun r hr => by
    obtain ⟨k, j, h1, h2, h3⟩ := fz.nm r hr
    exact ⟨k, j, prz_in (by omega) h1, h3⟩
  refine { many := ?_, cls := ?_, good := ?_, once := ?_, st := ?_, ty := ?_, fl := ?_, ta := ?_, flown := ?_, fa := ?_ }
  · intro q hq
    obtain rfl | rfl | rfl | rfl | rfl | rfl : q = 0 ∨ q = 1 ∨ q = 2 ∨ q = 3 ∨ q = 4 ∨ q = 5 := by omega
    · show (st'.map (·.nm)).length ≤ 12; rw [List.length_map]; omega
    · show ((m.ty ++ [y]).map (·.nm)).length ≤ 4; rw [List.length_map, List.length_append, List.length_singleton]; omega
    · show (m.cl ++ mo).length ≤ 6; rw [List.length_append]; omega
    · show (fl'.map (·.nm)).length ≤ 40; rw [List.length_map]; omega
    · show ((m.ta ++ tz).map (·.nm)).length ≤ 12; rw [List.length_map, List.length_append]; omega
    · exact M 5 (by decide)
  · intro e
    exact R.cls (List.append_eq_nil_iff.mp e).1
  · intro q hq
    obtain rfl | rfl | rfl | rfl | rfl | rfl : q = 0 ∨ q = 1 ∨ q = 2 ∨ q = 3 ∨ q = 4 ∨ q = 5 := by omega
    · intro x hx
      rcases List.mem_append.mp (pst.mem_iff.mp hx) with q | q
      · exact R.good 0 (by decide) x q
      · rw [es] at q; exact Z_ok.2 x (zs.subset q)
    · intro x hx
      have hx : x ∈ (m.ty ++ [y]).map (·.nm) := hx
      rw [List.map_append] at hx
      rcases List.mem_append.mp hx with q | q
      · exact R.good 1 (by decide) x q
      · have : x = y.nm := by simpa using q
        rw [this, ey]; exact W_ok.1
    · intro x hx
      rcases List.mem_append.mp hx with q | q
      · exact R.good 2 (by decide) x q
      · exact vw_ok.2.1 x (hmo.subset q)
    · intro x hx
      rcases List.mem_append.mp (pfl.mem_iff.mp hx) with q | q
      · exact R.good 3 (by decide) x q
      · obtain ⟨r, hr, rfl⟩ := List.mem_map.mp q
        obtain ⟨k, j, h1, h2⟩ := zn r hr
        rw [h2]; exact z_ok (k, j) h1
    · intro x hx
      have hx : x ∈ (m.ta ++ tz).map (·.nm) := hx
      rw [List.map_append] at hx
      rcases List.mem_append.mp hx with q | q
      · exact R.good 4 (by decide) x q
      · rw [tz'.nm] at q; exact Z_ok.2 x (zk.subset q)
    · exact R.good 5 (by decide)
  · intro q hq
    obtain rfl | rfl | rfl | rfl | rfl | rfl : q = 0 ∨ q = 1 ∨ q = 2 ∨ q = 3 ∨ q = 4 ∨ q = 5 := by omega
    · refine pst.nodup_iff.mpr (nd_app (R.once 0 (by decide)) (by rw [es]; exact Z_ok.1.sublist zs) fun a ha b hb => ?_)
      rw [es] at hb
      exact bZ_ne a (Nr.st a ha) b (zs.subset hb)
    · show ((m.ty ++ [y]).map (·.nm)).Nodup
      rw [List.map_append]
      refine nd_app (R.once 1 (by decide)) (by simp) fun a ha b hb => ?_
      have hb : b = y.nm := by simpa using hb
      rw [hb, ey]; exact W_ok.2 a (Nr.ty a ha)
    · exact nd_app (R.once 2 (by decide)) (vw_ok.1.sublist hmo) fun a ha b hb => vw_ok.2.2 a (Nr.cl a ha) b (hmo.subset hb)
    · refine pfl.nodup_iff.mpr (nd_app (R.once 3 (by decide)) fz.nd fun a ha b hb => ?_)
      obtain ⟨us, k, j, h1, h2, rfl⟩ := Nr.fl a ha
      obtain ⟨r, hr, rfl⟩ := List.mem_map.mp hb
      obtain ⟨k', j', h3, h4⟩ := zn r hr
      rw [h4]; exact fz_ne us (k, j) (prs_in h1 h2) (k', j') h3
    · show ((m.ta ++ tz).map (·.nm)).Nodup
      rw [List.map_append, tz'.nm]
      exact nd_app (R.once 4 (by decide)) (Z_ok.1.sublist zk) fun a ha b hb => nZ_ne a (Nr.ta a ha) b (zk.subset hb)
    · exact R.once 5 (by decide)
  · intro x hx
    rcases List.mem_append.mp (ps.mem_iff.mp hx) with q | q
    · exact R.st x q
    · exact hsp x q
  · intro x hx
    rcases List.mem_append.mp hx with q | q
    · exact R.ty x q
    · rw [List.mem_singleton.mp q]; exact hy
  · intro r hr
    rcases List.mem_append.mp (pf.mem_iff.mp hr) with q | q
    · obtain ⟨r0, h0, rfl⟩ := List.mem_map.mp q
      obtain ⟨⟨x1, x2, x3⟩, ti, ty, pr, ll, lr, lp⟩ := R.fl r0 h0
      have ne : r0.lim ≠ [] := fun e => by
        have : r0.lim.length = 0 := by rw [e]; rfl
        exact R.cls (List.eq_nil_of_length_eq_zero (by omega))
      refine ⟨⟨pst.mem_iff.mpr (List.mem_append_left _ x1), pst.mem_iff.mpr (List.mem_append_left _ x2), x3⟩, ti, ?_, pr, ?_, ?_, ?_⟩
      · show r0.ty ∈ (m.ty ++ [y]).map (·.nm)
        rw [List.map_append]; exact List.mem_append_left _ ty
      · show (r0.lim ++ List.replicate mo.length (r0.lim.getLastD 0)).length = (m.cl ++ mo).length
        rw [List.length_append, List.length_append, List.length_replicate, ll]
      · intro x hx
        rcases List.mem_append.mp hx with q | q
        · exact lr x q
        · rw [List.eq_of_mem_replicate q]; exact lr _ (last_mem ne)
      · refine List.pairwise_append.mpr ⟨lp, List.pairwise_replicate.mpr (.inr (Int.le_refl _)), fun a ha b hb => ?_⟩
        rw [List.eq_of_mem_replicate hb]; exact last_le lp a ha
    · have o := fz.ok r q
      refine ⟨⟨pst.mem_iff.mpr (List.mem_append_right _ o.ends.1), pst.mem_iff.mpr (List.mem_append_right _ o.ends.2.1), o.ends.2.2⟩, o.times, ?_, o.pr, ?_, o.lr, o.lp⟩
      · show r.ty ∈ (m.ty ++ [y]).map (·.nm)
        rw [List.map_append]; exact List.mem_append_right _ o.ty
      · show r.lim.length = (m.cl ++ mo).length
        rw [List.length_append]; exact o.ll
  · intro t ht
    rcases List.mem_append.mp ht with q | q
    · obtain ⟨x, h1, h2, h3⟩ := R.ta t q
      exact ⟨x, List.mem_append_left _ h1, h2, chain_map (c := mo.length) (fun r hr => pf.mem_iff.mpr (List.mem_append_left _ (List.mem_map_of_mem hr))) h3⟩
    · obtain ⟨x, h1, h2, o, h3⟩ := tz'.ok t q
      refine ⟨x, List.mem_append_right _ h1, h2, ?_⟩
      have := (h3.mono fun f hf => pf.mem_iff.mpr (List.mem_append_right _ hf)).chain (n := ⟨st', m.ty ++ [y], m.cl ++ mo, fl', m.ta ++ tz, m.fa⟩) (k := t.nm) [] trivial
      rwa [List.append_nil] at this
  · show ((m.ta ++ tz).map (·.fl)).flatten.Perm (fl'.map (·.nm))
    have e1 := tz'.fl
    rw [List.append_nil] at e1
    rw [List.map_append, List.flatten_append, e1]
    exact (R.flown.append_right _).trans pfl.symm
  · intro f hf
    obtain ⟨⟨x1, x2, x3⟩, h1, h2⟩ := R.fa f hf
    exact ⟨⟨pst.mem_iff.mpr (List.mem_append_left _ x1), pst.mem_iff.mpr (List.mem_append_left _ x2), x3⟩, List.mem_append_left _ h1, h2⟩
/-- what is known of the names of a net with or without a far part -/
structure Far (m : N) : Prop where
  st : ∀ s ∈ nms m 0, s ∈ stN ∨ s ∈ zL
  ty : ∀ s ∈ nms m 1, s ∈ tyN ∨ s = "W9"
  cl : ∀ s ∈ m.cl, s ∈ cbase ∨ s ∈ vw
  fl : ∀ s ∈ nms m 3, (∃ us k j, k < 9 ∧ j < 5 ∧ s = nmF us k j) ∨ ∃ k j, k < 13 ∧ j < 5 ∧ s = nmZ k j
  ta : ∀ s ∈ nms m 4, s ∈ (List.range 9).map (nmK "N") ∨ s ∈ zL
  fal : m.fa.length ≤ 8
  st2 : 2 ≤ m.st.length
  ty1 : 1 ≤ m.ty.length
theorem Near.far {m : N} (n : Near m) : Far m :=
  ⟨fun s h => .inl (n.st s h), fun s h => .inl (n.ty s h), fun s h => .inl (n.cl s h), fun s h => .inl (n.fl s h), fun s h => .inl (n.ta s h), n.fal, n.st2, n.ty1⟩
theorem far_far {m : N} (Nr : Near m) {sp st' : List St} {y : Ty} {mo : List Str} {z fl' : List Fl} {tz : List Ta} {cc s kz : Nat}
    (es : sp.map (·.nm) = (List.range s).map (nmK "Z")) (hs : s ≤ 12) (ey : y.nm = "W9") (hmo : mo.Sublist vw)
    (fz : FZ (sp.map (·.nm)) [y] cc kz 0 z) (hkz : kz ≤ 12) (tz' : TZ [y] kz z tz [])
    (ps : st'.Perm (m.st ++ sp)) (pf : fl'.Perm (m.fl.map (ext mo.length) ++ z)) : Far ⟨st', m.ty ++ [y], m.cl ++ mo, fl', m.ta ++ tz, m.fa⟩ := by
  have zsub : ∀ k, k ≤ 13 → ((List.range k).map (nmK "Z")).Sublist zL := fun k hk => (List.range_sublist.mpr hk).map _
  have pst : (st'.map (·.nm)).Perm (nms m 0 ++ sp.map (·.nm)) := by
    have := ps.map (·.nm)
    rwa [List.map_append] at this
  have extn : (m.fl.map (ext mo.length)).map (·.nm) = nms m 3 := by rw [List.map_map]; rfl
  have pfl : (fl'.map (·.nm)).Perm (nms m 3 ++ z.map (·.nm)) := by
    have := pf.map (·.nm)
    rwa [List.map_append, extn] at this
  have lst : st'.length = m.st.length + sp.length := by rw [ps.length_eq, List.length_append]
  have h2 := Nr.st2
  refine { st := fun x hx => ?_, ty := fun x hx => ?_, cl := fun x hx => ?_, fl := fun x hx => ?_, ta := fun x hx => ?_, fal := Nr.fal, st2 := by show 2 ≤ st'.length; omega, ty1 := by show 1 ≤ (m.ty ++ [y]).length; rw [List.length_append, List.length_singleton]; omega }
  · rcases List.mem_append.mp (pst.mem_iff.mp hx) with q | q
    · exact .inl (Nr.st x q)
    · rw [es] at q; exact .inr ((zsub s (by omega)).subset q)
  · have hx : x ∈ (m.ty ++ [y]).map (·.nm) := hx
    rw [List.map_append] at hx
    rcases List.mem_append.mp hx with q | q
    · exact .inl (Nr.ty x q)
    · have : x = y.nm := by simpa using q
      rw [this, ey]; exact .inr rfl
  · rcases List.mem_append.mp hx with q | q
    · exact .inl (Nr.cl x q)
    · exact .inr (hmo.subset q)
  · rcases List.mem_append.mp (pfl.mem_iff.mp hx) with q | q
    · exact .inl (Nr.fl x q)
    · obtain ⟨r, hr, rfl⟩ := List.mem_map.mp q
      obtain ⟨k, j, h1, h2, h3⟩ := fz.nm r hr
      exact .inr ⟨k, j, by omega, h1, h3⟩
  · have hx : x ∈ (m.ta ++ tz).map (·.nm) := hx
    rw [List.map_append] at hx
    rcases List.mem_append.mp hx with q | q
    · exact .inl (Nr.ta x q)
    · rw [tz'.nm] at q; exact .inr ((zsub kz (by omega)).subset q)
end Net

namespace K72
open PySem Lg Net
open L2 (atI ixN)
set_option checkBinderAnnotations false
variable {ζ : Ad}
theorem z_nodup {k : Nat} (hk : k ≤ 13) : ((List.range k).map (nmK "Z")).Nodup := by
  have h1 : ((List.range k).map (nmK "Z")).Sublist ((List.range 13).map (nmK "Z")) := (List.range_sublist.mpr hk).map _
  have h2 : ((List.range 13).map (nmK "Z")).Nodup := Z_ok.1
  exact h2.sublist h1
theorem pyL_ints' : ∀ {l : List Int}, pyL (l.map D.int) = some (l.map PyData.int)
  | [] => rfl
  | x :: l => by simp only [List.map_cons, pyL, D.py, pyL_ints' (l := l)]
def flP (f : Fl) : PyData := .tuple [.str f.nm, .str f.a, .str f.b, .int f.dp, .int f.ar, .str f.ty, .int f.pr, .tuple (f.lim.map .int)]
theorem py_fl {f : Fl} : D.py (flD f) = some (flP f) := by
  simp only [flD, flP, D.py, pyL, pyL_ints', Option.map_some]
theorem pyL_fl : ∀ {l : List Fl}, pyL (l.map flD) = some (l.map flP)
  | [] => rfl
  | x :: l => by simp only [List.map_cons, pyL, py_fl, pyL_fl (l := l)]
theorem ne_tup {h : LH} {Q : QD} {l : List Fl} : @wcmp .Eq (.tup (l.map flD)) (.tup []) h (Box.mk Q) = Q (.bl (decide (l = []))) h := by
  show eqW (.tup (l.map flD)) (.tup []) h (fun b => Q (.bl b) h) = _
  have e1 : pv_ h (.tup (l.map flD)) = some (.tuple (l.map flP)) := by
    show D.py (.tup (l.map flD)) = _
    simp only [D.py, pyL_fl, Option.map_some]
  have e2 : pv_ h (.tup []) = some (.tuple []) := rfl
  unfold eqW
  rw [e1, e2]
  have e3 : PyData.eqv (.tuple (l.map flP)) (.tuple []) = decide (l = []) := by
    cases l with
    | nil => simp [PyData.eqv, PyData.eqvAll]
    | cons x l => simp [PyData.eqv, PyData.eqvAll]
  simp only [e3]
  exact propext ⟨fun z => z.2, fun z => ⟨by simp only [PyData.depth, PyData.depthAll]; omega, z⟩⟩
theorem cut7 {a b c d e f g x : D} : cutD [a, b, c, d, e, f, g, x] none (some 7) = [a, b, c, d, e, f, g] := cut_hi _ 7
theorem cut_last {l : List Int} (hl : l ≠ []) : cutD (l.map .int) (some (-1)) none = [.int (l.getLastD 0)] := by
  obtain ⟨ys, y, rfl⟩ : ∃ ys y, l = ys ++ [y] := ⟨l.dropLast, l.getLast hl, (List.dropLast_concat_getLast _).symm⟩
  unfold cutD
  rw [HT.sIx_none]
  have e : HT.sIx ((ys ++ [y]).map D.int).length 0 (some (-1)) = ys.length := by
    show (if (-1 : Int) < 0 then (-1 + (((ys ++ [y]).map D.int).length : Int)).toNat else min (-1 : Int).toNat ((ys ++ [y]).map D.int).length) = _
    rw [if_pos (by decide)]; simp; omega
  rw [e, List.map_append, List.drop_left' (by simp), List.getLastD_concat]
  simp
def fExt (c : Nat) : D → Option D
  | .tup [n, a, b, dp, ar, ty, pr, .tup ls] => some (.tup [n, a, b, dp, ar, ty, pr, .tup (ls ++ List.replicate c (ls.getLastD .non))])
  | _ => none
theorem fExt_fl {c : Nat} {r : Fl} (hr : r.lim ≠ []) : fExt c (flD r) = some (flD (ext c r)) := by
  obtain ⟨ys, y, e⟩ : ∃ ys y, r.lim = ys ++ [y] := ⟨r.lim.dropLast, r.lim.getLast hr, (List.dropLast_concat_getLast _).symm⟩
  simp only [fExt, flD, ext, e, List.map_append, List.map_cons, List.map_nil, List.getLastD_concat, List.map_replicate]
theorem rep_one {k : Nat} {d : D} : (List.replicate k [d]).flatten = List.replicate k d := by
  induction k with
  | zero => rfl
  | succ k ih => rw [List.replicate_succ, List.flatten_cons, ih, List.replicate_succ]; rfl
theorem fz1 : ∀ k, k < 13 → (("z" : Str) ++ ((toString ((k : Nat) : Int) : String) : Str)).length + ("_" : Str).length ≤ 10 := by decide +kernel
theorem fz2 : ∀ k, k < 13 → ∀ j, j < 5 → (("z" : Str) ++ ((toString ((k : Nat) : Int) : String) : Str) ++ ("_" : Str)).length + ((toString ((j : Nat) : Int) : String) : Str).length ≤ 10 := by decide +kernel
section
variable {n : Nat} {h : LH} {Q : QD} {e : EX}
theorem far_s {is : List Int} {a : Addr} {p : Int} {m : N} (ha : h a = some (.lst [.int p])) (hp : 0 ≤ p) (R : Right m) (Nr : Near m)
    (k : ∀ (m : N) (p' : Int), Right m → Far m → 0 ≤ p' → Q (netD m) (put h a (.lst [.int p']))) :
    CF (PP ζ) TB (n + 5) 23 [netD m, .lst (is.map D.int), .ref a] h Q e := by
  have g := Gn.refl ha hp
  refine CF_of (fn := ⟨3, 23, w__law_far_net⟩) rfl rfl ?_; dsimp only; unfold w__law_far_net
  simp_arith only [netD, netL, PF_cf]
  refine ⟨trivial, ?_⟩
  refine takeC (many := 3) ha hp (by decide) fun r r0 r1 => ?_
  have g := g.mv (p' := p + 1) (by omega)
  simp_arith only [netD, netL, PF_cf]
  refine br_of (fun z => ?_) (fun z => ?_)
  · simp_arith
    exact Done_of (k m _ R Nr.far (by omega))
  simp_arith only [ne_tup, netD, netL, PF_cf]
  refine br_of (fun z => ?_) (fun z => ?_)
  · simp_arith
    exact Done_of (k m _ R Nr.far (by omega))
  generalize put h a (.lst [.int (p + 1)]) = H at *
  simp_arith only [PF_cf]
  have stl := Nr.stl
  have tal := Nr.tal
  have cll := Nr.cll
  obtain ⟨p', ep⟩ : ∃ x : Int, x = p + 1 := ⟨_, rfl⟩
  rw [← ep] at g
  refine takeC g.at_ g.nn (by decide) fun r q0 q1 => ?_
  obtain ⟨c0, rfl⟩ : ∃ c : Nat, r = (c : Int) := ⟨r.toNat, by omega⟩
  have g := g.mv (p' := p' + 1) g.nn2
  generalize p' + 1 = p' at *
  generalize put H a (.lst [.int p']) = H at *
  have ec := cut_nm (l := vw) (ds := [.str "V", .str "W"]) rfl (x := (c0 : Int)) (k := c0) rfl
  have mos : (vw.take c0).Sublist vw := List.take_sublist _ _
  have mol := mos.length_le
  generalize vw.take c0 = mo at *
  simp_arith only [ec, PF_cf]
  refine takeC g.at_ g.nn (by omega) fun r q0 q1 => ?_
  obtain ⟨c1, rfl⟩ : ∃ c : Nat, r = (c : Int) := ⟨r.toNat, by omega⟩
  have g := g.mv (p' := p' + 1) g.nn2
  generalize p' + 1 = p' at *
  generalize put H a (.lst [.int p']) = H at *
  simp_arith only [PF_cf]
  refine AND_of (by omega) ?_
  refine Compr_inv (fun i acc h' => ∃ (sp : List St) (p' : Int), sp.map (·.nm) = (List.range i).map (nmK "Z") ∧ (∀ s ∈ sp, (-720 ≤ s.z ∧ s.z ≤ 840) ∧ (0 ≤ s.l ∧ s.l ≤ 600)) ∧ acc = sp.map stD ∧ Gn a h h' p') (by rw [rngL_len]; unfold sizeLine; omega) ⟨[], _, rfl, nofun, rfl, g⟩ ?_ ?_
  · rintro i d acc H hd ⟨sp, p', e1, e2, rfl, g⟩
    obtain ⟨hi, rfl⟩ := rngL_get hd
    rw [show (0 : Int) + (i : Int) = (i : Int) by omega]
    refine ⟨trivial, ?_⟩
    simp_arith only [PF_cf]
    refine AND_of (nm_log (by omega)) ?_
    simp_arith only [PF_cf]
    refine AND_of (Nat.le_trans (nm_fit1 i (by omega)) (by decide)) ?_
    simp_arith only [PF_cf]
    refine oneC g.at_ g.nn (by simp) fun d hd1 => ?_
    obtain ⟨z, rfl, z1, z2⟩ := pick (l := [0, 840, -720]) (lo := -720) (hi := 840) hd1 (by decide)
    have g := g.mv (p' := p' + 1) g.nn2
    try simp_arith only [PF_cf]
    refine oneC g.at_ g.nn (by simp) fun d2 hd2 => ?_
    obtain ⟨y, rfl, y1, y2⟩ := pick (l := [0, 30, 600]) (lo := 0) (hi := 600) hd2 (by decide)
    have g := g.mv (p' := p' + 1 + 1) g.nn2
    rw [put_put] at g
    try simp_arith only [PF_cf]
    refine ⟨sp ++ [⟨nmK "Z" i, z, y⟩], _, by rw [List.map_append, e1, List.range_succ, List.map_append]; rfl, fun t ht => ?_, by rw [List.map_append]; rfl, g⟩
    rcases List.mem_append.mp ht with q | q
    · exact e2 t q
    · rw [List.mem_singleton.mp q]; exact ⟨⟨z1, z2⟩, y1, y2⟩
  rintro acc H ⟨sp, p', es, hsp, rfl, g⟩
  rw [rngL_len, show (2 + (c1 : Int)).toNat = 2 + c1 by omega] at es
  have spl : sp.length = 2 + c1 := by have := congrArg List.length es; simpa using this
  refine ⟨trivial, ?_⟩
  simp_arith only [PF_cf]
  refine oneC g.at_ g.nn (by simp) fun d hd1 => ?_
  obtain ⟨ks, rfl, k1, k2⟩ := pick (l := [60, 150, 500]) (lo := 1) (hi := 500) hd1 (by decide)
  have g := g.mv (p' := p' + 1) g.nn2
  generalize p' + 1 = p' at *
  generalize put H a (.lst [.int p']) = H at *
  try simp_arith only [PF_cf]
  refine oneC g.at_ g.nn (by simp) fun d hd1 => ?_
  obtain ⟨kt, rfl, k3, k4⟩ := pick (l := [0, 45]) (lo := 0) (hi := 45) hd1 (by decide)
  have g := g.mv (p' := p' + 1) g.nn2
  generalize p' + 1 = p' at *
  generalize put H a (.lst [.int p']) = H at *
  try simp_arith only [PF_cf]
  refine New_of fun b13 hb13 => ?_
  obtain ⟨h13, n13⟩ := g.none hb13
  have t13 : put H b13 (.lst []) b13 = some (.lst []) := put_same
  have g := g.loc (c := .lst []) h13 n13
  generalize put H b13 (.lst []) = H at *
  simp_arith only [PF_cf]
  refine New_of fun b14 hb14 => ?_
  obtain ⟨h14, n14⟩ := g.none hb14
  have x14 : b13 ≠ b14 := ne_cell t13 hb14
  have t13 : put H b14 (.lst []) b13 = some (.lst []) := by rw [put_ne x14]; exact t13
  have t14 : put H b14 (.lst []) b14 = some (.lst []) := put_same
  have g := g.loc (c := .lst []) h14 n14
  generalize put H b14 (.lst []) = H at *
  simp_arith only [PF_cf]
  refine takeC g.at_ g.nn (by omega) fun r w0 w1 => ?_
  obtain ⟨kz, rfl⟩ : ∃ c : Nat, r = (c : Int) := ⟨r.toNat, by omega⟩
  have t13 := g.get t13 n13 (d := .lst [.int (p' + 1)])
  have t14 := g.get t14 n14 (d := .lst [.int (p' + 1)])
  have g := g.mv (p' := p' + 1) g.nn2
  generalize p' + 1 = p' at *
  generalize put H a (.lst [.int p']) = H at *
  simp_arith only [PF_cf]
  refine AND_of (by omega) ?_
  have spn : (sp.map (·.nm)).Nodup := by rw [es]; exact z_nodup (by omega)
  refine Loop_of (fun i ρ h' => ∃ (z : List Fl) (tz : List Ta) (p' : Int), FZ (sp.map (·.nm)) [⟨"W9", ks, kt⟩] (m.cl.length + mo.length) i 0 z ∧ TZ [⟨"W9", ks, kt⟩] i z tz [] ∧ m.fl.length + z.length ≤ 40 ∧
    ρ = [some (netD m), some (.lst (is.map D.int)), some (.ref a), some (.tup (m.st.map stD)), some (.tup (m.ty.map tyD)), some (.tup (m.cl.map .str)), some (.tup (m.fl.map flD)), some (.tup (m.ta.map taD)), some (.tup (m.fa.map faD)), some (.tup (mo.map .str)), some (.lst (sp.map stD)), none, some (tyD ⟨"W9", ks, kt⟩), some (.ref b13), some (.ref b14), none, none, none, none, none, none, none, none] ∧ h' b13 = some (.lst (z.map flD)) ∧ h' b14 = some (.lst (tz.map taD)) ∧ Gn a h h' p')
    ⟨[], [], p', ⟨nofun, nofun, List.nodup_nil⟩, ⟨by simp, nofun, by simp⟩, (by have := R.many 3 (by decide); simpa [nms, most] using this), by simp_arith only [ec, tyD], t13, t14, g⟩ ?_ ?_
  · clear t13 t14 g
    rintro i d ρ H hd ⟨z, tz, p', fz, tzz, zl, rfl, t13, t14, g⟩
    obtain ⟨hi, rfl⟩ := rngL_get hd
    rw [show (0 : Int) + (i : Int) = (i : Int) by omega]
    simp_arith only [PF_cf]
    refine AND_of (mulL (by omega) (by omega)) ?_
    simp_arith only [PF_cf]
    refine br_of (fun _ => ?_) (fun q => absurd (of_decide_eq_false q) (by omega))
    obtain ⟨pair, epair, pa0, pa1⟩ : ∃ pr : Int, pr = 2 * (i : Int) % ((sp.length : Int) - 1) ∧ 0 ≤ pr ∧ pr < (sp.length : Int) - 1 := ⟨_, rfl, Int.emod_nonneg _ (by omega), Int.emod_lt_of_pos _ (by omega)⟩
    simp_arith only [← epair, PF_cf]
    refine takeC g.at_ g.nn (by decide) fun hr y0 y1 => ?_
    obtain ⟨here, eh, hh0, hh1⟩ : ∃ x : Int, x = pair + hr ∧ pair ≤ x ∧ x ≤ pair + 1 := ⟨_, rfl, by omega, by omega⟩
    have t13 := g.get t13 n13 (d := .lst [.int (p' + 1)])
    have t14 := g.get t14 n14 (d := .lst [.int (p' + 1)])
    have g := g.mv (p' := p' + 1) g.nn2
    generalize p' + 1 = p' at *
    generalize put H a (.lst [.int p']) = H at *
    simp_arith only [← eh, PF_cf]
    refine takeC g.at_ g.nn (by decide) fun tr u0 u1 => ?_
    have t13 := g.get t13 n13 (d := .lst [.int (p' + 1)])
    have t14 := g.get t14 n14 (d := .lst [.int (p' + 1)])
    have g := g.mv (p' := p' + 1) g.nn2
    generalize p' + 1 = p' at *
    generalize put H a (.lst [.int p']) = H at *
    simp_arith only [PF_cf]
    refine AND_of (mulL (by omega) (by omega)) ?_
    obtain ⟨time, et, tm0, tm1⟩ : ∃ x : Int, x = 60 * tr ∧ 0 ≤ x ∧ x ≤ 720 := ⟨_, rfl, by omega, by omega⟩
    simp_arith only [← et, PF_cf]
    refine New_of fun b18 hb18 => ?_
    obtain ⟨h18, n18⟩ := g.none hb18
    have z13 : b13 ≠ b18 := ne_cell t13 hb18
    have z14 : b14 ≠ b18 := ne_cell t14 hb18
    have t13 : put H b18 (.lst []) b13 = some (.lst (z.map flD)) := by rw [put_ne z13]; exact t13
    have t14 : put H b18 (.lst []) b14 = some (.lst (tz.map taD)) := by rw [put_ne z14]; exact t14
    have t18 : put H b18 (.lst []) b18 = some (.lst []) := put_same
    have g := g.loc (c := .lst []) h18 n18
    generalize put H b18 (.lst []) = H at *
    simp_arith only [PF_cf]
    refine takeC g.at_ g.nn (by decide) fun lr s0 s1 => ?_
    have t13 := g.get t13 n13 (d := .lst [.int (p' + 1)])
    have t14 := g.get t14 n14 (d := .lst [.int (p' + 1)])
    have t18 := g.get t18 n18 (d := .lst [.int (p' + 1)])
    have g := g.mv (p' := p' + 1) g.nn2
    generalize p' + 1 = p' at *
    generalize put H a (.lst [.int p']) = H at *
    simp_arith only [t13, PF_cf]
    refine AND_of (by split <;> omega) ?_
    obtain ⟨cnt, hcnt, cn1, cn2⟩ : ∃ c : Nat, (if 40 - (m.fl.length : Int) - (z.length : Int) < 1 + lr then 40 - (m.fl.length : Int) - (z.length : Int) else 1 + lr) = (c : Int) ∧ m.fl.length + z.length + c ≤ 40 ∧ c ≤ 5 := by
      refine ⟨(if 40 - (m.fl.length : Int) - (z.length : Int) < 1 + lr then 40 - (m.fl.length : Int) - (z.length : Int) else 1 + lr).toNat, ?_, ?_, ?_⟩ <;> split <;> omega
    rw [hcnt]
    refine Loop_of (fun j ρ h' => ∃ (z' : List Fl) (row : List Str) (o : Option Fl) (here time p' : Int), FZ (sp.map (·.nm)) [⟨"W9", ks, kt⟩] (m.cl.length + mo.length) i j z' ∧ TZ [⟨"W9", ks, kt⟩] i z' tz row ∧ z'.length = z.length + j ∧ chE z' "W9" kt row o ∧
      (∀ g, o = some g → (∃ s, sp[here.toNat]? = some s ∧ g.b = s.nm) ∧ g.ar + kt ≤ time) ∧ pair ≤ here ∧ here ≤ pair + 1 ∧ 0 ≤ time ∧ time ≤ 720 + 400 * (j : Int) ∧
      ρ = [some (netD m), some (.lst (is.map D.int)), some (.ref a), some (.tup (m.st.map stD)), some (.tup (m.ty.map tyD)), some (.tup (m.cl.map .str)), some (.tup (m.fl.map flD)), some (.tup (m.ta.map taD)), some (.tup (m.fa.map faD)), some (.tup (mo.map .str)), some (.lst (sp.map stD)), some (.int (i : Int)), some (tyD ⟨"W9", ks, kt⟩), some (.ref b13), some (.ref b14), some (.int pair), some (.int here), some (.int time), some (.ref b18), none, none, none, none] ∧ h' b13 = some (.lst (z'.map flD)) ∧ h' b14 = some (.lst (tz.map taD)) ∧ h' b18 = some (.lst (row.map .str)) ∧ Gn a h h' p')
      ⟨z, [], none, here, time, p', fz, tzz, rfl, .nil, nofun, hh0, hh1, tm0, by omega, by simp_arith only [epair, eh, et, tyD], t13, t14, t18, g⟩ ?_ ?_
    · clear t13 t14 t18 g fz tzz
      rintro j d ρ H hd ⟨z', row, o, here, time, p', fz, tzz, zl2, ch, ho, e1, e2, e3, e4, rfl, t13, t14, t18, g⟩
      obtain ⟨hj, rfl⟩ := rngL_get hd
      rw [show (0 : Int) + (j : Int) = (j : Int) by omega]
      have hj : j < 5 := by omega
      have hi13 : i < 13 := by omega
      obtain ⟨h1, rfl⟩ : ∃ c : Nat, here = (c : Int) := ⟨here.toNat, by omega⟩
      obtain ⟨h2, eh2⟩ : ∃ c : Nat, 2 * pair + 1 - (h1 : Int) = (c : Int) := ⟨(2 * pair + 1 - (h1 : Int)).toNat, by omega⟩
      have ne12 : h1 ≠ h2 := by omega
      obtain ⟨s1, hs1⟩ : ∃ s, sp[h1]? = some s := ⟨_, List.getElem?_eq_getElem (show h1 < sp.length by omega)⟩
      obtain ⟨s2, hs2⟩ : ∃ s, sp[h2]? = some s := ⟨_, List.getElem?_eq_getElem (show h2 < sp.length by omega)⟩
      have a1 : atI (sp.map stD) (h1 : Int) = some (stD s1) := by rw [at_nat, List.getElem?_map, hs1]; rfl
      have a2 : atI (sp.map stD) (h2 : Int) = some (stD s2) := by rw [at_nat, List.getElem?_map, hs2]; rfl
      simp_arith only [PF_cf]
      refine AND_of (mulL (by omega) (by omega)) ?_
      simp_arith only [eh2, PF_cf]
      refine AND_of (nm_log (by omega)) ?_
      simp_arith only [PF_cf]
      refine AND_of (Nat.le_trans (nm_fit1 i (by omega)) (by decide)) ?_
      simp_arith only [PF_cf]
      refine AND_of (Nat.le_trans (fz1 i hi13) (by decide)) ?_
      simp_arith only [PF_cf]
      refine AND_of (nm_log (by omega)) ?_
      simp_arith only [PF_cf]
      refine AND_of (Nat.le_trans (fz2 i hi13 j hj) (by decide)) ?_
      simp_arith only [PF_cf]
      refine AND_of (by rw [t13]; rfl) ?_
      simp_arith only [eh2, a1, a2, stD, tyD, at_0, at_1, at_2, PF_cf]
      have mol2 : mo.length ≤ 2 := mol
      refine AND_of ⟨by omega, by omega, by simp⟩ ?_
      have eR : (List.replicate ((m.cl.length : Int) + (mo.length : Int)).toNat [D.int ks]).flatten = (List.replicate (m.cl.length + mo.length) ks).map D.int := by
        rw [rep_one, List.map_replicate, show ((m.cl.length : Int) + (mo.length : Int)).toNat = m.cl.length + mo.length by omega]
      simp_arith only [eR, t13, PF_cf]
      refine AND_of (by unfold sizeLine; omega) ?_
      have n138 := z13
      have n148 := z14
      have q18 : ∀ c, put H b13 c b18 = some (.lst (row.map .str)) := fun c => by rw [put_ne n138.symm]; exact t18
      simp_arith only [q18, PF_cf]
      refine AND_of (by have := congrArg List.length tzz.fl; simp only [List.length_append, List.length_map] at this; unfold sizeLine; omega) ?_
      simp_arith only [tyD, at_2, PF_cf]
      have g := (g.loc (c := .lst (z'.map flD ++ [.tup [.str (("z" : Str) ++ ((toString (i : Int) : String) : Str) ++ ("_" : Str) ++ ((toString (j : Int) : String) : Str)), .str s1.nm, .str s2.nm, .int time, .int (time + 90), .str "W9", .int 500, .tup ((List.replicate (m.cl.length + mo.length) ks).map .int)]])) h13 n13).loc (c := .lst (row.map .str ++ [.str (("z" : Str) ++ ((toString (i : Int) : String) : Str) ++ ("_" : Str) ++ ((toString (j : Int) : String) : Str))])) h18 n18
      refine oneC g.at_ g.nn (by simp) fun d hd => ?_
      obtain ⟨dd, rfl, d1, d2⟩ := pick (l := [0, 30, 200]) (lo := 0) (hi := 200) hd (by decide)
      have g := g.mv (p' := p' + 1) g.nn2
      simp_arith only [PF_cf]
      obtain ⟨r, er⟩ : ∃ r : Fl, r = ⟨nmZ i j, s1.nm, s2.nm, time, time + 90, "W9", 500, List.replicate (m.cl.length + mo.length) ks⟩ := ⟨_, rfl⟩
      have rn : r.nm = nmZ i j := by rw [er]
      have m1 : s1 ∈ sp := List.mem_of_getElem? hs1
      have m2 : s2 ∈ sp := List.mem_of_getElem? hs2
      have nn12 : s1.nm ≠ s2.nm := fun q => by
        have e1 : (sp.map (·.nm))[h1]? = some s1.nm := by rw [List.getElem?_map, hs1]; rfl
        have e2 : (sp.map (·.nm))[h2]? = some s2.nm := by rw [List.getElem?_map, hs2]; rfl
        obtain ⟨l1, e1⟩ := List.getElem?_eq_some_iff.mp e1
        obtain ⟨l2, e2⟩ := List.getElem?_eq_some_iff.mp e2
        have pw := List.pairwise_iff_getElem.mp spn
        rcases Nat.lt_or_gt_of_ne ne12 with l | l
        · exact pw h1 h2 l1 l2 l (e1.trans (q.trans e2.symm))
        · exact pw h2 h1 l2 l1 l (e2.trans (q.symm.trans e1.symm))
      have ok : FlOk (sp.map (·.nm)) [⟨"W9", ks, kt⟩] (m.cl.length + mo.length) r := by
        subst er
        refine ⟨⟨List.mem_map_of_mem (f := (·.nm)) m1, List.mem_map_of_mem (f := (·.nm)) m2, nn12⟩, ⟨e3, by dsimp only; omega, by dsimp only; omega⟩, by simp, ⟨by dsimp only; omega, by dsimp only; omega⟩, by simp, fun x hx => ?_, List.pairwise_replicate.mpr (.inr (Int.le_refl _))⟩
        rw [List.eq_of_mem_replicate hx]; omega
      refine ⟨z' ++ [r], row ++ [r.nm], some r, (h2 : Int), time + 90 + kt + dd, p' + 1, fz.snoc hi13 hj ok rn, tzz.leg, by rw [List.length_append, List.length_singleton]; omega, .snoc (ch.mono fun f hf => List.mem_append_left _ hf) (by simp) (by rw [er]) (fun g hg => ?_), fun g hg => ?_, by omega, by omega, by omega, by omega, ?_, ?_, ?_, ?_, g⟩
      · obtain ⟨⟨s, w0, w1⟩, w2⟩ := ho g hg
        rw [Int.toNat_natCast, hs1] at w0
        cases w0
        rw [er]; exact ⟨w1, by dsimp only; omega⟩
      · cases hg
        refine ⟨⟨s2, by rw [Int.toNat_natCast]; exact hs2, by rw [er]⟩, by rw [er]; dsimp only; omega⟩
      · simp_arith only [eh2, tyD]
      · rw [put_ne n13, put_ne n138, put_same, List.map_append, er]; rfl
      · rw [put_ne n14, put_ne n148, put_ne x14.symm]; exact t14
      · rw [put_ne n18, put_same, List.map_append, rn]; rfl
    · rintro ρ H ⟨z', row, o, here, time, p', fz, tzz, zl2, ch, ho, e1, e2, e3, e4, rfl, t13, t14, t18, g⟩
      rw [rngL_len] at zl2
      have tzl : tz.length = i := by have := congrArg List.length tzz.nm; simpa using this
      simp_arith only [t18, PF_cf]
      refine AND_of (by rw [t14]; rfl) ?_
      simp_arith only [PF_cf]
      refine AND_of (nm_log (by omega)) ?_
      simp_arith only [PF_cf]
      refine AND_of (Nat.le_trans (nm_fit1 i (by omega)) (by decide)) ?_
      simp_arith only [tyD, at_0, t18, t14, PF_cf]
      refine AND_of (by unfold sizeLine; omega) ?_
      simp_arith only [PF_cf]
      refine ⟨z', tz ++ [⟨nmK "Z" i, "W9", row⟩], p', fz.next, tzz.tail (y := ⟨"W9", ks, kt⟩) (by simp) ch, by omega, (by first | rfl | trivial), ?_, ?_, g.loc h14 n14⟩
      · rw [put_ne x14]; exact t13
      · rw [List.map_append]; rfl
  rintro ρ H ⟨z, tz, p', fz, tzz, zl, rfl, t13, t14, g⟩
  rw [rngL_len, show ((kz : Int)).toNat = kz by omega] at fz tzz
  have rok : ∀ r ∈ m.fl, r.lim ≠ [] := fun r hr q => by
    have e := (R.fl r hr).2.2.2.2.1
    rw [q] at e
    exact R.cls (List.eq_nil_of_length_eq_zero e.symm)
  have fl40 : m.fl.length ≤ 40 := Nr.fll
  simp_arith only [t13, PF_cf]
  refine Compr_of (its := m.fl.map flD) (fExt mo.length) (by rw [List.length_map]; unfold sizeLine; omega) trivial (fun d K hd hk => ?_) ?_
  · obtain ⟨r, hr, rfl⟩ := List.mem_map.mp hd
    have rl := (R.fl r hr).2.2.2.2.1
    rw [fExt_fl (rok r hr)] at hk
    simp_arith only [flD, at_7, cut7, cut_last (rok r hr), PF_cf]
    have eL : (r.lim.map D.int ++ (List.replicate ((mo.length : Int)).toNat [D.int (r.lim.getLastD 0)]).flatten) = (ext mo.length r).lim.map D.int := by
      rw [rep_one, Int.toNat_natCast]; simp [ext]
    have mol2 : mo.length ≤ 2 := mol
    refine AND_of ⟨by omega, by omega, by simp⟩ ?_
    simp_arith only [PF_cf]
    refine AND_of (by rw [rep_one, List.length_replicate]; unfold sizeLine; omega) ?_
    simp_arith only [eL, cut7, PF_cf]
    refine AND_of (by unfold sizeLine; decide) ?_
    exact hk
  have ef : (m.fl.map flD).filterMap (fExt mo.length) = (m.fl.map (ext mo.length)).map flD := by
    rw [fm_map (k := fun r => flD (ext mo.length r)) fun r hr => fExt_fl (rok r hr), List.map_map]; rfl
  rw [ef]
  simp_arith only [t13, PF_cf]
  refine AND_of (by unfold sizeLine; omega) ?_
  simp_arith only [t13, PF_cf]
  refine AND_of (by unfold sizeLine; omega) ?_
  simp_arith only [t13, PF_cf]
  refine oneC g.at_ g.nn (by simp) fun d hd => ?_
  obtain ⟨fl', rfl, pf⟩ : ∃ fl' : List Fl, d = .tup (fl'.map flD) ∧ fl'.Perm (m.fl.map (ext mo.length) ++ z) := by
    simp only [List.mem_cons, List.not_mem_nil, or_false] at hd
    rcases hd with rfl | rfl
    · exact ⟨m.fl.map (ext mo.length) ++ z, by rw [List.map_append], .refl _⟩
    · exact ⟨z ++ m.fl.map (ext mo.length), by rw [List.map_append], List.perm_append_comm⟩
  have t14 := g.get t14 n14 (d := .lst [.int (p' + 1)])
  have g := g.mv (p' := p' + 1) g.nn2
  generalize p' + 1 = p' at *
  generalize put H a (.lst [.int p']) = H at *
  refine AND_of (by unfold sizeLine; omega) ?_
  simp_arith only [PF_cf]
  refine AND_of (by unfold sizeLine; omega) ?_
  simp_arith only [PF_cf]
  refine oneC g.at_ g.nn (by simp) fun d hd => ?_
  obtain ⟨st', rfl, ps⟩ : ∃ st' : List St, d = .tup (st'.map stD) ∧ st'.Perm (m.st ++ sp) := by
    simp only [List.mem_cons, List.not_mem_nil, or_false] at hd
    rcases hd with rfl | rfl
    · exact ⟨m.st ++ sp, by rw [List.map_append], .refl _⟩
    · exact ⟨sp ++ m.st, by rw [List.map_append], List.perm_append_comm⟩
  have t14 := g.get t14 n14 (d := .lst [.int (p' + 1)])
  have g := g.mv (p' := p' + 1) g.nn2
  generalize p' + 1 = p' at *
  generalize put H a (.lst [.int p']) = H at *
  have tyl := Nr.tyl
  have mol2 : mo.length ≤ 2 := mol
  have tzl : tz.length = kz := by have := congrArg List.length tzz.nm; simpa using this
  refine AND_of (by unfold sizeLine; omega) ?_
  simp_arith only [PF_cf]
  refine AND_of (by unfold sizeLine; omega) ?_
  simp_arith only [t14, PF_cf]
  refine AND_of (by unfold sizeLine; omega) ?_
  have R' := mk_far (y := ⟨"W9", ks, kt⟩) R Nr es (by omega) hsp rfl ⟨⟨by dsimp only; omega, by dsimp only; omega⟩, by dsimp only; omega, by dsimp only; omega⟩ mos fz zl (by omega) tzz ps pf
  have F' := far_far (y := ⟨"W9", ks, kt⟩) Nr es (by omega) rfl mos fz (by omega) tzz ps pf
  have kk := k _ p' R' F' g.nn
  simp only [netD, netL, List.map_append, List.map_cons, List.map_nil, tyD] at kk
  exact Done_sub g.back kk
end
end K72

namespace Net
open PySem Lg
open L2 (atI ixN)
/-! ### triples of a number and two texts, sorted -/
abbrev E3 := Int × Str × Str
def trD (y : E3) : D := .tup [.int y.1, .str y.2.1, .str y.2.2]
def trP (y : E3) : PyData := .tuple [.int y.1, .str y.2.1, .str y.2.2]
def lt3 (a b : E3) : Prop := a.1 < b.1 ∨ (a.1 = b.1 ∧ (a.2.1.cps.toList < b.2.1.cps.toList ∨ (a.2.1 = b.2.1 ∧ a.2.2.cps.toList < b.2.2.cps.toList)))
instance (a b : E3) : Decidable (lt3 a b) := by unfold lt3; infer_instance
def le3 (a b : E3) : Bool := !decide (lt3 b a)
theorem str_lt_tot (a b : Str) : a.cps.toList < b.cps.toList ∨ a = b ∨ b.cps.toList < a.cps.toList := by
  by_cases h1 : a.cps.toList < b.cps.toList
  · exact .inl h1
  by_cases h2 : b.cps.toList < a.cps.toList
  · exact .inr (.inr h2)
  exact .inr (.inl (PySem.W.str_of_cps (List.le_antisymm (List.not_lt.mp h2) (List.not_lt.mp h1))))
theorem lt3_tot (a b : E3) : lt3 a b ∨ a = b ∨ lt3 b a := by
  obtain ⟨x, s, t⟩ := a
  obtain ⟨y, u, v⟩ := b
  unfold lt3
  dsimp only
  by_cases h1 : x < y
  · exact .inl (.inl h1)
  by_cases h2 : y < x
  · exact .inr (.inr (.inl h2))
  have e : x = y := by omega
  subst e
  rcases str_lt_tot s u with h | rfl | h
  · exact .inl (.inr ⟨rfl, .inl h⟩)
  · rcases str_lt_tot t v with h | rfl | h
    · exact .inl (.inr ⟨rfl, .inr ⟨rfl, h⟩⟩)
    · exact .inr (.inl rfl)
    · exact .inr (.inr (.inr ⟨rfl, .inr ⟨rfl, h⟩⟩))
  · exact .inr (.inr (.inr ⟨rfl, .inl h⟩))
theorem lt3_trans {a b c : E3} (h1 : lt3 a b) (h2 : lt3 b c) : lt3 a c := by
  unfold lt3 at *
  rcases h1 with h1 | ⟨e1, h1⟩
  · rcases h2 with h2 | ⟨e2, h2⟩
    · exact .inl (by omega)
    · exact .inl (by omega)
  · rcases h2 with h2 | ⟨e2, h2⟩
    · exact .inl (by omega)
    · refine .inr ⟨by omega, ?_⟩
      rcases h1 with h1 | ⟨f1, h1⟩
      · rcases h2 with h2 | ⟨f2, h2⟩
        · exact .inl (List.lt_trans h1 h2)
        · exact .inl (f2 ▸ h1)
      · rcases h2 with h2 | ⟨f2, h2⟩
        · exact .inl (f1 ▸ h2)
        · exact .inr ⟨f1.trans f2, List.lt_trans h1 h2⟩
theorem lt3_irr {a : E3} (h : lt3 a a) : False := by
  unfold lt3 at h
  rcases h with h | ⟨_, h | ⟨_, h⟩⟩
  · omega
  · exact List.lt_irrefl _ h
  · exact List.lt_irrefl _ h
theorem le3_trans (a b c : E3) (h1 : le3 a b = true) (h2 : le3 b c = true) : le3 a c = true := by
  simp only [le3, Bool.not_eq_true', decide_eq_false_iff_not] at *
  intro h
  rcases lt3_tot b c with q | q | q
  · exact h1 (lt3_trans q h)
  · exact h1 (q ▸ h)
  · exact h2 q
theorem le3_total (a b : E3) : (le3 a b || le3 b a) = true := by
  simp only [le3, Bool.or_eq_true, Bool.not_eq_true', decide_eq_false_iff_not]
  by_cases h : lt3 b a
  · exact .inr fun q => lt3_irr (lt3_trans h q)
  · exact .inl h
theorem le3_anti {a b : E3} (h1 : le3 a b = true) (h2 : le3 b a = true) : a = b := by
  simp only [le3, Bool.not_eq_true', decide_eq_false_iff_not] at *
  rcases lt3_tot a b with q | q | q
  · exact absurd q h2
  · exact q
  · exact absurd q h1
theorem le3_perm {l r : List E3} (h : l.Perm r) : l.mergeSort le3 = r.mergeSort le3 :=
  List.Perm.eq_of_pairwise (le := fun a b => le3 a b = true) (fun _ _ _ _ h1 h2 => le3_anti h1 h2) (List.pairwise_mergeSort le3_trans le3_total _) (List.pairwise_mergeSort le3_trans le3_total _) ((List.mergeSort_perm ..).trans (h.trans (List.mergeSort_perm ..).symm))
theorem eqv_str {a b : Str} : PyData.eqv (.str a) (.str b) = decide (a = b) := by
  simp only [PyData.eqv]
  rw [Bool.eq_iff_iff]; simp
theorem dataLt_3 (a b : E3) : PySem.W.dataLt (trP a) (trP b) = decide (lt3 a b) := by
  obtain ⟨x, s, t⟩ := a
  obtain ⟨y, u, v⟩ := b
  unfold trP lt3
  have e0 : PyProof.Rows.lexLt PyProof.Rows.itemOrd (PySem.W.keyToksAll []) (PySem.W.keyToksAll []) = false := PyProof.Rows.lex_irrefl _
  rw [PySem.W.dataLt_tuple, PySem.W.dataLt_cons (by simp [PySem.W.alike]), PySem.W.dataLt_cons (by simp [PySem.W.alike]), PySem.W.dataLt_cons (by simp [PySem.W.alike]), e0, PySem.W.dataLt_int, PySem.W.dataLt_str, PySem.W.dataLt_str, eqv_str, eqv_str]
  dsimp only
  simp only [PyData.eqv, beq_iff_eq, decide_eq_true_eq]
  by_cases h1 : x = y
  · subst h1
    simp only [if_true, Int.lt_irrefl, false_or, true_and]
    by_cases h2 : s = u
    · subst h2
      simp only [if_true, List.lt_irrefl, false_or, true_and]
      by_cases h3 : t = v
      · subst h3
        simp [List.lt_irrefl]
      · rw [if_neg h3]
    · rw [if_neg h2]
      simp only [h2, false_and, or_false]
  · rw [if_neg h1]
    simp only [h1, false_and, or_false]
theorem srt3_v {h : LH} {Q : QD} {l : List E3} {y : D} (hy : seqv h y = some (l.map trD)) : @wblt .sorted [y] h (Box.mk Q) = Q (.lst ((l.mergeSort le3).map trD)) h := by
  rw [blt_sorted, hy]
  show opt (some (l.map trD)) (fun ds => opt (pyL ds) fun as => (PySem.W.AllAlike as ∧ PySem.W.Sortable as ∧ PyData.depthAll as ≤ 60) ∧ Q (.lst (ds.mergeSort (PySem.W.dataLe false pyD))) h) = _
  have e : ∀ l : List E3, pyL (l.map trD) = some (l.map trP) := fun l => by
    induction l with
    | nil => rfl
    | cons x l ih => simp only [List.map_cons, pyL, trD, trP, D.py, ih, Option.map_some]
  have e2 : (l.map trD).mergeSort (PySem.W.dataLe false pyD) = (l.mergeSort le3).map trD := by
    refine (List.map_mergeSort fun a _ b _ => ?_).symm
    show le3 a b = !PySem.W.dataLt (trP b) (trP a)
    rw [dataLt_3]; rfl
  have dp : ∀ l : List E3, PyData.depthAll (l.map trP) ≤ 60 := fun l => by
    induction l with
    | nil => simp only [List.map_nil, PyData.depthAll]; omega
    | cons x l ih => simp only [List.map_cons, PyData.depthAll, trP, PyData.depth]; omega
  simp only [opt, e, e2]
  refine propext ⟨fun z => z.2, fun z => ⟨⟨PySem.W.AllAlike.of fun a b => ?_, PySem.W.Sortable.tuples fun a => ⟨_, _, rfl⟩, dp l⟩, z⟩⟩
  simp only [trP, PySem.W.alike, PySem.W.alikeAll, Bool.and_self]
theorem srt3_t {h : LH} {Q : QD} {l : List E3} : @wblt .sorted [.tup (l.map trD)] h (Box.mk Q) = Q (.lst ((l.mergeSort le3).map trD)) h := srt3_v rfl
theorem srt3_l {h : LH} {Q : QD} {l : List E3} : @wblt .sorted [.lst (l.map trD)] h (Box.mk Q) = Q (.lst ((l.mergeSort le3).map trD)) h := srt3_v rfl
theorem srt3_r {h : LH} {Q : QD} {l : List E3} {a : Addr} (ha : h a = some (.lst (l.map trD))) : @wblt .sorted [.ref a] h (Box.mk Q) = Q (.lst ((l.mergeSort le3).map trD)) h := srt3_v (by simp [seqv, ha])
theorem srt3_id {l : List E3} : (l.mergeSort le3).mergeSort le3 = l.mergeSort le3 := le3_perm (List.mergeSort_perm ..)
/-! ### dicts by name -/
section
variable {α : Type} {nm : α → Str} {en : α → D}
def kvA (nm : α → Str) (en : α → D) (l : List α) : List ((Int ⊕ Str) × D) := l.map fun x => (.inr (nm x), en x)
theorem look_kvA {s : Str} {l : List α} : (look (kvA nm en l) (.inr s)).isSome = decide (s ∈ l.map nm) := by
  unfold look kvA
  rw [Option.isSome_map, Bool.eq_iff_iff, List.find?_isSome]
  simp
  exact ⟨fun ⟨_, a, h1, h2, _⟩ => ⟨a, h1, h2⟩, fun ⟨a, h1, h2⟩ => ⟨_, a, h1, h2, rfl⟩⟩
theorem find_kvA {l : List α} {z : α} (hn : (l.map nm).Nodup) (hz : z ∈ l) : look (kvA nm en l) (.inr (nm z)) = some (en z) := by
  unfold look kvA
  induction l with
  | nil => cases hz
  | cons x l ih =>
    rw [List.map_cons, List.nodup_cons] at hn
    rw [List.map_cons, List.find?_cons]
    by_cases e : nm x = nm z
    · have : x = z := by
        rcases List.mem_cons.mp hz with q | q
        · exact q.symm
        · exact absurd (List.mem_map_of_mem (f := nm) q) (by rw [← e]; exact hn.1)
      subst this
      simp
    · have : decide ((Sum.inr (nm x) : Int ⊕ Str) = .inr (nm z)) = false := by simpa using e
      simp only [this]
      rcases List.mem_cons.mp hz with q | q
      · exact absurd (by rw [q]) e
      · exact ih hn.2 q
theorem put_kvA {l : List α} {z : α} (hz : nm z ∉ l.map nm) : putD (kvA nm en l) (.inr (nm z)) (en z) = kvA nm en (l ++ [z]) := by
  unfold putD kvA
  rw [if_neg (by simpa using hz)]
  simp
end
theorem DComp_of {its : List D} {g : LH → Prop} {h : LH} {Q : QD} {turn : D → LH → KD → Prop} (J : Nat → List ((Int ⊕ Str) × D) → LH → Prop) (hl : its.length ≤ sizeLine) (a : J 0 [] h)
    (b : ∀ i d acc h, its[i]? = some d → J i acc h → g h ∧ turn d h fun o h2 => match o with
    | some (x, y) => opt (keyOf x) fun k => J (i + 1) (putD acc k y) h2
    | none => J (i + 1) acc h2) (k : ∀ acc h, J its.length acc h → g h ∧ ∀ a, h a = none → Q (.ref a) (put h a (.dct acc))) : @DComp its (Box.mk g) h (Box.mk Q) (Box.mk turn) := ⟨J, hl, a, b, k⟩
end Net
namespace K72
open PySem Lg Net
open L2 (atI ixN)
set_option checkBinderAnnotations false
variable {ζ : Ad}
section
variable {n : Nat} {h : LH} {Q : QD} {e : EX} {α : Type} {nm : α → Str} {en : α → D}
theorem by_name_s {l : List α} (hl : l.length ≤ 100) (row : ∀ x ∈ l, ∃ xs, en x = .tup (.str (nm x) :: xs)) (nd : (l.map nm).Nodup)
    (k : ∀ b, h b = none → Q (.ref b) (put h b (.dct (kvA nm en l)))) : CF (PP ζ) TB (n + 1) 2 [.tup (l.map en)] h Q e := by
  refine CF_of (fn := ⟨1, 2, w_by_name⟩) rfl rfl ?_; dsimp only; unfold w_by_name
  simp_arith only [PF_cf]
  refine DComp_of (fun i acc h' => acc = kvA nm en (l.take i) ∧ h' = h) (by rw [List.length_map]; unfold sizeLine; omega) ⟨rfl, rfl⟩ ?_ ?_
  · rintro i d acc h' hd ⟨rfl, rfl⟩
    obtain ⟨x, hx, rfl⟩ := get_map hd
    obtain ⟨xs, ex⟩ := row x (List.mem_of_getElem? hx)
    have fresh : nm x ∉ (l.take i).map nm := fun z => by
      have hi := (List.getElem?_eq_some_iff.mp hx).1
      rw [← List.take_append_drop i l, List.map_append, List.nodup_append] at nd
      refine nd.2.2 _ z _ ?_ rfl
      rw [List.drop_eq_getElem_cons hi, (List.getElem?_eq_some_iff.mp hx).2]
      simp
    have p := put_kvA (en := en) fresh
    simp_arith only [ex, at_0]
    refine ⟨trivial, ?_⟩
    refine ⟨?_, trivial⟩
    rw [List.take_succ, hx, ← ex]
    exact p
  rintro acc h0 ⟨rfl, rfl⟩
  rw [List.length_map, List.take_length]
  refine ⟨trivial, fun b hb => ?_⟩
  exact Done_of (k b hb)
end
end K72

namespace Net
open PySem Lg
open L2 (atI ixN)
/-! ### data with a short repr -/
structure Sh (d : D) (c k : Nat) : Prop where
  ex : ∃ p, D.py d = some p ∧ p.showable = true ∧ p.shown.length ≤ c ∧ p.depth ≤ k
structure ShL (ds : List D) (c k : Nat) : Prop where
  ex : ∃ ps, pyL ds = some ps ∧ PyData.showableAll ps = true ∧ (∀ t ∈ PyData.shownAll ps, t.length ≤ c) ∧ (PyData.shownAll ps).length = ds.length ∧ PyData.depthAll ps ≤ k
theorem ShL.of {c k : Nat} : ∀ {ds : List D}, (∀ d ∈ ds, Sh d c k) → ShL ds c k
  | [], _ => ⟨[], rfl, rfl, nofun, rfl, Nat.zero_le _⟩
  | d :: ds, h => by
    obtain ⟨p, a1, a2, a3, a4⟩ := (h d (List.mem_cons_self ..)).ex
    obtain ⟨ps, b1, b2, b3, b4, b5⟩ := (ShL.of (ds := ds) fun x hx => h x (List.mem_cons_of_mem _ hx)).ex
    refine ⟨p :: ps, by simp only [pyL, a1, b1], by simp only [PyData.showableAll, a2, b2, Bool.and_self], fun t ht => ?_, by simp only [PyData.shownAll, List.length_cons, b4], by simp only [PyData.depthAll]; omega⟩
    simp only [PyData.shownAll, List.mem_cons] at ht
    rcases ht with rfl | ht
    · exact a3
    · exact b3 t ht
theorem textFrom_le {c : Nat} : ∀ (ts : List Str) (k : Nat) (acc : Str), (∀ t ∈ ts, t.length ≤ c) → (textFrom k acc ts).length ≤ acc.length + (c + 2) * ts.length
  | [], k, acc, _ => Nat.le_add_right _ _
  | t :: r, k, acc, h => by
    have ih := textFrom_le r (k + 1) (acc ++ (if k > 0 then ", " else "" : String) ++ t) fun x hx => h x (List.mem_cons_of_mem _ hx)
    have e : (acc ++ (if k > 0 then ", " else "" : String) ++ t).length = acc.length + (if k > 0 then 2 else 0) + t.length := by
      rw [strLen_append, strLen_append]
      split <;> rfl
    have ht := h t (List.mem_cons_self ..)
    have e2 : (if k > 0 then 2 else 0) ≤ 2 := by split <;> omega
    rw [e] at ih
    show (textFrom (k + 1) (acc ++ (if k > 0 then ", " else "" : String) ++ t) r).length ≤ _
    rw [List.length_cons, Nat.mul_add]
    omega
theorem list_lenG {c : Nat} {ts : List Str} (h : ∀ t ∈ ts, t.length ≤ c) : (listText ts).length ≤ (c + 2) * ts.length + 4 := by
  have p := textFrom_le ts 0 "[" h
  unfold listText
  rw [sl_app]
  have e1 : (("[" : String) : Str).length = 1 := rfl
  have e2 : (("]" : String) : Str).length = 1 := rfl
  omega
theorem Sh.tup {ds : List D} {c k : Nat} (h : ∀ d ∈ ds, Sh d c k) : Sh (.tup ds) ((c + 2) * ds.length + 4) (k + 1) := by
  obtain ⟨ps, b1, b2, b3, b4, b5⟩ := (ShL.of h).ex
  refine ⟨.tuple ps, by simp only [D.py, b1, Option.map_some], b2, ?_, by simp only [PyData.depth]; omega⟩
  have := tuple_lenG b3
  rw [b4] at this
  simpa only [PyData.shown] using this
theorem Sh.lst {ds : List D} {c k : Nat} (h : ∀ d ∈ ds, Sh d c k) : Sh (.lst ds) ((c + 2) * ds.length + 4) (k + 1) := by
  obtain ⟨ps, b1, b2, b3, b4, b5⟩ := (ShL.of h).ex
  refine ⟨.list ps, by simp only [D.py, b1, Option.map_some], b2, ?_, by simp only [PyData.depth]; omega⟩
  have := list_lenG b3
  rw [b4] at this
  simpa only [PyData.shown] using this
theorem Sh.int {i : Int} (h0 : -1000000000 < i) (h1 : i < 1000000000) : Sh (.int i) 10 0 := ⟨.int i, rfl, int_show h0 h1, int_len h0 h1, by simp [PyData.depth]⟩
theorem Sh.str {s : Str} {c : Nat} (h : (PyData.str s).shown.length ≤ c) : Sh (.str s) c 0 := ⟨.str s, rfl, rfl, h, by simp [PyData.depth]⟩
theorem Sh.non : Sh .non 4 0 := ⟨.none, rfl, rfl, by decide +kernel, by simp [PyData.depth]⟩
theorem Sh.bl {b : Bool} : Sh (.bl b) 5 0 := ⟨.bool b, rfl, rfl, by cases b <;> decide +kernel, by simp [PyData.depth]⟩
theorem Sh.mono {d : D} {c k c' k' : Nat} (s : Sh d c k) (h : c ≤ c') (h' : k ≤ k') : Sh d c' k' := by
  obtain ⟨p, a1, a2, a3, a4⟩ := s.ex
  exact ⟨p, a1, a2, by omega, by omega⟩
def Rep (d : D) : Prop := ∃ s : Str, ∀ (h : LH) (Q : QD), @wblt .repr [d] h (Box.mk Q) = Q (.str s) h
theorem py_pv {d : D} {p : PyData} (e : D.py d = some p) (h : LH) : pv_ h d = some p := by
  cases d <;> first | exact e | (simp only [D.py] at e; cases e)
theorem Sh.rep {d : D} {c k : Nat} (s : Sh d c k) (hc : c ≤ sizeLine) (hk : k ≤ 60) : Rep d := by
  obtain ⟨p, a1, a2, a3, a4⟩ := s.ex
  refine ⟨p.shown, fun h Q => ?_⟩
  rw [blt_repr]
  show opt (pv_ h d) _ = _
  rw [py_pv a1 h]
  exact propext ⟨fun z => z.2, fun z => ⟨⟨a2, by omega, by omega⟩, z⟩⟩
theorem sh_st : ∀ s ∈ stN ++ zL, (PyData.str s).shown.length ≤ 20 := by decide +kernel
theorem sh_f : ∀ us : Bool, ∀ x ∈ prs, (PyData.str (nmF us x.1 x.2)).shown.length ≤ 20 := by decide +kernel
theorem sh_z : ∀ x ∈ prz, (PyData.str (nmZ x.1 x.2)).shown.length ≤ 20 := by decide +kernel
theorem Far.shf {m : N} (F : Far m) {f : Fl} (hf : f ∈ m.fl) : (PyData.str f.nm).shown.length ≤ 20 := by
  rcases F.fl f.nm (List.mem_map_of_mem (f := (·.nm)) hf) with ⟨us, k, j, h1, h2, e⟩ | ⟨k, j, h1, h2, e⟩
  · rw [e]; exact sh_f us (k, j) (prs_in h1 h2)
  · rw [e]; exact sh_z (k, j) (prz_in h1 h2)
end Net

namespace Net
open PySem Lg
open L2 (atI ixN)
/-! ### reprs of data with texts -/
def asc (s : Str) : Prop := ∀ c ∈ lc s, c < 128
theorem asc_app {a b : Str} (h1 : asc a) (h2 : asc b) : asc (a ++ b) := fun c h => by
  rw [lc_app] at h
  rcases List.mem_append.mp h with q | q
  · exact h1 c q
  · exact h2 c q
theorem asc_int {i : Int} : asc (PyData.int i).shown := fun c h => by
  cases i with
  | ofNat n =>
    rw [show Int.ofNat n = (n : Int) from rfl, sh_nat] at h
    have := dg_mem h
    omega
  | negSucc n =>
    rw [sh_neg] at h
    rcases List.mem_cons.mp h with q | q
    · omega
    · have := dg_mem q
      omega
theorem asc_tup1 {p : PyData} (h : asc p.shown) : asc (PyData.tuple [p]).shown := fun c hc => by
  have e := lc_tup (ds := [p]) (x := [])
  rw [List.append_nil] at e
  rw [e] at hc
  simp only [bdT, List.mem_cons, List.mem_append, List.not_mem_nil, or_false] at hc
  rcases hc with q | q | q | q
  · omega
  · exact h c q
  · omega
  · omega
theorem lc_len {s : Str} : (lc s).length = s.length := by unfold lc; rw [Array.length_toList]; rfl
theorem fold_app {f : Nat → List Nat} : ∀ (l : List Nat) (acc : Array Nat), (l.foldl (fun out c => out ++ (f c).toArray) acc).toList = acc.toList ++ l.flatMap f
  | [], acc => by simp
  | c :: l, acc => by
    rw [List.foldl_cons, fold_app l, List.flatMap_cons]; simp
theorem lc_str {s : Str} : ∃ q r, (q = 39 ∨ q = 34) ∧ lc (PyData.str s).shown = q :: r := by
  have e : (PyData.str s).shown = reprText s := by rw [PyData.shown]
  have hq : reprQuote s = 39 ∨ reprQuote s = 34 := by unfold reprQuote; split <;> simp
  rw [e]
  refine ⟨reprQuote s, (s.cps.toList.flatMap (Builtin.Str.reprChar (reprQuote s))) ++ [reprQuote s], hq, ?_⟩
  unfold lc reprText
  simp only [Array.toList_push]
  rw [← Array.foldl_toList, fold_app]
  simp
mutual
def flS : PyData → Bool
  | .none | .bool _ | .int _ | .str _ => true
  | .tuple xs => flSL xs
  | _ => false
def flSL : List PyData → Bool
  | [] => true
  | x :: xs => flS x && flSL xs
end
theorem hd_q {e : PyData} (h : flat e = true) {q : Nat} {x y : List Nat} (hq : q = 39 ∨ q = 34) (hy : stopL x) : lc e.shown ++ x ≠ q :: y := by
  intro z
  cases e with
  | none => rw [lc_none] at z; simp at z; omega
  | bool b => cases b with
    | true => rw [lc_true] at z; simp at z; omega
    | false => rw [lc_false] at z; simp at z; omega
  | int i =>
    cases i with
    | ofNat n =>
      rw [show Int.ofNat n = (n : Int) from rfl, sh_nat] at z
      cases e : dg n with
      | nil => exact dg_ne e
      | cons c r =>
        rw [e] at z
        simp only [List.cons_append, List.cons.injEq] at z
        have := dg_mem (n := n) (c := c) (by rw [e]; exact List.mem_cons_self ..)
        omega
    | negSucc n => rw [sh_neg] at z; simp at z; omega
  | tuple ds => rw [lc_tup] at z; simp at z; omega
  | _ => simp [flat] at h
theorem hd_okS {d : PyData} (h : flS d = true) {x y : List Nat} : lc d.shown ++ x ≠ 41 :: y := by
  cases d with
  | str s =>
    obtain ⟨q, r, hq, e⟩ := lc_str (s := s)
    rw [e]; intro z; simp at z; omega
  | tuple ds => intro z; rw [lc_tup] at z; simp at z
  | none => exact hd_ok rfl
  | bool b => exact hd_ok rfl
  | int i => exact hd_ok rfl
  | _ => simp [flS] at h
mutual
theorem shS_inj : ∀ (d e : PyData) (x y : List Nat), flS d = true → flat e = true → stopL x → stopL y → lc d.shown ++ x = lc e.shown ++ y → d = e ∧ x = y
  | .tuple ds, e, x, y, hd, he, sx, sy, h => by
    rw [lc_tup] at h
    cases e with
    | tuple es =>
      rw [lc_tup] at h
      simp only [List.cons.injEq, true_and] at h
      obtain ⟨e1, e2⟩ := shS_bd ds es x y (by simpa [flS] using hd) (by simpa [flat] using he) h
      exact ⟨by rw [e1], e2⟩
    | none => exact absurd h.symm (scal_ne rfl sy)
    | bool b => exact absurd h.symm (scal_ne rfl sy)
    | int i => exact absurd h.symm (scal_ne rfl sy)
    | _ => simp [flat] at he
  | .none, e, x, y, hd, he, sx, sy, h => sh_scal rfl he sx sy h
  | .bool b, e, x, y, hd, he, sx, sy, h => sh_scal rfl he sx sy h
  | .int i, e, x, y, hd, he, sx, sy, h => sh_scal rfl he sx sy h
  | .str s, e, x, y, hd, he, sx, sy, h => by
    obtain ⟨q, r, hq, e1⟩ := lc_str (s := s)
    rw [e1] at h
    exact absurd h.symm (hd_q he hq sy)
  | .list s, e, x, y, hd, he, sx, sy, h => by simp [flS] at hd
  | .dict s, e, x, y, hd, he, sx, sy, h => by simp [flS] at hd
theorem shS_bd : ∀ (ds es : List PyData) (x y : List Nat), flSL ds = true → flatL es = true → bdT ds x = bdT es y → ds = es ∧ x = y
  | [], [], x, y, _, _, h => ⟨rfl, by simpa [bdT] using h⟩
  | [], [b], x, y, _, he, h => by
    simp only [flatL, Bool.and_eq_true] at he
    exact absurd h.symm (hd_ok he.1)
  | [], b :: c :: r, x, y, _, he, h => by
    simp only [flatL, Bool.and_eq_true] at he
    exact absurd h.symm (hd_ok he.1)
  | [a], [], x, y, hd, _, h => by
    simp only [flSL, Bool.and_eq_true] at hd
    exact absurd h (hd_okS hd.1)
  | [a], [b], x, y, hd, he, h => by
    simp only [flSL, flatL, Bool.and_eq_true] at hd he
    obtain ⟨e1, e2⟩ := shS_inj a b _ _ hd.1 he.1 stop_1 stop_1 h
    simp only [List.cons.injEq, true_and] at e2
    exact ⟨by rw [e1], e2⟩
  | [a], b :: c :: r, x, y, hd, he, h => by
    simp only [flSL, flatL, Bool.and_eq_true] at hd he
    obtain ⟨e1, e2⟩ := shS_inj a b _ _ hd.1 he.1 stop_1 stop_tl h
    simp [tlT] at e2
  | a :: c :: r, [], x, y, hd, _, h => by
    simp only [flSL, Bool.and_eq_true] at hd
    exact absurd h (hd_okS hd.1)
  | a :: c :: r, [b], x, y, hd, he, h => by
    simp only [flSL, flatL, Bool.and_eq_true] at hd he
    obtain ⟨e1, e2⟩ := shS_inj a b _ _ hd.1 he.1 stop_tl stop_1 h
    simp [tlT] at e2
  | a :: c :: r, b :: c' :: r', x, y, hd, he, h => by
    simp only [flSL, flatL, Bool.and_eq_true] at hd he
    obtain ⟨e1, e2⟩ := shS_inj a b _ _ hd.1 he.1 stop_tl stop_tl h
    obtain ⟨e3, e4⟩ := shS_tl (c :: r) (c' :: r') x y (by simp [flSL, hd.2]) (by simp [flatL, he.2]) e2
    exact ⟨by rw [e1, e3], e4⟩
theorem shS_tl : ∀ (ds es : List PyData) (x y : List Nat), flSL ds = true → flatL es = true → tlT ds ++ 41 :: x = tlT es ++ 41 :: y → ds = es ∧ x = y
  | [], [], x, y, _, _, h => ⟨rfl, by simpa [tlT] using h⟩
  | [], b :: r, x, y, _, _, h => by simp [tlT] at h
  | a :: r, [], x, y, _, _, h => by simp [tlT] at h
  | a :: r, b :: r', x, y, hd, he, h => by
    simp only [flSL, flatL, Bool.and_eq_true] at hd he
    simp only [tlT, List.cons_append, List.cons.injEq, true_and, List.append_assoc] at h
    obtain ⟨e1, e2⟩ := shS_inj a b _ _ hd.1 he.1 stop_tl stop_tl h
    obtain ⟨e3, e4⟩ := shS_tl r r' x y hd.2 he.2 e2
    exact ⟨by rw [e1, e3], e4⟩
end
theorem shownS_inj {d e : PyData} (hd : flS d = true) (he : flat e = true) (h : d.shown = e.shown) : d = e :=
  (shS_inj d e [] [] hd he (.inl rfl) (.inl rfl) (by rw [h])).1
theorem Sh.strA {s : Str} {l : Nat} (h : asc s) (hl : s.length ≤ l) : Sh (.str s) (10 * l + 2) 0 := Sh.str (by
  have e : (PyData.str s).shown = reprText s := by rw [PyData.shown]
  rw [e]
  have := PySem.StrLaws.reprText_len s fun c hc => Nat.lt_trans (h c hc) (by decide)
  omega)
end Net

namespace K72
open PySem Lg Net
open L2 (atI ixN)
set_option checkBinderAnnotations false
variable {ζ : Ad}
/-- an instance of Lookup -/
structure LK (C : Addr) (m : N) (h0 h : LH) (b b1 b2 b3 b4 : Addr) : Prop where
  ins : h b = some (.ins C [("stations", .ref b1), ("types", .ref b2), ("flights", .ref b3), ("tails", .tup (m.ta.map taD)), ("ranks", .ref b4), ("fares", .tup (m.fa.map faD))])
  s1 : h b1 = some (.dct (kvA (·.nm) stD m.st))
  s2 : h b2 = some (.dct (kvA (·.nm) tyD m.ty))
  s3 : h b3 = some (.dct (kvA (·.nm) flD m.fl))
  s4 : h b4 = some (.dct (kvN m.cl))
  sub : Sub h0 h
theorem pf1 {x y : D} : putFD "types" y [(("stations" : Str), x)] = ([("stations", x), ("types", y)] : List (Str × D)) := rfl
theorem pf2 {x y z : D} : putFD "flights" z [(("stations" : Str), x), ("types", y)] = ([("stations", x), ("types", y), ("flights", z)] : List (Str × D)) := rfl
theorem pf3 {x y z u : D} : putFD "tails" u [(("stations" : Str), x), ("types", y), ("flights", z)] = ([("stations", x), ("types", y), ("flights", z), ("tails", u)] : List (Str × D)) := rfl
theorem pf4 {x y z u v : D} : putFD "ranks" v [(("stations" : Str), x), ("types", y), ("flights", z), ("tails", u)] = ([("stations", x), ("types", y), ("flights", z), ("tails", u), ("ranks", v)] : List (Str × D)) := rfl
theorem pf5 {x y z u v w : D} : putFD "fares" w [(("stations" : Str), x), ("types", y), ("flights", z), ("tails", u), ("ranks", v)] = ([("stations", x), ("types", y), ("flights", z), ("tails", u), ("ranks", v), ("fares", w)] : List (Str × D)) := rfl
theorem lkS {x y z u v w : D} : List.lookup ("stations" : Str) [(("stations" : Str), x), ("types", y), ("flights", z), ("tails", u), ("ranks", v), ("fares", w)] = some x := rfl
theorem lkT {x y z u v w : D} : List.lookup ("types" : Str) [(("stations" : Str), x), ("types", y), ("flights", z), ("tails", u), ("ranks", v), ("fares", w)] = some y := rfl
theorem lkFl {x y z u v w : D} : List.lookup ("flights" : Str) [(("stations" : Str), x), ("types", y), ("flights", z), ("tails", u), ("ranks", v), ("fares", w)] = some z := rfl
section
variable {n : Nat} {h h0 : LH} {Q : QD} {e : EX} {m : N} {b b1 b2 b3 b4 : Addr}
theorem lookup_s (R : Right m) (hb : h0 b = none) (k : ∀ b1 b2 b3 b4 h', LK (ζ.1 0) m h0 h' b b1 b2 b3 b4 → Q .non h') :
    CF (PP ζ) TB (n + 2) 25 [.ref b, netD m] (put h0 b (.ins (ζ.1 0) [])) Q e := by
  have l1 : m.st.length ≤ 12 := by have := R.many 0 (by decide); simpa [nms, most] using this
  have l2 : m.ty.length ≤ 4 := by have := R.many 1 (by decide); simpa [nms, most] using this
  have l3 : m.fl.length ≤ 40 := by have := R.many 3 (by decide); simpa [nms, most] using this
  have l4 : m.cl.length ≤ 6 := by have := R.many 2 (by decide); simpa [nms, most] using this
  refine CF_of (fn := ⟨2, 4, w_Lookup___init__⟩) rfl rfl ?_; dsimp only; unfold w_Lookup___init__
  simp_arith only [netD, netL, at_0, PF_cf, PF_ca, prmC_ca]
  refine by_name_s (nm := (·.nm)) (en := stD) (by omega) (fun x _ => ⟨_, rfl⟩) (show (m.st.map (·.nm)).Nodup from R.once 0 (by decide)) fun b1 hb1 => ?_
  have nb1 : b ≠ b1 := ne_cell put_same hb1
  have g1 : put (put h0 b (.ins (ζ.1 0) [])) b1 (.dct (kvA (·.nm) stD m.st)) b = some (.ins (ζ.1 0) []) := by rw [put_ne nb1]; exact put_same
  simp_arith only [g1, PF_cf, PF_ca, prmC_ca]
  refine AND_of (by decide) ?_
  simp_arith only [putFD, netD, netL, at_1, PF_cf, PF_ca, prmC_ca]
  refine by_name_s (nm := (·.nm)) (en := tyD) (by omega) (fun x _ => ⟨_, rfl⟩) (show (m.ty.map (·.nm)).Nodup from R.once 1 (by decide)) fun b2 hb2 => ?_
  have nb2 : b ≠ b2 := ne_cell put_same hb2
  have n12 : b1 ≠ b2 := fun q => by
    rw [put_ne (by rw [← q]; exact nb1.symm), q] at hb2
    rw [put_same] at hb2; cases hb2
  have g2 : ∀ c c2, put (put (put (put h0 b (.ins (ζ.1 0) [])) b1 c) b (.ins (ζ.1 0) [("stations", .ref b1)])) b2 c2 b = some (.ins (ζ.1 0) [("stations", .ref b1)]) := fun c c2 => by rw [put_ne nb2]; exact put_same
  simp_arith only [g2, netD, netL, at_3, PF_cf, PF_ca, prmC_ca]
  refine AND_of (by decide) ?_
  simp_arith only [pf1, g2, netD, netL, at_3, PF_cf, PF_ca, prmC_ca]
  refine by_name_s (nm := (·.nm)) (en := flD) (by omega) (fun x _ => ⟨_, rfl⟩) (show (m.fl.map (·.nm)).Nodup from R.once 3 (by decide)) fun b3 hb3 => ?_
  have nb3 : b ≠ b3 := ne_cell put_same hb3
  have g3 : ∀ (H : LH) c2, put (put H b (.ins (ζ.1 0) [("stations", .ref b1), ("types", .ref b2)])) b3 c2 b = some (.ins (ζ.1 0) [("stations", .ref b1), ("types", .ref b2)]) := fun H c2 => by rw [put_ne nb3]; exact put_same
  simp_arith only [g3, netD, netL, at_3, at_4, PF_cf, PF_ca, prmC_ca]
  refine AND_of (by decide) ?_
  simp_arith only [pf2, g3, put_same, put_put, netD, netL, at_4, PF_cf, PF_ca, prmC_ca]
  refine AND_of (by decide) ?_
  simp_arith only [pf3, g3, put_same, put_put, netD, netL, at_2, PF_cf, PF_ca, prmC_ca]
  have zb1 : h0 b1 = none := by rw [put_ne nb1.symm] at hb1; exact hb1
  have zb2 : h0 b2 = none := by rw [put_ne nb2.symm, put_ne n12.symm, put_ne nb2.symm] at hb2; exact hb2
  have n13 : b1 ≠ b3 := fun q => by
    rw [← q, put_ne nb1.symm, put_ne n12, put_ne nb1.symm, put_same] at hb3; cases hb3
  have n23 : b2 ≠ b3 := fun q => by
    rw [← q, put_ne nb2.symm, put_same] at hb3; cases hb3
  have zb3 : h0 b3 = none := by rw [put_ne nb3.symm, put_ne n23.symm, put_ne nb3.symm, put_ne n13.symm, put_ne nb3.symm] at hb3; exact hb3
  generalize eH : put (put (put (put (put (put (put h0 b (.ins (ζ.1 0) [])) b1 (.dct (kvA (·.nm) stD m.st))) b (.ins (ζ.1 0) [("stations", .ref b1)])) b2 (.dct (kvA (·.nm) tyD m.ty))) b (.ins (ζ.1 0) [("stations", .ref b1), ("types", .ref b2)])) b3 (.dct (kvA (·.nm) flD m.fl))) b (.ins (ζ.1 0) [("stations", .ref b1), ("types", .ref b2), ("flights", .ref b3), ("tails", .tup (m.ta.map taD))]) = H
  have f0 : H b = some (.ins (ζ.1 0) [("stations", .ref b1), ("types", .ref b2), ("flights", .ref b3), ("tails", .tup (m.ta.map taD))]) := by rw [← eH, put_same]
  have f1 : H b1 = some (.dct (kvA (·.nm) stD m.st)) := by rw [← eH, put_ne nb1.symm, put_ne n13, put_ne nb1.symm, put_ne n12, put_ne nb1.symm, put_same]
  have f2 : H b2 = some (.dct (kvA (·.nm) tyD m.ty)) := by rw [← eH, put_ne nb2.symm, put_ne n23, put_ne nb2.symm, put_same]
  have f3 : H b3 = some (.dct (kvA (·.nm) flD m.fl)) := by rw [← eH, put_ne nb3.symm, put_same]
  have sb : Sub h0 H := by
    rw [← eH]
    exact Sub.put hb (Sub.put zb3 (Sub.put hb (Sub.put zb2 (Sub.put hb (Sub.put zb1 (Sub.put hb (Sub.refl _)))))))
  clear eH g1 g2 g3
  have ndc : m.cl.Nodup := R.once 2 (by decide)
  refine DComp_of (fun i acc h' => acc = kvN (m.cl.take i) ∧ h' = H) (by unfold enumL; rw [List.length_mapIdx, List.length_map]; unfold sizeLine; omega) ⟨rfl, rfl⟩ ?_ ?_
  · rintro i d acc h' hd ⟨rfl, rfl⟩
    obtain ⟨x, hx, rfl⟩ := enum_get hd
    obtain ⟨s, hs, rfl⟩ := get_map hx
    have hi := (List.getElem?_eq_some_iff.mp hs).1
    have fresh : s ∉ m.cl.take i := fun z => by
      rw [← List.take_append_drop i m.cl, List.nodup_append] at ndc
      refine ndc.2.2 _ z _ ?_ rfl
      rw [List.drop_eq_getElem_cons hi, (List.getElem?_eq_some_iff.mp hs).2]
      simp
    have p := put_kvN fresh
    rw [show ((m.cl.take i).length : Int) = (i : Int) by rw [List.length_take]; omega] at p
    simp_arith
    refine ⟨trivial, ?_⟩
    refine ⟨trivial, ?_, trivial⟩
    rw [List.take_succ, hs]
    exact p
  rintro acc h' ⟨rfl, rfl⟩
  rw [show (enumL (m.cl.map D.str)).length = m.cl.length by unfold enumL; rw [List.length_mapIdx, List.length_map], List.take_length]
  refine ⟨trivial, fun b4 hb4 => ?_⟩
  have nb4 : b ≠ b4 := ne_cell f0 hb4
  have zb4 : h0 b4 = none := none_sub sb hb4
  have f0 : put h' b4 (.dct (kvN m.cl)) b = some (.ins (ζ.1 0) [("stations", .ref b1), ("types", .ref b2), ("flights", .ref b3), ("tails", .tup (m.ta.map taD))]) := by rw [put_ne nb4]; exact f0
  have f1 : put h' b4 (.dct (kvN m.cl)) b1 = some (.dct (kvA (·.nm) stD m.st)) := by rw [put_ne (ne_cell f1 hb4)]; exact f1
  have f2 : put h' b4 (.dct (kvN m.cl)) b2 = some (.dct (kvA (·.nm) tyD m.ty)) := by rw [put_ne (ne_cell f2 hb4)]; exact f2
  have f3 : put h' b4 (.dct (kvN m.cl)) b3 = some (.dct (kvA (·.nm) flD m.fl)) := by rw [put_ne (ne_cell f3 hb4)]; exact f3
  have f4 : put h' b4 (.dct (kvN m.cl)) b4 = some (.dct (kvN m.cl)) := put_same
  have sb : Sub h0 (put h' b4 (.dct (kvN m.cl))) := Sub.put zb4 sb
  generalize put h' b4 (.dct (kvN m.cl)) = H at *
  simp_arith only [f0, PF_cf, PF_ca, prmC_ca]
  refine AND_of (by decide) ?_
  simp_arith only [pf4, put_same, put_put, netD, netL, at_5, PF_cf, PF_ca, prmC_ca]
  refine AND_of (by decide) ?_
  simp_arith only [pf5, put_same, put_put, PF_cf, PF_ca, prmC_ca]
  refine Done_of (k b1 b2 b3 b4 _ ⟨put_same, ?_, ?_, ?_, ?_, Sub.put hb sb⟩)
  · rw [put_ne nb1.symm]; exact f1
  · rw [put_ne nb2.symm]; exact f2
  · rw [put_ne nb3.symm]; exact f3
  · rw [put_ne nb4.symm]; exact f4
theorem turn_s {y : Ty} (c : LK (ζ.1 0) m h0 h b b1 b2 b3 b4) (R : Right m) (hy : y ∈ m.ty) (k : Q (.int y.t) h) : CF (PP ζ) TB (n + 1) 28 [.ref b, .str y.nm] h Q e := by
  have ci := c.ins
  have c2 := c.s2
  have fnd := find_kvA (en := tyD) (R.once 1 (by decide) : (m.ty.map (·.nm)).Nodup) hy
  refine CF_of (fn := ⟨2, 2, w_Lookup_turn⟩) rfl rfl ?_; dsimp only; unfold w_Lookup_turn
  simp_arith only [ci, lkT, c2, fnd, tyD, at_2, PF_cf, PF_ca, prmC_ca]
  trace_state
  exact Done_of k
end
end K72

namespace K72
open PySem Lg Net
open L2 (atI ixN)
set_option checkBinderAnnotations false
variable {ζ : Ad}
theorem fk_fit9 : ∀ k, k < 9 → (("f" : Str) ++ ((toString ((k : Nat) : Int) : String) : Str)).length + ("_" : Str).length ≤ 10 := by decide +kernel
theorem fk_fit9b : ∀ k, k < 9 → ∀ j, j < 5 → (("f" : Str) ++ ((toString ((k : Nat) : Int) : String) : Str) ++ ("_" : Str)).length + ((toString ((j : Nat) : Int) : String) : Str).length ≤ 10 := by decide +kernel
theorem rep14 : List.replicate 14 (none : Option D) = [none, none, none, none, none, none, none, none, none, none, none, none, none, none] := rfl
section
variable {n : Nat} {h : LH} {Q : QD} {e : EX}
theorem busy_s {is : List Int} {a : Addr} {p : Int} (ha : h a = some (.lst [.int p])) (hp : 0 ≤ p)
    (k : ∀ (m : N) (p' : Int), Right m → Near m → m.fl ≠ [] → 0 ≤ p' → Q (netD m) (put h a (.lst [.int p']))) :
    CF (PP ζ) TB (n + 5) 18 [.lst (is.map D.int), .ref a] h Q e := by
  have g := Gn.refl ha hp
  refine CF_of (fn := ⟨2, 16, w__law_busy⟩) rfl rfl ?_; dsimp only; unfold w__law_busy
  simp_arith only [rep14, PF_cf]
  refine oneC g.at_ g.nn (by simp) fun d hd => ?_
  obtain ⟨l1, rfl, l1a, l1b⟩ := pick (l := [0, 20, 45]) (lo := 0) (hi := 600) hd (by decide)
  have g := g.mv (p' := p + 1) g.nn2
  generalize p + 1 = p at *
  generalize put h a (.lst [.int p]) = H at *
  try simp_arith only [PF_cf]
  refine oneC g.at_ g.nn (by simp) fun d hd => ?_
  obtain ⟨l2, rfl, l2a, l2b⟩ := pick (l := [0, 20, 45]) (lo := 0) (hi := 600) hd (by decide)
  have g := g.mv (p' := p + 1) g.nn2
  generalize p + 1 = p at *
  generalize put H a (.lst [.int p]) = H at *
  obtain ⟨L, eL⟩ : ∃ L : List St, L = [⟨"A", 0, l1⟩, ⟨"B", 60, l2⟩, ⟨"C", -60, 30⟩] := ⟨_, rfl⟩
  have eLD : ([.tup [.str "A", .int 0, .int l1], .tup [.str "B", .int 60, .int l2], .tup [.str "C", .int (-60), .int 30]] : List D) = L.map stD := by rw [eL]; rfl
  try simp_arith only [rep14, eLD, PF_cf]
  refine takeC g.at_ g.nn (by decide) fun s s0 s1 => ?_
  have g := g.mv (p' := p + 1) g.nn2
  generalize p + 1 = p at *
  generalize put H a (.lst [.int p]) = H at *
  obtain ⟨T, eT⟩ : ∃ T : List Ty, T = [⟨"T", 1 + s, 20⟩, ⟨"U", 2, 0⟩, ⟨"S", 1, 30⟩] := ⟨_, rfl⟩
  have eTD : ([.tup [.str "T", .int (1 + s), .int 20], .tup [.str "U", .int 2, .int 0], .tup [.str "S", .int 1, .int 30]] : List D) = T.map tyD := by rw [eT]; rfl
  simp_arith only [rep14, eLD, eTD, PF_cf]
  refine takeC g.at_ g.nn (by decide) fun r r0 r1 => ?_
  obtain ⟨c2, rfl⟩ : ∃ c : Nat, r = (c : Int) := ⟨r.toNat, by omega⟩
  have g := g.mv (p' := p + 1) g.nn2
  generalize p + 1 = p at *
  generalize put H a (.lst [.int p]) = H at *
  have ec := cut_nm (l := ["Y", "B", "K"]) (ds := [.str "Y", .str "B", .str "K"]) rfl (x := 1 + (c2 : Int)) (k := 1 + c2) (by omega)
  have clL : ((["Y", "B", "K"] : List Str).take (1 + c2)).length = 1 + c2 := by rw [List.length_take]; show min (1 + c2) 3 = _; omega
  have clB : ∀ s ∈ (["Y", "B", "K"] : List Str).take (1 + c2), s ∈ cbase := fun s hs => (by decide : ∀ s ∈ (["Y", "B", "K"] : List Str), s ∈ cbase) s (List.mem_of_mem_take hs)
  have clN : ((["Y", "B", "K"] : List Str).take (1 + c2)).Nodup := (by decide : (["Y", "B", "K"] : List Str).Nodup).sublist (List.take_sublist _ _)
  generalize (["Y", "B", "K"] : List Str).take (1 + c2) = cl at *
  simp_arith only [rep14, ec, PF_cf]
  refine New_of fun b5 hb5 => ?_
  obtain ⟨h5, n5⟩ := g.none hb5
  have t5 : put H b5 (.lst []) b5 = some (.lst []) := put_same
  have g := g.loc (c := .lst []) h5 n5
  generalize put H b5 (.lst []) = H at *
  simp_arith only [PF_cf]
  refine New_of fun b6 hb6 => ?_
  obtain ⟨h6, n6⟩ := g.none hb6
  have x56 : b5 ≠ b6 := ne_cell t5 hb6
  have t5 : put H b6 (.lst []) b5 = some (.lst []) := by rw [put_ne x56]; exact t5
  have t6 : put H b6 (.lst []) b6 = some (.lst []) := put_same
  have g := g.loc (c := .lst []) h6 n6
  generalize put H b6 (.lst []) = H at *
  simp_arith only [PF_cf]
  refine takeC g.at_ g.nn (by decide) fun r w0 w1 => ?_
  obtain ⟨kz, rfl⟩ : ∃ c : Nat, r = (c : Int) := ⟨r.toNat, by omega⟩
  have t5 := g.get t5 n5 (d := .lst [.int (p + 1)])
  have t6 := g.get t6 n6 (d := .lst [.int (p + 1)])
  have g := g.mv (p' := p + 1) g.nn2
  generalize p + 1 = p at *
  generalize put H a (.lst [.int p]) = H at *
  simp_arith only [PF_cf]
  refine AND_of (by omega) ?_
  have tm3 : T.length = 3 := by rw [eT]; rfl
  have hT : ∀ y ∈ T, (1 ≤ y.s ∧ y.s ≤ 500) ∧ (0 ≤ y.t ∧ y.t ≤ 30) := by
    rw [eT]; intro y hy
    simp only [List.mem_cons, List.not_mem_nil, or_false] at hy
    rcases hy with rfl | rfl | rfl
    all_goals exact ⟨⟨by dsimp only; omega, by dsimp only; omega⟩, by dsimp only; omega, by dsimp only; omega⟩
  have tN : T.map (·.nm) = (["T", "U", "S"] : List Str) := by rw [eT]; rfl
  have lN : L.map (·.nm) = (["A", "B", "C"] : List Str) := by rw [eL]; rfl
  have hL : ∀ s ∈ L, (-720 ≤ s.z ∧ s.z ≤ 840) ∧ (0 ≤ s.l ∧ s.l ≤ 600) := by
    rw [eL]; intro y hy
    simp only [List.mem_cons, List.not_mem_nil, or_false] at hy
    rcases hy with rfl | rfl | rfl
    all_goals exact ⟨⟨by dsimp only; omega, by dsimp only; omega⟩, by dsimp only; omega, by dsimp only; omega⟩
  refine Loop_of (fun i ρ h' => ∃ (fls : List Fl) (tas : List Ta) (p' : Int), FS true ["A", "B", "C"] T cl.length i 0 fls ∧ TS T i fls tas [] ∧ (1 ≤ i → fls ≠ []) ∧
    ρ = [some (.lst (is.map D.int)), some (.ref a), some (.tup (L.map stD)), some (.tup (T.map tyD)), some (.tup (cl.map .str)), some (.ref b5), some (.ref b6), none, none, none, none, none, none, none, none, none] ∧
    h' b5 = some (.lst (fls.map flD)) ∧ h' b6 = some (.lst (tas.map taD)) ∧ Gn a h h' p')
    ⟨[], [], p, ⟨nofun, nofun, List.nodup_nil, Nat.zero_le _⟩, ⟨rfl, nofun, rfl⟩, fun q => absurd q (by decide), by rw [← eLD, ← eTD, ec]; rfl, t5, t6, g⟩ ?_ ?_
  · clear t5 t6 g
    rintro i d ρ H hd ⟨fls, tas, p, fs, ts, ne, rfl, t5, t6, g⟩
    obtain ⟨hi, rfl⟩ := rngL_get hd
    rw [show (0 : Int) + (i : Int) = (i : Int) by omega]
    have hi : i < 8 := by omega
    simp_arith only [PF_cf]
    refine takeC g.at_ g.nn (by decide) fun r r0 r1 => ?_
    obtain ⟨c4, hc4, mem⟩ := at_some (xs := [D.int 0, .int 0, .int 1, .int 2]) r0 r1
    obtain ⟨c4, rfl, m1, m2⟩ := pick (l := [0, 0, 1, 2]) (lo := 0) (hi := 2) mem (by decide)
    obtain ⟨yd, hyd, ymem⟩ := at_some (xs := T.map tyD) m1 (by rw [List.length_map, tm3]; omega)
    obtain ⟨y, hy, rfl⟩ := List.mem_map.mp ymem
    have t5 := g.get t5 n5 (d := .lst [.int (p + 1)])
    have t6 := g.get t6 n6 (d := .lst [.int (p + 1)])
    have g := g.mv (p' := p + 1) g.nn2
    generalize p + 1 = p at *
    generalize put H a (.lst [.int p]) = H at *
    simp_arith only [hc4, hyd, PF_cf]
    refine oneC g.at_ g.nn (by simp) fun d hd => ?_
    obtain ⟨here, hh, rfl⟩ : ∃ here : Str, here ∈ (["A", "B", "C"] : List Str) ∧ d = .str here := by
      simp only [List.mem_cons, List.not_mem_nil, or_false] at hd
      rcases hd with rfl | rfl | rfl | rfl
      · exact ⟨"A", by simp, rfl⟩
      · exact ⟨"A", by simp, rfl⟩
      · exact ⟨"B", by simp, rfl⟩
      · exact ⟨"C", by simp, rfl⟩
    have t5 := g.get t5 n5 (d := .lst [.int (p + 1)])
    have t6 := g.get t6 n6 (d := .lst [.int (p + 1)])
    have g := g.mv (p' := p + 1) g.nn2
    generalize p + 1 = p at *
    generalize put H a (.lst [.int p]) = H at *
    try simp_arith only [PF_cf]
    refine takeC g.at_ g.nn (by decide) fun r u0 u1 => ?_
    have t5 := g.get t5 n5 (d := .lst [.int (p + 1)])
    have t6 := g.get t6 n6 (d := .lst [.int (p + 1)])
    have g := g.mv (p' := p + 1) g.nn2
    generalize p + 1 = p at *
    generalize put H a (.lst [.int p]) = H at *
    simp_arith only [PF_cf]
    refine AND_of (mulL (by omega) (by omega)) ?_
    obtain ⟨time, etm, tm0, tm1⟩ : ∃ x : Int, x = 40 * r ∧ 0 ≤ x ∧ x ≤ 440 := ⟨_, rfl, by omega, by omega⟩
    simp_arith only [← etm, PF_cf]
    refine New_of fun b11 hb11 => ?_
    obtain ⟨h11, n11⟩ := g.none hb11
    have z5 : b5 ≠ b11 := ne_cell t5 hb11
    have z6 : b6 ≠ b11 := ne_cell t6 hb11
    have t5 : put H b11 (.lst []) b5 = some (.lst (fls.map flD)) := by rw [put_ne z5]; exact t5
    have t6 : put H b11 (.lst []) b6 = some (.lst (tas.map taD)) := by rw [put_ne z6]; exact t6
    have t11 : put H b11 (.lst []) b11 = some (.lst []) := put_same
    have g := g.loc (c := .lst []) h11 n11
    generalize put H b11 (.lst []) = H at *
    simp_arith only [PF_cf]
    refine takeC g.at_ g.nn (by decide) fun r v0 v1 => ?_
    obtain ⟨c5, rfl⟩ : ∃ c : Nat, r = (c : Int) := ⟨r.toNat, by omega⟩
    have t5 := g.get t5 n5 (d := .lst [.int (p + 1)])
    have t6 := g.get t6 n6 (d := .lst [.int (p + 1)])
    have t11 := g.get t11 n11 (d := .lst [.int (p + 1)])
    have g := g.mv (p' := p + 1) g.nn2
    generalize p + 1 = p at *
    generalize put H a (.lst [.int p]) = H at *
    simp_arith only [PF_cf]
    refine AND_of (by omega) ?_
    obtain ⟨⟨ys1, ys2⟩, yt1, yt2⟩ := hT y hy
    refine Loop_of (fun j ρ h' => ∃ (fls : List Fl) (row : List Str) (o : Option Fl) (here : Str) (time p' : Int), FS true ["A", "B", "C"] T cl.length i j fls ∧ TS T i fls tas row ∧ (1 ≤ j → fls ≠ []) ∧ chE fls y.nm y.t row o ∧ (∀ g, o = some g → g.b = here ∧ g.ar + y.t ≤ time) ∧ here ∈ (["A", "B", "C"] : List Str) ∧ 0 ≤ time ∧ time ≤ 440 + 190 * (j : Int) ∧
      ρ = [some (.lst (is.map D.int)), some (.ref a), some (.tup (L.map stD)), some (.tup (T.map tyD)), some (.tup (cl.map .str)), some (.ref b5), some (.ref b6), some (.int (i : Int)), some (tyD y), some (.str here), some (.int time), some (.ref b11), none, none, none, none] ∧
      h' b5 = some (.lst (fls.map flD)) ∧ h' b6 = some (.lst (tas.map taD)) ∧ h' b11 = some (.lst (row.map .str)) ∧ Gn a h h' p')
      ⟨fls, [], none, here, time, p, fs, ts, fun q => absurd q (by decide), .nil, nofun, hh, tm0, by omega, by simp_arith only [etm], t5, t6, t11, g⟩ ?_ ?_
    · clear t5 t6 t11 g fs ts hh tm0 tm1 etm ne
      rintro j d ρ H hd ⟨fls, row, o, here, time, p, fs, ts, ne, ch, ho, hh, u0, u1, rfl, t5, t6, t11, g⟩
      obtain ⟨hj, rfl⟩ := rngL_get hd
      rw [show (0 : Int) + (j : Int) = (j : Int) by omega]
      have hj : j < 3 := by omega
      simp_arith only [PF_cf]
      refine Compr_of (its := (["B", "C", "C", "A"] : List Str).map D.str) (fNe here) (by decide) trivial (fun d K hd hk => ?_) ?_
      · obtain ⟨s, hs, rfl⟩ := List.mem_map.mp hd
        simp_arith
        simp only [fNe] at hk
        refine br_of (fun z => ?_) (fun z => ?_)
        · rw [if_neg (by simpa using z)] at hk
          simp_arith; exact hk
        · rw [if_pos (by simpa using z)] at hk
          simp_arith; exact hk
      rw [fNe_map]
      have oth : 0 < ((["B", "C", "C", "A"] : List Str).filter fun s => !decide (s = here)).length := (by decide : ∀ x ∈ (["A", "B", "C"] : List Str), 0 < ((["B", "C", "C", "A"] : List Str).filter fun s => !decide (s = x)).length) here hh
      have sub4 : ∀ s ∈ (["B", "C", "C", "A"] : List Str), s ∈ (["A", "B", "C"] : List Str) := by decide
      try simp_arith only [PF_cf]
      have oth' : 0 < (((["B", "C", "C", "A"] : List Str).filter fun s => !decide (s = here)).map D.str).length := by rw [List.length_map]; exact oth
      refine oneC g.at_ g.nn oth' fun d hd => ?_
      obtain ⟨there, hth, rfl⟩ := List.mem_map.mp hd
      obtain ⟨th1, th2⟩ := List.mem_filter.mp hth
      have th1 := sub4 _ th1
      have th2 : there ≠ here := by simpa using th2
      have t5 := g.get t5 n5 (d := .lst [.int (p + 1)])
      have t6 := g.get t6 n6 (d := .lst [.int (p + 1)])
      have t11 := g.get t11 n11 (d := .lst [.int (p + 1)])
      have g := g.mv (p' := p + 1) g.nn2
      generalize p + 1 = p at *
      generalize put H a (.lst [.int p]) = H at *
      try simp_arith only [PF_cf]
      refine oneC g.at_ g.nn (by simp) fun d hd => ?_
      obtain ⟨dd, rfl, d1, d2⟩ := pick (l := [0, 10, 40, 100]) (lo := 0) (hi := 100) hd (by decide)
      have t5 := g.get t5 n5 (d := .lst [.int (p + 1)])
      have t6 := g.get t6 n6 (d := .lst [.int (p + 1)])
      have t11 := g.get t11 n11 (d := .lst [.int (p + 1)])
      have g := g.mv (p' := p + 1) g.nn2
      generalize p + 1 = p at *
      generalize put H a (.lst [.int p]) = H at *
      simp_arith only [PF_cf]
      refine AND_of (nm_log (by omega)) ?_
      simp_arith only [PF_cf]
      refine AND_of (Nat.le_trans (nm_fit1 i (by omega)) (by decide)) ?_
      simp_arith only [PF_cf]
      refine AND_of (Nat.le_trans (fk_fit9 i (by omega)) (by decide)) ?_
      simp_arith only [PF_cf]
      refine AND_of (nm_log (by omega)) ?_
      simp_arith only [PF_cf]
      refine AND_of (Nat.le_trans (fk_fit9b i (by omega) j (by omega)) (by decide)) ?_
      simp_arith only [PF_cf]
      refine AND_of (by rw [t5]; rfl) ?_
      simp_arith only [tyD, at_0, PF_cf]
      refine AND_of (mulL (by omega) (by omega)) ?_
      simp_arith only [PF_cf]
      refine AND_of ⟨by omega, by omega, by simp⟩ ?_
      have eR : (List.replicate ((cl.length : Int)).toNat [D.int 9]).flatten = (List.replicate cl.length 9).map D.int := by
        rw [rep_one, List.map_replicate, Int.toNat_natCast]
      have fsl := fs.len
      have rowl : row.length ≤ 40 := by
        have := congrArg List.length ts.fl
        simp only [List.length_append, List.length_map] at this
        omega
      simp_arith only [eR, t5, PF_cf]
      refine AND_of (by unfold sizeLine; omega) ?_
      have q11 : ∀ c, put H b5 c b11 = some (.lst (row.map .str)) := fun c => by rw [put_ne z5.symm]; exact t11
      simp_arith only [q11, PF_cf]
      refine AND_of (by unfold sizeLine; omega) ?_
      simp_arith only [tyD, at_2, PF_cf]
      obtain ⟨r, er⟩ : ∃ r : Fl, r = ⟨nmF true i j, here, there, time + dd, time + dd + 60, y.nm, 100 + 10 * (i : Int), List.replicate cl.length 9⟩ := ⟨_, rfl⟩
      have ok : FlOk ["A", "B", "C"] T cl.length r := by
        subst er
        refine ⟨⟨hh, th1, fun q => th2 q.symm⟩, ⟨by dsimp only; omega, by dsimp only; omega, by dsimp only; omega⟩, List.mem_map_of_mem (f := (·.nm)) hy, ⟨by dsimp only; omega, by dsimp only; omega⟩, by simp, fun x hx => ?_, List.pairwise_replicate.mpr (.inr (Int.le_refl _))⟩
        rw [List.eq_of_mem_replicate hx]; decide
      have rn : r.nm = nmF true i j := by rw [er]
      refine ⟨fls ++ [r], row ++ [r.nm], some r, there, time + dd + 60 + y.t, p, fs.snoc (by omega) (by omega) ok rn, ts.leg, fun _ => by simp, .snoc (ch.mono fun f hf => List.mem_append_left _ hf) (by simp) (by rw [er]) (fun g hg => ?_), fun g hg => ?_, th1, by omega, by omega, ?_, ?_, ?_, ?_, ?_⟩
      · obtain ⟨w1, w2⟩ := ho g hg
        rw [er]; exact ⟨w1, by dsimp only; omega⟩
      · cases hg
        rw [er]; exact ⟨rfl, by dsimp only; omega⟩
      · exact (by first | rfl | trivial)
      · rw [put_ne z5, put_same, List.map_append, er]; rfl
      · rw [put_ne z6, put_ne x56.symm]; exact t6
      · rw [List.map_append, rn]; rfl
      · exact (g.loc h5 n5).loc h11 n11
    · rintro ρ H ⟨fls, row, o, here, time, p, fs, ts, ne, ch, ho, hh, u0, u1, rfl, t5, t6, t11, g⟩
      rw [rngL_len] at fs ne
      have tal : tas.length = i := by have := congrArg List.length ts.nm; simpa using this
      simp_arith only [t11, PF_cf]
      refine AND_of (by rw [t6]; rfl) ?_
      simp_arith only [PF_cf]
      refine AND_of (nm_log (by omega)) ?_
      simp_arith only [PF_cf]
      refine AND_of (Nat.le_trans (nm_fit1 i (by omega)) (by decide)) ?_
      simp_arith only [tyD, at_0, t11, t6, PF_cf]
      refine AND_of (by unfold sizeLine; omega) ?_
      simp_arith only [PF_cf]
      refine ⟨fls, tas ++ [⟨nmK "N" i, y.nm, row⟩], p, fs.next (by omega), ts.tail hy ch, fun _ => ne (by omega), (by first | rfl | trivial), ?_, ?_, g.loc h6 n6⟩
      · rw [put_ne x56]; exact t5
      · rw [List.map_append]; rfl
  rintro ρ H ⟨fls, tas, p, fs, ts, ne, rfl, t5, t6, g⟩
  rw [rngL_len] at fs ts ne
  simp_arith only [t5, t6, PF_cf]
  have kz8 : (3 + (kz : Int)).toNat ≤ 8 := by omega
  obtain ⟨R', N'⟩ := mk_net (fas := []) (kf := 0) lN (by decide : ∀ s ∈ (["A", "B", "C"] : List Str), s ∈ stN) (by decide) (by decide) hL (by rw [tN]; decide) (by rw [tN]; decide) (by omega) (fun t ht => ⟨(hT t ht).1, (hT t ht).2.1, by have := (hT t ht).2.2; omega⟩) clB clN (by omega) fs kz8 ts (List.Perm.refl _) rfl (by decide) nofun
  have kk := k _ p R' N' (ne (by omega)) g.nn
  exact Done_sub g.back kk
theorem ne_flT {l : List Fl} : @wcmp .NotEq (.tup (l.map flD)) (.tup []) h (Box.mk Q) = Q (.bl (!decide (l = []))) h := by
  have t := ne_tup (h := h) (l := l) (Q := Q)
  show eqW (.tup (l.map flD)) (.tup []) h (fun b => Q (.bl (!b)) h) = _
  have t2 := ne_tup (h := h) (l := l) (Q := fun d h' => match d with | .bl b => Q (.bl (!b)) h' | _ => False)
  exact t2
theorem some_s {is : List Int} {a : Addr} {p : Int} (ha : h a = some (.lst [.int p])) (hp : 0 ≤ p)
    (k : ∀ (m : N) (p' : Int), Right m → Near m → m.fl ≠ [] → 0 ≤ p' → Q (netD m) (put h a (.lst [.int p']))) :
    CF (PP ζ) TB (n + 6) 19 [.lst (is.map D.int), .ref a] h Q e := by
  refine CF_of (fn := ⟨2, 3, w__law_some_net⟩) rfl rfl ?_; dsimp only; unfold w__law_some_net
  simp_arith only [PF_cf]
  refine takeC ha hp (by decide) fun r r0 r1 => ?_
  simp_arith only [PF_cf]
  refine br_of (fun z => ?_) (fun z => ?_)
  · simp_arith only [PF_cf]
    refine busy_s put_same (by omega) fun m p' R Nr ne hp' => ?_
    rw [put_put]
    have dn : decide (m.fl = []) = false := decide_eq_false ne
    simp_arith only [netD, netL, at_3, ne_flT, dn, PF_cf]
    exact Done_of (k m p' R Nr ne hp')
  · simp_arith only [PF_cf]
    refine net_s put_same (by omega) fun m p' R Nr hp' => ?_
    rw [put_put]
    simp_arith only [netD, netL, at_3, ne_flT, PF_cf]
    refine br_of (fun z => ?_) (fun z => ?_)
    · simp_arith only [PF_cf]
      exact Done_of (k m p' R Nr (by simpa using z) hp')
    · simp_arith only [PF_cf]
      refine busy_s put_same hp' fun m p' R Nr ne hp' => ?_
      rw [put_put]
      exact Done_of (k m p' R Nr ne hp')
end
end K72

namespace Net
open PySem Lg
open L2 (atI ixN)
def leI (a b : Int) : Bool := decide (a ≤ b)
theorem srtI_w {h : LH} {Q : QD} {l : List Int} : @wblt .sorted [.lst (l.map .int)] h (Box.mk Q) = Q (.lst ((l.mergeSort leI).map .int)) h := by
  rw [blt_sorted]
  show opt (some (l.map D.int)) (fun ds => opt (pyL ds) fun as => (PySem.W.AllAlike as ∧ PySem.W.Sortable as ∧ PyData.depthAll as ≤ 60) ∧ Q (.lst (ds.mergeSort (PySem.W.dataLe false pyD))) h) = _
  have e : ∀ l : List Int, pyL (l.map D.int) = some (l.map PyData.int) := fun l => by
    induction l with
    | nil => rfl
    | cons x l ih => simp only [List.map_cons, pyL, D.py, ih]
  have e2 : (l.map D.int).mergeSort (PySem.W.dataLe false pyD) = (l.mergeSort leI).map D.int := by
    refine (List.map_mergeSort fun a _ b _ => ?_).symm
    have := congrFun (congrFun (PySem.W.dataLe_int (fun y : Int => y)) a) b
    exact this.symm
  have dp : ∀ l : List Int, PyData.depthAll (l.map PyData.int) ≤ 60 := fun l => by
    induction l with
    | nil => simp only [List.map_nil, PyData.depthAll]; omega
    | cons x l ih => simp only [List.map_cons, PyData.depthAll, PyData.depth]; omega
  simp only [opt, e, e2]
  refine propext ⟨fun z => z.2, fun z => ⟨⟨PySem.W.AllAlike.of fun a b => ?_, PySem.W.Sortable.others fun a => ⟨nofun, nofun⟩, dp l⟩, z⟩⟩
  simp only [PySem.W.alike]
/-! ### deficits -/
def gonL (fl : List Fl) (st : Str) (t : Int) : List Fl := fl.filter fun f => decide (f.a = st) && decide (f.dp ≤ t)
def rdyL (fl : List Fl) (tu : Int) (st : Str) (t : Int) : List Fl := fl.filter fun f => decide (f.b = st) && decide (f.ar + tu ≤ t)
def dfc (fl : List Fl) (tu : Int) (st : Str) (t : Int) : Int := ((gonL fl st t).length : Int) - ((rdyL fl tu st t).length : Int)
def stp (fl : List Fl) (tu : Int) (st : Str) (b : Int × Option Int) (t : Int) : Int × Option Int := if dfc fl tu st t > b.1 then (dfc fl tu st t, some t) else b
def tmsL (fl : List Fl) (st : Str) : List Int := ((fl.filter fun f => decide (f.a = st)).map (·.dp)).mergeSort leI
def dfS (fl : List Fl) (tu : Int) (st : Str) : Int × Option Int := (tmsL fl st).foldl (stp fl tu st) (0, none)
def kin (m : N) (y : Ty) : List Fl := m.fl.filter fun f => decide (f.ty = y.nm)
def oI : Option Int → D
  | none => .non
  | some t => .int t
def dfD (b : Int × Option Int) : D := .tup [.int b.1, oI b.2]
def fGo (st : Str) (t : Int) : D → Option D
  | .tup [n, .str a, b, .int dp, ar, ty, pr, ls] => if a = st ∧ dp ≤ t then some (.tup [n, .str a, b, .int dp, ar, ty, pr, ls]) else none
  | _ => none
def fRd (tu : Int) (st : Str) (t : Int) : D → Option D
  | .tup [n, a, .str b, dp, .int ar, ty, pr, ls] => if b = st ∧ ar + tu ≤ t then some (.tup [n, a, .str b, dp, .int ar, ty, pr, ls]) else none
  | _ => none
def fKi (y : Str) : D → Option D
  | .tup [n, a, b, dp, ar, .str ty, pr, ls] => if ty = y then some (.tup [n, a, b, dp, ar, .str ty, pr, ls]) else none
  | _ => none
def fTm (st : Str) : D → Option D
  | .tup [_, .str a, _, dp, _, _, _, _] => if a = st then some dp else none
  | _ => none
theorem fm_filter {α : Type} {en : α → D} {f : D → Option D} {p : α → Bool} : ∀ {l : List α}, (∀ x ∈ l, f (en x) = if p x then some (en x) else none) → (l.map en).filterMap f = (l.filter p).map en
  | [], _ => rfl
  | x :: l, h => by
    have ih := fm_filter (l := l) fun y hy => h y (List.mem_cons_of_mem _ hy)
    rw [List.map_cons, List.filterMap_cons, List.filter_cons, h x (List.mem_cons_self ..)]
    by_cases q : p x = true
    · rw [if_pos q, if_pos q, List.map_cons, ih]
    · rw [if_neg q, if_neg q, ih]
theorem fGo_map {st : Str} {t : Int} {l : List Fl} : (l.map flD).filterMap (fGo st t) = (gonL l st t).map flD := fm_filter fun f _ => by
  simp only [flD, fGo]
  by_cases q : f.a = st ∧ f.dp ≤ t
  · rw [if_pos q, if_pos (by simpa using q)]
  · rw [if_neg q, if_neg (by simpa using q)]
theorem fRd_map {tu : Int} {st : Str} {t : Int} {l : List Fl} : (l.map flD).filterMap (fRd tu st t) = (rdyL l tu st t).map flD := fm_filter fun f _ => by
  simp only [flD, fRd]
  by_cases q : f.b = st ∧ f.ar + tu ≤ t
  · rw [if_pos q, if_pos (by simpa using q)]
  · rw [if_neg q, if_neg (by simpa using q)]
theorem fKi_map {m : N} {y : Ty} : (m.fl.map flD).filterMap (fKi y.nm) = (kin m y).map flD := fm_filter fun f _ => by
  simp only [flD, fKi]
  by_cases q : f.ty = y.nm
  · rw [if_pos q, if_pos (by simpa using q)]
  · rw [if_neg q, if_neg (by simpa using q)]
theorem fTm_map {st : Str} : ∀ {l : List Fl}, (l.map flD).filterMap (fTm st) = ((l.filter fun f => decide (f.a = st)).map (·.dp)).map D.int
  | [] => rfl
  | f :: l => by
    have ih := fTm_map (st := st) (l := l)
    rw [List.map_cons, List.filterMap_cons, List.filter_cons]
    by_cases q : f.a = st
    · simp only [flD, fTm, if_pos q, decide_eq_true q, if_true, List.map_cons]; rw [ih]
    · simp only [flD, fTm, if_neg q, decide_eq_false q, Bool.false_eq_true, if_false]; exact ih
theorem len_go {fl : List Fl} {st : Str} {t : Int} : (gonL fl st t).length ≤ fl.length := List.length_filter_le ..
theorem len_rd {fl : List Fl} {tu : Int} {st : Str} {t : Int} : (rdyL fl tu st t).length ≤ fl.length := List.length_filter_le ..
theorem len_tm {fl : List Fl} {st : Str} : (tmsL fl st).length ≤ fl.length := by
  unfold tmsL
  rw [List.length_mergeSort, List.length_map]
  exact List.length_filter_le ..
theorem len_kin {m : N} {y : Ty} : (kin m y).length ≤ m.fl.length := List.length_filter_le ..
theorem tm_mem {fl : List Fl} {st : Str} {t : Int} (h : t ∈ tmsL fl st) : ∃ f ∈ fl, t = f.dp := by
  have h := (List.mergeSort_perm ..).mem_iff.mp h
  obtain ⟨f, hf, rfl⟩ := List.mem_map.mp h
  exact ⟨f, (List.mem_filter.mp hf).1, rfl⟩
/-- what the best deficit is made of -/
theorem dfS_ok {fl : List Fl} {tu : Int} {st : Str} : (0 ≤ (dfS fl tu st).1 ∧ (dfS fl tu st).1 ≤ fl.length) ∧ ∀ t, (dfS fl tu st).2 = some t → ∃ f ∈ fl, t = f.dp := by
  unfold dfS
  have key : ∀ (l : List Int) (b : Int × Option Int), (∀ t ∈ l, ∃ f ∈ fl, t = f.dp) → ((0 ≤ b.1 ∧ b.1 ≤ fl.length) ∧ ∀ t, b.2 = some t → ∃ f ∈ fl, t = f.dp) → ((0 ≤ (l.foldl (stp fl tu st) b).1 ∧ (l.foldl (stp fl tu st) b).1 ≤ fl.length) ∧ ∀ t, (l.foldl (stp fl tu st) b).2 = some t → ∃ f ∈ fl, t = f.dp) := by
    intro l
    induction l with
    | nil => intro b _ h; exact h
    | cons t l ih =>
      intro b hl hb
      rw [List.foldl_cons]
      refine ih _ (fun x hx => hl x (List.mem_cons_of_mem _ hx)) ?_
      unfold stp
      split
      · rename_i h
        refine ⟨⟨by dsimp only; omega, ?_⟩, fun x hx => ?_⟩
        · have := len_go (fl := fl) (st := st) (t := t)
          unfold dfc
          dsimp only; omega
        · cases hx; exact hl t (List.mem_cons_self ..)
      · exact hb
  exact key _ _ (fun t h => tm_mem h) ⟨⟨Int.le_refl _, by omega⟩, nofun⟩
end Net

namespace K72
open PySem Lg Net
open L2 (atI ixN)
set_option checkBinderAnnotations false
variable {ζ : Ad}
section
variable {α : Type} [DecidableEq α] {f : α → D} {p : α → PyData} {h : LH} {Q : QD} {y : D} {x : α} {xs : List α}
theorem pyL_gen (hp : ∀ a, D.py (f a) = some (p a)) : ∀ {xs : List α}, pyL (xs.map f) = some (xs.map p)
  | [] => rfl
  | a :: xs => by simp only [List.map_cons, pyL, hp a, pyL_gen hp (xs := xs)]
theorem depth_gen (hd : ∀ a, (p a).depth ≤ 60) : ∀ {xs : List α}, PyData.depthAll (xs.map p) ≤ 60
  | [] => by simp only [List.map_nil, PyData.depthAll]; omega
  | a :: xs => by
    have := hd a
    have := depth_gen hd (xs := xs)
    simp only [List.map_cons, PyData.depthAll]; omega
theorem any_gen (he : ∀ a b, PyData.eqv (p a) (p b) = decide (a = b)) : ∀ {xs : List α}, (xs.map p).any (fun z => PyData.eqv z (p x)) = decide (x ∈ xs)
  | [] => by simp
  | a :: xs => by
    rw [List.map_cons, List.any_cons, any_gen he (xs := xs), he]
    by_cases z : a = x
    · subst z; simp
    · have z' : x ≠ a := fun e => z e.symm
      simp [z, z']
theorem in_gen (hp : ∀ a, D.py (f a) = some (p a)) (hv : ∀ a, pv_ h (f a) = some (p a)) (he : ∀ a b, PyData.eqv (p a) (p b) = decide (a = b)) (hd : ∀ a, (p a).depth ≤ 60) (hy : dctv h y = none) (hs : seqv h y = some (xs.map f)) :
    inData h (f x) y = some (decide (x ∈ xs)) := by
  unfold inData
  simp only [hy, hs, hv, pyL_gen hp, any_gen he]
  rw [if_pos (by have := hd x; omega)]
theorem count_gen (he : ∀ a b, PyData.eqv (p a) (p b) = decide (a = b)) : (xs.map p).countP (fun z => PyData.eqv z (p x)) = xs.count x := by
  rw [List.countP_map, List.count]
  refine List.countP_congr fun a _ => ?_
  simp [Function.comp, he]
theorem notin_w (e : inData h (f x) y = some (decide (x ∈ xs))) : @wcmp .NotIn (f x) y h (Box.mk Q) = Q (.bl (!decide (x ∈ xs))) h := by
  show inW (f x) y h (fun b => Q (.bl (!b)) h) = _
  unfold inW; rw [e]
theorem in_w (e : inData h (f x) y = some (decide (x ∈ xs))) : @wcmp .In (f x) y h (Box.mk Q) = Q (.bl (decide (x ∈ xs))) h := by
  show inW (f x) y h (fun b => Q (.bl b) h) = _
  unfold inW; rw [e]
end
theorem notin_strs {h : LH} {Q : QD} {s : Str} {l : List Str} : @wcmp .NotIn (.str s) (.lst (l.map .str)) h (Box.mk Q) = Q (.bl (!decide (s ∈ l))) h :=
  notin_w (f := D.str) (x := s) (xs := l) (in_gen (f := D.str) (p := PyData.str) (fun _ => rfl) (fun _ => rfl) (fun a b => by
    simp only [PyData.eqv]; rw [Bool.eq_iff_iff]; simp) (fun a => by simp [PyData.depth]) rfl rfl)
def fNm1 : D → Option D
  | .tup (x :: _) => some x
  | _ => none
section
variable {n : Nat} {h : LH} {Q : QD} {e : EX}
theorem deficit_at_s {fl : List Fl} {tu t : Int} {st : Str} (hl : fl.length ≤ 40) (k : Q (.int (dfc fl tu st t)) h) : CF (PP ζ) TB (n + 1) 9 [.lst (fl.map flD), .int tu, .str st, .int t] h Q e := by
  have l1 := len_go (fl := fl) (st := st) (t := t)
  have l2 := len_rd (fl := fl) (tu := tu) (st := st) (t := t)
  refine CF_of (fn := ⟨4, 6, w_deficit_at⟩) rfl rfl ?_; dsimp only; unfold w_deficit_at
  simp_arith only [PF_cf]
  refine Compr_of (its := fl.map flD) (fGo st t) (by rw [List.length_map]; unfold sizeLine; omega) trivial (fun d K hd hk => ?_) ?_
  · obtain ⟨f, hf, rfl⟩ := List.mem_map.mp hd
    simp_arith only [flD, at_1, at_3, PF_cf]
    simp only [flD, fGo] at hk
    refine br_of (fun z => ?_) (fun z => ?_)
    · simp_arith only [flD, at_1, at_3, PF_cf]
      refine br_of (fun z2 => ?_) (fun z2 => ?_)
      · rw [if_pos ⟨of_decide_eq_true z, of_decide_eq_true z2⟩] at hk
        simp_arith; exact hk
      · rw [if_neg (fun q => of_decide_eq_false z2 q.2)] at hk
        simp_arith; exact hk
    · rw [if_neg (fun q => of_decide_eq_false z q.1)] at hk
      simp_arith; exact hk
  rw [fGo_map]
  simp_arith only [PF_cf]
  refine Compr_of (its := fl.map flD) (fRd tu st t) (by rw [List.length_map]; unfold sizeLine; omega) trivial (fun d K hd hk => ?_) ?_
  · obtain ⟨f, hf, rfl⟩ := List.mem_map.mp hd
    simp_arith only [flD, at_2, at_4, PF_cf]
    simp only [flD, fRd] at hk
    refine br_of (fun z => ?_) (fun z => ?_)
    · simp_arith only [flD, at_2, at_4, PF_cf]
      refine br_of (fun z2 => ?_) (fun z2 => ?_)
      · rw [if_pos ⟨of_decide_eq_true z, of_decide_eq_true z2⟩] at hk
        simp_arith; exact hk
      · rw [if_neg (fun q => of_decide_eq_false z2 q.2)] at hk
        simp_arith; exact hk
    · rw [if_neg (fun q => of_decide_eq_false z q.1)] at hk
      simp_arith; exact hk
  rw [fRd_map]
  simp_arith only [PF_cf]
  exact Done_of k
theorem deficit_of_s {fl : List Fl} {tu : Int} {st : Str} (hl : fl.length ≤ 40) (k : Q (dfD (dfS fl tu st)) h) : CF (PP ζ) TB (n + 2) 10 [.lst (fl.map flD), .int tu, .str st] h Q e := by
  have l3 := len_tm (fl := fl) (st := st)
  refine CF_of (fn := ⟨3, 7, w_deficit_of⟩) rfl rfl ?_; dsimp only; unfold w_deficit_of
  simp_arith only [PF_cf]
  refine Compr_of (its := fl.map flD) (fTm st) (by rw [List.length_map]; unfold sizeLine; omega) trivial (fun d K hd hk => ?_) ?_
  · obtain ⟨f, hf, rfl⟩ := List.mem_map.mp hd
    simp_arith only [flD, at_1, at_3, PF_cf]
    simp only [flD, fTm] at hk
    refine br_of (fun z => ?_) (fun z => ?_)
    · rw [if_pos (of_decide_eq_true z)] at hk
      simp_arith only [flD, at_1, at_3]; exact hk
    · rw [if_neg (of_decide_eq_false z)] at hk
      simp_arith; exact hk
  rw [fTm_map]
  simp_arith only [srtI_w, PF_cf]
  refine Loop_of (fun i ρ h' => ρ = [some (.lst (fl.map flD)), some (.int tu), some (.str st), some (dfD (((tmsL fl st).take i).foldl (stp fl tu st) (0, none))), none, none, none] ∧ h' = h) ⟨rfl, rfl⟩ ?_ ?_
  · rintro i d ρ h' hd ⟨rfl, rfl⟩
    obtain ⟨t, ht, rfl⟩ := get_map hd
    have ht : (tmsL fl st)[i]? = some t := ht
    have ef : ((tmsL fl st).take (i + 1)).foldl (stp fl tu st) (0, none) = stp fl tu st (((tmsL fl st).take i).foldl (stp fl tu st) (0, none)) t := by
      rw [List.take_succ, ht, List.foldl_append]; rfl
    generalize ((tmsL fl st).take i).foldl (stp fl tu st) (0, none) = b at ef ⊢
    simp_arith only [PF_cf]
    refine deficit_at_s hl ?_
    simp_arith only [dfD, at_0, PF_cf]
    refine br_of (fun z => ?_) (fun z => ?_)
    · simp_arith only [PF_cf]
      refine ⟨?_, trivial⟩
      rw [ef, stp, if_pos (of_decide_eq_true z)]
      rfl
    · simp_arith only [PF_cf]
      refine ⟨?_, trivial⟩
      rw [ef, stp, if_neg (of_decide_eq_false z)]
  · rintro ρ h' ⟨rfl, rfl⟩
    have el : (((fl.filter fun f => decide (f.a = st)).map (·.dp)).mergeSort leI).length = (tmsL fl st).length := rfl
    rw [List.length_map, el, List.take_length]
    refine AND_of (by first | rfl | trivial) ?_
    exact Done_of k
theorem flights_of_s {m : N} (R : Right m) {y : Ty} (hy : y ∈ m.ty) (k : Q (.lst ((kin m y).map flD)) h) : CF (PP ζ) TB (n + 1) 8 [netD m, .str y.nm] h Q e := by
  have l40 : m.fl.length ≤ 40 := by have := R.many 3 (by decide); simpa [nms, most] using this
  have l4 : m.ty.length ≤ 4 := by have := R.many 1 (by decide); simpa [nms, most] using this
  refine CF_of (fn := ⟨2, 4, w_flights_of⟩) rfl rfl ?_; dsimp only; unfold w_flights_of
  simp_arith only [netD, netL, at_1, PF_cf]
  refine Compr_of (its := m.ty.map tyD) fNm1 (by rw [List.length_map]; unfold sizeLine; omega) trivial (fun d K hd hk => ?_) ?_
  · obtain ⟨x, hx', rfl⟩ := List.mem_map.mp hd
    simp_arith only [tyD, at_0]
    exact hk
  rw [fm_map (g := tyD) (f := fNm1) (k := fun x => D.str x.nm) (fun x _ => rfl)]
  have en : m.ty.map (fun x => D.str x.nm) = (m.ty.map (·.nm)).map D.str := by rw [List.map_map]; rfl
  have isn : decide (y.nm ∈ m.ty.map (·.nm)) = true := decide_eq_true (List.mem_map_of_mem (f := (·.nm)) hy)
  simp_arith only [en, notin_strs, isn, netD, netL, at_3, PF_cf]
  refine Compr_of (its := m.fl.map flD) (fKi y.nm) (by rw [List.length_map]; unfold sizeLine; omega) trivial (fun d K hd hk => ?_) ?_
  · obtain ⟨f, hf, rfl⟩ := List.mem_map.mp hd
    simp_arith only [flD, at_0, at_5, PF_cf]
    simp only [flD, fKi] at hk
    refine br_of (fun z => ?_) (fun z => ?_)
    · rw [if_pos (of_decide_eq_true z)] at hk
      simp_arith; exact hk
    · rw [if_neg (of_decide_eq_false z)] at hk
      simp_arith; exact hk
  rw [fKi_map]
  simp_arith only [PF_cf]
  exact Done_of k
theorem law_deficit_s {m : N} (R : Right m) {y : Ty} {st : Str} (k : Q (dfD (dfS (kin m y) y.t st)) h) : CF (PP ζ) TB (n + 1) 20 [netD m, tyD y, .str st] h Q e := by
  have l40 : m.fl.length ≤ 40 := by have := R.many 3 (by decide); simpa [nms, most] using this
  have lk := len_kin (m := m) (y := y)
  have l3 := len_tm (fl := kin m y) (st := st)
  refine CF_of (fn := ⟨3, 9, w__law_deficit⟩) rfl rfl ?_; dsimp only; unfold w__law_deficit
  simp_arith only [netD, netL, tyD, at_0, at_3, PF_cf]
  refine Compr_of (its := m.fl.map flD) (fKi y.nm) (by rw [List.length_map]; unfold sizeLine; omega) trivial (fun d K hd hk => ?_) ?_
  · obtain ⟨f, hf, rfl⟩ := List.mem_map.mp hd
    simp_arith only [flD, tyD, at_0, at_5, PF_cf]
    simp only [flD, fKi] at hk
    refine br_of (fun z => ?_) (fun z => ?_)
    · rw [if_pos (of_decide_eq_true z)] at hk
      simp_arith; exact hk
    · rw [if_neg (of_decide_eq_false z)] at hk
      simp_arith; exact hk
  rw [fKi_map]
  generalize kin m y = fl at *
  simp_arith only [PF_cf]
  refine Compr_of (its := fl.map flD) (fTm st) (by rw [List.length_map]; unfold sizeLine; omega) trivial (fun d K hd hk => ?_) ?_
  · obtain ⟨f, hf, rfl⟩ := List.mem_map.mp hd
    simp_arith only [flD, at_1, at_3, PF_cf]
    simp only [flD, fTm] at hk
    refine br_of (fun z => ?_) (fun z => ?_)
    · rw [if_pos (of_decide_eq_true z)] at hk
      simp_arith only [flD, at_1, at_3]; exact hk
    · rw [if_neg (of_decide_eq_false z)] at hk
      simp_arith; exact hk
  rw [fTm_map]
  simp_arith only [srtI_w, PF_cf]
  refine Loop_of (fun i ρ h' => ρ = [some (netD m), some (tyD y), some (.str st), some (.lst (fl.map flD)), none, some (dfD (((tmsL fl st).take i).foldl (stp fl y.t st) (0, none))), none, none, none] ∧ h' = h) ⟨by simp_arith only [netD, netL, tyD]; rfl, rfl⟩ ?_ ?_
  · rintro i d ρ h' hd ⟨rfl, rfl⟩
    obtain ⟨t, ht, rfl⟩ := get_map hd
    have ht : (tmsL fl st)[i]? = some t := ht
    have ef : ((tmsL fl st).take (i + 1)).foldl (stp fl y.t st) (0, none) = stp fl y.t st (((tmsL fl st).take i).foldl (stp fl y.t st) (0, none)) t := by
      rw [List.take_succ, ht, List.foldl_append]; rfl
    generalize ((tmsL fl st).take i).foldl (stp fl y.t st) (0, none) = b at ef ⊢
    have l1 := len_go (fl := fl) (st := st) (t := t)
    have l2 := len_rd (fl := fl) (tu := y.t) (st := st) (t := t)
    simp_arith only [PF_cf]
    refine Compr_of (its := fl.map flD) (fGo st t) (by rw [List.length_map]; unfold sizeLine; omega) trivial (fun d K hd hk => ?_) ?_
    · obtain ⟨f, hf, rfl⟩ := List.mem_map.mp hd
      simp_arith only [flD, at_1, at_3, PF_cf]
      simp only [flD, fGo] at hk
      refine br_of (fun z => ?_) (fun z => ?_)
      · simp_arith only [flD, at_1, at_3, PF_cf]
        refine br_of (fun z2 => ?_) (fun z2 => ?_)
        · rw [if_pos ⟨of_decide_eq_true z, of_decide_eq_true z2⟩] at hk
          simp_arith; exact hk
        · rw [if_neg (fun q => of_decide_eq_false z2 q.2)] at hk
          simp_arith; exact hk
      · rw [if_neg (fun q => of_decide_eq_false z q.1)] at hk
        simp_arith; exact hk
    rw [fGo_map]
    simp_arith only [PF_cf]
    refine Compr_of (its := fl.map flD) (fRd y.t st t) (by rw [List.length_map]; unfold sizeLine; omega) trivial (fun d K hd hk => ?_) ?_
    · obtain ⟨f, hf, rfl⟩ := List.mem_map.mp hd
      simp_arith only [flD, tyD, at_2, at_4, PF_cf]
      simp only [flD, fRd] at hk
      refine br_of (fun z => ?_) (fun z => ?_)
      · simp_arith only [flD, tyD, at_2, at_4, PF_cf]
        refine br_of (fun z2 => ?_) (fun z2 => ?_)
        · rw [if_pos ⟨of_decide_eq_true z, of_decide_eq_true z2⟩] at hk
          simp_arith; exact hk
        · rw [if_neg (fun q => of_decide_eq_false z2 q.2)] at hk
          simp_arith; exact hk
      · rw [if_neg (fun q => of_decide_eq_false z q.1)] at hk
        simp_arith; exact hk
    rw [fRd_map]
    simp_arith only [dfD, at_0, PF_cf]
    refine br_of (fun z => ?_) (fun z => ?_)
    · simp_arith only [PF_cf]
      refine ⟨?_, trivial⟩
      have z' : dfc fl y.t st t > b.1 := of_decide_eq_true z
      rw [ef, stp, if_pos z']
      rfl
    · simp_arith only [PF_cf]
      refine ⟨?_, trivial⟩
      have z' : ¬ dfc fl y.t st t > b.1 := of_decide_eq_false z
      rw [ef, stp, if_neg z']
  · rintro ρ h' ⟨rfl, rfl⟩
    have el : (((fl.filter fun f => decide (f.a = st)).map (·.dp)).mergeSort leI).length = (tmsL fl st).length := rfl
    rw [List.length_map, el, List.take_length]
    refine AND_of (by first | rfl | trivial) ?_
    exact Done_of k
end
end K72

namespace Net
open PySem Lg
open L2 (atI ixN)
/-! ### what is told -/
def en (e : Int × D) : D := .tup [.int e.1, e.2]
def sh (d : D) : Str := (pyD d).shown
def okE : D → Bool
  | .tup [.int _, _] => true
  | _ => false
def hasF (sz : Nat) : D → Bool
  | .tup ds => decide (ds.length = sz) && ds.all okE
  | _ => false
/-- good data: plain, short, without lists -/
structure Gd (d : D) (c k : Nat) : Prop where
  ex : ∃ p, D.py d = some p ∧ p.showable = true ∧ p.shown.length ≤ c ∧ p.depth ≤ k ∧ flS p = true
theorem Gd.sh {d : D} {c k : Nat} (g : Gd d c k) : Sh d c k := by
  obtain ⟨p, a1, a2, a3, a4, _⟩ := g.ex
  exact ⟨p, a1, a2, a3, a4⟩
theorem Gd.tup {ds : List D} {c k : Nat} (h : ∀ d ∈ ds, Gd d c k) : Gd (.tup ds) ((c + 2) * ds.length + 4) (k + 1) := by
  obtain ⟨p, a1, a2, a3, a4⟩ := (Sh.tup fun d hd => (h d hd).sh).ex
  refine ⟨p, a1, a2, a3, a4, ?_⟩
  have key : ∀ (ds : List D), (∀ d ∈ ds, Gd d c k) → ∀ ps, pyL ds = some ps → flSL ps = true := by
    intro ds
    induction ds with
    | nil => intro _ ps e; cases e; rfl
    | cons d ds ih =>
      intro h ps e
      obtain ⟨p, b1, _, _, _, b5⟩ := (h d (List.mem_cons_self ..)).ex
      simp only [pyL, b1] at e
      cases q : pyL ds with
      | none => rw [q] at e; cases e
      | some qs =>
        rw [q] at e; cases e
        simp only [flSL, b5, ih (fun x hx => h x (List.mem_cons_of_mem _ hx)) qs q, Bool.and_self]
  simp only [D.py] at a1
  cases q : pyL ds with
  | none => rw [q] at a1; cases a1
  | some ps => rw [q] at a1; cases a1; simp only [flS]; exact key ds h ps q
theorem Gd.mono {d : D} {c k c' k' : Nat} (g : Gd d c k) (h : c ≤ c') (h' : k ≤ k') : Gd d c' k' := by
  obtain ⟨p, a1, a2, a3, a4, a5⟩ := g.ex
  exact ⟨p, a1, a2, by omega, by omega, a5⟩
theorem Gd.int {i : Int} (h0 : -1000000000 < i) (h1 : i < 1000000000) : Gd (.int i) 10 0 := ⟨.int i, rfl, int_show h0 h1, int_len h0 h1, by simp [PyData.depth], rfl⟩
theorem Gd.non : Gd .non 4 0 := ⟨.none, rfl, rfl, by decide +kernel, by simp [PyData.depth], rfl⟩
theorem Gd.bl {b : Bool} : Gd (.bl b) 5 0 := ⟨.bool b, rfl, rfl, by cases b <;> decide +kernel, by simp [PyData.depth], rfl⟩
theorem Gd.str {s : Str} {l : Nat} (h : asc s) (hl : s.length ≤ l) : Gd (.str s) (10 * l + 2) 0 := by
  obtain ⟨p, a1, a2, a3, a4⟩ := (Sh.strA h hl).ex
  have : p = .str s := by simp only [D.py] at a1; exact (Option.some.inj a1).symm
  subst this
  exact ⟨.str s, a1, a2, a3, a4, rfl⟩
theorem Gd.rep {d : D} {c k : Nat} (g : Gd d c k) (hc : c ≤ sizeLine) (hk : k ≤ 60) (h : LH) (Q : QD) : @wblt .repr [d] h (Box.mk Q) = Q (.str (Net.sh d)) h := by
  obtain ⟨p, a1, a2, a3, a4, _⟩ := g.ex
  rw [blt_repr]
  show opt (pv_ h d) _ = _
  rw [py_pv a1 h]
  have e : Net.sh d = p.shown := by unfold Net.sh pyD; rw [a1]; rfl
  rw [e]
  exact propext ⟨fun z => z.2, fun z => ⟨⟨a2, by omega, by omega⟩, z⟩⟩
def V0 (d : D) : Prop := d = .non ∨ ∃ t, d = .int t ∧ 0 ≤ t ∧ t ≤ 100000
def V1 (d : D) : Prop := V0 d ∨ d = .bl true ∨ (∃ s, d = .str s ∧ asc s ∧ s.length ≤ 20) ∨ ∃ v, V0 v ∧ d = .tup [v]
def V2 (d : D) : Prop := V1 d ∨ (∃ s, d = .str s ∧ asc s ∧ s.length ≤ 40) ∨ ∃ v, V1 v ∧ d = .tup [v]
theorem asc_c : asc (PyData.none).shown ∧ asc (PyData.bool true).shown := by unfold asc; decide +kernel
theorem v0_sh {d : D} (v : V0 d) : ∃ p, D.py d = some p ∧ asc p.shown ∧ p.shown.length ≤ 10 ∧ p.showable = true ∧ p.depth = 0 ∧ flS p = true := by
  rcases v with rfl | ⟨t, rfl, h0, h1⟩
  · exact ⟨.none, rfl, asc_c.1, by decide +kernel, rfl, by simp [PyData.depth], rfl⟩
  · exact ⟨.int t, rfl, asc_int, int_len (by omega) (by omega), int_show (by omega) (by omega), by simp [PyData.depth], rfl⟩
theorem v0_g {d : D} (v : V0 d) : Gd d 10 0 := by
  obtain ⟨p, a1, _, a3, a4, a5, a6⟩ := v0_sh v
  exact ⟨p, a1, a4, a3, by omega, a6⟩
theorem v1_g {d : D} (v : V1 d) : Gd d 300 2 := by
  rcases v with v | rfl | ⟨s, rfl, h1, h2⟩ | ⟨v, hv, rfl⟩
  · exact (v0_g v).mono (by decide) (by decide)
  · exact Gd.bl.mono (by decide) (by decide)
  · exact (Gd.str h1 h2).mono (by decide) (by decide)
  · exact (Gd.tup (c := 10) (k := 0) fun d hd => by rw [List.mem_singleton.mp hd]; exact v0_g hv).mono (by simp) (by decide)
theorem v2_g {d : D} (v : V2 d) : Gd d 1000 3 := by
  rcases v with v | ⟨s, rfl, h1, h2⟩ | ⟨v, hv, rfl⟩
  · exact (v1_g v).mono (by decide) (by decide)
  · exact (Gd.str h1 h2).mono (by decide) (by decide)
  · exact (Gd.tup (c := 300) (k := 2) fun d hd => by rw [List.mem_singleton.mp hd]; exact v1_g hv).mono (by simp) (by decide)
structure Vw (V W : D → Prop) : Prop where
  gv : ∀ d, V d → Gd d 1000 3
  up : ∀ d, V d → W d
  bl : W (.bl true)
  int : ∀ t, 0 ≤ t → t ≤ 100000 → W (.int t)
  non : W .non
  tup : ∀ d, V d → W (.tup [d])
  str : ∀ d, V d → ∀ (h : LH) (Q : QD), (∀ s, W (.str s) → Q (.str s) h) → @wblt .str [d] h (Box.mk Q)
theorem str_rest {d : D} {p : PyData} {h : LH} {Q : QD} (hp : D.py d = some p) (ni : ∀ i, d ≠ .int i) (ns : ∀ s, d ≠ .str s) (h1 : p.showable = true) (h2 : p.shown.length ≤ sizeLine) (h3 : p.depth ≤ 60) (k : Q (.str p.shown) h) : @wblt .str [d] h (Box.mk Q) := by
  show strW d h Q
  unfold strW
  split
  · exact absurd rfl (ni _)
  · exact absurd rfl (ns _)
  · rw [py_pv hp h]
    exact ⟨⟨h1, h2, h3⟩, k⟩
theorem str_i {i : Int} {h : LH} {Q : QD} (h0 : -1000000000 < i) (h1 : i < 1000000000) (k : Q (.str (PyData.int i).shown) h) : @wblt .str [.int i] h (Box.mk Q) := by
  have e : (PyData.int i).shown = ((toString i : String) : Str) := by rw [PyData.shown]
  rw [e] at k
  have := int_show h0 h1
  simp only [PyData.showable, decide_eq_true_eq] at this
  exact ⟨this, k⟩
theorem v0_str {d : D} (v : V0 d) {h : LH} {Q : QD} (k : ∀ s, asc s → s.length ≤ 10 → Q (.str s) h) : @wblt .str [d] h (Box.mk Q) := by
  rcases v with rfl | ⟨t, rfl, h0, h1⟩
  · exact str_rest (p := .none) rfl nofun nofun rfl (by decide +kernel) (by simp [PyData.depth]) (k _ asc_c.1 (by decide +kernel))
  · exact str_i (by omega) (by omega) (k _ asc_int (int_len (by omega) (by omega)))
theorem v1_str {d : D} (v : V1 d) {h : LH} {Q : QD} (k : ∀ s, asc s → s.length ≤ 40 → Q (.str s) h) : @wblt .str [d] h (Box.mk Q) := by
  rcases v with v | rfl | ⟨s, rfl, h1, h2⟩ | ⟨v, hv, rfl⟩
  · exact v0_str v fun s h1 h2 => k s h1 (by omega)
  · exact str_rest (p := .bool true) rfl nofun nofun rfl (by decide +kernel) (by simp [PyData.depth]) (k _ asc_c.2 (by decide +kernel))
  · exact k s h1 (by omega)
  · obtain ⟨p, a1, a2, a3, a4, a5, a6⟩ := v0_sh hv
    have hl := tuple_lenG (c := 10) (ts := [p.shown]) fun t ht => by rw [List.mem_singleton.mp ht]; exact a3
    have e : (PyData.tuple [p]).shown = tupleText [p.shown] := by simp only [PyData.shown, PyData.shownAll]
    have hl : (PyData.tuple [p]).shown.length ≤ 16 := by rw [e]; exact hl
    refine str_rest (p := .tuple [p]) (by simp only [D.py, pyL, a1, Option.map_some]) nofun nofun (by simp only [PyData.showable, PyData.showableAll, a4, Bool.and_self]) (by unfold sizeLine; omega) (by simp only [PyData.depth, PyData.depthAll, a5]; omega) (k _ (asc_tup1 a2) (by omega))
theorem v01 : Vw V0 V1 where
  gv d v := (v0_g v).mono (by decide) (by decide)
  up _ v := .inl v
  bl := .inr (.inl rfl)
  int t h0 h1 := .inl (.inr ⟨t, rfl, h0, h1⟩)
  non := .inl (.inl rfl)
  tup d v := .inr (.inr (.inr ⟨d, v, rfl⟩))
  str d v h Q k := v0_str v fun s h1 h2 => k s (.inr (.inr (.inl ⟨s, rfl, h1, by omega⟩)))
theorem v12 : Vw V1 V2 where
  gv d v := (v1_g v).mono (by decide) (by decide)
  up _ v := .inl v
  bl := .inl (.inr (.inl rfl))
  int t h0 h1 := .inl (.inl (.inr ⟨t, rfl, h0, h1⟩))
  non := .inl (.inl (.inl rfl))
  tup d v := .inr (.inr ⟨d, v, rfl⟩)
  str d v h Q k := v1_str v fun s h1 h2 => k s (.inr (.inl ⟨s, rfl, h1, h2⟩))
inductive Tl (W : D → Prop) (B : Int) (sz : Nat) : D → Prop
  | ok (es : List (Int × D)) : es.length = sz → (∀ e ∈ es, (-B ≤ e.1 ∧ e.1 ≤ B) ∧ W e.2) → Tl W B sz (.tup (es.map en))
  | bad {d : D} : hasF sz d = false → (∃ p, D.py d = some p) → Tl W B sz d
theorem has_en {es : List (Int × D)} : (es.map en).all okE = true := by
  rw [List.all_eq_true]
  intro d hd
  obtain ⟨e, _, rfl⟩ := List.mem_map.mp hd
  rfl
theorem has_ok {es : List (Int × D)} {sz : Nat} (h : es.length = sz) : hasF sz (.tup (es.map en)) = true := by
  simp only [hasF, List.length_map, has_en, Bool.and_true, decide_eq_true_eq]; exact h
def dP (b : Int × Option Int) : PyData := .tuple [.int b.1, match b.2 with
  | none => .none
  | some t => .int t]
theorem py_df {b : Int × Option Int} : D.py (dfD b) = some (dP b) := by
  obtain ⟨i, o⟩ := b
  cases o <;> rfl
theorem fl_df {b : Int × Option Int} : flat (dP b) = true := by
  obtain ⟨i, o⟩ := b
  cases o <;> rfl
theorem pyL_df : ∀ {bs : List (Int × Option Int)}, pyL (bs.map dfD) = some (bs.map dP)
  | [] => rfl
  | b :: bs => by simp only [List.map_cons, pyL, py_df, pyL_df (bs := bs)]
theorem flL_df : ∀ {bs : List (Int × Option Int)}, flatL (bs.map dP) = true
  | [] => rfl
  | b :: bs => by simp only [List.map_cons, flatL, fl_df, flL_df (bs := bs), Bool.and_self]
/-- the reprs are alike exactly if each entry's is -/
theorem told_iff {es : List (Int × D)} {bs : List (Int × Option Int)} (hl : es.length = bs.length) (hg : ∀ e ∈ es, Gd (en e) 2100 10) :
    sh (.tup (es.map en)) = sh (.tup (bs.map dfD)) ↔ ∀ (i : Nat) (e : Int × D) (b : Int × Option Int), es[i]? = some e → bs[i]? = some b → sh (en e) = sh (dfD b) := by
  have key : ∀ (es : List (Int × D)) (bs : List (Int × Option Int)), es.length = bs.length → (∀ e ∈ es, Gd (en e) 2100 10) →
      ∃ ps, pyL (es.map en) = some ps ∧ flSL ps = true ∧ (PyData.shownAll ps = PyData.shownAll (bs.map dP) ↔ ∀ (i : Nat) (e : Int × D) (b : Int × Option Int), es[i]? = some e → bs[i]? = some b → sh (en e) = sh (dfD b)) := by
    intro es
    induction es with
    | nil =>
      intro bs hl _
      have : bs = [] := List.eq_nil_of_length_eq_zero hl.symm
      subst this
      exact ⟨[], rfl, rfl, by simp⟩
    | cons e es ih =>
      intro bs hl hg
      match bs, hl with
      | b :: bs, hl =>
        obtain ⟨ps, c1, c2, c3⟩ := ih bs (by simpa using hl) fun x hx => hg x (List.mem_cons_of_mem _ hx)
        obtain ⟨p, a1, _, _, _, a5⟩ := (hg e (List.mem_cons_self ..)).ex
        have e1 : sh (en e) = p.shown := by unfold sh pyD; rw [a1]; rfl
        have e2 : sh (dfD b) = (dP b).shown := by unfold sh pyD; rw [py_df]; rfl
        refine ⟨p :: ps, by simp only [List.map_cons, pyL, a1, c1], by simp only [flSL, a5, c2, Bool.and_self], ?_⟩
        simp only [List.map_cons, PyData.shownAll, List.cons.injEq, c3]
        constructor
        · rintro ⟨h1, h2⟩ i x y hx hy
          cases i with
          | zero =>
            rw [List.getElem?_cons_zero] at hx hy
            cases hx; cases hy
            rw [e1, e2]; exact h1
          | succ i =>
            rw [List.getElem?_cons_succ] at hx hy
            exact h2 i x y hx hy
        · intro h
          refine ⟨by rw [← e1, ← e2]; exact h 0 e b rfl rfl, fun i x y hx hy => h (i + 1) x y (by rw [List.getElem?_cons_succ]; exact hx) (by rw [List.getElem?_cons_succ]; exact hy)⟩
  obtain ⟨ps, c1, c2, c3⟩ := key es bs hl hg
  have e1 : sh (.tup (es.map en)) = (PyData.tuple ps).shown := by unfold sh pyD; simp only [D.py, c1, Option.map_some]; rfl
  have e2 : sh (.tup (bs.map dfD)) = (PyData.tuple (bs.map dP)).shown := by unfold sh pyD; simp only [D.py, pyL_df, Option.map_some]; rfl
  rw [e1, e2, ← c3]
  constructor
  · intro h
    have := shownS_inj (d := .tuple ps) (e := .tuple (bs.map dP)) (by simp only [flS]; exact c2) (by simp only [flat]; exact flL_df) h
    cases this; rfl
  · intro h
    simp only [PyData.shown, h]
end Net

namespace K72
open PySem Lg Net
open L2 (atI ixN)
set_option checkBinderAnnotations false
variable {ζ : Ad}
section
variable {n : Nat} {h : LH} {Q : QD} {e : EX}
theorem has_bad {sz i : Nat} {ds : List D} {x : D} (hx : ds[i]? = some x) (hb : okE x = false) : hasF sz (.tup ds) = false := by
  simp only [hasF]
  have : ds.all okE = false := by
    rw [List.all_eq_false]
    exact ⟨x, List.mem_of_getElem? hx, by rw [hb]; exact Bool.false_ne_true⟩
  rw [this, Bool.and_false]
theorem has_len {sz : Nat} {ds : List D} (h : ds.length ≠ sz) : hasF sz (.tup ds) = false := by
  simp only [hasF, decide_eq_false h, Bool.false_and]
theorem has_all {sz : Nat} {ds : List D} (h : ds.length = sz) (ha : ∀ (j : Nat) (x : D), ds[j]? = some x → okE x = true) : hasF sz (.tup ds) = true := by
  simp only [hasF, decide_eq_true h, Bool.true_and, List.all_eq_true]
  intro x hx
  obtain ⟨j, hj, rfl⟩ := List.mem_iff_getElem.mp hx
  exact ha j _ (List.getElem?_eq_getElem hj)
theorem py_mem {ds : List D} {p : PyData} (h : D.py (.tup ds) = some p) {x : D} (hx : x ∈ ds) : ∃ q, D.py x = some q := by
  simp only [D.py] at h
  have key : ∀ (ds : List D) ps, pyL ds = some ps → x ∈ ds → ∃ q, D.py x = some q := by
    intro ds
    induction ds with
    | nil => intro _ _ h; cases h
    | cons d ds ih =>
      intro ps e hm
      simp only [pyL] at e
      cases q1 : D.py d with
      | none => rw [q1] at e; cases e
      | some a =>
        cases q2 : pyL ds with
        | none => rw [q1, q2] at e; cases e
        | some as =>
          rcases List.mem_cons.mp hm with r | r
          · rw [r]; exact ⟨a, q1⟩
          · exact ih as q2 r
  cases q : pyL ds with
  | none => rw [q] at h; cases h
  | some ps => exact key ds ps q hx
theorem has_form_s {sz : Nat} {d : D} {p : PyData} (hp : D.py d = some p) (k : Q (.bl (hasF sz d)) h) : CF (PP ζ) TB (n + 1) 21 [d, .int (sz : Int)] h Q e := by
  refine CF_of (fn := ⟨2, 3, w__law_has_form⟩) rfl rfl ?_; dsimp only; unfold w__law_has_form
  cases d with
  | tup ds =>
    simp_arith only [PF_cf]
    refine br_of (fun z => ?_) (fun z => ?_)
    · rw [has_len (fun q => by rw [q] at z; simp at z)] at k
      simp_arith
      exact Done_of k
    have el : ds.length = sz := by
      have : (ds.length : Int) = (sz : Int) := by simpa using z
      omega
    simp_arith
    refine Loop_of (fun i ρ h' => (∀ (j : Nat) (x : D), j < i → ds[j]? = some x → okE x = true) ∧ ρ = [some (.tup ds), some (.int (sz : Int)), none] ∧ h' = h) ⟨fun j x hj => absurd hj (Nat.not_lt_zero _), (by first | rfl | trivial), rfl⟩ ?_ ?_
    · rintro i x ρ h' hd ⟨ha, rfl, rfl⟩
      obtain ⟨q, hq⟩ := py_mem hp (List.mem_of_getElem? hd)
      have bad : okE x = false → Q (.bl false) h' := fun hb => by rw [has_bad hd hb] at k; exact k
      have good : okE x = true → (∀ (j : Nat) (y : D), j < i + 1 → ds[j]? = some y → okE y = true) := fun hg j y hj hy => by
        by_cases e : j = i
        · subst e; rw [hd] at hy; cases hy; exact hg
        · exact ha j y (by omega) hy
      cases x with
      | tup xs =>
        match xs with
        | [] =>
          simp_arith
          refine br_of (fun _ => ?_) (fun q => absurd q (by decide))
          simp_arith
          exact Done_of (bad rfl)
        | [a] =>
          simp_arith
          refine br_of (fun _ => ?_) (fun q => absurd q (by decide))
          simp_arith
          exact Done_of (bad (by cases a <;> rfl))
        | [a, v] =>
          obtain ⟨qa, hqa⟩ := py_mem hq (List.mem_cons_self ..)
          simp_arith
          refine br_of (fun q => absurd q (by decide)) (fun _ => ?_)
          simp_arith only [at_0]
          cases a with
          | int i =>
            simp_arith only [at_0]
            exact ⟨good rfl, (by first | rfl | trivial), trivial⟩
          | bl b =>
            simp_arith only [at_0]
            exact Done_of (bad rfl)
          | non =>
            simp_arith only [at_0]
            exact Done_of (bad rfl)
          | str b =>
            simp_arith only [at_0]
            exact Done_of (bad rfl)
          | tup b =>
            simp_arith only [at_0]
            exact Done_of (bad rfl)
          | lst b =>
            simp_arith only [at_0]
            exact Done_of (bad rfl)
          | _ => cases hqa
        | a :: v :: w :: r =>
          simp_arith
          refine br_of (fun _ => ?_) (fun q => absurd q (by simp; omega))
          simp_arith
          exact Done_of (bad (by cases a <;> rfl))
      | non =>
        simp_arith
        exact Done_of (bad rfl)
      | bl b =>
        simp_arith
        exact Done_of (bad rfl)
      | int b =>
        simp_arith
        exact Done_of (bad rfl)
      | str b =>
        simp_arith
        exact Done_of (bad rfl)
      | lst b =>
        simp_arith
        exact Done_of (bad rfl)
      | _ => cases hq
    · rintro ρ h' ⟨ha, rfl, rfl⟩
      refine AND_of (by first | rfl | trivial) ?_
      rw [has_all el fun j x hx => ha j x (List.getElem?_eq_some_iff.mp hx).1 hx] at k
      exact Done_of k
  | non =>
    simp_arith
    exact Done_of k
  | bl b =>
    simp_arith
    exact Done_of k
  | int b =>
    simp_arith
    exact Done_of k
  | str b =>
    simp_arith
    exact Done_of k
  | lst b =>
    simp_arith
    exact Done_of k
  | _ => cases hp
end
end K72

namespace K72
open PySem Lg Net
open L2 (atI ixN)
set_option checkBinderAnnotations false
variable {ζ : Ad}
theorem cut_lo1 (xs : List D) (k : Nat) : cutD xs (some ((k : Int) + 1)) none = xs.drop (k + 1) := cut_lo xs (k + 1)
theorem cut_l1 (xs : List D) : cutD xs (some 1) none = xs.drop 1 := cut_lo xs 1
theorem bad3 {sz : Nat} {a b : List D} {x : D} (h : okE x = false) : hasF sz (.tup (a ++ [x] ++ b)) = false := by
  simp only [hasF, List.all_append, List.all_cons, h, Bool.false_and, Bool.and_false]
theorem pyT {ds : List D} (h : ∀ d ∈ ds, ∃ p, D.py d = some p) : ∃ p, D.py (.tup ds) = some p := by
  have key : ∃ ps, pyL ds = some ps := by
    induction ds with
    | nil => exact ⟨[], rfl⟩
    | cons d ds ih =>
      obtain ⟨p, hp⟩ := h d (List.mem_cons_self ..)
      obtain ⟨ps, hps⟩ := ih fun x hx => h x (List.mem_cons_of_mem _ hx)
      exact ⟨p :: ps, by simp only [pyL, hp, hps]⟩
  obtain ⟨ps, hps⟩ := key
  exact ⟨.tuple ps, by simp only [D.py, hps, Option.map_some]⟩
section
variable {n : Nat} {h : LH} {Q : QD} {e : EX}
theorem bent_s {V W : D → Prop} (vw : Vw V W) {B : Int} {sz : Nat} (hB : 0 ≤ B ∧ B ≤ 1000) (h2 : 2 ≤ sz ∧ sz ≤ 12) {es : List (Int × D)} (hl : es.length = sz) (he : ∀ e ∈ es, (-B ≤ e.1 ∧ e.1 ≤ B) ∧ V e.2)
    {ts : List Int} (ht : ∀ t ∈ ts, 0 ≤ t ∧ t ≤ 100000) (tl : ts.length ≤ 40) {is : List Int} {a : Addr} {p : Int} (ha : h a = some (.lst [.int p])) (hp : 0 ≤ p)
    (k : ∀ d p', Tl W (B + 1) sz d → 0 ≤ p' → Q d (put h a (.lst [.int p']))) : CF (PP ζ) TB (n + 4) 22 [.tup (es.map en), .lst (ts.map .int), .lst (is.map .int), .ref a] h Q e := by
  have g := Gn.refl ha hp
  refine CF_of (fn := ⟨4, 11, w__law_bent⟩) rfl rfl ?_; dsimp only; unfold w__law_bent
  simp_arith only [PF_cf]
  refine takeC g.at_ g.nn (by omega) fun r r0 r1 => ?_
  obtain ⟨i, rfl⟩ : ∃ c : Nat, r = (c : Int) := ⟨r.toNat, by omega⟩
  have g := g.mv (p' := p + 1) g.nn2
  generalize p + 1 = p at *
  generalize put h a (.lst [.int p]) = H at *
  have hi : i < es.length := by omega
  obtain ⟨e1, he1⟩ : ∃ e, es[i]? = some e := ⟨_, List.getElem?_eq_getElem hi⟩
  have a1 : atI (es.map en) (i : Int) = some (en e1) := by rw [at_nat, List.getElem?_map, he1]; rfl
  obtain ⟨⟨m1, m2⟩, m3⟩ := he e1 (List.mem_of_getElem? he1)
  simp_arith only [a1, en, PF_cf]
  refine ⟨trivial, ?_⟩
  refine takeC g.at_ g.nn (by omega) fun r r0 r1 => ?_
  obtain ⟨j, rfl⟩ : ∃ c : Nat, r = (c : Int) := ⟨r.toNat, by omega⟩
  have g := g.mv (p' := p + 1) g.nn2
  generalize p + 1 = p at *
  generalize put H a (.lst [.int p]) = H at *
  obtain ⟨e2, he2⟩ : ∃ e, es[j]? = some e := ⟨_, List.getElem?_eq_getElem (show j < es.length by omega)⟩
  have a2 : atI (es.map en) (j : Int) = some (en e2) := by rw [at_nat, List.getElem?_map, he2]; rfl
  obtain ⟨⟨o1, o2⟩, o3⟩ := he e2 (List.mem_of_getElem? he2)
  simp_arith only [a2, PF_cf]
  refine AND_of (by unfold sizeLine; omega) ?_
  simp_arith only [PF_cf]
  have e0 : 0 < (ts.map D.int ++ [D.int 0]).length := by simp only [List.length_append, List.length_cons]; omega
  refine oneC g.at_ g.nn e0 fun d hd => ?_
  obtain ⟨t, rfl, t0, t1⟩ : ∃ t, d = .int t ∧ 0 ≤ t ∧ t ≤ 100000 := by
    rcases List.mem_append.mp hd with q | q
    · obtain ⟨t, ht', rfl⟩ := List.mem_map.mp q
      exact ⟨t, rfl, ht t ht'⟩
    · rw [List.mem_singleton.mp q]; exact ⟨0, rfl, by decide, by decide⟩
  have g := g.mv (p' := p + 1) g.nn2
  generalize p + 1 = p at *
  generalize put H a (.lst [.int p]) = H at *
  refine vw.str _ m3 _ _ fun s hs => ?_
  simp_arith only [PF_cf]
  refine takeC g.at_ g.nn (by decide) fun r r0 r1 => ?_
  have g := g.mv (p' := p + 1) g.nn2
  generalize p + 1 = p at *
  generalize put H a (.lst [.int p]) = H at *
  simp_arith only [PF_cf]
  refine br_of (fun z => ?_) (fun z => ?_)
  · simp_arith only [PF_cf]
    refine oneC g.at_ g.nn (by simp) fun d hd => ?_
    obtain ⟨e3, rfl, q0, q1⟩ : ∃ e3 : Int × D, d = en e3 ∧ (-(B + 1) ≤ e3.1 ∧ e3.1 ≤ B + 1) ∧ W e3.2 := by
      simp only [List.mem_cons, List.not_mem_nil, or_false] at hd
      rcases hd with rfl | rfl | rfl | rfl | rfl | rfl | rfl | rfl | rfl
      · exact ⟨(e1.1 + 1, e1.2), rfl, ⟨by dsimp only; omega, by dsimp only; omega⟩, vw.up _ m3⟩
      · exact ⟨(e1.1 - 1, e1.2), rfl, ⟨by dsimp only; omega, by dsimp only; omega⟩, vw.up _ m3⟩
      · exact ⟨(e1.1, .int t), rfl, ⟨by dsimp only; omega, by dsimp only; omega⟩, vw.int t t0 t1⟩
      · exact ⟨(e1.1, .non), rfl, ⟨by dsimp only; omega, by dsimp only; omega⟩, vw.non⟩
      · exact ⟨(0, .non), rfl, ⟨by dsimp only; omega, by dsimp only; omega⟩, vw.non⟩
      · exact ⟨e2, rfl, ⟨by omega, by omega⟩, vw.up _ o3⟩
      · exact ⟨(e1.1, .bl true), rfl, ⟨by dsimp only; omega, by dsimp only; omega⟩, vw.bl⟩
      · exact ⟨(e1.1, .str s), rfl, ⟨by dsimp only; omega, by dsimp only; omega⟩, hs⟩
      · exact ⟨(e1.1, .tup [e1.2]), rfl, ⟨by dsimp only; omega, by dsimp only; omega⟩, vw.tup _ m3⟩
    have g := g.mv (p' := p + 1) g.nn2
    generalize p + 1 = p at *
    generalize put H a (.lst [.int p]) = H at *
    simp_arith only [cut_hi, cut_lo1, PF_cf]
    have lt : (List.take i (es.map en)).length ≤ 12 := by rw [List.length_take, List.length_map]; omega
    have ld : (List.drop (i + 1) (es.map en)).length ≤ 12 := by rw [List.length_drop, List.length_map]; omega
    refine AND_of (by unfold sizeLine; omega) ?_
    simp_arith only [cut_hi, cut_lo1, PF_cf]
    refine AND_of (by simp only [List.length_append, List.length_cons, List.length_nil]; unfold sizeLine; omega) ?_
    have ev : (List.take i (es.map en) ++ [en e3] ++ List.drop (i + 1) (es.map en)) = (es.take i ++ [e3] ++ es.drop (i + 1)).map en := by
      simp only [List.map_append, List.map_take, List.map_drop, List.map_cons, List.map_nil]
    rw [ev]
    refine Done_sub g.back (k _ p (.ok _ ?_ fun x hx => ?_) g.nn)
    · simp only [List.length_append, List.length_take, List.length_drop, List.length_cons, List.length_nil]; omega
    · rcases List.mem_append.mp hx with hx | hx
      · rcases List.mem_append.mp hx with hx | hx
        · obtain ⟨⟨w1, w2⟩, w3⟩ := he x (List.mem_of_mem_take hx)
          exact ⟨⟨by omega, by omega⟩, vw.up _ w3⟩
        · rw [List.mem_singleton.mp hx]; exact ⟨q0, q1⟩
      · obtain ⟨⟨w1, w2⟩, w3⟩ := he x (List.mem_of_mem_drop hx)
        exact ⟨⟨by omega, by omega⟩, vw.up _ w3⟩
  · simp_arith only [cut_hi, cut_lo1, cut_l1, PF_cf]
    refine AND_of (by unfold sizeLine; omega) ?_
    have lt : (List.take i (es.map en)).length ≤ 12 := by rw [List.length_take, List.length_map]; omega
    have ld : (List.drop (i + 1) (es.map en)).length ≤ 12 := by rw [List.length_drop, List.length_map]; omega
    simp_arith only [cut_hi, cut_lo1, cut_l1, PF_cf]
    iterate 10
      refine AND_of (by first | (unfold sizeLine; omega) | (simp only [List.length_append, List.length_cons, List.length_nil]; unfold sizeLine; omega)) ?_
      simp_arith only [cut_hi, cut_lo1, cut_l1, PF_cf]
    have pv : ∀ d, V d → ∃ p, D.py d = some p := fun d hd => by obtain ⟨p, hp, _⟩ := (vw.gv d hd).ex; exact ⟨p, hp⟩
    have pe : ∀ x ∈ es.map en, ∃ p, D.py x = some p := fun x hx => by
      obtain ⟨e, he', rfl⟩ := List.mem_map.mp hx
      exact pyT fun y hy => by
        simp only [List.mem_cons, List.not_mem_nil, or_false] at hy
        rcases hy with rfl | rfl
        · exact ⟨_, rfl⟩
        · exact pv _ (he e he').2
    have p3 : ∀ x, (∃ p, D.py x = some p) → ∃ p, D.py (.tup (List.take i (es.map en) ++ [x] ++ List.drop (i + 1) (es.map en))) = some p := fun x hx => pyT fun y hy => by
      rcases List.mem_append.mp hy with hy | hy
      · rcases List.mem_append.mp hy with hy | hy
        · exact pe y (List.mem_of_mem_take hy)
        · rw [List.mem_singleton.mp hy]; exact hx
      · exact pe y (List.mem_of_mem_drop hy)
    refine oneC g.at_ g.nn (by simp) fun d hd => ?_
    have fin : Tl W (B + 1) sz d := by
      simp only [List.mem_cons, List.not_mem_nil, or_false] at hd
      rcases hd with rfl | rfl | rfl | rfl | rfl | rfl | rfl | rfl | rfl | rfl
      · exact .bad (has_len (by rw [List.length_drop, List.length_map]; omega)) (pyT fun x hx => pe x (List.mem_of_mem_drop hx))
      · refine .bad (has_len (by rw [List.length_append, List.length_map]; simp; omega)) (pyT fun x hx => ?_)
        rcases List.mem_append.mp hx with hx | hx
        · exact pe x hx
        · rw [List.mem_singleton.mp hx]; exact ⟨_, rfl⟩
      · exact .bad (bad3 rfl) (p3 _ ⟨_, rfl⟩)
      · exact .bad (bad3 rfl) (p3 _ ⟨_, rfl⟩)
      · exact .bad rfl ⟨_, rfl⟩
      · exact .bad (has_len (by simp; omega)) (pyT fun x hx => by rw [List.mem_singleton.mp hx]; exact pyT pe)
      · exact .bad (bad3 rfl) (p3 _ (pyT fun x hx => by
          simp only [List.mem_cons, List.not_mem_nil, or_false] at hx
          rcases hx with rfl | rfl
          · exact ⟨_, rfl⟩
          · exact pv _ m3))
      · exact .bad (bad3 rfl) (p3 _ (pyT fun x hx => by
          simp only [List.mem_cons, List.not_mem_nil, or_false] at hx
          rcases hx with rfl | rfl
          · exact ⟨_, rfl⟩
          · exact pv _ m3))
      · rw [← List.map_reverse]
        refine .ok _ (by rw [List.length_reverse]; exact hl) fun x hx => ?_
        obtain ⟨⟨w1, w2⟩, w3⟩ := he x (List.mem_reverse.mp hx)
        exact ⟨⟨by omega, by omega⟩, vw.up _ w3⟩
      · exact .bad (bad3 rfl) (p3 _ (pyT fun x hx => by
          simp only [List.mem_cons, List.not_mem_nil, or_false] at hx
          rcases hx with rfl | rfl | rfl
          · exact ⟨_, rfl⟩
          · exact pv _ m3
          · exact ⟨_, rfl⟩))
    have g := g.mv (p' := p + 1) g.nn2
    exact Done_sub g.back (k _ _ fin g.nn)
end
end K72

namespace K72
open PySem Lg Net
open L2 (atI ixN)
set_option checkBinderAnnotations false
variable {ζ : Ad}
def eP (s : Str) : Exn := ⟨2, [("reason", .str s)]⟩
theorem flPe : (PP ζ).fl 2 = some [("reason" : Str)] := rfl
theorem look_P {s : Str} : (eP s).fs.lookup ("reason" : Str) = some (D.str s) := rfl
theorem eqv_dP {b : Int × Option Int} : PyData.eqv (dP b) (dP b) = true := by
  obtain ⟨i, o⟩ := b
  cases o <;> simp [dP, PyData.eqv, PyData.eqvAll]
section
variable {n : Nat} {h : LH} {Q : QD} {e : EX}
theorem df_g {b : Int × Option Int} (h0 : 0 ≤ b.1 ∧ b.1 ≤ 1000) (h1 : ∀ t, b.2 = some t → 0 ≤ t ∧ t ≤ 100000) : Gd (dfD b) 2000 10 := by
  refine (Gd.tup (ds := [.int b.1, oI b.2]) (c := 10) (k := 0) fun d hd => ?_).mono (by simp) (by decide)
  simp only [List.mem_cons, List.not_mem_nil, or_false] at hd
  rcases hd with rfl | rfl
  · exact Gd.int (by omega) (by omega)
  · cases q : b.2 with
    | none => exact Gd.non.mono (by decide) (by decide)
    | some t => have := h1 t q; exact Gd.int (by omega) (by omega)
theorem en_g {e : Int × D} {B : Int} (hB : B ≤ 1000) (h0 : -B ≤ e.1 ∧ e.1 ≤ B) (h1 : Gd e.2 1000 3) : Gd (en e) 2100 10 := by
  refine (Gd.tup (ds := [.int e.1, e.2]) (c := 1000) (k := 3) fun d hd => ?_).mono (by simp) (by decide)
  simp only [List.mem_cons, List.not_mem_nil, or_false] at hd
  rcases hd with rfl | rfl
  · exact (Gd.int (by omega) (by omega)).mono (by decide) (by decide)
  · exact h1
/-- two good data, the second without texts -/
theorem same_s {d : D} {b : Int × Option Int} (gd : Gd d 2100 10) (gb : Gd (dfD b) 2000 10) (k : Q (.bl (decide (sh d = sh (dfD b)))) h) : CF (PP ζ) TB (n + 1) 3 [d, dfD b] h Q e := by
  obtain ⟨p, a1, a2, a3, a4, a5⟩ := gd.ex
  have ee : ∀ Q : QD, @wcmp .Eq d (dfD b) h (Box.mk Q) = Q (.bl (PyData.eqv p (dP b))) h := fun Q => by
    show eqW d (dfD b) h (fun b => Q (.bl b) h) = _
    unfold eqW
    rw [py_pv a1 h, py_pv py_df h]
    exact propext ⟨fun z => z.2, fun z => ⟨by omega, z⟩⟩
  have r1 := gd.rep (by unfold sizeLine; decide) (by decide)
  have r2 := gb.rep (by unfold sizeLine; decide) (by decide)
  have s1 : sh d = p.shown := by unfold sh pyD; rw [a1]; rfl
  have s2 : sh (dfD b) = (dP b).shown := by unfold sh pyD; rw [py_df]; rfl
  refine CF_of (fn := ⟨2, 2, w_same_value⟩) rfl rfl ?_; dsimp only; unfold w_same_value
  simp_arith only [ee, PF_cf]
  by_cases q : sh d = sh (dfD b)
  · rw [decide_eq_true q] at k
    have e1 : p = dP b := shownS_inj a5 fl_df (by rw [← s1, ← s2]; exact q)
    have e2 : PyData.eqv p (dP b) = true := by rw [e1]; exact eqv_dP
    simp_arith only [e2, r1, r2, q, PF_cf]
    exact Done_of k
  · rw [decide_eq_false q] at k
    refine br_of (fun z => ?_) (fun z => ?_)
    · simp_arith only [r1, r2, decide_eq_false q, PF_cf]
      exact Done_of k
    · simp_arith only [z, PF_cf]
      exact Done_of k
/-- the law's own answer -/
def rtD (m : N) (y : Ty) : List (Int × Option Int) := m.st.map fun s => dfS (kin m y) y.t s.nm
theorem rt_g {m : N} (R : Right m) {y : Ty} {b : Int × Option Int} (h : b ∈ rtD m y) : Gd (dfD b) 2000 10 := by
  obtain ⟨s, _, rfl⟩ := List.mem_map.mp h
  have l40 : m.fl.length ≤ 40 := by have := R.many 3 (by decide); simpa [nms, most] using this
  have lk := len_kin (m := m) (y := y)
  obtain ⟨h1, h2⟩ := dfS_ok (fl := kin m y) (tu := y.t) (st := s.nm)
  refine df_g (by omega) fun t ht => ?_
  obtain ⟨f, hf, rfl⟩ := h2 t ht
  have := (R.fl f (List.mem_filter.mp hf).1).2.1
  omega
theorem zip_get {xs ys : List D} {i : Nat} {d : D} (h : (zipL xs ys)[i]? = some d) : ∃ x y, xs[i]? = some x ∧ ys[i]? = some y ∧ d = .tup [x, y] := by
  unfold zipL at h
  rw [List.getElem?_zipWith] at h
  cases q1 : xs[i]? with
  | none => rw [q1] at h; cases h
  | some x =>
    cases q2 : ys[i]? with
    | none => rw [q1, q2] at h; cases h
    | some y => rw [q1, q2] at h; exact ⟨x, y, rfl, rfl, (Option.some.inj h).symm⟩
def isI : D → Bool
  | .int _ => true
  | _ => false
theorem is_int_d {d : D} {p : PyData} (hp : D.py d = some p) (k : Q (.bl (isI d)) h) : CF (PP ζ) TB (n + 1) 0 [d] h Q e := by
  refine CF_of (fn := ⟨1, 1, w_is_integer⟩) rfl rfl ?_; dsimp only; unfold w_is_integer
  cases d with
  | int i =>
    simp_arith only [PF_cf]
    exact Done_of k
  | bl b =>
    simp_arith only [PF_cf]
    exact Done_of k
  | non =>
    simp_arith only [PF_cf]
    exact Done_of k
  | str b =>
    simp_arith only [PF_cf]
    exact Done_of k
  | tup b =>
    simp_arith only [PF_cf]
    exact Done_of k
  | lst b =>
    simp_arith only [PF_cf]
    exact Done_of k
  | _ => cases hp
theorem ok_isI {a v : D} : okE (.tup [a, v]) = isI a := by cases a <;> rfl
theorem accept_s {m : N} (R : Right m) {y : Ty} (hy : y ∈ m.ty) {T : D} {B : Int} (hB : B ≤ 1000) (hT : Tl V2 B m.st.length T)
    (k1 : hasF m.st.length T = false → e (eP "form") h) (k2 : hasF m.st.length T = true → sh T = sh (.tup ((rtD m y).map dfD)) → Q .non h) (k3 : hasF m.st.length T = true → sh T ≠ sh (.tup ((rtD m y).map dfD)) → e (eP "entry") h) :
    CF (PP ζ) TB (n + 7) 11 [netD m, .str y.nm, T] h Q e := by
  have l12 : m.st.length ≤ 12 := by have := R.many 0 (by decide); simpa [nms, most] using this
  have l40 : m.fl.length ≤ 40 := by have := R.many 3 (by decide); simpa [nms, most] using this
  have lk := len_kin (m := m) (y := y)
  refine CF_of (fn := ⟨3, 7, w_accept_deficits⟩) rfl rfl ?_; dsimp only; unfold w_accept_deficits
  simp_arith only [PF_cf]
  refine check_s R ?_
  simp_arith only [PF_cf]
  refine flights_of_s R hy ?_
  simp_arith only [PF_cf, PF_ca, prmC_ca]
  refine New_of fun b hb => ?_
  simp_arith only [PF_cf, PF_ca, prmC_ca]
  refine lookup_s R hb fun b1 b2 b3 b4 H c => ?_
  have ci := c.ins
  simp_arith only [ci, PF_cf, PF_ca, prmC_ca]
  refine ⟨trivial, ?_⟩
  refine AND_of ⟨trivial, rfl⟩ ?_
  simp_arith only [ci, PF_cf, PF_ca, prmC_ca]
  refine turn_s c R hy ?_
  obtain ⟨p, hp⟩ : ∃ p, D.py T = some p := by
    cases hT with
    | ok es hl he =>
      exact pyT fun x hx => by
        obtain ⟨e, he', rfl⟩ := List.mem_map.mp hx
        exact pyT fun y hy => by
          simp only [List.mem_cons, List.not_mem_nil, or_false] at hy
          rcases hy with rfl | rfl
          · exact ⟨_, rfl⟩
          · obtain ⟨p, hp, _⟩ := (v2_g (he e he').2).ex; exact ⟨p, hp⟩
    | bad _ hp => exact hp
  cases T with
  | tup ds =>
    simp_arith only [netD, netL, at_0, PF_cf]
    refine br_of (fun z => ?_) (fun z => ?_)
    · simp_arith only [flPe, PF_cf]
      exact ⟨h, c.sub, k1 (has_len (fun q => by rw [q] at z; simp at z))⟩
    have el : ds.length = m.st.length := by
      have : (ds.length : Int) = (m.st.length : Int) := by simpa using z
      omega
    simp_arith only [PF_cf]
    refine Loop_of (fun i ρ h' => (∀ (j : Nat) (x : D), j < i → ds[j]? = some x → okE x = true) ∧ ρ = [some (netD m), some (.str y.nm), some (.tup ds), some (.lst ((kin m y).map flD)), some (.int y.t), none, none] ∧ h' = H) ⟨fun j x hj => absurd hj (Nat.not_lt_zero _), by simp_arith only [netD, netL], rfl⟩ ?_ ?_
    · rintro i x ρ h' hd ⟨ha, rfl, rfl⟩
      obtain ⟨q, hq⟩ := py_mem hp (List.mem_of_getElem? hd)
      have bad : okE x = false → e (eP "form") h := fun hb => k1 (has_bad hd hb)
      have good : okE x = true → (∀ (j : Nat) (y : D), j < i + 1 → ds[j]? = some y → okE y = true) := fun hg j y hj hy => by
        by_cases e : j = i
        · subst e; rw [hd] at hy; cases hy; exact hg
        · exact ha j y (by omega) hy
      cases x with
      | tup xs =>
        match xs with
        | [] =>
          simp_arith
          refine br_of (fun _ => ?_) (fun q => absurd q (by decide))
          simp_arith only [flPe, PF_cf]
          exact ⟨h, c.sub, bad rfl⟩
        | [a] =>
          simp_arith
          refine br_of (fun _ => ?_) (fun q => absurd q (by decide))
          simp_arith only [flPe, PF_cf]
          exact ⟨h, c.sub, bad (by cases a <;> rfl)⟩
        | [a, v] =>
          obtain ⟨qa, hqa⟩ := py_mem hq (List.mem_cons_self ..)
          simp_arith
          refine br_of (fun q => absurd q (by decide)) (fun _ => ?_)
          simp_arith only [at_0, PF_cf]
          refine is_int_d hqa ?_
          simp_arith only [PF_cf]
          refine br_of (fun z => ?_) (fun z => ?_)
          · simp_arith only [flPe, PF_cf]
            exact ⟨h, c.sub, bad (by rw [ok_isI]; simpa using z)⟩
          · simp_arith only [PF_cf]
            exact ⟨good (by rw [ok_isI]; simpa using z), (by first | rfl | trivial), trivial⟩
        | a :: v :: w :: r =>
          simp_arith
          refine br_of (fun _ => ?_) (fun q => absurd q (by simp; omega))
          simp_arith only [flPe, PF_cf]
          exact ⟨h, c.sub, bad (by cases a <;> rfl)⟩
      | non =>
        simp_arith only [flPe, PF_cf]
        exact ⟨h, c.sub, bad rfl⟩
      | bl b =>
        simp_arith only [flPe, PF_cf]
        exact ⟨h, c.sub, bad rfl⟩
      | int b =>
        simp_arith only [flPe, PF_cf]
        exact ⟨h, c.sub, bad rfl⟩
      | str b =>
        simp_arith only [flPe, PF_cf]
        exact ⟨h, c.sub, bad rfl⟩
      | lst b =>
        simp_arith only [flPe, PF_cf]
        exact ⟨h, c.sub, bad rfl⟩
      | _ => cases hq
    rintro ρ h' ⟨ha, rfl, rfl⟩
    refine AND_of (by first | rfl | trivial) ?_
    have hf : hasF m.st.length (.tup ds) = true := has_all el fun j x hx => ha j x (List.getElem?_eq_some_iff.mp hx).1 hx
    obtain ⟨es, rfl, hl, he⟩ : ∃ es : List (Int × D), ds = es.map en ∧ es.length = m.st.length ∧ ∀ e ∈ es, (-B ≤ e.1 ∧ e.1 ≤ B) ∧ V2 e.2 := by
      cases hT with
      | ok es hl he => exact ⟨es, rfl, hl, he⟩
      | bad hb _ => rw [hf] at hb; cases hb
    simp_arith only [netD, netL, at_0, PF_cf]
    have rl : (rtD m y).length = m.st.length := by unfold rtD; rw [List.length_map]
    have iff := told_iff (es := es) (bs := rtD m y) (by omega) fun e he' => (en_g hB (he e he').1 (v2_g (he e he').2)).mono (by decide) (by decide)
    refine Loop_of (fun i ρ h'' => (∀ (j : Nat) (e : Int × D) (b : Int × Option Int), j < i → es[j]? = some e → (rtD m y)[j]? = some b → sh (en e) = sh (dfD b)) ∧ ρ = [some (netD m), some (.str y.nm), some (.tup (es.map en)), some (.lst ((kin m y).map flD)), some (.int y.t), none, none] ∧ h'' = h') ⟨fun j x b hj => absurd hj (Nat.not_lt_zero _), by simp_arith only [netD, netL], rfl⟩ ?_ ?_
    · rintro i d ρ h'' hd ⟨ha, rfl, rfl⟩
      obtain ⟨x1, x2, hx1, hx2, rfl⟩ := zip_get hd
      obtain ⟨s, hs, rfl⟩ := get_map hx1
      obtain ⟨e2, he2, rfl⟩ := get_map hx2
      have hb : (rtD m y)[i]? = some (dfS (kin m y) y.t s.nm) := by unfold rtD; rw [List.getElem?_map, hs]; rfl
      have hm := List.mem_of_getElem? he2
      simp_arith only [stD, at_0, PF_cf]
      refine AND_of ⟨trivial, trivial⟩ ?_
      simp_arith only [stD, at_0, PF_cf]
      refine ⟨trivial, ?_⟩
      refine deficit_of_s (fl := kin m y) (by omega) ?_
      simp_arith only [PF_cf]
      refine same_s (en_g hB (he e2 hm).1 (v2_g (he e2 hm).2)) (rt_g R (List.mem_of_getElem? hb)) ?_
      simp_arith only [PF_cf]
      refine br_of (fun z => ?_) (fun z => ?_)
      · have z : sh (en e2) ≠ sh (dfD (dfS (kin m y) y.t s.nm)) := by simpa using z
        simp_arith only [flPe, PF_cf]
        exact ⟨h, c.sub, k3 hf fun q => z (iff.mp q i e2 _ he2 hb)⟩
      · have z : sh (en e2) = sh (dfD (dfS (kin m y) y.t s.nm)) := by simpa using z
        simp_arith only [PF_cf]
        refine ⟨fun j e b hj h1 h2 => ?_, (by first | rfl | trivial), trivial⟩
        by_cases q : j = i
        · subst q; rw [he2] at h1; rw [hb] at h2; cases h1; cases h2; exact z
        · exact ha j e b (by omega) h1 h2
    rintro ρ h'' ⟨ha, rfl, rfl⟩
    have hall : sh (.tup (es.map en)) = sh (.tup ((rtD m y).map dfD)) := iff.mpr fun j e b h1 h2 => ha j e b (by
      have l1 := (List.getElem?_eq_some_iff.mp h1).1
      unfold zipL
      rw [List.length_zipWith, List.length_map, List.length_map]; omega) h1 h2
    refine AND_of ⟨(by first | rfl | trivial), (by first | rfl | trivial)⟩ ?_
    exact Done_sub c.sub (k2 hf hall)
  | non =>
    simp_arith only [flPe, PF_cf]
    exact ⟨h, c.sub, k1 rfl⟩
  | bl b =>
    simp_arith only [flPe, PF_cf]
    exact ⟨h, c.sub, k1 rfl⟩
  | int b =>
    simp_arith only [flPe, PF_cf]
    exact ⟨h, c.sub, k1 rfl⟩
  | str b =>
    simp_arith only [flPe, PF_cf]
    exact ⟨h, c.sub, k1 rfl⟩
  | lst b =>
    simp_arith only [flPe, PF_cf]
    exact ⟨h, c.sub, k1 rfl⟩
  | _ => cases hp
end
end K72

namespace K72
open PySem Lg Net
open L2 (atI ixN)
set_option checkBinderAnnotations false
variable {ζ : Ad}
def fDf (m : N) (y : Ty) : D → Option D
  | .tup [.str s, _, _] => some (dfD (dfS (kin m y) y.t s))
  | _ => none
def fTy (y : Str) : D → Option D
  | .tup [_, _, _, dp, _, .str ty, _, _] => if ty = y then some dp else none
  | _ => none
theorem fTy_map {m : N} {y : Ty} : (m.fl.map flD).filterMap (fTy y.nm) = ((kin m y).map (·.dp)).map D.int := by
  unfold kin
  generalize m.fl = l
  induction l with
  | nil => rfl
  | cons f l ih =>
    rw [List.map_cons, List.filterMap_cons, List.filter_cons]
    by_cases q : f.ty = y.nm
    · simp only [flD, fTy, if_pos q, decide_eq_true q, if_true, List.map_cons]; rw [ih]
    · simp only [flD, fTy, if_neg q, decide_eq_false q, Bool.false_eq_true, if_false]; exact ih
theorem bent_t {n : Nat} {h : LH} {Q : QD} {e : EX} {V W : D → Prop} (vw : Vw V W) {B : Int} {sz : Nat} (hB : 0 ≤ B ∧ B ≤ 1000) (h2 : 2 ≤ sz ∧ sz ≤ 12) {T : D} (hT : Tl V B sz T) (hf : hasF sz T = true)
    {ts : List Int} (ht : ∀ t ∈ ts, 0 ≤ t ∧ t ≤ 100000) (tl : ts.length ≤ 40) {is : List Int} {a : Addr} {p : Int} (ha : h a = some (.lst [.int p])) (hp : 0 ≤ p)
    (k : ∀ d p', Tl W (B + 1) sz d → 0 ≤ p' → Q d (put h a (.lst [.int p']))) : CF (PP ζ) TB (n + 4) 22 [T, .lst (ts.map .int), .lst (is.map .int), .ref a] h Q e := by
  cases hT with
  | ok es hl he => exact bent_s vw hB h2 hl he ht tl ha hp k
  | bad hb _ => rw [hf] at hb; cases hb
theorem ne_nn {h : LH} {Q : QD} : @wcmp .NotEq .non .non h (Box.mk Q) = Q (.bl false) h := ne_sD (x := none) (y := none)
theorem tl_py {W : D → Prop} {B : Int} {sz : Nat} {T : D} (hT : Tl W B sz T) (hW : ∀ d, W d → ∃ p, D.py d = some p) : ∃ p, D.py T = some p := by
  cases hT with
  | ok es hl he =>
    exact pyT fun x hx => by
      obtain ⟨e, he', rfl⟩ := List.mem_map.mp hx
      exact pyT fun y hy => by
        simp only [List.mem_cons, List.not_mem_nil, or_false] at hy
        rcases hy with rfl | rfl
        · exact ⟨_, rfl⟩
        · exact hW _ (he e he').2
  | bad _ hp => exact hp
theorem v1_py : ∀ d, V1 d → ∃ p, D.py d = some p := fun d h => by obtain ⟨p, hp, _⟩ := (v1_g h).ex; exact ⟨p, hp⟩
theorem v2_py : ∀ d, V2 d → ∃ p, D.py d = some p := fun d h => by obtain ⟨p, hp, _⟩ := (v2_g h).ex; exact ⟨p, hp⟩
theorem tl_gd {B : Int} {sz : Nat} {T : D} (hB : B ≤ 1000) (hs : sz ≤ 12) (hT : Tl V2 B sz T) (hf : hasF sz T = true) : Gd T 100000 11 := by
  cases hT with
  | ok es hl he =>
    exact (Gd.tup (c := 2100) (k := 10) fun d hd => by
      obtain ⟨e, he', rfl⟩ := List.mem_map.mp hd
      exact en_g hB (he e he').1 (v2_g (he e he').2)).mono (by rw [List.length_map]; omega) (by decide)
  | bad hb _ => rw [hf] at hb; cases hb
theorem tl_up {V W : D → Prop} {B C : Int} {sz : Nat} {T : D} (hV : ∀ d, V d → W d) (hB : B ≤ C) (hT : Tl V B sz T) : Tl W C sz T := by
  cases hT with
  | ok es hl he => exact .ok es hl fun e h => ⟨⟨by have := (he e h).1; omega, by have := (he e h).1; omega⟩, hV _ (he e h).2⟩
  | bad hb hp => exact .bad hb hp
section
variable {h : LH} {e : EX}
theorem law_s {ns : List Int} : CF (PP ζ) TB 20 24 [.frl (ns.map D.int)] h (fun d _ => d = .bl true) e := by
  refine CF_of (fn := ⟨1, 14, w_law⟩) rfl rfl ?_; dsimp only; unfold w_law
  simp_arith only [PF_cf]
  refine draws_s tbD fun is => ?_
  simp_arith only [PF_cf]
  refine New_of fun b hb => ?_
  simp_arith only [PF_cf]
  refine some_s put_same (by decide) fun m0 p R0 N0 ne0 hp => ?_
  simp_arith only [put_put, PF_cf]
  refine far_s put_same hp R0 N0 fun m p R F hp => ?_
  simp_arith only [put_put, netD, netL, at_0, at_1, PF_cf]
  have l40 : m.fl.length ≤ 40 := by have := R.many 3 (by decide); simpa [nms, most] using this
  have l12 : m.st.length ≤ 12 := by have := R.many 0 (by decide); simpa [nms, most] using this
  refine oneT put_same hp (by rw [List.length_map]; exact F.ty1) fun d hd => ?_
  obtain ⟨y, hy, rfl⟩ := List.mem_map.mp hd
  have lk := len_kin (m := m) (y := y)
  rw [put_put]
  refine Compr_of (its := m.st.map stD) (fDf m y) (by rw [List.length_map]; unfold sizeLine; omega) trivial (fun d K hd hk => ?_) ?_
  · obtain ⟨s, hs, rfl⟩ := List.mem_map.mp hd
    simp_arith only [stD, at_0, PF_cf]
    refine law_deficit_s R ?_
    simp_arith only [PF_cf]
    exact hk
  rw [fm_map (g := stD) (f := fDf m y) (k := fun s : St => dfD (dfS (kin m y) y.t s.nm)) fun s _ => rfl]
  have er : (m.st.map fun s : St => dfD (dfS (kin m y) y.t s.nm)) = (rtD m y).map dfD := by unfold rtD; rw [List.map_map]; rfl
  simp_arith only [er, netD, netL, at_3, PF_cf]
  refine Compr_of (its := m.fl.map flD) (fTy y.nm) (by rw [List.length_map]; unfold sizeLine; omega) trivial (fun d K hd hk => ?_) ?_
  · obtain ⟨f, hf, rfl⟩ := List.mem_map.mp hd
    simp_arith only [flD, tyD, at_0, at_3, at_5, PF_cf]
    simp only [flD, fTy] at hk
    refine br_of (fun z => ?_) (fun z => ?_)
    · rw [if_pos (of_decide_eq_true z)] at hk
      simp_arith; exact hk
    · rw [if_neg (of_decide_eq_false z)] at hk
      simp_arith; exact hk
  rw [fTy_map]
  simp_arith only [PF_cf]
  have tms : ∀ t ∈ (kin m y).map (·.dp), 0 ≤ t ∧ t ≤ 100000 := fun t ht => by
    obtain ⟨f, hf, rfl⟩ := List.mem_map.mp ht
    have := (R.fl f (List.mem_filter.mp hf).1).2.1
    omega
  have tml : ((kin m y).map (·.dp)).length ≤ 40 := by rw [List.length_map]; omega
  generalize (kin m y).map (·.dp) = ts at tms tml ⊢
  have rtl : (rtD m y).length = m.st.length := by unfold rtD; rw [List.length_map]
  obtain ⟨S, eS⟩ : ∃ S, S = sh (.tup ((rtD m y).map dfD)) := ⟨_, rfl⟩
  have rR : ∀ (h : LH) (Q : QD), @wblt .repr [.tup ((rtD m y).map dfD)] h (Box.mk Q) = Q (.str S) h := by
    rw [eS]
    exact (Gd.tup (c := 2000) (k := 10) fun d hd => by
      obtain ⟨b, hb, rfl⟩ := List.mem_map.mp hd
      exact rt_g R hb).rep (by rw [List.length_map]; unfold sizeLine; omega) (by decide)
  have t0 : Tl V0 50 m.st.length (.tup ((rtD m y).map dfD)) := by
    have e1 : (rtD m y).map dfD = ((rtD m y).map fun b => (b.1, oI b.2)).map en := by rw [List.map_map]; rfl
    rw [e1]
    refine .ok _ (by rw [List.length_map]; exact rtl) fun e he => ?_
    obtain ⟨b, hb, rfl⟩ := List.mem_map.mp he
    obtain ⟨s, _, rfl⟩ := List.mem_map.mp hb
    obtain ⟨h1, h2⟩ := dfS_ok (fl := kin m y) (tu := y.t) (st := s.nm)
    refine ⟨⟨by dsimp only; omega, by dsimp only; omega⟩, ?_⟩
    cases q : (dfS (kin m y) y.t s.nm).2 with
    | none => exact .inl (by simp only [q, oI])
    | some t =>
      obtain ⟨f, hf, rfl⟩ := h2 t q
      have := (R.fl f (List.mem_filter.mp hf).1).2.1
      exact .inr ⟨f.dp, by simp only [q, oI], by omega, by omega⟩
  refine AND_of (by decide) ?_
  refine Loop_of (fun i ρ h' => ∃ p : Int, ρ = [some (.frl (ns.map D.int)), some (.lst (is.map D.int)), some (.ref b), some (netD m), some (tyD y), some (.tup ((rtD m y).map dfD)), none, some (.lst (ts.map D.int)), none, none, none, none, none, none] ∧ h' b = some (.lst [.int p]) ∧ 0 ≤ p) ⟨p + 1, by simp_arith only [netD, netL, tyD], put_same, by omega⟩ ?_ ?_
  · rintro i d ρ H hd ⟨p, rfl, hpb, hp⟩
    obtain ⟨hi, rfl⟩ := rngL_get hd
    simp_arith only [PF_cf]
    have fin : ∀ (s : Str) (A B : Prop), A → @br ((PP ζ).sb (eP s).cls 2) (Box.mk A) (Box.mk B) := fun s A B a => a
    refine br_of (fun zt => ?_) (fun zt => ?_)
    · simp_arith only [PF_cf]
      have hfR : hasF m.st.length (.tup ((rtD m y).map dfD)) = true := by
        have e1 : (rtD m y).map dfD = ((rtD m y).map fun b => (b.1, oI b.2)).map en := by rw [List.map_map]; rfl
        rw [e1]; exact has_ok (by rw [List.length_map]; exact rtl)
      refine bent_t v01 (by decide) ⟨F.st2, l12⟩ t0 hfR tms tml hpb hp fun T p hT hp => ?_
      simp_arith only [PF_cf]
      refine takeC put_same hp (by decide) fun r r0 r1 => ?_
      rw [put_put]
      simp_arith only [PF_cf]
      refine br_of (fun zr => ?_) (fun zr => ?_)
      · simp_arith only [netD, netL, at_0, PF_cf]
        obtain ⟨pT, hpT⟩ := tl_py hT v1_py
        refine has_form_s hpT ?_
        simp_arith only [PF_cf]
        refine br_of (fun hf => ?_) (fun hf => ?_)
        · simp_arith only [PF_cf]
          refine br_of (fun _ => ?_) (fun q => absurd zt (by rw [q]; decide))
          simp_arith only [PF_cf]
          refine bent_t v12 (by decide) ⟨F.st2, l12⟩ hT hf tms tml put_same (by omega) fun T p hT2 hp => ?_
          clear hf hT hpT
          rw [put_put]
          have hT2 : Tl V2 52 m.st.length T := tl_up (fun _ h => h) (by decide) hT2
          simp_arith only [PF_cf]
          simp_arith only [netD, netL, at_0, PF_cf]
          obtain ⟨pT, hpT⟩ := tl_py hT2 v2_py
          refine has_form_s hpT ?_
          simp_arith only [PF_cf]
          refine br_of (fun hf => ?_) (fun hf => ?_)
          · have rT := (tl_gd (by decide) l12 hT2 hf).rep (by unfold sizeLine; decide) (by decide)
            by_cases q : sh T = S
            · simp_arith only [rT, rR, q, tyD, at_0, PF_cf]
              refine accept_s R hy (by decide) hT2 (fun hb => absurd hf (by rw [hb]; decide)) (fun _ _ => ?_) (fun _ hne => absurd (q.trans eS) hne)
              simp_arith only [ne_nn, PF_cf]
              exact ⟨p, (by first | rfl | trivial), (by first | rfl | trivial), by omega⟩
            · first
                | exact absurd eS.symm q
                | (simp_arith only [rT, rR, decide_eq_false q, tyD, at_0, PF_cf]
                   refine accept_s R hy (by decide) hT2 (fun hb => absurd hf (by rw [hb]; decide)) (fun _ he => absurd (he.trans eS.symm) q) (fun _ _ => ?_)
                   simp_arith only [PF_sb]
                   refine fin _ _ _ ?_
                   refine New_of fun a ha => ?_
                   simp_arith only [look_P, ne_nn, PF_cf]
                   exact ⟨p, (by first | rfl | trivial), (by first | rfl | trivial), by omega⟩)
          · simp_arith only [tyD, at_0, PF_cf]
            refine accept_s R hy (by decide) hT2 (fun _ => ?_) (fun hb => absurd hb (by rw [hf]; decide)) (fun hb => absurd hb (by rw [hf]; decide))
            simp_arith only [PF_sb]
            refine fin _ _ _ ?_
            refine New_of fun a ha => ?_
            simp_arith only [look_P, ne_nn, PF_cf]
            exact ⟨p, (by first | rfl | trivial), (by first | rfl | trivial), by omega⟩

        · have hT2 : Tl V2 52 m.st.length T := tl_up (fun _ h => v12.up _ h) (by decide) hT
          clear hf hT hpT
          simp_arith only [PF_cf]
          simp_arith only [netD, netL, at_0, PF_cf]
          obtain ⟨pT, hpT⟩ := tl_py hT2 v2_py
          refine has_form_s hpT ?_
          simp_arith only [PF_cf]
          refine br_of (fun hf => ?_) (fun hf => ?_)
          · have rT := (tl_gd (by decide) l12 hT2 hf).rep (by unfold sizeLine; decide) (by decide)
            by_cases q : sh T = S
            · simp_arith only [rT, rR, q, tyD, at_0, PF_cf]
              refine accept_s R hy (by decide) hT2 (fun hb => absurd hf (by rw [hb]; decide)) (fun _ _ => ?_) (fun _ hne => absurd (q.trans eS) hne)
              simp_arith only [ne_nn, PF_cf]
              exact ⟨p + 1, (by first | rfl | trivial), (by first | rfl | trivial), by omega⟩
            · first
                | exact absurd eS.symm q
                | (simp_arith only [rT, rR, decide_eq_false q, tyD, at_0, PF_cf]
                   refine accept_s R hy (by decide) hT2 (fun hb => absurd hf (by rw [hb]; decide)) (fun _ he => absurd (he.trans eS.symm) q) (fun _ _ => ?_)
                   simp_arith only [PF_sb]
                   refine fin _ _ _ ?_
                   refine New_of fun a ha => ?_
                   simp_arith only [look_P, ne_nn, PF_cf]
                   exact ⟨p + 1, (by first | rfl | trivial), (by first | rfl | trivial), by omega⟩)
          · simp_arith only [tyD, at_0, PF_cf]
            refine accept_s R hy (by decide) hT2 (fun _ => ?_) (fun hb => absurd hb (by rw [hf]; decide)) (fun hb => absurd hb (by rw [hf]; decide))
            simp_arith only [PF_sb]
            refine fin _ _ _ ?_
            refine New_of fun a ha => ?_
            simp_arith only [look_P, ne_nn, PF_cf]
            exact ⟨p + 1, (by first | rfl | trivial), (by first | rfl | trivial), by omega⟩

      · have hT2 : Tl V2 52 m.st.length T := tl_up (fun _ h => v12.up _ h) (by decide) hT
        simp_arith only [PF_cf]
        simp_arith only [netD, netL, at_0, PF_cf]
        obtain ⟨pT, hpT⟩ := tl_py hT2 v2_py
        refine has_form_s hpT ?_
        simp_arith only [PF_cf]
        refine br_of (fun hf => ?_) (fun hf => ?_)
        · have rT := (tl_gd (by decide) l12 hT2 hf).rep (by unfold sizeLine; decide) (by decide)
          by_cases q : sh T = S
          · simp_arith only [rT, rR, q, tyD, at_0, PF_cf]
            refine accept_s R hy (by decide) hT2 (fun hb => absurd hf (by rw [hb]; decide)) (fun _ _ => ?_) (fun _ hne => absurd (q.trans eS) hne)
            simp_arith only [ne_nn, PF_cf]
            exact ⟨p + 1, (by first | rfl | trivial), (by first | rfl | trivial), by omega⟩
          · first
              | exact absurd eS.symm q
              | (simp_arith only [rT, rR, decide_eq_false q, tyD, at_0, PF_cf]
                 refine accept_s R hy (by decide) hT2 (fun hb => absurd hf (by rw [hb]; decide)) (fun _ he => absurd (he.trans eS.symm) q) (fun _ _ => ?_)
                 simp_arith only [PF_sb]
                 refine fin _ _ _ ?_
                 refine New_of fun a ha => ?_
                 simp_arith only [look_P, ne_nn, PF_cf]
                 exact ⟨p + 1, (by first | rfl | trivial), (by first | rfl | trivial), by omega⟩)
        · simp_arith only [tyD, at_0, PF_cf]
          refine accept_s R hy (by decide) hT2 (fun _ => ?_) (fun hb => absurd hb (by rw [hf]; decide)) (fun hb => absurd hb (by rw [hf]; decide))
          simp_arith only [PF_sb]
          refine fin _ _ _ ?_
          refine New_of fun a ha => ?_
          simp_arith only [look_P, ne_nn, PF_cf]
          exact ⟨p + 1, (by first | rfl | trivial), (by first | rfl | trivial), by omega⟩

    simp_arith only [PF_cf]
    have hT2 : Tl V2 52 m.st.length (.tup ((rtD m y).map dfD)) := tl_up (fun d h => v12.up _ (v01.up _ h)) (by decide) t0
    refine takeC hpb hp (by decide) fun r r0 r1 => ?_
    simp_arith only [PF_cf]
    refine br_of (fun zr => ?_) (fun zr => ?_)
    · simp_arith only [netD, netL, at_0, PF_cf]
      obtain ⟨pT, hpT⟩ := tl_py hT2 v2_py
      refine has_form_s hpT ?_
      simp_arith only [PF_cf]
      refine br_of (fun hf => ?_) (fun hf => ?_)
      · simp_arith only [PF_cf]
        refine br_of (fun q => absurd zt (by rw [q]; decide)) (fun _ => ?_)
        clear hf hpT
        simp_arith only [PF_cf]
        simp_arith only [netD, netL, at_0, PF_cf]
        obtain ⟨pT, hpT⟩ := tl_py hT2 v2_py
        refine has_form_s hpT ?_
        simp_arith only [PF_cf]
        refine br_of (fun hf => ?_) (fun hf => ?_)
        · have rT := (tl_gd (by decide) l12 hT2 hf).rep (by unfold sizeLine; decide) (by decide)
          by_cases q : sh (D.tup ((rtD m y).map dfD)) = S
          · simp_arith only [rT, rR, q, tyD, at_0, PF_cf]
            refine accept_s R hy (by decide) hT2 (fun hb => absurd hf (by rw [hb]; decide)) (fun _ _ => ?_) (fun _ hne => absurd (q.trans eS) hne)
            simp_arith only [ne_nn, PF_cf]
            exact ⟨p + 1, (by first | rfl | trivial), (by first | rfl | trivial), by omega⟩
          · first
              | exact absurd eS.symm q
              | (simp_arith only [rT, rR, decide_eq_false q, tyD, at_0, PF_cf]
                 refine accept_s R hy (by decide) hT2 (fun hb => absurd hf (by rw [hb]; decide)) (fun _ he => absurd (he.trans eS.symm) q) (fun _ _ => ?_)
                 simp_arith only [PF_sb]
                 refine fin _ _ _ ?_
                 refine New_of fun a ha => ?_
                 simp_arith only [look_P, ne_nn, PF_cf]
                 exact ⟨p + 1, (by first | rfl | trivial), (by first | rfl | trivial), by omega⟩)
        · simp_arith only [tyD, at_0, PF_cf]
          refine accept_s R hy (by decide) hT2 (fun _ => ?_) (fun hb => absurd hb (by rw [hf]; decide)) (fun hb => absurd hb (by rw [hf]; decide))
          simp_arith only [PF_sb]
          refine fin _ _ _ ?_
          refine New_of fun a ha => ?_
          simp_arith only [look_P, ne_nn, PF_cf]
          exact ⟨p + 1, (by first | rfl | trivial), (by first | rfl | trivial), by omega⟩

      · clear hf hpT
        simp_arith only [PF_cf]
        simp_arith only [netD, netL, at_0, PF_cf]
        obtain ⟨pT, hpT⟩ := tl_py hT2 v2_py
        refine has_form_s hpT ?_
        simp_arith only [PF_cf]
        refine br_of (fun hf => ?_) (fun hf => ?_)
        · have rT := (tl_gd (by decide) l12 hT2 hf).rep (by unfold sizeLine; decide) (by decide)
          by_cases q : sh (D.tup ((rtD m y).map dfD)) = S
          · simp_arith only [rT, rR, q, tyD, at_0, PF_cf]
            refine accept_s R hy (by decide) hT2 (fun hb => absurd hf (by rw [hb]; decide)) (fun _ _ => ?_) (fun _ hne => absurd (q.trans eS) hne)
            simp_arith only [ne_nn, PF_cf]
            exact ⟨p + 1, (by first | rfl | trivial), (by first | rfl | trivial), by omega⟩
          · first
              | exact absurd eS.symm q
              | (simp_arith only [rT, rR, decide_eq_false q, tyD, at_0, PF_cf]
                 refine accept_s R hy (by decide) hT2 (fun hb => absurd hf (by rw [hb]; decide)) (fun _ he => absurd (he.trans eS.symm) q) (fun _ _ => ?_)
                 simp_arith only [PF_sb]
                 refine fin _ _ _ ?_
                 refine New_of fun a ha => ?_
                 simp_arith only [look_P, ne_nn, PF_cf]
                 exact ⟨p + 1, (by first | rfl | trivial), (by first | rfl | trivial), by omega⟩)
        · simp_arith only [tyD, at_0, PF_cf]
          refine accept_s R hy (by decide) hT2 (fun _ => ?_) (fun hb => absurd hb (by rw [hf]; decide)) (fun hb => absurd hb (by rw [hf]; decide))
          simp_arith only [PF_sb]
          refine fin _ _ _ ?_
          refine New_of fun a ha => ?_
          simp_arith only [look_P, ne_nn, PF_cf]
          exact ⟨p + 1, (by first | rfl | trivial), (by first | rfl | trivial), by omega⟩

    · simp_arith only [PF_cf]
      simp_arith only [netD, netL, at_0, PF_cf]
      obtain ⟨pT, hpT⟩ := tl_py hT2 v2_py
      refine has_form_s hpT ?_
      simp_arith only [PF_cf]
      refine br_of (fun hf => ?_) (fun hf => ?_)
      · have rT := (tl_gd (by decide) l12 hT2 hf).rep (by unfold sizeLine; decide) (by decide)
        by_cases q : sh (D.tup ((rtD m y).map dfD)) = S
        · simp_arith only [rT, rR, q, tyD, at_0, PF_cf]
          refine accept_s R hy (by decide) hT2 (fun hb => absurd hf (by rw [hb]; decide)) (fun _ _ => ?_) (fun _ hne => absurd (q.trans eS) hne)
          simp_arith only [ne_nn, PF_cf]
          exact ⟨p + 1, (by first | rfl | trivial), (by first | rfl | trivial), by omega⟩
        · first
            | exact absurd eS.symm q
            | (simp_arith only [rT, rR, decide_eq_false q, tyD, at_0, PF_cf]
               refine accept_s R hy (by decide) hT2 (fun hb => absurd hf (by rw [hb]; decide)) (fun _ he => absurd (he.trans eS.symm) q) (fun _ _ => ?_)
               simp_arith only [PF_sb]
               refine fin _ _ _ ?_
               refine New_of fun a ha => ?_
               simp_arith only [look_P, ne_nn, PF_cf]
               exact ⟨p + 1, (by first | rfl | trivial), (by first | rfl | trivial), by omega⟩)
      · simp_arith only [tyD, at_0, PF_cf]
        refine accept_s R hy (by decide) hT2 (fun _ => ?_) (fun hb => absurd hb (by rw [hf]; decide)) (fun hb => absurd hb (by rw [hf]; decide))
        simp_arith only [PF_sb]
        refine fin _ _ _ ?_
        refine New_of fun a ha => ?_
        simp_arith only [look_P, ne_nn, PF_cf]
        exact ⟨p + 1, (by first | rfl | trivial), (by first | rfl | trivial), by omega⟩
  · rintro ρ H ⟨p, rfl, hpb, hp⟩
    refine AND_of trivial ?_
    simp_arith only [PF_cf]
    exact Done_of rfl
end
theorem main (z : Lg.Ad) (ns : List Int) (_ : ns.length ≤ 63) : CF (pgm.prmC z) pgm.tb 20 24 [.frl (ns.map D.int)] (fun _ => none) (fun d _ => d = .bl true) fun _ _ => False := law_s
end K72

namespace K72
open PySem PySem.W PySem.Calls PyProof.Rows
abbrev R : OpenRow := OpenLaw.row PySem.Challenge.rw_skywrought_k72_whole_any_deficits_are_ju
def loose : List PySem.Str := PySem.Str.ofString "InterlineError" :: PySem.Str.ofString "ReasonError" :: PySem.Str.ofString "ArgumentError" :: PySem.Str.ofString "PaperError" :: PySem.Str.ofString "NetError" :: PySem.Str.ofString "MAX_TIME" :: PySem.Str.ofString "MAX_STATIONS" :: PySem.Str.ofString "MAX_TYPES" :: PySem.Str.ofString "MAX_FLIGHTS" :: PySem.Str.ofString "MAX_TAILS" :: PySem.Str.ofString "MAX_CLASSES" :: PySem.Str.ofString "MAX_FARES" :: PySem.Str.ofString "MAX_STOPS" :: PySem.Str.ofString "MAX_COIN" :: PySem.Str.ofString "MAX_NAME" :: PySem.Str.ofString "is_integer" :: PySem.Str.ofString "in_range" :: PySem.Str.ofString "by_name" :: PySem.Str.ofString "Lookup" :: PySem.Str.ofString "same_value" :: PySem.Str.ofString "LETTERS" :: PySem.Str.ofString "DIGITS" :: PySem.Str.ofString "is_name" :: PySem.Str.ofString "MOST" :: PySem.Str.ofString "SHAPES" :: PySem.Str.ofString "has_sort" :: PySem.Str.ofString "has_shape" :: PySem.Str.ofString "Checking" :: PySem.Str.ofString "check" :: PySem.Str.ofString "flights_of" :: PySem.Str.ofString "deficit_at" :: PySem.Str.ofString "deficit_of" :: PySem.Str.ofString "accept_deficits" :: PySem.Str.ofString "_law_draws" :: PySem.Str.ofString "_law_more" :: PySem.Str.ofString "_law_take" :: PySem.Str.ofString "_law_one" :: PySem.Str.ofString "_law_limits" :: PySem.Str.ofString "_law_net" :: PySem.Str.ofString "_law_busy" :: PySem.Str.ofString "_law_some_net" :: PySem.Str.ofString "_law_deficit" :: PySem.Str.ofString "_law_has_form" :: PySem.Str.ofString "_law_bent" :: PySem.Str.ofString "_law_far_net" :: []
set_option maxRecDepth 1000000 in
set_option maxHeartbeats 0 in
theorem run (w : World) : HandSHeadRun.RunEq R (view R.prog [51]) (pgm.hook 6) (pgm.ob 6) 6000 loose w := by
  intro os
  kernel_rfl
end K72
open PySem PySem.W PySem.Calls PyProof.Rows
set_option maxHeartbeats 0 in
theorem K72.holds (main : ∀ (z : Lg.Ad) (ns : List Int), ns.length ≤ 63 → Lg.CF (K72.pgm.prmC z) K72.pgm.tb 20 24 [.frl (ns.map Lg.D.int)] (fun _ => none) (fun d _ => d = .bl true) fun _ _ => False) : PySem.Challenge.rw_skywrought_k72_whole_any_deficits_are_ju.Holds := by
  w_on; o_law
  refine HandSHeadRun.head_any (r := OpenLaw.row PySem.Challenge.rw_skywrought_k72_whole_any_deficits_are_ju) (q := view (OpenLaw.row PySem.Challenge.rw_skywrought_k72_whole_any_deficits_are_ju).prog [51]) (H := K72.pgm.hook 6) (ob := K72.pgm.ob 6) (M := 6000) (loose := K72.loose) (d := HandSHeadRun.topDef (OpenLaw.row PySem.Challenge.rw_skywrought_k72_whole_any_deficits_are_ju).prog 51) (kwd := []) (K72.pgm.ob_eq 6)
    (by kernel_rfl) (fun s => by kernel_rfl) K72.run (by kernel_rfl) (by kernel_rfl) (by kernel_rfl) (by rfl) (by first | assumption | decide +kernel) (by decide +kernel) ⟨rfl, rfl, rfl, rfl, rfl, by decide +kernel⟩ ?hw ?hc
  case hw => w_witness2
  case hc =>
    refine Lg.walk_ofG (l := PySem.Challenge.rw_skywrought_k72_whole_any_deficits_are_ju) (n := 63) (k := 2 * 20 + 2) (x := "script") rfl (by decide) (by kernel_rfl) ⟨rfl, by decide, by decide⟩ ?F
    intro w mg fa h Y G hmg0
    obtain ⟨K, KX, c⟩ := Y
    have hmg : mg ("law" : PySem.Str) = some (.ref fa) := by
      have e : (HandSHeadRun.topDef (OpenLaw.row PySem.Challenge.rw_skywrought_k72_whole_any_deficits_are_ju).prog 51).name = ("law" : PySem.Str) := by kernel_rfl
      rw [← e]
      exact hmg0
    exact ⟨K, _, _, KX, main (K72.pgm.ad K), Lg.law_of (p := K72.pgm) (w := w) (n := 20) (li := 24) (f := K72.f_law) K72.ok KX G c rfl rfl rfl (by decide) hmg⟩


set_option maxRecDepth 100000 in
theorem PySem.Challenge.cw_skywrought_k72_whole_any_deficits_are_ju_holds : PySem.Challenge.rw_skywrought_k72_whole_any_deficits_are_ju.Holds :=
  K72.holds fun z ns h => K72.main z ns h
