import PyProof.Rows.All
import Wide.All
import OpenK.AllK
import Wide.FinOn
import HandS.Base
import HandS.Call
import HandS.List
import HandS.TupAny
import HandS.Iter
import HandS.Zip
import HandS.Star
import HandS.Comp
import HandS.Dict
import HandS.Exc
import HandS.ExcOwn
import HandS.Deep
import HandS.SortInts
import HandS.IsInst
import HandS.SetFor
import HandS.Walk
import HandS.ForExc
import HandS.ExcInit
import HandS.Nested
import KE.KExcSuper
import HandS.TryMany
import HandS.ExcField
import HandS.ExcIs
import KE.KExcIs
import KE.GoesMore
import HandS.Flow
import HandS.Words
import PySem.Challenge.RW_oldnews_k02_rooms_meet_and_join
import HandS.Ends
import HandS.ForMost
set_option Elab.async false
section
set_option Elab.async false
set_option linter.all false
set_option maxRecDepth 100000
set_option maxHeartbeats 2000000
namespace O
open PySem PySem.Spec PyProof.Rows L2

/-! ### tuples whose object is known -/
/-- such a tuple -/
def tupO (us : List Value) : Obj := { cls := .type "tuple", data := .seq us.toArray }
def XT (K : PySem.W.Frag) (H : Hp) (a : Addr) (xs : List V) : Prop :=
  (∃ o, H a = some (.frz o (.tup xs)) ∧ o.dict = none) ∨ ∃ (o : Obj) (its : Array Value) (n : Nat), K.lookup a = some o ∧ o.cls = .type "tuple" ∧ o.data = .seq its n ∧ its.size ≤ sizeLine ∧ Vals xs its.toList ∧ o.dict = none
theorem XT.sqt {K : PySem.W.Frag} {H : Hp} {a : Addr} {xs : List V} (h : XT K H a xs) : SqT K H a xs := by
  rcases h with ⟨o, h, _⟩ | ⟨o, its, n, h1, h2, h3, h4, h5, _⟩
  · exact .inl (.inr ⟨o, h⟩)
  · exact .inr ⟨o, its, n, h1, h2, h3, h4, h5⟩
/-- what a new tuple promises -/
def NT (H : Hp) (xs : List V) (Q : VK) : Prop := ∀ p us, H p = none → Q (.ref p) (upd H p (.frz (tupO us) (.tup xs)))
section
variable {X : Cx} {pins : List (Addr × Obj)} {σ : L2.St} {H : Hp} {s : Shared}
theorem frz_new {P : Program} {w : World} {G : Hp} {h : Heap} {us : List Value} {xs : List V} (r : Vals xs us) (hz : xs.length ≤ sizeLine) {a : Addr} (e : h.get? a = some (tupO us)) : ObjOk P w G h a (.frz (tupO us) (.tup xs)) := ⟨e, hz, us, r, ⟨_, e, rfl, _, rfl⟩⟩
theorem inv_newT {us : List Value} {xs : List V} {t' : Nat} (I : Inv X pins σ H s) (r : Vals xs us) (hz : xs.length ≤ sizeLine) : Inv X pins σ (upd H s.heap.objs.size (.frz (tupO us) (.tup xs))) { s with heap := s.heap.push (tupO us), toks := t' } :=
  I.laid (fun b u e => Heap.get?_push_of_some _ e) (Nat.le_refl _) (frz_new r hz (Heap.get?_push_size _ rfl))
theorem NT.here {us : List Value} {xs : List V} {Q : VK} {t' : Nat} (I : Inv X pins σ H s) (r : Vals xs us) (hz : xs.length ≤ sizeLine) (h : NT H xs Q) : EP X pins σ Q (.ref s.heap.objs.size) { s with heap := s.heap.push (tupO us), toks := t' } :=
  ⟨.ref s.heap.objs.size, _, inv_newT I r hz, rfl, h _ us (I.hok.fresh (Nat.le_refl _))⟩
def tTupZ (t : TA) : TE := fun σ H Q => t σ H fun xs H1 => xs.length ≤ sizeLine ∧ NT H1 xs Q
theorem pe_tupZ {es : List Expr} {t : TA} {pos : Pos} {x1} (h : PA X es t) : PE X (.Tuple es x1 pos) (tTupZ t) :=
  ⟨fun pins s σ H Q I hq => wpAny_Tuple_spliced (thn (h.run pos pins s σ H _ I hq) fun us s1 ⟨xs, H1, I1, r, z, q⟩ => ⟨by rw [← r.length]; exact z, q.here (t' := s1.toks) I1 r z⟩)⟩
theorem call_tupZ : CallR X (.type "tuple") (fun xs H Q => ∃ p ys, xs = [.ref p] ∧ ((SqL X.K H p ys ∧ NT H ys Q) ∨ (SqT X.K H p ys ∧ Q (.ref p) H))) := by
  rintro pins s σ H xs us Q I r ⟨p, ys, rfl, h⟩
  rcases h with ⟨h1, h2⟩ | ⟨h1, h2⟩
  · obtain ⟨u, rfl, ru⟩ := vals1 r
    cases ru
    obtain ⟨ws, rw', pl, hz⟩ := I.list h1
    have hlen := rw'.length
    exact call_tuple_list pl.isList (fun h' kp => h2.here (t' := s.toks) (s := { s with heap := h' }) (I.kept (t' := s.toks) kp) rw' hz) (by simp only [List.size_toArray] <;> omega)
  · exact call_tuple_of pins s σ H _ us Q I r ⟨p, ys, rfl, .inr ⟨h1, h2⟩⟩
def rCatZ (K : PySem.W.Frag) : R2 := fun x y H Q => ∃ a b xs ys, x = .ref a ∧ y = .ref b ∧ SqT K H a xs ∧ SqT K H b ys ∧ xs.length + ys.length ≤ sizeLine ∧
  (xs = [] → Q (.ref b) H) ∧ (xs ≠ [] → ys = [] → Q (.ref a) H) ∧ (xs ≠ [] → ys ≠ [] → NT H (xs ++ ys) Q)
theorem op_catZ : OpR X (binaryOp .Add) (rCatZ X.K) := by
  rintro pins s σ H x y v u Q I rx ry ⟨a, b, xs, ys, rfl, rfl, ha, hb, hz, q0, q1, q2⟩
  by_cases hx : xs = []
  · exact op_catA pins s σ H _ _ v u Q I rx ry ⟨a, b, xs, ys, rfl, rfl, ha, hb, hz, q0, q1, fun z => absurd hx z⟩
  · cases rx
    cases ry
    obtain ⟨us, r1, p1, _⟩ := I.tuple ha
    obtain ⟨ws, r2, p2, _⟩ := I.tuple hb
    exact HT.cat_tup p1 p2 (fun z => hx (r1.nil_iff.mp z)) (fun z => ⟨.ref a, H, I, rfl, q1 hx (r2.nil_iff.mp z)⟩) (fun z => (q2 hx (fun w => z (r2.nil_iff.mpr w))).here (t' := s.toks) I (r1.append r2) (by rw [List.length_append]; exact hz)) (by rw [← r1.length, ← r2.length]; exact hz)
def rSlZ (K : PySem.W.Frag) : V → Option Int → Option Int → Hp → VK → Prop := fun x lo hi H Q => ∃ a xs, x = .ref a ∧ SqT K H a xs ∧
  (HT.sIx xs.length 0 lo = 0 ∧ HT.sIx xs.length xs.length hi = xs.length → Q (.ref a) H) ∧ (¬ (HT.sIx xs.length 0 lo = 0 ∧ HT.sIx xs.length xs.length hi = xs.length) → NT H (cutV xs lo hi) Q)
theorem sl_tupZ : SlR X (rSlZ X.K) := by
  rintro pins s σ H x v vl vu lo hi sl Q I rx hs pl pu ⟨a, xs, rfl, hx, q1, q2⟩
  by_cases hw : HT.sIx xs.length 0 lo = 0 ∧ HT.sIx xs.length xs.length hi = xs.length
  · exact sl_tupA pins s σ H _ v vl vu lo hi sl Q I rx hs pl pu ⟨a, xs, rfl, hx, q1, fun z => absurd hw z⟩
  · cases rx
    obtain ⟨us, r, ht, hz⟩ := I.tuple hx
    have hl : us.toArray.size = xs.length := by rw [List.size_toArray]; exact r.length.symm
    refine ⟨"tuple", _, PyProof.Rows.slot_tuple_getitem.lookup, ht.typeIs, HT.getItem_tuple_cut ht hs pl pu (by rw [hl]; exact hw) ?_ (by rw [hl]; exact hz)⟩
    rw [hl]
    exact (q2 hw).here (t' := s.toks) I ((r.drop (HT.sIx xs.length 0 lo)).take (HT.sIx xs.length xs.length hi - HT.sIx xs.length 0 lo)) (Nat.le_trans (cutV_length xs lo hi) hz)
end
end O

end

section
set_option Elab.async false
set_option linter.all false
set_option maxRecDepth 100000
namespace O
open PySem PySem.Spec PyProof.Rows L2

/-! ### data -/
inductive D where
  | non | bl (b : Bool) | int (i : Int) | str (x : Str)
  | tup (l : List D) | lst (l : List D)
  | dct (l : List (Key × D))
  | obj (c : Str) (l : List (Str × D))
  | scr (l : List Int)
  | xo

/-- the classes by name; what holds besides, of the frozen heap -/
structure Ctx where
  cls : Str → Option Addr
  tg : Nat → Option Addr
  m : Hp → Prop
  up : ∀ F F' : Hp, (∀ a o, F a = some o → F' a = some o) → m F → m F'

section
variable (K : PySem.W.Frag) (G : Ctx)
mutual
def Rep (F : Hp) : D → V → Prop
  | .non, v => v = .non
  | .bl b, v => v = .bl b
  | .int i, v => v = .int i
  | .str x, v => v = .str x
  | .tup l, v => ∃ a vs, v = .ref a ∧ XT K F a vs ∧ RepL F l vs
  | .lst l, v => ∃ a vs, v = .ref a ∧ F a = some (.lst vs) ∧ RepL F l vs
  | .dct l, v => ∃ a vs, v = .ref a ∧ F a = some (.dK vs) ∧ RepK F l vs
  | .obj c l, v => ∃ a C dx vs, v = .ref a ∧ G.cls c = some C ∧ F a = some (.ins C dx vs) ∧ RepF F l vs
  | .scr l, v => ∃ a, v = .ref a ∧ SqL K F a (l.map V.int)
  | .xo, v => ∃ a, G.tg 1 = some a ∧ v = .ref a
def RepL (F : Hp) : List D → List V → Prop
  | [], vs => vs = []
  | d :: l, vs => ∃ v r, vs = v :: r ∧ Rep F d v ∧ RepL F l r
def RepK (F : Hp) : List (Key × D) → List (Key × V) → Prop
  | [], vs => vs = []
  | p :: l, vs => ∃ v r, vs = (p.1, v) :: r ∧ Rep F p.2 v ∧ RepK F l r
def RepF (F : Hp) : List (Str × D) → List (Str × V) → Prop
  | [], vs => vs = []
  | p :: l, vs => ∃ v r, vs = (p.1, v) :: r ∧ Rep F p.2 v ∧ RepF F l r
end
end

/-! nothing within that can change -/
mutual
def imm : D → Bool
  | .lst _ => false
  | .tup l => immL l
  | .dct _ => false
  | .obj _ _ => false
  | .scr _ => false
  | .xo => false
  | _ => true
def immL : List D → Bool
  | [] => true
  | d :: l => imm d && immL l
end
def immK : List (Key × D) → Bool
  | [] => true
  | p :: l => imm p.2 && immK l
def immF : List (Str × D) → Bool
  | [] => true
  | p :: l => imm p.2 && immF l

def Le (F H : Hp) : Prop := ∀ a o, F a = some o → H a = some o
theorem Le.refl (F : Hp) : Le F F := fun _ _ h => h
theorem Le.trans {F G H : Hp} (a : Le F G) (b : Le G H) : Le F H := fun x o h => b x o (a x o h)
theorem Le.free {F H : Hp} (e : Le F H) {a : Addr} (h : H a = none) : F a = none := by
  cases q : F a with
  | none => rfl
  | some o => rw [e a o q] at h; cases h
theorem Le.xt {K : PySem.W.Frag} {F H : Hp} (e : Le F H) {a : Addr} {xs : List V} (h : XT K F a xs) : XT K H a xs := by
  rcases h with ⟨o, h, d⟩ | h
  · exact .inl ⟨o, e _ _ h, d⟩
  · exact .inr h
theorem Le.sqt {K : PySem.W.Frag} {F H : Hp} (e : Le F H) {a : Addr} {xs : List V} (h : XT K F a xs) : SqT K H a xs := (e.xt h).sqt
theorem Le.sql {K : PySem.W.Frag} {F H : Hp} (e : Le F H) {a : Addr} {xs : List V} (h : SqL K F a xs) : SqL K H a xs := by
  rcases h with (h | ⟨o, h⟩) | h
  · exact .inl (.inl (e _ _ h))
  · exact .inl (.inr ⟨o, e _ _ h⟩)
  · exact .inr h

section
variable {K : PySem.W.Frag} {G : Ctx}
mutual
theorem Rep.mono {F F' : Hp} (e : Le F F') : ∀ {d : D} {v : V}, Rep K G F d v → Rep K G F' d v
  | .non, v, h => by unfold Rep at h ⊢; exact h
  | .bl b, v, h => by unfold Rep at h ⊢; exact h
  | .int i, v, h => by unfold Rep at h ⊢; exact h
  | .str x, v, h => by unfold Rep at h ⊢; exact h
  | .tup l, v, h => by
    unfold Rep at h ⊢
    obtain ⟨a, vs, e1, q, r⟩ := h
    exact ⟨a, vs, e1, e.xt q, RepL.mono e r⟩
  | .lst l, v, h => by
    unfold Rep at h ⊢
    obtain ⟨a, vs, e1, q, r⟩ := h
    exact ⟨a, vs, e1, e _ _ q, RepL.mono e r⟩
  | .dct l, v, h => by
    unfold Rep at h ⊢
    obtain ⟨a, vs, e1, q, r⟩ := h
    exact ⟨a, vs, e1, e _ _ q, RepK.mono e r⟩
  | .obj c l, v, h => by
    unfold Rep at h ⊢
    obtain ⟨a, C, dx, vs, e1, g, q, r⟩ := h
    exact ⟨a, C, dx, vs, e1, g, e _ _ q, RepF.mono e r⟩
  | .scr l, v, h => by
    unfold Rep at h ⊢
    obtain ⟨a, e1, q⟩ := h
    exact ⟨a, e1, e.sql q⟩
  | .xo, v, h => by unfold Rep at h ⊢; exact h
theorem RepL.mono {F F' : Hp} (e : Le F F') : ∀ {l : List D} {vs : List V}, RepL K G F l vs → RepL K G F' l vs
  | [], vs, h => by unfold RepL at h ⊢; exact h
  | d :: l, vs, h => by
    unfold RepL at h ⊢
    obtain ⟨v, r, e1, h1, h2⟩ := h
    exact ⟨v, r, e1, Rep.mono e h1, RepL.mono e h2⟩
theorem RepK.mono {F F' : Hp} (e : Le F F') : ∀ {l : List (Key × D)} {vs : List (Key × V)}, RepK K G F l vs → RepK K G F' l vs
  | [], vs, h => by unfold RepK at h ⊢; exact h
  | d :: l, vs, h => by
    unfold RepK at h ⊢
    obtain ⟨v, r, e1, h1, h2⟩ := h
    exact ⟨v, r, e1, Rep.mono e h1, RepK.mono e h2⟩
theorem RepF.mono {F F' : Hp} (e : Le F F') : ∀ {l : List (Str × D)} {vs : List (Str × V)}, RepF K G F l vs → RepF K G F' l vs
  | [], vs, h => by unfold RepF at h ⊢; exact h
  | d :: l, vs, h => by
    unfold RepF at h ⊢
    obtain ⟨v, r, e1, h1, h2⟩ := h
    exact ⟨v, r, e1, Rep.mono e h1, RepF.mono e h2⟩
end

theorem band {a b : Bool} (h : (a && b) = true) : a = true ∧ b = true := by simpa using h
mutual
def nox : D → Bool
  | .xo => false
  | .tup l => noxL l
  | .lst l => noxL l
  | .dct l => noxK l
  | .obj _ l => noxF l
  | _ => true
def noxL : List D → Bool
  | [] => true
  | d :: l => nox d && noxL l
def noxK : List (Key × D) → Bool
  | [] => true
  | d :: l => nox d.2 && noxK l
def noxF : List (Str × D) → Bool
  | [] => true
  | d :: l => nox d.2 && noxF l
end
mutual
theorem Rep.ctx {G' : Ctx} (e : G'.cls = G.cls) (t : ∀ a, G.tg 1 = some a → G'.tg 1 = some a) {F : Hp} : ∀ {d : D} {v : V}, Rep K G F d v → Rep K G' F d v
  | .non, v, h => by unfold Rep at h ⊢; exact h
  | .bl b, v, h => by unfold Rep at h ⊢; exact h
  | .int i, v, h => by unfold Rep at h ⊢; exact h
  | .str x, v, h => by unfold Rep at h ⊢; exact h
  | .tup l, v, h => by
    unfold Rep at h ⊢
    obtain ⟨a, vs, e1, q, r⟩ := h
    exact ⟨a, vs, e1, q, RepL.ctx e t r⟩
  | .lst l, v, h => by
    unfold Rep at h ⊢
    obtain ⟨a, vs, e1, q, r⟩ := h
    exact ⟨a, vs, e1, q, RepL.ctx e t r⟩
  | .dct l, v, h => by
    unfold Rep at h ⊢
    obtain ⟨a, vs, e1, q, r⟩ := h
    exact ⟨a, vs, e1, q, RepK.ctx e t r⟩
  | .obj c l, v, h => by
    unfold Rep at h ⊢
    obtain ⟨a, C, dx, vs, e1, g, q, r⟩ := h
    exact ⟨a, C, dx, vs, e1, by rw [e]; exact g, q, RepF.ctx e t r⟩
  | .scr l, v, h => by unfold Rep at h ⊢; exact h
  | .xo, v, h => by
    unfold Rep at h ⊢
    obtain ⟨a, h1, h2⟩ := h
    exact ⟨a, t _ h1, h2⟩
theorem RepL.ctx {G' : Ctx} (e : G'.cls = G.cls) (t : ∀ a, G.tg 1 = some a → G'.tg 1 = some a) {F : Hp} : ∀ {l : List D} {vs : List V}, RepL K G F l vs → RepL K G' F l vs
  | [], vs, h => by unfold RepL at h ⊢; exact h
  | d :: l, vs, h => by
    unfold RepL at h ⊢
    obtain ⟨v, r, e1, h1, h2⟩ := h
    exact ⟨v, r, e1, Rep.ctx e t h1, RepL.ctx e t h2⟩
theorem RepK.ctx {G' : Ctx} (e : G'.cls = G.cls) (t : ∀ a, G.tg 1 = some a → G'.tg 1 = some a) {F : Hp} : ∀ {l : List (Key × D)} {vs : List (Key × V)}, RepK K G F l vs → RepK K G' F l vs
  | [], vs, h => by unfold RepK at h ⊢; exact h
  | d :: l, vs, h => by
    unfold RepK at h ⊢
    obtain ⟨v, r, e1, h1, h2⟩ := h
    exact ⟨v, r, e1, Rep.ctx e t h1, RepK.ctx e t h2⟩
theorem RepF.ctx {G' : Ctx} (e : G'.cls = G.cls) (t : ∀ a, G.tg 1 = some a → G'.tg 1 = some a) {F : Hp} : ∀ {l : List (Str × D)} {vs : List (Str × V)}, RepF K G F l vs → RepF K G' F l vs
  | [], vs, h => by unfold RepF at h ⊢; exact h
  | d :: l, vs, h => by
    unfold RepF at h ⊢
    obtain ⟨v, r, e1, h1, h2⟩ := h
    exact ⟨v, r, e1, Rep.ctx e t h1, RepF.ctx e t h2⟩
end
mutual
theorem Rep.unctx {G' : Ctx} (e : G'.cls = G.cls) {F : Hp} : ∀ {d : D} {v : V}, nox d = true → Rep K G F d v → Rep K G' F d v
  | .non, v, m, h => by unfold Rep at h ⊢; exact h
  | .bl b, v, m, h => by unfold Rep at h ⊢; exact h
  | .int i, v, m, h => by unfold Rep at h ⊢; exact h
  | .str x, v, m, h => by unfold Rep at h ⊢; exact h
  | .tup l, v, m, h => by
    unfold Rep at h ⊢
    unfold nox at m
    obtain ⟨a, vs, e1, q, r⟩ := h
    exact ⟨a, vs, e1, q, RepL.unctx e m r⟩
  | .lst l, v, m, h => by
    unfold Rep at h ⊢
    unfold nox at m
    obtain ⟨a, vs, e1, q, r⟩ := h
    exact ⟨a, vs, e1, q, RepL.unctx e m r⟩
  | .dct l, v, m, h => by
    unfold Rep at h ⊢
    unfold nox at m
    obtain ⟨a, vs, e1, q, r⟩ := h
    exact ⟨a, vs, e1, q, RepK.unctx e m r⟩
  | .obj c l, v, m, h => by
    unfold Rep at h ⊢
    unfold nox at m
    obtain ⟨a, C, dx, vs, e1, g, q, r⟩ := h
    exact ⟨a, C, dx, vs, e1, by rw [e]; exact g, q, RepF.unctx e m r⟩
  | .scr l, v, m, h => by unfold Rep at h ⊢; exact h
  | .xo, v, m, h => by unfold nox at m; cases m
theorem RepL.unctx {G' : Ctx} (e : G'.cls = G.cls) {F : Hp} : ∀ {l : List D} {vs : List V}, noxL l = true → RepL K G F l vs → RepL K G' F l vs
  | [], vs, m, h => by unfold RepL at h ⊢; exact h
  | d :: l, vs, m, h => by
    unfold RepL at h ⊢
    unfold noxL at m
    obtain ⟨v, r, e1, h1, h2⟩ := h
    exact ⟨v, r, e1, Rep.unctx e (band m).1 h1, RepL.unctx e (band m).2 h2⟩
theorem RepK.unctx {G' : Ctx} (e : G'.cls = G.cls) {F : Hp} : ∀ {l : List (Key × D)} {vs : List (Key × V)}, noxK l = true → RepK K G F l vs → RepK K G' F l vs
  | [], vs, m, h => by unfold RepK at h ⊢; exact h
  | d :: l, vs, m, h => by
    unfold RepK at h ⊢
    unfold noxK at m
    obtain ⟨v, r, e1, h1, h2⟩ := h
    exact ⟨v, r, e1, Rep.unctx e (band m).1 h1, RepK.unctx e (band m).2 h2⟩
theorem RepF.unctx {G' : Ctx} (e : G'.cls = G.cls) {F : Hp} : ∀ {l : List (Str × D)} {vs : List (Str × V)}, noxF l = true → RepF K G F l vs → RepF K G' F l vs
  | [], vs, m, h => by unfold RepF at h ⊢; exact h
  | d :: l, vs, m, h => by
    unfold RepF at h ⊢
    unfold noxF at m
    obtain ⟨v, r, e1, h1, h2⟩ := h
    exact ⟨v, r, e1, Rep.unctx e (band m).1 h1, RepF.unctx e (band m).2 h2⟩
end

/-- F2 has all of F but some things that can change -/
def Cut (F F2 : Hp) : Prop := ∀ a o, F a = some o → F2 a = some o ∨ (∃ xs, o = .lst xs) ∨ (∃ C dx fs, o = .ins C dx fs) ∨ ∃ ps, o = .dK ps
theorem Cut.xt {K : PySem.W.Frag} {F F2 : Hp} (e : Cut F F2) {a : Addr} {xs : List V} (h : XT K F a xs) : XT K F2 a xs := by
  rcases h with ⟨o, h, d⟩ | h
  · rcases e _ _ h with z | ⟨xs, z⟩ | ⟨_, _, _, z⟩ | ⟨_, z⟩
    · exact .inl ⟨o, z, d⟩
    all_goals cases z
  · exact .inr h
mutual
theorem Rep.cut {F F2 : Hp} (e : Cut F F2) : ∀ {d : D} {v : V}, Rep K G F d v → imm d = true → Rep K G F2 d v
  | .non, v, h, _ => by unfold Rep at h ⊢; exact h
  | .bl b, v, h, _ => by unfold Rep at h ⊢; exact h
  | .int i, v, h, _ => by unfold Rep at h ⊢; exact h
  | .str x, v, h, _ => by unfold Rep at h ⊢; exact h
  | .tup l, v, h, m => by
    unfold Rep at h ⊢
    unfold imm at m
    obtain ⟨a, vs, e1, q, r⟩ := h
    exact ⟨a, vs, e1, e.xt q, RepL.cut e r m⟩
  | .lst l, v, h, m => by unfold imm at m; cases m
  | .dct l, v, h, m => by unfold imm at m; cases m
  | .obj c l, v, h, m => by unfold imm at m; cases m
  | .scr l, v, h, m => by unfold imm at m; cases m
  | .xo, v, h, m => by unfold imm at m; cases m
theorem RepL.cut {F F2 : Hp} (e : Cut F F2) : ∀ {l : List D} {vs : List V}, RepL K G F l vs → immL l = true → RepL K G F2 l vs
  | [], vs, h, _ => by unfold RepL at h ⊢; exact h
  | d :: l, vs, h, m => by
    unfold RepL at h ⊢
    unfold immL at m
    obtain ⟨v, r, e1, h1, h2⟩ := h
    exact ⟨v, r, e1, Rep.cut e h1 (band m).1, RepL.cut e h2 (band m).2⟩
end
theorem RepK.cut {F F2 : Hp} (e : Cut F F2) : ∀ {l : List (Key × D)} {vs : List (Key × V)}, RepK K G F l vs → immK l = true → RepK K G F2 l vs
  | [], vs, h, _ => by unfold RepK at h ⊢; exact h
  | d :: l, vs, h, m => by
    unfold RepK at h ⊢
    unfold immK at m
    obtain ⟨v, r, e1, h1, h2⟩ := h
    exact ⟨v, r, e1, Rep.cut e h1 (band m).1, RepK.cut e h2 (band m).2⟩
theorem RepF.cut {F F2 : Hp} (e : Cut F F2) : ∀ {l : List (Str × D)} {vs : List (Str × V)}, RepF K G F l vs → immF l = true → RepF K G F2 l vs
  | [], vs, h, _ => by unfold RepF at h ⊢; exact h
  | d :: l, vs, h, m => by
    unfold RepF at h ⊢
    unfold immF at m
    obtain ⟨v, r, e1, h1, h2⟩ := h
    exact ⟨v, r, e1, Rep.cut e h1 (band m).1, RepF.cut e h2 (band m).2⟩

theorem Rep.non {F : Hp} {v : V} : Rep K G F .non v ↔ v = .non := by unfold Rep; exact Iff.rfl
theorem Rep.bl {F : Hp} {v : V} {b : Bool} : Rep K G F (.bl b) v ↔ v = .bl b := by unfold Rep; exact Iff.rfl
theorem Rep.int {F : Hp} {v : V} {b : Int} : Rep K G F (.int b) v ↔ v = .int b := by unfold Rep; exact Iff.rfl
theorem Rep.str {F : Hp} {v : V} {b : Str} : Rep K G F (.str b) v ↔ v = .str b := by unfold Rep; exact Iff.rfl
theorem Rep.tup {F : Hp} {v : V} {l : List D} : Rep K G F (.tup l) v ↔ ∃ a vs, v = .ref a ∧ XT K F a vs ∧ RepL K G F l vs := by
  conv => lhs; unfold Rep
theorem Rep.lst {F : Hp} {v : V} {l : List D} : Rep K G F (.lst l) v ↔ ∃ a vs, v = .ref a ∧ F a = some (.lst vs) ∧ RepL K G F l vs := by
  conv => lhs; unfold Rep
theorem Rep.dct {F : Hp} {v : V} {l : List (Key × D)} : Rep K G F (.dct l) v ↔ ∃ a vs, v = .ref a ∧ F a = some (.dK vs) ∧ RepK K G F l vs := by
  conv => lhs; unfold Rep
theorem Rep.obj {F : Hp} {v : V} {c : Str} {l : List (Str × D)} : Rep K G F (.obj c l) v ↔ ∃ a C dx vs, v = .ref a ∧ G.cls c = some C ∧ F a = some (.ins C dx vs) ∧ RepF K G F l vs := by
  conv => lhs; unfold Rep
theorem Rep.scr {F : Hp} {v : V} {l : List Int} : Rep K G F (.scr l) v ↔ ∃ a, v = .ref a ∧ SqL K F a (l.map V.int) := by
  conv => lhs; unfold Rep
theorem Rep.xo {F : Hp} {v : V} : Rep K G F .xo v ↔ ∃ a, G.tg 1 = some a ∧ v = .ref a := by unfold Rep; exact Iff.rfl
theorem RepL.nil {F : Hp} {vs : List V} : RepL K G F [] vs ↔ vs = [] := by unfold RepL; exact Iff.rfl
theorem RepL.cons {F : Hp} {vs : List V} {d : D} {l : List D} : RepL K G F (d :: l) vs ↔ ∃ v r, vs = v :: r ∧ Rep K G F d v ∧ RepL K G F l r := by
  conv => lhs; unfold RepL
theorem RepL.length {F : Hp} : ∀ {l : List D} {vs : List V}, RepL K G F l vs → vs.length = l.length
  | [], vs, h => by rw [RepL.nil.mp h]; rfl
  | d :: l, vs, h => by
    obtain ⟨v, r, rfl, _, h2⟩ := RepL.cons.mp h
    rw [List.length_cons, List.length_cons, RepL.length h2]
theorem RepL.get {F : Hp} : ∀ {l : List D} {vs : List V} {i : Nat} {v : V}, RepL K G F l vs → vs[i]? = some v → ∃ d, l[i]? = some d ∧ Rep K G F d v
  | [], vs, i, v, h, e => by rw [RepL.nil.mp h] at e; simp at e
  | d :: l, vs, i, v, h, e => by
    obtain ⟨w, r, rfl, h1, h2⟩ := RepL.cons.mp h
    cases i with
    | zero => simp at e; subst e; exact ⟨d, rfl, h1⟩
    | succ i => exact RepL.get (i := i) h2 (by simpa using e)
theorem RepL.getD {F : Hp} : ∀ {l : List D} {vs : List V} {i : Nat} {d : D}, RepL K G F l vs → l[i]? = some d → ∃ v, vs[i]? = some v ∧ Rep K G F d v
  | [], vs, i, d, h, e => by simp at e
  | d' :: l, vs, i, d, h, e => by
    obtain ⟨w, r, rfl, h1, h2⟩ := RepL.cons.mp h
    cases i with
    | zero => simp at e; subst e; exact ⟨w, rfl, h1⟩
    | succ i =>
      obtain ⟨v, e1, q⟩ := RepL.getD (i := i) h2 (by simpa using e)
      exact ⟨v, by simpa using e1, q⟩
theorem RepL.append {F : Hp} : ∀ {l : List D} {vs : List V} {l' : List D} {vs' : List V}, RepL K G F l vs → RepL K G F l' vs' → RepL K G F (l ++ l') (vs ++ vs')
  | [], vs, l', vs', h, h' => by rw [RepL.nil.mp h]; exact h'
  | d :: l, vs, l', vs', h, h' => by
    obtain ⟨w, r, rfl, h1, h2⟩ := RepL.cons.mp h
    exact RepL.cons.mpr ⟨w, r ++ vs', rfl, h1, RepL.append h2 h'⟩
theorem RepL.one {F : Hp} {d : D} {v : V} (h : Rep K G F d v) : RepL K G F [d] [v] := RepL.cons.mpr ⟨v, [], rfl, h, RepL.nil.mpr rfl⟩
theorem RepL.take {F : Hp} : ∀ (n : Nat) {l : List D} {vs : List V}, RepL K G F l vs → RepL K G F (l.take n) (vs.take n)
  | 0, l, vs, h => by simp [RepL.nil]
  | n + 1, [], vs, h => by rw [RepL.nil.mp h]; simp [RepL.nil]
  | n + 1, d :: l, vs, h => by
    obtain ⟨w, r, rfl, h1, h2⟩ := RepL.cons.mp h
    exact RepL.cons.mpr ⟨w, r.take n, rfl, h1, RepL.take n h2⟩
theorem RepL.drop {F : Hp} : ∀ (n : Nat) {l : List D} {vs : List V}, RepL K G F l vs → RepL K G F (l.drop n) (vs.drop n)
  | 0, l, vs, h => h
  | n + 1, [], vs, h => by rw [RepL.nil.mp h]; simp [RepL.nil]
  | n + 1, d :: l, vs, h => by
    obtain ⟨w, r, rfl, h1, h2⟩ := RepL.cons.mp h
    exact RepL.drop n h2
theorem RepL.set {F : Hp} {d : D} {v : V} (q : Rep K G F d v) : ∀ (n : Nat) {l : List D} {vs : List V}, RepL K G F l vs → RepL K G F (l.set n d) (vs.set n v)
  | n, [], vs, h => by rw [RepL.nil.mp h]; simp [RepL.nil]
  | 0, d' :: l, vs, h => by
    obtain ⟨w, r, rfl, h1, h2⟩ := RepL.cons.mp h
    exact RepL.cons.mpr ⟨v, r, rfl, q, h2⟩
  | n + 1, d' :: l, vs, h => by
    obtain ⟨w, r, rfl, h1, h2⟩ := RepL.cons.mp h
    exact RepL.cons.mpr ⟨w, r.set n v, rfl, h1, RepL.set q n h2⟩
theorem RepL.eraseIdx {F : Hp} : ∀ (n : Nat) {l : List D} {vs : List V}, RepL K G F l vs → RepL K G F (l.eraseIdx n) (vs.eraseIdx n)
  | n, [], vs, h => by rw [RepL.nil.mp h]; simp [RepL.nil]
  | 0, d' :: l, vs, h => by
    obtain ⟨w, r, rfl, h1, h2⟩ := RepL.cons.mp h
    exact h2
  | n + 1, d' :: l, vs, h => by
    obtain ⟨w, r, rfl, h1, h2⟩ := RepL.cons.mp h
    exact RepL.cons.mpr ⟨w, r.eraseIdx n, rfl, h1, RepL.eraseIdx n h2⟩
theorem RepL.ints {F : Hp} : ∀ (l : List Int), RepL K G F (l.map D.int) (l.map V.int)
  | [] => RepL.nil.mpr rfl
  | i :: l => RepL.cons.mpr ⟨.int i, l.map V.int, rfl, Rep.int.mpr rfl, RepL.ints l⟩
theorem RepL.ints_of {F : Hp} : ∀ {l : List Int} {vs : List V}, RepL K G F (l.map D.int) vs → vs = l.map V.int
  | [], vs, h => RepL.nil.mp h
  | i :: l, vs, h => by
    obtain ⟨w, r, rfl, h1, h2⟩ := RepL.cons.mp h
    rw [Rep.int.mp h1, RepL.ints_of h2]; rfl
theorem RepL.isEmpty {F : Hp} {l : List D} {vs : List V} (h : RepL K G F l vs) : vs.isEmpty = l.isEmpty := by
  cases l with
  | nil => rw [RepL.nil.mp h]; rfl
  | cons d l => obtain ⟨w, r, rfl, _⟩ := RepL.cons.mp h; rfl
end

/-! ### how the two heaps grow -/
structure Ext (F H F' H' : Hp) : Prop where
  le : Le F H
  h : Le H H'
  f : Le F F'
  fh : Le F' H'
  fr : ∀ a o, F' a = some o → F a = some o ∨ H a = none
theorem Ext.refl {F H : Hp} (e : Le F H) : Ext F H F H := ⟨e, .refl H, .refl F, e, fun _ _ h => .inl h⟩
theorem Ext.trans {F H F1 H1 F2 H2 : Hp} (a : Ext F H F1 H1) (b : Ext F1 H1 F2 H2) : Ext F H F2 H2 :=
  ⟨a.le, a.h.trans b.h, a.f.trans b.f, b.fh, fun x o h => (b.fr x o h).elim (fun q => a.fr x o q) fun q => .inr (a.h.free q)⟩
theorem Le.new {H : Hp} {p : Addr} {o : HO} (h : H p = none) : Le H (upd H p o) := fun a u e => by
  rw [upd_ne (ne_of_none e h)]; exact e
theorem Le.both {F H : Hp} (e : Le F H) {p : Addr} {o : HO} : Le (upd F p o) (upd H p o) := fun a u h => by
  by_cases q : a = p
  · subst q; rw [upd_same] at h ⊢; exact h
  · rw [upd_ne q] at h ⊢; exact e a u h
/-- a new object, frozen at once -/
theorem Ext.new {F H F1 H1 : Hp} (e : Ext F H F1 H1) {p : Addr} {o : HO} (h : H1 p = none) : Ext F H (upd F1 p o) (upd H1 p o) :=
  e.trans ⟨e.fh, Le.new h, Le.new (e.fh.free h), e.fh.both, fun a u q => by
    by_cases z : a = p
    · subst z; exact .inr h
    · rw [upd_ne z] at q; exact .inl q⟩
/-- a new object, not frozen -/
theorem Ext.newU {F H F1 H1 : Hp} (e : Ext F H F1 H1) {p : Addr} {o : HO} (h : H1 p = none) : Ext F H F1 (upd H1 p o) :=
  e.trans ⟨e.fh, Le.new h, .refl F1, e.fh.trans (Le.new h), fun a u q => .inl q⟩
/-- an object that stands there and is new, frozen -/
theorem Ext.freeze {F H F1 H1 : Hp} (e : Ext F H F1 H1) {p : Addr} {o : HO} (h : H1 p = some o) (hn : H p = none) (hf : F1 p = none) : Ext F H (upd F1 p o) H1 :=
  ⟨e.le, e.h, e.f.trans (Le.new hf),
    fun a u q => by
      by_cases z : a = p
      · subst z; rw [upd_same] at q; cases q; exact h
      · rw [upd_ne z] at q; exact e.fh a u q,
    fun a u q => by
      by_cases z : a = p
      · subst z; exact .inr hn
      · rw [upd_ne z] at q; exact e.fr a u q⟩
/-- an unfrozen object that is new is changed -/
theorem Ext.write {F H F1 H1 : Hp} (e : Ext F H F1 H1) {p : Addr} {o : HO} (hn : H p = none) (hf : F1 p = none) : Ext F H F1 (upd H1 p o) :=
  ⟨e.le, fun a u q => by rw [upd_ne (ne_of_none q hn)]; exact e.h a u q, e.f, fun a u q => by rw [upd_ne (ne_of_none q hf)]; exact e.fh a u q, e.fr⟩

/-! ### results -/
/-- what a slot alone holds -/
inductive T where
  | lf (d : D)
  | ls (l : List T)
  | ob (c : Str) (fs : List (Str × D))
  | dc (l : List (Key × D))
mutual
def T.d : T → D
  | .lf d => d
  | .ls l => .lst (T.ds l)
  | .ob c fs => .obj c fs
  | .dc l => .dct l
def T.ds : List T → List D
  | [] => []
  | t :: l => t.d :: T.ds l
end
mutual
def immT : T → Bool
  | .lf d => imm d
  | .ls l => immTL l
  | .ob _ fs => immF fs
  | .dc l => immK l
def immTL : List T → Bool
  | [] => true
  | t :: l => immT t && immTL l
end
/-- a slot: data that is frozen, a new list that only this slot holds, or such a thing of another kind (with a mark, where it lies is known) -/
inductive S where
  | fz (d : D)
  | ow (l : List D)
  | tr (k : Option Nat) (t : T)
abbrev S.d : S → D
  | .fz d => d
  | .ow l => .lst l
  | .tr _ t => t.d
abbrev immS : S → Bool
  | .fz d => imm d
  | .ow l => immL l
  | .tr _ t => immT t
inductive R (α : Type) where
  | ok (a : α)
  | ex (c : Str) (fs : List (Str × D))
  | no
abbrev R.bind {α β : Type} (r : R α) (f : α → R β) : R β := match r with
  | .ok a => f a
  | .ex c fs => .ex c fs
  | .no => .no
abbrev RS := R S

section
variable (K : PySem.W.Frag) (G : Ctx)
/-! the places that are owned -/
mutual
def FootT (H : Hp) : T → V → Addr → Prop
  | .lf _, _, _ => False
  | .ls l, v, a => v = .ref a ∨ ∃ p vs, v = .ref p ∧ H p = some (.lst vs) ∧ FootL H l vs a
  | .ob _ _, v, a => v = .ref a
  | .dc _, v, a => v = .ref a
def FootL (H : Hp) : List T → List V → Addr → Prop
  | [], _, _ => False
  | t :: l, vs, a => ∃ v r, vs = v :: r ∧ (FootT H t v a ∨ FootL H l r a)
end
def FootS (H : Hp) : S → V → Addr → Prop
  | .fz _, _, _ => False
  | .ow _, v, a => v = .ref a
  | .tr _ t, v, a => FootT H t v a
mutual
def RepT (F H0 H : Hp) : T → V → Prop
  | .lf d, v => Rep K G F d v
  | .ls l, v => ∃ p vs, v = .ref p ∧ H p = some (.lst vs) ∧ H0 p = none ∧ F p = none ∧ ¬ FootL H l vs p ∧ RepTL F H0 H l vs
  | .ob c fs, v => ∃ p C dx vs, v = .ref p ∧ G.cls c = some C ∧ H p = some (.ins C dx vs) ∧ H0 p = none ∧ F p = none ∧ RepF K G F fs vs
  | .dc l, v => ∃ p vs, v = .ref p ∧ H p = some (.dK vs) ∧ H0 p = none ∧ F p = none ∧ RepK K G F l vs
def RepTL (F H0 H : Hp) : List T → List V → Prop
  | [], vs => vs = []
  | t :: l, vs => ∃ v r, vs = v :: r ∧ RepT F H0 H t v ∧ (∀ a, FootT H t v a → ¬ FootL H l r a) ∧ RepTL F H0 H l r
end
/-- H0: the heap ahead -/
def RepS (F H0 H' : Hp) : S → V → Prop
  | .fz d, v => Rep K G F d v
  | .ow l, v => ∃ p vs, v = .ref p ∧ H' p = some (.lst vs) ∧ H0 p = none ∧ F p = none ∧ RepL K G F l vs
  | .tr k t, v => (∀ n, k = some n → ∃ a, G.tg n = some a ∧ v = .ref a) ∧ RepT K G F H0 H' t v
def RepX (F : Hp) (c : Str) (fs : List (Str × D)) (cls : Value) (d : Option Addr) : Prop :=
  ∃ C dd vs, cls = .ref C ∧ G.cls c = some C ∧ d = some dd ∧ F dd = some (.xd vs) ∧ ∀ f d, (f, d) ∈ fs → ∃ v, vs.lookup f = some v ∧ Rep K G F d v
def PostS (F H : Hp) (r : RS) (Q : VK) (E : XK) : Prop := match r with
  | .ok s => ∀ v H' F', Ext F H F' H' → RepS K G F' H H' s v → Q v H'
  | .ex c fs => ∀ cls d H' F', Ext F H F' H' → RepX K G F' c fs cls d → E cls d H'
  | .no => False
def Post {α β : Type} (Rp : Hp → α → β → Prop) (F H : Hp) (r : R α) (Q : β → Hp → Prop) (E : XK) : Prop := match r with
  | .ok s => ∀ v H' F', Ext F H F' H' → Rp F' s v → Q v H'
  | .ex c fs => ∀ cls d H' F', Ext F H F' H' → RepX K G F' c fs cls d → E cls d H'
  | .no => False
abbrev Env := List (Option D)
structure REnv (F : Hp) (σ : L2.St) (ρ : Env) : Prop where
  len : σ.length = ρ.length
  val : ∀ (i : Nat) (d : D), ρ[i]? = some (some d) → ∃ v, σ[i]? = some (some v) ∧ Rep K G F d v
  m : G.m F
end
section
variable {K : PySem.W.Frag} {G : Ctx}
theorem REnv.mono {F F' : Hp} (e : Le F F') {σ : L2.St} {ρ : Env} (h : REnv K G F σ ρ) : REnv K G F' σ ρ :=
  ⟨h.len, fun i d q => let ⟨v, e1, r⟩ := h.val i d q; ⟨v, e1, r.mono e⟩, G.up _ _ e h.m⟩
/-! ### owned things: the laws -/
theorem FootT.lf {H : Hp} {d : D} {v : V} {a : Addr} : FootT H (.lf d) v a ↔ False := by unfold FootT; exact Iff.rfl
theorem FootT.ls {H : Hp} {l : List T} {v : V} {a : Addr} : FootT H (.ls l) v a ↔ v = .ref a ∨ ∃ p vs, v = .ref p ∧ H p = some (.lst vs) ∧ FootL H l vs a := by
  conv => lhs; unfold FootT
theorem FootT.ob {H : Hp} {c : Str} {fs : List (Str × D)} {v : V} {a : Addr} : FootT H (.ob c fs) v a ↔ v = .ref a := by unfold FootT; exact Iff.rfl
theorem FootT.dc {H : Hp} {l : List (Key × D)} {v : V} {a : Addr} : FootT H (.dc l) v a ↔ v = .ref a := by unfold FootT; exact Iff.rfl
theorem FootL.nil {H : Hp} {vs : List V} {a : Addr} : FootL H [] vs a ↔ False := by unfold FootL; exact Iff.rfl
theorem FootL.cons {H : Hp} {t : T} {l : List T} {vs : List V} {a : Addr} : FootL H (t :: l) vs a ↔ ∃ v r, vs = v :: r ∧ (FootT H t v a ∨ FootL H l r a) := by
  conv => lhs; unfold FootL
theorem FootL.cons' {H : Hp} {t : T} {l : List T} {v : V} {r : List V} {a : Addr} : FootL H (t :: l) (v :: r) a ↔ (FootT H t v a ∨ FootL H l r a) := by
  rw [FootL.cons]
  constructor
  · rintro ⟨_, _, e, h⟩
    cases e
    exact h
  · exact fun h => ⟨v, r, rfl, h⟩
theorem RepT.lf {F H0 H : Hp} {d : D} {v : V} : RepT K G F H0 H (.lf d) v ↔ Rep K G F d v := by unfold RepT; exact Iff.rfl
theorem RepT.ls {F H0 H : Hp} {l : List T} {v : V} : RepT K G F H0 H (.ls l) v ↔ ∃ p vs, v = .ref p ∧ H p = some (.lst vs) ∧ H0 p = none ∧ F p = none ∧ ¬ FootL H l vs p ∧ RepTL K G F H0 H l vs := by
  conv => lhs; unfold RepT
theorem RepT.ob {F H0 H : Hp} {c : Str} {fs : List (Str × D)} {v : V} : RepT K G F H0 H (.ob c fs) v ↔ ∃ p C dx vs, v = .ref p ∧ G.cls c = some C ∧ H p = some (.ins C dx vs) ∧ H0 p = none ∧ F p = none ∧ RepF K G F fs vs := by
  conv => lhs; unfold RepT
theorem RepT.dc {F H0 H : Hp} {l : List (Key × D)} {v : V} : RepT K G F H0 H (.dc l) v ↔ ∃ p vs, v = .ref p ∧ H p = some (.dK vs) ∧ H0 p = none ∧ F p = none ∧ RepK K G F l vs := by
  conv => lhs; unfold RepT
theorem RepTL.nil {F H0 H : Hp} {vs : List V} : RepTL K G F H0 H [] vs ↔ vs = [] := by unfold RepTL; exact Iff.rfl
theorem RepTL.cons {F H0 H : Hp} {t : T} {l : List T} {vs : List V} : RepTL K G F H0 H (t :: l) vs ↔ ∃ v r, vs = v :: r ∧ RepT K G F H0 H t v ∧ (∀ a, FootT H t v a → ¬ FootL H l r a) ∧ RepTL K G F H0 H l r := by
  conv => lhs; unfold RepTL
/-- a thing that can change -/
def Mut (o : HO) : Prop := (∃ xs, o = .lst xs) ∨ (∃ C dx fs, o = .ins C dx fs) ∨ ∃ ps, o = .dK ps
mutual
theorem RepT.own {F H0 H : Hp} : ∀ {t : T} {v : V} {a : Addr}, RepT K G F H0 H t v → FootT H t v a → ∃ o, H a = some o ∧ Mut o ∧ H0 a = none ∧ F a = none
  | .lf d, v, a, _, h => (FootT.lf.mp h).elim
  | .ls l, v, a, r, h => by
    obtain ⟨p, vs, rfl, h1, h2, h3, _, r⟩ := RepT.ls.mp r
    rcases FootT.ls.mp h with e | ⟨p', vs', e, q, h⟩
    · cases e
      exact ⟨_, h1, .inl ⟨_, rfl⟩, h2, h3⟩
    · cases e
      rw [h1] at q
      cases q
      exact RepTL.own r h
  | .ob c fs, v, a, r, h => by
    obtain ⟨p, C, dx, vs, rfl, _, h1, h2, h3, _⟩ := RepT.ob.mp r
    cases FootT.ob.mp h
    exact ⟨_, h1, .inr (.inl ⟨_, _, _, rfl⟩), h2, h3⟩
  | .dc l, v, a, r, h => by
    obtain ⟨p, vs, rfl, h1, h2, h3, _⟩ := RepT.dc.mp r
    cases FootT.dc.mp h
    exact ⟨_, h1, .inr (.inr ⟨_, rfl⟩), h2, h3⟩
theorem RepTL.own {F H0 H : Hp} : ∀ {l : List T} {vs : List V} {a : Addr}, RepTL K G F H0 H l vs → FootL H l vs a → ∃ o, H a = some o ∧ Mut o ∧ H0 a = none ∧ F a = none
  | [], vs, a, _, h => (FootL.nil.mp h).elim
  | t :: l, vs, a, r, h => by
    obtain ⟨v, r', rfl, h1, _, h2⟩ := RepTL.cons.mp r
    rcases FootL.cons'.mp h with h | h
    · exact RepT.own h1 h
    · exact RepTL.own h2 h
end
mutual
/-- the same at heaps that agree where it stands -/
theorem RepT.move {F H0 H F1 H1 H2 : Hp} (le : Le F F1) (l0 : Le H2 H0) : ∀ {t : T} {v : V}, RepT K G F H0 H t v → (∀ a, FootT H t v a → H1 a = H a ∧ F1 a = none) → RepT K G F1 H2 H1 t v ∧ ∀ a, FootT H1 t v a ↔ FootT H t v a
  | .lf d, v, r, _ => ⟨RepT.lf.mpr ((RepT.lf.mp r).mono le), fun a => by rw [FootT.lf, FootT.lf]⟩
  | .ls l, v, r, h => by
    obtain ⟨p, vs, rfl, h1, h2, h3, h4, r⟩ := RepT.ls.mp r
    obtain ⟨r1, ft⟩ := RepTL.move le l0 r fun a q => h a (FootT.ls.mpr (.inr ⟨p, vs, rfl, h1, q⟩))
    obtain ⟨e1, e2⟩ := h p (FootT.ls.mpr (.inl rfl))
    refine ⟨RepT.ls.mpr ⟨p, vs, rfl, by rw [e1]; exact h1, l0.free h2, e2, fun q => h4 ((ft p).mp q), r1⟩, fun a => ?_⟩
    rw [FootT.ls, FootT.ls]
    refine or_congr Iff.rfl ⟨fun ⟨q, ws, e, z, f⟩ => ?_, fun ⟨q, ws, e, z, f⟩ => ?_⟩
    · cases e
      rw [e1] at z
      rw [h1] at z
      cases z
      exact ⟨p, vs, rfl, h1, (ft a).mp f⟩
    · cases e
      rw [h1] at z
      cases z
      exact ⟨p, vs, rfl, by rw [e1]; exact h1, (ft a).mpr f⟩
  | .ob c fs, v, r, h => by
    obtain ⟨p, C, dx, vs, rfl, g, h1, h2, h3, r⟩ := RepT.ob.mp r
    obtain ⟨e1, e2⟩ := h p (FootT.ob.mpr rfl)
    exact ⟨RepT.ob.mpr ⟨p, C, dx, vs, rfl, g, by rw [e1]; exact h1, l0.free h2, e2, r.mono le⟩, fun a => by rw [FootT.ob, FootT.ob]⟩
  | .dc l, v, r, h => by
    obtain ⟨p, vs, rfl, h1, h2, h3, r⟩ := RepT.dc.mp r
    obtain ⟨e1, e2⟩ := h p (FootT.dc.mpr rfl)
    exact ⟨RepT.dc.mpr ⟨p, vs, rfl, by rw [e1]; exact h1, l0.free h2, e2, r.mono le⟩, fun a => by rw [FootT.dc, FootT.dc]⟩
theorem RepTL.move {F H0 H F1 H1 H2 : Hp} (le : Le F F1) (l0 : Le H2 H0) : ∀ {l : List T} {vs : List V}, RepTL K G F H0 H l vs → (∀ a, FootL H l vs a → H1 a = H a ∧ F1 a = none) → RepTL K G F1 H2 H1 l vs ∧ ∀ a, FootL H1 l vs a ↔ FootL H l vs a
  | [], vs, r, _ => ⟨RepTL.nil.mpr (RepTL.nil.mp r), fun a => by rw [FootL.nil, FootL.nil]⟩
  | t :: l, vs, r, h => by
    obtain ⟨v, r', rfl, h1, h3, h2⟩ := RepTL.cons.mp r
    obtain ⟨q1, f1⟩ := RepT.move le l0 h1 fun a q => h a (FootL.cons'.mpr (.inl q))
    obtain ⟨q2, f2⟩ := RepTL.move le l0 h2 fun a q => h a (FootL.cons'.mpr (.inr q))
    refine ⟨RepTL.cons.mpr ⟨v, r', rfl, q1, fun a x y => h3 a ((f1 a).mp x) ((f2 a).mp y), q2⟩, fun a => ?_⟩
    rw [FootL.cons', FootL.cons', f1, f2]
end
mutual
/-- frozen -/
theorem RepT.frz {F H0 H F1 : Hp} (le : Le F F1) : ∀ {t : T} {v : V}, RepT K G F H0 H t v → (∀ a, FootT H t v a → F1 a = H a) → Rep K G F1 t.d v
  | .lf d, v, r, _ => by unfold T.d; exact (RepT.lf.mp r).mono le
  | .ls l, v, r, h => by
    obtain ⟨p, vs, rfl, h1, h2, h3, h4, r⟩ := RepT.ls.mp r
    unfold T.d
    exact Rep.lst.mpr ⟨p, vs, rfl, by rw [h p (FootT.ls.mpr (.inl rfl))]; exact h1, RepTL.frz le r fun a q => h a (FootT.ls.mpr (.inr ⟨p, vs, rfl, h1, q⟩))⟩
  | .ob c fs, v, r, h => by
    obtain ⟨p, C, dx, vs, rfl, g, h1, h2, h3, r⟩ := RepT.ob.mp r
    unfold T.d
    exact Rep.obj.mpr ⟨p, C, dx, vs, rfl, g, by rw [h p (FootT.ob.mpr rfl)]; exact h1, r.mono le⟩
  | .dc l, v, r, h => by
    obtain ⟨p, vs, rfl, h1, h2, h3, r⟩ := RepT.dc.mp r
    unfold T.d
    exact Rep.dct.mpr ⟨p, vs, rfl, by rw [h p (FootT.dc.mpr rfl)]; exact h1, r.mono le⟩
theorem RepTL.frz {F H0 H F1 : Hp} (le : Le F F1) : ∀ {l : List T} {vs : List V}, RepTL K G F H0 H l vs → (∀ a, FootL H l vs a → F1 a = H a) → RepL K G F1 (T.ds l) vs
  | [], vs, r, _ => by unfold T.ds; exact RepL.nil.mpr (RepTL.nil.mp r)
  | t :: l, vs, r, h => by
    obtain ⟨v, r', rfl, h1, h3, h2⟩ := RepTL.cons.mp r
    unfold T.ds
    exact RepL.cons.mpr ⟨v, r', rfl, RepT.frz le h1 fun a q => h a (FootL.cons'.mpr (.inl q)), RepTL.frz le h2 fun a q => h a (FootL.cons'.mpr (.inr q))⟩
end
mutual
theorem RepT.cut {F H0 H F2 : Hp} (c : Cut F F2) (le : Le F2 F) : ∀ {t : T} {v : V}, RepT K G F H0 H t v → immT t = true → RepT K G F2 H0 H t v
  | .lf d, v, r, m => RepT.lf.mpr ((RepT.lf.mp r).cut c (by unfold immT at m; exact m))
  | .ls l, v, r, m => by
    obtain ⟨p, vs, rfl, h1, h2, h3, h4, r⟩ := RepT.ls.mp r
    exact RepT.ls.mpr ⟨p, vs, rfl, h1, h2, le.free h3, h4, RepTL.cut c le r (by unfold immT at m; exact m)⟩
  | .ob k fs, v, r, m => by
    obtain ⟨p, C, dx, vs, rfl, g, h1, h2, h3, r⟩ := RepT.ob.mp r
    exact RepT.ob.mpr ⟨p, C, dx, vs, rfl, g, h1, h2, le.free h3, r.cut c (by unfold immT at m; exact m)⟩
  | .dc l, v, r, m => by
    obtain ⟨p, vs, rfl, h1, h2, h3, r⟩ := RepT.dc.mp r
    exact RepT.dc.mpr ⟨p, vs, rfl, h1, h2, le.free h3, r.cut c (by unfold immT at m; exact m)⟩
theorem RepTL.cut {F H0 H F2 : Hp} (c : Cut F F2) (le : Le F2 F) : ∀ {l : List T} {vs : List V}, RepTL K G F H0 H l vs → immTL l = true → RepTL K G F2 H0 H l vs
  | [], vs, r, _ => RepTL.nil.mpr (RepTL.nil.mp r)
  | t :: l, vs, r, m => by
    unfold immTL at m
    obtain ⟨v, r', rfl, h1, h3, h2⟩ := RepTL.cons.mp r
    exact RepTL.cons.mpr ⟨v, r', rfl, RepT.cut c le h1 (band m).1, h3, RepTL.cut c le h2 (band m).2⟩
end
mutual
theorem RepT.ctx {G' : Ctx} (e : G'.cls = G.cls) (t : ∀ a, G.tg 1 = some a → G'.tg 1 = some a) {F H0 H : Hp} : ∀ {u : T} {v : V}, RepT K G F H0 H u v → RepT K G' F H0 H u v
  | .lf d, v, r => RepT.lf.mpr ((RepT.lf.mp r).ctx e t)
  | .ls l, v, r => by
    obtain ⟨p, vs, rfl, h1, h2, h3, h4, r⟩ := RepT.ls.mp r
    exact RepT.ls.mpr ⟨p, vs, rfl, h1, h2, h3, h4, RepTL.ctx e t r⟩
  | .ob k fs, v, r => by
    obtain ⟨p, C, dx, vs, rfl, g, h1, h2, h3, r⟩ := RepT.ob.mp r
    exact RepT.ob.mpr ⟨p, C, dx, vs, rfl, by rw [e]; exact g, h1, h2, h3, r.ctx e t⟩
  | .dc l, v, r => by
    obtain ⟨p, vs, rfl, h1, h2, h3, r⟩ := RepT.dc.mp r
    exact RepT.dc.mpr ⟨p, vs, rfl, h1, h2, h3, r.ctx e t⟩
theorem RepTL.ctx {G' : Ctx} (e : G'.cls = G.cls) (t : ∀ a, G.tg 1 = some a → G'.tg 1 = some a) {F H0 H : Hp} : ∀ {l : List T} {vs : List V}, RepTL K G F H0 H l vs → RepTL K G' F H0 H l vs
  | [], vs, r => RepTL.nil.mpr (RepTL.nil.mp r)
  | u :: l, vs, r => by
    obtain ⟨v, r', rfl, h1, h3, h2⟩ := RepTL.cons.mp r
    exact RepTL.cons.mpr ⟨v, r', rfl, RepT.ctx e t h1, h3, RepTL.ctx e t h2⟩
end
theorem RepS.ctx {G' : Ctx} (e : G'.cls = G.cls) (t : ∀ n a, G.tg n = some a → G'.tg n = some a) {F H0 H : Hp} {s : S} {v : V} (r : RepS K G F H0 H s v) : RepS K G' F H0 H s v := by
  cases s with
  | fz d => exact Rep.ctx e (t 1) r
  | ow l =>
    obtain ⟨p, vs, rfl, h1, h2, h3, rl⟩ := r
    exact ⟨p, vs, rfl, h1, h2, h3, rl.ctx e (t 1)⟩
  | tr k u => exact ⟨fun n q => let ⟨a, h1, h2⟩ := r.1 n q; ⟨a, t _ _ h1, h2⟩, r.2.ctx e (t 1)⟩
def noxS : S → Bool
  | .fz d => nox d
  | .ow l => noxL l
  | .tr _ _ => false
theorem RepS.unctx {G' : Ctx} (e : G'.cls = G.cls) {F H0 H : Hp} {s : S} {v : V} (m : noxS s = true) (r : RepS K G F H0 H s v) : RepS K G' F H0 H s v := by
  cases s with
  | fz d => exact Rep.unctx e m r
  | ow l =>
    obtain ⟨p, vs, rfl, h1, h2, h3, rl⟩ := r
    exact ⟨p, vs, rfl, h1, h2, h3, rl.unctx e m⟩
  | tr k u => cases m
theorem RepX.ctx {G' : Ctx} (e : G'.cls = G.cls) (t : ∀ n a, G.tg n = some a → G'.tg n = some a) {F : Hp} {c : Str} {fs : List (Str × D)} {cls : Value} {d : Option Addr} (h : RepX K G F c fs cls d) : RepX K G' F c fs cls d := by
  obtain ⟨C, dd, vs, a, b, c, x, y⟩ := h
  exact ⟨C, dd, vs, a, by rw [e]; exact b, c, x, fun f d q => let ⟨v, e1, r⟩ := y f d q; ⟨v, e1, r.ctx e (t 1)⟩⟩
theorem RepS.own {F H0 H : Hp} {s : S} {v : V} {a : Addr} (r : RepS K G F H0 H s v) (h : FootS H s v a) : ∃ o, H a = some o ∧ Mut o ∧ H0 a = none ∧ F a = none := by
  cases s with
  | fz d => exact h.elim
  | ow l =>
    obtain ⟨p, vs, rfl, h1, h2, h3, _⟩ := r
    cases (show V.ref p = V.ref a from h)
    exact ⟨_, h1, .inl ⟨_, rfl⟩, h2, h3⟩
  | tr k t => exact r.2.own h
theorem RepS.move {F H0 H F1 H1 H2 : Hp} (le : Le F F1) (l0 : Le H2 H0) {s : S} {v : V} (r : RepS K G F H0 H s v) (h : ∀ a, FootS H s v a → H1 a = H a ∧ F1 a = none) : RepS K G F1 H2 H1 s v ∧ ∀ a, FootS H1 s v a ↔ FootS H s v a := by
  cases s with
  | fz d => exact ⟨Rep.mono le r, fun a => Iff.rfl⟩
  | ow l =>
    obtain ⟨p, vs, rfl, h1, h2, h3, r⟩ := r
    obtain ⟨e1, e2⟩ := h p rfl
    exact ⟨⟨p, vs, rfl, by rw [e1]; exact h1, l0.free h2, e2, r.mono le⟩, fun a => Iff.rfl⟩
  | tr k t =>
    obtain ⟨q1, q2⟩ := RepT.move le l0 r.2 h
    exact ⟨⟨r.1, q1⟩, q2⟩
theorem RepS.frz {F H0 H F1 : Hp} (le : Le F F1) {s : S} {v : V} (r : RepS K G F H0 H s v) (h : ∀ a, FootS H s v a → F1 a = H a) : Rep K G F1 s.d v := by
  cases s with
  | fz d => exact Rep.mono le r
  | ow l =>
    obtain ⟨p, vs, rfl, h1, h2, h3, r⟩ := r
    exact Rep.lst.mpr ⟨p, vs, rfl, by rw [h p rfl]; exact h1, r.mono le⟩
  | tr k t => exact RepT.frz le r.2 h
theorem RepS.cut {F F2 H0 H : Hp} (c : Cut F F2) (le : Le F2 F) {s : S} {v : V} (r : RepS K G F H0 H s v) (m : immS s = true) : RepS K G F2 H0 H s v := by
  cases s with
  | fz d => exact Rep.cut c r m
  | ow l =>
    obtain ⟨p, vs, rfl, h1, h2, h3, rl⟩ := r
    exact ⟨p, vs, rfl, h1, h2, le.free h3, rl.cut c m⟩
  | tr k t => exact ⟨r.1, r.2.cut c le m⟩
theorem RepS.step {F H F1 H1 H0 : Hp} (e : Ext F H F1 H1) {s : S} {v : V} (r : RepS K G F H0 H s v) : RepS K G F1 H0 H1 s v ∧ ∀ a, FootS H1 s v a ↔ FootS H s v a :=
  r.move e.f (.refl H0) fun a q => by
    obtain ⟨o, h1, _, _, h3⟩ := r.own q
    refine ⟨by rw [h1]; exact e.h _ _ h1, ?_⟩
    cases z : F1 a with
    | none => rfl
    | some o' =>
      rcases e.fr a o' z with y | y
      · rw [h3] at y; cases y
      · rw [h1] at y; cases y
/-- part of a heap put to another -/
def Has (F H : Hp) (A : Addr → Prop) (F1 : Hp) : Prop := (∀ a, A a → F1 a = H a) ∧ ∀ a, ¬ A a → F1 a = F a
open Classical in
noncomputable def put (F H : Hp) (A : Addr → Prop) : Hp := fun a => if A a then H a else F a
theorem put_has {F H : Hp} {A : Addr → Prop} : Has F H A (put F H A) := ⟨fun a h => by unfold put; rw [if_pos h], fun a h => by unfold put; rw [if_neg h]⟩
/-- what stands there, is new and not frozen yet, frozen -/
theorem Ext.freezeA {F H F1 H1 : Hp} (e : Ext F H F1 H1) {A : Addr → Prop} (hn : ∀ a, A a → H a = none ∧ F1 a = none) : Ext F H (put F1 H1 A) H1 ∧ Le F1 (put F1 H1 A) := by
  have l : Le F1 (put F1 H1 A) := fun a o q => by
    by_cases z : A a
    · rw [(hn a z).2] at q; cases q
    · rw [put_has.2 a z]; exact q
  refine ⟨⟨e.le, e.h, e.f.trans l, fun a o q => ?_, fun a o q => ?_⟩, l⟩
  · by_cases z : A a
    · rw [put_has.1 a z] at q; exact q
    · rw [put_has.2 a z] at q; exact e.fh a o q
  · by_cases z : A a
    · exact .inr (hn a z).1
    · rw [put_has.2 a z] at q; exact e.fr a o q
/-- a result, frozen -/
theorem RepS.view {F H F1 H1 : Hp} {s : S} {v : V} (e : Ext F H F1 H1) (h : RepS K G F1 H H1 s v) : ∃ F2, Ext F H F2 H1 ∧ Le F1 F2 ∧ Rep K G F2 s.d v := by
  obtain ⟨x, l⟩ := e.freezeA (A := FootS H1 s v) fun a q => let ⟨_, _, _, h2, h3⟩ := h.own q; ⟨h2, h3⟩
  exact ⟨_, x, l, h.frz l fun a q => put_has.1 a q⟩
end
end O

end

section
set_option Elab.async false
set_option linter.all false
set_option maxRecDepth 100000
namespace O
open PySem PySem.Spec PyProof.Rows L2

section
variable {K : PySem.W.Frag} {G : Ctx}
theorem RepX.mono {F F' : Hp} (e : Le F F') {c : Str} {fs : List (Str × D)} {cls : Value} {d : Option Addr} (h : RepX K G F c fs cls d) : RepX K G F' c fs cls d := by
  obtain ⟨C, dd, vs, a, b, c, x, y⟩ := h
  exact ⟨C, dd, vs, a, b, c, e _ _ x, fun f d q => let ⟨v, e1, r⟩ := y f d q; ⟨v, e1, r.mono e⟩⟩
theorem RepS.back {F H0 H1 H' : Hp} {s : S} {v : V} (e : Le H0 H1) (h : RepS K G F H1 H' s v) : RepS K G F H0 H' s v :=
  (h.move (.refl F) e fun a q => ⟨rfl, (h.own q).choose_spec.2.2.2⟩).1
theorem PostS.ext {F H F1 H1 : Hp} {r : RS} {Q : VK} {E : XK} (h : PostS K G F H r Q E) (e : Ext F H F1 H1) : PostS K G F1 H1 r Q E := by
  cases r with
  | ok s => exact fun v H' F' e' q => h v H' F' (e.trans e') (q.back e.h)
  | ex c fs => exact fun cls d H' F' e' q => h cls d H' F' (e.trans e') q
  | no => exact h
theorem Post.ext {α β : Type} {Rp : Hp → α → β → Prop} {F H F1 H1 : Hp} {r : R α} {Q : β → Hp → Prop} {E : XK} (h : Post K G Rp F H r Q E) (e : Ext F H F1 H1) : Post K G Rp F1 H1 r Q E := by
  cases r with
  | ok s => exact fun v H' F' e' q => h v H' F' (e.trans e') q
  | ex c fs => exact fun cls d H' F' e' q => h cls d H' F' (e.trans e') q
  | no => exact h
end

/-! ### judgements -/
section
variable (K : PySem.W.Frag) (G : Ctx) (W : WX)
def tE (f : Env → RS) : TE := fun σ H Q => ∃ F ρ, Le F H ∧ REnv K G F σ ρ ∧ PostS K G F H (f ρ) Q (WE W σ)
def tA (f : Env → R (List D)) : TA := fun σ H Q => ∃ F ρ, Le F H ∧ REnv K G F σ ρ ∧ Post K G (fun F => RepL K G F) F H (f ρ) Q (WE W σ)
def tT (f : Env → R Bool) : TT := fun σ H Q => ∃ F ρ, Le F H ∧ REnv K G F σ ρ ∧ Post K G (fun _ b b' => b' = b) F H (f ρ) Q (WE W σ)
end
def DE (X : Cx) (G : Ctx) (W : WX) (e : Expr) (f : Env → RS) : Prop := PE X e (tE X.K G W f)
def DA (X : Cx) (G : Ctx) (W : WX) (es : List Expr) (f : Env → R (List D)) : Prop := PA X es (tA X.K G W f)
def DT (X : Cx) (G : Ctx) (W : WX) (e : Expr) (f : Env → R Bool) : Prop := PT X e (tT X.K G W f)

section
variable {X : Cx} {G : Ctx} {W : WX}
theorem PE.imp {e : Expr} {t t' : TE} (h : PE X e t) (i : ∀ σ H Q, t' σ H Q → t σ H Q) : PE X e t' := ⟨fun pins s σ H Q I q => h.run pins s σ H Q I (i σ H Q q)⟩
theorem PT.imp {e : Expr} {t t' : TT} (h : PT X e t) (i : ∀ σ H Q, t' σ H Q → t σ H Q) : PT X e t' := ⟨fun pins s σ H Q I q => h.run pins s σ H Q I (i σ H Q q)⟩
theorem PA.imp {e : List Expr} {t t' : TA} (h : PA X e t) (i : ∀ σ H Q, t' σ H Q → t σ H Q) : PA X e t' := ⟨fun pos pins s σ H Q I q => h.run pos pins s σ H Q I (i σ H Q q)⟩
theorem PS.imp {e : Stmt} {t t' : TS} (h : PS X e t) (i : ∀ D σ H, t' D σ H → t D σ H) : PS X e t' := ⟨fun pins s σ H D I q => h.run pins s σ H D I (i D σ H q)⟩
theorem PSs.imp {e : List Stmt} {t t' : TS} (h : PSs X e t) (i : ∀ D σ H, t' D σ H → t D σ H) : PSs X e t' := ⟨fun pins s σ H D I q => h.run pins s σ H D I (i D σ H q)⟩

/-- the use of a part: its value, frozen -/
theorem use {K : PySem.W.Frag} {G : Ctx} {W : WX} {f : Env → RS} {k : S → RS} {F H : Hp} {σ : L2.St} {ρ : Env} {Q : VK} (le : Le F H) (re : REnv K G F σ ρ) {Q' : VK} (p : PostS K G F H ((f ρ).bind k) Q (WE W σ))
    (h : ∀ s v H1 F1, f ρ = .ok s → Ext F H F1 H1 → Rep K G F1 s.d v → REnv K G F1 σ ρ → PostS K G F1 H1 (k s) Q (WE W σ) → Q' v H1) : tE K G W f σ H Q' := by
  refine ⟨F, ρ, le, re, ?_⟩
  cases hf : f ρ with
  | ok s =>
    rw [hf] at p
    intro v H1 F1 e r
    obtain ⟨F2, e2, _, r2⟩ := r.view e
    exact h s v H1 F2 hf e2 r2 (re.mono e2.f) (PostS.ext p e2)
  | ex c fs =>
    rw [hf] at p
    exact p
  | no => rw [hf] at p; exact p
theorem useG {α β : Type} {Rp : Hp → α → β → Prop} {K : PySem.W.Frag} {G : Ctx} {W : WX} {f : Env → RS} {k : S → R α} {F H : Hp} {σ : L2.St} {ρ : Env} {Q : β → Hp → Prop} (le : Le F H) (re : REnv K G F σ ρ) {Q' : VK} (p : Post K G Rp F H ((f ρ).bind k) Q (WE W σ))
    (h : ∀ s v H1 F1, f ρ = .ok s → Ext F H F1 H1 → Rep K G F1 s.d v → REnv K G F1 σ ρ → Post K G Rp F1 H1 (k s) Q (WE W σ) → Q' v H1) : tE K G W f σ H Q' := by
  refine ⟨F, ρ, le, re, ?_⟩
  cases hf : f ρ with
  | ok s =>
    rw [hf] at p
    intro v H1 F1 e r
    obtain ⟨F2, e2, _, r2⟩ := r.view e
    exact h s v H1 F2 hf e2 r2 (re.mono e2.f) (Post.ext p e2)
  | ex c fs =>
    rw [hf] at p
    exact p
  | no => rw [hf] at p; exact p
theorem useA {K : PySem.W.Frag} {G : Ctx} {W : WX} {f : Env → R (List D)} {k : List D → RS} {F H : Hp} {σ : L2.St} {ρ : Env} {Q : VK} (le : Le F H) (re : REnv K G F σ ρ) {Q' : List V → Hp → Prop} (p : PostS K G F H ((f ρ).bind k) Q (WE W σ))
    (h : ∀ s v H1 F1, f ρ = .ok s → Ext F H F1 H1 → RepL K G F1 s v → REnv K G F1 σ ρ → PostS K G F1 H1 (k s) Q (WE W σ) → Q' v H1) : tA K G W f σ H Q' := by
  refine ⟨F, ρ, le, re, ?_⟩
  cases hf : f ρ with
  | ok s =>
    rw [hf] at p
    intro v H1 F1 e r
    exact h s v H1 F1 hf e r (re.mono e.f) (PostS.ext p e)
  | ex c fs =>
    rw [hf] at p
    exact p
  | no => rw [hf] at p; exact p
theorem useT {K : PySem.W.Frag} {G : Ctx} {W : WX} {f : Env → R Bool} {k : Bool → RS} {F H : Hp} {σ : L2.St} {ρ : Env} {Q : VK} (le : Le F H) (re : REnv K G F σ ρ) {Q' : Bool → Hp → Prop} (p : PostS K G F H ((f ρ).bind k) Q (WE W σ))
    (h : ∀ b H1 F1, f ρ = .ok b → Ext F H F1 H1 → REnv K G F1 σ ρ → PostS K G F1 H1 (k b) Q (WE W σ) → Q' b H1) : tT K G W f σ H Q' := by
  refine ⟨F, ρ, le, re, ?_⟩
  cases hf : f ρ with
  | ok s =>
    rw [hf] at p
    intro v H1 F1 e r
    cases r
    exact h s H1 F1 hf e (re.mono e.f) (PostS.ext p e)
  | ex c fs =>
    rw [hf] at p
    exact p
  | no => rw [hf] at p; exact p
theorem useTG {α β : Type} {Rp : Hp → α → β → Prop} {K : PySem.W.Frag} {G : Ctx} {W : WX} {f : Env → R Bool} {k : Bool → R α} {F H : Hp} {σ : L2.St} {ρ : Env} {Q : β → Hp → Prop} (le : Le F H) (re : REnv K G F σ ρ) {Q' : Bool → Hp → Prop} (p : Post K G Rp F H ((f ρ).bind k) Q (WE W σ))
    (h : ∀ b H1 F1, f ρ = .ok b → Ext F H F1 H1 → REnv K G F1 σ ρ → Post K G Rp F1 H1 (k b) Q (WE W σ) → Q' b H1) : tT K G W f σ H Q' := by
  refine ⟨F, ρ, le, re, ?_⟩
  cases hf : f ρ with
  | ok s =>
    rw [hf] at p
    intro v H1 F1 e r
    cases r
    exact h s H1 F1 hf e (re.mono e.f) (Post.ext p e)
  | ex c fs =>
    rw [hf] at p
    exact p
  | no => rw [hf] at p; exact p
theorem PostS.done {K : PySem.W.Frag} {G : Ctx} {F H : Hp} {s : S} {Q : VK} {E : XK} (p : PostS K G F H (.ok s) Q E) {v : V} {F1 H1 : Hp} (e : Ext F H F1 H1) (r : RepS K G F1 H H1 s v) : Q v H1 := p v H1 F1 e r

/-! ### names, constants -/
abbrev sVar (i : Nat) : Env → RS := fun ρ => match ρ[i]? with | some (some d) => .ok (.fz d) | _ => .no
abbrev sC (d : D) : Env → RS := fun _ => .ok (.fz d)
theorem de_pe {e : Expr} {t : TE} {f : Env → RS} (h : PE X e t) (i : ∀ σ H Q F ρ, Le F H → REnv X.K G F σ ρ → PostS X.K G F H (f ρ) Q (WE W σ) → t σ H Q) : DE X G W e f :=
  PE.imp h fun σ H Q ⟨F, ρ, le, re, p⟩ => i σ H Q F ρ le re p
theorem de_var {i : Nat} {x : Str} {pos : Pos} (h : PE X (.Name x pos) (tVar i)) : DE X G W (.Name x pos) (sVar i) := by
  refine de_pe h fun σ H Q F ρ le re p => ?_
  unfold sVar at p
  cases q : ρ[i]? with
  | none => rw [q] at p; exact p.elim
  | some o =>
    rw [q] at p
    cases o with
    | none => exact p.elim
    | some d =>
      obtain ⟨v, e1, r⟩ := re.val i d q
      exact ⟨v, e1, p.done (.refl le) r⟩
theorem de_c {e : Expr} {d : D} {v : V} (h : PE X e (tC v)) (r : ∀ F, Rep X.K G F d v) : DE X G W e (sC d) :=
  de_pe h fun σ H Q F ρ le re p => p.done (.refl le) (r F)
theorem de_int {i j pos} : DE X G W (.Constant (.int i) j pos) (sC (.int i)) := de_c pe_int fun _ => Rep.int.mpr rfl
theorem de_bl {i j pos} : DE X G W (.Constant (.bool i) j pos) (sC (.bl i)) := de_c pe_bl fun _ => Rep.bl.mpr rfl
theorem de_non {j pos} : DE X G W (.Constant .none j pos) (sC .non) := de_c pe_non fun _ => Rep.non.mpr rfl
theorem de_str {i j pos} : DE X G W (.Constant (.str i) j pos) (sC (.str i)) := de_c pe_str fun _ => Rep.str.mpr rfl

/-! ### operators by values -/
def rD (K : PySem.W.Frag) (G : Ctx) (g : D → D → Option S) : R2 := fun x y H Q => ∃ F dx dy s, Le F H ∧ Rep K G F dx x ∧ Rep K G F dy y ∧ g dx dy = some s ∧ ∀ v H' F', Ext F H F' H' → RepS K G F' H H' s v → Q v H'
abbrev R.of {α : Type} : Option α → R α
  | some a => .ok a
  | none => .no
abbrev sOp (g : D → D → Option S) (fa fb : Env → RS) : Env → RS := fun ρ => (fa ρ).bind fun x => (fb ρ).bind fun y => R.of (g x.d y.d)
theorem bin_use {K : PySem.W.Frag} {G : Ctx} {W : WX} {g : D → D → Option S} {fa fb : Env → RS} {σ : L2.St} {H : Hp} {Q : VK} (h : tE K G W (sOp g fa fb) σ H Q) : tOp (rD K G g) (tE K G W fa) (tE K G W fb) σ H Q := by
  obtain ⟨F, ρ, le, re, p⟩ := h
  refine use le re p fun s v H1 F1 _ e1 r1 re1 p1 => ?_
  refine use e1.fh re1 p1 fun s' v' H2 F2 _ e2 r2 re2 p2 => ?_
  cases hg : g s.d s'.d with
  | none => rw [hg] at p2; exact p2.elim
  | some t =>
    rw [hg] at p2
    exact ⟨F2, s.d, s'.d, t, e2.fh, r1.mono e2.f, r2, hg, p2⟩
theorem de_op {op : Operator} {g : D → D → Option S} {a b : Expr} {fa fb : Env → RS} {pos : Pos} (ho : OpR X (binaryOp op) (rD X.K G g)) (ha : DE X G W a fa) (hb : DE X G W b fb) : DE X G W (.BinOp a op b pos) (sOp g fa fb) :=
  PE.imp (pe_op ho ha hb) fun _ _ _ h => bin_use h
theorem de_cmp {op : CmpOp} {g : D → D → Option S} {a b : Expr} {fa fb : Env → RS} {pos : Pos} (ho : OpR X (compareOp op) (rD X.K G g)) (ha : DE X G W a fa) (hb : DE X G W b fb) (hm : behindInMarks op b = false := by rfl) : DE X G W (.Compare a [op] [b] pos) (sOp g fa fb) :=
  PE.imp (pe_cmpR ho ha hb hm) fun _ _ _ h => bin_use h
theorem de_ix {g : D → D → Option S} {a b : Expr} {fa fb : Env → RS} {pos : Pos} (ho : IxR X (rD X.K G g)) (ha : DE X G W a fa) (hb : DE X G W b fb) (hs : PlainIx b := by intro _ _; rfl) : DE X G W (.Subscript a b pos) (sOp g fa fb) :=
  PE.imp (pe_ix ho ha hb hs) fun _ _ _ h => bin_use h
end
end O

end

section
set_option Elab.async false
set_option linter.all false
set_option maxRecDepth 100000
namespace O
open PySem PySem.Spec PyProof.Rows L2

section
variable {X : Cx} {G : Ctx} {W : WX} {a b c e : Expr} {es rest : List Expr} {fa fb fc : Env → RS} {ga gb gc : Env → R Bool} {pos : Pos}

/-! ### tests -/
def LIM : Nat := 1000000
theorem LIM_le {n : Nat} (h : n ≤ LIM) : n ≤ sizeLine := Nat.le_trans h (by rw [sizeLine_eq]; decide)
theorem LIM_lt {n : Nat} (h : n < LIM) : n < sizeLine := Nat.lt_of_lt_of_le h (by rw [sizeLine_eq]; decide)
def truD : D → Option Bool
  | .non => some false
  | .bl b => some b
  | .int i => some (i != 0)
  | .str x => if x.length ≤ LIM then some ((x.length : Int) != 0) else none
  | .tup l => some (!l.isEmpty)
  | .lst l => some (!l.isEmpty)
  | .scr l => some (!l.isEmpty)
  | .dct _ => none
  | .obj _ _ => none
  | .xo => none
theorem truD_ok {K : PySem.W.Frag} {F H : Hp} {d : D} {v : V} {k : Bool} (r : Rep K G F d v) (le : Le F H) (h : truD d = some k) : TruV K v H k := by
  cases d with
  | non => rw [Rep.non.mp r]; simp only [truD, Option.some.injEq] at h; exact h.symm
  | bl b => rw [Rep.bl.mp r]; simp only [truD, Option.some.injEq] at h; exact h.symm
  | int i => rw [Rep.int.mp r]; simp only [truD, Option.some.injEq] at h; exact h.symm
  | str x =>
    rw [Rep.str.mp r]
    have h : (if x.length ≤ LIM then some ((x.length : Int) != 0) else none) = some k := h
    split at h
    · rename_i hl
      simp only [Option.some.injEq] at h
      exact ⟨LIM_le hl, h.symm⟩
    · cases h
  | tup l =>
    obtain ⟨p, vs, rfl, q, rl⟩ := Rep.tup.mp r
    simp only [truD, Option.some.injEq] at h
    exact .inr (.inl ⟨vs, le.sqt q, by rw [rl.isEmpty]; exact h.symm⟩)
  | lst l =>
    obtain ⟨p, vs, rfl, q, rl⟩ := Rep.lst.mp r
    simp only [truD, Option.some.injEq] at h
    exact .inl ⟨vs, .of (le _ _ q), by rw [rl.isEmpty]; exact h.symm⟩
  | scr l =>
    obtain ⟨p, rfl, q⟩ := Rep.scr.mp r
    simp only [truD, Option.some.injEq] at h
    exact .inl ⟨_, le.sql q, by rw [List.isEmpty_map]; exact h.symm⟩
  | dct l => cases h
  | obj c l => cases h
  | xo => cases h
abbrev sTru (fa : Env → RS) : Env → R Bool := fun ρ => (fa ρ).bind fun s => R.of (truD s.d)
theorem dt_tru (ha : DE X G W a fa) (he : ∀ whole, isTrue a X.env whole = (do let v ← whole; standAt a.pos; holding [v] (truthy v)) := by intro _; rfl) : DT X G W a (sTru fa) :=
  PT.imp (pt_truth ha he) fun σ H Q ⟨F, ρ, le, re, p⟩ => useG le re p fun s v H1 F1 _ e1 r1 re1 p1 => by
    cases hk : truD s.d with
    | none => rw [hk] at p1; exact p1.elim
    | some k =>
      rw [hk] at p1
      exact ⟨k, truD_ok r1 e1.fh hk, p1 k H1 F1 (.refl e1.fh) rfl⟩
/-- a comparison as a test: its value is a bool -/
abbrev sBool (fa : Env → RS) : Env → R Bool := fun ρ => (fa ρ).bind fun s => match s.d with | .bl k => .ok k | _ => .no
theorem tst_use {K : PySem.W.Frag} {fa : Env → RS} {σ : L2.St} {H : Hp} {Q : Bool → Hp → Prop} (h : tT K G W (sBool fa) σ H Q) : tTest (tE K G W fa) σ H Q := by
  obtain ⟨F, ρ, le, re, p⟩ := h
  refine useG le re p fun s v H1 F1 _ e1 r1 re1 p1 => ?_
  cases hs : s.d with
  | bl k =>
    rw [hs] at p1 r1
    exact ⟨k, Rep.bl.mp r1, p1 k H1 F1 (.refl e1.fh) rfl⟩
  | _ => rw [hs] at p1; exact p1.elim
theorem TT.tOp_imp {r : R2} {ta tb : TE} {t : TE} (i : ∀ σ H Q, t σ H Q → tOp r ta tb σ H Q) {σ : L2.St} {H : Hp} {Q : Bool → Hp → Prop} (h : tTest t σ H Q) : tTest (tOp r ta tb) σ H Q := i _ _ _ h
theorem dt_cmp {op : CmpOp} {g : D → D → Option S} (ho : OpR X (compareOp op) (rD X.K G g)) (ha : DE X G W a fa) (hb : DE X G W b fb) (hm : behindInMarks op b = false := by rfl) : DT X G W (.Compare a [op] [b] pos) (sBool (sOp g fa fb)) :=
  PT.imp (pt_cmpR ho ha hb hm) fun _ _ _ h => TT.tOp_imp (fun _ _ _ q => bin_use q) (tst_use h)
theorem dt_val (ha : DE X G W a fa) (he : ∀ whole, isTrue a X.env whole = (do let v ← whole; standAt a.pos; holding [v] (truthy v)) := by intro _; rfl) : DT X G W a (sBool fa) :=
  PT.imp (pt_val ha he) fun _ _ _ h => tst_use h
abbrev sAnd (ga gb : Env → R Bool) : Env → R Bool := fun ρ => (ga ρ).bind fun k => if k = true then gb ρ else .ok false
abbrev sOr (ga gb : Env → R Bool) : Env → R Bool := fun ρ => (ga ρ).bind fun k => if k = true then .ok true else gb ρ
abbrev sNot (ga : Env → R Bool) : Env → R Bool := fun ρ => (ga ρ).bind fun k => .ok (!k)
def DW (X : Cx) (G : Ctx) (W : WX) (e : Expr) (f : Env → R Bool) : Prop := PW X e (tT X.K G W f)
theorem PW.imp {e : Expr} {t t' : TT} (h : PW X e t) (i : ∀ σ H Q, t' σ H Q → t σ H Q) : PW X e t' := ⟨fun wh pins s σ H Q I q => h.run wh pins s σ H Q I (i σ H Q q)⟩
theorem DW.dt (h : DW X G W e ga) : DT X G W e ga := PW.pt h
theorem dw_and1 (ha : DT X G W a ga) : DW X G W (.BoolOp .And [a] pos) ga := pw_and1 ha
theorem dw_or1 (ha : DT X G W a ga) : DW X G W (.BoolOp .Or [a] pos) ga := pw_or1 ha
theorem dw_and (ha : DT X G W a ga) (hb : DW X G W (.BoolOp .And (b :: rest) pos) gb) : DW X G W (.BoolOp .And (a :: b :: rest) pos) (sAnd ga gb) :=
  PW.imp (pw_and ha hb) fun σ H Q ⟨F, ρ, le, re, p⟩ => useTG le re p fun k H1 F1 _ e1 re1 p1 => by
    cases k with
    | true => rw [if_pos rfl] at p1 ⊢; exact ⟨F1, ρ, e1.fh, re1, p1⟩
    | false =>
      rw [if_neg Bool.false_ne_true] at p1 ⊢
      exact p1 false H1 F1 (.refl e1.fh) rfl
theorem dw_or (ha : DT X G W a ga) (hb : DW X G W (.BoolOp .Or (b :: rest) pos) gb) : DW X G W (.BoolOp .Or (a :: b :: rest) pos) (sOr ga gb) :=
  PW.imp (pw_or ha hb) fun σ H Q ⟨F, ρ, le, re, p⟩ => useTG le re p fun k H1 F1 _ e1 re1 p1 => by
    cases k with
    | true =>
      rw [if_pos rfl] at p1 ⊢
      exact p1 true H1 F1 (.refl e1.fh) rfl
    | false => rw [if_neg Bool.false_ne_true] at p1 ⊢; exact ⟨F1, ρ, e1.fh, re1, p1⟩
theorem dt_not (ha : DT X G W a ga) : DT X G W (.UnaryOp .Not a pos) (sNot ga) :=
  PT.imp (pt_not ha) fun σ H Q ⟨F, ρ, le, re, p⟩ => useTG le re p fun k H1 F1 _ e1 re1 p1 => p1 (!k) H1 F1 (.refl e1.fh) rfl
abbrev sIf (gc : Env → R Bool) (fa fb : Env → RS) : Env → RS := fun ρ => (gc ρ).bind fun k => if k = true then fa ρ else fb ρ
theorem de_if (hc : DT X G W c gc) (ha : DE X G W a fa) (hb : DE X G W b fb) : DE X G W (.IfExp c a b pos) (sIf gc fa fb) :=
  PE.imp (pe_ifExp hc ha hb) fun σ H Q ⟨F, ρ, le, re, p⟩ => useT le re p fun k H1 F1 _ e1 re1 p1 => by
    cases k with
    | true => rw [if_pos rfl] at p1 ⊢; exact ⟨F1, ρ, e1.fh, re1, p1⟩
    | false => rw [if_neg Bool.false_ne_true] at p1 ⊢; exact ⟨F1, ρ, e1.fh, re1, p1⟩
/-- and, or, not as values that are bools -/
abbrev sAndV (fa fb : Env → RS) : Env → RS := fun ρ => (fa ρ).bind fun s => match s.d with | .bl k => if k = true then fb ρ else .ok (.fz (.bl false)) | _ => .no
abbrev sOrV (fa fb : Env → RS) : Env → RS := fun ρ => (fa ρ).bind fun s => match s.d with | .bl k => if k = true then .ok (.fz (.bl true)) else fb ρ | _ => .no
theorem de_one {op} (h : DE X G W a fa) : DE X G W (.BoolOp op [a] pos) fa := pe_one h
theorem de_and (ha : DE X G W a fa) (hb : DE X G W (.BoolOp .And (b :: rest) pos) fb) : DE X G W (.BoolOp .And (a :: b :: rest) pos) (sAndV fa fb) :=
  PE.imp (pe_and ha hb) fun σ H Q ⟨F, ρ, le, re, p⟩ => use le re p fun s v H1 F1 _ e1 r1 re1 p1 => by
    cases hs : s.d with
    | bl k =>
      rw [hs] at p1 r1
      refine ⟨k, Rep.bl.mp r1, ?_⟩
      cases k with
      | true => exact ⟨F1, ρ, e1.fh, re1, p1⟩
      | false => exact p1.done (.refl e1.fh) (show Rep X.K G F1 (.bl false) _ from Rep.bl.mpr rfl)
    | _ => rw [hs] at p1; exact p1.elim
theorem de_or (ha : DE X G W a fa) (hb : DE X G W (.BoolOp .Or (b :: rest) pos) fb) : DE X G W (.BoolOp .Or (a :: b :: rest) pos) (sOrV fa fb) :=
  PE.imp (pe_or ha hb) fun σ H Q ⟨F, ρ, le, re, p⟩ => use le re p fun s v H1 F1 _ e1 r1 re1 p1 => by
    cases hs : s.d with
    | bl k =>
      rw [hs] at p1 r1
      refine ⟨k, Rep.bl.mp r1, ?_⟩
      cases k with
      | false => exact ⟨F1, ρ, e1.fh, re1, p1⟩
      | true => exact p1.done (.refl e1.fh) (show Rep X.K G F1 (.bl true) _ from Rep.bl.mpr rfl)
    | _ => rw [hs] at p1; exact p1.elim
/-- not a, of any value by truth, as a value -/
abbrev sNotV (fa : Env → RS) : Env → RS := fun ρ => (fa ρ).bind fun s => match truD s.d with | some k => .ok (.fz (.bl (!k))) | none => .no

/-! ### argument lists and displays -/
abbrev sNil : Env → R (List D) := fun _ => .ok []
abbrev sCons (fa : Env → RS) (fr : Env → R (List D)) : Env → R (List D) := fun ρ => (fa ρ).bind fun s => (fr ρ).bind fun l => .ok (s.d :: l)
theorem da_nil : DA X G W [] sNil := PA.imp pa_nil fun σ H Q ⟨F, ρ, le, re, p⟩ => p [] H F (.refl le) (RepL.nil.mpr rfl)
theorem da_cons {fr : Env → R (List D)} (ha : DE X G W e fa) (hr : DA X G W es fr) (hs : starEach (e :: es) X.env = (false, eval e X.env) :: starEach es X.env := by rfl) : DA X G W (e :: es) (sCons fa fr) :=
  PA.imp (pa_cons ha hr hs) fun σ H Q ⟨F, ρ, le, re, p⟩ => useG le re p fun s v H1 F1 _ e1 r1 re1 p1 => by
    refine ⟨F1, ρ, e1.fh, re1, ?_⟩
    cases hf : fr ρ with
    | ok l =>
      rw [hf] at p1
      intro vs H2 F2 e2 r2
      exact p1 (v :: vs) H2 F2 e2 (RepL.cons.mpr ⟨v, vs, rfl, r1.mono e2.f, r2⟩)
    | ex c fs => rw [hf] at p1; exact p1
    | no => rw [hf] at p1; exact p1
abbrev sTup (ta : Env → R (List D)) : Env → RS := fun ρ => (ta ρ).bind fun l => if l.length ≤ LIM then .ok (.fz (.tup l)) else .no
abbrev sLst (ta : Env → R (List D)) : Env → RS := fun ρ => (ta ρ).bind fun l => if l.length ≤ LIM then .ok (.ow l) else .no
theorem de_tup {ta : Env → R (List D)} {x1} (h : DA X G W es ta) : DE X G W (.Tuple es x1 pos) (sTup ta) :=
  PE.imp (pe_tupZ h) fun σ H Q ⟨F, ρ, le, re, p⟩ => useA le re p fun l vs H1 F1 _ e1 r1 re1 p1 => by
    split at p1
    · rename_i hl
      refine ⟨by rw [r1.length]; exact LIM_le hl, fun q us hq => ?_⟩
      have hf := e1.fh.free hq
      exact p1.done ((Ext.refl e1.fh).new hq) (show Rep X.K G (upd F1 q _) (.tup l) _ from Rep.tup.mpr ⟨q, vs, rfl, .inl ⟨_, upd_same, rfl⟩, r1.mono (Le.new hf)⟩)
    · exact p1.elim
theorem de_lst {ta : Env → R (List D)} (h : DA X G W es ta) : DE X G W (.List es pos) (sLst ta) :=
  PE.imp (pe_lst h) fun σ H Q ⟨F, ρ, le, re, p⟩ => useA le re p fun l vs H1 F1 _ e1 r1 re1 p1 => by
    split at p1
    · rename_i hl
      refine ⟨by rw [r1.length]; exact LIM_le hl, fun q hq => ?_⟩
      have hf := e1.fh.free hq
      exact p1.done ((Ext.refl e1.fh).newU hq) (show RepS X.K G F1 H1 _ (.ow l) _ from ⟨q, vs, rfl, upd_same, hq, hf, r1⟩)
    · exact p1.elim

/-! ### calls of what is known by values -/
def rC (K : PySem.W.Frag) (G : Ctx) (g : List D → Option S) : List V → Hp → VK → Prop := fun xs H Q => ∃ F ds s, Le F H ∧ RepL K G F ds xs ∧ g ds = some s ∧ ∀ v H' F', Ext F H F' H' → RepS K G F' H H' s v → Q v H'
abbrev sCall (g : List D → Option S) (fa : Env → R (List D)) : Env → RS := fun ρ => (fa ρ).bind fun l => R.of (g l)
theorem call_use {K : PySem.W.Frag} {g : List D → Option S} {fa : Env → R (List D)} {σ : L2.St} {H : Hp} {Q : VK} (h : tE K G W (sCall g fa) σ H Q) : tCB (rC K G g) (tA K G W fa) σ H Q := by
  obtain ⟨F, ρ, le, re, p⟩ := h
  refine useA le re p fun l vs H1 F1 _ e1 r1 re1 p1 => ?_
  cases hg : g l with
  | none => rw [hg] at p1; exact p1.elim
  | some t => rw [hg] at p1; exact ⟨F1, l, t, e1.fh, r1, hg, p1⟩
theorem de_callB {id : String} {x : Str} {p : Pos} {g : List D → Option S} {ta : Env → R (List D)} (hc : CallR X (.builtin id) (rC X.K G g)) (hg : Gl X x) (hm : X.mg x = none) (hv : bootBuiltins x = some (.builtin id)) (ha : DA X G W (e :: es) ta)
    (hn : x ≠ "__name__" := by decide) (hdb : (x == ("__debug__" : Str)) = false := by decide)
    (he : starEach (e :: es) X.env = (false, eval e X.env) :: starEach es X.env := by rfl) (hpl : (backTo pos (starEach es X.env)).any (·.1) = false := by rfl) : DE X G W (.Call (.Name x p) (e :: es) [] pos) (sCall g ta) :=
  PE.imp (pe_callB hc hg hm hv ha hn hdb he hpl) fun _ _ _ h => call_use h
theorem de_callTy {T : String} {x : Str} {p : Pos} {g : List D → Option S} {ta : Env → R (List D)} (hc : CallR X (.type T) (rC X.K G g)) (hg : Gl X x) (hm : X.mg x = none) (hv : bootBuiltins x = some (.type T)) (ha : DA X G W (e :: es) ta)
    (hn : x ≠ "__name__" := by decide) (hdb : (x == ("__debug__" : Str)) = false := by decide)
    (he : starEach (e :: es) X.env = (false, eval e X.env) :: starEach es X.env := by rfl) (hpl : (backTo pos (starEach es X.env)).any (·.1) = false := by rfl) : DE X G W (.Call (.Name x p) (e :: es) [] pos) (sCall g ta) :=
  PE.imp (pe_callTy hc hg hm hv ha hn hdb he hpl) fun _ _ _ h => call_use h
/-- a module's constant -/
theorem de_glob {x : Str} {d : D} {v : V} {u : Value} (hg : Gl X x) (hm : X.mg x = some u) (r : RelV v u) (rd : ∀ F, Rep X.K G F d v) (hd : (x == ("__debug__" : Str)) = false := by decide) : DE X G W (.Name x pos) (sC d) := de_c (pe_glob hg hm r hd) rd

/-! ### a def's promise -/
def spD (K : PySem.W.Frag) (G : Ctx) (n : Nat) (sem : List D → RS) : Sp := fun vs H Q E => ∃ F ds, Le F H ∧ RepL K G F ds vs ∧ ds.length = n ∧ PostS K G F H (sem ds) Q E
theorem spD_len {K : PySem.W.Frag} {n : Nat} {sem : List D → RS} {ps : List Str} (hn : ps.length = n) : ∀ vs H Q E, spD K G n sem vs H Q E → vs.length = ps.length := fun vs H Q E ⟨F, ds, _, r, e, _⟩ => by rw [r.length, e, hn]
abbrev sFn (n : Nat) (sem : List D → RS) (fa : Env → R (List D)) : Env → RS := fun ρ => (fa ρ).bind fun l => if l.length = n then sem l else .no
theorem de_fn {k n : Nat} {sem : List D → RS} {f : Addr} {fd : FuncData} {ps : List Str} {x : Str} {p : Pos} {ta : Env → R (List D)} (tk : Takes X W) (F : FnOk X.prog X.w X.K X.mg X.base (L2.CX X.prog X.w) k f fd ps (spD X.K G n sem)) (hr : Room k X.A) (hg : Gl X x) (hm : X.mg x = some (.ref f)) (hk : PySem.W.keepIn X.K (.ref f) = true) (hb : Binds X.K fd ps [])
    (ha : DA X G W (e :: es) ta) (hdb : (x == ("__debug__" : Str)) = false := by decide) (he : starEach (e :: es) X.env = (false, eval e X.env) :: starEach es X.env := by rfl) (hpl : (backTo pos (starEach es X.env)).any (·.1) = false := by rfl) :
    DE X G W (.Call (.Name x p) (e :: es) [] pos) (sFn n sem ta) :=
  PE.imp (pe_callS (E := WE W) F hr hg hm hk hb (fun σ => passAt tk σ) ha hdb he hpl) fun σ H Q ⟨F, ρ, le, re, p⟩ => useA le re p fun l vs H1 F1 _ e1 r1 re1 p1 => by
    split at p1
    · rename_i hn
      exact ⟨F1, l, e1.fh, r1, hn, p1⟩
    · exact p1.elim
end
end O

end

section
set_option Elab.async false
set_option linter.all false
set_option maxRecDepth 100000
namespace O
open PySem PySem.Spec PyProof.Rows L2

/-! ### equality of data -/
mutual
def toP : D → PyData
  | .bl b => .bool b
  | .int i => .int i
  | .str x => .str x
  | .tup l => .tuple (toPL l)
  | .lst l => .list (toPL l)
  | _ => .none
def toPL : List D → List PyData
  | [] => []
  | d :: l => toP d :: toPL l
end
/-! comparable: no dicts, no instances, at most n deep -/
mutual
def shp : Nat → D → Bool
  | _, .non => true
  | _, .bl _ => true
  | _, .int _ => true
  | _, .str x => PyData.strOk x
  | n + 1, .tup l => shpL n l
  | n + 1, .lst l => shpL n l
  | _, _ => false
def shpL : Nat → List D → Bool
  | _, [] => true
  | n, d :: l => shp n d && shpL n l
end
mutual
def eqv : D → D → Bool
  | .non, .non => true
  | .bl a, .bl b => decide (a = b)
  | .bl a, .int j => decide ((if a then (1 : Int) else 0) = j)
  | .int i, .bl b => decide (i = (if b then (1 : Int) else 0))
  | .int i, .int j => decide (i = j)
  | .str x, .str y => decide (x = y)
  | .tup l, .tup m => eqvL l m
  | .lst l, .lst m => eqvL l m
  | _, _ => false
def eqvL : List D → List D → Bool
  | [], [] => true
  | d :: l, e :: m => eqv d e && eqvL l m
  | _, _ => false
end
theorem beq_dec {α : Type} [DecidableEq α] [BEq α] [LawfulBEq α] (a b : α) : (a == b) = decide (a = b) := by
  by_cases h : a = b
  · subst h; simp
  · rw [decide_eq_false h]; exact beq_eq_false_iff_ne.mpr h
mutual
theorem eqv_toP : ∀ (n : Nat) (d e : D), shp n d = true → shp n e = true → eqv d e = PyData.eqv (toP d) (toP e)
  | n, d, e, hd, he => by
    cases d with
    | non => cases e <;> first | rfl | (cases n <;> simp [shp] at he)
    | bl a =>
      cases e with
      | bl b => show decide (a = b) = (a == b); exact (beq_dec a b).symm
      | int j => show decide (_ = j) = (_ == j); exact (beq_dec _ j).symm
      | _ => first | rfl | (cases n <;> simp [shp] at he)
    | int a =>
      cases e with
      | bl b => show decide (a = _) = (a == _); exact (beq_dec a _).symm
      | int j => show decide (a = j) = (a == j); exact (beq_dec _ j).symm
      | _ => first | rfl | (cases n <;> simp [shp] at he)
    | str a =>
      cases e with
      | str b => show decide (a = b) = (a == b); exact (beq_dec a b).symm
      | _ => first | rfl | (cases n <;> simp [shp] at he)
    | tup l =>
      cases e with
      | tup m =>
        cases n with
        | zero => simp [shp] at hd
        | succ n =>
          simp only [shp] at hd he
          show eqvL l m = PyData.eqvAll (toPL l) (toPL m)
          exact eqvL_toP n l m hd he
      | _ => first | rfl | (cases n <;> simp [shp] at he)
    | lst l =>
      cases e with
      | lst m =>
        cases n with
        | zero => simp [shp] at hd
        | succ n =>
          simp only [shp] at hd he
          show eqvL l m = PyData.eqvAll (toPL l) (toPL m)
          exact eqvL_toP n l m hd he
      | _ => first | rfl | (cases n <;> simp [shp] at he)
    | dct l => cases n <;> simp [shp] at hd
    | obj c l => cases n <;> simp [shp] at hd
    | scr l => cases n <;> simp [shp] at hd
    | xo => cases n <;> simp [shp] at hd
theorem eqvL_toP : ∀ (n : Nat) (l m : List D), shpL n l = true → shpL n m = true → eqvL l m = PyData.eqvAll (toPL l) (toPL m)
  | n, [], [], _, _ => rfl
  | n, [], _ :: _, _, _ => rfl
  | n, _ :: _, [], _, _ => rfl
  | n, d :: l, e :: m, hd, he => by
    simp only [shpL] at hd he
    have h1 := band hd
    have h2 := band he
    show (eqv d e && eqvL l m) = (PyData.eqv (toP d) (toP e) && PyData.eqvAll (toPL l) (toPL m))
    rw [eqv_toP n d e h1.1 h2.1, eqvL_toP n l m h1.2 h2.2]
end
mutual
theorem shp_toP : ∀ (n : Nat) (d : D), shp n d = true → (toP d).canLay0 = true ∧ (toP d).depth ≤ n
  | n, d, h => by
    cases d with
    | non => exact ⟨rfl, Nat.zero_le _⟩
    | bl a => exact ⟨rfl, Nat.zero_le _⟩
    | int a => exact ⟨rfl, Nat.zero_le _⟩
    | str x =>
      have h' : PyData.strOk x = true := by cases n <;> simpa [shp] using h
      exact ⟨by simpa [toP, PyData.canLay0] using h', Nat.zero_le _⟩
    | tup l =>
      cases n with
      | zero => simp [shp] at h
      | succ n =>
        simp only [shp] at h
        have q := shpL_toP n l h
        exact ⟨by simpa [toP, PyData.canLay0] using q.1, by simp only [toP, PyData.depth]; omega⟩
    | lst l =>
      cases n with
      | zero => simp [shp] at h
      | succ n =>
        simp only [shp] at h
        have q := shpL_toP n l h
        exact ⟨by simpa [toP, PyData.canLay0] using q.1, by simp only [toP, PyData.depth]; omega⟩
    | dct l => cases n <;> simp [shp] at h
    | obj c l => cases n <;> simp [shp] at h
    | scr l => cases n <;> simp [shp] at h
    | xo => cases n <;> simp [shp] at h
theorem shpL_toP : ∀ (n : Nat) (l : List D), shpL n l = true → PyData.canLayAll0 (toPL l) = true ∧ PyData.depthAll (toPL l) ≤ n
  | n, [], _ => ⟨rfl, Nat.zero_le _⟩
  | n, d :: l, h => by
    simp only [shpL] at h
    have h1 := band h
    have q1 := shp_toP n d h1.1
    have q2 := shpL_toP n l h1.2
    refine ⟨by simp only [toPL, PyData.canLayAll0, q1.1, q2.1, Bool.and_self], ?_⟩
    simp only [toPL, PyData.depthAll]
    omega
end
theorem shaped_of {d : D} (h : shp 9 d = true) : SeqAt.shaped (toP d) = true := by
  have q := shp_toP 9 d h
  exact Bool.and_eq_true_iff.mpr ⟨q.1, decide_eq_true (by omega)⟩
mutual
theorem rep_dp {K : PySem.W.Frag} {G : Ctx} {F H : Hp} (le : Le F H) : ∀ (n : Nat) (d : D) (v : V), shp n d = true → Rep K G F d v → Dp K H v (toP d)
  | n, d, v, h, r => by
    cases d with
    | non => rw [Rep.non.mp r]; exact .non
    | bl a => rw [Rep.bl.mp r]; exact .bl a
    | int a => rw [Rep.int.mp r]; exact .int a
    | str x => rw [Rep.str.mp r]; exact .str x
    | tup l =>
      cases n with
      | zero => simp [shp] at h
      | succ n =>
        simp only [shp] at h
        obtain ⟨a, vs, rfl, q, rl⟩ := Rep.tup.mp r
        exact .tup (le.sqt q) (rep_dpL le n l vs h rl)
    | lst l =>
      cases n with
      | zero => simp [shp] at h
      | succ n =>
        simp only [shp] at h
        obtain ⟨a, vs, rfl, q, rl⟩ := Rep.lst.mp r
        exact .lst (SqL.of (le _ _ q)) (rep_dpL le n l vs h rl)
    | dct l => cases n <;> simp [shp] at h
    | obj c l => cases n <;> simp [shp] at h
    | scr l => cases n <;> simp [shp] at h
    | xo => cases n <;> simp [shp] at h
theorem rep_dpL {K : PySem.W.Frag} {G : Ctx} {F H : Hp} (le : Le F H) : ∀ (n : Nat) (l : List D) (vs : List V), shpL n l = true → RepL K G F l vs → DpAll K H vs (toPL l)
  | n, [], vs, _, r => by rw [RepL.nil.mp r]; exact .nil
  | n, d :: l, vs, h, r => by
    simp only [shpL] at h
    have h1 := band h
    obtain ⟨v, w, rfl, q1, q2⟩ := RepL.cons.mp r
    exact .cons (rep_dp le n d v h1.1 q1) (rep_dpL le n l w h1.2 q2)
end

/-! ### operators on data -/
theorem RepS.int {K : PySem.W.Frag} {G : Ctx} {F H H' : Hp} {i : Int} : RepS K G F H H' (.fz (.int i)) (.int i) := show Rep K G F (.int i) _ from Rep.int.mpr rfl
theorem RepS.bl {K : PySem.W.Frag} {G : Ctx} {F H H' : Hp} {i : Bool} : RepS K G F H H' (.fz (.bl i)) (.bl i) := show Rep K G F (.bl i) _ from Rep.bl.mpr rfl
theorem RepS.str {K : PySem.W.Frag} {G : Ctx} {F H H' : Hp} {i : Str} : RepS K G F H H' (.fz (.str i)) (.str i) := show Rep K G F (.str i) _ from Rep.str.mpr rfl
theorem RepS.non {K : PySem.W.Frag} {G : Ctx} {F H H' : Hp} : RepS K G F H H' (.fz .non) .non := show Rep K G F .non _ from Rep.non.mpr rfl
section
variable {X : Cx} {G : Ctx} {k : Nat}
abbrev fzI (i : Int) : Option S := some (.fz (.int i))
abbrev fzB (b : Bool) : Option S := some (.fz (.bl b))
theorem OpR.d {f : Value → Value → Sem Value} {g : D → D → Option S}
    (h : ∀ (F H : Hp) (dx dy : D) (s : S) (x y : V) (Q : VK), Le F H → Rep X.K G F dx x → Rep X.K G F dy y → g dx dy = some s → (∀ v H' F', Ext F H F' H' → RepS X.K G F' H H' s v → Q v H') → ∃ r, OpR X f r ∧ r x y H Q) : OpR X f (rD X.K G g) := by
  rintro pins s σ H x y v u Q I rx ry ⟨F, dx, dy, t, le, r1, r2, e, q⟩
  obtain ⟨r, ho, hr⟩ := h F H dx dy t x y Q le r1 r2 e q
  exact ho pins s σ H x y v u Q I rx ry hr

def eqO (d e : D) : Option S := if shp 9 d = true ∧ shp 9 e = true then fzB (eqv d e) else none
def neO (d e : D) : Option S := if shp 9 d = true ∧ shp 9 e = true then fzB (!eqv d e) else none
theorem od_eq (hr : Room k X.A) : OpR X (compareOp .Eq) (rD X.K G eqO) := OpR.d fun F H dx dy s x y Q le r1 r2 e q => by
  unfold eqO at e
  split at e
  · rename_i h
    cases e
    refine ⟨_, op_eqD hr.units, toP dx, toP dy, rep_dp le 9 dx x h.1 r1, rep_dp le 9 dy y h.2 r2, shaped_of h.1, shaped_of h.2, ?_⟩
    rw [← eqv_toP 9 dx dy h.1 h.2]
    exact q _ H F (.refl le) RepS.bl
  · cases e
theorem od_ne (hr : Room k X.A) : OpR X (compareOp .NotEq) (rD X.K G neO) := OpR.d fun F H dx dy s x y Q le r1 r2 e q => by
  unfold neO at e
  split at e
  · rename_i h
    cases e
    refine ⟨_, op_neD hr.units, toP dx, toP dy, rep_dp le 9 dx x h.1 r1, rep_dp le 9 dy y h.2 r2, shaped_of h.1, shaped_of h.2, ?_⟩
    rw [← eqv_toP 9 dx dy h.1 h.2]
    exact q _ H F (.refl le) RepS.bl
  · cases e
/-- ints in, an int or a bool out -/
def intO (g : Int → Int → D) : D → D → Option S
  | .int i, .int j => some (.fz (g i j))
  | _, _ => none
theorem intO_inv {g : Int → Int → D} {d e : D} {s : S} (h : intO g d e = some s) : ∃ i j, d = .int i ∧ e = .int j ∧ s = .fz (g i j) := by
  cases d <;> cases e <;> first | exact ⟨_, _, rfl, rfl, (Option.some.inj h).symm⟩ | cases h
def ltO := intO fun i j => .bl (decide (i < j))
def leO := intO fun i j => .bl (decide (i ≤ j))
def gtO := intO fun i j => .bl (decide (j < i))
def geO := intO fun i j => .bl (decide (j ≤ i))
def subO := intO fun i j => .int (i - j)
def andO := intO fun i j => .int (Builtin.bitAnd i j)
def orO := intO fun i j => .int (Builtin.bitOr i j)
def xorO := intO fun i j => .int (Builtin.bitXor i j)
theorem od_int0 {f : Value → Value → Sem Value} {g : Int → Int → V} {g' : Int → Int → D} (ho : OpR X f (rI0 g)) (hg : ∀ i j F, Rep X.K G F (g' i j) (g i j)) : OpR X f (rD X.K G (intO g')) := OpR.d fun F H dx dy s x y Q le r1 r2 e q => by
  obtain ⟨i, j, rfl, rfl, rfl⟩ := intO_inv e
  exact ⟨_, ho, i, j, Rep.int.mp r1, Rep.int.mp r2, q _ H F (.refl le) (hg i j F)⟩
theorem od_lt : OpR X (compareOp .Lt) (rD X.K G ltO) := od_int0 op_lt fun _ _ _ => Rep.bl.mpr rfl
theorem od_le : OpR X (compareOp .LtE) (rD X.K G leO) := od_int0 op_le fun _ _ _ => Rep.bl.mpr rfl
theorem od_gt : OpR X (compareOp .Gt) (rD X.K G gtO) := od_int0 op_gt fun _ _ _ => Rep.bl.mpr rfl
theorem od_ge : OpR X (compareOp .GtE) (rD X.K G geO) := od_int0 op_ge fun _ _ _ => Rep.bl.mpr rfl
theorem od_sub : OpR X (binaryOp .Sub) (rD X.K G subO) := od_int0 op_sub fun _ _ _ => Rep.int.mpr rfl
theorem od_and : OpR X (binaryOp .BitAnd) (rD X.K G andO) := od_int0 op_and fun _ _ _ => Rep.int.mpr rfl
theorem od_or : OpR X (binaryOp .BitOr) (rD X.K G orO) := od_int0 op_or fun _ _ _ => Rep.int.mpr rfl
theorem od_xor : OpR X (binaryOp .BitXor) (rD X.K G xorO) := od_int0 op_xor fun _ _ _ => Rep.int.mpr rfl
/-- ints under a condition -/
def intC (C : Int → Int → Prop) [∀ i j, Decidable (C i j)] (g : Int → Int → Int) : D → D → Option S
  | .int i, .int j => if C i j then fzI (g i j) else none
  | _, _ => none
theorem intC_inv {C : Int → Int → Prop} [∀ i j, Decidable (C i j)] {g : Int → Int → Int} {d e : D} {s : S} (h : intC C g d e = some s) : ∃ i j, d = .int i ∧ e = .int j ∧ C i j ∧ s = .fz (.int (g i j)) := by
  obtain ⟨i, rfl⟩ : ∃ i, d = .int i := by cases d <;> first | exact ⟨_, rfl⟩ | cases h
  obtain ⟨j, rfl⟩ : ∃ j, e = .int j := by cases e <;> first | exact ⟨_, rfl⟩ | cases h
  have h' : (if C i j then fzI (g i j) else none) = some s := h
  split at h'
  · exact ⟨_, _, rfl, rfl, by assumption, (Option.some.inj h').symm⟩
  · cases h'
theorem od_intC {f : Value → Value → Sem Value} {C C' : Int → Int → Prop} [∀ i j, Decidable (C i j)] {g : Int → Int → Int} (ho : OpR X f (rI C' fun i j => .int (g i j))) (hc : ∀ i j, C i j → C' i j) : OpR X f (rD X.K G (intC C g)) := OpR.d fun F H dx dy s x y Q le r1 r2 e q => by
  obtain ⟨i, j, rfl, rfl, c, rfl⟩ := intC_inv e
  exact ⟨_, ho, i, j, Rep.int.mp r1, Rep.int.mp r2, hc i j c, q _ H F (.refl le) RepS.int⟩
def CM (i j : Int) : Prop := i.natAbs < 18446744073709551616 ∨ j.natAbs < 18446744073709551616
instance (i j : Int) : Decidable (CM i j) := inferInstanceAs (Decidable (_ ∨ _))
theorem CM.ok {i j : Int} (h : CM i j) : CMul i j := by
  have e : (2 : Int) ^ 64 = 18446744073709551616 := by decide
  unfold CMul
  rw [e]
  unfold CM at h
  omega
def CD (_ j : Int) : Prop := 0 < j ∧ j < 1073741824
instance (i j : Int) : Decidable (CD i j) := inferInstanceAs (Decidable (_ ∧ _))
def CP (_ j : Int) : Prop := 0 < j
instance (i j : Int) : Decidable (CP i j) := inferInstanceAs (Decidable (_ < _))
def CW (i j : Int) : Prop := 0 ≤ j ∧ j ≤ 1000000 ∧ i.natAbs < 18446744073709551616
instance (i j : Int) : Decidable (CW i j) := inferInstanceAs (Decidable (_ ∧ _ ∧ _))
def CR' (_ j : Int) : Prop := 0 ≤ j
instance (i j : Int) : Decidable (CR' i j) := inferInstanceAs (Decidable (_ ≤ _))
def fdivO := intC CD fun i j => i / j
def modO := intC CP fun i j => i % j
def powO := intC CW fun i j => i ^ j.toNat
def shlO := intC CW fun i j => i * 2 ^ j.toNat
def shrO := intC CR' fun i j => i / 2 ^ j.toNat
theorem CW.ok {i j : Int} (h : CW i j) : CPow i j := ⟨h.1, h.2.1, Nat.lt_of_lt_of_le h.2.2 (by decide)⟩
theorem od_fdiv : OpR X (binaryOp .FloorDiv) (rD X.K G fdivO) := od_intC op_fdiv fun _ _ h => h
theorem od_mod : OpR X (binaryOp .Mod) (rD X.K G modO) := od_intC op_mod fun _ _ h => h
theorem od_pow : OpR X (binaryOp .Pow) (rD X.K G powO) := od_intC op_pow fun _ _ h => h.ok
theorem od_shl : OpR X (binaryOp .LShift) (rD X.K G shlO) := od_intC op_shl fun _ _ h => h.ok
theorem od_shr : OpR X (binaryOp .RShift) (rD X.K G shrO) := od_intC op_shr fun _ _ h => h
/-- + -/
def addO : D → D → Option S
  | .int i, .int j => fzI (i + j)
  | .tup l, .tup m => if l.length + m.length ≤ LIM then some (.fz (.tup (l ++ m))) else none
  | .lst l, .lst m => if l.length + m.length ≤ LIM then some (.ow (l ++ m)) else none
  | .str x, .str y => if x.length + y.length ≤ LIM then some (.fz (.str (x ++ y))) else none
  | _, _ => none
end
end O

end

section
set_option Elab.async false
set_option linter.all false
set_option maxRecDepth 100000
namespace O
open PySem PySem.Spec PyProof.Rows L2

section
variable {X : Cx} {G : Ctx} {W : WX} {k : Nat}
/-- a new tuple | list as a result -/
theorem fin_tup {K : PySem.W.Frag} {F H : Hp} {Q : VK} {l : List D} {vs : List V} (le : Le F H) (r : RepL K G F l vs) (q : ∀ v H' F', Ext F H F' H' → RepS K G F' H H' (.fz (.tup l)) v → Q v H') : NT H vs Q := fun p us hp =>
  q _ _ _ ((Ext.refl le).new hp) (show Rep K G (upd F p _) (.tup l) _ from Rep.tup.mpr ⟨p, vs, rfl, .inl ⟨_, upd_same, rfl⟩, r.mono (Le.new (le.free hp))⟩)
theorem fin_lst {K : PySem.W.Frag} {F H : Hp} {Q : VK} {l : List D} {vs : List V} (le : Le F H) (r : RepL K G F l vs) (q : ∀ v H' F', Ext F H F' H' → RepS K G F' H H' (.ow l) v → Q v H') {p : Addr} (hp : H p = none) : Q (.ref p) (upd H p (.lst vs)) :=
  q _ _ _ ((Ext.refl le).newU hp) (show RepS K G F H _ (.ow l) _ from ⟨p, vs, rfl, upd_same, hp, le.free hp, r⟩)
theorem fin_fz {K : PySem.W.Frag} {F H : Hp} {Q : VK} {d : D} {v : V} (le : Le F H) (r : Rep K G F d v) (q : ∀ v H' F', Ext F H F' H' → RepS K G F' H H' (.fz d) v → Q v H') : Q v H := q _ _ _ (.refl le) r
/-! ### +, * -/
theorem od_add : OpR X (binaryOp .Add) (rD X.K G addO) := OpR.d fun F H dx dy s x y Q le r1 r2 e q => by
  cases dx with
  | int i =>
    cases dy with
    | int j =>
      cases e
      exact ⟨_, op_add, i, j, Rep.int.mp r1, Rep.int.mp r2, fin_fz le (Rep.int.mpr rfl) q⟩
    | _ => cases e
  | str i =>
    cases dy with
    | str j =>
      have e' : (if i.length + j.length ≤ LIM then some (S.fz (.str (i ++ j))) else none) = some s := e
      split at e'
      · rename_i hl
        cases e'
        exact ⟨_, op_add_str, i, j, Rep.str.mp r1, Rep.str.mp r2, LIM_le hl, fin_fz le (Rep.str.mpr rfl) q⟩
      · cases e'
    | _ => cases e
  | tup l =>
    cases dy with
    | tup m =>
      have e' : (if l.length + m.length ≤ LIM then some (S.fz (.tup (l ++ m))) else none) = some s := e
      split at e'
      · rename_i hl
        cases e'
        obtain ⟨a, vs, rfl, q1, rl⟩ := Rep.tup.mp r1
        obtain ⟨b, ws, rfl, q2, rm⟩ := Rep.tup.mp r2
        refine ⟨_, op_catZ, a, b, vs, ws, rfl, rfl, le.sqt q1, le.sqt q2, by rw [rl.length, rm.length]; exact LIM_le hl, fun z => ?_, fun _ z => ?_, fun _ _ => fin_tup le (rl.append rm) q⟩
        · have := rl.length
          rw [z] at this
          have hm := List.length_eq_zero_iff.mp this.symm
          subst hm
          exact fin_fz le r2 q
        · have := rm.length
          rw [z] at this
          have hm := List.length_eq_zero_iff.mp this.symm
          subst hm
          rw [List.append_nil] at q
          exact fin_fz le r1 q
      · cases e'
    | _ => cases e
  | lst l =>
    cases dy with
    | lst m =>
      have e' : (if l.length + m.length ≤ LIM then some (S.ow (l ++ m)) else none) = some s := e
      split at e'
      · rename_i hl
        cases e'
        obtain ⟨a, vs, rfl, q1, rl⟩ := Rep.lst.mp r1
        obtain ⟨b, ws, rfl, q2, rm⟩ := Rep.lst.mp r2
        exact ⟨_, op_cat, a, b, vs, ws, rfl, rfl, le _ _ q1, le _ _ q2, by rw [rl.length, rm.length]; exact LIM_le hl, fun p hp => fin_lst le (rl.append rm) q hp⟩
      · cases e'
    | _ => cases e
  | _ => cases dy <;> cases e
theorem RepL.rep {K : PySem.W.Frag} {F : Hp} {l : List D} {vs : List V} (h : RepL K G F l vs) : ∀ n : Nat, RepL K G F (List.replicate n l).flatten (List.replicate n vs).flatten
  | 0 => RepL.nil.mpr rfl
  | n + 1 => by
    rw [List.replicate_succ, List.replicate_succ, List.flatten_cons, List.flatten_cons]
    exact h.append (RepL.rep h n)
def mulO : D → D → Option S
  | .int i, .int j => if CM i j then fzI (i * j) else none
  | .lst l, .int j => if 0 ≤ j ∧ j ≤ 1000000 ∧ l.length * j.toNat ≤ LIM then some (.ow (List.replicate j.toNat l).flatten) else none
  | _, _ => none
theorem od_mul : OpR X (binaryOp .Mult) (rD X.K G mulO) := OpR.d fun F H dx dy s x y Q le r1 r2 e q => by
  cases dx with
  | int i =>
    cases dy with
    | int j =>
      have e' : (if CM i j then fzI (i * j) else none) = some s := e
      split at e'
      · rename_i hc
        cases e'
        exact ⟨_, op_mul, i, j, Rep.int.mp r1, Rep.int.mp r2, hc.ok, fin_fz le (Rep.int.mpr rfl) q⟩
      · cases e'
    | _ => cases e
  | lst l =>
    cases dy with
    | int j =>
      have e' : (if 0 ≤ j ∧ j ≤ 1000000 ∧ l.length * j.toNat ≤ LIM then some (S.ow (List.replicate j.toNat l).flatten) else none) = some s := e
      split at e'
      · rename_i hc
        cases e'
        obtain ⟨a, vs, rfl, q1, rl⟩ := Rep.lst.mp r1
        exact ⟨_, op_rep, a, j, vs, rfl, Rep.int.mp r2, le _ _ q1, by have := hc.1; omega, by have := hc.2.1; omega, by rw [rl.length]; exact LIM_le hc.2.2, fun p hp => fin_lst le (rl.rep _) q hp⟩
      · cases e'
    | _ => cases e
  | _ => cases dy <;> cases e
/-! ### -x -/
abbrev sNeg (fa : Env → RS) : Env → RS := fun ρ => (fa ρ).bind fun s => match s.d with | .int i => .ok (.fz (.int (-i))) | _ => .no
theorem de_neg {a : Expr} {fa : Env → RS} {pos : Pos} (ha : DE X G W a fa) : DE X G W (.UnaryOp .USub a pos) (sNeg fa) :=
  PE.imp (pe_un un_neg ha) fun σ H Q ⟨F, ρ, le, re, p⟩ => use le re p fun s v H1 F1 _ e1 r1 re1 p1 => by
    cases hs : s.d with
    | int i =>
      rw [hs] at p1 r1
      exact ⟨i, Rep.int.mp r1, p1.done (.refl e1.fh) RepS.int⟩
    | _ => rw [hs] at p1; exact p1.elim
/-! ### is None -/
def isN : D → Bool
  | .non => true
  | _ => false
theorem isN_ok {K : PySem.W.Frag} {F : Hp} {d : D} {v : V} (r : Rep K G F d v) : decide (v = .non) = isN d := by
  cases d with
  | non => rw [Rep.non.mp r]; rfl
  | bl b => rw [Rep.bl.mp r]; rfl
  | int b => rw [Rep.int.mp r]; rfl
  | str b => rw [Rep.str.mp r]; rfl
  | tup l => obtain ⟨a, vs, rfl, _⟩ := Rep.tup.mp r; rfl
  | lst l => obtain ⟨a, vs, rfl, _⟩ := Rep.lst.mp r; rfl
  | dct l => obtain ⟨a, vs, rfl, _⟩ := Rep.dct.mp r; rfl
  | obj c l => obtain ⟨a, C, dx, vs, rfl, _⟩ := Rep.obj.mp r; rfl
  | scr l => obtain ⟨a, rfl, _⟩ := Rep.scr.mp r; rfl
  | xo => obtain ⟨a, _, rfl⟩ := Rep.xo.mp r; rfl
def isO (d e : D) : Option S := match e with | .non => fzB (isN d) | _ => none
def isnotO (d e : D) : Option S := match e with | .non => fzB (!isN d) | _ => none
theorem od_is : OpR X (compareOp .Is) (rD X.K G isO) := OpR.d fun F H dx dy s x y Q le r1 r2 e q => by
  cases dy with
  | non =>
    cases e
    refine ⟨_, op_isN, Rep.non.mp r2, ?_⟩
    rw [isN_ok r1]
    exact fin_fz le (Rep.bl.mpr rfl) q
  | _ => cases e
theorem od_isnot : OpR X (compareOp .IsNot) (rD X.K G isnotO) := OpR.d fun F H dx dy s x y Q le r1 r2 e q => by
  cases dy with
  | non =>
    cases e
    refine ⟨_, op_notN, Rep.non.mp r2, ?_⟩
    rw [isN_ok r1]
    exact fin_fz le (Rep.bl.mpr rfl) q
  | _ => cases e
/-! ### x in c -/
def flatD : D → Bool
  | .non => true
  | .bl _ => true
  | .int _ => true
  | .str x => PyData.strOk x
  | _ => false
def inB (x : D) (l : List D) : Bool := l.any fun y => eqv y x
def inO (x c : D) : Option S := match c with
  | .tup l => if flatD x = true ∧ l.all flatD = true then fzB (inB x l) else none
  | .lst l => if shp 9 x = true ∧ shpL 8 l = true then fzB (inB x l) else none
  | _ => none
def notInO (x c : D) : Option S := match c with
  | .tup l => if flatD x = true ∧ l.all flatD = true then fzB (!inB x l) else none
  | .lst l => if shp 9 x = true ∧ shpL 8 l = true then fzB (!inB x l) else none
  | _ => none
theorem flat_v {K : PySem.W.Frag} {F : Hp} {d : D} {v : V} (h : flatD d = true) (r : Rep K G F d v) : flatV v = true := by
  cases d with
  | non => rw [Rep.non.mp r]; rfl
  | bl b => rw [Rep.bl.mp r]; rfl
  | int b => rw [Rep.int.mp r]; rfl
  | str b => rw [Rep.str.mp r]; rfl
  | _ => cases h
theorem flat_eqv {K : PySem.W.Frag} {F : Hp} {d e : D} {v u : V} (h : flatD d = true) (h' : flatD e = true) (r : Rep K G F d v) (r' : Rep K G F e u) : eqV v u = eqv d e := by
  cases d with
  | non =>
    rw [Rep.non.mp r]
    cases e with
    | non => rw [Rep.non.mp r']; rfl
    | bl b => rw [Rep.bl.mp r']; rfl
    | int b => rw [Rep.int.mp r']; rfl
    | str b => rw [Rep.str.mp r']; rfl
    | _ => cases h'
  | bl a =>
    rw [Rep.bl.mp r]
    cases e with
    | non => rw [Rep.non.mp r']; rfl
    | bl b => rw [Rep.bl.mp r']; exact beq_dec a b
    | int b => rw [Rep.int.mp r']; exact beq_dec _ b
    | str b => rw [Rep.str.mp r']; rfl
    | _ => cases h'
  | int a =>
    rw [Rep.int.mp r]
    cases e with
    | non => rw [Rep.non.mp r']; rfl
    | bl b => rw [Rep.bl.mp r']; exact beq_dec a _
    | int b => rw [Rep.int.mp r']; exact beq_dec _ b
    | str b => rw [Rep.str.mp r']; rfl
    | _ => cases h'
  | str a =>
    rw [Rep.str.mp r]
    cases e with
    | non => rw [Rep.non.mp r']; rfl
    | bl b => rw [Rep.bl.mp r']; rfl
    | int b => rw [Rep.int.mp r']; rfl
    | str b => rw [Rep.str.mp r']; exact beq_dec a b
    | _ => cases h'
  | _ => cases h
theorem flat_all {K : PySem.W.Frag} {F : Hp} : ∀ {l : List D} {vs : List V}, l.all flatD = true → RepL K G F l vs → vs.all flatV = true
  | [], vs, _, r => by rw [RepL.nil.mp r]; rfl
  | d :: l, vs, h, r => by
    obtain ⟨v, w, rfl, r1, r2⟩ := RepL.cons.mp r
    rw [List.all_cons] at h ⊢
    have h := band h
    rw [flat_v h.1 r1, flat_all h.2 r2]; rfl
theorem flat_in {K : PySem.W.Frag} {F : Hp} {x : D} {u : V} (hx : flatD x = true) (rx : Rep K G F x u) : ∀ {l : List D} {vs : List V}, l.all flatD = true → RepL K G F l vs → inV u vs = inB x l
  | [], vs, _, r => by rw [RepL.nil.mp r]; rfl
  | d :: l, vs, h, r => by
    obtain ⟨v, w, rfl, r1, r2⟩ := RepL.cons.mp r
    rw [List.all_cons] at h
    have h := band h
    unfold inV inB
    rw [List.any_cons, List.any_cons, flat_eqv h.1 hx r1 rx]
    exact congrArg _ (flat_in hx rx h.2 r2)
mutual
theorem shp_up : ∀ (n : Nat) (d : D), shp n d = true → shp (n + 1) d = true
  | n, d, h => by
    cases d with
    | non => cases n <;> rfl
    | bl b => cases n <;> rfl
    | int b => cases n <;> rfl
    | str x => cases n <;> simpa [shp] using h
    | tup l =>
      cases n with
      | zero => simp [shp] at h
      | succ n =>
        simp only [shp] at h ⊢
        exact shpL_up n l h
    | lst l =>
      cases n with
      | zero => simp [shp] at h
      | succ n =>
        simp only [shp] at h ⊢
        exact shpL_up n l h
    | dct l => cases n <;> simp [shp] at h
    | obj c l => cases n <;> simp [shp] at h
    | scr l => cases n <;> simp [shp] at h
    | xo => cases n <;> simp [shp] at h
theorem shpL_up : ∀ (n : Nat) (l : List D), shpL n l = true → shpL (n + 1) l = true
  | n, [], h => by simp [shpL]
  | n, d :: l, h => by
    simp only [shpL] at h ⊢
    have h := band h
    rw [shp_up n d h.1, shpL_up n l h.2]; rfl
end
theorem any_toP {x : D} (hx : shp 9 x = true) : ∀ {l : List D}, shpL 8 l = true → ((toPL l).any fun z => PyData.eqv z (toP x)) = inB x l
  | [], _ => by simp [toPL, inB]
  | d :: l, h => by
    simp only [shpL] at h
    have h := band h
    unfold inB
    simp only [toPL, List.any_cons]
    rw [← eqv_toP 9 d x (shp_up 8 d h.1) hx]
    exact congrArg _ (any_toP hx h.2)
theorem shaped_list {l : List D} (h : shpL 8 l = true) : SeqAt.shaped (.list (toPL l)) = true := by
  have q := shaped_of (d := .lst l) (by simpa [shp] using h)
  simpa [toP] using q
theorem od_in (hr : Room k X.A) : OpR X (compareOp .In) (rD X.K G inO) := OpR.d fun F H dx dy s x y Q le r1 r2 e q => by
  cases dy with
  | tup l =>
    have e' : (if flatD dx = true ∧ l.all flatD = true then fzB (inB dx l) else none) = some s := e
    split at e'
    · rename_i hc
      cases e'
      obtain ⟨a, vs, rfl, q2, rl⟩ := Rep.tup.mp r2
      refine ⟨_, op_in_seq, a, vs, rfl, .inr (le.sqt q2), flat_v hc.1 r1, flat_all hc.2 rl, ?_⟩
      rw [flat_in hc.1 r1 hc.2 rl]
      exact fin_fz le (Rep.bl.mpr rfl) q
    · cases e'
  | lst l =>
    have e' : (if shp 9 dx = true ∧ shpL 8 l = true then fzB (inB dx l) else none) = some s := e
    split at e'
    · rename_i hc
      cases e'
      obtain ⟨a, vs, rfl, q2, rl⟩ := Rep.lst.mp r2
      refine ⟨_, op_inD (by have := hr.un; omega), toP dx, toPL l, rep_dp le 9 dx x hc.1 r1, .lst (SqL.of (le _ _ q2)) (rep_dpL le 8 l vs hc.2 rl), shaped_of hc.1, shaped_list hc.2, ?_⟩
      rw [any_toP hc.1 hc.2]
      exact fin_fz le (Rep.bl.mpr rfl) q
    · cases e'
  | _ => cases e
theorem od_notIn (hr : Room k X.A) : OpR X (compareOp .NotIn) (rD X.K G notInO) := OpR.d fun F H dx dy s x y Q le r1 r2 e q => by
  cases dy with
  | tup l =>
    have e' : (if flatD dx = true ∧ l.all flatD = true then fzB (!inB dx l) else none) = some s := e
    split at e'
    · rename_i hc
      cases e'
      obtain ⟨a, vs, rfl, q2, rl⟩ := Rep.tup.mp r2
      refine ⟨_, op_notIn_seq, a, vs, rfl, .inr (le.sqt q2), flat_v hc.1 r1, flat_all hc.2 rl, ?_⟩
      rw [flat_in hc.1 r1 hc.2 rl]
      exact fin_fz le (Rep.bl.mpr rfl) q
    · cases e'
  | lst l =>
    have e' : (if shp 9 dx = true ∧ shpL 8 l = true then fzB (!inB dx l) else none) = some s := e
    split at e'
    · rename_i hc
      cases e'
      obtain ⟨a, vs, rfl, q2, rl⟩ := Rep.lst.mp r2
      refine ⟨_, op_notInD (by have := hr.un; omega), toP dx, toPL l, rep_dp le 9 dx x hc.1 r1, .lst (SqL.of (le _ _ q2)) (rep_dpL le 8 l vs hc.2 rl), shaped_of hc.1, shaped_list hc.2, ?_⟩
      rw [any_toP hc.1 hc.2]
      exact fin_fz le (Rep.bl.mpr rfl) q
    · cases e'
  | _ => cases e
/-! ### items, slices -/
def ixO (c i : D) : Option S := match c, i with
  | .tup l, .int i => (atI l i).map S.fz
  | .lst l, .int i => (atI l i).map S.fz
  | .scr l, .int i => (atI l i).map fun z => S.fz (.int z)
  | _, _ => none
theorem RepL.atI {K : PySem.W.Frag} {F : Hp} {l : List D} {vs : List V} {i : Int} {d : D} (r : RepL K G F l vs) (h : L2.atI l i = some d) : ∃ v, L2.atI vs i = some v ∧ Rep K G F d v := by
  unfold L2.atI at h ⊢
  rw [r.length]
  cases e : ixN l.length i with
  | none => rw [e] at h; cases h
  | some j =>
    rw [e] at h
    exact RepL.getD r h
theorem IxR.d {g : D → D → Option S} (h : ∀ (F H : Hp) (dx dy : D) (s : S) (x y : V) (Q : VK), Le F H → Rep X.K G F dx x → Rep X.K G F dy y → g dx dy = some s → (∀ v H' F', Ext F H F' H' → RepS X.K G F' H H' s v → Q v H') → ∃ r, IxR X r ∧ r x y H Q) : IxR X (rD X.K G g) := by
  rintro value slice pins s σ H x y v u Q I rx ry ⟨F, dx, dy, t, le, r1, r2, e, q⟩ hs
  obtain ⟨r, ho, hr⟩ := h F H dx dy t x y Q le r1 r2 e q
  exact ho value slice pins s σ H x y v u Q I rx ry hr hs
theorem ixd : IxR X (rD X.K G ixO) := IxR.d fun F H dx dy s x y Q le r1 r2 e q => by
  cases dy with
  | int i =>
    cases dx with
    | tup l =>
      have e' : (atI l i).map S.fz = some s := e
      obtain ⟨d, hd, rfl⟩ := Option.map_eq_some_iff.mp e'
      obtain ⟨a, vs, rfl, q1, rl⟩ := Rep.tup.mp r1
      obtain ⟨v, hv, rv⟩ := RepL.atI rl hd
      exact ⟨_, ix_tup, a, vs, i, v, rfl, Rep.int.mp r2, le.sqt q1, hv, fin_fz le rv q⟩
    | lst l =>
      have e' : (atI l i).map S.fz = some s := e
      obtain ⟨d, hd, rfl⟩ := Option.map_eq_some_iff.mp e'
      obtain ⟨a, vs, rfl, q1, rl⟩ := Rep.lst.mp r1
      obtain ⟨v, hv, rv⟩ := RepL.atI rl hd
      exact ⟨_, ix_list, a, vs, i, v, rfl, Rep.int.mp r2, SqL.of (le _ _ q1), hv, fin_fz le rv q⟩
    | scr l =>
      have e' : ((atI l i).map fun z => S.fz (.int z)) = some s := e
      obtain ⟨z, hz, rfl⟩ := Option.map_eq_some_iff.mp e'
      obtain ⟨a, rfl, q1⟩ := Rep.scr.mp r1
      refine ⟨_, ix_list, a, l.map V.int, i, .int z, rfl, Rep.int.mp r2, le.sql q1, ?_, fin_fz le (Rep.int.mpr rfl) q⟩
      unfold L2.atI at hz ⊢
      rw [List.length_map]
      cases e : ixN l.length i with
      | none => rw [e] at hz; cases hz
      | some j =>
        rw [e] at hz
        show (l.map V.int)[j]? = _
        rw [List.getElem?_map]
        have hz' : l[j]? = some z := hz
        rw [hz']; rfl
    | _ => cases e
  | _ => cases dx <;> cases e
def cutD {α : Type} (l : List α) (lo hi : Option Int) : List α := (l.drop (HT.sIx l.length 0 lo)).take (HT.sIx l.length l.length hi - HT.sIx l.length 0 lo)
theorem RepL.cut' {K : PySem.W.Frag} {F : Hp} {l : List D} {vs : List V} (r : RepL K G F l vs) (lo hi : Option Int) : RepL K G F (cutD l lo hi) (cutV vs lo hi) := by
  unfold cutD cutV
  rw [r.length]
  exact RepL.take _ (RepL.drop _ r)
def slO (c : D) (lo hi : Option Int) : Option S := match c with
  | .tup l => some (.fz (.tup (cutD l lo hi)))
  | .lst l => some (.ow (cutD l lo hi))
  | _ => none
abbrev sPart (f : Option (Env → RS)) : Env → R (Option Int) := match f with
  | none => fun _ => .ok none
  | some f => fun ρ => (f ρ).bind fun s => match s.d with | .int i => .ok (some i) | _ => .no
def tO (K : PySem.W.Frag) (G : Ctx) (W : WX) (f : Env → R (Option Int)) : TO := fun σ H Q => ∃ F ρ, Le F H ∧ REnv K G F σ ρ ∧ Post K G (fun _ b b' => b' = b) F H (f ρ) Q (WE W σ)
def DO (X : Cx) (G : Ctx) (W : WX) (e : Option Expr) (f : Env → R (Option Int)) : Prop := PO X e (tO X.K G W f)
theorem PO.imp {e : Option Expr} {t t' : TO} (h : PO X e t) (i : ∀ σ H Q, t' σ H Q → t σ H Q) : PO X e t' := ⟨fun pins s σ H Q I q => h.run pins s σ H Q I (i σ H Q q)⟩
theorem do_none : DO X G W none (sPart none) := PO.imp po_none fun σ H Q ⟨F, ρ, le, re, p⟩ => p none H F (.refl le) rfl
theorem do_some {e : Expr} {f : Env → RS} (h : DE X G W e f) : DO X G W (some e) (sPart (some f)) := PO.imp (po_some h) fun σ H Q ⟨F, ρ, le, re, p⟩ => useG le re p fun s v H1 F1 _ e1 r1 re1 p1 => by
  cases hs : s.d with
  | int i => rw [hs] at p1 r1; exact ⟨i, Rep.int.mp r1, p1 _ H1 F1 (.refl e1.fh) rfl⟩
  | _ => rw [hs] at p1; exact p1.elim
abbrev sSl (fa : Env → RS) (flo fhi : Env → R (Option Int)) : Env → RS := fun ρ => (fa ρ).bind fun s => (flo ρ).bind fun lo => (fhi ρ).bind fun hi => R.of (slO s.d lo hi)
theorem useO {K : PySem.W.Frag} {f : Env → R (Option Int)} {kk : Option Int → RS} {F H : Hp} {σ : L2.St} {ρ : Env} {Q : VK} (le : Le F H) (re : REnv K G F σ ρ) {Q' : Option Int → Hp → Prop} (p : PostS K G F H ((f ρ).bind kk) Q (WE W σ))
    (h : ∀ b H1 F1, f ρ = .ok b → Ext F H F1 H1 → REnv K G F1 σ ρ → PostS K G F1 H1 (kk b) Q (WE W σ) → Q' b H1) : tO K G W f σ H Q' := by
  refine ⟨F, ρ, le, re, ?_⟩
  cases hf : f ρ with
  | ok s =>
    rw [hf] at p
    intro v H1 F1 e r
    cases r
    exact h s H1 F1 hf e (re.mono e.f) (PostS.ext p e)
  | ex c fs =>
    rw [hf] at p
    exact p
  | no => rw [hf] at p; exact p
def rSlD (K : PySem.W.Frag) (G : Ctx) : V → Option Int → Option Int → Hp → VK → Prop := fun x lo hi H Q => ∃ F d s, Le F H ∧ Rep K G F d x ∧ slO d lo hi = some s ∧ ∀ v H' F', Ext F H F' H' → RepS K G F' H H' s v → Q v H'
theorem cut_whole {α : Type} {l : List α} {lo hi : Option Int} (h : HT.sIx l.length 0 lo = 0 ∧ HT.sIx l.length l.length hi = l.length) : cutD l lo hi = l := by
  unfold cutD
  rw [h.1, h.2, List.drop_zero, Nat.sub_zero, List.take_length]
theorem sld : SlR X (rSlD X.K G) := by
  intro pins s σ H x v vl vu lo hi sl Q I rx hs pl pu h
  obtain ⟨F, d, t, le, r1, e, q⟩ := h
  cases d with
  | tup l =>
    cases e
    obtain ⟨a, vs, rfl, q1, rl⟩ := Rep.tup.mp r1
    refine sl_tupZ pins s σ H _ v vl vu lo hi sl Q I rx hs pl pu ⟨a, vs, rfl, le.sqt q1, fun hw => ?_, fun _ => fin_tup le (rl.cut' lo hi) q⟩
    rw [rl.length] at hw
    rw [cut_whole hw] at q
    exact fin_fz le r1 q
  | lst l =>
    cases e
    obtain ⟨a, vs, rfl, q1, rl⟩ := Rep.lst.mp r1
    exact sl_list pins s σ H _ v vl vu lo hi sl Q I rx hs pl pu ⟨a, vs, rfl, SqL.of (le _ _ q1), fun p hp => fin_lst le (rl.cut' lo hi) q hp⟩
  | _ => cases e
theorem de_sl {a : Expr} {lo hi : Option Expr} {fa : Env → RS} {flo fhi : Env → R (Option Int)} {p2 pos : Pos} (ha : DE X G W a fa) (hl : DO X G W lo flo) (hh : DO X G W hi fhi) : DE X G W (.Subscript a (.Slice lo hi none p2) pos) (sSl fa flo fhi) :=
  PE.imp (pe_slice sld ha hl hh) fun σ H Q ⟨F, ρ, le, re, p⟩ => use le re p fun s v H1 F1 _ e1 r1 re1 p1 => by
    refine useO e1.fh re1 p1 fun l H2 F2 _ e2 re2 p2 => ?_
    refine useO e2.fh re2 p2 fun u H3 F3 _ e3 re3 p3 => ?_
    cases hg : slO s.d l u with
    | none => rw [hg] at p3; exact p3.elim
    | some t => rw [hg] at p3; exact ⟨F3, s.d, t, e3.fh, r1.mono (e2.f.trans e3.f), hg, p3⟩
end
end O

end

section
set_option Elab.async false
set_option linter.all false
set_option maxRecDepth 100000
namespace O
open PySem PySem.Spec PyProof.Rows L2

section
variable {X : Cx} {G : Ctx} {W : WX} {k : Nat}
theorem CallR.d {f : Value} {g : List D → Option S}
    (h : ∀ (F H : Hp) (ds : List D) (s : S) (xs : List V) (Q : VK), Le F H → RepL X.K G F ds xs → g ds = some s → (∀ v H' F', Ext F H F' H' → RepS X.K G F' H H' s v → Q v H') → ∃ r, CallR X f r ∧ r xs H Q) : CallR X f (rC X.K G g) := by
  rintro pins s σ H xs us Q I rv ⟨F, ds, t, le, r1, e, q⟩
  obtain ⟨r, ho, hr⟩ := h F H ds t xs Q le r1 e q
  exact ho pins s σ H xs us Q I rv hr
theorem RepL.one_inv {K : PySem.W.Frag} {F : Hp} {d : D} {vs : List V} (h : RepL K G F [d] vs) : ∃ v, vs = [v] ∧ Rep K G F d v := by
  obtain ⟨v, r, rfl, h1, h2⟩ := RepL.cons.mp h
  rw [RepL.nil.mp h2]
  exact ⟨v, rfl, h1⟩
theorem RepL.two_inv {K : PySem.W.Frag} {F : Hp} {d e : D} {vs : List V} (h : RepL K G F [d, e] vs) : ∃ v w, vs = [v, w] ∧ Rep K G F d v ∧ Rep K G F e w := by
  obtain ⟨v, r, rfl, h1, h2⟩ := RepL.cons.mp h
  obtain ⟨w, rfl, h3⟩ := h2.one_inv
  exact ⟨v, w, rfl, h1, h3⟩
/-- len -/
def lenO : List D → Option S
  | [.tup l] => fzI l.length
  | [.lst l] => fzI l.length
  | [.scr l] => fzI l.length
  | [.str x] => if x.length ≤ LIM then fzI x.length else none
  | _ => none
theorem cd_len : CallR X (.builtin "len") (rC X.K G lenO) := CallR.d fun F H ds s xs Q le r e q => by
  match ds, e with
  | [.tup l], e =>
    cases e
    obtain ⟨v, rfl, r0⟩ := r.one_inv
    obtain ⟨a, vs, rfl, q1, rl⟩ := Rep.tup.mp r0
    refine ⟨_, call_len_seq, a, vs, rfl, .inr (le.sqt q1), ?_⟩
    rw [rl.length]
    exact fin_fz le (Rep.int.mpr rfl) q
  | [.lst l], e =>
    cases e
    obtain ⟨v, rfl, r0⟩ := r.one_inv
    obtain ⟨a, vs, rfl, q1, rl⟩ := Rep.lst.mp r0
    refine ⟨_, call_len_seq, a, vs, rfl, .inl (SqL.of (le _ _ q1)), ?_⟩
    rw [rl.length]
    exact fin_fz le (Rep.int.mpr rfl) q
  | [.scr l], e =>
    cases e
    obtain ⟨v, rfl, r0⟩ := r.one_inv
    obtain ⟨a, rfl, q1⟩ := Rep.scr.mp r0
    refine ⟨_, call_len_seq, a, _, rfl, .inl (le.sql q1), ?_⟩
    rw [List.length_map]
    exact fin_fz le (Rep.int.mpr rfl) q
  | [.str x], e =>
    have e' : (if x.length ≤ LIM then fzI x.length else none) = some s := e
    split at e'
    · rename_i hl
      cases e'
      obtain ⟨v, rfl, r0⟩ := r.one_inv
      exact ⟨_, call_len_str, x, by rw [Rep.str.mp r0], LIM_le hl, fin_fz le (Rep.int.mpr rfl) q⟩
    · cases e'
/-- int -/
def intF : List D → Option S
  | [.int i] => fzI i
  | [.bl b] => fzI (if b then 1 else 0)
  | _ => none
theorem cd_int : CallR X (.type "int") (rC X.K G intF) := CallR.d fun F H ds s xs Q le r e q => by
  match ds, e with
  | [.int i], e =>
    cases e
    obtain ⟨v, rfl, r0⟩ := r.one_inv
    exact ⟨_, call_int1, .inl ⟨i, by rw [Rep.int.mp r0], fin_fz le (Rep.int.mpr rfl) q⟩⟩
  | [.bl i], e =>
    cases e
    obtain ⟨v, rfl, r0⟩ := r.one_inv
    exact ⟨_, call_int1, .inr ⟨i, by rw [Rep.bl.mp r0], fin_fz le (Rep.int.mpr rfl) q⟩⟩
/-- abs -/
def absF : List D → Option S
  | [.int i] => fzI (if i < 0 then -i else i)
  | _ => none
theorem cd_abs : CallR X (.builtin "abs") (rC X.K G absF) := CallR.d fun F H ds s xs Q le r e q => by
  match ds, e with
  | [.int i], e =>
    cases e
    obtain ⟨v, rfl, r0⟩ := r.one_inv
    exact ⟨_, call_abs, i, by rw [Rep.int.mp r0], fin_fz le (Rep.int.mpr rfl) q⟩
/-- tuple, list -/
def tupF : List D → Option S
  | [.tup l] => some (.fz (.tup l))
  | [.lst l] => some (.fz (.tup l))
  | _ => none
theorem cd_tup : CallR X (.type "tuple") (rC X.K G tupF) := CallR.d fun F H ds s xs Q le r e q => by
  match ds, e with
  | [.tup l], e =>
    cases e
    obtain ⟨v, rfl, r0⟩ := r.one_inv
    obtain ⟨a, vs, rfl, q1, rl⟩ := Rep.tup.mp r0
    exact ⟨_, call_tupZ, a, vs, rfl, .inr ⟨le.sqt q1, fin_fz le r0 q⟩⟩
  | [.lst l], e =>
    cases e
    obtain ⟨v, rfl, r0⟩ := r.one_inv
    obtain ⟨a, vs, rfl, q1, rl⟩ := Rep.lst.mp r0
    exact ⟨_, call_tupZ, a, vs, rfl, .inl ⟨SqL.of (le _ _ q1), fin_tup le rl q⟩⟩
def lstF : List D → Option S
  | [.tup l] => some (.ow l)
  | [.lst l] => some (.ow l)
  | _ => none
theorem cd_lst : CallR X (.type "list") (rC X.K G lstF) := CallR.d fun F H ds s xs Q le r e q => by
  match ds, e with
  | [.tup l], e =>
    cases e
    obtain ⟨v, rfl, r0⟩ := r.one_inv
    obtain ⟨a, vs, rfl, q1, rl⟩ := Rep.tup.mp r0
    exact ⟨_, call_list_of, a, vs, rfl, .inr (le.sqt q1), fun p hp => fin_lst le rl q hp⟩
  | [.lst l], e =>
    cases e
    obtain ⟨v, rfl, r0⟩ := r.one_inv
    obtain ⟨a, vs, rfl, q1, rl⟩ := Rep.lst.mp r0
    exact ⟨_, call_list_of, a, vs, rfl, .inl (SqL.of (le _ _ q1)), fun p hp => fin_lst le rl q hp⟩
/-- min, max of two -/
def min2F : List D → Option S
  | [.int i, .int j] => fzI (if j < i then j else i)
  | _ => none
def max2F : List D → Option S
  | [.int i, .int j] => fzI (if j > i then j else i)
  | _ => none
theorem cd_min2 (hc : X.calm = true) : CallR X (.builtin "min") (rC X.K G min2F) := CallR.d fun F H ds s xs Q le r e q => by
  match ds, e with
  | [.int i, .int j], e =>
    cases e
    obtain ⟨v, w, rfl, r0, r1⟩ := r.two_inv
    exact ⟨_, call_min2 hc, i, j, by rw [Rep.int.mp r0, Rep.int.mp r1], fin_fz le (Rep.int.mpr rfl) q⟩
theorem cd_max2 (hc : X.calm = true) : CallR X (.builtin "max") (rC X.K G max2F) := CallR.d fun F H ds s xs Q le r e q => by
  match ds, e with
  | [.int i, .int j], e =>
    cases e
    obtain ⟨v, w, rfl, r0, r1⟩ := r.two_inv
    exact ⟨_, call_max2 hc, i, j, by rw [Rep.int.mp r0, Rep.int.mp r1], fin_fz le (Rep.int.mpr rfl) q⟩
/-! ### isinstance of a built-in class -/
inductive Ty | bool | int | tuple | list | str
def Ty.n : Ty → String
  | .bool => "bool" | .int => "int" | .tuple => "tuple" | .list => "list" | .str => "str"
def tyN : D → Option String
  | .non => some "NoneType"
  | .bl _ => some "bool"
  | .int _ => some "int"
  | .str _ => some "str"
  | .tup _ => some "tuple"
  | .lst _ => some "list"
  | .dct _ => some "dict"
  | _ => none
def isTy (T : Ty) : D → Option Bool
  | .non => some false
  | .bl _ => some (match T with | .bool => true | .int => true | _ => false)
  | .int _ => some (match T with | .int => true | _ => false)
  | .str _ => some (match T with | .str => true | _ => false)
  | .tup _ => some (match T with | .tuple => true | _ => false)
  | .lst _ => some (match T with | .list => true | _ => false)
  | .dct _ => some false
  | _ => none
theorem isTy_kit {K : PySem.W.Frag} {T : Ty} {d : D} {b : Bool} (h : isTy T d = some b) : ∃ t, tyN d = some t ∧ PySem.W.kitOne K (.type t) (.type T.n) = some b := by
  cases d with
  | non => cases h; refine ⟨_, rfl, kit_ty ?_⟩; cases T <;> decide +kernel
  | bl _ => cases h; refine ⟨_, rfl, kit_ty ?_⟩; cases T <;> decide +kernel
  | int _ => cases h; refine ⟨_, rfl, kit_ty ?_⟩; cases T <;> decide +kernel
  | str _ => cases h; refine ⟨_, rfl, kit_ty ?_⟩; cases T <;> decide +kernel
  | tup _ => cases h; refine ⟨_, rfl, kit_ty ?_⟩; cases T <;> decide +kernel
  | lst _ => cases h; refine ⟨_, rfl, kit_ty ?_⟩; cases T <;> decide +kernel
  | dct _ => cases h; refine ⟨_, rfl, kit_ty ?_⟩; cases T <;> decide +kernel
  | _ => cases h
theorem tyX_of {K : PySem.W.Frag} {F H : Hp} {d : D} {v : V} {t : String} (le : Le F H) (r : Rep K G F d v) (h : tyN d = some t) : TyX K H v (.type t) := by
  cases d with
  | non => cases h; rw [Rep.non.mp r]; exact .base .non
  | bl _ => cases h; rw [Rep.bl.mp r]; exact .base (.bl _)
  | int _ => cases h; rw [Rep.int.mp r]; exact .base (.int _)
  | str _ => cases h; rw [Rep.str.mp r]; exact .base (.str _)
  | tup l =>
    cases h
    obtain ⟨a, vs, rfl, q1, rl⟩ := Rep.tup.mp r
    rcases le.sqt q1 with (q | ⟨o, q⟩) | ⟨o, its, n, q, c, _⟩
    · exact .base (.tup q)
    · exact .fTuple q
    · exact .kTuple q c
  | lst l =>
    cases h
    obtain ⟨a, vs, rfl, q1, rl⟩ := Rep.lst.mp r
    exact .base (.lst (le _ _ q1))
  | dct l =>
    cases h
    obtain ⟨a, vs, rfl, q1, rl⟩ := Rep.dct.mp r
    exact .base (.dK (le _ _ q1))
  | _ => cases h
abbrev sIsTy (T : Ty) (fa : Env → RS) : Env → RS := fun ρ => (fa ρ).bind fun s => match isTy T s.d with | some b => .ok (.fz (.bl b)) | none => .no
theorem de_isTy {T : Ty} {a : Expr} {fa : Env → RS} {x : Str} {p p2 pos : Pos} (ha : DE X G W a fa) (hg : Gl X "isinstance") (hm : X.mg "isinstance" = none) (hg2 : Gl X x) (hm2 : X.mg x = none) (hv2 : bootBuiltins x = some (.type T.n)) (hn : x ≠ "__name__" := by decide) (hdb : (x == ("__debug__" : Str)) = false := by decide)
    (he : starEach [a, .Name x p2] X.env = (false, eval a X.env) :: starEach [.Name x p2] X.env := by rfl) (he2 : starEach [.Name x p2] X.env = (false, eval (.Name x p2) X.env) :: starEach [] X.env := by rfl) (hpl : (backTo pos (starEach [.Name x p2] X.env)).any (·.1) = false := by rfl) :
    DE X G W (.Call (.Name "isinstance" p) [a, .Name x p2] [] pos) (sIsTy T fa) :=
  PE.imp (pe_callB call_isi hg hm (by decide +kernel) (pa_cons ha (pa_cons (pe_bltn (v := .ty T.n) hg2 hm2 hv2 rfl hn hdb) pa_nil he2) he) (by decide) (by decide) he hpl) fun σ H Q ⟨F, ρ, le, re, p⟩ => by
    refine use le re p fun s v H1 F1 _ e1 r1 re1 p1 => ?_
    cases hs : isTy T s.d with
    | none => rw [hs] at p1; exact p1.elim
    | some b =>
      rw [hs] at p1
      obtain ⟨t, ht, hk⟩ := isTy_kit (K := X.K) hs
      exact ⟨v, .ty T.n, .type t, .type T.n, b, rfl, .ty _, tyX_of e1.fh r1 ht, hk, p1.done (.refl e1.fh) RepS.bl⟩
end
end O

end

section
set_option Elab.async false
set_option linter.all false
set_option maxRecDepth 100000
namespace O
open PySem PySem.Spec PyProof.Rows L2

/-! ### statements: slots that own things -/
abbrev SEnv := List (Option S)
/-- the places that slots own -/
def Own (H : Hp) (σ : L2.St) (ρ : SEnv) (a : Addr) : Prop := ∃ (i : Nat) (s : S) (v : V), ρ[i]? = some (some s) ∧ σ[i]? = some (some v) ∧ FootS H s v a
/-- … that slots but one own -/
def OwnX (n : Nat) (H : Hp) (σ : L2.St) (ρ : SEnv) (a : Addr) : Prop := ∃ (i : Nat) (s : S) (v : V), i ≠ n ∧ ρ[i]? = some (some s) ∧ σ[i]? = some (some v) ∧ FootS H s v a
structure SRep (K : PySem.W.Frag) (G : Ctx) (H0 F H : Hp) (σ : L2.St) (ρ : SEnv) : Prop where
  m : G.m F
  len : σ.length = ρ.length
  val : ∀ (i : Nat) (s : S), ρ[i]? = some (some s) → ∃ v, σ[i]? = some (some v) ∧ RepS K G F H0 H s v
  ap : ∀ (i j : Nat) (si sj : S) (vi vj : V) (a : Addr), i ≠ j → ρ[i]? = some (some si) → ρ[j]? = some (some sj) → σ[i]? = some (some vi) → σ[j]? = some (some vj) → FootS H si vi a → ¬ FootS H sj vj a

section
variable {K : PySem.W.Frag} {G : Ctx}
theorem SRep.own {H0 F H : Hp} {σ : L2.St} {ρ : SEnv} (r : SRep K G H0 F H σ ρ) {a : Addr} (h : Own H σ ρ a) : ∃ o, H a = some o ∧ Mut o ∧ H0 a = none ∧ F a = none := by
  obtain ⟨i, s, v, h1, h2, h3⟩ := h
  obtain ⟨w, e1, q⟩ := r.val i s h1
  rw [h2] at e1
  cases e1
  exact q.own h3
theorem SRep.move {H0 F H F1 H1 : Hp} {σ : L2.St} {ρ : SEnv} (r : SRep K G H0 F H σ ρ) (le : Le F F1) (h : ∀ a, Own H σ ρ a → H1 a = H a ∧ F1 a = none) : SRep K G H0 F1 H1 σ ρ := by
  have st : ∀ {i : Nat} {s : S} {v : V}, ρ[i]? = some (some s) → σ[i]? = some (some v) → RepS K G F1 H0 H1 s v ∧ ∀ a, FootS H1 s v a ↔ FootS H s v a := fun {i s v} q1 q2 => by
    obtain ⟨w, e1, q⟩ := r.val i s q1
    rw [q2] at e1
    cases e1
    exact q.move le (.refl H0) fun a f => h a ⟨i, s, v, q1, q2, f⟩
  refine ⟨G.up _ _ le r.m, r.len, fun i s q => ?_, fun i j si sj vi vj a hij hi hj ki kj fi fj => ?_⟩
  · obtain ⟨v, e1, _⟩ := r.val i s q
    exact ⟨v, e1, (st q e1).1⟩
  · exact r.ap i j si sj vi vj a hij hi hj ki kj (((st hi ki).2 a).mp fi) (((st hj kj).2 a).mp fj)
theorem SRep.step {F H F1 H1 H0 : Hp} (e : Ext F H F1 H1) {σ : L2.St} {ρ : SEnv} (r : SRep K G H0 F H σ ρ) : SRep K G H0 F1 H1 σ ρ :=
  r.move e.f fun a q => by
    obtain ⟨o, h1, _, _, h3⟩ := r.own q
    refine ⟨by rw [h1]; exact e.h _ _ h1, ?_⟩
    cases z : F1 a with
    | none => rfl
    | some o' =>
      rcases e.fr a o' z with y | y
      · rw [h3] at y; cases y
      · rw [h1] at y; cases y
theorem SRep.step_own {F H F1 H1 H0 : Hp} (e : Ext F H F1 H1) {σ : L2.St} {ρ : SEnv} (r : SRep K G H0 F H σ ρ) {a : Addr} (h : Own H1 σ ρ a) : Own H σ ρ a := by
  obtain ⟨i, s, v, h1, h2, h3⟩ := h
  obtain ⟨w, e1, q⟩ := r.val i s h1
  rw [h2] at e1
  cases e1
  exact ⟨i, s, v, h1, h2, ((q.step e).2 a).mp h3⟩
theorem get_set_none {ρ : SEnv} {i j : Nat} {s : S} (q : (ρ.set i none)[j]? = some (some s)) : i ≠ j ∧ ρ[j]? = some (some s) := by
  by_cases hj : i = j
  · subst hj
    rw [List.getElem?_set] at q
    split at q
    · split at q <;> cases q
    · rename_i h; exact absurd rfl h
  · rw [List.getElem?_set_ne hj] at q
    exact ⟨hj, q⟩
/-- forgetting a slot -/
theorem SRep.kill {F H H0 : Hp} {σ : L2.St} {ρ : SEnv} (r : SRep K G H0 F H σ ρ) (i : Nat) : SRep K G H0 F H σ (ρ.set i none) :=
  ⟨r.m, by rw [List.length_set]; exact r.len, fun j s q => r.val j s (get_set_none q).2,
    fun a b sa sb va vb p hab ha hb => r.ap a b sa sb va vb p hab (get_set_none ha).2 (get_set_none hb).2⟩
def killS : List Nat → SEnv → SEnv
  | [], ρ => ρ
  | i :: l, ρ => (killS l ρ).set i none
theorem SRep.kills {F H H0 : Hp} {σ : L2.St} {ρ : SEnv} (r : SRep K G H0 F H σ ρ) : ∀ l : List Nat, SRep K G H0 F H σ (killS l ρ)
  | [] => r
  | i :: l => (SRep.kills r l).kill i
/-- a slot that is another thing now -/
theorem SRep.chgF {H0 F H F1 H1 : Hp} {σ : L2.St} {ρ : SEnv} (r : SRep K G H0 F H σ ρ) {i : Nat} {s s' : S} {v : V} (hi : ρ[i]? = some (some s)) (hσ : σ[i]? = some (some v)) (le : Le F F1) (r' : RepS K G F1 H0 H1 s' v)
    (h : ∀ a, OwnX i H σ ρ a → H1 a = H a ∧ F1 a = none ∧ ¬ FootS H1 s' v a) : SRep K G H0 F1 H1 σ (ρ.set i (some s')) := by
  have hlt : i < ρ.length := (List.getElem?_eq_some_iff.mp hi).1
  have ix : ∀ {j : Nat} {t : S}, (ρ.set i (some s'))[j]? = some (some t) → (i ≠ j ∧ ρ[j]? = some (some t)) ∨ (i = j ∧ t = s') := fun {j t} q => by
    by_cases hj : i = j
    · subst hj
      rw [List.getElem?_set_self hlt] at q
      cases q
      exact .inr ⟨rfl, rfl⟩
    · rw [List.getElem?_set_ne hj] at q
      exact .inl ⟨hj, q⟩
  have st : ∀ {j : Nat} {t : S} {w : V}, i ≠ j → ρ[j]? = some (some t) → σ[j]? = some (some w) → RepS K G F1 H0 H1 t w ∧ ∀ a, FootS H1 t w a ↔ FootS H t w a := fun {j t w} hj q1 q2 => by
    obtain ⟨w', e1, q⟩ := r.val j t q1
    rw [q2] at e1
    cases e1
    exact q.move le (.refl H0) fun a f => let z := h a ⟨j, t, w, fun z => hj z.symm, q1, q2, f⟩; ⟨z.1, z.2.1⟩
  refine ⟨G.up _ _ le r.m, by rw [List.length_set]; exact r.len, fun j t q => ?_, fun a b sa sb va vb p hab ha hb ka kb fa fb => ?_⟩
  · rcases ix q with ⟨hj, q1⟩ | ⟨rfl, rfl⟩
    · obtain ⟨w, e1, _⟩ := r.val j t q1
      exact ⟨w, e1, (st hj q1 e1).1⟩
    · exact ⟨v, hσ, r'⟩
  · rcases ix ha with ⟨za, qa⟩ | ⟨za, ea⟩
    · rcases ix hb with ⟨zb, qb⟩ | ⟨zb, eb⟩
      · exact r.ap a b sa sb va vb p hab qa qb ka kb (((st za qa ka).2 p).mp fa) (((st zb qb kb).2 p).mp fb)
      · subst zb eb
        rw [hσ] at kb
        cases kb
        exact (h p ⟨a, sa, va, hab, qa, ka, ((st za qa ka).2 p).mp fa⟩).2.2 fb
    · subst za ea
      rw [hσ] at ka
      cases ka
      rcases ix hb with ⟨zb, qb⟩ | ⟨zb, eb⟩
      · exact (h p ⟨b, sb, vb, fun z => hab z.symm, qb, kb, ((st zb qb kb).2 p).mp fb⟩).2.2 fa
      · exact hab zb
theorem SRep.chg {H0 F H H1 : Hp} {σ : L2.St} {ρ : SEnv} (r : SRep K G H0 F H σ ρ) {i : Nat} {s s' : S} {v : V} (hi : ρ[i]? = some (some s)) (hσ : σ[i]? = some (some v)) (r' : RepS K G F H0 H1 s' v)
    (h : ∀ a, OwnX i H σ ρ a → H1 a = H a ∧ ¬ FootS H1 s' v a) : SRep K G H0 F H1 σ (ρ.set i (some s')) :=
  r.chgF hi hσ (.refl F) r' fun a o => ⟨(h a o).1, by
    obtain ⟨j, t, w, _, k1, k2, f⟩ := o
    exact (r.own ⟨j, t, w, k1, k2, f⟩).choose_spec.2.2.2, (h a o).2⟩
/-- a slot more, at the end -/
abbrev Wth (K : PySem.W.Frag) (G : Ctx) (H0 F H : Hp) (σ : L2.St) (ρ : SEnv) (v : V) (s : S) : Prop := SRep K G H0 F H (σ ++ [some v]) (ρ ++ [some s])
theorem Wth.len {F H H0 : Hp} {σ : L2.St} {ρ : SEnv} {v : V} {s : S} (r : Wth K G H0 F H σ ρ v s) : σ.length = ρ.length := by simpa using SRep.len r
theorem Wth.rep {F H H0 : Hp} {σ : L2.St} {ρ : SEnv} {v : V} {s : S} (r : Wth K G H0 F H σ ρ v s) : RepS K G F H0 H s v := by
  have hl := Wth.len r
  obtain ⟨w, e1, q⟩ := r.val ρ.length s (by simp)
  rw [← hl] at e1
  simp at e1
  rw [e1]; exact q
theorem up_l {ρ : SEnv} {j : Nat} {t : S} {s : Option S} (q : ρ[j]? = some (some t)) : (ρ ++ [s])[j]? = some (some t) := by
  rw [List.getElem?_append_left (List.getElem?_eq_some_iff.mp q).1]; exact q
theorem up_s {σ : L2.St} {j : Nat} {w : V} {v : Option V} (q : σ[j]? = some (some w)) : (σ ++ [v])[j]? = some (some w) := by
  rw [List.getElem?_append_left (List.getElem?_eq_some_iff.mp q).1]; exact q
theorem Wth.base {F H H0 : Hp} {σ : L2.St} {ρ : SEnv} {v : V} {s : S} (r : Wth K G H0 F H σ ρ v s) : SRep K G H0 F H σ ρ := by
  have hl := Wth.len r
  refine ⟨r.m, hl, fun j t q => ?_, fun a b sa sb va vb p hab ha hb h1 h2 => r.ap a b sa sb va vb p hab (up_l ha) (up_l hb) (up_s h1) (up_s h2)⟩
  obtain ⟨w, e1, q1⟩ := r.val j t (up_l q)
  rw [List.getElem?_append_left (by rw [hl]; exact (List.getElem?_eq_some_iff.mp q).1)] at e1
  exact ⟨w, e1, q1⟩
/-- what the new slot owns no other owns -/
theorem Wth.apart {F H H0 : Hp} {σ : L2.St} {ρ : SEnv} {v : V} {s : S} (r : Wth K G H0 F H σ ρ v s) {a : Addr} (h : Own H σ ρ a) : ¬ FootS H s v a := by
  obtain ⟨i, t, w, h1, h2, h3⟩ := h
  have hl := Wth.len r
  have hi := (List.getElem?_eq_some_iff.mp h1).1
  exact r.ap i ρ.length t s w v a (by omega) (up_l h1) (by simp) (up_s h2) (by rw [← hl]; simp) h3
theorem Wth.mk {F H H0 : Hp} {σ : L2.St} {ρ : SEnv} {v : V} {s : S} (r : SRep K G H0 F H σ ρ) (q : RepS K G F H0 H s v)
    (ap : ∀ a, FootS H s v a → ¬ Own H σ ρ a) : Wth K G H0 F H σ ρ v s := by
  have hl := r.len
  have ix : ∀ {j : Nat} {t : S}, (ρ ++ [some s])[j]? = some (some t) → (ρ[j]? = some (some t) ∧ (σ ++ [some v])[j]? = σ[j]?) ∨ (j = ρ.length ∧ t = s ∧ (σ ++ [some v])[j]? = some (some v)) := fun {j t} q => by
    by_cases hj : j < ρ.length
    · rw [List.getElem?_append_left hj] at q
      exact .inl ⟨q, by rw [List.getElem?_append_left (by rw [hl]; exact hj)]⟩
    · have e : j = ρ.length := by
        have := (List.getElem?_eq_some_iff.mp q).1
        simp at this
        omega
      subst e
      rw [List.getElem?_append_right (Nat.le_refl _)] at q
      simp at q
      exact .inr ⟨rfl, q.symm, by rw [← hl]; simp⟩
  refine ⟨r.m, by simp [hl], fun j t q' => ?_, fun a b sa sb va vb p hab ha hb h1 h2 fa fb => ?_⟩
  · rcases ix q' with ⟨q1, q2⟩ | ⟨rfl, rfl, q2⟩
    · obtain ⟨w, e1, q3⟩ := r.val j t q1
      exact ⟨w, by rw [q2]; exact e1, q3⟩
    · exact ⟨v, q2, q⟩
  · rcases ix ha with ⟨a1, a2⟩ | ⟨a0, a1, a2⟩
    · rcases ix hb with ⟨b1, b2⟩ | ⟨b0, b1, b2⟩
      · rw [a2] at h1; rw [b2] at h2
        exact r.ap a b sa sb va vb p hab a1 b1 h1 h2 fa fb
      · rw [a2] at h1; rw [b2] at h2
        cases h2
        subst b1
        exact ap p fb ⟨a, sa, va, a1, h1, fa⟩
    · rcases ix hb with ⟨b1, b2⟩ | ⟨b0, b1, b2⟩
      · rw [a2] at h1; rw [b2] at h2
        cases h1
        subst a1
        exact ap p fa ⟨b, sb, vb, b1, h2, fb⟩
      · exact hab (a0.trans b0.symm)
/-- stored at a place -/
theorem Wth.set {F H H0 : Hp} {σ : L2.St} {ρ : SEnv} {v : V} {s : S} (r : Wth K G H0 F H σ ρ v s) (i : Nat) : SRep K G H0 F H (σ.set i (some v)) (ρ.set i (some s)) := by
  have b := r.base
  have hl := b.len
  have ix : ∀ {j : Nat} {t : S}, (ρ.set i (some s))[j]? = some (some t) → (i ≠ j ∧ ρ[j]? = some (some t) ∧ (σ.set i (some v))[j]? = σ[j]?) ∨ (i = j ∧ t = s ∧ (σ.set i (some v))[j]? = some (some v)) := fun {j t} q => by
    by_cases hj : i = j
    · subst hj
      have hlt : i < ρ.length := by simpa using (List.getElem?_eq_some_iff.mp q).1
      rw [List.getElem?_set_self hlt] at q
      cases q
      exact .inr ⟨rfl, rfl, by rw [List.getElem?_set_self (by rw [hl]; exact hlt)]⟩
    · rw [List.getElem?_set_ne hj] at q
      exact .inl ⟨hj, q, by rw [List.getElem?_set_ne hj]⟩
  refine ⟨r.m, by simp [hl], fun j t q' => ?_, fun a c sa sc va vc p hac ha hc h1 h2 fa fc => ?_⟩
  · rcases ix q' with ⟨_, q1, q2⟩ | ⟨_, rfl, q2⟩
    · obtain ⟨w, e1, q3⟩ := b.val j t q1
      exact ⟨w, by rw [q2]; exact e1, q3⟩
    · exact ⟨v, q2, Wth.rep r⟩
  · rcases ix ha with ⟨_, a1, a2⟩ | ⟨a0, a1, a2⟩
    · rcases ix hc with ⟨_, b1, b2⟩ | ⟨b0, b1, b2⟩
      · rw [a2] at h1; rw [b2] at h2
        exact b.ap a c sa sc va vc p hac a1 b1 h1 h2 fa fc
      · rw [a2] at h1; rw [b2] at h2
        cases h2
        subst b1
        exact Wth.apart r ⟨a, sa, va, a1, h1, fa⟩ fc
    · rcases ix hc with ⟨_, b1, b2⟩ | ⟨b0, b1, b2⟩
      · rw [a2] at h1; rw [b2] at h2
        cases h1
        subst a1
        exact Wth.apart r ⟨c, sc, vc, b1, h2, fc⟩ fa
      · exact hac (a0.symm.trans b0)

/-! ### views -/
abbrev seeF : Option S → Option D
  | some (.fz d) => some d
  | _ => none
abbrev seeB : Option S → Option D
  | some s => some s.d
  | none => none
abbrev viewF (ρ : SEnv) : Env := ρ.map seeF
abbrev viewB (ρ : SEnv) : Env := ρ.map seeB
abbrev frz1 : Option S → Option S
  | some s => some (.fz s.d)
  | none => none
abbrev frzA (ρ : SEnv) : SEnv := ρ.map frz1
theorem SRep.envF {H0 F H : Hp} {σ : L2.St} {ρ : SEnv} (r : SRep K G H0 F H σ ρ) : REnv K G F σ (viewF ρ) := by
  refine ⟨by rw [List.length_map]; exact r.len, fun i d q => ?_, r.m⟩
  rw [List.getElem?_map] at q
  cases h : ρ[i]? with
  | none => rw [h] at q; cases q
  | some o =>
    rw [h] at q
    cases o with
    | none => cases q
    | some s =>
      cases s with
      | fz d' =>
        cases q
        exact r.val i _ h
      | ow l => cases q
      | tr k t => cases q
/-- the heap with what is owned; without -/
noncomputable def Fp (F H : Hp) (σ : L2.St) (ρ : SEnv) : Hp := put F H (Own H σ ρ)
noncomputable def Fm (F1 H : Hp) (σ : L2.St) (ρ : SEnv) : Hp := put F1 (fun _ => none) (Own H σ ρ)
theorem SRep.leFp {H0 F H : Hp} {σ : L2.St} {ρ : SEnv} (r : SRep K G H0 F H σ ρ) : Le F (Fp F H σ ρ) := fun a o q => by
  by_cases h : Own H σ ρ a
  · rw [(r.own h).choose_spec.2.2.2] at q; cases q
  · rw [show Fp F H σ ρ a = F a from put_has.2 a h]; exact q
theorem SRep.FpLe {H0 F H : Hp} {σ : L2.St} {ρ : SEnv} (r : SRep K G H0 F H σ ρ) (le : Le F H) : Le (Fp F H σ ρ) H := fun a o q => by
  by_cases h : Own H σ ρ a
  · rw [show Fp F H σ ρ a = H a from put_has.1 a h] at q; exact q
  · rw [show Fp F H σ ρ a = F a from put_has.2 a h] at q; exact le a o q
theorem SRep.envB {H0 F H : Hp} {σ : L2.St} {ρ : SEnv} (r : SRep K G H0 F H σ ρ) : REnv K G (Fp F H σ ρ) σ (viewB ρ) := by
  refine ⟨by rw [List.length_map]; exact r.len, fun i d q => ?_, G.up _ _ r.leFp r.m⟩
  rw [List.getElem?_map] at q
  cases h : ρ[i]? with
  | none => rw [h] at q; cases q
  | some o =>
    rw [h] at q
    cases o with
    | none => cases q
    | some s =>
      cases q
      obtain ⟨v, e1, q1⟩ := r.val i _ h
      exact ⟨v, e1, q1.frz r.leFp fun a f => put_has.1 a ⟨i, s, v, h, e1, f⟩⟩
theorem Fm_le {F1 H : Hp} {σ : L2.St} {ρ : SEnv} : Le (Fm F1 H σ ρ) F1 := fun a o q => by
  by_cases h : Own H σ ρ a
  · rw [show Fm F1 H σ ρ a = none from put_has.1 a h] at q; cases q
  · rw [show Fm F1 H σ ρ a = F1 a from put_has.2 a h] at q; exact q
/-- after an evaluation that saw what is owned -/
theorem SRep.back {H0 F H F1 H1 : Hp} {σ : L2.St} {ρ : SEnv} (r : SRep K G H0 F H σ ρ) (le : Le F H) (e : Ext (Fp F H σ ρ) H F1 H1) : Ext F H (Fm F1 H σ ρ) H1 ∧ Cut F1 (Fm F1 H σ ρ) ∧ SRep K G H0 (Fm F1 H σ ρ) H1 σ ρ := by
  have x : Ext F H (Fm F1 H σ ρ) H1 := by
    refine ⟨le, e.h, fun a o q => ?_, fun a o q => e.fh a o (Fm_le a o q), fun a o q => ?_⟩
    · by_cases h : Own H σ ρ a
      · rw [(r.own h).choose_spec.2.2.2] at q; cases q
      · rw [show Fm F1 H σ ρ a = F1 a from put_has.2 a h]; exact e.f a o (r.leFp a o q)
    · by_cases h : Own H σ ρ a
      · rw [show Fm F1 H σ ρ a = none from put_has.1 a h] at q; cases q
      · rw [show Fm F1 H σ ρ a = F1 a from put_has.2 a h] at q
        rcases e.fr a o q with z | z
        · rw [show Fp F H σ ρ a = F a from put_has.2 a h] at z
          exact .inl z
        · exact .inr z
  refine ⟨x, fun a o q => ?_, r.step x⟩
  by_cases h : Own H σ ρ a
  · obtain ⟨o', z1, z2, _⟩ := r.own h
    have : F1 a = some o' := e.f a _ (by rw [show Fp F H σ ρ a = H a from put_has.1 a h]; exact z1)
    rw [this] at q
    cases q
    exact .inr z2
  · exact .inl (by rw [show Fm F1 H σ ρ a = F1 a from put_has.2 a h]; exact q)
/-- all that is owned is frozen for good -/
theorem SRep.frz {H0 F H F1 H1 : Hp} {σ : L2.St} {ρ : SEnv} (r : SRep K G H0 F H σ ρ) (le : Le (Fp F H σ ρ) F1) : SRep K G H0 F1 H1 σ (frzA ρ) := by
  have fz : ∀ {i : Nat} {s : S}, (frzA ρ)[i]? = some (some s) → ∃ s', ρ[i]? = some (some s') ∧ s = .fz s'.d := fun {i s} q => by
    rw [List.getElem?_map] at q
    cases h : ρ[i]? with
    | none => rw [h] at q; cases q
    | some o =>
      rw [h] at q
      cases o with
      | none => cases q
      | some s' => cases q; exact ⟨s', rfl, rfl⟩
  refine ⟨G.up _ _ (r.leFp.trans le) r.m, by rw [List.length_map]; exact r.len, fun i s q => ?_, fun a b sa sb va vb p _ ha _ _ _ fa => ?_⟩
  · obtain ⟨s', h, rfl⟩ := fz q
    obtain ⟨v, e1, q1⟩ := r.envB.val i s'.d (by rw [List.getElem?_map, h]; rfl)
    exact ⟨v, e1, Rep.mono le q1⟩
  · obtain ⟨s', h, rfl⟩ := fz ha
    exact fa.elim
theorem Ext.fz {H0 F0 F H : Hp} {σ : L2.St} {ρ : SEnv} (x : Ext F0 H0 F H) (r : SRep K G H0 F H σ ρ) : Ext F0 H0 (Fp F H σ ρ) H :=
  (x.freezeA fun a q => let ⟨_, _, _, h2, h3⟩ := r.own q; ⟨h2, h3⟩).1
/-- one slot is frozen for good -/
abbrev frzI (i : Nat) (ρ : SEnv) : SEnv := match ρ[i]? with
  | some (some s) => ρ.set i (some (.fz s.d))
  | _ => ρ
theorem SRep.frzI {F0 H0 F H : Hp} {σ : L2.St} {ρ : SEnv} (r : SRep K G H0 F H σ ρ) (x : Ext F0 H0 F H) (i : Nat) : ∃ F1, Ext F0 H0 F1 H ∧ Le F F1 ∧ SRep K G H0 F1 H σ (frzI i ρ) := by
  unfold O.frzI
  split
  · rename_i s hi
    obtain ⟨v, e1, q⟩ := r.val i s hi
    obtain ⟨x1, l⟩ := x.freezeA (A := FootS H s v) fun a f => let ⟨_, _, _, h2, h3⟩ := q.own f; ⟨h2, h3⟩
    refine ⟨_, x1, l, ?_⟩
    have r1 : SRep K G H0 (put F H (FootS H s v)) H σ (ρ.set i none) := (r.kill i).move l fun a h => by
      refine ⟨rfl, ?_⟩
      rw [put_has.2 a ?_]
      · exact ((r.kill i).own h).choose_spec.2.2.2
      · intro z
        obtain ⟨j, t, w, h1, h2, h3⟩ := h
        obtain ⟨hj, h1⟩ := get_set_none h1
        exact r.ap i j s t v w a hj hi h1 e1 h2 z h3
    have hlt := (List.getElem?_eq_some_iff.mp hi).1
    have w : Wth K G H0 (put F H (FootS H s v)) H σ (ρ.set i none) v (.fz s.d) := Wth.mk r1 (q.frz l fun a f => put_has.1 a f) fun a f => f.elim
    have z := Wth.set w i
    rw [List.set_set] at z
    have e2 : σ.set i (some v) = σ := by
      apply List.ext_getElem?
      intro j
      by_cases hj : i = j
      · subst hj; rw [List.getElem?_set_self (by rw [r.len]; exact hlt), e1]
      · rw [List.getElem?_set_ne hj]
    rw [e2] at z
    exact z
  · exact ⟨F, x, .refl F, r⟩
end
end O

end

section
set_option Elab.async false
set_option linter.all false
set_option maxRecDepth 100000
namespace O
open PySem PySem.Spec PyProof.Rows L2

inductive RO (α : Type) where
  | ok (a : α) (ρ : SEnv)
  | ex (c : Str) (fs : List (Str × D)) (ρ : SEnv)
  | no
inductive Out where
  | nx (ρ : SEnv)
  | rt (s : S) (ρ : SEnv)
  | bk (ρ : SEnv)
  | ct (ρ : SEnv)
  | ex (c : Str) (fs : List (Str × D)) (ρ : SEnv)
  | no
abbrev evA (f : Env → RS) : SEnv → RO S := fun ρ => match f (viewF ρ) with | .ok s => .ok s ρ | .ex c fs => .ex c fs ρ | .no => .no
abbrev evB (f : Env → RS) : SEnv → RO S := fun ρ => match f (viewB ρ) with | .ok s => if immS s = true then .ok s ρ else .no | .ex c fs => .ex c fs (frzA ρ) | .no => .no
abbrev evC (f : Env → RS) : SEnv → RO S := fun ρ => match f (viewB ρ) with | .ok s => .ok s (frzA ρ) | .ex c fs => .ex c fs (frzA ρ) | .no => .no
abbrev evAT (f : Env → R Bool) : SEnv → RO Bool := fun ρ => match f (viewF ρ) with | .ok s => .ok s ρ | .ex c fs => .ex c fs ρ | .no => .no
abbrev evBT (f : Env → R Bool) : SEnv → RO Bool := fun ρ => match f (viewB ρ) with | .ok s => .ok s ρ | .ex c fs => .ex c fs (frzA ρ) | .no => .no

section
variable (K : PySem.W.Frag) (G : Ctx) (W : WX)
def PostX (F0 H0 F : Hp) (σ : L2.St) (Q : VK) : RO S → Prop
  | .ok s ρ' => ∀ v F' H', Ext F0 H0 F' H' → Le F F' → Wth K G H0 F' H' σ ρ' v s → Q v H'
  | .ex c fs ρ' => ∀ cls d F' H', Ext F0 H0 F' H' → Le F F' → SRep K G H0 F' H' σ ρ' → RepX K G F' c fs cls d → W cls d σ H'
  | .no => False
def tX (ev : SEnv → RO S) : TE := fun σ H Q => ∃ F0 H0 F ρ, Ext F0 H0 F H ∧ SRep K G H0 F H σ ρ ∧ PostX K G W F0 H0 F σ Q (ev ρ)
def PostY (F0 H0 F : Hp) (σ : L2.St) (Q : Bool → Hp → Prop) : RO Bool → Prop
  | .ok s ρ' => ∀ F' H', Ext F0 H0 F' H' → Le F F' → SRep K G H0 F' H' σ ρ' → Q s H'
  | .ex c fs ρ' => ∀ cls d F' H', Ext F0 H0 F' H' → Le F F' → SRep K G H0 F' H' σ ρ' → RepX K G F' c fs cls d → W cls d σ H'
  | .no => False
def tY (ev : SEnv → RO Bool) : TT := fun σ H Q => ∃ F0 H0 F ρ, Ext F0 H0 F H ∧ SRep K G H0 F H σ ρ ∧ PostY K G W F0 H0 F σ Q (ev ρ)
def PostO (F0 H0 F : Hp) (D : Ends) : Out → Prop
  | .nx ρ' => ∀ σ' F' H', Ext F0 H0 F' H' → Le F F' → SRep K G H0 F' H' σ' ρ' → D.nx σ' H'
  | .rt s ρ' => ∀ v σ' F' H', Ext F0 H0 F' H' → Le F F' → Wth K G H0 F' H' σ' ρ' v s → D.rt v H'
  | .bk ρ' => ∀ σ' F' H', Ext F0 H0 F' H' → Le F F' → SRep K G H0 F' H' σ' ρ' → D.bk σ' H'
  | .ct ρ' => ∀ σ' F' H', Ext F0 H0 F' H' → Le F F' → SRep K G H0 F' H' σ' ρ' → D.ct σ' H'
  | .ex c fs ρ' => ∀ cls d σ' F' H', Ext F0 H0 F' H' → Le F F' → SRep K G H0 F' H' σ' ρ' → RepX K G F' c fs cls d → W cls d σ' H'
  | .no => False
def tS (g : SEnv → Out) : TS := fun D σ H => ∃ F0 H0 F ρ, Ext F0 H0 F H ∧ SRep K G H0 F H σ ρ ∧ PostO K G W F0 H0 F D (g ρ)
end
def DX (X : Cx) (G : Ctx) (W : WX) (e : Expr) (ev : SEnv → RO S) : Prop := PE X e (tX X.K G W ev)
def DY (X : Cx) (G : Ctx) (W : WX) (e : Expr) (ev : SEnv → RO Bool) : Prop := PT X e (tY X.K G W ev)
def DS (X : Cx) (G : Ctx) (W : WX) (st : Stmt) (g : SEnv → Out) : Prop := PS X st (tS X.K G W g)
def DSs (X : Cx) (G : Ctx) (W : WX) (st : List Stmt) (g : SEnv → Out) : Prop := PSs X st (tS X.K G W g)

section
variable {X : Cx} {G : Ctx} {W : WX} {e : Expr} {st : Stmt} {sts : List Stmt} {f : Env → RS} {ft : Env → R Bool} {ev : SEnv → RO S} {ey : SEnv → RO Bool} {g k : SEnv → Out} {pos : Pos}
theorem PostO.mono {K : PySem.W.Frag} {F0 H0 F F' : Hp} {D : Ends} (le : Le F F') {o : Out} (h : PostO K G W F0 H0 F D o) : PostO K G W F0 H0 F' D o := by
  cases o with
  | nx ρ => exact fun σ' F1 H1 x l r => h σ' F1 H1 x (le.trans l) r
  | rt s ρ => exact fun v σ' F1 H1 x l r => h v σ' F1 H1 x (le.trans l) r
  | bk ρ => exact fun σ' F1 H1 x l r => h σ' F1 H1 x (le.trans l) r
  | ct ρ => exact fun σ' F1 H1 x l r => h σ' F1 H1 x (le.trans l) r
  | ex c fs ρ => exact fun cls d σ' F1 H1 x l r => h cls d σ' F1 H1 x (le.trans l) r
  | no => exact h
theorem PostX.mono {K : PySem.W.Frag} {F0 H0 F F' : Hp} {σ : L2.St} {Q : VK} (le : Le F F') {o : RO S} (h : PostX K G W F0 H0 F σ Q o) : PostX K G W F0 H0 F' σ Q o := by
  cases o with
  | ok s ρ => exact fun v F1 H1 x l r => h v F1 H1 x (le.trans l) r
  | ex c fs ρ => exact fun cls d F1 H1 x l r => h cls d F1 H1 x (le.trans l) r
  | no => exact h
/-- a new thing is apart from what slots own -/
theorem SRep.fresh {K : PySem.W.Frag} {H0 F H F1 F2 H1 : Hp} {σ : L2.St} {ρ : SEnv} (r : SRep K G H0 F H σ ρ) (e : Ext F H F1 H1) {s : S} {v : V} (r1 : RepS K G F2 H H1 s v) : ∀ a, FootS H1 s v a → ¬ Own H1 σ ρ a := fun a f o => by
  obtain ⟨_, _, _, h1, _⟩ := r1.own f
  obtain ⟨_, h2, _⟩ := r.own (r.step_own e o)
  rw [h1] at h2; cases h2
theorem own_frzA {H : Hp} {σ : L2.St} {ρ : SEnv} {a : Addr} : ¬ Own H σ (frzA ρ) a := fun ⟨i, s, v, h1, _, h3⟩ => by
  rw [List.getElem?_map] at h1
  cases h2 : ρ[i]? with
  | none => rw [h2] at h1; cases h1
  | some o =>
    rw [h2] at h1
    cases o with
    | none => cases h1
    | some s' => cases h1; exact h3
/-! ### evaluation in a statement -/
theorem xA {K : PySem.W.Frag} {σ : L2.St} {H : Hp} {Q : VK} (h : tX K G W (evA f) σ H Q) : tE K G W f σ H Q := by
  obtain ⟨F0, H0, F, ρ, x, r, p⟩ := h
  refine ⟨F, viewF ρ, x.fh, r.envF, ?_⟩
  simp only [evA] at p
  cases hf : f (viewF ρ) with
  | ok s =>
    rw [hf] at p
    intro v H1 F1 e1 r1
    exact p v F1 H1 (x.trans e1) e1.f (Wth.mk (r.step e1) (r1.back x.h) (r.fresh e1 r1))
  | ex c fs =>
    rw [hf] at p
    exact fun cls d H1 F1 e1 q => p cls d F1 H1 (x.trans e1) e1.f (r.step e1) q
  | no => rw [hf] at p; exact p
theorem dx_A (h : DE X G W e f) : DX X G W e (evA f) := PE.imp h fun _ _ _ q => xA q
theorem xB {K : PySem.W.Frag} {σ : L2.St} {H : Hp} {Q : VK} (h : tX K G W (evB f) σ H Q) : tE K G W f σ H Q := by
  obtain ⟨F0, H0, F, ρ, x, r, p⟩ := h
  refine ⟨Fp F H σ ρ, viewB ρ, r.FpLe x.fh, r.envB, ?_⟩
  simp only [evB] at p
  cases hf : f (viewB ρ) with
  | ok s =>
    rw [hf] at p
    intro v H1 F1 e1 r1
    obtain ⟨e2, c, r2⟩ := r.back x.fh e1
    dsimp only at p
    split at p
    · rename_i hi
      exact p v _ H1 (x.trans e2) e2.f (Wth.mk r2 ((r1.cut c Fm_le hi).back x.h) (r.fresh e2 r1))
    · exact p.elim
  | ex c fs =>
    rw [hf] at p
    exact fun cls d H1 F1 e1 q => p cls d F1 H1 ((x.fz r).trans e1) (r.leFp.trans e1.f) (r.frz e1.f) q
  | no => rw [hf] at p; exact p
theorem dx_B (h : DE X G W e f) : DX X G W e (evB f) := PE.imp h fun _ _ _ q => xB q
theorem xC {K : PySem.W.Frag} {σ : L2.St} {H : Hp} {Q : VK} (h : tX K G W (evC f) σ H Q) : tE K G W f σ H Q := by
  obtain ⟨F0, H0, F, ρ, x, r, p⟩ := h
  refine ⟨Fp F H σ ρ, viewB ρ, r.FpLe x.fh, r.envB, ?_⟩
  simp only [evC] at p
  cases hf : f (viewB ρ) with
  | ok s =>
    rw [hf] at p
    intro v H1 F1 e1 r1
    have r2 := r.frz (H1 := H1) e1.f
    exact p v F1 H1 ((x.fz r).trans e1) (r.leFp.trans e1.f) (Wth.mk r2 (r1.back x.h) fun a _ => own_frzA)
  | ex c fs =>
    rw [hf] at p
    exact fun cls d H1 F1 e1 q => p cls d F1 H1 ((x.fz r).trans e1) (r.leFp.trans e1.f) (r.frz e1.f) q
  | no => rw [hf] at p; exact p
theorem dx_C (h : DE X G W e f) : DX X G W e (evC f) := PE.imp h fun _ _ _ q => xC q
theorem dy_A (h : DT X G W e ft) : DY X G W e (evAT ft) := PT.imp h fun σ H Q ⟨F0, H0, F, ρ, x, r, p⟩ => by
  refine ⟨F, viewF ρ, x.fh, r.envF, ?_⟩
  simp only [evAT] at p
  cases hf : ft (viewF ρ) with
  | ok s =>
    rw [hf] at p
    intro v H1 F1 e1 r1
    cases r1
    exact p F1 H1 (x.trans e1) e1.f (r.step e1)
  | ex c fs =>
    rw [hf] at p
    exact fun cls d H1 F1 e1 q => p cls d F1 H1 (x.trans e1) e1.f (r.step e1) q
  | no => rw [hf] at p; exact p
theorem dy_B (h : DT X G W e ft) : DY X G W e (evBT ft) := PT.imp h fun σ H Q ⟨F0, H0, F, ρ, x, r, p⟩ => by
  refine ⟨Fp F H σ ρ, viewB ρ, r.FpLe x.fh, r.envB, ?_⟩
  simp only [evBT] at p
  cases hf : ft (viewB ρ) with
  | ok s =>
    rw [hf] at p
    intro v H1 F1 e1 r1
    cases r1
    obtain ⟨e2, c, r2⟩ := r.back x.fh e1
    exact p _ H1 (x.trans e2) e2.f r2
  | ex c fs =>
    rw [hf] at p
    exact fun cls d H1 F1 e1 q => p cls d F1 H1 ((x.fz r).trans e1) (r.leFp.trans e1.f) (r.frz e1.f) q
  | no => rw [hf] at p; exact p
/-- the use of an evaluated value in a statement -/
theorem useX {K : PySem.W.Frag} {F0 H0 F H : Hp} {σ : L2.St} {ρ : SEnv} {D : Ends} {kk : S → SEnv → Out} (x : Ext F0 H0 F H) (r : SRep K G H0 F H σ ρ) {Q' : VK}
    (p : PostO K G W F0 H0 F D (match ev ρ with | .ok s ρ' => kk s ρ' | .ex c fs ρ' => .ex c fs ρ' | .no => .no))
    (h : ∀ s ρ' v F1 H1, ev ρ = .ok s ρ' → Ext F0 H0 F1 H1 → Le F F1 → Wth K G H0 F1 H1 σ ρ' v s → PostO K G W F0 H0 F1 D (kk s ρ') → Q' v H1) : tX K G W ev σ H Q' := by
  refine ⟨F0, H0, F, ρ, x, r, ?_⟩
  cases he : ev ρ with
  | ok s ρ' =>
    rw [he] at p
    exact fun v F1 H1 x1 l w => h s ρ' v F1 H1 he x1 l w (p.mono l)
  | ex c fs ρ' =>
    rw [he] at p
    exact fun cls d F1 H1 x1 l w q => p cls d σ F1 H1 x1 l w q
  | no => rw [he] at p; exact p
theorem useY {K : PySem.W.Frag} {F0 H0 F H : Hp} {σ : L2.St} {ρ : SEnv} {D : Ends} {kk : Bool → SEnv → Out} (x : Ext F0 H0 F H) (r : SRep K G H0 F H σ ρ) {Q' : Bool → Hp → Prop}
    (p : PostO K G W F0 H0 F D (match ey ρ with | .ok s ρ' => kk s ρ' | .ex c fs ρ' => .ex c fs ρ' | .no => .no))
    (h : ∀ s ρ' F1 H1, ey ρ = .ok s ρ' → Ext F0 H0 F1 H1 → Le F F1 → SRep K G H0 F1 H1 σ ρ' → PostO K G W F0 H0 F1 D (kk s ρ') → Q' s H1) : tY K G W ey σ H Q' := by
  refine ⟨F0, H0, F, ρ, x, r, ?_⟩
  cases he : ey ρ with
  | ok s ρ' =>
    rw [he] at p
    exact fun F1 H1 x1 l w => h s ρ' F1 H1 he x1 l w (p.mono l)
  | ex c fs ρ' =>
    rw [he] at p
    exact fun cls d F1 H1 x1 l w q => p cls d σ F1 H1 x1 l w q
  | no => rw [he] at p; exact p
abbrev thenS (r : RO S) (kk : S → SEnv → Out) : Out := match r with | .ok s ρ' => kk s ρ' | .ex c fs ρ' => .ex c fs ρ' | .no => .no
abbrev thenB (r : RO Bool) (kk : Bool → SEnv → Out) : Out := match r with | .ok s ρ' => kk s ρ' | .ex c fs ρ' => .ex c fs ρ' | .no => .no
/-! ### blocks, small statements -/
abbrev Out.seq (o : Out) (k : SEnv → Out) : Out := match o with
  | .nx ρ => k ρ
  | .rt s ρ => .rt s ρ
  | .bk ρ => .bk ρ
  | .ct ρ => .ct ρ
  | .ex c fs ρ => .ex c fs ρ
  | .no => .no
theorem dss_nil : DSs X G W [] Out.nx := PSs.imp pss_nil fun D σ H ⟨F0, H0, F, ρ, x, r, p⟩ => p σ F H x (.refl F) r
theorem seq_use {K : PySem.W.Frag} {D : Ends} {σ : L2.St} {H : Hp} (h : tS K G W (fun ρ => (g ρ).seq k) D σ H) : tSeq (tS K G W g) (tS K G W k) D σ H := by
  obtain ⟨F0, H0, F, ρ, x, r, p⟩ := h
  refine ⟨F0, H0, F, ρ, x, r, ?_⟩
  cases hg : g ρ with
  | nx ρ' =>
    simp only [hg] at p
    exact fun σ' F' H' x' l r' => ⟨F0, H0, F', ρ', x', r', p.mono l⟩
  | rt s ρ' => simp only [hg] at p; exact p
  | bk ρ' => simp only [hg] at p; exact p
  | ct ρ' => simp only [hg] at p; exact p
  | ex c fs ρ' => simp only [hg] at p; exact p
  | no => simp only [hg] at p; exact p
theorem dss_cons (h1 : DS X G W st g) (h2 : DSs X G W sts k) : DSs X G W (st :: sts) (fun ρ => (g ρ).seq k) := PSs.imp (pss_cons h1 h2) fun _ _ _ h => seq_use h
theorem dss_one (h1 : DS X G W st g) : DSs X G W [st] g := pss_one h1
abbrev sSet (i : Nat) (ev : SEnv → RO S) : SEnv → Out := fun ρ => thenS (ev ρ) fun s ρ' => .nx (ρ'.set i (some s))
theorem ds_set {i : Nat} {x : Str} {pos' : Pos} (he : DX X G W e ev) (hN : X.N.Nodup) (hi : X.N[i]? = some x := by rfl) (hx : Loc X.env.scope x := by first | exact Or.inl rfl | exact Or.inr rfl) (hs : swapsWith e (some (.Name x pos')) pos.line X.env = pure false := by rfl) (hf : X.fn x = true ∨ X.env.scope.names.lookup x = some .local := by first | exact .inl rfl | exact .inr rfl | assumption) :
    DS X G W (.Assign [.Name x pos'] e pos) (sSet i ev) :=
  PS.imp (ps_set hN hi hx he hs hf) fun D σ H ⟨F0, H0, F, ρ, x, r, p⟩ => useX x r p fun s ρ' v F1 H1 _ x1 l w p1 => p1 _ F1 H1 x1 (.refl F1) (w.set i)
abbrev sRet (ev : SEnv → RO S) : SEnv → Out := fun ρ => thenS (ev ρ) fun s ρ' => .rt s ρ'
theorem ds_ret (he : DX X G W e ev) : DS X G W (.Return (some e) pos) (sRet ev) :=
  PS.imp (ps_ret he) fun D σ H ⟨F0, H0, F, ρ, x, r, p⟩ => useX x r p fun s ρ' v F1 H1 _ x1 l w p1 => p1 v σ F1 H1 x1 (.refl F1) w
theorem Wth.non {K : PySem.W.Frag} {H0 F H : Hp} {σ : L2.St} {ρ : SEnv} (r : SRep K G H0 F H σ ρ) : Wth K G H0 F H σ ρ .non (.fz .non) := Wth.mk r RepS.non fun a f => f.elim
theorem ds_retN : DS X G W (.Return none pos) (fun ρ => .rt (.fz .non) ρ) :=
  PS.imp ps_retN fun D σ H ⟨F0, H0, F, ρ, x, r, p⟩ => p .non σ F H x (.refl F) (Wth.non r)
/-- what a slot holds is handed on -/
abbrev evM (i : Nat) : SEnv → RO S := fun ρ => match ρ[i]? with | some (some s) => .ok s (ρ.set i none) | _ => .no
theorem dx_mv {i : Nat} {x : Str} (h : PE X (.Name x pos) (tVar i)) : DX X G W (.Name x pos) (evM i) := PE.imp h fun σ H Q ⟨F0, H0, F, ρ, x, r, p⟩ => by
  simp only [evM] at p
  split at p
  · rename_i s hi
    obtain ⟨v, e1, q⟩ := r.val i s hi
    refine ⟨v, e1, p v F H x (.refl F) (Wth.mk (r.kill i) q fun a f ⟨j, t, w, h1, h2, h3⟩ => ?_)⟩
    obtain ⟨hj, h1⟩ := get_set_none h1
    exact r.ap i j s t v w a hj hi h1 e1 h2 f h3
  · exact p.elim
abbrev sDrop (ev : SEnv → RO S) : SEnv → Out := fun ρ => thenS (ev ρ) fun _ ρ' => .nx ρ'
theorem ds_expr (he : DX X G W e ev) (hs : swapsWith e none pos.line X.env = pure false := by rfl) : DS X G W (.Expr e pos) (sDrop ev) :=
  PS.imp (ps_expr he hs) fun D σ H ⟨F0, H0, F, ρ, x, r, p⟩ => useX x r p fun s ρ' v F1 H1 _ x1 l w p1 => p1 σ F1 H1 x1 (.refl F1) w.base
abbrev sIfS (ey : SEnv → RO Bool) (g k : SEnv → Out) : SEnv → Out := fun ρ => thenB (ey ρ) fun b ρ' => if b = true then g ρ' else k ρ'
theorem ds_if {c : Expr} {a b : List Stmt} (hc : DY X G W c ey) (ha : DSs X G W a g) (hb : DSs X G W b k) : DS X G W (.If c a b pos) (sIfS ey g k) :=
  PS.imp (ps_if hc ha hb) fun D σ H ⟨F0, H0, F, ρ, x, r, p⟩ => useY x r p fun s ρ' F1 H1 _ x1 l w p1 => by
    cases s with
    | true => rw [if_pos rfl] at p1 ⊢; exact ⟨F0, H0, F1, ρ', x1, w, p1⟩
    | false => rw [if_neg Bool.false_ne_true] at p1 ⊢; exact ⟨F0, H0, F1, ρ', x1, w, p1⟩
theorem ds_pass : DS X G W (.Pass pos) Out.nx := PS.imp ps_pass fun D σ H ⟨F0, H0, F, ρ, x, r, p⟩ => p σ F H x (.refl F) r
theorem ds_break : DS X G W (.Break pos) Out.bk := PS.imp ps_break fun D σ H ⟨F0, H0, F, ρ, x, r, p⟩ => p σ F H x (.refl F) r
theorem ds_cont : DS X G W (.Continue pos) Out.ct := PS.imp ps_continue fun D σ H ⟨F0, H0, F, ρ, x, r, p⟩ => p σ F H x (.refl F) r
/-- ghost: slots forgotten | frozen behind a statement -/
theorem ds_kill (l : List Nat) (h : DS X G W st g) : DS X G W st (fun ρ => (g ρ).seq fun ρ' => .nx (killS l ρ')) := PS.imp h fun D σ H ⟨F0, H0, F, ρ, x, r, p⟩ => by
  refine ⟨F0, H0, F, ρ, x, r, ?_⟩
  cases hg : g ρ with
  | nx ρ' =>
    simp only [hg] at p
    exact fun σ' F' H' x' l' r' => p σ' F' H' x' l' (r'.kills l)
  | rt s ρ' => simp only [hg] at p; exact p
  | bk ρ' => simp only [hg] at p; exact p
  | ct ρ' => simp only [hg] at p; exact p
  | ex c fs ρ' => simp only [hg] at p; exact p
  | no => simp only [hg] at p; exact p
theorem ds_frz (i : Nat) (h : DS X G W st g) : DS X G W st (fun ρ => g (frzI i ρ)) := PS.imp h fun D σ H ⟨F0, H0, F, ρ, x, r, p⟩ => by
  obtain ⟨F1, x1, l, r1⟩ := r.frzI x i
  exact ⟨F0, H0, F1, _, x1, r1, p.mono l⟩
/-! ### a list that a slot owns, changed -/
theorem RepS.ow_inv {K : PySem.W.Frag} {F H0 H : Hp} {l : List D} {v : V} (h : RepS K G F H0 H (.ow l) v) : ∃ p vs, v = .ref p ∧ H p = some (.lst vs) ∧ H0 p = none ∧ F p = none ∧ RepL K G F l vs := h
theorem SRep.write {K : PySem.W.Frag} {H0 F H : Hp} {σ : L2.St} {ρ : SEnv} (r : SRep K G H0 F H σ ρ) {i : Nat} {l l' : List D} {p : Addr} {vs : List V} (hi : ρ[i]? = some (some (.ow l))) (hσ : σ[i]? = some (some (.ref p))) (rl : RepL K G F l' vs) :
    SRep K G H0 F (upd H p (.lst vs)) σ (ρ.set i (some (.ow l'))) := by
  obtain ⟨w, e1, q⟩ := r.val i _ hi
  rw [hσ] at e1
  cases e1
  obtain ⟨p', us, e, h1, h2, h3, _⟩ := q.ow_inv
  cases e
  refine r.chg hi hσ (show RepS K G F H0 _ (.ow l') _ from ⟨p, vs, rfl, upd_same, h2, h3, rl⟩) fun a ⟨j, t, w, hj, k1, k2, f⟩ => ?_
  have : a ≠ p := fun z => by
    subst z
    exact r.ap i j _ t _ w a (fun z => hj z.symm) hi k1 hσ k2 (show V.ref a = V.ref a from rfl) f
  exact ⟨upd_ne this, fun z => this (by cases (show V.ref p = V.ref a from z); rfl)⟩
/-- a new thing that is put away is frozen -/
theorem Wth.view {K : PySem.W.Frag} {F0 H0 F H : Hp} {σ : L2.St} {ρ : SEnv} {v : V} {s : S} (w : Wth K G H0 F H σ ρ v s) (x : Ext F0 H0 F H) : ∃ F2, Ext F0 H0 F2 H ∧ Le F F2 ∧ SRep K G H0 F2 H σ ρ ∧ Rep K G F2 s.d v := by
  have q := Wth.rep w
  obtain ⟨x1, l⟩ := x.freezeA (A := FootS H s v) fun a f => let ⟨_, _, _, h2, h3⟩ := q.own f; ⟨h2, h3⟩
  refine ⟨_, x1, l, w.base.move l fun a o => ⟨rfl, ?_⟩, q.frz l fun a f => put_has.1 a f⟩
  rw [put_has.2 a (Wth.apart w o)]
  exact (w.base.own o).choose_spec.2.2.2
/-- the data of leaves -/
def leaves : List T → Option (List D)
  | [] => some []
  | .lf d :: l => (leaves l).map (d :: ·)
  | _ :: _ => none
/-- a slot that is a list of its own: the items, and the slot with other items -/
def getO : S → Option (List D × (List D → S))
  | .ow l => some (l, S.ow)
  | .tr k (.ls ts) => (leaves ts).map fun l => (l, fun l' => .tr k (.ls (l'.map T.lf)))
  | _ => none
section
variable {K : PySem.W.Frag}
theorem foot_leaves {H : Hp} {a : Addr} : ∀ {ts : List T} {l : List D} {vs : List V}, leaves ts = some l → ¬ FootL H ts vs a
  | [], l, vs, _, f => FootL.nil.mp f
  | .lf d :: ts, l, vs, h, f => by
    obtain ⟨m, h1, rfl⟩ := Option.map_eq_some_iff.mp (show (leaves ts).map (d :: ·) = some l from h)
    obtain ⟨v, r, rfl, q | q⟩ := FootL.cons.mp f
    · exact FootT.lf.mp q
    · exact foot_leaves h1 q
  | .ls _ :: _, _, _, h, _ => by cases h
  | .ob _ _ :: _, _, _, h, _ => by cases h
  | .dc _ :: _, _, _, h, _ => by cases h
theorem rep_leaves {F H0 H : Hp} : ∀ {ts : List T} {l : List D} {vs : List V}, leaves ts = some l → RepTL K G F H0 H ts vs → RepL K G F l vs
  | [], l, vs, h, r => by cases h; exact RepL.nil.mpr (RepTL.nil.mp r)
  | .lf d :: ts, l, vs, h, r => by
    obtain ⟨m, h1, rfl⟩ := Option.map_eq_some_iff.mp (show (leaves ts).map (d :: ·) = some l from h)
    obtain ⟨v, r', rfl, q1, _, q2⟩ := RepTL.cons.mp r
    exact RepL.cons.mpr ⟨v, r', rfl, RepT.lf.mp q1, rep_leaves h1 q2⟩
  | .ls _ :: _, _, _, h, _ => by cases h
  | .ob _ _ :: _, _, _, h, _ => by cases h
  | .dc _ :: _, _, _, h, _ => by cases h
theorem leaves_map : ∀ {l : List D}, leaves (l.map T.lf) = some l
  | [] => rfl
  | d :: l => by show (leaves (l.map T.lf)).map (d :: ·) = _; rw [leaves_map]; rfl
theorem rep_lf {F H0 H : Hp} : ∀ {l : List D} {vs : List V}, RepL K G F l vs → RepTL K G F H0 H (l.map T.lf) vs
  | [], vs, r => RepTL.nil.mpr (RepL.nil.mp r)
  | d :: l, vs, r => by
    obtain ⟨v, r', rfl, q1, q2⟩ := RepL.cons.mp r
    exact RepTL.cons.mpr ⟨v, r', rfl, RepT.lf.mpr q1, fun a f => (FootT.lf.mp f).elim, rep_lf q2⟩
theorem getO_rep {F H0 H : Hp} {s : S} {v : V} {l : List D} {mk : List D → S} (g : getO s = some (l, mk)) (r : RepS K G F H0 H s v) : ∃ p vs, v = .ref p ∧ H p = some (.lst vs) ∧ H0 p = none ∧ F p = none ∧ RepL K G F l vs ∧ FootS H s v p ∧
    ∀ H1 l' vs', H1 p = some (.lst vs') → RepL K G F l' vs' → RepS K G F H0 H1 (mk l') v ∧ ∀ a, FootS H1 (mk l') v a → a = p := by
  cases s with
  | fz d => cases g
  | ow l =>
    cases g
    obtain ⟨p, vs, rfl, h1, h2, h3, rl⟩ := r.ow_inv
    exact ⟨p, vs, rfl, h1, h2, h3, rl, rfl, fun H1 l' vs' e rl' => ⟨⟨p, vs', rfl, e, h2, h3, rl'⟩, fun a f => by cases (show V.ref p = V.ref a from f); rfl⟩⟩
  | tr k t =>
    cases t with
    | ls ts =>
      obtain ⟨m, h, e⟩ := Option.map_eq_some_iff.mp (show (leaves ts).map (fun l => (l, fun l' => S.tr k (.ls (l'.map T.lf)))) = some (l, mk) from g)
      cases e
      obtain ⟨p, vs, rfl, h1, h2, h3, h4, rl⟩ := RepT.ls.mp r.2
      refine ⟨p, vs, rfl, h1, h2, h3, rep_leaves h rl, FootT.ls.mpr (.inl rfl), fun H1 l' vs' e rl' => ⟨⟨r.1, RepT.ls.mpr ⟨p, vs', rfl, e, h2, h3, foot_leaves leaves_map, rep_lf rl'⟩⟩, fun a f => ?_⟩⟩
      rcases FootT.ls.mp f with q | ⟨_, _, _, _, q⟩
      · cases q; rfl
      · exact (foot_leaves leaves_map q).elim
    | lf d => cases g
    | ob c fs => cases g
    | dc l => cases g
theorem SRep.readO {H0 F H : Hp} {σ : L2.St} {ρ : SEnv} (r : SRep K G H0 F H σ ρ) {i : Nat} {s : S} {l : List D} {mk : List D → S} (hi : ρ[i]? = some (some s)) (g : getO s = some (l, mk)) : ∃ p vs, σ[i]? = some (some (.ref p)) ∧ H p = some (.lst vs) ∧ H0 p = none ∧ F p = none ∧ RepL K G F l vs := by
  obtain ⟨v, e1, q⟩ := r.val i s hi
  obtain ⟨p, vs, rfl, h1, h2, h3, rl, _⟩ := getO_rep g q
  exact ⟨p, vs, e1, h1, h2, h3, rl⟩
theorem SRep.writeO {H0 F H : Hp} {σ : L2.St} {ρ : SEnv} (r : SRep K G H0 F H σ ρ) {i : Nat} {s : S} {l l' : List D} {mk : List D → S} {p : Addr} {vs : List V} (hi : ρ[i]? = some (some s)) (hσ : σ[i]? = some (some (.ref p))) (g : getO s = some (l, mk)) (rl : RepL K G F l' vs) :
    SRep K G H0 F (upd H p (.lst vs)) σ (ρ.set i (some (mk l'))) := by
  obtain ⟨w, e1, q⟩ := r.val i _ hi
  rw [hσ] at e1
  cases e1
  obtain ⟨p', us, e, h1, h2, h3, _, hf, hn⟩ := getO_rep g q
  cases e
  obtain ⟨q1, q2⟩ := hn (upd H p (.lst vs)) l' vs upd_same rl
  refine r.chg hi hσ q1 fun a ⟨j, t, w, hj, k1, k2, f⟩ => ?_
  have : a ≠ p := fun z => by
    subst z
    exact r.ap i j _ t _ w a (fun z => hj z.symm) hi k1 hσ k2 hf f
  exact ⟨upd_ne this, fun z => this (q2 a z)⟩
end
/-- a list that a slot owns, changed by a method with one argument | without; what comes out -/
abbrev sMut1 (i : Nat) (ev : SEnv → RO S) (f : List D → D → Option (List D × D)) : SEnv → RO S := fun ρ => match ρ[i]? with
  | some (some s0) => match getO s0 with
    | some _ => match ev ρ with
      | .ok s ρ' => match ρ'[i]? with
        | some (some s1) => match getO s1 with
          | some (l, mk) => match f l s.d with
            | some (l', d) => .ok (.fz d) (ρ'.set i (some (mk l')))
            | none => .no
          | none => .no
        | _ => .no
      | .ex c fs ρ' => .ex c fs ρ'
      | .no => .no
    | none => .no
  | _ => .no
abbrev sMut0 (i : Nat) (f : List D → Option (List D × D)) : SEnv → RO S := fun ρ => match ρ[i]? with
  | some (some s1) => match getO s1 with
    | some (l, mk) => match f l with
      | some (l', d) => .ok (.fz d) (ρ.set i (some (mk l')))
      | none => .no
    | none => .no
  | _ => .no
/-- what the method must say -/
def Mu1 (X : Cx) (G : Ctx) (id : String) (f : List D → D → Option (List D × D)) : Prop := ∃ r, MtR X id r ∧ ∀ (F H : Hp) (p : Addr) (l l' : List D) (d e : D) (vs : List V) (v : V) (Q : VK), Le F H → H p = some (.lst vs) → RepL X.K G F l vs → Rep X.K G F d v → f l d = some (l', e) →
  (∀ vs' w, RepL X.K G F l' vs' → Rep X.K G F e w → Q w (upd H p (.lst vs'))) → r (.ref p) [v] H Q
def Mu0 (X : Cx) (G : Ctx) (id : String) (f : List D → Option (List D × D)) : Prop := ∃ r, MtR X id r ∧ ∀ (F H : Hp) (p : Addr) (l l' : List D) (e : D) (vs : List V) (Q : VK), Le F H → H p = some (.lst vs) → RepL X.K G F l vs → f l = some (l', e) →
  (∀ vs' w, RepL X.K G F l' vs' → Rep X.K G F e w → Q w (upd H p (.lst vs'))) → r (.ref p) [] H Q
theorem dx_mut1 {i : Nat} {x name : Str} {id : String} {f : List D → D → Option (List D × D)} {px pa pc : Pos} (hm : Mu1 X G id f) (slot : Slot "list" name id) (hty : typeOf (.builtin id) = pure (.type "method_descriptor")) (hv : PE X (.Name x px) (tVar i)) (he : DX X G W e ev)
    (hbase : attributeBase (.Name x px) name X.env (eval (.Name x px) X.env) = eval (.Name x px) X.env := by rfl)
    (hfew : ((backTo pc (starEach [e] X.env)).all (fun x => !x.1) && (backToKw pc (keywordEach [] X.env)).all (fun x => x.1.isSome)
      && decide ([e].length + ([] : List Keyword).length + (if ([] : List Keyword).isEmpty then 0 else 1) < 30)) = true := by rfl)
    (hline : (pa.endLine == pc.line) = true := by rfl) (hs : starEach [e] X.env = (false, eval e X.env) :: starEach [] X.env := by rfl) (hplain : (backTo pc (starEach [] X.env)).any (·.1) = false := by rfl) :
    DX X G W (.Call (.Attribute (.Name x px) name pa) [e] [] pc) (sMut1 i ev f) := by
  obtain ⟨r, hr, hq⟩ := hm
  refine PE.imp (pe_bm PySem.F.plainAttrs_list slot hty hr hv (pa_cons he pa_nil hs) hbase hfew hline hs hplain) fun σ H Q ⟨F0, H0, F, ρ, x, rr, p⟩ => ?_
  simp only [sMut1] at p
  split at p
  · rename_i s0 h0
    split at p
    · rename_i g0 hg0
      obtain ⟨a, vs0, e1, z1, z2, z3, z4⟩ := rr.readO h0 (show getO s0 = some (g0.1, g0.2) from hg0)
      refine ⟨_, e1, .inl ⟨rfl, vs0, .inl (.inl z1)⟩, ?_⟩
      refine ⟨F0, H0, F, ρ, x, rr, ?_⟩
      cases hev : ev ρ with
      | ex c fs ρ' => rw [hev] at p; exact p
      | no => rw [hev] at p; exact p
      | ok s ρ' =>
        rw [hev] at p
        intro v F1 H1 x1 l1 w
        dsimp only at p
        split at p
        · rename_i s1 h1
          split at p
          · rename_i l mk hg1
            split at p
            · rename_i l' d hf
              obtain ⟨F2, x2, l2, r2, rv⟩ := w.view x1
              obtain ⟨a', vs, e2, y1, y2, y3, y4⟩ := r2.readO h1 hg1
              rw [e1] at e2
              cases e2
              refine hq F2 H1 a l l' s.d d vs v _ x2.fh y1 y4 rv hf fun vs' w' rl re => ?_
              refine p w' F2 _ (x2.write y2 y3) (l1.trans l2) (Wth.mk (r2.writeO h1 e1 hg1 rl) re fun a f => f.elim)
            · exact p.elim
          · exact p.elim
        · exact p.elim
    · exact p.elim
  · exact p.elim
theorem dx_mut0 {i : Nat} {x name : Str} {id : String} {f : List D → Option (List D × D)} {px pa pc : Pos} (hm : Mu0 X G id f) (slot : Slot "list" name id) (hty : typeOf (.builtin id) = pure (.type "method_descriptor")) (hv : PE X (.Name x px) (tVar i))
    (hbase : attributeBase (.Name x px) name X.env (eval (.Name x px) X.env) = eval (.Name x px) X.env := by rfl) (hline : (pa.endLine == pc.line) = true := by rfl) :
    DX X G W (.Call (.Attribute (.Name x px) name pa) [] [] pc) (sMut0 i f) := by
  obtain ⟨r, hr, hq⟩ := hm
  refine PE.imp (pe_bm0 PySem.F.plainAttrs_list slot hty hr hv hbase hline) fun σ H Q ⟨F0, H0, F, ρ, x, rr, p⟩ => ?_
  simp only [sMut0] at p
  split at p
  · rename_i s1 h1
    split at p
    · rename_i l mk hg1
      split at p
      · rename_i l' d hf
        obtain ⟨a, vs, e1, y1, y2, y3, y4⟩ := rr.readO h1 hg1
        refine ⟨_, e1, .inl ⟨rfl, vs, .inl (.inl y1)⟩, ?_⟩
        refine hq F H a l l' d vs _ x.fh y1 y4 hf fun vs' w' rl re => ?_
        exact p w' F _ (x.write y2 y3) (.refl F) (Wth.mk (rr.writeO h1 e1 hg1 rl) re fun a f => f.elim)
      · exact p.elim
    · exact p.elim
  · exact p.elim
abbrev fAppend : List D → D → Option (List D × D) := fun l d => if l.length < LIM then some (l ++ [d], .non) else none
theorem mu_append : Mu1 X G "list.append" fAppend := ⟨_, mt_append, fun F H p l l' d e vs v Q le h r rd hf q => by
  have hf' : (if l.length < LIM then some (l ++ [d], D.non) else none) = some (l', e) := hf
  split at hf'
  · rename_i hl
    cases hf'
    exact ⟨p, vs, v, rfl, rfl, h, by rw [r.length]; exact LIM_lt hl, q _ _ (r.append (.one rd)) (Rep.non.mpr rfl)⟩
  · cases hf'⟩
/-- list.pop(k), k counted from the front -/
abbrev fPopAt : List D → D → Option (List D × D) := fun l d => match d with
  | .int (.ofNat n) => if n < 1000000 then (match l[n]? with | some x => some (l.eraseIdx n, x) | none => none) else none
  | _ => none
theorem mu_popAt : Mu1 X G "list.pop" fPopAt := ⟨_, mt_popAt, fun F H p l l' d e vs v Q le h r rd hf q => by
  unfold fPopAt at hf
  split at hf
  · rename_i n
    split at hf
    · rename_i hn
      split at hf
      · rename_i y hy
        cases hf
        obtain ⟨u, hu, ru⟩ := RepL.getD r hy
        have hlt := (List.getElem?_eq_some_iff.mp hu).1
        exact ⟨p, vs, (n : Int), n, u, rfl, by rw [Rep.int.mp rd]; rfl, h, by omega, by omega, by
          unfold seqIndex?
          simp; omega, hu, q _ _ (r.eraseIdx n) ru⟩
      · cases hf
    · cases hf
  · cases hf⟩
abbrev fPop : List D → Option (List D × D) := fun l => match l.getLast? with | some x => some (l.dropLast, x) | none => none
theorem mu_pop : Mu0 X G "list.pop" fPop := ⟨_, mt_pop, fun F H p l l' e vs Q le h r hf q => by
  unfold fPop at hf
  split at hf
  · rename_i y hy
    cases hf
    rw [List.getLast?_eq_getElem?] at hy
    obtain ⟨u, hu, ru⟩ := RepL.getD r hy
    refine ⟨p, vs, u, rfl, rfl, h, by rw [r.length]; exact hu, ?_⟩
    rw [List.dropLast_eq_take]
    rw [List.dropLast_eq_take] at q
    exact q _ _ (by rw [r.length]; exact r.take _) ru
  · cases hf⟩
abbrev fClear : List D → Option (List D × D) := fun _ => some ([], .non)
theorem mu_clear : Mu0 X G "list.clear" fClear := ⟨_, mt_clear, fun F H p l l' e vs Q le h r hf q => by
  cases hf
  exact ⟨p, vs, rfl, rfl, h, q _ _ (RepL.nil.mpr rfl) (Rep.non.mpr rfl)⟩⟩
abbrev sApp (i : Nat) (ev : SEnv → RO S) : SEnv → Out := sDrop (sMut1 i ev fAppend)
/-- x[i] = e -/
abbrev sSetIx (i : Nat) (ev ei : SEnv → RO S) : SEnv → Out := fun ρ => match ev ρ with
  | .ok s ρ1 => match ρ1[i]? with
    | some (some s0) => match getO s0 with
      | some _ => match ei ρ1 with
        | .ok (.fz (.int j)) ρ2 => match ρ2[i]? with
          | some (some s1) => match getO s1 with
            | some (l, mk) => match ixN l.length j with
              | some n => .nx (ρ2.set i (some (mk (l.set n s.d))))
              | none => .no
            | none => .no
          | _ => .no
        | _ => .no
      | none => .no
    | _ => .no
  | _ => .no
theorem ds_setix {i : Nat} {x : Str} {e2 : Expr} {ei : SEnv → RO S} {px ps : Pos} (hv : PE X (.Name x px) (tVar i)) (he : DX X G W e ev) (hi : DX X G W e2 ei)
    (ha : ∀ v, assign (.Subscript (.Name x px) e2 ps) X.env v = (do
      let ov ← holding [v] (eval (.Name x px) X.env)
      let iv ← holding [v, ov] (eval e2 X.env)
      standAt ps
      holding [v, ov, iv] (setItem ov iv v)
      release [v, ov, iv] []) := by intro _; rfl)
    (hs : swapsWithSole [.Subscript (.Name x px) e2 ps] e pos.line X.env = pure false := by rfl) (hw : swappedStores [.Subscript (.Name x px) e2 ps] e X.env = pure none := by rfl)
    (h1 : (assignEach [.Subscript (.Name x px) e2 ps] X.env).map (·.2) = [assign (.Subscript (.Name x px) e2 ps) X.env] := by rfl) :
    DS X G W (.Assign [.Subscript (.Name x px) e2 ps] e pos) (sSetIx i ev ei) :=
  PS.imp (ps_asg he (pg_sub hv hi set_list ha) hs hw h1) fun D σ H ⟨F0, H0, F, ρ, x, r, p⟩ => by
    refine ⟨F0, H0, F, ρ, x, r, ?_⟩
    simp only [sSetIx] at p
    cases hev : ev ρ with
    | ex c fs ρ' => rw [hev] at p; exact p.elim
    | no => rw [hev] at p; exact p.elim
    | ok s ρ1 =>
      rw [hev] at p
      intro v F1 H1 x1 l1 w
      dsimp only at p
      split at p
      · rename_i s0 h0
        split at p
        · rename_i g0 hg0
          obtain ⟨F2, x2, l2, r2, rv⟩ := w.view x1
          obtain ⟨a, vs0, e1, z1, z2, z3, z4⟩ := r2.readO h0 (show getO s0 = some (g0.1, g0.2) from hg0)
          refine ⟨_, e1, F0, H0, F2, ρ1, x2, r2, ?_⟩
          cases hei : ei ρ1 with
          | ex c fs ρ' => rw [hei] at p; exact p.elim
          | no => rw [hei] at p; exact p.elim
          | ok sj ρ2 =>
            rw [hei] at p
            intro iv F3 H3 x3 l3 w3
            cases sj with
            | ow l => exact p.elim
            | tr k t => exact p.elim
            | fz d =>
              cases d with
              | int j =>
                dsimp only at p
                split at p
                · rename_i s1 h1
                  split at p
                  · rename_i l mk hg1
                    split at p
                    · rename_i n hn
                      have r3 := w3.base
                      obtain ⟨a', vs, e2, y1, y2, y3, y4⟩ := r3.readO h1 hg1
                      rw [e1] at e2
                      cases e2
                      refine ⟨a, vs, j, n, rfl, Rep.int.mp (show Rep X.K G F3 (.int j) iv from Wth.rep w3), y1, by rw [y4.length]; exact hn, ?_⟩
                      exact p σ F3 _ (x3.write y2 y3) (l1.trans (l2.trans l3)) (r3.writeO h1 e1 hg1 (RepL.set (Rep.mono l3 rv) n y4))
                    · exact p.elim
                  · exact p.elim
                · exact p.elim
              | _ => exact p.elim
        · exact p.elim
      · exact p.elim
end
end O

end

section
set_option Elab.async false
set_option linter.all false
set_option maxRecDepth 100000
namespace O
open PySem PySem.Spec PyProof.Rows L2

/-! ### what a loop walks -/
section
variable (K : PySem.W.Frag) (G : Ctx)
/-- while F stands, J gives the items, one after another -/
def Walks (F : Hp) (J : It) (items : List D) : Prop := ∃ (Gd : Hp → Prop) (Y : Nat → Hp → V → Hp → Prop), Walk J items.length Gd Y ∧ (∀ H, Le F H → Gd H) ∧
  ∀ (i : Nat) (d : D) (F' H : Hp) (x : V) (H' : Hp), items[i]? = some d → Le F F' → Le F' H → Y i H x H' → ∃ F2, Ext F' H F2 H' ∧ Rep K G F2 d x
variable (W : WX)
def PostI (F0 H0 F : Hp) (σ : L2.St) (R : It → Hp → Prop) : RO (List D) → Prop
  | .ok l ρ' => ∀ J F' H', Ext F0 H0 F' H' → Le F F' → SRep K G H0 F' H' σ ρ' → Walks K G F' J l → R J H'
  | .ex c fs ρ' => ∀ cls d F' H', Ext F0 H0 F' H' → Le F F' → SRep K G H0 F' H' σ ρ' → RepX K G F' c fs cls d → W cls d σ H'
  | .no => False
def tI (ev : SEnv → RO (List D)) : TI := fun σ H R => ∃ F0 H0 F ρ, Ext F0 H0 F H ∧ SRep K G H0 F H σ ρ ∧ PostI K G W F0 H0 F σ R (ev ρ)
/-- the same over data alone (within a comprehension, an expression) -/
def PostJ (F H : Hp) (σ : L2.St) (Rr : It → Hp → Prop) : R (List D) → Prop
  | .ok l => ∀ J F' H', Ext F H F' H' → Walks K G F' J l → Rr J H'
  | .ex c fs => ∀ cls d H' F', Ext F H F' H' → RepX K G F' c fs cls d → W cls d σ H'
  | .no => False
def tJ (ev : O.Env → R (List D)) : TI := fun σ H Rr => ∃ F ρ, Le F H ∧ REnv K G F σ ρ ∧ PostJ K G W F H σ Rr (ev ρ)
end
def DI (X : Cx) (G : Ctx) (W : WX) (tg e : Expr) (ev : SEnv → RO (List D)) : Prop := PI X tg e (tI X.K G W ev)
def DJ (X : Cx) (G : Ctx) (W : WX) (tg e : Expr) (ev : Env → R (List D)) : Prop := PI X tg e (tJ X.K G W ev)
theorem PI.imp {X : Cx} {tg e : Expr} {t t' : TI} (h : PI X tg e t) (i : ∀ σ H Q, t' σ H Q → t σ H Q) : PI X tg e t' := ⟨fun pins s σ H Q I q => h.run pins s σ H Q I (i σ H Q q)⟩
section
variable {X : Cx} {G : Ctx} {W : WX} {tg e : Expr}
theorem Walks.mono {K : PySem.W.Frag} {F F' : Hp} {J : It} {l : List D} (le : Le F F') (h : Walks K G F J l) : Walks K G F' J l := by
  obtain ⟨Gd, Y, w, g, y⟩ := h
  exact ⟨Gd, Y, w, fun H q => g H (le.trans q), fun i d F1 H x H' hd l1 l2 yy => y i d F1 H x H' hd (le.trans l1) l2 yy⟩
abbrev evAI (f : Env → R (List D)) : SEnv → RO (List D) := fun ρ => match f (viewF ρ) with | .ok s => .ok s ρ | .ex c fs => .ex c fs ρ | .no => .no
abbrev evCI (f : Env → R (List D)) : SEnv → RO (List D) := fun ρ => match f (viewB ρ) with | .ok s => .ok s (frzA ρ) | .ex c fs => .ex c fs (frzA ρ) | .no => .no
theorem di_A {f : Env → R (List D)} (h : DJ X G W tg e f) : DI X G W tg e (evAI f) := PI.imp h fun σ H Q ⟨F0, H0, F, ρ, x, r, p⟩ => by
  refine ⟨F, viewF ρ, x.fh, r.envF, ?_⟩
  simp only [evAI] at p
  cases hf : f (viewF ρ) with
  | ok s =>
    rw [hf] at p
    exact fun J F1 H1 e1 w => p J F1 H1 (x.trans e1) e1.f (r.step e1) w
  | ex c fs =>
    rw [hf] at p
    exact fun cls d H1 F1 e1 q => p cls d F1 H1 (x.trans e1) e1.f (r.step e1) q
  | no => rw [hf] at p; exact p
theorem di_C {f : Env → R (List D)} (h : DJ X G W tg e f) : DI X G W tg e (evCI f) := PI.imp h fun σ H Q ⟨F0, H0, F, ρ, x, r, p⟩ => by
  refine ⟨Fp F H σ ρ, viewB ρ, r.FpLe x.fh, r.envB, ?_⟩
  simp only [evCI] at p
  cases hf : f (viewB ρ) with
  | ok s =>
    rw [hf] at p
    exact fun J F1 H1 e1 w => p J F1 H1 ((x.fz r).trans e1) (r.leFp.trans e1.f) (r.frz e1.f) w
  | ex c fs =>
    rw [hf] at p
    exact fun cls d H1 F1 e1 q => p cls d F1 H1 ((x.fz r).trans e1) (r.leFp.trans e1.f) (r.frz e1.f) q
  | no => rw [hf] at p; exact p
/-! ### the walked things -/
theorem useJ {K : PySem.W.Frag} {f : Env → RS} {kk : S → R (List D)} {F H : Hp} {σ : L2.St} {ρ : Env} {Rr : It → Hp → Prop} (le : Le F H) (re : REnv K G F σ ρ) {Q' : VK} (p : PostJ K G W F H σ Rr ((f ρ).bind kk))
    (h : ∀ s v H1 F1, f ρ = .ok s → Ext F H F1 H1 → Rep K G F1 s.d v → REnv K G F1 σ ρ → PostJ K G W F1 H1 σ Rr (kk s) → Q' v H1) : tE K G W f σ H Q' := by
  refine ⟨F, ρ, le, re, ?_⟩
  cases hf : f ρ with
  | ok s =>
    rw [hf] at p
    intro v H1 F1 e r
    obtain ⟨F2, e2, _, r2⟩ := r.view e
    refine h s v H1 F2 hf e2 r2 (re.mono e2.f) ?_
    have p' : PostJ K G W F H σ Rr (kk s) := p
    cases hk : kk s with
    | ok l => rw [hk] at p'; exact fun J F' H' e' w => p' J F' H' (e2.trans e') w
    | ex c fs => rw [hk] at p'; exact fun cls d H' F' e' w => p' cls d H' F' (e2.trans e') w
    | no => rw [hk] at p'; exact p'
  | ex c fs => rw [hf] at p; exact p
  | no => rw [hf] at p; exact p
theorem useJA {K : PySem.W.Frag} {f : Env → R (List D)} {kk : List D → R (List D)} {F H : Hp} {σ : L2.St} {ρ : Env} {Rr : It → Hp → Prop} (le : Le F H) (re : REnv K G F σ ρ) {Q' : List V → Hp → Prop} (p : PostJ K G W F H σ Rr ((f ρ).bind kk))
    (h : ∀ s v H1 F1, f ρ = .ok s → Ext F H F1 H1 → RepL K G F1 s v → REnv K G F1 σ ρ → PostJ K G W F1 H1 σ Rr (kk s) → Q' v H1) : tA K G W f σ H Q' := by
  refine ⟨F, ρ, le, re, ?_⟩
  cases hf : f ρ with
  | ok s =>
    rw [hf] at p
    intro v H1 F1 e r
    refine h s v H1 F1 hf e r (re.mono e.f) ?_
    have p' : PostJ K G W F H σ Rr (kk s) := p
    cases hk : kk s with
    | ok l => rw [hk] at p'; exact fun J F' H' e' w => p' J F' H' (e.trans e') w
    | ex c fs => rw [hk] at p'; exact fun cls d H' F' e' w => p' cls d H' F' (e.trans e') w
    | no => rw [hk] at p'; exact p'
  | ex c fs => rw [hf] at p; exact p
  | no => rw [hf] at p; exact p
/-- a list or a tuple -/
def iSeq (K : PySem.W.Frag) (tl : TE) : TI := fun σ H R => tl σ H fun x H1 => ∃ a, x = .ref a ∧ (((∃ xs, SqL K H1 a xs) ∧ R (Itl K a) H1) ∨ ((∃ xs, SqT K H1 a xs) ∧ R (Itt K a) H1))
theorem pi_seq {l : Expr} {tl : TE} (hl : PE X l tl) : PI X tg l (iSeq X.K tl) := by
  refine ⟨fun pins s σ H R I h => ?_⟩
  refine thn (hl.run pins s σ H _ I h) fun v s1 ⟨x, H1, I1, r1, a, e, q1⟩ => ?_
  subst e
  cases r1
  rcases q1 with ⟨⟨xs, hq⟩, q⟩ | ⟨⟨xs, hq⟩, q⟩
  · obtain ⟨its, rv, p, hz⟩ := I1.list hq
    refine wpAny_pyIter_list p.isList ?_
    refine ⟨s1.heap.objs.size, [s1.heap.objs.size], _, _, H1, rfl, I1.kept (t' := s1.toks) fun b o e => Heap.get?_push_of_some _ e, turn_list a _, ⟨_, Heap.get?_push_size _ rfl, rfl, rfl⟩, fun b hb => ?_, q⟩
    have e : b = s1.heap.objs.size := by simpa using hb
    subst e
    exact I1.fpOk (Nat.le_refl _) (I1.hok.fresh (Nat.le_refl _))
  · obtain ⟨its, rv, p, hz⟩ := I1.tuple hq
    refine wpAny_pyIter_tuple (show s1.heap.IsTuple a its.toArray from p) ?_
    refine ⟨s1.heap.objs.size, [s1.heap.objs.size], _, _, H1, rfl, I1.kept (t' := s1.toks) fun b o e => Heap.get?_push_of_some _ e, turn_tuple a _, ⟨_, Heap.get?_push_size _ rfl, rfl, rfl⟩, fun b hb => ?_, q⟩
    have e : b = s1.heap.objs.size := by simpa using hb
    subst e
    exact I1.fpOk (Nat.le_refl _) (I1.hok.fresh (Nat.le_refl _))
abbrev itemsO : D → R (List D)
  | .tup l => .ok l
  | .lst l => .ok l
  | _ => .no
abbrev sSeq (fa : Env → RS) : Env → R (List D) := fun ρ => (fa ρ).bind fun s => itemsO s.d
theorem walks_list {K : PySem.W.Frag} {F : Hp} {a : Addr} {l : List D} {vs : List V} (q : F a = some (.lst vs)) (r : RepL K G F l vs) : Walks K G F (Itl K a) l := by
  refine ⟨_, _, by rw [← r.length]; exact walk_list (xs := vs), fun H h => SqL.of (h _ _ q), fun i d F' H x H' hd l1 l2 y => ?_⟩
  obtain ⟨rfl, hx⟩ := y
  obtain ⟨v, e1, rv⟩ := RepL.getD r hd
  rw [e1] at hx
  cases hx
  exact ⟨F', .refl l2, rv.mono l1⟩
theorem walks_tup {K : PySem.W.Frag} {F : Hp} {a : Addr} {l : List D} {vs : List V} (q : XT K F a vs) (r : RepL K G F l vs) : Walks K G F (Itt K a) l := by
  refine ⟨_, _, by rw [← r.length]; exact walk_tup (xs := vs), fun H h => h.sqt q, fun i d F' H x H' hd l1 l2 y => ?_⟩
  obtain ⟨rfl, hx⟩ := y
  obtain ⟨v, e1, rv⟩ := RepL.getD r hd
  rw [e1] at hx
  cases hx
  exact ⟨F', .refl l2, rv.mono l1⟩
theorem dj_seq {fa : Env → RS} (ha : DE X G W e fa) : DJ X G W tg e (sSeq fa) := PI.imp (pi_seq ha) fun σ H Q ⟨F, ρ, le, re, p⟩ => useJ le re p fun s v H1 F1 _ e1 r1 re1 p1 => by
  cases hs : s.d with
  | tup l =>
    rw [hs] at p1 r1
    obtain ⟨a, vs, rfl, q, rl⟩ := Rep.tup.mp r1
    exact ⟨a, rfl, .inr ⟨⟨vs, e1.fh.sqt q⟩, p1 _ F1 H1 (.refl e1.fh) (walks_tup q rl)⟩⟩
  | lst l =>
    rw [hs] at p1 r1
    obtain ⟨a, vs, rfl, q, rl⟩ := Rep.lst.mp r1
    exact ⟨a, rfl, .inl ⟨⟨vs, .of (e1.fh _ _ q)⟩, p1 _ F1 H1 (.refl e1.fh) (walks_list q rl)⟩⟩
  | _ => rw [hs] at p1; exact p1.elim
/-- range -/
abbrev rangeD (lo : Int) (n : Nat) : List D := (List.range n).map fun (i : Nat) => D.int (lo + i)
abbrev sRange1 (fa : Env → R (List D)) : Env → R (List D) := fun ρ => (fa ρ).bind fun l => match l with
  | [.int j] => if j ≤ 1000000 ∧ -1000000 ≤ j then .ok (rangeD 0 j.toNat) else .no
  | _ => .no
abbrev sRange2 (fa : Env → R (List D)) : Env → R (List D) := fun ρ => (fa ρ).bind fun l => match l with
  | [.int i, .int j] => if (j ≤ 1000000 ∧ -1000000 ≤ j) ∧ i ≤ 1000000 ∧ -1000000 ≤ i then .ok (rangeD i (j - i).toNat) else .no
  | _ => .no
theorem walks_range {K : PySem.W.Frag} {F : Hp} {lo : Int} {n : Nat} : Walks K G F (Itr lo n) (rangeD lo n) := by
  refine ⟨_, _, by rw [List.length_map, List.length_range]; exact walk_range, fun H h => trivial, fun i d F' H x H' hd l1 l2 y => ?_⟩
  obtain ⟨rfl, hx⟩ := y
  rw [List.getElem?_map] at hd
  obtain ⟨j, hj, rfl⟩ := Option.map_eq_some_iff.mp hd
  obtain ⟨h1, h2⟩ := List.getElem?_eq_some_iff.mp hj
  rw [List.getElem_range] at h2
  subst h2
  exact ⟨F', .refl l2, Rep.int.mpr hx⟩
theorem dj_range1 {a : Expr} {fa : Env → R (List D)} {p pos : Pos} (hg : Gl X "range") (hm : X.mg "range" = none) (ha : DA X G W [a] fa) (hs : starEach [a] X.env = [(false, eval a X.env)] := by rfl) : DJ X G W tg (.Call (.Name "range" p) [a] [] pos) (sRange1 fa) :=
  PI.imp (pi_range1 hg hm ha hs) fun σ H Q ⟨F, ρ, le, re, p⟩ => useJA le re p fun l vs H1 F1 _ e1 r1 re1 p1 => by
    match l, p1 with
    | [.int j], p1 =>
      obtain ⟨v, rfl, rv⟩ := r1.one_inv
      dsimp only at p1
      split at p1
      · rename_i hj
        exact ⟨j, by rw [Rep.int.mp rv], by omega, by omega, p1 _ F1 H1 (.refl e1.fh) walks_range⟩
      · exact p1.elim
theorem dj_range2 {a b : Expr} {fa : Env → R (List D)} {p pos : Pos} (hg : Gl X "range") (hm : X.mg "range" = none) (ha : DA X G W [a, b] fa) (hs : starEach [a, b] X.env = [(false, eval a X.env), (false, eval b X.env)] := by rfl) (hs2 : starEach [b] X.env = [(false, eval b X.env)] := by rfl) :
    DJ X G W tg (.Call (.Name "range" p) [a, b] [] pos) (sRange2 fa) :=
  PI.imp (pi_range2 hg hm ha hs hs2) fun σ H Q ⟨F, ρ, le, re, p⟩ => useJA le re p fun l vs H1 F1 _ e1 r1 re1 p1 => by
    match l, p1 with
    | [.int i, .int j], p1 =>
      obtain ⟨v, w, rfl, rv, rw'⟩ := r1.two_inv
      dsimp only at p1
      split at p1
      · rename_i hj
        exact ⟨i, j, by rw [Rep.int.mp rv, Rep.int.mp rw'], by omega, p1 _ F1 H1 (.refl e1.fh) walks_range⟩
      · exact p1.elim
/-! ### targets -/
abbrev Tgt := D → SEnv → Option SEnv
def tG (K : PySem.W.Frag) (G : Ctx) (t : Tgt) : TG := fun v σ H Q => ∃ H0 F d ρ ρ', Le F H ∧ SRep K G H0 F H σ ρ ∧ Rep K G F d v ∧ t d ρ = some ρ' ∧ ∀ σ', SRep K G H0 F H σ' ρ' → Q σ' H
def DG (X : Cx) (G : Ctx) (tg : Expr) (t : Tgt) : Prop := PG X tg (tG X.K G t)
theorem PG.imp {t t' : TG} (h : PG X tg t) (i : ∀ v σ H Q, t' v σ H Q → t v σ H Q) : PG X tg t' := ⟨fun pins s σ H v u Q I r q => h.run pins s σ H v u Q I r (i v σ H Q q)⟩
theorem SRep.setFz {K : PySem.W.Frag} {H0 F H : Hp} {σ : L2.St} {ρ : SEnv} (r : SRep K G H0 F H σ ρ) {d : D} {v : V} (q : Rep K G F d v) (i : Nat) : SRep K G H0 F H (σ.set i (some v)) (ρ.set i (some (.fz d))) :=
  Wth.set (Wth.mk (s := .fz d) r q fun _ f => f.elim) i
abbrev gN (i : Nat) : Tgt := fun d ρ => some (ρ.set i (some (.fz d)))
theorem dg_name {i : Nat} {x : Str} {pos : Pos} (hN : X.N.Nodup) (hi : X.N[i]? = some x := by rfl) (hx : Loc X.env.scope x := by first | exact Or.inl rfl | exact Or.inr rfl) (hf : X.fn x = true ∨ X.env.scope.names.lookup x = some .local := by first | exact .inl rfl | exact .inr rfl | assumption) : DG X G (.Name x pos) (gN i) :=
  PG.imp (pg_name hN hi hx hf) fun v σ H Q ⟨H0, F, d, ρ, ρ', le, r, rv, e, q⟩ => by
    cases e
    exact q _ (r.setFz rv i)
abbrev Tgts := List D → SEnv → Option SEnv
def tGs (K : PySem.W.Frag) (G : Ctx) (t : Tgts) : TGs := fun vs σ H Q => ∃ H0 F ds ρ ρ', Le F H ∧ SRep K G H0 F H σ ρ ∧ RepL K G F ds vs ∧ t ds ρ = some ρ' ∧ ∀ σ', SRep K G H0 F H σ' ρ' → Q σ' H
def DGs (X : Cx) (G : Ctx) (tgs : List Expr) (t : Tgts) : Prop := PGs X tgs (tGs X.K G t)
theorem PGs.imp {tgs : List Expr} {t t' : TGs} (h : PGs X tgs t) (i : ∀ v σ H Q, t' v σ H Q → t v σ H Q) : PGs X tgs t' := ⟨fun pins s σ H v u Q I r q => h.run pins s σ H v u Q I r (i v σ H Q q)⟩
abbrev gsNil : Tgts := fun ds ρ => match ds with | [] => some ρ | _ => none
abbrev gsCons (t : Tgt) (u : Tgts) : Tgts := fun ds ρ => match ds with | d :: r => (match t d ρ with | some ρ1 => u r ρ1 | none => none) | [] => none
theorem dgs_nil : DGs X G [] gsNil := PGs.imp pgs_nil fun v σ H Q ⟨H0, F, ds, ρ, ρ', le, r, rv, e, q⟩ => by
  cases ds with
  | nil =>
    cases e
    rw [RepL.nil.mp rv]
    exact ⟨rfl, q σ r⟩
  | cons d l => cases e
theorem dgs_cons {es : List Expr} {t : Tgt} {u : Tgts} (h1 : DG X G e t) (h2 : DGs X G es u) (hs : (assignEach (e :: es) X.env).map (·.2) = assign e X.env :: (assignEach es X.env).map (·.2) := by rfl) : DGs X G (e :: es) (gsCons t u) :=
  PGs.imp (pgs_cons h1 h2 hs) fun v σ H Q ⟨H0, F, ds, ρ, ρ', le, r, rv, e, q⟩ => by
    cases ds with
    | nil => cases e
    | cons d l =>
      obtain ⟨x, w, rfl, q1, q2⟩ := RepL.cons.mp rv
      have e' : (match t d ρ with | some ρ1 => u l ρ1 | none => none) = some ρ' := e
      cases ht : t d ρ with
      | none => rw [ht] at e'; cases e'
      | some ρ1 =>
        rw [ht] at e'
        exact ⟨x, w, rfl, H0, F, d, ρ, ρ1, le, r, q1, ht, fun σ1 r1 => ⟨H0, F, l, ρ1, ρ', le, r1, q2, e', q⟩⟩
abbrev gT (n : Nat) (u : Tgts) : Tgt := fun d ρ => match d with | .tup l => if l.length = n then u l ρ else none | _ => none
theorem dg_tup {es : List Expr} {kk n : Nat} {u : Tgts} {pos : Pos} (hc : X.calm = true) (h : DGs X G es u) (hn : (assignEach es X.env).length = n := by rfl) (hst : (assignEach es X.env).findIdx? (·.1) = none := by rfl) : DG X G (.Tuple es kk pos) (gT n u) :=
  PG.imp (pg_tup hc h hn hst) fun v σ H Q ⟨H0, F, d, ρ, ρ', le, r, rv, e, q⟩ => by
    cases d with
    | tup l =>
      obtain ⟨a, vs, rfl, q1, rl⟩ := Rep.tup.mp rv
      have e' : (if l.length = n then u l ρ else none) = some ρ' := e
      split at e'
      · rename_i hl
        exact ⟨a, vs, rfl, le.sqt q1, by rw [rl.length]; exact hl, H0, F, l, ρ, ρ', le, r, rl, e', q⟩
      · cases e'
    | _ => cases e
/-! ### for -/
def loop (t : Tgt) (body : SEnv → Out) (kl : List Nat) : List D → SEnv → Out
  | [], ρ => .nx ρ
  | d :: ds, ρ => match t d ρ with
    | none => .no
    | some ρ1 => match body ρ1 with
      | .nx ρ2 => loop t body kl ds (killS kl ρ2)
      | .ct ρ2 => loop t body kl ds (killS kl ρ2)
      | .bk ρ2 => .nx (killS kl ρ2)
      | .rt s ρ2 => .rt s ρ2
      | .ex c fs ρ2 => .ex c fs ρ2
      | .no => .no
abbrev sFor (ev : SEnv → RO (List D)) (t : Tgt) (body : SEnv → Out) (kl : List Nat) : SEnv → Out := fun ρ => match ev ρ with
  | .ok l ρ' => loop t body kl l (killS kl ρ')
  | .ex c fs ρ' => .ex c fs ρ'
  | .no => .no
theorem ds_for {iter : Expr} {body : List Stmt} {ev : SEnv → RO (List D)} {t : Tgt} {g : SEnv → Out} {pos : Pos} (kl : List Nat) (hp : PassesOwn (model X.prog X.w) X.A X.env X.xe) (hc : X.calm = true) (hi : DI X G W tg iter ev) (hg : DG X G tg t) (hb : DSs X G W body g) (hfs : ∀ x, foldedSetIterable iter X.env x = pure x := by intro _; rfl) :
    DS X G W (.For tg iter body [] pos) (sFor ev t g kl) :=
  PS.imp (ps_for hp hc hi hg hb hfs) fun D σ H ⟨F0, H0, F, ρ, x, r, p⟩ => by
    refine ⟨F0, H0, F, ρ, x, r, ?_⟩
    simp only [sFor] at p
    cases he : ev ρ with
    | ex c fs ρ' => rw [he] at p; exact fun cls d F' H' x' l' r' q => p cls d σ F' H' x' l' r' q
    | no => rw [he] at p; exact p
    | ok l ρ' =>
      rw [he] at p
      dsimp only at p
      intro J F1 H1 x1 l1 r1 w
      have p := p.mono l1
      obtain ⟨Gd, Y, wk, gd, yy⟩ := w
      refine for_it wk (Pv := fun i σ2 H2 => ∃ F2 ρ2, Ext F0 H0 F2 H2 ∧ Le F1 F2 ∧ SRep X.K G H0 F2 H2 σ2 ρ2 ∧ PostO X.K G W F0 H0 F2 D (loop t g kl (l.drop i) ρ2)) ⟨F1, _, x1, .refl F1, r1.kills kl, by rw [List.drop_zero]; exact p⟩ (fun i σ2 H2 _ ⟨F2, ρ2, x2, l2, _⟩ => gd H2 (l2.trans x2.fh)) (fun i v σ2 H2 H3 hi ⟨F2, ρ2, x2, l2, r2, p2⟩ y => ?_) (fun σ2 H2 ⟨F2, ρ2, x2, l2, r2, p2⟩ => ?_)
      · have hd : l[i]? = some l[i] := by simp [hi]
        rw [List.drop_eq_getElem_cons hi] at p2
        obtain ⟨F3, e3, rv⟩ := yy i l[i] F2 H2 v H3 hd l2 x2.fh y
        unfold loop at p2
        cases ht : t l[i] ρ2 with
        | none => rw [ht] at p2; exact p2.elim
        | some ρ3 =>
          rw [ht] at p2
          dsimp only at p2
          refine ⟨H0, F3, l[i], ρ2, ρ3, e3.fh, r2.step e3, rv, ht, fun σ3 r3 => ?_⟩
          refine ⟨F0, H0, F3, ρ3, x2.trans e3, r3, ?_⟩
          have l3 : Le F1 F3 := l2.trans e3.f
          cases hgb : g ρ3 with
          | nx ρ4 =>
            simp only [hgb] at p2
            exact fun σ' F' H' x' l' r' => ⟨F', _, x', l3.trans l', r'.kills kl, p2.mono (e3.f.trans l')⟩
          | ct ρ4 =>
            simp only [hgb] at p2
            exact fun σ' F' H' x' l' r' => ⟨F', _, x', l3.trans l', r'.kills kl, p2.mono (e3.f.trans l')⟩
          | bk ρ4 =>
            simp only [hgb] at p2
            exact fun σ' F' H' x' l' r' => p2 σ' F' H' x' (e3.f.trans l') (r'.kills kl)
          | rt s ρ4 =>
            simp only [hgb] at p2
            exact fun v σ' F' H' x' l' r' => p2 v σ' F' H' x' (e3.f.trans l') r'
          | ex c fs ρ4 =>
            simp only [hgb] at p2
            exact fun cls d σ' F' H' x' l' r' q => p2 cls d σ' F' H' x' (e3.f.trans l') r' q
          | no => simp only [hgb] at p2; exact p2
      · rw [List.drop_length] at p2
        exact p2 σ2 F2 H2 x2 (.refl F2) r2
end
end O

end

section
set_option Elab.async false
set_option linter.all false
set_option maxRecDepth 100000
namespace O
open PySem PySem.Spec PyProof.Rows L2

/-! ### comprehensions -/
inductive CT where
  | nm (i : Nat)
  | tup (is : List Nat)
def CT.gs : List Nat → TGs
  | [] => gNil
  | i :: is => gCons (gName i) (CT.gs is)
def CT.g (K : PySem.W.Frag) : CT → TG
  | .nm i => gName i
  | .tup is => gTup K is.length (CT.gs is)
def CT.is : CT → List Nat
  | .nm i => [i]
  | .tup is => is
def setsD : List Nat → List D → Env → Option Env
  | [], [], ρ => some ρ
  | i :: is, d :: ds, ρ => setsD is ds (ρ.set i (some d))
  | _, _, _ => none
def CT.set (t : CT) (d : D) (ρ : Env) : Option Env := match t with
  | .nm i => some (ρ.set i (some d))
  | .tup is => match d with | .tup l => setsD is l ρ | _ => none
def wipeE : List Nat → Env → Env
  | [], ρ => ρ
  | i :: l, ρ => (wipeE l ρ).set i none
def setsV : List Nat → List V → L2.St → L2.St
  | i :: is, v :: vs, σ => setsV is vs (σ.set i (some v))
  | _, _, σ => σ
theorem REnv.set {K : PySem.W.Frag} {G : Ctx} {F : Hp} {σ : L2.St} {ρ : Env} (r : REnv K G F σ ρ) {d : D} {v : V} (q : Rep K G F d v) (i : Nat) : REnv K G F (σ.set i (some v)) (ρ.set i (some d)) := by
  refine ⟨by simp [r.len], fun j e h => ?_, r.m⟩
  by_cases hj : i = j
  · subst hj
    have hlt : i < ρ.length := by simpa using (List.getElem?_eq_some_iff.mp h).1
    rw [List.getElem?_set_self hlt] at h
    cases h
    exact ⟨v, by rw [List.getElem?_set_self (by rw [r.len]; exact hlt)], q⟩
  · rw [List.getElem?_set_ne hj] at h ⊢
    exact r.val j e h
theorem REnv.unset {K : PySem.W.Frag} {G : Ctx} {F : Hp} {σ : L2.St} {ρ : Env} (r : REnv K G F σ ρ) (i : Nat) (o : Option V) : REnv K G F (σ.set i o) (ρ.set i none) := by
  refine ⟨by simp [r.len], fun j e h => ?_, r.m⟩
  by_cases hj : i = j
  · subst hj
    rw [List.getElem?_set] at h
    split at h
    · split at h <;> cases h
    · rename_i hn
      exact absurd rfl hn
  · rw [List.getElem?_set_ne hj] at h ⊢
    exact r.val j e h
theorem REnv.wipe {K : PySem.W.Frag} {G : Ctx} {F : Hp} {σ : L2.St} {ρ : Env} (r : REnv K G F σ ρ) : ∀ vs : List Nat, REnv K G F (L2.wipe σ vs) (wipeE vs ρ)
  | [] => r
  | i :: vs => (REnv.wipe r vs).unset i none
theorem wipe_get {σ : L2.St} {i : Nat} : ∀ {vs : List Nat}, i ∈ vs → i < σ.length → (L2.wipe σ vs)[i]? = some none
  | v :: vs, h, hl => by
    unfold L2.wipe
    by_cases hv : v = i
    · subst hv
      rw [List.getElem?_set_self (by rw [wipe_length]; exact hl)]
    · rw [List.getElem?_set_ne hv]
      rcases List.mem_cons.mp h with e | e
      · exact absurd e.symm hv
      · exact wipe_get e hl
theorem wipe_set {i : Nat} {o : Option V} : ∀ {vs : List Nat} {σ : L2.St}, i ∈ vs → L2.wipe (σ.set i o) vs = L2.wipe σ vs := fun {vs σ} h => by
  apply List.ext_getElem?
  intro j
  by_cases hj : j ∈ vs
  · by_cases hl : j < σ.length
    · rw [wipe_get hj (by simpa using hl), wipe_get hj hl]
    · rw [List.getElem?_eq_none (by rw [wipe_length]; simpa using hl), List.getElem?_eq_none (by rw [wipe_length]; simpa using hl)]
  · rw [wipe_out hj, wipe_out hj]
    rw [List.getElem?_set_ne]
    intro e
    subst e
    exact hj h
theorem wipe_setsV {vs : List Nat} : ∀ {is : List Nat} {ws : List V} {σ : L2.St}, (∀ i ∈ is, i ∈ vs) → L2.wipe (setsV is ws σ) vs = L2.wipe σ vs
  | [], _, σ, _ => by simp [setsV]
  | i :: is, [], σ, _ => by simp [setsV]
  | i :: is, w :: ws, σ, h => by
    show L2.wipe (setsV is ws (σ.set i (some w))) vs = _
    rw [wipe_setsV fun j hj => h j (List.mem_cons_of_mem _ hj), wipe_set (h i List.mem_cons_self)]
theorem wipe_wipe {σ : L2.St} {vs : List Nat} : L2.wipe (L2.wipe σ vs) vs = L2.wipe σ vs := by
  apply List.ext_getElem?
  intro j
  by_cases hj : j ∈ vs
  · by_cases hl : j < σ.length
    · rw [wipe_get hj (by rw [wipe_length]; exact hl), wipe_get hj hl]
    · rw [List.getElem?_eq_none (by rw [wipe_length, wipe_length]; omega), List.getElem?_eq_none (by rw [wipe_length]; omega)]
  · rw [wipe_out hj]
theorem gs_use {K : PySem.W.Frag} {G : Ctx} {F H : Hp} {Q : L2.St → Hp → Prop} : ∀ {is : List Nat} {l : List D} {vs : List V} {σ : L2.St} {ρ ρ' : Env}, RepL K G F l vs → REnv K G F σ ρ → setsD is l ρ = some ρ' →
    (REnv K G F (setsV is vs σ) ρ' → Q (setsV is vs σ) H) → CT.gs is vs σ H Q
  | [], [], vs, σ, ρ, ρ', rl, re, e, q => by
    rw [RepL.nil.mp rl] at q ⊢
    cases e
    exact ⟨rfl, q re⟩
  | [], _ :: _, vs, σ, ρ, ρ', rl, re, e, q => by cases e
  | _ :: _, [], vs, σ, ρ, ρ', rl, re, e, q => by cases e
  | i :: is, d :: l, vs, σ, ρ, ρ', rl, re, e, q => by
    obtain ⟨v, r, rfl, h1, h2⟩ := RepL.cons.mp rl
    exact ⟨v, r, rfl, gs_use h2 (re.set h1 i) e q⟩
/-- the slots behind the target -/
def CT.after (t : CT) (v : V) (vs : List V) (σ : L2.St) : L2.St := match t with
  | .nm i => σ.set i (some v)
  | .tup is => setsV is vs σ
theorem CT.use {K : PySem.W.Frag} {G : Ctx} {t : CT} {F H : Hp} {σ : L2.St} {ρ ρ' : Env} {d : D} {v : V} {Q : L2.St → Hp → Prop} (le : Le F H) (re : REnv K G F σ ρ) (rv : Rep K G F d v) (e : t.set d ρ = some ρ')
    (q : ∀ σ', REnv K G F σ' ρ' → (∀ vs, (∀ i ∈ t.is, i ∈ vs) → L2.wipe σ' vs = L2.wipe σ vs) → Q σ' H) : t.g K v σ H Q := by
  cases t with
  | nm i =>
    cases e
    exact q _ (re.set rv i) fun vs h => wipe_set (h i List.mem_cons_self)
  | tup is =>
    cases d with
    | tup l =>
      obtain ⟨a, vs, rfl, q1, rl⟩ := Rep.tup.mp rv
      have e' : setsD is l ρ = some ρ' := e
      have hlen : ∀ {is : List Nat} {l : List D} {ρ ρ' : Env}, setsD is l ρ = some ρ' → l.length = is.length := by
        intro is
        induction is with
        | nil => intro l ρ ρ' h; cases l with | nil => rfl | cons => cases h
        | cons i is ih => intro l ρ ρ' h; cases l with | nil => cases h | cons d l => simp [ih h]
      exact ⟨a, vs, rfl, le.sqt q1, by rw [rl.length]; exact hlen e', gs_use rl re e' fun re' => q _ re' fun ws h => wipe_setsV h⟩
    | _ => cases e
def lcGo (t : CT) (ft : Env → R Bool) (fe : Env → RS) (ρ0 : Env) : List D → R (List D)
  | [] => .ok []
  | d :: ds => match t.set d ρ0 with
    | none => .no
    | some ρ1 => match ft ρ1 with
      | .ok true => match fe ρ1 with
        | .ok s => match lcGo t ft fe ρ0 ds with
          | .ok l => .ok (s.d :: l)
          | _ => .no
        | _ => .no
      | .ok false => lcGo t ft fe ρ0 ds
      | _ => .no
abbrev W0 : WX := fun _ _ _ _ => False
abbrev sLc (fj : Env → R (List D)) (t : CT) (ft : Env → R Bool) (fe : Env → RS) (vs : List Nat) : Env → RS := fun ρ => (fj ρ).bind fun l => match lcGo t ft fe (wipeE vs ρ) l with
  | .ok r => if r.length ≤ LIM then .ok (.ow r) else .no
  | _ => .no
theorem useJJ {K : PySem.W.Frag} {G : Ctx} {W : WX} {f : Env → R (List D)} {kk : List D → RS} {F H : Hp} {σ : L2.St} {ρ : Env} {Q : VK} (le : Le F H) (re : REnv K G F σ ρ) {Q' : It → Hp → Prop} (p : PostS K G F H ((f ρ).bind kk) Q (WE W σ))
    (h : ∀ l J H1 F1, f ρ = .ok l → Ext F H F1 H1 → Walks K G F1 J l → REnv K G F1 σ ρ → PostS K G F1 H1 (kk l) Q (WE W σ) → Q' J H1) : tJ K G W f σ H Q' := by
  refine ⟨F, ρ, le, re, ?_⟩
  cases hf : f ρ with
  | ok s =>
    rw [hf] at p
    intro J F1 H1 e w
    exact h s J H1 F1 hf e w (re.mono e.f) (PostS.ext p e)
  | ex c fs => rw [hf] at p; exact p
  | no => rw [hf] at p; exact p
/-- the inner part: the test, the element, the push -/
theorem lc_turn {K : PySem.W.Frag} {G : Ctx} {ft : Env → R Bool} {fe : Env → RS} {F1 H1 F H : Hp} {σ : L2.St} {ρ : Env} {D0 : Addr} {acc : List D} {rest : List D} {hx : R (List D)} {NX : Hp → Prop} {r : List D} (hr : r.length ≤ LIM)
    (hD : H1 D0 = none) (x : Ext F1 H1 F H) (hF : F D0 = none) (hH : ∃ vs, H D0 = some (.lst vs) ∧ RepL K G F acc vs) (re : REnv K G F σ ρ)
    (e : (match ft ρ with
      | .ok true => match fe ρ with
        | .ok s => match hx with
          | .ok l => .ok (s.d :: l)
          | _ => .no
        | _ => .no
      | .ok false => hx
      | _ => .no) = R.ok rest) (hr2 : acc ++ rest = r)
    (q : ∀ acc' rest' F' H', hx = .ok rest' → acc' ++ rest' = r → Ext F1 H1 F' H' → Le F F' → F' D0 = none → (∃ vs, H' D0 = some (.lst vs) ∧ RepL K G F' acc' vs) → NX H') :
    tT K G W0 ft σ H fun b H3 => if b = true then tE K G W0 fe σ H3 fun y H4 => ∃ acc, H4 D0 = some (.lst acc) ∧ acc.length < sizeLine ∧ NX (upd H4 D0 (.lst (acc ++ [y]))) else NX H3 := by
  obtain ⟨vs, h1, h2⟩ := hH
  refine ⟨F, ρ, x.fh, re, ?_⟩
  cases hft : ft ρ with
  | ex c fs => rw [hft] at e; cases e
  | no => rw [hft] at e; cases e
  | ok b =>
    rw [hft] at e
    intro b' H3 F3 e3 hb
    cases hb
    have hF3 : F3 D0 = none := by
      cases z : F3 D0 with
      | none => rfl
      | some o =>
        rcases e3.fr _ _ z with w | w
        · rw [hF] at w; cases w
        · rw [h1] at w; cases w
    cases b with
    | false =>
      rw [if_neg Bool.false_ne_true]
      exact q acc rest F3 H3 e hr2 (x.trans e3) e3.f hF3 ⟨vs, e3.h _ _ h1, h2.mono e3.f⟩
    | true =>
      rw [if_pos rfl]
      dsimp only at e
      refine ⟨F3, ρ, e3.fh, re.mono e3.f, ?_⟩
      cases hfe : fe ρ with
      | ex c fs => rw [hfe] at e; cases e
      | no => rw [hfe] at e; cases e
      | ok s =>
        rw [hfe] at e
        dsimp only at e
        cases hxx : hx with
        | ex c fs => rw [hxx] at e; cases e
        | no => rw [hxx] at e; cases e
        | ok l =>
          rw [hxx] at e
          cases e
          intro y H4 F4 e4 rs
          obtain ⟨F5, e5, l5, rv⟩ := rs.view e4
          have hF5 : F5 D0 = none := by
            cases z : F5 D0 with
            | none => rfl
            | some o =>
              rcases e5.fr _ _ z with w | w
              · rw [hF3] at w; cases w
              · rw [e3.h _ _ h1] at w; cases w
          have h4 : H4 D0 = some (.lst vs) := e5.h _ _ (e3.h _ _ h1)
          have hacc : acc.length < LIM := by
            have : (acc ++ s.d :: l).length = r.length := by rw [hr2]
            simp at this
            omega
          refine ⟨vs, h4, by rw [h2.length]; exact LIM_lt hacc, ?_⟩
          refine q (acc ++ [s.d]) l F5 _ hxx (by rw [← hr2]; simp) (((x.trans e3).trans e5).write hD hF5) (e3.f.trans e5.f) hF5 ⟨vs ++ [y], upd_same, ?_⟩
          exact (h2.mono (e3.f.trans e5.f)).append (.one rv)
section
variable {X : Cx} {G : Ctx} {W : WX} {elt tg iter : Expr} {ifs : List Expr} {scope : Scope} {own : List (Str × Nat)} {pos : Pos}
theorem lc_use {K : PySem.W.Frag} {fj : Env → R (List D)} {t : CT} {ft : Env → R Bool} {fe : Env → RS} {vs : List Nat} (ht : ∀ i ∈ t.is, i ∈ vs) {σ : L2.St} {H : Hp} {Q : VK} (h : tE K G W (sLc fj t ft fe vs) σ H Q) :
    tLc (tJ K G W fj) (t.g K) (tT K G W0 ft) (tE K G W0 fe) vs σ H Q := by
  obtain ⟨F, ρ, le, re, p⟩ := h
  refine useJJ le re p fun l J H1 F1 _ e1 wk re1 p1 => ?_
  intro D0 hD
  cases hg : lcGo t ft fe (wipeE vs ρ) l with
  | ex c fs => rw [hg] at p1; exact p1.elim
  | no => rw [hg] at p1; exact p1.elim
  | ok r =>
    rw [hg] at p1
    dsimp only at p1
    split at p1
    · rename_i hr
      obtain ⟨Gd, Y, w, gd, yy⟩ := wk
      have hF1 : F1 D0 = none := e1.fh.free hD
      refine lc_it w (Pv := fun i H2 => ∃ acc rest F2, lcGo t ft fe (wipeE vs ρ) (l.drop i) = .ok rest ∧ acc ++ rest = r ∧ Ext F1 H1 F2 H2 ∧ F2 D0 = none ∧ ∃ us, H2 D0 = some (.lst us) ∧ RepL K G F2 acc us)
        ⟨[], r, F1, by rw [List.drop_zero]; exact hg, rfl, (Ext.refl e1.fh).newU hD, hF1, [], upd_same, RepL.nil.mpr rfl⟩ (fun i H2 _ ⟨_, _, F2, _, _, x2, _⟩ => gd H2 (x2.f.trans x2.fh)) (fun i v H2 H3 hi ⟨acc, rest, F2, hgo, hr2, x2, hF2, us, hu, rl⟩ y => ?_) (fun H2 ⟨acc, rest, F2, hgo, hr2, x2, hF2, us, hu, rl⟩ => ?_)
      · rw [List.drop_eq_getElem_cons hi] at hgo
        obtain ⟨F3, e3, rv⟩ := yy i l[i] F2 H2 v H3 (by simp [hi]) x2.f x2.fh y
        unfold lcGo at hgo
        have hF3 : F3 D0 = none := by
          cases z : F3 D0 with
          | none => rfl
          | some o =>
            rcases e3.fr _ _ z with w | w
            · rw [hF2] at w; cases w
            · rw [hu] at w; cases w
        cases hset : t.set l[i] (wipeE vs ρ) with
        | none => rw [hset] at hgo; cases hgo
        | some ρ1 =>
          rw [hset] at hgo
          dsimp only at hgo
          refine CT.use e3.fh (((re1.mono x2.f).mono e3.f).wipe vs) rv hset fun σ' re' hw => ⟨?_, ?_⟩
          · rw [hw vs ht]; exact wipe_wipe
          · exact lc_turn hr hD (x2.trans e3) hF3 ⟨us, e3.h _ _ hu, rl.mono e3.f⟩ re' hgo hr2 fun acc' rest' F' H' hx' h1 h2 _ h4 h5 => ⟨acc', rest', F', hx', h1, h2, h4, h5⟩
      · rw [List.drop_length] at hgo
        cases hgo
        rw [List.append_nil] at hr2
        subst hr2
        exact p1 _ H2 F2 x2 ⟨D0, us, rfl, hu, hD, hF2, rl⟩
    · exact p1.elim
theorem pts_nilD : PTs X [] (tT X.K G W (fun _ => .ok true)) := ⟨fun pins s σ H Q I ⟨F, ρ, le, re, p⟩ => pts_nil.run pins s σ H Q I (p true H F (.refl le) rfl)⟩
theorem pts_oneD {c : Expr} {ft : Env → R Bool} (h : DT X G W c ft) : PTs X [c] (tT X.K G W ft) := pts_one h
theorem de_lc {fj : Env → R (List D)} {t : CT} {ft : Env → R Bool} {fe : Env → RS} (own : List (Str × Nat)) (hc : X.calm = true) (hN : X.N.Nodup) (hi : DJ X G W tg iter fj) (ok : BlkOk X.N X.env.scope scope own)
    (hg : ∀ (s : Shared) (H : Hp) (C : Addr) (cl : List (Str × Addr)) (fp : List Addr), PG (X.blk s H scope (compEnvC scope cl C X.env) fp) tg (t.g X.K))
    (ht : ∀ (s : Shared) (H : Hp) (C : Addr) (cl : List (Str × Addr)) (fp : List Addr), PTs (X.blk s H scope (compEnvC scope cl C X.env) fp) ifs (tT X.K G W0 ft))
    (he : ∀ (s : Shared) (H : Hp) (C : Addr) (cl : List (Str × Addr)) (fp : List Addr), DE (X.blk s H scope (compEnvC scope cl C X.env) fp) G W0 elt fe)
    (hti : ∀ i ∈ t.is, i ∈ own.map (·.2) := by decide) (hfs : ∀ x, foldedSetIterable iter X.env x = pure x := by intro _; rfl) :
    DE X G W (.ListComp elt [⟨tg, iter, ifs, 0⟩] scope pos) (sLc fj t ft fe (own.map (·.2))) :=
  PE.imp (pe_lc (te := tE X.K G W0 fe) hc hN hi ok hg ht he hfs) fun σ H Q h => lc_use hti h
end
end O

end

section
set_option Elab.async false
set_option linter.all false
set_option maxRecDepth 100000
namespace O
open PySem PySem.Spec PyProof.Rows L2

def lcGo2 (t : CT) (ft : Env → R Bool) (fj1 : Env → R (List D)) (t1 : CT) (ft1 : Env → R Bool) (fe : Env → RS) (vs1 : List Nat) (ρ0 : Env) : List D → R (List D)
  | [] => .ok []
  | d :: ds => match t.set d ρ0 with
    | none => .no
    | some ρ1 => match ft ρ1 with
      | .ok true => match fj1 ρ1 with
        | .ok l1 => match lcGo t1 ft1 fe (wipeE vs1 ρ1) l1 with
          | .ok r1 => match lcGo2 t ft fj1 t1 ft1 fe vs1 ρ0 ds with
            | .ok r => .ok (r1 ++ r)
            | _ => .no
          | _ => .no
        | _ => .no
      | .ok false => lcGo2 t ft fj1 t1 ft1 fe vs1 ρ0 ds
      | _ => .no
abbrev sLc2 (fj : Env → R (List D)) (t : CT) (ft : Env → R Bool) (fj1 : Env → R (List D)) (t1 : CT) (ft1 : Env → R Bool) (fe : Env → RS) (vs vs1 : List Nat) : Env → RS := fun ρ => (fj ρ).bind fun l => match lcGo2 t ft fj1 t1 ft1 fe vs1 (wipeE vs ρ) l with
  | .ok r => if r.length ≤ LIM then .ok (.ow r) else .no
  | _ => .no
/-- the inner loop of a comprehension -/
theorem lc_in {J : It} {n : Nat} {Gd : Hp → Prop} {Y : Nat → Hp → V → Hp → Prop} (w : Walk J n Gd Y) {g : TG} {tt : TT} {te : TE} {σw : L2.St} {vs : List Nat} {H1 : Hp} {D : Addr} {Nx : Hp → Prop} (Pv : Nat → Hp → Prop) (h0 : Pv 0 H1) (hG : ∀ i H, i ≤ n → Pv i H → Gd H)
    (hs : ∀ i x H H', i < n → Pv i H → Y i H x H' → g x σw H' fun σ2 H2 => L2.wipe σ2 vs = σw ∧ tt σ2 H2 fun b H3 =>
      if b = true then te σ2 H3 fun y H4 => ∃ acc, H4 D = some (.lst acc) ∧ acc.length < sizeLine ∧ Pv (i + 1) (upd H4 D (.lst (acc ++ [y]))) else Pv (i + 1) H3) (hd : ∀ H, Pv n H → Nx H) :
    ∃ W : Nat → Nat → Hp → Prop, (∃ m, W 0 m H1) ∧ ∀ i m H, W i m H →
      (J.stop i H ∧ Nx H) ∨ (J.go i H ∧ ∃ Nx1 : Hp → Prop, (∀ H', Nx1 H' → ∃ m', m' < m ∧ W (i + 1) m' H') ∧ ∀ x H', J.yld i H x H' → g x σw H' fun σ2 H2 => L2.wipe σ2 vs = σw ∧ tt σ2 H2 fun b H3 =>
        if b = true then te σ2 H3 fun y H4 => ∃ acc, H4 D = some (.lst acc) ∧ acc.length < sizeLine ∧ Nx1 (upd H4 D (.lst (acc ++ [y]))) else Nx1 H3) := by
  refine ⟨fun i m H => m = n - i ∧ i ≤ n ∧ Pv i H, ⟨n, by simp, Nat.zero_le _, h0⟩, ?_⟩
  rintro i m H ⟨rfl, hi, p⟩
  have q := hG i H hi p
  by_cases hlt : i < n
  · refine .inr ⟨w.goes i H hlt q, Pv (i + 1), fun H' p' => ⟨n - (i + 1), by omega, rfl, hlt, p'⟩, fun x H' y => hs i x H H' hlt p (w.yields i H x H' hlt q y)⟩
  · have e : i = n := by omega
    subst e
    exact .inl ⟨w.stops H q, hd H p⟩
theorem kept_none {F H F3 H3 : Hp} (e : Ext F H F3 H3) {D0 : Addr} {o : HO} (hF : F D0 = none) (hu : H D0 = some o) : F3 D0 = none := by
  cases z : F3 D0 with
  | none => rfl
  | some o =>
    rcases e.fr _ _ z with w | w
    · rw [hF] at w; cases w
    · rw [hu] at w; cases w
section
variable {X : Cx} {G : Ctx} {W : WX} {elt tg iter tg1 iter1 : Expr} {ifs ifs1 : List Expr} {scope : Scope} {pos : Pos}
theorem lc2_use {K : PySem.W.Frag} {fj fj1 : Env → R (List D)} {t t1 : CT} {ft ft1 : Env → R Bool} {fe : Env → RS} {vs vs1 : List Nat} (ht : ∀ i ∈ t.is, i ∈ vs) (ht1 : ∀ i ∈ t1.is, i ∈ vs1) {σ : L2.St} {H : Hp} {Q : VK} (h : tE K G W (sLc2 fj t ft fj1 t1 ft1 fe vs vs1) σ H Q) :
    tLc2 (tJ K G W fj) (t.g K) (tT K G W0 ft) (tJ K G W0 fj1) (t1.g K) (tT K G W0 ft1) (tE K G W0 fe) vs vs1 σ H Q := by
  obtain ⟨F, ρ, le, re, p⟩ := h
  refine useJJ le re p fun l J H1 F1 _ e1 wk re1 p1 => ?_
  intro D0 hD
  cases hg : lcGo2 t ft fj1 t1 ft1 fe vs1 (wipeE vs ρ) l with
  | ex c fs => rw [hg] at p1; exact p1.elim
  | no => rw [hg] at p1; exact p1.elim
  | ok r =>
    rw [hg] at p1
    dsimp only at p1
    split at p1
    · rename_i hr
      obtain ⟨Gd, Y, w, gd, yy⟩ := wk
      have hF1 : F1 D0 = none := e1.fh.free hD
      refine ⟨fun i m H2 => m = l.length - i ∧ i ≤ l.length ∧ ∃ acc rest F2, lcGo2 t ft fj1 t1 ft1 fe vs1 (wipeE vs ρ) (l.drop i) = .ok rest ∧ acc ++ rest = r ∧ Ext F1 H1 F2 H2 ∧ F2 D0 = none ∧ ∃ us, H2 D0 = some (.lst us) ∧ RepL K G F2 acc us,
        ⟨l.length, by simp, Nat.zero_le _, [], r, F1, by rw [List.drop_zero]; exact hg, rfl, (Ext.refl e1.fh).newU hD, hF1, [], upd_same, RepL.nil.mpr rfl⟩, ?_⟩
      rintro i m H2 ⟨rfl, hi, acc, rest, F2, hgo, hr2, x2, hF2, us, hu, rl⟩
      have gH := gd H2 (x2.f.trans x2.fh)
      by_cases hlt : i < l.length
      · refine .inr ⟨w.goes i H2 hlt gH, fun H3 => ∃ acc rest F2, lcGo2 t ft fj1 t1 ft1 fe vs1 (wipeE vs ρ) (l.drop (i + 1)) = .ok rest ∧ acc ++ rest = r ∧ Ext F1 H1 F2 H3 ∧ F2 D0 = none ∧ ∃ us, H3 D0 = some (.lst us) ∧ RepL K G F2 acc us, fun H' p' => ⟨l.length - (i + 1), by omega, rfl, hlt, p'⟩, fun v H3 y => ?_⟩
        rw [List.drop_eq_getElem_cons hlt] at hgo
        obtain ⟨F3, e3, rv⟩ := yy i l[i] F2 H2 v H3 (by simp [hlt]) x2.f x2.fh (w.yields i H2 v H3 hlt gH y)
        unfold lcGo2 at hgo
        have hF3 := kept_none e3 hF2 hu
        cases hset : t.set l[i] (wipeE vs ρ) with
        | none => rw [hset] at hgo; cases hgo
        | some ρ1 =>
          rw [hset] at hgo
          dsimp only at hgo
          refine CT.use e3.fh (((re1.mono x2.f).mono e3.f).wipe vs) rv hset fun σ' re' hw => ⟨by rw [hw vs ht]; exact wipe_wipe, ?_⟩
          refine ⟨F3, ρ1, e3.fh, re', ?_⟩
          cases hft : ft ρ1 with
          | ex c fs => rw [hft] at hgo; cases hgo
          | no => rw [hft] at hgo; cases hgo
          | ok b =>
            rw [hft] at hgo
            intro b' H4 F4 e4 hb
            cases hb
            have h3u := e3.h _ _ hu
            have hF4 := kept_none e4 hF3 h3u
            cases b with
            | false =>
              rw [if_neg Bool.false_ne_true]
              exact ⟨acc, rest, F4, hgo, hr2, (x2.trans e3).trans e4, hF4, us, e4.h _ _ h3u, (rl.mono e3.f).mono e4.f⟩
            | true =>
              rw [if_pos rfl]
              dsimp only at hgo
              refine ⟨F4, ρ1, e4.fh, re'.mono e4.f, ?_⟩
              cases hfj : fj1 ρ1 with
              | ex c fs => rw [hfj] at hgo; cases hgo
              | no => rw [hfj] at hgo; cases hgo
              | ok l1 =>
                rw [hfj] at hgo
                dsimp only at hgo
                intro J1 F5 H5 e5 wk1
                cases hg1 : lcGo t1 ft1 fe (wipeE vs1 ρ1) l1 with
                | ex c fs => rw [hg1] at hgo; cases hgo
                | no => rw [hg1] at hgo; cases hgo
                | ok r1 =>
                  rw [hg1] at hgo
                  dsimp only at hgo
                  cases hgr : lcGo2 t ft fj1 t1 ft1 fe vs1 (wipeE vs ρ) (l.drop (i + 1)) with
                  | ex c fs => rw [hgr] at hgo; cases hgo
                  | no => rw [hgr] at hgo; cases hgo
                  | ok r2 =>
                    rw [hgr] at hgo
                    cases hgo
                    obtain ⟨Gd1, Y1, w1, gd1, yy1⟩ := wk1
                    have h4u := e4.h _ _ h3u
                    have hF5 := kept_none e5 hF4 h4u
                    have x5 := ((x2.trans e3).trans e4).trans e5
                    refine lc_in w1 (Pv := fun j H6 => ∃ acc' rest' F6, lcGo t1 ft1 fe (wipeE vs1 ρ1) (l1.drop j) = .ok rest' ∧ acc' ++ rest' = acc ++ r1 ∧ Ext F1 H1 F6 H6 ∧ Le F5 F6 ∧ F6 D0 = none ∧ ∃ us, H6 D0 = some (.lst us) ∧ RepL K G F6 acc' us)
                      ⟨acc, r1, F5, by rw [List.drop_zero]; exact hg1, rfl, x5, .refl F5, hF5, us, e5.h _ _ h4u, ((rl.mono e3.f).mono e4.f).mono e5.f⟩ (fun j H6 _ ⟨_, _, F6, _, _, x6, l6, _⟩ => gd1 H6 (l6.trans x6.fh)) (fun j v1 H6 H7 hj ⟨acc', rest', F6, hgo6, hr6, x6, l6, hF6, us6, hu6, rl6⟩ y1 => ?_) (fun H6 ⟨acc', rest', F6, hgo6, hr6, x6, l6, hF6, us6, hu6, rl6⟩ => ?_)
                    · rw [List.drop_eq_getElem_cons hj] at hgo6
                      obtain ⟨F7, e7, rv7⟩ := yy1 j l1[j] F6 H6 v1 H7 (by simp [hj]) l6 x6.fh y1
                      unfold lcGo at hgo6
                      have hF7 := kept_none e7 hF6 hu6
                      cases hset1 : t1.set l1[j] (wipeE vs1 ρ1) with
                      | none => rw [hset1] at hgo6; cases hgo6
                      | some ρ2 =>
                        rw [hset1] at hgo6
                        dsimp only at hgo6
                        have re7 : REnv K G F7 σ' ρ1 := ((((re'.mono e4.f).mono e5.f).mono l6).mono e7.f)
                        refine CT.use e7.fh (re7.wipe vs1) rv7 hset1 fun σ3 re3 hw3 => ⟨?_, ?_⟩
                        · rw [hw3 vs1 ht1]; exact wipe_wipe
                        · refine lc_turn (r := acc ++ r1) (by have := congrArg List.length hr2; simp at this ⊢; omega) hD (x6.trans e7) hF7 ⟨us6, e7.h _ _ hu6, rl6.mono e7.f⟩ re3 hgo6 hr6 fun acc2 rest2 F8 H8 hx8 h81 h82 h83 h84 h85 => ⟨acc2, rest2, F8, hx8, h81, h82, l6.trans (e7.f.trans h83), h84, h85⟩
                    · rw [List.drop_length] at hgo6
                      cases hgo6
                      rw [List.append_nil] at hr6
                      subst hr6
                      exact ⟨acc ++ r1, r2, F6, rfl, by rw [← hr2]; simp, x6, hF6, us6, hu6, rl6⟩
      · have e : i = l.length := by omega
        subst e
        rw [List.drop_length] at hgo
        cases hgo
        rw [List.append_nil] at hr2
        subst hr2
        exact .inl ⟨w.stops H2 gH, p1 _ H2 F2 x2 ⟨D0, us, rfl, hu, hD, hF2, rl⟩⟩
    · exact p1.elim
theorem de_lc2 {fj fj1 : Env → R (List D)} {t t1 : CT} {ft ft1 : Env → R Bool} {fe : Env → RS} (own : List (Str × Nat)) (vs1 : List Nat) (hc : X.calm = true) (hN : X.N.Nodup) (hi : DJ X G W tg iter fj) (ok : BlkOk X.N X.env.scope scope own)
    (hg : ∀ (s : Shared) (H : Hp) (C : Addr) (cl : List (Str × Addr)) (fp : List Addr), PG (X.blk s H scope (compEnvC scope cl C X.env) fp) tg (t.g X.K))
    (ht : ∀ (s : Shared) (H : Hp) (C : Addr) (cl : List (Str × Addr)) (fp : List Addr), PTs (X.blk s H scope (compEnvC scope cl C X.env) fp) ifs (tT X.K G W0 ft))
    (hi1 : ∀ (s : Shared) (H : Hp) (C : Addr) (cl : List (Str × Addr)) (fp : List Addr), DJ (X.blk s H scope (compEnvC scope cl C X.env) fp) G W0 tg1 iter1 fj1)
    (hg1 : ∀ (s : Shared) (H : Hp) (C : Addr) (cl : List (Str × Addr)) (fp : List Addr), PG (X.blk s H scope (compEnvC scope cl C X.env) fp) tg1 (t1.g X.K))
    (ht1 : ∀ (s : Shared) (H : Hp) (C : Addr) (cl : List (Str × Addr)) (fp : List Addr), PTs (X.blk s H scope (compEnvC scope cl C X.env) fp) ifs1 (tT X.K G W0 ft1))
    (he : ∀ (s : Shared) (H : Hp) (C : Addr) (cl : List (Str × Addr)) (fp : List Addr), DE (X.blk s H scope (compEnvC scope cl C X.env) fp) G W0 elt fe)
    (hv : ∀ i ∈ vs1, i ∈ own.map (·.2) := by decide) (hti : ∀ i ∈ t.is, i ∈ own.map (·.2) := by decide) (hti1 : ∀ i ∈ t1.is, i ∈ vs1 := by decide) (hfs : ∀ x, foldedSetIterable iter X.env x = pure x := by intro _; rfl) (hfs1 : ∀ env x, foldedSetIterable iter1 env x = pure x := by intro _ _; rfl) :
    DE X G W (.ListComp elt [⟨tg, iter, ifs, 0⟩, ⟨tg1, iter1, ifs1, 0⟩] scope pos) (sLc2 fj t ft fj1 t1 ft1 fe (own.map (·.2)) vs1) :=
  PE.imp (pe_lc2 (te := tE X.K G W0 fe) (wi1 := tJ X.K G W0 fj1) hc hN hi ok hv hg ht hi1 hg1 ht1 he hfs hfs1) fun σ H Q h => lc2_use hti hti1 h
/-- y = [..] as a statement of its own; x: the mode -/
theorem ds_setLc {i : Nat} {y : Str} {py spos : Pos} {fj : Env → R (List D)} {t : CT} {ft : Env → R Bool} {fe : Env → RS} {ev : SEnv → RO S} (own : List (Str × Nat)) (hx : ∀ σ H Q, tX X.K G W ev σ H Q → tE X.K G W (sLc fj t ft fe (own.map (·.2))) σ H Q) (hc : X.calm = true) (hN : X.N.Nodup) (hi : DJ X G W tg iter fj) (ok : BlkOk X.N X.env.scope scope own)
    (hg : ∀ (s : Shared) (H : Hp) (C : Addr) (cl : List (Str × Addr)) (fp : List Addr), PG (X.blk s H scope (compEnvC scope cl C X.env) fp) tg (t.g X.K))
    (ht : ∀ (s : Shared) (H : Hp) (C : Addr) (cl : List (Str × Addr)) (fp : List Addr), PTs (X.blk s H scope (compEnvC scope cl C X.env) fp) ifs (tT X.K G W0 ft))
    (he : ∀ (s : Shared) (H : Hp) (C : Addr) (cl : List (Str × Addr)) (fp : List Addr), DE (X.blk s H scope (compEnvC scope cl C X.env) fp) G W0 elt fe)
    (hy : X.N[i]? = some y := by rfl) (hyl : X.env.scope.names.lookup y = some .local := by rfl) (hsw : swapsWith (.ListComp elt [⟨tg, iter, ifs, 0⟩] scope pos) (some (.Name y py)) spos.line X.env = pure true := by exact sw_true rfl rfl rfl (by decide +kernel))
    (hti : ∀ i ∈ t.is, i ∈ own.map (·.2) := by decide) (hfs : ∀ x, foldedSetIterable iter X.env x = pure x := by intro _; rfl) :
    DS X G W (.Assign [.Name y py] (.ListComp elt [⟨tg, iter, ifs, 0⟩] scope pos) spos) (sSet i ev) :=
  PS.imp (ps_setLc (te := tE X.K G W0 fe) hc hN hy hyl hsw hi ok hg ht he hfs) fun D σ H ⟨F0, H0, F, ρ, x, r, p⟩ => lc_use hti (hx _ _ _ (useX x r p fun s ρ' v F1 H1 _ x1 l w p1 => p1 _ F1 H1 x1 (.refl F1) (w.set i)))
theorem ds_setLc2 {i : Nat} {y : Str} {py spos : Pos} {fj fj1 : Env → R (List D)} {t t1 : CT} {ft ft1 : Env → R Bool} {fe : Env → RS} {ev : SEnv → RO S} (own : List (Str × Nat)) (vs1 : List Nat) (hx : ∀ σ H Q, tX X.K G W ev σ H Q → tE X.K G W (sLc2 fj t ft fj1 t1 ft1 fe (own.map (·.2)) vs1) σ H Q) (hc : X.calm = true) (hN : X.N.Nodup) (hi : DJ X G W tg iter fj) (ok : BlkOk X.N X.env.scope scope own)
    (hg : ∀ (s : Shared) (H : Hp) (C : Addr) (cl : List (Str × Addr)) (fp : List Addr), PG (X.blk s H scope (compEnvC scope cl C X.env) fp) tg (t.g X.K))
    (ht : ∀ (s : Shared) (H : Hp) (C : Addr) (cl : List (Str × Addr)) (fp : List Addr), PTs (X.blk s H scope (compEnvC scope cl C X.env) fp) ifs (tT X.K G W0 ft))
    (hi1 : ∀ (s : Shared) (H : Hp) (C : Addr) (cl : List (Str × Addr)) (fp : List Addr), DJ (X.blk s H scope (compEnvC scope cl C X.env) fp) G W0 tg1 iter1 fj1)
    (hg1 : ∀ (s : Shared) (H : Hp) (C : Addr) (cl : List (Str × Addr)) (fp : List Addr), PG (X.blk s H scope (compEnvC scope cl C X.env) fp) tg1 (t1.g X.K))
    (ht1 : ∀ (s : Shared) (H : Hp) (C : Addr) (cl : List (Str × Addr)) (fp : List Addr), PTs (X.blk s H scope (compEnvC scope cl C X.env) fp) ifs1 (tT X.K G W0 ft1))
    (he : ∀ (s : Shared) (H : Hp) (C : Addr) (cl : List (Str × Addr)) (fp : List Addr), DE (X.blk s H scope (compEnvC scope cl C X.env) fp) G W0 elt fe)
    (hy : X.N[i]? = some y := by rfl) (hyl : X.env.scope.names.lookup y = some .local := by rfl) (hsw : swapsWith (.ListComp elt [⟨tg, iter, ifs, 0⟩, ⟨tg1, iter1, ifs1, 0⟩] scope pos) (some (.Name y py)) spos.line X.env = pure true := by exact sw_true rfl rfl rfl (by decide +kernel))
    (hv : ∀ i ∈ vs1, i ∈ own.map (·.2) := by decide) (hti : ∀ i ∈ t.is, i ∈ own.map (·.2) := by decide) (hti1 : ∀ i ∈ t1.is, i ∈ vs1 := by decide) (hfs : ∀ x, foldedSetIterable iter X.env x = pure x := by intro _; rfl) (hfs1 : ∀ env x, foldedSetIterable iter1 env x = pure x := by intro _ _; rfl) :
    DS X G W (.Assign [.Name y py] (.ListComp elt [⟨tg, iter, ifs, 0⟩, ⟨tg1, iter1, ifs1, 0⟩] scope pos) spos) (sSet i ev) :=
  PS.imp (ps_setLc2 (te := tE X.K G W0 fe) (wi1 := tJ X.K G W0 fj1) hc hN hy hyl hsw hi ok hv hg ht hi1 hg1 ht1 he hfs hfs1) fun D σ H ⟨F0, H0, F, ρ, x, r, p⟩ => lc2_use hti hti1 (hx _ _ _ (useX x r p fun s ρ' v F1 H1 _ x1 l w p1 => p1 _ F1 H1 x1 (.refl F1) (w.set i)))
end
/-! ### a def -/
abbrev startS (n : Nat) (ds : List D) : SEnv := ds.map (fun d => some (.fz d)) ++ List.replicate (n - ds.length) none
abbrev run (n : Nat) (g : SEnv → Out) (ds : List D) : RS := match g (startS n ds) with
  | .nx _ => .ok (.fz .non)
  | .rt s _ => .ok s
  | .ex c fs _ => .ex c fs
  | _ => .no
theorem start_rep {K : PySem.W.Frag} {G : Ctx} {F H : Hp} {N : List Str} {ds : List D} {vs : List V} (hm : G.m F) (r : RepL K G F ds vs) : SRep K G H F H (L2.start N vs) (startS N.length ds) := by
  have hl := r.length
  have nf : ∀ {i : Nat} {s : S}, (startS N.length ds)[i]? = some (some s) → ∃ d, s = .fz d := fun {i s} q => by
    unfold startS at q
    by_cases h : i < (ds.map fun d => some (S.fz d)).length
    · rw [List.getElem?_append_left h, List.getElem?_map] at q
      obtain ⟨d, _, e⟩ := Option.map_eq_some_iff.mp q
      cases e
      exact ⟨d, rfl⟩
    · rw [List.getElem?_append_right (by omega), List.getElem?_replicate] at q
      split at q <;> cases q
  refine ⟨hm, by unfold L2.start startS; simp [hl], fun i s q => ?_, fun a b sa sb va vb p _ ha _ _ _ fa => ?_⟩
  rotate_left
  · obtain ⟨d, rfl⟩ := nf ha
    exact fa.elim
  unfold startS at q
  by_cases h : i < (ds.map fun d => some (S.fz d)).length
  · rw [List.getElem?_append_left h, List.getElem?_map] at q
    obtain ⟨d, hd, e⟩ := Option.map_eq_some_iff.mp q
    cases e
    obtain ⟨v, e1, q1⟩ := RepL.getD r hd
    refine ⟨v, ?_, q1⟩
    unfold L2.start
    rw [List.getElem?_append_left (by simp at h ⊢; omega), List.getElem?_map, e1]
    rfl
  · rw [List.getElem?_append_right (by omega), List.getElem?_replicate] at q
    split at q <;> cases q
/-- THE RULE for a def -/
theorem fn_ok {P : Program} {w : World} {K : PySem.W.Frag} {mg : Str → Option Value} {base : Heap} {G : Ctx} {x qual : Str} {st : Stmt} {f : Addr} {fd : FuncData} {N ps : List Str} {k n : Nat} {g : SEnv → Out} (F : Fun K x qual st f fd) (Sc : FnScope N ps (defScope st)) (hn : ps.length = n) (m : Nat) (hm : N.length = m) (hG : ∀ F, G.m F)
    (hbody : ∀ (cdv : Value) (A : Around) (outer : List PySem.Env) (s : Shared) (H : Hp) (E : XK) (W : WX), Room k (cxOf (L2.CX P w) P w K mg base N qual (defScope st) f cdv A outer s H E).A → Takes (cxOf (L2.CX P w) P w K mg base N qual (defScope st) f cdv A outer s H E) W →
      PassesOwn (model P w) (cxOf (L2.CX P w) P w K mg base N qual (defScope st) f cdv A outer s H E).A (cxOf (L2.CX P w) P w K mg base N qual (defScope st) f cdv A outer s H E).env (cxOf (L2.CX P w) P w K mg base N qual (defScope st) f cdv A outer s H E).xe →
      DSs (cxOf (L2.CX P w) P w K mg base N qual (defScope st) f cdv A outer s H E) G W (defBody st) g) :
    FnOk P w K mg base (L2.CX P w) (k + 1) f fd ps (spD K G n (run m g)) := by
  subst hm
  refine F.okX Sc (spD_len hn) fun cdv A outer s H vs Q E hr ⟨F0, ds, le, rl, hds, p⟩ => ?_
  refine ⟨_, hbody cdv A outer s H E (fun cls d _ H => E cls d H) hr (takes_of rfl rfl rfl rfl) (passes_of rfl), ?_⟩
  refine ⟨F0, H, F0, startS N.length ds, .refl le, start_rep (hG F0) rl, ?_⟩
  unfold run at p
  cases hg : g (startS N.length ds) with
  | nx ρ => rw [hg] at p; exact fun σ' F' H' x l r => p .non H' F' x RepS.non
  | rt s ρ => rw [hg] at p; exact fun v σ' F' H' x l r => p v H' F' x (Wth.rep r)
  | ex c fs ρ => rw [hg] at p; exact fun cls d σ' F' H' x l r q => p cls d H' F' x q
  | bk ρ => rw [hg] at p; exact p.elim
  | ct ρ => rw [hg] at p; exact p.elim
  | no => rw [hg] at p; exact p.elim
end O

end

section
set_option Elab.async false
set_option linter.all false
set_option maxRecDepth 100000
set_option maxHeartbeats 2000000
namespace O
open PySem PySem.Spec PyProof.Rows L2
open PySem.W (ksEnv kxs_mw KxsFacts ks_superIn clsIn mroIn nsIn subIn Frag)

/-- what the written part says of a def at f that says super(), over the class at D, for an instance of the class at C -/
structure SupK (P : Program) (K : Frag) (mg : Str → Option Value) (q : Str) (params : Arguments) (f cda cc D C : Addr) : Prop where
  fn : ∃ oc od fd osl, K.lookup f = some ⟨oc, od, .func fd, osl⟩ ∧ fd.params = params
  code : ∃ ccl cdd vs ccs file tf, K.lookup cda = some ⟨ccl, cdd, .fields vs, ccs⟩ ∧ vs[2]? = some (.str file tf) ∧ ((P.main.file : Str) == file) = true
  cell : ∃ cl cld csl, K.lookup cc = some ⟨cl, cld, .cell (some (.ref D)), csl⟩
  cls : ∃ cdD, clsIn K D = some cdD
  sub : mroIn K C (.ref D) = some true
  sup : mg "super" = none
  top : (P.main.scope.names.lookup ("super" : Str)).isSome = false

section
variable {X : Cx} {pins : List (Addr × Obj)} {σ : L2.St} {H : Hp} {s : Shared}
theorem super_base {body : List Stmt} {q : Str} {scope : Scope} {p0 p1 : Pos} {attr : Str} {whole : Sem Value} {params : Arguments} {ar : Arg} {f cda cc D C a L : Addr} {ox : Obj} {odx : Option Obj} {Q : Value → Shared → Prop}
    (T : SupK X.prog X.K X.mg q params f cda cc D C) (I : Inv X pins σ H s) (hX : X.env = ksEnv q scope L f (.ref cda) cc) (hp : (params.posonlyargs ++ params.args).head? = some ar)
    (hN : X.N[0]? = some ar.arg) (hσ : σ[0]? = some (some (.ref a))) (J : PySem.W.InstAt s.heap a ox C odx)
    (hat : (attr == ("__class__" : Str)) = false) (hks : scope.names.lookup ("super" : Str) = some .globalImplicit) (hkc : scope.names.lookup ("__class__" : Str) = some .free) (hka : scope.names.lookup ar.arg = some .local)
    (h : ∀ h', h'.get? s.heap.objs.size = some (PySem.W.ks_superObj D a C) → (∀ y o, s.heap.get? y = some o → h'.get? y = some o) → Q (.ref s.heap.objs.size) { s with heap := h' }) :
    _root_.PySem.wpAt (model X.prog X.w) X.A (.func body (ksEnv q scope L f (.ref cda) cc)) (attributeBase (.Call (.Name "super" p0) [] [] p1) attr (ksEnv q scope L f (.ref cda) cc) whole) Q X.xe s := by
  have KX := I.kIn
  have hk : scope.kind = .function := by have := I.ok.kind; rw [hX] at this; exact this
  obtain ⟨oc, od, fd, osl, hf, hfp⟩ := T.fn
  obtain ⟨ccl, cdd, vs, ccs, file, tf, hcode, hvs, hfile⟩ := T.code
  obtain ⟨cl, cld, csl, hcell⟩ := T.cell
  obtain ⟨cdD, hD⟩ := T.cls
  obtain ⟨m, hn, hl⟩ := I.loc
  rw [hX] at hn hl
  obtain ⟨u, ru, lk⟩ := hl 0 ar.arg (.ref a) hN hσ (.inl hka)
  obtain rfl : u = Value.ref a := ru
  have hm : m ar.arg = some (.ref a) := by
    rcases lk with ⟨_, z⟩ | ⟨z, _⟩
    · exact z
    · have hka' : (ksEnv q scope L f (.ref cda) cc).kindOf ar.arg = some .local := hka
      rw [hka'] at z
      rcases z with z | z <;> cases z
  obtain ⟨mb, h1, h2⟩ := I.mod.blt
  obtain ⟨hh, g, d, t, os⟩ := s
  obtain ⟨oD, hD1, hD2⟩ : ∃ oD, hh.get? D = some oD ∧ oD.data = .cls cdD := by
    unfold clsIn at hD
    split at hD
    · rename_i c d cd' sl ho
      cases hD
      exact ⟨_, KX _ _ ho, rfl⟩
    · cases hD
  refine ks_wpAt_super_base (env := ksEnv q scope L f (.ref cda) cc) hks hkc hat rfl (KX _ _ hf) rfl (by rw [hfp]; exact hp) rfl (KX _ _ hcode) rfl hvs hfile T.top ?_
  refine PySem.W.ks_loadName_global hk hks (Calls.loadGlobal_builtin (env := ksEnv q scope L f (.ref cda) cc) (I.mod.glob.keeps I.bk) T.sup (h1.keeps I.bk) ((h2 _ (by decide)).trans (by decide +kernel)) ⟨rfl, ?_⟩)
  refine wpAny_loadName_free hk hkc rfl ⟨_, KX _ _ hcell, rfl⟩ ?_
  refine wpAny_loadName_local hk hka hn hm ?_
  refine ks_wpAny_isType_cls hD1 hD2 ⟨rfl, ?_⟩
  refine ks_wpAny_call_super hD1 hD2 J.at_ J.cls (fun c e => ?_) (PySem.W.looks_mroIn KX T.sub) (fun h' e k => ?_)
  · have := J.no
    unfold PySem.W.notCls at this
    rw [e] at this
    exact Bool.noConfusion this
  · exact h h' e k

theorem excI {h : Heap} {a C : Addr} {t1 : Addr} {d : Option Addr} (he : h.get? a = some ({ cls := .ref C, dict := d, data := .fields #[.ref t1, .none, .none, .none, .bool false, .none] } : Obj)) (hd : d = none) : PySem.W.InstAt h a ({ cls := .ref C, dict := none, data := .fields #[.ref t1, .none, .none, .none, .bool false, .none] } : Obj) C none := by
  subst hd
  exact ⟨he, rfl, rfl, trivial⟩
/-- super().__init__(e) of an exception over ValueError -/
theorem sup_exc {body : List Stmt} {q : Str} {scope : Scope} {p0 p1 p2 p3 pos : Pos} {params : Arguments} {ar : Arg} {f cda cc D C a L : Addr} {e : Expr} {ta : TA} {pl : Sem Bool} {Q' : Hp → Prop}
    (T : SupK X.prog X.K X.mg q params f cda cc D C) (TC : OexC X.K C) (hm : ks_superIn X.K C D "__init__" = some (some (.builtin "ValueError.__init__"))) (hB : subIn X.K (.ref C) (.type "ValueError") = some true) (ho : nsIn X.K PySem.cStatics "thirdparty.any" = some none)
    (I : Inv X [] σ H s) (hX : X.env = ksEnv q scope L f (.ref cda) cc) (hp : (params.posonlyargs ++ params.args).head? = some ar)
    (hN : X.N[0]? = some ar.arg) (hσ : σ[0]? = some (some (.ref a))) (e0 : H a = some (exo a C none)) (ha : PA X [e] ta) (hw : ta σ H fun vs H1 => vs.length ≤ 1000 ∧ H1 a = some (exo a C none) ∧ Q' H1)
    (hks : scope.names.lookup ("super" : Str) = some .globalImplicit) (hkc : scope.names.lookup ("__class__" : Str) = some .free) (hka : scope.names.lookup ar.arg = some .local)
    (hi : interactive (ksEnv q scope L f (.ref cda) cc) = false := by rfl) (hs : swapsWith (.Call (.Attribute (.Call (.Name "super" p0) [] [] p1) "__init__" p2) [e] [] p3) none pos.line (ksEnv q scope L f (.ref cda) cc) = pure false := by rfl)
    (he : eval (.Call (.Attribute (.Call (.Name "super" p0) [] [] p1) "__init__" p2) [e] [] p3) (ksEnv q scope L f (.ref cda) cc) = (do
      let ov <- attributeBase (.Call (.Name "super" p0) [] [] p1) "__init__" (ksEnv q scope L f (.ref cda) cc) (eval (.Call (.Name "super" p0) [] [] p1) (ksEnv q scope L f (.ref cda) cc))
      standAt p2.atName
      let (f1, first) <- holding [ov] (getMethod ov "__init__" pl)
      callWith p3 f1 first (backTo p3 (starEach [e] (ksEnv q scope L f (.ref cda) cc))) []) := by rfl)
    (hst : starEach [e] (ksEnv q scope L f (.ref cda) cc) = (false, eval e (ksEnv q scope L f (.ref cda) cc)) :: starEach [] (ksEnv q scope L f (.ref cda) cc) := by rfl) (hpl : (backTo p3 (starEach [] (ksEnv q scope L f (.ref cda) cc))).any (·.1) = false := by rfl) :
    _root_.PySem.wpAt (model X.prog X.w) X.A (.func body (ksEnv q scope L f (.ref cda) cc)) (exec (.Expr (.Call (.Attribute (.Call (.Name "super" p0) [] [] p1) "__init__" p2) [e] [] p3) pos) (ksEnv q scope L f (.ref cda) cc)) (fun fl s' => fl = .next ∧ ∃ H1, Inv X [] σ H1 s' ∧ Q' H1) X.xe s := by
  obtain ⟨t1, hx⟩ := exo_at I.hok e0
  have J := excI hx rfl
  have hns := ho
  obtain ⟨hh, g, d, t, os⟩ := s
  refine ks_wpAt_Expr_any (ks_wpAt_MethodCall (pl := pl) (super_base T I hX hp hN hσ J rfl hks hkc hka fun h' hso k => ?_) he) hi hs
  have I1 : Inv X [] σ H ⟨h', g, d, t, os⟩ := I.kept (t' := t) k
  have KX := I1.kIn
  have hx1 := k _ _ hx
  have J1 := excI hx1 rfl
  cases hc : clsIn X.K C with
  | none => unfold ks_superIn at hm; rw [hc] at hm; cases hm
  | some cd =>
    unfold ks_superIn at hm
    rw [hc] at hm
    refine PySem.W.kxs_getMethod PySem.W.kxs_ValueError hso (PySem.W.looks_opaque KX ho) (l₀ := cd.mro) (fun A Q E s k q => wpAny_bind ((PySem.W.looks_clsIn KX hc) A _ E s k (wpAny_pure q))) rfl KX hm (J1.type.andThen (PySem.W.looks_subIn KX hB)) (PySem.W.ks_ne KX J1 hc) rfl ?_
    have I2 : Inv X [] σ H ⟨h'.push (kxs_mw "ValueError.__init__" a), g, d, t + 1, os⟩ := I1.kept (t' := t + 1) fun b o e => Heap.get?_push_of_some _ e
    have hu : (h'.push (kxs_mw "ValueError.__init__" a)).get? h'.objs.size = some (kxs_mw "ValueError.__init__" a) := Heap.get?_push_at rfl rfl
    have hfr : H h'.objs.size = none := I1.hok.fresh (Nat.le_refl _)
    have I3 : Inv X [(h'.objs.size, kxs_mw "ValueError.__init__" a)] σ H ⟨h'.push (kxs_mw "ValueError.__init__" a), g, d, t + 1, os⟩ := I2.pins_of fun p hp => by
      have e : p = (h'.objs.size, kxs_mw "ValueError.__init__" a) := by simpa using hp
      subst e
      exact ⟨hu, hfr, Nat.ne_of_gt I1.lt, I1.nofs (Nat.le_refl _), fun v z => by cases z⟩
    have hA := ha.run p3 _ _ σ H _ I3 hw
    rw [hX] at hA
    show wpAny _ _ (callWith p3 (.ref h'.objs.size) [] (backTo p3 (starEach [e] (ksEnv q scope L f (.ref cda) cc))) []) _ _ _
    rw [hst] at hA ⊢
    refine PySem.W.kxs_callWith (i := "ValueError.__init__") (x := a) (by show (false || (backTo p3 (starEach [] (ksEnv q scope L f (.ref cda) cc))).any (·.1)) = false; rw [hpl]; rfl) (Calls.evalArgs_plain ?_)
    refine thn hA fun us s3 ⟨vs, H3, I4, r, hl, e3, q'⟩ => ?_
    have hp4 := I4.pin (h'.objs.size, kxs_mw "ValueError.__init__" a) (by simp)
    refine ⟨hp4.1, ?_⟩
    have hu4 := hp4.1
    obtain ⟨nm, q2, N2, bs, bm, sn, sub, ab, col, dd, k0, k1, k2, k3, k5, hC, hbm⟩ := TC.cls
    obtain ⟨t4, hx4⟩ := exo_at I4.hok e3
    have KX4 := I4.kIn
    have I5 : Inv X [] σ H3 s3 := I4.pins_of fun p hp => absurd hp (by simp)
    have hz : us.length ≤ sizeLine := by rw [← Paired.length r, sizeLine_eq]; omega
    have fin : ∀ h5, (∀ b o, b ≠ a → s3.heap.get? b = some o → h5.get? b = some o) → h5.get? a = some (PySem.W.excRec (.ref C) s3.heap.objs.size none .none .none (.bool false)) → ∃ H1, Inv X [] σ H1 { s3 with heap := h5 } ∧ Q' H1 := fun h5 k5' hx5 => by
      have Jw := I5.write (t' := s3.toks) (x := a) (e := a) (o := exo a C none) (by rw [e3]; exact True.intro) (.inl rfl) k5' ⟨_, hx5⟩ (exo_ok hx5)
      have eu : upd H3 a (exo a C none) = H3 := by
        funext b
        by_cases hb : b = a
        · rw [hb, upd_same, e3]
        · rw [upd_ne hb]
      rw [eu] at Jw
      exact ⟨H3, Jw, q'⟩
    obtain ⟨hh3, g3, d3, tk3, os3⟩ := s3
    show wpAny _ _ (call (.ref h'.objs.size) us) _ _ _
    refine wpAny_call (codeAny_of_tree ?_)
    show wpAny _ X.A.in1 (callAny (.ref h'.objs.size) ⟨us, []⟩) _ _ _
    simp only [callAny]
    refine wpAny_bind (wpAny_load hu4 ?_)
    simp only [kxs_mw, show (Value.type "method-wrapper" == Value.type "method" || Value.type "method-wrapper" == Value.type "builtin_function_or_method" || Value.type "method-wrapper" == Value.type "method-wrapper") = true by decide, if_true]
    refine PySem.W.KFB.if_so (by decide) ?_
    refine wpAny_bind (PySem.W.check_bound_init F.excBase_ValueError.toExcCallFacts (KX4 _ _ hC) hx4 rfl ?_)
    refine wpAny_bind (wpAny_pure (wpAny_pure ?_))
    refine ⟨plainId_quiet F.excBase_ValueError.init.plain _, codeAny_builtin F.excBase_ValueError.initEntry ?_⟩
    exact PySem.W.exc_init_tree (cls := .ref C) (t0 := t4) (dv := none) (c2 := .none) (c3 := .none) (b4 := .bool false) hx4 hz fun h5 k5' hx5 _ => ⟨by trivial, fin h5 k5' hx5⟩
end
end O

end

section
set_option Elab.async false
set_option linter.all false
set_option maxRecDepth 100000
set_option maxHeartbeats 2000000
namespace O
open PySem PySem.Spec PyProof.Rows L2
open NdefX
open PySem.W (ksEnv kxs_mw KxsFacts ks_superIn clsIn mroIn nsIn subIn Frag)

/-- the promise of an exception's __init__ that stores its arguments -/
def spXI (C : Addr) (fs : List Str) : Sp := fun vs H Q _ => ∃ a ws, vs = .ref a :: ws ∧ ws.length = fs.length ∧ H a = some (exo a C none) ∧
  ∀ d H', H d = none → d ≠ a → H' a = some (exo a C (some d)) → H' d = some (exd d (fs.zip ws).reverse) → (∀ b, b ≠ a → b ≠ d → H' b = H b) → Q .non H'
theorem spXI_len {C : Addr} {fs ps : List Str} (hp : ps.length = fs.length + 1) : ∀ vs H Q E, spXI C fs vs H Q E → vs.length = ps.length := fun vs H Q E ⟨a, ws, e, hl, _⟩ => by
  rw [e, List.length_cons, hl, hp]
abbrev nfS (q : Str) (st : Stmt) (cda cc : Addr) : NF := ⟨"__init__", q, defArgs st, defBody st, defScope st, [("__class__", cc)], cda⟩
theorem cells1 {K : Frag} {base : Heap} {s : Shared} {H : Hp} {cc D : Addr} (hc : ∃ cl cld csl, K.lookup cc = some ⟨cl, cld, .cell (some (.ref D)), csl⟩) (kin : K.In base) (bs : ∀ b o, base.get? b = some o → s.heap.get? b = some o ∧ H b = none) : CellsAt [("__class__", cc)] ["__class__"] [none] s.heap H := by
  obtain ⟨cl, cld, csl, hc⟩ := hc
  have key : ∀ {y : Str} {c : Addr}, ([("__class__", cc)] : List (Str × Addr)).lookup y = some c → c = cc ∧ y = "__class__" := fun {y c} h => by
    rw [List.lookup] at h
    split at h
    · rename_i e
      exact ⟨(Option.some.inj h).symm, by simpa using e⟩
    · cases h
  refine ⟨rfl, fun y c h => ?_, fun x y c h1 h2 => (key h1).2.trans (key h2).2.symm, fun i y h => ?_⟩
  · obtain ⟨rfl, _⟩ := key h
    have q := bs _ _ (kin _ _ hc)
    exact ⟨q.2, _, _, q.1, rfl⟩
  · cases i with
    | zero =>
      simp at h
      subst h
      exact ⟨cc, rfl, fun v z => by simp at z⟩
    | succ i => simp at h
theorem initX_ok {P : Program} {w : World} {K : Frag} {mg : Str → Option Value} {base : Heap} {CX : CXT} {k : Nat} {q : Str} {st : Stmt} {f cda cc D C : Addr} {oc kV doc pm ct : Value} {od an : Option Addr} {osl : Array (Option Value)} {N ps : List Str} {fs : List Str} {ar : Arg}
    {p0 p1 p2 p3 pos : Pos} {m : Str} {j : Nat} {p4 : Pos} {rest : List Stmt}
    (lk : K.lookup f = some ⟨oc, od, .func (PySem.W.fnX "__init__" q (defArgs st) (defBody st) (defScope st) [("__class__", cc)] .none kV doc pm an (.ref cda) ct), osl⟩) (hcd : PySem.W.codeIn K (.ref cda) q = true)
    (Sc : NScope N ps ["__class__"] (defScope st)) (hps : ps.length = fs.length + 1) (T : SupK P K mg q (defArgs st) f cda cc D C) (TC : OexC K C) (hm : ks_superIn K C D "__init__" = some (some (.builtin "ValueError.__init__"))) (hB : subIn K (.ref C) (.type "ValueError") = some true) (ho : nsIn K PySem.cStatics "thirdparty.any" = some none)
    (hbd : defBody st = .Expr (.Call (.Attribute (.Call (.Name "super" p0) [] [] p1) "__init__" p2) [.Constant (.str m) j p4] [] p3) pos :: rest)
    (hp : ((defArgs st).posonlyargs ++ (defArgs st).args).head? = some ar) (hN : N[0]? = some ar.arg)
    (hks : (defScope st).names.lookup ("super" : Str) = some .globalImplicit) (hka : (defScope st).names.lookup ar.arg = some .local)
    (hs : ∀ L, swapsWith (.Call (.Attribute (.Call (.Name "super" p0) [] [] p1) "__init__" p2) [.Constant (.str m) j p4] [] p3) none pos.line (ksEnv q (defScope st) L f (.ref cda) cc) = pure false)
    (hi : ∀ L, interactive (ksEnv q (defScope st) L f (.ref cda) cc) = false)
    (pl : Sem Bool)
    (he : ∀ L, eval (.Call (.Attribute (.Call (.Name "super" p0) [] [] p1) "__init__" p2) [.Constant (.str m) j p4] [] p3) (ksEnv q (defScope st) L f (.ref cda) cc) = (do
      let ov <- attributeBase (.Call (.Name "super" p0) [] [] p1) "__init__" (ksEnv q (defScope st) L f (.ref cda) cc) (eval (.Call (.Name "super" p0) [] [] p1) (ksEnv q (defScope st) L f (.ref cda) cc))
      standAt p2.atName
      let (f1, first) <- holding [ov] (getMethod ov "__init__" pl)
      callWith p3 f1 first (backTo p3 (starEach [.Constant (.str m) j p4] (ksEnv q (defScope st) L f (.ref cda) cc))) []))
    (hrest : ∀ (A : Around) (outer : List PySem.Env) (s : Shared) (H : Hp) (vs : List V) (Q : VK) (E : XK), spXI C fs vs H Q E →
      ∃ t, PSs (ncx CX P w K mg base N (nfS q st cda cc) f A outer s H E) rest t ∧ t { nx := fun _ H' => Q .non H', rt := Q } (startF N vs [none]) H) :
    FnOk P w K mg base CX (k + 1) f (PySem.W.fnX "__init__" q (defArgs st) (defBody st) (defScope st) [("__class__", cc)] .none kV doc pm an (.ref cda) ct) ps (spXI C fs) := by
  refine ⟨spXI_len hps, fun A outer s H args us vs Q E hr e0 hb r hsp => ?_⟩
  have hl := spXI_len hps _ _ _ _ hsp
  have KX : K.In s.heap := e0.mod.kin.keeps fun b o e => (e0.bs b o e).1
  have lim : s.heap.NoLimit := e0.mod.nolimit.keeps fun b o e => (e0.bs b o e).1
  refine ks_codeAny_call_defAt (body := defBody st) (binds := ps.zip us) hr.depth (KX _ _ lk) rfl lim (PySem.W.codeRec_of KX hcd) rfl hb Sc.nocell (fun y hy => Sc.par _ (List.of_mem_zip hy).1) (fun h1 hns kp => ?_) Sc.co Sc.gen Sc.kind
  have I : Inv (ncx CX P w K mg base N (nfS q st cda cc) f A outer s H E) [] (startF N vs [none]) H { s with heap := h1, toks := s.toks + (ps.zip us).length } := inv_startN Sc hr.hd e0 hl r (cells1 T.cell e0.mod.kin e0.bs) hns kp
  obtain ⟨t, ht, hq⟩ := hrest A outer s H vs Q E hsp
  obtain ⟨a, ws, ev, hwl, ha, hfin⟩ := hsp
  have fin : ∀ {σ' : L2.St} {H' : Hp} {v : V} {u : Value} {s' : Shared}, Inv (ncx CX P w K mg base N (nfS q st cda cc) f A outer s H E) [] σ' H' s' → L2.RelV v u → Q v H' → CE outer P w H s Q u s' :=
    fun {σ' H' v u s'} J rv q => ⟨v, H', J.os, J.bare, J.base, J.hok, rv, q⟩
  have hσ : (startF N vs [none])[0]? = some (some (V.ref a)) := by rw [ev]; rfl
  show _root_.PySem.wpAt (model P w) (A.deeper (ksEnv q (defScope st) s.heap.objs.size f (.ref cda) cc)) (.func (defBody st) (ksEnv q (defScope st) s.heap.objs.size f (.ref cda) cc)) (execs (defBody st) (ksEnv q (defScope st) s.heap.objs.size f (.ref cda) cc)) _ _ _
  have main := sup_exc (X := ncx CX P w K mg base N (nfS q st cda cc) f A outer s H E) (body := defBody st) (p0 := p0) (p1 := p1) (p2 := p2) (p3 := p3) (pos := pos) (ta := tCons (tC (.str m)) tNil) (e := .Constant (.str m) j p4) (Q' := fun H1 => H1 = H) (pl := pl) T TC hm hB ho I rfl hp hN hσ ha (pa_cons pe_str pa_nil) ⟨by show 1 ≤ 1000; decide, ha, rfl⟩ hks (Sc.frk _ (by simp)) hka (hi _) (hs _) (he _) rfl rfl
  have cons : ∀ {b : List Stmt}, b = .Expr (.Call (.Attribute (.Call (.Name "super" p0) [] [] p1) "__init__" p2) [.Constant (.str m) j p4] [] p3) pos :: rest → _root_.PySem.wpAt (model P w) (A.deeper (ksEnv q (defScope st) s.heap.objs.size f (.ref cda) cc)) (.func (defBody st) (ksEnv q (defScope st) s.heap.objs.size f (.ref cda) cc)) (execs b (ksEnv q (defScope st) s.heap.objs.size f (.ref cda) cc)) (fun f s' => CR CX outer P w H s Q E (.ok (.ret (match f with | .ret v => v | _ => .none))) s')
      (ncx CX P w K mg base N (nfS q st cda cc) f A outer s H E).xe { s with heap := h1, toks := s.toks + (ps.zip us).length } := fun {b} eb => by
    subst eb
    refine ks_wpAt_execs_cons (ks_wpAt_mono main (fun fl s' ⟨e1, H1, I1, e2⟩ => ?_) fun _ _ z => z)
    subst e1 e2
    refine wpAt_of_wpAny (wpAny_mono (ht.run [] _ _ _ _ I1 hq) (fun fl s' hs => ?_) fun _ _ z => z)
    cases fl with
    | ret u =>
      obtain ⟨v, σ', H', J, rv, q⟩ := hs
      exact fin J rv q
    | next =>
      obtain ⟨σ', H', J, q⟩ := hs
      exact fin (v := V.non) (u := Value.none) J rfl q
    | brk =>
      obtain ⟨_, _, _, q⟩ := hs
      exact False.elim q
    | cont =>
      obtain ⟨_, _, _, q⟩ := hs
      exact False.elim q
  exact cons hbd
end O

end

section
set_option Elab.async false
set_option linter.all false
set_option maxRecDepth 100000
set_option maxHeartbeats 2000000
namespace O
open PySem PySem.Spec PyProof.Rows L2
open PySem.W (Frag)

/-! ### an exception's __init__: what its stores ask -/
theorem read1 {K : Frag} {C a : Addr} {f : Str} {y : V} {H : Hp} {Q : VK} {σ : L2.St} (TC : OexC K C) (hno : PySem.W.findIn K (.ref C) f = some none) (ha : H a = some (exo a C none))
    (hk : ∀ d H', H d = none → d ≠ a → H' a = some (exo a C (some d)) → H' d = some (exd d [(f, y)]) → (∀ b, b ≠ a → b ≠ d → H' b = H b) → Q .non H')
    (h0 : σ[0]? = some (some (.ref a))) (h1 : σ[1]? = some (some y)) : tOst K f (tVar 0) (tVar 1) { nx := fun _ H' => Q .non H', rt := Q } σ H :=
  ⟨y, h1, .ref a, h0, a, C, rfl, TC, hno, .inl ⟨ha, fun d hd hda => hk d _ hd hda upd_same (by rw [upd_ne hda]; exact upd_same) fun b hb hbd => by rw [upd_ne hb, upd_ne hbd]⟩⟩
theorem read2 {K : Frag} {C a : Addr} {f g : Str} {y z : V} {H : Hp} {Q : VK} {σ : L2.St} (TC : OexC K C) (hno : PySem.W.findIn K (.ref C) f = some none) (hno2 : PySem.W.findIn K (.ref C) g = some none) (ha : H a = some (exo a C none))
    (hk : ∀ d H', H d = none → d ≠ a → H' a = some (exo a C (some d)) → H' d = some (exd d [(g, z), (f, y)]) → (∀ b, b ≠ a → b ≠ d → H' b = H b) → Q .non H')
    (h0 : σ[0]? = some (some (.ref a))) (h1 : σ[1]? = some (some y)) (h2 : σ[2]? = some (some z)) : tSeq (tOst K f (tVar 0) (tVar 1)) (tOst K g (tVar 0) (tVar 2)) { nx := fun _ H' => Q .non H', rt := Q } σ H :=
  ⟨y, h1, .ref a, h0, a, C, rfl, TC, hno, .inl ⟨ha, fun d hd hda => ⟨z, h2, .ref a, h0, a, C, rfl, TC, hno2, .inr ⟨d, [(f, y)], upd_same, by rw [upd_ne hda]; exact upd_same, by show 1 ≤ 900; decide,
    hk d _ hd hda (by rw [upd_ne (Ne.symm hda)]; exact upd_same) upd_same fun b hb hbd => by rw [upd_ne hbd, upd_ne hb, upd_ne hbd]⟩⟩⟩⟩
theorem zip1 {fs : Str} {ws : List V} (h : ws.length = 1) : ∃ y, ws = [y] := match ws, h with | [y], _ => ⟨y, rfl⟩
theorem zip2 {ws : List V} (h : ws.length = 2) : ∃ y z, ws = [y, z] := match ws, h with | [y, z], _ => ⟨y, z, rfl⟩

/-! ### raise C(..) -/
/-- what the written part says of an exception class with its own __init__ -/
structure ExcK (P : Program) (w : World) (K : Frag) (mg : Str → Option Value) (base : Heap) (G : Ctx) (c : Str) (fs : List Str) (k : Nat) : Prop where
  ex : ∃ (C fI : Addr) (fd : FuncData) (ps : List Str), G.cls c = some C ∧ mg c = some (.ref C) ∧ OexC K C ∧ PySem.W.findIn K (.ref C) "__init__" = some (some (.ref fI)) ∧ PySem.W.typeIn K (.ref fI) = some (.type "function") ∧
    FnOk P w K mg base (L2.CX P w) k fI fd ps (spXI C fs) ∧ Binds K fd ps []
  nd : fs.Nodup
  few : fs.length ≤ 9
theorem look_zip {K : Frag} {G : Ctx} {F : Hp} : ∀ {fs : List Str} {l : List D} {ws : List V}, fs.Nodup → RepL K G F l ws → l.length = fs.length → ∀ f d, (f, d) ∈ fs.zip l → ∃ v, (fs.zip ws).reverse.lookup f = some v ∧ Rep K G F d v
  | [], l, ws, _, _, _, f, d, h => by simp at h
  | g :: fs, [], ws, _, _, hl, f, d, h => by simp at h
  | g :: fs, e :: l, ws, nd, r, hl, f, d, h => by
    obtain ⟨v, us, rfl, h1, h2⟩ := RepL.cons.mp r
    rw [List.zip_cons_cons] at h ⊢
    rw [List.reverse_cons, List.lookup_append]
    have nd' := List.nodup_cons.mp nd
    rcases List.mem_cons.mp h with z | z
    · cases z
      have hn : (fs.zip us).reverse.lookup g = none := by
        cases q : (fs.zip us).reverse.lookup g with
        | none => rfl
        | some w =>
          have := PySem.mem_of_lookup q
          exact absurd (List.of_mem_zip (List.mem_reverse.mp this)).1 nd'.1
      rw [hn]
      exact ⟨v, by simp [List.lookup], h1⟩
    · obtain ⟨w, q1, q2⟩ := look_zip nd'.2 h2 (by simpa using hl) f d z
      exact ⟨w, by rw [q1]; rfl, q2⟩
abbrev sRaise (c : Str) (fs : List Str) (fa : Env → R (List D)) : SEnv → Out := fun ρ => match fa (viewF ρ) with
  | .ok l => if l.length = fs.length then .ex c (fs.zip l) ρ else .no
  | .ex c' fs' => .ex c' fs' ρ
  | .no => .no
theorem ds_raise {X : Cx} {G : Ctx} {W : WX} {c : Str} {fs : List Str} {k : Nat} {e : Expr} {es : List Expr} {fa : Env → R (List D)} {p pos rpos : Pos} (hc : X.calm = true) (tk : Takes X W) (T : ExcK X.prog X.w X.K X.mg X.base G c fs k) (hr : Room (k + 1) X.A) (hg : Gl X c) (ha : DA X G W (e :: es) fa)
    (hdb : (c == ("__debug__" : Str)) = false := by decide) (he : starEach (e :: es) X.env = (false, eval e X.env) :: starEach es X.env := by rfl) (hpl : (backTo pos (starEach es X.env)).any (·.1) = false := by rfl) :
    DS X G W (.Raise (some (.Call (.Name c p) (e :: es) [] pos)) none rpos) (sRaise c fs fa) := by
  obtain ⟨C, fI, fd, ps, hG, hm, TC, iC, tI, F1, hb⟩ := T.ex
  refine PS.imp (ps_raise hc tk (pmk_oex TC iC tI F1 hr hb .nil passL hg hm ha hdb he hpl)) fun D σ H ⟨F0, H0, F, ρ, x, r, p⟩ => ?_
  refine ⟨F, viewF ρ, x.fh, r.envF, ?_⟩
  simp only [sRaise] at p
  cases hf : fa (viewF ρ) with
  | ex c' fs' => rw [hf] at p; exact fun cls d H1 F1 e1 q => p cls d σ F1 H1 (x.trans e1) e1.f (r.step e1) q
  | no => rw [hf] at p; exact p
  | ok l =>
    rw [hf] at p
    dsimp only at p
    split at p
    · rename_i hl
      intro vs H1 F1 e1 rl
      have hvl : vs.length = fs.length := by rw [rl.length, hl]
      have hfs : vs.length ≤ 1000 := by
        have := T.few
        omega
      refine ⟨hfs, fun a ha => ⟨a, vs ++ [], rfl, by rw [List.append_nil]; exact hvl, upd_same, fun d H' hd hda h1 h2 h3 => ⟨rfl, d, (fs.zip vs).reverse, h1, by rw [h2, List.append_nil], by rw [upd_ne hda] at hd; exact hd, ?_⟩⟩⟩
      have hd1 : H1 d = none := by rw [upd_ne hda] at hd; exact hd
      have eH : upd (del H' a) d (.xd (fs.zip vs).reverse) = upd H1 d (.xd (fs.zip vs).reverse) := by
        funext b
        by_cases hbd : b = d
        · subst hbd; rw [upd_same, upd_same]
        · rw [upd_ne hbd, upd_ne hbd]
          by_cases hba : b = a
          · subst hba; rw [del_same, ha]
          · rw [del_ne hba, h3 b hba hbd, upd_ne hba]
      rw [eH]
      have e2 := (Ext.refl e1.fh).new (o := HO.xd (fs.zip vs).reverse) hd1
      have e3 := e1.trans e2
      exact p (.ref C) (some d) σ _ _ (x.trans e3) e3.f (r.step e3) ⟨C, d, _, rfl, hG, rfl, upd_same, fun f d' q => let ⟨v, q1, q2⟩ := look_zip T.nd rl hl f d' q; ⟨v, q1, q2.mono e2.f⟩⟩
    · exact p.elim
end O

end

section
set_option Elab.async false
set_option linter.all false
set_option maxRecDepth 100000
set_option maxHeartbeats 2000000
namespace O
open PySem PySem.Spec PyProof.Rows L2
open PySem.W (Frag)

/-! ### several except clauses, each with a name -/
/-- the ends behind a suite whose name (slot i) is gone -/
abbrev endsGo (D : Ends) (i : Nat) : Ends := { nx := fun s h => D.nx (s.set i none) h, rt := D.rt, bk := fun s h => D.bk (s.set i none) h, ct := fun s h => D.ct (s.set i none) h }
abbrev HdT := Value × Nat × (Addr → Value → Option Addr → TS)
def wNm (K : Frag) (Wo : WX) (D : Ends) : List HdT → WX
  | [] => Wo
  | h :: r => fun cls d s H => ∃ b, PySem.W.exmOne K cls h.1 = some b ∧ (b = true → ∀ a, H a = none → h.2.2 a cls d (endsGo D h.2.1) (s.set h.2.1 (some (.ref a))) H) ∧ (b = false → wNm K Wo D r cls d s H)
inductive HdN (X : Cx) : List ExceptHandler → List HdT → Prop
  | nil : HdN X [] []
  | cons {x n : Str} {c : Value} {i : Nat} {ts : Addr → Value → Option Addr → TS} {b0 : Stmt} {suite : List Stmt} {np pos' : Pos} {hds : List ExceptHandler} {l : List HdT} (hc : Names X x c) (hi : X.N[i]? = some n) (hln : X.env.kindOf n = some .local)
      (hsu : ∀ (a : Addr) (oe : Obj) (cls : Value) (d : Option Addr) (pn : List (Addr × Obj)), Zc cls d oe → (∃ vs, oe.data = .fields vs) → PSs (X.suite a ((a, oe) :: pn)) (b0 :: suite) (ts a cls d)) (r : HdN X hds l) :
      HdN X (.ExceptHandler (some (.Name x np)) (some n) (b0 :: suite) pos' :: hds) ((c, i, ts) :: l)
section
variable {X : Cx} {body : List Stmt} {h0 : ExceptHandler} {hds : List ExceptHandler} {l : List HdT} {pos : Pos} {tb : WX → TS} {Wo : WX}
theorem ps_try_nm (hs : X.stack = X.env :: X.outer) (hf : X.env.frame = some X.env.locals) (hN : X.N.Nodup) (tk : Takes X Wo)
    (hb : ∀ (W : WX) (pn : List (Addr × Obj)) (xe : Value → Shared → Prop), Takes (X.tr pn xe) W → PassesOwn (model X.prog X.w) X.A X.env xe → PSs (X.tr pn xe) body (tb W))
    (hh : HdN X (h0 :: hds) l) : PS X (.Try body (h0 :: hds) [] [] pos) (fun D s H => tb (wNm X.K Wo D l) D s H) := by
  refine ⟨fun pins s σ H D I h => ?_⟩
  have ok := I.ok
  have hfr : X.A.frames = some (X.env :: X.outer) := by rw [ok.frames, hs]
  refine wpAny_Try_except ?_
  refine wpAny_mono ((hb (wNm X.K Wo D l) (X.pn ++ pins) (fun e s₁ => wpAny (model X.prog X.w) X.A (noteFrame e X.env) (fun _ s₂ => wpAny (model X.prog X.w) X.A (setFlight e none) (fun _ s₃ =>
    wpAny (model X.prog X.w) X.A (handleBy e X.env (h0 :: hds)) (SP X pins D) X.xe s₃) X.xe s₂) X.xe s₁) (fun u s' xx => ?_) PassesOwn.looking).run [] s σ H D (I.toTry _) h) (fun f s1 hsp => ?_) (fun e s1 he => he)
  · -- the catch
    obtain ⟨a, B, sI, pins', σ', H', cls, d, rfl, J', nb, up, sky, na, os, ag, w⟩ := xx
    have J : Inv X pins σ' H' sI := J'.ofTry ok
    have sky' : Sky B (X.env :: X.outer) a (Zc cls d) X.env.locals s'.heap := by rw [← hs]; exact sky
    show wpAny (model X.prog X.w) X.A (noteFrame (.ref a) X.env) _ _ _
    refine Sky.land Zc.steady hfr hf sky' fun h3 fl3 up3 => ?_
    have J3 : Inv X pins σ' H' { s' with heap := h3 } := J.landed nb fl3.1 (up.trans up3) os ag
    obtain ⟨oe3, vs3, he3, hz3, hd3⟩ := fl3.there
    have notFr : ∀ {h : Heap} {o : Obj} {vs : Array Value}, h.FunFrames B (X.env :: X.outer) → h.get? a = some o → o.data = .fields vs → a ∉ frs (X.env :: X.outer) := fun {h o vs} ff e dd hm => by
      obtain ⟨_, o', e', hnf⟩ := ff.mem hm
      rw [e] at e'; cases e'
      exact hnf _ dd
    have nfr := notFr fl3.2.2.1 he3 hd3
    have nL : a ≠ X.env.locals := fun z => nfr (List.mem_filterMap.mpr ⟨X.env, List.mem_cons_self, by rw [hf, z]⟩)
    have nF : a ∉ X.fs := fun hm => by
      obtain ⟨e, he, q⟩ := List.mem_filterMap.mp hm
      exact nfr (List.mem_filterMap.mpr ⟨e, List.mem_cons_of_mem _ he, q⟩)
    have S3 := J3.suite he3 hd3 na nL nF
    have go : ∀ {hds' : List ExceptHandler} {l' : List HdT}, HdN X hds' l' → wNm X.K Wo D l' cls d σ' H' →
        wpAny (model X.prog X.w) X.A (handleBy (.ref a) X.env hds') (SP X pins D) X.xe { s' with heap := h3 } := by
      intro hds' l' hk
      induction hk with
      | nil =>
        intro w
        refine wpAny_handleBy_nil ?_
        obtain ⟨k1, k2, k3, oe, vs, T, oT, ts', he, hz, hd, h1, hr⟩ := id fl3
        unfold PySem.passOn
        refine wpAny_bind (wpAny_field he hd h1 ?_)
        rw [if_neg (show ¬ ((Value.ref T == Value.none) = true) from by simp)]
        have fin : wpAny (model X.prog X.w) X.A (setFlight (.ref a) X.env.frame) (fun _ s4 => wpAny (model X.prog X.w) X.A (throw (.ref a) : Sem Flow) (SP X pins D) X.xe s4) X.xe { s' with heap := h3 } := by
          rw [hf]
          refine HandSPX.setFlight_upZ fl3 fun h4 hh4 up4 => wpAny_throw (tk _ _ ?_)
          exact ⟨a, B, sI, pins, σ', H', cls, d, rfl, J, nb, (up.trans up3).trans up4, .inr (.inr (by rw [hs]; exact hh4)), na, os, ag, w⟩
        first
          | exact wpAny_bind (wpAny_pure (wpAny_bind fin))
          | exact wpAny_bind fin
      | @cons x n c i ts b0 suite np pos' hds2 l2 hc hi hln hsu r ih =>
        intro w
        obtain ⟨b, hb1, hyes, hno⟩ := w
        refine wpAny_handleBy_cons (codeAny_handlers_test ?_) (by intro q; cases q)
        have LT : PySem.W.Looks (model X.prog X.w) h3 (typeOf (.ref a)) cls := fun A Q E s k q => wpAny_typeOf_ref (k _ _ he3) (by rw [hz3.1]; exact q)
        have LM := PySem.W.exm_one (M := model X.prog X.w) (J3.kIn) LT hb1
        have test : ∀ {Q : Value → Shared → Prop} {E : Value → Shared → Prop}, Q c { s' with heap := h3 } → wpAny (model X.prog X.w) (X.A.mark (some (.ref a))) (eval (.Name x np) X.env) Q E { s' with heap := h3 } := fun {Q E} q => by
          obtain ⟨hg, hdbg, hm | ⟨hm, hv, hnn⟩⟩ := hc
          · exact ld_glob (X := X.suite a ((a, oe3) :: (X.pn ++ pins))) S3 hg hm q hdbg
          · exact ld_blt (X := X.suite a ((a, oe3) :: (X.pn ++ pins))) S3 hg hm hv q hnn hdbg
        refine test (LM.here ?_)
        cases b with
        | true =>
          refine codeAny_handlers_suite_as ?_
          refine HandSPX.lands_againZ fl3 fun h4 fl4 up4 => ?_
          have J4 : Inv X pins σ' H' { s' with heap := h4 } := J.landed nb fl4.1 ((up.trans up3).trans up4) os ag
          obtain ⟨oe4, vs4, he4, hz4, hd4⟩ := fl4.there
          have S4 := J4.suite he4 hd4 na nL nF
          refine store_ok (X := X.suite a ((a, oe4) :: (X.pn ++ pins))) (v := .ref a) S4 hN hi (.inl hln) rfl (fun s5 S5 => ?_) (.inr hln)
          refine wpAny_mono ((hsu a oe4 cls d (X.pn ++ pins) hz4 ⟨_, hd4⟩).run [] s5 _ H' _ S5 (hyes rfl a na)) (fun f s6 hsp => ?_) (fun _ _ z => False.elim z)
          have end_ : ∀ {σ6 : L2.St} {H6 : Hp} {Q : Shared → Prop}, Inv (X.suite a ((a, oe4) :: (X.pn ++ pins))) [] σ6 H6 s6 → (∀ s7, Inv X pins (σ6.set i none) H6 s7 → Q s7) →
              wpAny (model X.prog X.w) X.A (do bindName X.env n .none; unbindBehindTheSuite X.env n pos') (fun _ s7 => Q s7) X.xe s6 := fun {σ6 H6 Q} S6 hq => gone_ok (S6.unsuite ok) hN hi hln hq
          cases f with
          | next =>
            obtain ⟨σ6, H6, S6, q6⟩ := hsp
            exact end_ S6 fun s7 J7 => ⟨_, _, J7, q6⟩
          | brk =>
            obtain ⟨σ6, H6, S6, q6⟩ := hsp
            exact end_ S6 fun s7 J7 => ⟨_, _, J7, q6⟩
          | cont =>
            obtain ⟨σ6, H6, S6, q6⟩ := hsp
            exact end_ S6 fun s7 J7 => ⟨_, _, J7, q6⟩
          | ret u =>
            obtain ⟨v6, σ6, H6, S6, r6, q6⟩ := hsp
            exact end_ S6 fun s7 J7 => ⟨_, _, _, J7, r6, q6⟩
        | false =>
          show wpAny _ X.A (handleBy (.ref a) X.env hds2) _ _ _
          exact ih (hno rfl)
    exact go hh w
  · cases f with
    | next =>
      obtain ⟨σ', H', J', q⟩ := hsp
      exact wpAny_execs_nil ⟨σ', H', J'.ofTry ok, q⟩
    | brk =>
      obtain ⟨σ', H', J', q⟩ := hsp
      exact ⟨σ', H', J'.ofTry ok, q⟩
    | cont =>
      obtain ⟨σ', H', J', q⟩ := hsp
      exact ⟨σ', H', J'.ofTry ok, q⟩
    | ret u =>
      obtain ⟨v, σ', H', J', r, q⟩ := hsp
      exact ⟨v, σ', H', J'.ofTry ok, r, q⟩
end

/-! ### the same over data -/
def noxE (ρ : SEnv) : Bool := ρ.all fun o => match o with | some s => noxS s | none => true
structure Hd where
  cn : Str
  i : Nat
  k : Str → List (Str × D) → SEnv → Out
abbrev goneE (ρ : SEnv) : SEnv := ρ.map fun _ => none
def outS (i : Nat) : Out → Out
  | .nx ρ => if noxE (ρ.set i none) = true then .nx (ρ.set i none) else .no
  | .rt s ρ => if noxS s = true then .rt s (goneE ρ) else .no
  | .bk ρ => if noxE (ρ.set i none) = true then .bk (ρ.set i none) else .no
  | .ct ρ => if noxE (ρ.set i none) = true then .ct (ρ.set i none) else .no
  | _ => .no
def handle (sub : Str → Str → Option Bool) : List Hd → Str → List (Str × D) → SEnv → Out
  | [], c, fs, ρ => .ex c fs ρ
  | h :: r, c, fs, ρ => match sub c h.cn with
    | some true => outS h.i (h.k c fs (ρ.set h.i (some (.fz .xo))))
    | some false => handle sub r c fs ρ
    | none => .no
abbrev sTry (sub : Str → Str → Option Bool) (g : SEnv → Out) (hs : List Hd) : SEnv → Out := fun ρ => match g ρ with
  | .ex c fs ρ' => handle sub hs c fs ρ'
  | o => o
/-- what holds where the exception at a is handled -/
def Gx (K : Frag) (G : Ctx) (a : Addr) (c : Str) (fs : List (Str × D)) (cls : Value) (d : Option Addr) : Ctx :=
  { cls := G.cls, tg := fun n => if n = 1 then some a else G.tg n, m := fun F => G.m F ∧ RepX K G F c fs cls d, up := fun F F' e h => ⟨G.up F F' e h.1, RepX.mono e h.2⟩ }
theorem Gx.tg {K : Frag} {G : Ctx} {a : Addr} {c : Str} {fs : List (Str × D)} {cls : Value} {d : Option Addr} (h1 : G.tg 1 = none) : ∀ n b, G.tg n = some b → (Gx K G a c fs cls d).tg n = some b := fun n b q => by
  show (if n = 1 then some a else G.tg n) = some b
  split
  · rename_i e
    subst e
    rw [h1] at q
    cases q
  · exact q
section
variable {K : Frag} {G : Ctx}
theorem SRep.ctx {G' : Ctx} (e : G'.cls = G.cls) (t : ∀ n a, G.tg n = some a → G'.tg n = some a) {H0 F H : Hp} {σ : L2.St} {ρ : SEnv} (m : G'.m F) (r : SRep K G H0 F H σ ρ) : SRep K G' H0 F H σ ρ :=
  ⟨m, r.len, fun i s q => let ⟨v, h1, h2⟩ := r.val i s q; ⟨v, h1, h2.ctx e t⟩, r.ap⟩
theorem SRep.unctx {G' : Ctx} (e : G'.cls = G.cls) {H0 F H : Hp} {σ : L2.St} {ρ : SEnv} (m : G'.m F) (hn : noxE ρ = true) (r : SRep K G H0 F H σ ρ) : SRep K G' H0 F H σ ρ :=
  ⟨m, r.len, fun i s q => let ⟨v, h1, h2⟩ := r.val i s q; ⟨v, h1, h2.unctx e (List.all_eq_true.mp hn _ (List.mem_of_getElem? q))⟩, r.ap⟩
theorem SRep.unset {H0 F H : Hp} {σ : L2.St} {ρ : SEnv} (r : SRep K G H0 F H σ ρ) (i : Nat) (o : Option V) : SRep K G H0 F H (σ.set i o) (ρ.set i none) := by
  have st : ∀ {j : Nat} {s : S}, (ρ.set i none)[j]? = some (some s) → (σ.set i o)[j]? = σ[j]? := fun {j s} q => List.getElem?_set_ne (get_set_none q).1
  refine ⟨r.m, by simp [r.len], fun j s q => ?_, fun a b sa sb va vb p hab ha hb ka kb => ?_⟩
  · obtain ⟨v, h1, h2⟩ := r.val j s (get_set_none q).2
    exact ⟨v, by rw [st q]; exact h1, h2⟩
  · rw [st ha] at ka
    rw [st hb] at kb
    exact r.ap a b sa sb va vb p hab (get_set_none ha).2 (get_set_none hb).2 ka kb
theorem goneE_get {ρ : SEnv} {i : Nat} {s : S} : (goneE ρ)[i]? ≠ some (some s) := fun q => by
  rw [List.getElem?_map] at q
  cases h : ρ[i]? <;> rw [h] at q <;> cases q
theorem SRep.gone {H0 F H : Hp} {σ : L2.St} {ρ : SEnv} (r : SRep K G H0 F H σ ρ) : SRep K G H0 F H σ (goneE ρ) :=
  ⟨r.m, by rw [List.length_map]; exact r.len, fun i s q => absurd q goneE_get, fun a b sa sb va vb p _ ha => absurd ha goneE_get⟩
end
/-- the clauses -/
inductive HdD (X : Cx) (G : Ctx) (sub : Str → Str → Option Bool) : List ExceptHandler → List Hd → Prop
  | nil : HdD X G sub [] []
  | cons {x n cn : Str} {C : Addr} {i : Nat} {k : Str → List (Str × D) → SEnv → Out} {b0 : Stmt} {suite : List Stmt} {np pos' : Pos} {hds : List ExceptHandler} {hs : List Hd} (hc : Names X x (.ref C)) (he : ∀ c C' b, G.cls c = some C' → sub c cn = some b → PySem.W.exmOne X.K (.ref C') (.ref C) = some b)
      (hi : X.N[i]? = some n) (hln : X.env.kindOf n = some .local)
      (hsu : ∀ (a : Addr) (oe : Obj) (cls : Value) (d : Option Addr) (pn : List (Addr × Obj)) (c : Str) (fs : List (Str × D)), Zc cls d oe → (∃ vs, oe.data = .fields vs) → sub c cn = some true → DSs (X.suite a ((a, oe) :: pn)) (Gx X.K G a c fs cls d) W0 (b0 :: suite) (k c fs)) (r : HdD X G sub hds hs) :
      HdD X G sub (.ExceptHandler (some (.Name x np)) (some n) (b0 :: suite) pos' :: hds) (⟨cn, i, k⟩ :: hs)
theorem PostO.suite {K : Frag} {G : Ctx} {W : WX} {F0 H0 F : Hp} {D0 : Ends} {a : Addr} {c : Str} {fs : List (Str × D)} {cls : Value} {d : Option Addr} {i : Nat} {o : Out} (p : PostO K G W F0 H0 F D0 (outS i o)) : PostO K (Gx K G a c fs cls d) W0 F0 H0 F (endsGo D0 i) o := by
  have cl : (G : Ctx).cls = (Gx K G a c fs cls d).cls := rfl
  cases o with
  | nx ρ =>
    intro σ' F' H' x l r
    simp only [outS] at p
    split at p
    · rename_i hn
      exact p _ F' H' x l ((r.unset i none).unctx cl r.m.1 hn)
    · exact p.elim
  | bk ρ =>
    intro σ' F' H' x l r
    simp only [outS] at p
    split at p
    · rename_i hn
      exact p _ F' H' x l ((r.unset i none).unctx cl r.m.1 hn)
    · exact p.elim
  | ct ρ =>
    intro σ' F' H' x l r
    simp only [outS] at p
    split at p
    · rename_i hn
      exact p _ F' H' x l ((r.unset i none).unctx cl r.m.1 hn)
    · exact p.elim
  | rt s ρ =>
    intro v σ' F' H' x l r
    simp only [outS] at p
    split at p
    · rename_i hn
      have b := (Wth.base r).gone
      have b' : SRep K G H0 F' H' σ' (goneE ρ) := ⟨r.m.1, b.len, fun i s q => absurd q goneE_get, fun a b sa sb va vb p _ ha => absurd ha goneE_get⟩
      exact p v σ' F' H' x l (Wth.mk b' ((Wth.rep r).unctx cl hn) fun a f ⟨j, t, w, q, _⟩ => absurd q goneE_get)
    · exact p.elim
  | ex c fs ρ => exact p.elim
  | no => exact p.elim
section
variable {X : Cx} {G : Ctx} {W : WX} {sub : Str → Str → Option Bool}
theorem hd_ok (h1 : G.tg 1 = none) : ∀ {hds : List ExceptHandler} {hs : List Hd}, HdD X G sub hds hs → ∃ l : List HdT, HdN X hds l ∧ ∀ (D0 : Ends) (c : Str) (fs : List (Str × D)) (ρ : SEnv) (F0 H0 F : Hp), PostO X.K G W F0 H0 F D0 (handle sub hs c fs ρ) →
    ∀ cls d σ' F' H', Ext F0 H0 F' H' → Le F F' → SRep X.K G H0 F' H' σ' ρ → RepX X.K G F' c fs cls d → wNm X.K W D0 l cls d σ' H' := by
  intro hds hs h
  induction h with
  | nil => exact ⟨[], .nil, fun D0 c fs ρ F0 H0 F p cls d σ' F' H' x l r q => p cls d σ' F' H' x l r q⟩
  | @cons x n cn C i k b0 suite np pos' hds hs hc he hi hln hsu r ih =>
    obtain ⟨l, hl, ih⟩ := ih
    refine ⟨(.ref C, i, fun a cls d D1 σ H => ∃ c fs, sub c cn = some true ∧ tS X.K (Gx X.K G a c fs cls d) W0 (k c fs) D1 σ H) :: l, .cons hc hi hln (fun a oe cls d pn hz hf => ⟨fun pins s σ H D1 I ⟨c, fs, hs, h⟩ => (hsu a oe cls d pn c fs hz hf hs).run pins s σ H D1 I h⟩) hl, ?_⟩
    intro D0 c fs ρ F0 H0 F p cls d σ' F' H' x l r q
    obtain ⟨C', dd, vs, rfl, hG, rfl, hx, hv⟩ := id q
    simp only [handle] at p
    cases hs : sub c cn with
    | none => rw [hs] at p; exact p.elim
    | some b =>
      rw [hs] at p
      refine ⟨b, he c C' b hG hs, fun e a ha => ?_, fun e => ?_⟩
      · subst e
        refine ⟨c, fs, hs, F0, H0, F', ρ.set i (some (.fz .xo)), x, ?_, (PostO.suite p).mono l⟩
        have r' : SRep X.K (Gx X.K G a c fs (.ref C') (some dd)) H0 F' H' σ' ρ := SRep.ctx (show (Gx X.K G a c fs (.ref C') (some dd)).cls = G.cls from rfl) (Gx.tg h1) ⟨r.m, q⟩ r
        exact Wth.set (Wth.mk (s := .fz .xo) r' (show Rep X.K (Gx X.K G a c fs (.ref C') (some dd)) F' .xo (.ref a) from Rep.xo.mpr ⟨a, rfl, rfl⟩) fun a f => f.elim) i
      · subst e
        exact ih D0 c fs ρ F0 H0 F p _ _ σ' F' H' x l r q
theorem ds_try {body : List Stmt} {h0 : ExceptHandler} {hds : List ExceptHandler} {hs : List Hd} {g : SEnv → Out} {pos : Pos} (h1 : G.tg 1 = none) (hst : X.stack = X.env :: X.outer) (hf : X.env.frame = some X.env.locals) (hN : X.N.Nodup) (tk : Takes X W)
    (hb : ∀ (W' : WX) (pn : List (Addr × Obj)) (xe : Value → Shared → Prop), Takes (X.tr pn xe) W' → PassesOwn (model X.prog X.w) X.A X.env xe → DSs (X.tr pn xe) G W' body g) (hh : HdD X G sub (h0 :: hds) hs) : DS X G W (.Try body (h0 :: hds) [] [] pos) (sTry sub g hs) := by
  obtain ⟨l, hl, hk⟩ := hd_ok (W := W) h1 hh
  refine PS.imp (ps_try_nm (tb := fun W' => tS X.K G W' g) (Wo := W) (l := l) hst hf hN tk hb hl) fun D0 σ H ⟨F0, H0, F, ρ, x, r, p⟩ => ⟨F0, H0, F, ρ, x, r, ?_⟩
  simp only [sTry] at p
  cases hg : g ρ with
  | ex c fs ρ' =>
    rw [hg] at p
    exact fun cls d σ' F' H' x' l' r' q => hk D0 c fs ρ' F0 H0 F p cls d σ' F' H' x' l' r' q
  | nx ρ' => rw [hg] at p; exact p
  | rt s ρ' => rw [hg] at p; exact p
  | bk ρ' => rw [hg] at p; exact p
  | ct ρ' => rw [hg] at p; exact p
  | no => rw [hg] at p; exact p
/-! ### within a suite: e.f, isinstance(e, C) -/
abbrev sXf (i : Nat) (fs : List (Str × D)) (f : Str) : Env → RS := fun ρ => match ρ[i]? with
  | some (some .xo) => match fs.lookup f with
    | some d => .ok (.fz d)
    | none => .no
  | _ => .no
/-- an exception class -/
structure XcC (K : Frag) (C : Addr) (fl : List Str) : Prop where
  xf : XfC K C
  no : ∀ f ∈ fl, PySem.W.findIn K (.ref C) f = some none
  cl : (PySem.W.clsIn K C).isSome = true
  ha : PySem.W.findIn K (.ref C) "__class__" = some (some (.builtin "object.__class__"))
  hn : PySem.W.specialIn K (.builtin "object.__class__") "__get__" = some (some (.builtin "getset_descriptor.__get__"))
  ht : PySem.W.takesIn K (.builtin "object.__class__") = some true
  hm : PySem.W.mroIn K C (.type "object") = some true
variable {a : Addr} {oe : Obj} {cls : Value} {d : Option Addr} {pn : List (Addr × Obj)} {c : Str} {fs : List (Str × D)} {W' : WX} {i : Nat} {e : Expr} {pos : Pos}
theorem de_xf {n : Str} {fl : List Str} (T : ∀ C, G.cls c = some C → XcC X.K C fl) (hn : n ∈ fl) (h1 : G.tg 1 = none) (hz : Zc cls d oe) (hf : ∃ vs, oe.data = .fields vs) (he : PE (X.suite a ((a, oe) :: pn)) e (tVar i)) (hb : attributeBase e n X.env (eval e X.env) = eval e X.env := by rfl) :
    DE (X.suite a ((a, oe) :: pn)) (Gx X.K G a c fs cls d) W' (.Attribute e n pos) (sXf i fs n) := by
  refine ⟨fun pins s σ H Q I ⟨F, ρ, le, re, p⟩ => ?_⟩
  obtain ⟨C, dd, vs, rfl, hG, rfl, hx, hv⟩ := re.m.2
  have T := T C hG
  refine (pe_xf T.xf (T.no n hn) hz hf he hb).run pins s σ H Q I ?_
  unfold sXf at p
  split at p
  · rename_i h0
    obtain ⟨v, e1, q⟩ := re.val i _ h0
    obtain ⟨a', ea, rfl⟩ := Rep.xo.mp q
    cases (show some a = some a' from ea)
    split at p
    · rename_i d' hd
      obtain ⟨v', l1, rv⟩ := hv n d' (PySem.mem_of_lookup hd)
      exact ⟨_, e1, rfl, rfl, dd, vs, v', rfl, le _ _ hx, l1, p v' H F (.refl le) (Rep.ctx (show (Gx X.K G a c fs (.ref C) (some dd)).cls = G.cls from rfl) (Gx.tg h1 1) rv)⟩
    · exact p.elim
  · exact p.elim
abbrev sXis (i : Nat) (o : Option Bool) : Env → RS := fun ρ => match ρ[i]? with
  | some (some .xo) => match o with
    | some b => .ok (.fz (.bl b))
    | none => .no
  | _ => .no
theorem call_isX {fl : List Str} {C : Addr} {dd : Addr} (T : XcC X.K C fl) (hz : Zc (.ref C) (some dd) oe) (hf : ∃ vs, oe.data = .fields vs) : CallR (X.suite a ((a, oe) :: pn)) (.builtin "isinstance")
    (fun xs H Q => ∃ (cv : Addr) (b : Bool) (vs : List (Str × V)), xs = [.ref a, .ref cv] ∧ H dd = some (.xd vs) ∧ PySem.W.kitOne X.K (.ref C) (.ref cv) = some b ∧ Q (.bl b) H) := by
  intro pins s σ H xs us Q I r h
  obtain ⟨cv, b, vs, rfl, hx, hk, q⟩ := h
  cases r with
  | cons r1 r =>
    cases r with
    | cons r2 r =>
      cases r
      cases r1
      cases r2
      have ho : ObjOk X.prog X.w H s.heap dd (.xd vs) := I.hok dd _ hx
      obtain ⟨mA, hns, _⟩ := ho
      obtain ⟨od, h3, _⟩ := lookIn_ns hns
      obtain ⟨h4, _⟩ := I.pin (a, oe) (List.mem_append_left _ List.mem_cons_self)
      obtain ⟨ws, h5⟩ := hf
      have J : PySem.W.InstAt s.heap a oe C (some od) := ⟨h4, hz.1, by unfold PySem.W.notCls; rw [h5] <;> rfl, by rw [hz.2]; exact h3⟩
      exact PySem.W.kia_one (PySem.W.kitx_exc T.cl T.xf.ga T.xf.gg T.xf.exC T.ha T.hn T.ht T.hm) I.kIn J hk (fun z => nomatch z) fun tk => ⟨.bl b, H, I.kept (t' := tk) fun _ _ z => z, rfl, q⟩
theorem de_xis {x2 cn : Str} {C2 : Addr} {fl : List Str} {p p2 : Pos} (T : ∀ C, G.cls c = some C → XcC X.K C fl) (hk : ∀ C b, G.cls c = some C → sub c cn = some b → PySem.W.kitOne X.K (.ref C) (.ref C2) = some b) (hz : Zc cls d oe) (hf : ∃ vs, oe.data = .fields vs) (he : PE (X.suite a ((a, oe) :: pn)) e (tVar i))
    (hg : Gl X "isinstance") (hm : X.mg "isinstance" = none) (hg2 : Gl X x2) (hm2 : X.mg x2 = some (.ref C2)) (hdb : (x2 == ("__debug__" : Str)) = false := by decide)
    (he1 : starEach [e, .Name x2 p2] X.env = (false, eval e X.env) :: starEach [.Name x2 p2] X.env := by rfl) (he2 : starEach [.Name x2 p2] X.env = (false, eval (.Name x2 p2) X.env) :: starEach [] X.env := by rfl) (hpl : (backTo pos (starEach [.Name x2 p2] X.env)).any (·.1) = false := by rfl) :
    DE (X.suite a ((a, oe) :: pn)) (Gx X.K G a c fs cls d) W' (.Call (.Name "isinstance" p) [e, .Name x2 p2] [] pos) (sXis i (sub c cn)) := by
  refine ⟨fun pins s σ H Q I ⟨F, ρ, le, re, p⟩ => ?_⟩
  obtain ⟨C, dd, vs, rfl, hG, rfl, hx, hv⟩ := re.m.2
  refine (pe_callB (call_isX (T C hG) hz hf) hg hm (by decide +kernel) (pa_cons he (pa_cons (pe_glob (v := .ref C2) hg2 hm2 rfl hdb) pa_nil he2) he1) (by decide) (by decide) he1 hpl).run pins s σ H Q I ?_
  unfold sXis at p
  split at p
  · rename_i h0
    obtain ⟨v, e1, q⟩ := re.val i _ h0
    obtain ⟨a', ea, rfl⟩ := Rep.xo.mp q
    cases (show some a = some a' from ea)
    cases hs : sub c cn with
    | none => rw [hs] at p; exact p.elim
    | some b =>
      rw [hs] at p
      exact ⟨_, e1, C2, b, vs, rfl, le _ _ hx, hk C b hG hs, p (.bl b) H F (.refl le) RepS.bl⟩
  · exact p.elim
end
end O

end

section
set_option Elab.async false
set_option linter.all false
set_option maxRecDepth 100000
set_option maxHeartbeats 2000000
namespace O
open PySem PySem.Spec PyProof.Rows L2
open PySem.AutoSeq1 (wpAny_loadPart')

/-! ### enumerate(tuple) -/
theorem enum_newT (b : Addr) (xs : Array Value) (n : Nat) (dx : Option Addr) (zl : Array (Option Value)) :
    Meets (Builtin.«enumerate.__new__» ⟨[.type "enumerate", .ref b], []⟩) (fun _ R s => s.heap.get? b = some { cls := .type "tuple", dict := dx, data := .seq xs n, slots := zl } ∧
      R (.ok (.ret (.ref (s.heap.push { cls := .type "tuple_iterator", data := .fields #[.ref b, .int 0 0] }).objs.size)))
        { s with heap := (s.heap.push { cls := .type "tuple_iterator", data := .fields #[.ref b, .int 0 0] }).push { cls := .type "enumerate", data := .fields #[.none, .bool false, .ref s.heap.objs.size, rawInt 0, .none, .none] } }) :=
  .of_wp fun prog w A R s h => by
    obtain ⟨h0, gl, dr, tq, oq⟩ := s
    obtain ⟨hb, h⟩ := h
    have q1 := sub_enumerate
    have q2 : Heap.IsTuple (Shared.heap ⟨h0, gl, dr, tq, oq⟩) b xs := ⟨_, hb, rfl, n, rfl⟩
    wp_walk using wpAny_loadPart' hb
    refine wpAny_stack_any fun st => wpAny_pure ?_
    split
    · rename_i c _ _ _ _ _
      cases (c == Value.type "enumerate") <;>
      · wp_walk using wpAny_loadPart' hb, wpAny_pyIter_tuple q2
        exact ⟨_, rfl, h⟩
    · wp_walk using wpAny_loadPart' hb, wpAny_pyIter_tuple q2
      exact ⟨_, rfl, h⟩
section
variable {prog : Program} {w : World} {A : Around} {E : Value → Shared → Prop} {s : Shared}
theorem call_enumT {b : Addr} {xs : Array Value} {Q : Value → Shared → Prop} (hb : s.heap.IsTuple b xs)
    (h : ∀ h', IsEnum h' (s.heap.objs.size + 1) s.heap.objs.size 0 .none → h'.IsTupleIter s.heap.objs.size b 0 → (∀ c o, s.heap.get? c = some o → h'.get? c = some o) → Q (.ref (s.heap.objs.size + 1)) { s with heap := h' }) :
    wpAny (model prog w) A (call (.type "enumerate") [.ref b]) Q E s := by
  obtain ⟨⟨cb, xb, tb, zb⟩, q, q1, n, q2⟩ := hb
  replace q1 : cb = .type "tuple" := q1
  replace q2 : tb = .seq xs n := q2
  subst q1 q2
  have sz : ∀ o, (s.heap.push o).objs.size = s.heap.objs.size + 1 := fun o => Heap.size_push ..
  refine callType_new PySem.F.called_enumerate (by decide) (PySem.F.typeCall_enumerate_1 _) (PySem.F.newCall_enumerate_1 _) (fun y => PySem.F.args_object_init_2 y _) PySem.F.entry_enumerate_new (enum_newT b xs n xb zb) ⟨q, ?_⟩
  show _ ∧ _
  rw [sz]
  have up : ∀ o', ((s.heap.push { cls := .type "tuple_iterator", data := .fields #[.ref b, .int 0 0] }).push o').get? (s.heap.objs.size + 1) = (((s.heap.push { cls := .type "tuple_iterator", data := .fields #[.ref b, .int 0 0] }).push o').get? (s.heap.push { cls := .type "tuple_iterator", data := .fields #[.ref b, .int 0 0] }).objs.size) := fun o' => by rw [sz]
  have q3 : IsEnum ((s.heap.push { cls := .type "tuple_iterator", data := .fields #[.ref b, .int 0 0] }).push { cls := .type "enumerate", data := .fields #[.none, .bool false, .ref s.heap.objs.size, rawInt 0, .none, .none] }) (s.heap.objs.size + 1) s.heap.objs.size 0 .none :=
    (up _).trans (Heap.get?_push_size _ rfl)
  exact ⟨⟨_, q3, rfl⟩, h _ q3 ⟨_, Heap.get?_push_of_some _ (Heap.get?_push_size _ rfl), rfl, rfl⟩ fun c o y => Heap.get?_push_of_some _ (Heap.get?_push_of_some _ y)⟩
end
/-- the tuple at a, each item in a new pair -/
def IteT (K : PySem.W.Frag) (a : Addr) : It :=
  ⟨fun i H => ∃ (xs : List V) (x : V), SqT K H a xs ∧ xs[i]? = some x, fun i H v H' => ∃ T x, v = .ref T ∧ H T = none ∧ (∃ us, H' = upd H T (.frz (tupO us) (.tup [.int (i : Nat), x]))) ∧ ∀ xs, SqT K H a xs → xs[i]? = some x, fun i H => ∃ xs : List V, SqT K H a xs ∧ xs.length ≤ i⟩
theorem turn_enumT {P : Program} {w : World} {K : PySem.W.Frag} {elts : List Expr} {kk : Nat} {tpos : Pos} (a e it : Addr) :
    Turn P w K (.Tuple elts kk tpos) (IteT K a) [e, it] e (fun i h => (∃ old, IsEnum h e it ((i : Nat) : Int) old) ∧ h.IsTupleIter it a i ∧ e ≠ it ∧ a ≠ it ∧ a ≠ e) where
  mem := by simp
  obj := fun i h st b hb => by
    obtain ⟨⟨old, q1⟩, ⟨o, q2, _, q3⟩, _⟩ := st
    rcases (by simpa using hb : b = e ∨ b = it) with z | z
    · rw [z]; exact ⟨_, q1, fun v q => nomatch q⟩
    · rw [z]; exact ⟨o, q2, fun v y => by rw [q3] at y; cases y⟩
  keep := fun i h h' st k => let ⟨⟨old, q1⟩, q2, q3⟩ := st; ⟨⟨old, k e (by simp) _ q1⟩, q2.at fun o y => k it (by simp) o y, q3⟩
  item := by
    intro X hP hw hK hc i pins s σ H E I hf st hg
    subst hP hw hK
    obtain ⟨⟨old, q1⟩, q2, n1, n2, n3⟩ := st
    obtain ⟨xs, x, hq, hx⟩ := hg
    obtain ⟨us, rv, p, _⟩ := I.tuple hq
    obtain ⟨u, hu, ru⟩ := rv.get hx
    have le1 : e < s.heap.objs.size := Heap.lt_size q1
    have le2 : it < s.heap.objs.size := by obtain ⟨_, y, _⟩ := q2; exact Heap.lt_size y
    have hi : i < us.toArray.size := by simpa using (List.getElem?_eq_some_iff.mp hu).1
    refine wpAny_pyNext_enum_itemD (Draws.tuple (show X.A.in1.handled = none from I.ok.hd hc) it a n2 us.toArray) q1 ⟨q2, p⟩ hi n1 (by simp [n1, Ne.symm n3]) fun x' h' tk hx' ho st' hT hsz hk => ?_
    have ex : x' = u := by
      have y : us.toArray[i]? = some u := by simpa using hu
      rw [y] at hx'
      exact (Option.some.inj hx').symm
    subst ex
    refine ⟨_, rfl, wpAny_letOwnedTupleGo_enum (s := { s with heap := h', toks := tk + 1 }) ho fun h2 q1' sb => ?_⟩
    have hT2 : h2.get? s.heap.objs.size = some { cls := .type "tuple", data := .seq #[.int i tk, x'] } := (sb.2 _ (Nat.ne_of_gt le1)).trans hT
    have new : ObjOk X.prog X.w (upd H s.heap.objs.size (.frz (tupO [.int i tk, x']) (.tup [.int (i : Nat), x]))) h2 s.heap.objs.size (.frz (tupO [.int i tk, x']) (.tup [.int (i : Nat), x])) :=
      frz_new (xs := [.int (i : Nat), x]) (us := [.int i tk, x']) (.cons ⟨_, rfl⟩ (.cons ru .nil)) (by show 2 ≤ sizeLine; decide) hT2
    have I1 : Inv X pins σ (upd H s.heap.objs.size (.frz (tupO [.int i tk, x']) (.tup [.int (i : Nat), x]))) { s with heap := h2, toks := tk + 1 } :=
      I.turnedNew (ch := [e, it]) (fun b ob hb y => (sb.2 b (fun z => hb (by simp [z]))).trans (hk b ob (fun z => hb (by simp [z])) (fun z => hb (by simp [z])) y)) hf (Nat.le_refl _) new
    refine ⟨.ref s.heap.objs.size, _, I1, rfl, ⟨_, x, rfl, I.hok.fresh (Nat.le_refl _), ⟨_, rfl⟩, fun ys hy => by rw [I.tuple_inj hy hq]; exact hx⟩, ⟨⟨x', ?_⟩, st'.1.at fun o y => (sb.2 it (Ne.symm n1)).trans y, n1, n2, n3⟩, fun b hb => ?_⟩
    · have e1 : ((i + 1 : Nat) : Int) = (i : Int) + 1 := by omega
      rw [e1]; exact q1'
    · have hb' : b < s.heap.objs.size := by
        rcases (by simpa using hb : b = e ∨ b = it) with z | z
        · rw [z]; exact le1
        · rw [z]; exact le2
      rw [upd_ne (Nat.ne_of_lt hb')]
      exact (hf b hb).1
  done := by
    intro X hP hw hK hc i pins s σ H E I hf st hg
    subst hP hw hK
    obtain ⟨⟨old, q1⟩, q2, n1, n2, n3⟩ := st
    obtain ⟨xs, hq, hx⟩ := hg
    obtain ⟨us, rv, p, _⟩ := I.tuple hq
    obtain ⟨f0, f1, f2, f3, f4, f5⟩ := hf it (by simp)
    have hl := rv.length
    have D0 : Draws X.prog X.w X.A.in1 it [it, a] i (fun _ _ => False) (fun j h => j = i ∧ h.IsTupleIter it a i ∧ h.IsTuple a us.toArray) :=
      ⟨fun j h st' => let ⟨o, ho, _⟩ := st'.2.1; ⟨o, ho⟩, fun j h h' st' hk => ⟨st'.1, st'.2.1.at fun o y => hk it (by simp) o y, st'.2.2.at fun o y => hk a (by simp) o y⟩,
        fun j s' Q' E' hj st' hQ => absurd st'.1 (Nat.ne_of_lt hj), fun s' Q' E' st' hE => wpAny_nextOf_tuple_end (I.ok.hd hc) st'.2.1 st'.2.2 (by simp; omega) hE⟩
    exact wpAny_pyNext_enum_endD D0 q1 ⟨rfl, q2, p⟩ fun h' eb => ⟨rfl, I.turned (t' := s.toks) (fun b o hb y => eb b o hb y) f0 f1 f3 f4 f5⟩
  self := fun A i s Q E st h => let ⟨⟨_, q⟩, _⟩ := st; wpAny_pyIter_enum q h
/-- the list at a, each item in a new pair -/
def IteL (K : PySem.W.Frag) (a : Addr) : It :=
  ⟨fun i H => ∃ (xs : List V) (x : V), SqL K H a xs ∧ xs[i]? = some x, fun i H v H' => ∃ T x, v = .ref T ∧ H T = none ∧ (∃ us, H' = upd H T (.frz (tupO us) (.tup [.int (i : Nat), x]))) ∧ ∀ xs, SqL K H a xs → xs[i]? = some x, fun i H => ∃ xs : List V, SqL K H a xs ∧ xs.length ≤ i⟩
theorem turn_enumZ {P : Program} {w : World} {K : PySem.W.Frag} {elts : List Expr} {kk : Nat} {tpos : Pos} (a e it : Addr) :
    Turn P w K (.Tuple elts kk tpos) (IteL K a) [e, it] e (fun i h => (∃ old, IsEnum h e it ((i : Nat) : Int) old) ∧ h.IsListIter it a i ∧ e ≠ it ∧ a ≠ it ∧ a ≠ e) where
  mem := by simp
  obj := fun i h st b hb => by
    obtain ⟨⟨old, q1⟩, ⟨o, q2, _, q3⟩, _⟩ := st
    rcases (by simpa using hb : b = e ∨ b = it) with z | z
    · rw [z]; exact ⟨_, q1, fun v q => nomatch q⟩
    · rw [z]; exact ⟨o, q2, fun v y => by rw [q3] at y; cases y⟩
  keep := fun i h h' st k => let ⟨⟨old, q1⟩, q2, q3⟩ := st; ⟨⟨old, k e (by simp) _ q1⟩, q2.at fun o y => k it (by simp) o y, q3⟩
  item := by
    intro X hP hw hK hc i pins s σ H E I hf st hg
    subst hP hw hK
    obtain ⟨⟨old, q1⟩, q2, n1, n2, n3⟩ := st
    obtain ⟨xs, x, hq, hx⟩ := hg
    obtain ⟨us, rv, p, _⟩ := I.list hq
    obtain ⟨u, hu, ru⟩ := rv.get hx
    have le1 : e < s.heap.objs.size := Heap.lt_size q1
    have le2 : it < s.heap.objs.size := by obtain ⟨_, y, _⟩ := q2; exact Heap.lt_size y
    have hi : i < us.toArray.size := by simpa using (List.getElem?_eq_some_iff.mp hu).1
    refine wpAny_pyNext_enum_itemD (Draws.list (show X.A.in1.handled = none from I.ok.hd hc) it a n2 us.toArray) q1 ⟨q2, p.isList⟩ hi n1 (by simp [n1, Ne.symm n3]) fun x' h' tk hx' ho st' hT hsz hk => ?_
    have ex : x' = u := by
      have y : us.toArray[i]? = some u := by simpa using hu
      rw [y] at hx'
      exact (Option.some.inj hx').symm
    subst ex
    refine ⟨_, rfl, wpAny_letOwnedTupleGo_enum (s := { s with heap := h', toks := tk + 1 }) ho fun h2 q1' sb => ?_⟩
    have hT2 : h2.get? s.heap.objs.size = some { cls := .type "tuple", data := .seq #[.int i tk, x'] } := (sb.2 _ (Nat.ne_of_gt le1)).trans hT
    have new : ObjOk X.prog X.w (upd H s.heap.objs.size (.frz (tupO [.int i tk, x']) (.tup [.int (i : Nat), x]))) h2 s.heap.objs.size (.frz (tupO [.int i tk, x']) (.tup [.int (i : Nat), x])) :=
      frz_new (xs := [.int (i : Nat), x]) (us := [.int i tk, x']) (.cons ⟨_, rfl⟩ (.cons ru .nil)) (by show 2 ≤ sizeLine; decide) hT2
    have I1 : Inv X pins σ (upd H s.heap.objs.size (.frz (tupO [.int i tk, x']) (.tup [.int (i : Nat), x]))) { s with heap := h2, toks := tk + 1 } :=
      I.turnedNew (ch := [e, it]) (fun b ob hb y => (sb.2 b (fun z => hb (by simp [z]))).trans (hk b ob (fun z => hb (by simp [z])) (fun z => hb (by simp [z])) y)) hf (Nat.le_refl _) new
    refine ⟨.ref s.heap.objs.size, _, I1, rfl, ⟨_, x, rfl, I.hok.fresh (Nat.le_refl _), ⟨_, rfl⟩, fun ys hy => by rw [I.list_inj hy hq]; exact hx⟩, ⟨⟨x', ?_⟩, st'.1.at fun o y => (sb.2 it (Ne.symm n1)).trans y, n1, n2, n3⟩, fun b hb => ?_⟩
    · have e1 : ((i + 1 : Nat) : Int) = (i : Int) + 1 := by omega
      rw [e1]; exact q1'
    · have hb' : b < s.heap.objs.size := by
        rcases (by simpa using hb : b = e ∨ b = it) with z | z
        · rw [z]; exact le1
        · rw [z]; exact le2
      rw [upd_ne (Nat.ne_of_lt hb')]
      exact (hf b hb).1
  done := by
    intro X hP hw hK hc i pins s σ H E I hf st hg
    subst hP hw hK
    obtain ⟨⟨old, q1⟩, q2, n1, n2, n3⟩ := st
    obtain ⟨xs, hq, hx⟩ := hg
    obtain ⟨us, rv, p, _⟩ := I.list hq
    obtain ⟨f0, f1, f2, f3, f4, f5⟩ := hf it (by simp)
    have hl := rv.length
    have D0 : Draws X.prog X.w X.A.in1 it [it, a] i (fun _ _ => False) (fun j h => j = i ∧ h.IsListIter it a i ∧ h.IsList a us.toArray) :=
      ⟨fun j h st' => let ⟨o, ho, _⟩ := st'.2.1; ⟨o, ho⟩, fun j h h' st' hk => ⟨st'.1, st'.2.1.at fun o y => hk it (by simp) o y, st'.2.2.at fun o y => hk a (by simp) o y⟩,
        fun j s' Q' E' hj st' hQ => absurd st'.1 (Nat.ne_of_lt hj), fun s' Q' E' st' hE => wpAny_nextOf_list_end (I.ok.hd hc) st'.2.1 st'.2.2 (by simp; omega) hE⟩
    exact wpAny_pyNext_enum_endD D0 q1 ⟨rfl, q2, p.isList⟩ fun h' eb => ⟨rfl, I.turned (t' := s.toks) (fun b o hb y => eb b o hb y) f0 f1 f3 f4 f5⟩
  self := fun A i s Q E st h => let ⟨⟨_, q⟩, _⟩ := st; wpAny_pyIter_enum q h
/-- a list or a tuple -/
def iEnumA (K : PySem.W.Frag) (ta : TA) : TI := fun σ H R => ta σ H fun vs H1 => ∃ a xs, vs = [.ref a] ∧ ((SqL K H1 a xs ∧ R (IteL K a) H1) ∨ (SqT K H1 a xs ∧ R (IteT K a) H1))
theorem pi_enumA {X : Cx} {e : Expr} {ta : TA} {p pos tpos : Pos} {elts : List Expr} {kk : Nat} (hg : Gl X "enumerate") (hm : X.mg "enumerate" = none) (ha : PA X [e] ta) (hs : starEach [e] X.env = [(false, eval e X.env)] := by rfl) :
    PI X (.Tuple elts kk tpos) (.Call (.Name "enumerate" p) [e] [] pos) (iEnumA X.K ta) := by
  refine ⟨fun pins s σ H R I h => ?_⟩
  refine Call_ (ld_blt I hg hm boot_enumerate (PyProof.Rows.callWith_type1 (thn (ha.run pos pins s σ H _ I h) fun us s1 ⟨vs, H1, I1, r1, q1⟩ => ?_) hs rfl))
  obtain ⟨a, xs, ex, q1⟩ := q1
  subst ex
  cases r1 with
  | cons r rr =>
    cases rr
    cases r
    have ge : ∀ b ∈ [s1.heap.objs.size + 1, s1.heap.objs.size], s1.heap.objs.size ≤ b := fun b hb => by
      rcases (by simpa using hb : b = s1.heap.objs.size + 1 ∨ b = s1.heap.objs.size) with z | z
      · rw [z]; exact Nat.le_add_right _ _
      · rw [z]; exact Nat.le_refl _
    rcases q1 with ⟨hq, q⟩ | ⟨hq, q⟩
    · obtain ⟨us, rv, p', _⟩ := I1.list hq
      have al : a < s1.heap.objs.size := by obtain ⟨_, y, _⟩ := p'.isList; exact Heap.lt_size y
      refine call_enumerate_list p'.isList fun h' he hit hsz hk => wpAny_pyIter_enum he ?_
      exact ⟨s1.heap.objs.size + 1, [s1.heap.objs.size + 1, s1.heap.objs.size], _, _, H1, rfl, I1.kept (t' := s1.toks) hk, turn_enumZ a (s1.heap.objs.size + 1) s1.heap.objs.size, ⟨⟨.none, he⟩, hit, Nat.succ_ne_self _, Nat.ne_of_lt al, Nat.ne_of_lt (Nat.lt_succ_of_lt al)⟩, fun b hb => I1.fpOk (ge b hb) (I1.hok.fresh (ge b hb)), q⟩
    · obtain ⟨us, rv, p', _⟩ := I1.tuple hq
      have al : a < s1.heap.objs.size := by obtain ⟨_, y, _⟩ := p'; exact Heap.lt_size y
      refine call_enumT p' fun h' he hit hk => wpAny_pyIter_enum he ?_
      exact ⟨s1.heap.objs.size + 1, [s1.heap.objs.size + 1, s1.heap.objs.size], _, _, H1, rfl, I1.kept (t' := s1.toks) hk, turn_enumT a (s1.heap.objs.size + 1) s1.heap.objs.size, ⟨⟨.none, he⟩, hit, Nat.succ_ne_self _, Nat.ne_of_lt al, Nat.ne_of_lt (Nat.lt_succ_of_lt al)⟩, fun b hb => I1.fpOk (ge b hb) (I1.hok.fresh (ge b hb)), q⟩
theorem walk_enumT {K : PySem.W.Frag} {a : Addr} {xs : List V} : Walk (IteT K a) xs.length (fun H => SqT K H a xs) (fun i H x H' => ∃ T y, x = .ref T ∧ H T = none ∧ (∃ us, H' = upd H T (.frz (tupO us) (.tup [.int (i : Nat), y]))) ∧ xs[i]? = some y) :=
  ⟨fun i _ hi q => ⟨xs, xs[i], q, by simp [hi]⟩, fun _ q => ⟨xs, q, Nat.le_refl _⟩, fun i H v H' _ q ⟨T, x, h1, h2, h3, h4⟩ => ⟨T, x, h1, h2, h3, h4 xs q⟩⟩
theorem walk_enumL {K : PySem.W.Frag} {a : Addr} {xs : List V} : Walk (IteL K a) xs.length (fun H => SqL K H a xs) (fun i H x H' => ∃ T y, x = .ref T ∧ H T = none ∧ (∃ us, H' = upd H T (.frz (tupO us) (.tup [.int (i : Nat), y]))) ∧ xs[i]? = some y) :=
  ⟨fun i _ hi q => ⟨xs, xs[i], q, by simp [hi]⟩, fun _ q => ⟨xs, q, Nat.le_refl _⟩, fun i H v H' _ q ⟨T, x, h1, h2, h3, h4⟩ => ⟨T, x, h1, h2, h3, h4 xs q⟩⟩
def enumD : Nat → List D → List D
  | _, [] => []
  | n, d :: l => .tup [.int n, d] :: enumD (n + 1) l
theorem enumD_len : ∀ {l : List D} {n : Nat}, (enumD n l).length = l.length
  | [], _ => rfl
  | d :: l, n => by unfold enumD; rw [List.length_cons, List.length_cons, enumD_len]
theorem enumD_get : ∀ {l : List D} {n i : Nat} {d : D}, (enumD n l)[i]? = some d → ∃ e, l[i]? = some e ∧ d = .tup [.int ((n + i : Nat) : Int), e]
  | [], n, i, d, h => by simp [enumD] at h
  | e :: l, n, 0, d, h => by simp [enumD] at h; exact ⟨e, rfl, h.symm⟩
  | e :: l, n, i + 1, d, h => by
    simp only [enumD, List.getElem?_cons_succ] at h
    obtain ⟨e', q1, q2⟩ := enumD_get h
    exact ⟨e', by simpa using q1, by rw [q2]; congr 3; omega⟩
section
variable {X : Cx} {G : Ctx} {W : WX} {tg e : Expr} {p pos tpos : Pos} {elts : List Expr} {kk : Nat}
theorem enum_yields {K : PySem.W.Frag} {F : Hp} {l : List D} {vs : List V} (r : RepL K G F l vs) {i : Nat} {d : D} {F' H : Hp} {x : V} {H' : Hp} (hd : (enumD 0 l)[i]? = some d) (l1 : Le F F') (l2 : Le F' H) (y : ∃ T z, x = .ref T ∧ H T = none ∧ (∃ us, H' = upd H T (.frz (tupO us) (.tup [.int (i : Nat), z]))) ∧ vs[i]? = some z) : ∃ F2, Ext F' H F2 H' ∧ Rep K G F2 d x := by
  obtain ⟨e, h1, rfl⟩ := enumD_get hd
  obtain ⟨T, z, rfl, h2, ⟨us, rfl⟩, h3⟩ := y
  obtain ⟨v, h4, rv⟩ := RepL.getD r h1
  rw [h3] at h4
  cases h4
  have x := (Ext.refl l2).new (o := HO.frz (tupO us) (.tup [.int (i : Nat), z])) h2
  exact ⟨_, x, Rep.tup.mpr ⟨T, _, rfl, .inl ⟨_, upd_same, rfl⟩, RepL.cons.mpr ⟨_, _, rfl, Rep.int.mpr (by rw [Nat.zero_add]), RepL.one ((rv.mono l1).mono x.f)⟩⟩⟩
abbrev sEnum (fa : Env → R (List D)) : Env → R (List D) := fun ρ => (fa ρ).bind fun l => match l with
  | [.tup l] => .ok (enumD 0 l)
  | [.lst l] => .ok (enumD 0 l)
  | _ => .no
theorem dj_enum {fa : Env → R (List D)} (hg : Gl X "enumerate") (hm : X.mg "enumerate" = none) (ha : DA X G W [e] fa) (hs : starEach [e] X.env = [(false, eval e X.env)] := by rfl) : DJ X G W (.Tuple elts kk tpos) (.Call (.Name "enumerate" p) [e] [] pos) (sEnum fa) :=
  PI.imp (pi_enumA hg hm ha hs) fun σ H Q ⟨F, ρ, le, re, p⟩ => useJA le re p fun l vs H1 F1 _ e1 r1 re1 p1 => by
    match l, p1 with
    | [.tup l], p1 =>
      obtain ⟨v, rfl, rv⟩ := r1.one_inv
      obtain ⟨a, ws, rfl, q, rl⟩ := Rep.tup.mp rv
      refine ⟨a, ws, rfl, .inr ⟨e1.fh.sqt q, p1 _ F1 H1 (.refl e1.fh) ⟨_, _, by rw [enumD_len, ← rl.length]; exact walk_enumT, fun H h => h.sqt q, fun i d F' H x H' hd l1 l2 y => enum_yields rl hd l1 l2 y⟩⟩⟩
    | [.lst l], p1 =>
      obtain ⟨v, rfl, rv⟩ := r1.one_inv
      obtain ⟨a, ws, rfl, q, rl⟩ := Rep.lst.mp rv
      refine ⟨a, ws, rfl, .inl ⟨SqL.of (e1.fh _ _ q), p1 _ F1 H1 (.refl e1.fh) ⟨_, _, by rw [enumD_len, ← rl.length]; exact walk_enumL, fun H h => SqL.of (h _ _ q), fun i d F' H x H' hd l1 l2 y => enum_yields rl hd l1 l2 y⟩⟩⟩
/-! ### zip of two tuples: the pairs known -/
def IzT (K : PySem.W.Frag) (a b : Addr) : It :=
  ⟨fun i H => ∃ (xs ys : List V) (x y : V), SqT K H a xs ∧ SqT K H b ys ∧ xs[i]? = some x ∧ ys[i]? = some y,
    fun i H v H' => ∃ T x y, v = .ref T ∧ H T = none ∧ (∃ us, H' = upd H T (.frz (tupO us) (.tup [x, y]))) ∧ (∀ xs, SqT K H a xs → xs[i]? = some x) ∧ ∀ ys, SqT K H b ys → ys[i]? = some y,
    fun i H => ∃ xs ys : List V, SqT K H a xs ∧ SqT K H b ys ∧ (xs.length ≤ i ∨ ys.length ≤ i)⟩
theorem turn_zipZ {P : Program} {w : World} {K : PySem.W.Frag} {elts : List Expr} {kk : Nat} {tpos : Pos} {a b z TI TO i1 i2 : Addr} (D : ZipApart z TI TO i1 i2 a b) :
    Turn P w K (.Tuple elts kk tpos) (IzT K a b) [z, TI, TO, i1, i2] z (fun i h => IsZip h z TI TO .none ∧ IsPair h TI (.ref i1) (.ref i2) ∧ (∃ x y, IsPair h TO x y) ∧ h.IsTupleIter i1 a i ∧ h.IsTupleIter i2 b i) := by
  have T0 := RZ.turn_zipT (P := P) (w := w) (K := K) (elts := elts) (kk := kk) (tpos := tpos) D
  refine ⟨T0.mem, T0.obj, T0.keep, ?_, T0.done, T0.self⟩
  intro X hP hw hK hc i pins s σ H E I hf st hg
  subst hP hw hK
  have lt : ∀ c ∈ [z, TI, TO, i1, i2], c < s.heap.objs.size := fun c hm => let ⟨_, y, _⟩ := T0.obj i s.heap st c hm; Heap.lt_size y
  obtain ⟨hz, hTI, ⟨x0, y0, hTO⟩, h1, h2⟩ := st
  obtain ⟨xs, ys, x, y, hqx, hqy, hx, hy⟩ := hg
  obtain ⟨us, rv, p, _⟩ := I.tuple hqx
  obtain ⟨ws, rv2, p2, _⟩ := I.tuple hqy
  obtain ⟨u, hu, ru⟩ := rv.get hx
  obtain ⟨u2, hu2, ru2⟩ := rv2.get hy
  have hzl := lt z (by simp)
  refine RZ.pyNext_zipT_item D hz hTI hTO h1 h2 p p2 (x := u) (y := u2) (by simpa using hu) (by simpa using hu2) fun h' z' TO' h1' h2' hT hsz hk => ?_
  refine ⟨_, rfl, wpAny_letOwnedTupleGo_zip (s := { s with heap := h' }) z' fun hh z2 sb => ?_⟩
  have hT2 : hh.get? s.heap.objs.size = some (tupO [u, u2]) := (sb.2 _ (Nat.ne_of_gt hzl)).trans hT
  have I1 : Inv X pins σ (upd H s.heap.objs.size (.frz (tupO [u, u2]) (.tup [x, y]))) { s with heap := hh } :=
    I.turnedNew (t' := s.toks) (ch := [z, TI, TO, i1, i2]) (fun c o hb q => (sb.2 c (fun n => hb (by simp [n]))).trans (hk c o (fun n => hb (by simp [n])) (fun n => hb (by simp [n])) (fun n => hb (by simp [n])) (fun n => hb (by simp [n])) q)) hf (Nat.le_refl _)
      (frz_new (.cons ru (.cons ru2 .nil)) (by show 2 ≤ sizeLine; decide) hT2)
  refine ⟨.ref s.heap.objs.size, _, I1, rfl, ⟨_, x, y, rfl, I.hok.fresh (Nat.le_refl _), ⟨_, rfl⟩, fun l hl => by rw [I.tuple_inj hl hqx]; exact hx, fun l hl => by rw [I.tuple_inj hl hqy]; exact hy⟩, ⟨z2, ?_, ⟨u, u2, ?_⟩, ?_, ?_⟩, fun c hcm => ?_⟩
  · exact (sb.2 _ D.TIz).trans (hk _ _ D.TIz D.TITO D.TIi1 D.TIi2 hTI)
  · exact (sb.2 _ D.TOz).trans TO'
  · exact h1'.at fun o q => (sb.2 _ D.i1z).trans q
  · exact h2'.at fun o q => (sb.2 _ D.i2z).trans q
  · rw [upd_ne (Nat.ne_of_lt (lt c hcm))]
    exact (hf c hcm).1
def iZipZ (K : PySem.W.Frag) (ta : TA) : TI := fun σ H R => ta σ H fun vs H1 => ∃ a b xs ys, vs = [.ref a, .ref b] ∧ SqT K H1 a xs ∧ SqT K H1 b ys ∧ R (IzT K a b) H1
theorem pi_zipZ {X : Cx} {e e2 : Expr} {ta : TA} {p pos tpos : Pos} {elts : List Expr} {kk : Nat} (hg : Gl X "zip") (hm : X.mg "zip" = none) (ha : PA X [e, e2] ta)
    (hs : starEach [e, e2] X.env = (false, eval e X.env) :: starEach [e2] X.env := by rfl) (hpl : (backTo pos (starEach [e2] X.env)).any (·.1) = false := by rfl) :
    PI X (.Tuple elts kk tpos) (.Call (.Name "zip" p) [e, e2] [] pos) (iZipZ X.K ta) := by
  refine ⟨fun pins s σ H R I h => ?_⟩
  refine Call_ (ld_blt I hg hm PyProof.Rows.boot_zip (PyProof.Rows.callWith_type1 (thn (ha.run pos pins s σ H _ I h) fun us s1 ⟨vs, H1, I1, r1, a, b, xs, ys, ex, hqx, hqy, q⟩ => ?_) hs hpl))
  subst ex
  have n0 := Nat.le_refl s1.heap.objs.size
  have ge : ∀ c, c ∈ [s1.heap.objs.size + 4, s1.heap.objs.size + 2, s1.heap.objs.size + 3, s1.heap.objs.size, s1.heap.objs.size + 1] → s1.heap.objs.size ≤ c := fun c hm => by
    simp only [List.mem_cons, List.not_mem_nil, or_false] at hm
    omega
  cases r1 with
  | cons ra rr =>
    cases rr with
    | cons rb rr =>
      cases rr
      cases ra
      cases rb
      obtain ⟨us, rv, p1, _⟩ := I1.tuple hqx
      obtain ⟨ws, rv2, p2, _⟩ := I1.tuple hqy
      refine RZ.call_zipT (show s1.heap.IsTuple a us.toArray from p1) (show s1.heap.IsTuple b ws.toArray from p2) fun h' hz hTI hTO h1 h2 hsz hk => wpAny_pyIter_zip hz ?_
      exact ⟨_, _, _, _, H1, rfl, I1.kept (t' := s1.toks) hk, turn_zipZ (PySem.W.ktu_apart s1.heap.objs.size a b p1.lt p2.lt), ⟨hz, hTI, ⟨_, _, hTO⟩, h1, h2⟩, fun c hm => I1.fpOk (ge c hm) (I1.hok.fresh (ge c hm)), q⟩
/-! ### zip of two tuples, of two lists -/
def zipD : List D → List D → List D
  | d :: l, e :: m => .tup [d, e] :: zipD l m
  | _, _ => []
theorem zipD_len : ∀ {l m : List D}, (zipD l m).length = min l.length m.length
  | [], m => by simp [zipD]
  | d :: l, [] => by simp [zipD]
  | d :: l, e :: m => by simp only [zipD, List.length_cons, zipD_len]; omega
theorem zipD_get : ∀ {l m : List D} {i : Nat} {d : D}, (zipD l m)[i]? = some d → ∃ e f, l[i]? = some e ∧ m[i]? = some f ∧ d = .tup [e, f]
  | [], m, i, d, h => by simp [zipD] at h
  | d :: l, [], i, d', h => by simp [zipD] at h
  | d :: l, e :: m, 0, d', h => by simp [zipD] at h; exact ⟨d, e, rfl, rfl, h.symm⟩
  | d :: l, e :: m, i + 1, d', h => by
    simp only [zipD, List.getElem?_cons_succ] at h
    obtain ⟨a, b, q1, q2, q3⟩ := zipD_get h
    exact ⟨a, b, by simpa using q1, by simpa using q2, q3⟩
abbrev YZip (xs ys : List V) : Nat → Hp → V → Hp → Prop := fun i H x H' => ∃ T y z, x = .ref T ∧ H T = none ∧ (∃ us, H' = upd H T (.frz (tupO us) (.tup [y, z]))) ∧ xs[i]? = some y ∧ ys[i]? = some z
theorem walk_zipT {K : PySem.W.Frag} {a b : Addr} {xs ys : List V} : Walk (IzT K a b) (min xs.length ys.length) (fun H => SqT K H a xs ∧ SqT K H b ys) (YZip xs ys) := by
  refine ⟨fun i _ hi q => ?_, fun _ q => ⟨xs, ys, q.1, q.2, by omega⟩, fun i H v H' _ q ⟨T, x, y, h1, h2, h3, h4, h5⟩ => ⟨T, x, y, h1, h2, h3, h4 xs q.1, h5 ys q.2⟩⟩
  have h1 : i < xs.length := by omega
  have h2 : i < ys.length := by omega
  exact ⟨xs, ys, xs[i], ys[i], q.1, q.2, by simp [h1], by simp [h2]⟩
theorem zip_yields {K : PySem.W.Frag} {F : Hp} {l m : List D} {vs ws : List V} (r : RepL K G F l vs) (r' : RepL K G F m ws) {i : Nat} {d : D} {F' H : Hp} {x : V} {H' : Hp} (hd : (zipD l m)[i]? = some d) (l1 : Le F F') (l2 : Le F' H) (y : YZip vs ws i H x H') : ∃ F2, Ext F' H F2 H' ∧ Rep K G F2 d x := by
  obtain ⟨e, f, h1, h1', rfl⟩ := zipD_get hd
  obtain ⟨T, y, z, rfl, h2, ⟨us, rfl⟩, h3, h3'⟩ := y
  obtain ⟨v, h4, rv⟩ := RepL.getD r h1
  obtain ⟨v', h4', rv'⟩ := RepL.getD r' h1'
  rw [h3] at h4
  cases h4
  rw [h3'] at h4'
  cases h4'
  have x := (Ext.refl l2).new (o := HO.frz (tupO us) (.tup [y, z])) h2
  exact ⟨_, x, Rep.tup.mpr ⟨T, _, rfl, .inl ⟨_, upd_same, rfl⟩, RepL.cons.mpr ⟨_, _, rfl, (rv.mono l1).mono x.f, RepL.one ((rv'.mono l1).mono x.f)⟩⟩⟩
abbrev sZip (fa : Env → R (List D)) : Env → R (List D) := fun ρ => (fa ρ).bind fun l => match l with
  | [.tup l, .tup m] => .ok (zipD l m)
  | _ => .no
theorem dj_zip {e2 : Expr} {fa : Env → R (List D)} (hg : Gl X "zip") (hm : X.mg "zip" = none) (ha : DA X G W [e, e2] fa) (hs : starEach [e, e2] X.env = (false, eval e X.env) :: starEach [e2] X.env := by rfl) (hpl : (backTo pos (starEach [e2] X.env)).any (·.1) = false := by rfl) : DJ X G W (.Tuple elts kk tpos) (.Call (.Name "zip" p) [e, e2] [] pos) (sZip fa) :=
  PI.imp (pi_zipZ hg hm ha hs hpl) fun σ H Q ⟨F, ρ, le, re, p⟩ => useJA le re p fun l vs H1 F1 _ e1 r1 re1 p1 => by
    match l, p1 with
    | [.tup l, .tup m], p1 =>
      obtain ⟨v, v', rfl, rv, rv'⟩ := r1.two_inv
      obtain ⟨a, ws, rfl, q, rl⟩ := Rep.tup.mp rv
      obtain ⟨b, us, rfl, q', rl'⟩ := Rep.tup.mp rv'
      exact ⟨a, b, ws, us, rfl, e1.fh.sqt q, e1.fh.sqt q', p1 _ F1 H1 (.refl e1.fh) ⟨_, _, by rw [zipD_len, ← rl.length, ← rl'.length]; exact walk_zipT, fun H h => And.intro (Le.sqt h q) (Le.sqt h q'), fun i d F' H x H' hd l1 l2 y => zip_yields rl rl' hd l1 l2 y⟩⟩
end
end O

end

section
set_option Elab.async false
set_option linter.all false
set_option maxRecDepth 100000
set_option maxHeartbeats 2000000
namespace O
open PySem PySem.Spec PyProof.Rows L2

section
variable {X : Cx} {G : Ctx} {W : WX} {a b c e : Expr} {es : List Expr} {fa fb fc : Env → RS} {pos : Pos}
/-! ### a op b op' c -/
abbrev sChain (g g' : D → D → Option S) (fa fb fc : Env → RS) : Env → RS := fun ρ => (fa ρ).bind fun x => (fb ρ).bind fun y => match g x.d y.d with
  | some (.fz (.bl true)) => (fc ρ).bind fun z => match g' y.d z.d with | some s => .ok s | none => .no
  | some (.fz (.bl false)) => .ok (.fz (.bl false))
  | _ => .no
theorem chain_use {K : PySem.W.Frag} {g g' : D → D → Option S} {σ : L2.St} {H : Hp} {Q : VK} (h : tE K G W (sChain g g' fa fb fc) σ H Q) : tChain (rD K G g) (rD K G g') (tE K G W fa) (tE K G W fb) (tE K G W fc) σ H Q := by
  obtain ⟨F, ρ, le, re, p⟩ := h
  refine use le re p fun x v H1 F1 _ e1 r1 re1 p1 => use e1.fh re1 p1 fun y u H2 F2 _ e2 r2 re2 p2 => ?_
  cases hg : g x.d y.d with
  | none => rw [hg] at p2; exact p2.elim
  | some s =>
    rw [hg] at p2
    refine ⟨F2, x.d, y.d, s, e2.fh, r1.mono e2.f, r2, hg, fun z H3 F3 e3 r3 => ?_⟩
    cases s with
    | ow l => exact p2.elim
    | tr k t => exact p2.elim
    | fz d =>
      cases d with
      | bl k =>
        refine ⟨k, Rep.bl.mp (show Rep K G F3 (.bl k) z from r3), ?_⟩
        cases k with
        | false => exact (PostS.ext p2 e3).done (.refl e3.fh) (show Rep K G F3 (.bl false) _ from Rep.bl.mpr rfl)
        | true =>
          rw [if_pos rfl]
          refine use e3.fh (re2.mono e3.f) (PostS.ext p2 e3) fun w t H4 F4 _ e4 r4 re4 p4 => ?_
          cases hg' : g' y.d w.d with
          | none => rw [hg'] at p4; exact p4.elim
          | some s => rw [hg'] at p4; exact ⟨F4, y.d, w.d, s, e4.fh, r2.mono (e3.f.trans e4.f), r4, hg', p4⟩
      | _ => exact p2.elim
theorem de_chain {op op' : CmpOp} {g g' : D → D → Option S} (ho : OpR X (compareOp op) (rD X.K G g)) (ho' : OpR X (compareOp op') (rD X.K G g')) (ha : DE X G W a fa) (hb : DE X G W b fb) (hc : DE X G W c fc) (hm : lastMarks [op, op'] [b, c] = false := by with_unfolding_all rfl) :
    DE X G W (.Compare a [op, op'] [b, c] pos) (sChain g g' fa fb fc) := PE.imp (pe_chain ho ho' ha hb hc hm) fun _ _ _ h => chain_use h
theorem dt_chain {op op' : CmpOp} {g g' : D → D → Option S} (ho : OpR X (compareOp op) (rD X.K G g)) (ho' : OpR X (compareOp op') (rD X.K G g')) (ha : DE X G W a fa) (hb : DE X G W b fb) (hc : DE X G W c fc) (hm : lastMarks [op, op'] [b, c] = false := by with_unfolding_all rfl) :
    DT X G W (.Compare a [op, op'] [b, c] pos) (sBool (sChain g g' fa fb fc)) := PT.imp (pt_chain ho ho' ha hb hc hm) fun σ H Q h => chain_use (tst_use' h)
where tst_use' {K : PySem.W.Frag} {fa : Env → RS} {σ : L2.St} {H : Hp} {Q : Bool → Hp → Prop} (h : tT K G W (sBool fa) σ H Q) : tE K G W fa σ H fun x H' => ∃ k, x = .bl k ∧ Q k H' := tst_use h
/-! ### not e as a value -/
abbrev sNotT (fa : Env → RS) : Env → RS := fun ρ => (fa ρ).bind fun s => match truD s.d with | some k => .ok (.fz (.bl (!k))) | none => .no
theorem de_notT (ha : DE X G W a fa) : DE X G W (.UnaryOp .Not a pos) (sNotT fa) :=
  PE.imp (pe_notT ha) fun σ H Q ⟨F, ρ, le, re, p⟩ => use le re p fun s v H1 F1 _ e1 r1 re1 p1 => by
    cases hk : truD s.d with
    | none => rw [hk] at p1; exact p1.elim
    | some k =>
      rw [hk] at p1
      exact ⟨k, truD_ok r1 e1.fh hk, p1.done (.refl e1.fh) RepS.bl⟩
/-! ### methods of tuples -/
theorem xt_is {pins : List (Addr × Obj)} {σ : L2.St} {H : Hp} {s : Shared} {p : Addr} {xs : List V} (I : Inv X pins σ H s) (h : XT X.K H p xs) : s.TypeIs (.ref p) "tuple" ∧ ∀ q, Value.ref p = .ref q → ∃ ob, s.heap.get? q = some ob ∧ ob.dict = none := by
  rcases h with ⟨o, h, d⟩ | ⟨o, its, n, h1, h2, h3, h4, h5, d⟩
  · obtain ⟨q1, _, us, _, ⟨o', q2, q3, _⟩⟩ := I.hok p _ h
    rw [q1] at q2
    cases q2
    exact ⟨⟨o, q1, q3⟩, fun q z => by cases z; exact ⟨o, q1, d⟩⟩
  · have q1 := I.kIn p o h1
    exact ⟨⟨o, q1, h2⟩, fun q z => by cases z; exact ⟨o, q1, d⟩⟩
/-- o.m(..), o a list or a tuple -/
def tLTM (K : PySem.W.Frag) (rl rt : V → List V → Hp → VK → Prop) (to : TE) (t : TA) : TE := fun σ H Q => to σ H fun x H1 => ((∃ p xs, x = .ref p ∧ XT K H1 p xs) ∧ t σ H1 fun xs H2 => rt x xs H2 Q) ∨ ((∃ p xs, x = .ref p ∧ SqL K H1 p xs) ∧ t σ H1 fun xs H2 => rl x xs H2 Q)
theorem pe_ltm {o : Expr} {name : Str} {il it : String} {rl rt : V → List V → Hp → VK → Prop} {to : TE} {t : TA} {apos cpos : Pos} (sl : Slot "list" name il) (st : Slot "tuple" name it) (hl : typeOf (.builtin il) = pure (.type "method_descriptor")) (ht : typeOf (.builtin it) = pure (.type "method_descriptor"))
    (ml : MtR X il rl) (mt : MtR X it rt) (ho : PE X o to) (ha : PA X (e :: es) t)
    (hbase : attributeBase o name X.env (eval o X.env) = eval o X.env := by rfl)
    (hfew : ((backTo cpos (starEach (e :: es) X.env)).all (fun x => !x.1) && (backToKw cpos (keywordEach [] X.env)).all (fun x => x.1.isSome)
      && decide ((e :: es).length + ([] : List Keyword).length + (if ([] : List Keyword).isEmpty then 0 else 1) < 30)) = true := by rfl)
    (hline : (apos.endLine == cpos.line) = true := by rfl) (hs : starEach (e :: es) X.env = (false, eval e X.env) :: starEach es X.env := by rfl) (hplain : (backTo cpos (starEach es X.env)).any (·.1) = false := by rfl) :
    PE X (.Call (.Attribute o name apos) (e :: es) [] cpos) (tLTM X.K rl rt to t) := by
  refine ⟨fun pins s σ H Q I h => wpAny_Call_method_late hbase hfew hline rfl (thn (ho.run pins s σ H _ I h) fun v s1 ⟨x, H1, I1, r1, q1⟩ => ?_)⟩
  have hp : (false || (backTo cpos (starEach es X.env)).any (·.1)) = false := by rw [hplain] <;> rfl
  rcases q1 with ⟨⟨p, xs, ex, xt⟩, q1⟩ | ⟨⟨p, xs, ex, xt⟩, q1⟩
  · subst ex
    have r1' := r1
    obtain rfl : v = Value.ref p := r1
    obtain ⟨h1, h2⟩ := xt_is I1 xt
    refine ⟨"tuple", it, PySem.F.plainAttrs_tuple, st, ht, h1, h2, ?_⟩
    have z := ha.run cpos pins s1 σ H1 _ I1 q1
    rw [hs] at z ⊢
    exact Calls.callWith_builtin hp (Calls.evalArgs_plain (thn z fun us s2 ⟨vs, H2, I2, r2, q2⟩ => mt pins s2 σ H2 _ vs _ us Q I2 r1' r2 q2))
  · subst ex
    have r1' := r1
    obtain rfl : v = Value.ref p := r1
    obtain ⟨h1, h2⟩ := tyV_is (T := "list") I1 r1' (.inl ⟨rfl, xs, xt⟩)
    refine ⟨"list", il, PySem.F.plainAttrs_list, sl, hl, h1, h2, ?_⟩
    have z := ha.run cpos pins s1 σ H1 _ I1 q1
    rw [hs] at z ⊢
    exact Calls.callWith_builtin hp (Calls.evalArgs_plain (thn z fun us s2 ⟨vs, H2, I2, r2, q2⟩ => ml pins s2 σ H2 _ vs _ us Q I2 r1' r2 q2))
/-! ### x.count(k) of ints -/
def intsD : List D → Option (List Int)
  | [] => some []
  | .int i :: l => (intsD l).map (i :: ·)
  | _ :: _ => none
theorem intsD_rep {K : PySem.W.Frag} {F : Hp} : ∀ {l : List D} {ns : List Int} {vs : List V}, intsD l = some ns → RepL K G F l vs → vs = ns.map V.int
  | [], ns, vs, h, r => by cases h; exact RepL.nil.mp r
  | .int i :: l, ns, vs, h, r => by
    obtain ⟨m, h1, rfl⟩ := Option.map_eq_some_iff.mp (show (intsD l).map (i :: ·) = some ns from h)
    obtain ⟨v, r', rfl, q1, q2⟩ := RepL.cons.mp r
    rw [Rep.int.mp q1, intsD_rep h1 q2]
    rfl
  | .non :: _, _, _, h, _ => by cases h
  | .bl _ :: _, _, _, h, _ => by cases h
  | .str _ :: _, _, _, h, _ => by cases h
  | .tup _ :: _, _, _, h, _ => by cases h
  | .lst _ :: _, _, _, h, _ => by cases h
  | .dct _ :: _, _, _, h, _ => by cases h
  | .obj _ _ :: _, _, _, h, _ => by cases h
  | .scr _ :: _, _, _, h, _ => by cases h
  | .xo :: _, _, _, h, _ => by cases h
theorem intsD_map : ∀ (l : List Int), intsD (l.map D.int) = some l
  | [] => rfl
  | i :: l => by show (intsD (l.map D.int)).map (i :: ·) = _; rw [intsD_map l]; rfl
def rCntT (K : PySem.W.Frag) : V → List V → Hp → VK → Prop := fun x xs H Q => ∃ (p : Addr) (ns : List Int) (k : Int), x = .ref p ∧ xs = [.int k] ∧ SqT K H p (ns.map V.int) ∧ Q (.int (ns.count k : Nat)) H
theorem mt_tcount : MtR X "tuple.count" (rCntT X.K) := by
  rintro pins s σ H x xs v us Q I rx rxs ⟨p, ns, k, rfl, rfl, hs, q⟩
  cases rx
  obtain ⟨u, rfl, t, rfl⟩ := rxs.one
  obtain ⟨ws, rv, ⟨⟨cls, dd, data, sl⟩, ho, hc, n, hd⟩, _⟩ := I.tuple hs
  simp only at hc hd
  subst hc hd
  have hi := ints_of_vals rv
  refine call_meets PySem.F.slot_tuple_count ⟨_, ho, rfl⟩ PySem.F.entry_tuple_count (PySem.F.args_tuple_count_2 _ _) (SeqAt.tuple_countAt p ws.toArray n dd sl (.int k t) (eqk k)) ⟨ho, fun y hy => (eqk_gives hi y (by simpa using hy)).at _ _, ?_⟩
  refine ⟨.int (ns.count k : Nat), H, I.tok _, ⟨s.toks, ?_⟩, q⟩
  rw [show ws.toArray.toList.countP (eqk k) = ns.count k from eqk_count hi]
def seqI : D → Option (List Int)
  | .tup l => intsD l
  | .lst l => intsD l
  | _ => none
abbrev sCount (fo fk : Env → RS) : Env → RS := fun ρ => (fo ρ).bind fun o => match seqI o.d with
  | some ns => (fk ρ).bind fun k => (match k.d with | .int k => .ok (.fz (.int (ns.count k : Nat))) | _ => .no)
  | none => .no
theorem de_count {o : Expr} {fo fk : Env → RS} {apos cpos : Pos} (ho : DE X G W o fo) (he : DE X G W e fk)
    (hbase : attributeBase o "count" X.env (eval o X.env) = eval o X.env := by rfl)
    (hfew : ((backTo cpos (starEach [e] X.env)).all (fun x => !x.1) && (backToKw cpos (keywordEach [] X.env)).all (fun x => x.1.isSome)
      && decide ([e].length + ([] : List Keyword).length + (if ([] : List Keyword).isEmpty then 0 else 1) < 30)) = true := by rfl)
    (hline : (apos.endLine == cpos.line) = true := by rfl) (hs : starEach [e] X.env = (false, eval e X.env) :: starEach [] X.env := by rfl) (hplain : (backTo cpos (starEach [] X.env)).any (·.1) = false := by rfl) :
    DE X G W (.Call (.Attribute o "count" apos) [e] [] cpos) (sCount fo fk) :=
  PE.imp (pe_ltm PySem.F.slot_list_count PySem.F.slot_tuple_count PySem.F.type_list_count PySem.F.type_tuple_count mt_lcount mt_tcount ho (pa_cons he pa_nil hs) hbase hfew hline hs hplain) fun σ H Q ⟨F, ρ, le, re, p⟩ => use le re p fun x v H1 F1 hx e1 r1 re1 p1 => by
    cases hn : seqI x.d with
    | none => rw [hn] at p1; exact p1.elim
    | some ns =>
      rw [hn] at p1
      cases hd : x.d with
      | tup l =>
        rw [hd] at r1 hn
        obtain ⟨a, vs, rfl, q, rl⟩ := Rep.tup.mp r1
        have ev := intsD_rep hn rl
        subst ev
        refine .inl ⟨⟨a, _, rfl, e1.fh.xt q⟩, use e1.fh re1 p1 fun y u H2 F2 hy e2 r2 re2 p2 => ?_⟩
        cases hk : y.d with
        | int k =>
          rw [hk] at p2 r2
          exact ⟨a, ns, k, rfl, by rw [Rep.int.mp r2], (e1.fh.trans e2.h).sqt q, p2.done (.refl e2.fh) RepS.int⟩
        | _ => rw [hk] at p2; exact p2.elim
      | lst l =>
        rw [hd] at r1 hn
        obtain ⟨a, vs, rfl, q, rl⟩ := Rep.lst.mp r1
        have ev := intsD_rep hn rl
        subst ev
        refine .inr ⟨⟨a, _, rfl, .of (e1.fh _ _ q)⟩, use e1.fh re1 p1 fun y u H2 F2 hy e2 r2 re2 p2 => ?_⟩
        cases hk : y.d with
        | int k =>
          rw [hk] at p2 r2
          exact ⟨a, ns, k, rfl, by rw [Rep.int.mp r2], .of (e2.h _ _ (e1.fh _ _ q)), p2.done (.refl e2.fh) RepS.int⟩
        | _ => rw [hk] at p2; exact p2.elim
      | _ => rw [hd] at hn; cases hn
/-! ### a dict of constants; d.get(k, x) -/
def getK (kvs : List (Key × D)) (k : Key) : Option D := (kvs.find? fun kv => decide (kv.1 = k)).map (·.2)
theorem getK_rep {K : PySem.W.Frag} {F : Hp} {k : Key} : ∀ {kvs : List (Key × D)} {vs : List (Key × V)}, RepK K G F kvs vs → (getK kvs k = none ∧ valV vs k = none) ∨ ∃ d v, getK kvs k = some d ∧ valV vs k = some v ∧ Rep K G F d v
  | [], vs, r => by
    unfold RepK at r
    subst r
    exact .inl ⟨rfl, rfl⟩
  | p :: l, vs, r => by
    unfold RepK at r
    obtain ⟨v, r', rfl, h1, h2⟩ := r
    by_cases h : p.1 = k
    · exact .inr ⟨p.2, v, by simp [getK, List.find?_cons, h], by simp [valV, List.find?_cons, h], h1⟩
    · rcases getK_rep (k := k) h2 with ⟨q1, q2⟩ | ⟨d, u, q1, q2, q3⟩
      · exact .inl ⟨by simpa [getK, List.find?_cons, h] using q1, by simpa [valV, List.find?_cons, h] using q2⟩
      · exact .inr ⟨d, u, by simpa [getK, List.find?_cons, h] using q1, by simpa [valV, List.find?_cons, h] using q2, q3⟩
theorem pairs_c {σ : L2.St} {H : Hp} {Q : List (V × V) → Hp → Prop} : ∀ {vs : List (Key × V)}, Q (vs.map fun kv => (kV kv.1, kv.2)) H → tPairs (vs.map fun kv => (tC (kV kv.1), tC kv.2)) σ H Q
  | [], h => h
  | p :: l, h => pairs_c (vs := l) (Q := fun ps H' => Q ((kV p.1, p.2) :: ps) H') h
theorem de_dictC {keys : List (Option Expr)} {values : List Expr} (kvs : List (Key × D)) (vs : List (Key × V)) (hr : ∀ F, RepK X.K G F kvs vs) (h : PPs X pos keys values (vs.map fun kv => (tC (kV kv.1), tC kv.2))) (hm : mergeK [] vs = vs := by rfl) (hall : keys.all (·.isSome) = true := by rfl) (hl : keys.length = values.length := by rfl) (h0 : keys ≠ [] := by simp)
    (h15 : keys.length ≤ 15 := by decide) (hv : vs.length ≤ 15 := by decide) : DE X G W (.Dict keys values pos) (sC (.dct kvs)) :=
  PE.imp (pe_disp h hall hl h0 h15) fun σ H Q ⟨F, ρ, le, re, p⟩ q hq => pairs_c ⟨upd_same, vs, rfl, hv, by
    rw [hm, upd_upd]
    exact p.done ((Ext.refl le).new hq) (show Rep X.K G (upd F q _) (.dct kvs) _ from Rep.dct.mpr ⟨q, vs, rfl, upd_same, hr _⟩)⟩
def keyD : D → Option Key
  | .int i => some (.inl i)
  | .str x => some (.inr x)
  | _ => none
theorem keyD_rep {K : PySem.W.Frag} {F : Hp} {d : D} {k : Key} {v : V} (h : keyD d = some k) (r : Rep K G F d v) : v = kV k := by
  cases d with
  | int i => cases h; exact Rep.int.mp r
  | str i => cases h; exact Rep.str.mp r
  | _ => cases h
abbrev sGet2 (fo fk fx : Env → RS) : Env → RS := fun ρ => (fo ρ).bind fun o => match o.d with
  | .dct kvs => (fk ρ).bind fun k => match keyD k.d with
    | some k => (fx ρ).bind fun x => .ok (.fz ((getK kvs k).getD x.d))
    | none => .no
  | _ => .no
theorem de_get2 {o f : Expr} {fo fk fx : Env → RS} {apos cpos : Pos} {n : Nat} (hu : Room n X.A) (ho : DE X G W o fo) (he : DE X G W e fk) (hf : DE X G W f fx) (m : M2 X o "get" apos e f cpos) : DE X G W (.Call (.Attribute o "get" apos) [e, f] [] cpos) (sGet2 fo fk fx) :=
  PE.imp (pe_dget2 (by have := hu.un; omega) ho he hf m) fun σ H Q ⟨F, ρ, le, re, p⟩ => use le re p fun x v H1 F1 hx e1 r1 re1 p1 => by
    cases hd : x.d with
    | dct kvs =>
      rw [hd] at p1 r1
      obtain ⟨a, vs, rfl, q, rk⟩ := Rep.dct.mp r1
      refine ⟨a, rfl, .inl ⟨vs, .inl (e1.fh _ _ q)⟩, use e1.fh re1 p1 fun y u H2 F2 hy e2 r2 re2 p2 => ?_⟩
      cases hk : keyD y.d with
      | none => rw [hk] at p2; exact p2.elim
      | some k =>
        rw [hk] at p2
        refine use e2.fh re2 p2 fun z t H3 F3 hz e3 r3 re3 p3 => ?_
        have hq : H3 a = some (.dK vs) := e3.h _ _ (e2.h _ _ (e1.fh _ _ q))
        have ek := keyD_rep hk r2
        subst ek
        refine ⟨_, DGet.k hq, ?_⟩
        rcases getK_rep (k := k) rk with ⟨q1, q2⟩ | ⟨d, w, q1, q2, q3⟩
        · rw [q1] at p3
          rw [q2]
          exact p3.done (.refl e3.fh) (show Rep X.K G F3 z.d t from r3)
        · rw [q1] at p3
          rw [q2]
          exact p3.done (.refl e3.fh) (show Rep X.K G F3 d w from q3.mono (e2.f.trans e3.f))
    | _ => rw [hd] at p1; exact p1.elim
end
end O

end

section
set_option Elab.async false
set_option linter.all false
set_option maxRecDepth 100000
set_option maxHeartbeats 2000000
namespace O
open PySem PySem.Spec PyProof.Rows L2

/-! ### def f(a, .., *r) -/
section
variable {P : Program} {w : World} {K : PySem.W.Frag} {mg : Str → Option Value} {base : Heap} {k : Nat} {f : Addr} {name qual : Str} {params : Arguments} {body : List Stmt} {scope : Scope} {dV kV doc pm cdv ct oc : Value} {an od : Option Addr} {osl : Array (Option Value)} {N ps : List Str}
def spS (K : PySem.W.Frag) (G : Ctx) (n : Nat) (sem : List D → RS) : Sp := fun vs H Q E => ∃ F ds, Le F H ∧ RepL K G F ds vs ∧ n ≤ ds.length ∧ ds.length ≤ LIM ∧ PostS K G F H (sem ds) Q E
abbrev runS (m n : Nat) (g : SEnv → Out) (ds : List D) : RS := run m g (ds.take n ++ [.tup (ds.drop n)])
theorem fn_okS {G : Ctx} {pv : Str} {g : SEnv → Out} (lk : K.lookup f = some ⟨oc, od, .func (PySem.W.fnOf name qual params body scope dV kV doc pm an cdv ct), osl⟩) (hcd : PySem.W.codeIn K cdv qual = true) (Sc : FnScope N (ps ++ [pv]) scope) (n m : Nat) (hn : ps.length = n) (hm : N.length = m) (hG : ∀ F, G.m F)
    (hb : ∀ us rest : List Value, us.length = ps.length → bindArgs (PySem.W.fnOf name qual params body scope dV kV doc pm an cdv ct) ⟨us ++ rest, []⟩ = (newTuple rest >>= fun t => pure (ps.zip us ++ [(pv, t)])))
    (hbody : ∀ (A : Around) (outer : List PySem.Env) (s : Shared) (H : Hp) (E : XK) (W : WX), Room k (cxOf (L2.CX P w) P w K mg base N qual scope f cdv A outer s H E).A → Takes (cxOf (L2.CX P w) P w K mg base N qual scope f cdv A outer s H E) W →
      PassesOwn (model P w) (cxOf (L2.CX P w) P w K mg base N qual scope f cdv A outer s H E).A (cxOf (L2.CX P w) P w K mg base N qual scope f cdv A outer s H E).env (cxOf (L2.CX P w) P w K mg base N qual scope f cdv A outer s H E).xe →
      DSs (cxOf (L2.CX P w) P w K mg base N qual scope f cdv A outer s H E) G W body g) :
    FnR P w K mg base (L2.CX P w) (k + 1) f (spS K G n (runS m n g)) := by
  subst hm hn
  intro A outer s H us vs Q E hr e0 r ⟨F0, ds, le, rl, hlen, hlim, p⟩
  have r' := r
  rw [← List.take_append_drop ps.length vs] at r'
  obtain ⟨u1, u2, eu, r1, r2⟩ := StX.vals_split r'
  subst eu
  have hl := rl.length
  have hn : H s.heap.objs.size = none := e0.hok.fresh (Nat.le_refl _)
  have hl1 : u1.length = ps.length := by rw [← r1.length, List.length_take]; omega
  have hz : (vs.drop ps.length).length ≤ sizeLine := by rw [List.length_drop]; exact LIM_le (by omega)
  have hl2 : u2.length ≤ sizeLine := by rw [← r2.length]; exact hz
  refine StX.run_bnd lk hcd Sc hr e0 (G := fun xs H2 => ∃ p us, H p = none ∧ xs = vs.take ps.length ++ [V.ref p] ∧ H2 = upd H p (.frz (tupO us) (.tup (vs.drop ps.length)))) (fun A' Ex Q' h => ?_) fun s2 H2 xs ⟨q, ws, hq, ex, eH⟩ hr' => ?_
  · rw [hb u1 u2 hl1]
    refine wpAny_bind (wpAny_newTuple (wpAny_pure ?_) hl2)
    have new : ObjOk P w (upd H s.heap.objs.size (.frz (tupO u2) (.tup (vs.drop ps.length)))) (s.heap.push (tupO u2)) s.heap.objs.size (.frz (tupO u2) (.tup (vs.drop ps.length))) := frz_new r2 hz (Heap.get?_push_size _ rfl)
    have un := StX.un_laid (fs := frs outer) (s := s) (o := tupO u2) (u := .frz (tupO u2) (.tup (vs.drop ps.length))) hn
    have z := h _ _ (vs.take ps.length ++ [V.ref s.heap.objs.size]) (u1 ++ [Value.ref s.heap.objs.size]) (StX.env0_laid e0 new) un rfl (fun e s' => StX.cxUp outer s H _ _ E e s' un (fun b o q => Heap.get?_push_of_some _ q) rfl) (r1.append (.cons rfl .nil))
      (by rw [List.length_append, List.length_append, List.length_take, Nat.min_eq_left (by omega)] <;> rfl) ⟨_, _, hn, rfl, rfl⟩
    rw [List.zip_append hl1.symm] at z
    exact z
  · subst ex eH
    have x : Ext F0 H (upd F0 q (.frz (tupO ws) (.tup (vs.drop ps.length)))) (upd H q (.frz (tupO ws) (.tup (vs.drop ps.length)))) := (Ext.refl le).new hq
    have rl2 : RepL K G (upd F0 q (.frz (tupO ws) (.tup (vs.drop ps.length)))) (ds.take ps.length ++ [.tup (ds.drop ps.length)]) (vs.take ps.length ++ [V.ref q]) :=
      (RepL.take _ (rl.mono x.f)).append (.one (Rep.tup.mpr ⟨q, _, rfl, .inl ⟨_, upd_same, rfl⟩, RepL.drop _ (rl.mono x.f)⟩))
    have p2 : PostS K G F0 H (runS N.length ps.length g ds) Q E := p
    refine ⟨_, hbody A outer s2 _ E (fun cls d _ H => E cls d H) hr' (takes_of rfl rfl rfl rfl) (passes_of rfl), ?_⟩
    refine ⟨F0, H, _, startS N.length (ds.take ps.length ++ [.tup (ds.drop ps.length)]), x, ?_, ?_⟩
    · have st := start_rep (N := N) (H := upd H q (.frz (tupO ws) (.tup (vs.drop ps.length)))) (hG _) rl2
      exact ⟨st.m, st.len, fun i s h => let ⟨v, e, r⟩ := st.val i s h; ⟨v, e, r.back x.h⟩, st.ap⟩
    · unfold runS run at p2
      cases hg : g (startS N.length (ds.take ps.length ++ [.tup (ds.drop ps.length)])) with
      | nx ρ => rw [hg] at p2; exact fun σ' F' H' y l r => p2 .non H' F' y RepS.non
      | rt s ρ => rw [hg] at p2; exact fun v σ' F' H' y l r => p2 v H' F' y (Wth.rep r)
      | ex c fs ρ => rw [hg] at p2; exact fun cls d σ' F' H' y l r q => p2 cls d H' F' y q
      | bk ρ => rw [hg] at p2; exact p2.elim
      | ct ρ => rw [hg] at p2; exact p2.elim
      | no => rw [hg] at p2; exact p2.elim
end
section
variable {X : Cx} {G : Ctx} {W : WX} {e : Expr} {es : List Expr} {pos : Pos}
abbrev sFnS (n : Nat) (sem : List D → RS) (fa : Env → R (List D)) : Env → RS := fun ρ => (fa ρ).bind fun l => if n ≤ l.length ∧ l.length ≤ LIM then sem l else .no
theorem de_fnS {k n : Nat} {sem : List D → RS} {f : Addr} {x : Str} {p : Pos} {ta : Env → R (List D)} (tk : Takes X W) (F : FnR X.prog X.w X.K X.mg X.base (L2.CX X.prog X.w) k f (spS X.K G n sem)) (hr : Room k X.A) (hg : Gl X x) (hm : X.mg x = some (.ref f)) (hk : PySem.W.keepIn X.K (.ref f) = true)
    (ha : DA X G W (e :: es) ta) (hdb : (x == ("__debug__" : Str)) = false := by decide) (he : starEach (e :: es) X.env = (false, eval e X.env) :: starEach es X.env := by rfl) (hpl : (backTo pos (starEach es X.env)).any (·.1) = false := by rfl) :
    DE X G W (.Call (.Name x p) (e :: es) [] pos) (sFnS n sem ta) := by
  refine ⟨fun pins s σ H Q I ⟨F0, ρ, le, re, p⟩ => wpAny_Call_Name_kw (ld_glob I hg hm ?_ hdb)⟩
  have h : tA X.K G W ta σ H fun vs H1 => spS X.K G n sem vs H1 Q (WE W σ) := useA le re p fun l vs H1 F1 _ e1 r1 re1 p1 => by
    split at p1
    · rename_i hn
      exact ⟨F1, l, e1.fh, r1, hn.1, hn.2, p1⟩
    · exact p1.elim
  refine PySem.W.callWith_K (h₀ := X.base) I.ok.mod.kin hk (thn (ha.run pos pins s σ H _ I h) fun us s1 ⟨vs, H1, I1, r, q⟩ => ⟨I1.kIn, wpAny_call (codeAny_mono (F X.A X.stack s1 H1 us vs Q (WE W σ) hr I1.env0 r q) fun y s' hq => ?_)⟩) he hpl
  cases y with
  | error e => exact passAt tk σ pins H1 s1 e s' I1 hq
  | ok fl =>
    cases fl with
    | ret u => exact I1.after hq
    | next => exact hq.elim
    | brk => exact hq.elim
    | cont => exact hq.elim
end
end O

end

section
set_option Elab.async false
set_option linter.all false
set_option maxRecDepth 100000
set_option maxHeartbeats 2000000
namespace O
open PySem PySem.Spec PyProof.Rows L2

section
variable {K : PySem.W.Frag} {G : Ctx}
/-! ### trees: one item changed, one item more -/
theorem RepTL.len {F H0 H : Hp} : ∀ {l : List T} {vs : List V}, RepTL K G F H0 H l vs → vs.length = l.length
  | [], vs, r => by rw [RepTL.nil.mp r]; rfl
  | t :: l, vs, r => by
    obtain ⟨v, r', rfl, _, _, h⟩ := RepTL.cons.mp r
    rw [List.length_cons, List.length_cons, RepTL.len h]
theorem RepTL.at {F H0 H : Hp} : ∀ {l : List T} {vs : List V} {j : Nat} {t : T}, RepTL K G F H0 H l vs → l[j]? = some t → ∃ v, vs[j]? = some v ∧ RepT K G F H0 H t v ∧ ∀ a, FootT H t v a → FootL H l vs a
  | [], vs, j, t, r, h => by simp at h
  | u :: l, vs, j, t, r, h => by
    obtain ⟨v, r', rfl, h1, _, h2⟩ := RepTL.cons.mp r
    cases j with
    | zero => simp at h; subst h; exact ⟨v, rfl, h1, fun a f => FootL.cons'.mpr (.inl f)⟩
    | succ j =>
      obtain ⟨w, q1, q2, q3⟩ := RepTL.at (j := j) h2 (by simpa using h)
      exact ⟨w, by simpa using q1, q2, fun a f => FootL.cons'.mpr (.inr (q3 a f))⟩
theorem RepTL.chg {F H0 H F1 H1 : Hp} (le : Le F F1) {t t' : T} {v : V} (r1 : RepT K G F1 H0 H1 t' v) (f1 : ∀ a, FootT H1 t' v a → FootT H t v a) : ∀ {l : List T} {vs : List V} {j : Nat}, RepTL K G F H0 H l vs → l[j]? = some t → vs[j]? = some v →
    (∀ a, FootL H l vs a → ¬ FootT H t v a → H1 a = H a ∧ F1 a = none) → RepTL K G F1 H0 H1 (l.set j t') vs ∧ ∀ a, FootL H1 (l.set j t') vs a → FootL H l vs a
  | [], vs, j, r, h, _, _ => by simp at h
  | u :: l, vs, j, r, h, hv, hk => by
    obtain ⟨w, r', rfl, q1, q2, q3⟩ := RepTL.cons.mp r
    cases j with
    | zero =>
      simp at h hv
      subst h hv
      obtain ⟨m1, m2⟩ := q3.move (H1 := H1) le (.refl H0) fun a f => hk a (FootL.cons'.mpr (.inr f)) fun z => q2 a z f
      refine ⟨RepTL.cons.mpr ⟨w, r', rfl, r1, fun a x y => q2 a (f1 a x) ((m2 a).mp y), m1⟩, fun a f => ?_⟩
      rcases FootL.cons'.mp f with f | f
      · exact FootL.cons'.mpr (.inl (f1 a f))
      · exact FootL.cons'.mpr (.inr ((m2 a).mp f))
    | succ j =>
      have h' : l[j]? = some t := by simpa using h
      have hv' : r'[j]? = some v := by simpa using hv
      obtain ⟨v', e', _, inn⟩ := RepTL.at q3 h'
      rw [hv'] at e'
      cases e'
      obtain ⟨m1, m2⟩ := q1.move (H1 := H1) le (.refl H0) fun a f => hk a (FootL.cons'.mpr (.inl f)) fun z => q2 a f (inn a z)
      obtain ⟨n1, n2⟩ := RepTL.chg le r1 f1 q3 h' hv' fun a f nf => hk a (FootL.cons'.mpr (.inr f)) nf
      refine ⟨RepTL.cons.mpr ⟨w, r', rfl, m1, fun a x y => q2 a ((m2 a).mp x) (n2 a y), n1⟩, fun a f => ?_⟩
      rcases FootL.cons'.mp f with f | f
      · exact FootL.cons'.mpr (.inl ((m2 a).mp f))
      · exact FootL.cons'.mpr (.inr (n2 a f))
theorem RepTL.snoc {F H0 H : Hp} {t : T} {w : V} (r1 : RepT K G F H0 H t w) : ∀ {l : List T} {vs : List V}, RepTL K G F H0 H l vs → (∀ a, FootL H l vs a → ¬ FootT H t w a) → RepTL K G F H0 H (l ++ [t]) (vs ++ [w]) ∧ ∀ a, FootL H (l ++ [t]) (vs ++ [w]) a → FootL H l vs a ∨ FootT H t w a
  | [], vs, r, h => by
    rw [RepTL.nil.mp r]
    refine ⟨RepTL.cons.mpr ⟨w, [], rfl, r1, fun a _ f => FootL.nil.mp f, RepTL.nil.mpr rfl⟩, fun a f => ?_⟩
    rcases FootL.cons'.mp f with f | f
    · exact .inr f
    · exact (FootL.nil.mp f).elim
  | u :: l, vs, r, h => by
    obtain ⟨v, r', rfl, q1, q2, q3⟩ := RepTL.cons.mp r
    obtain ⟨m1, m2⟩ := RepTL.snoc r1 q3 fun a f => h a (FootL.cons'.mpr (.inr f))
    refine ⟨RepTL.cons.mpr ⟨v, r' ++ [w], rfl, q1, fun a x y => ?_, m1⟩, fun a f => ?_⟩
    · rcases m2 a y with y | y
      · exact q2 a x y
      · exact h a (FootL.cons'.mpr (.inl x)) y
    · rcases FootL.cons'.mp f with f | f
      · exact .inl (FootL.cons'.mpr (.inl f))
      · rcases m2 a f with f | f
        · exact .inl (FootL.cons'.mpr (.inr f))
        · exact .inr f
def toT : S → T
  | .fz d => .lf d
  | .ow l => .ls (l.map T.lf)
  | .tr _ t => t
theorem toT_rep {F H0 H : Hp} {s : S} {v : V} (r : RepS K G F H0 H s v) : RepT K G F H0 H (toT s) v ∧ ∀ a, FootT H (toT s) v a ↔ FootS H s v a := by
  cases s with
  | fz d => exact ⟨RepT.lf.mpr r, fun a => FootT.lf⟩
  | ow l =>
    obtain ⟨p, vs, rfl, h1, h2, h3, rl⟩ := r.ow_inv
    refine ⟨RepT.ls.mpr ⟨p, vs, rfl, h1, h2, h3, foot_leaves leaves_map, rep_lf rl⟩, fun a => ?_⟩
    refine FootT.ls.trans ⟨fun f => ?_, fun f => .inl f⟩
    rcases f with f | ⟨_, _, _, _, f⟩
    · exact f
    · exact (foot_leaves leaves_map f).elim
  | tr k t => exact ⟨r.2, fun a => Iff.rfl⟩
def getT : S → Option (List T)
  | .ow l => some (l.map T.lf)
  | .tr none (.ls ts) => some ts
  | _ => none
theorem getT_rep {F H0 H : Hp} {s : S} {v : V} {ts : List T} (g : getT s = some ts) (r : RepS K G F H0 H s v) : ∃ p vs, v = .ref p ∧ H p = some (.lst vs) ∧ H0 p = none ∧ F p = none ∧ ¬ FootL H ts vs p ∧ RepTL K G F H0 H ts vs ∧ ∀ a, FootS H s v a ↔ (a = p ∨ FootL H ts vs a) := by
  have e : toT s = .ls ts := by
    cases s with
    | fz d => cases g
    | ow l => cases g; rfl
    | tr k t =>
      cases k with
      | some n => cases g
      | none => cases t <;> cases g <;> rfl
  obtain ⟨q1, q2⟩ := toT_rep r
  rw [e] at q1 q2
  obtain ⟨p, vs, rfl, h1, h2, h3, h4, h5⟩ := RepT.ls.mp q1
  refine ⟨p, vs, rfl, h1, h2, h3, h4, h5, fun a => (q2 a).symm.trans (FootT.ls.trans ⟨fun f => ?_, fun f => ?_⟩)⟩
  · rcases f with f | ⟨p', vs', e1, e2, f⟩
    · cases f; exact .inl rfl
    · cases e1
      rw [h1] at e2
      cases e2
      exact .inr f
  · rcases f with f | f
    · exact .inl (by rw [f])
    · exact .inr ⟨p, vs, rfl, h1, f⟩
/-- the root written -/
theorem tree_mk {F H0 H1 : Hp} {ts : List T} {vs : List V} {p : Addr} (h1 : H1 p = some (.lst vs)) (h2 : H0 p = none) (h3 : F p = none) (h4 : ¬ FootL H1 ts vs p) (r : RepTL K G F H0 H1 ts vs) : RepS K G F H0 H1 (.tr none (.ls ts)) (.ref p) ∧ ∀ a, FootS H1 (.tr none (.ls ts)) (.ref p) a → a = p ∨ FootL H1 ts vs a := by
  refine ⟨⟨fun n z => (by cases z), RepT.ls.mpr ⟨p, vs, rfl, h1, h2, h3, h4, r⟩⟩, fun a f => ?_⟩
  rcases FootT.ls.mp (show FootT H1 (.ls ts) (.ref p) a from f) with f | ⟨p', vs', e1, e2, f⟩
  · cases f; exact .inl rfl
  · cases e1
    rw [h1] at e2
    cases e2
    exact .inr f
end
section
variable {X : Cx} {G : Ctx} {W : WX} {e : Expr} {ev : SEnv → RO S} {pos : Pos}
/-- x.append(e), what is put there stays owned -/
abbrev sAppT (i : Nat) (ev : SEnv → RO S) : SEnv → Out := fun ρ => match ρ[i]? with
  | some (some s0) => match getT s0 with
    | some _ => match ev ρ with
      | .ok s ρ' => match ρ'[i]? with
        | some (some s1) => match getT s1 with
          | some ts => if ts.length < LIM then .nx (ρ'.set i (some (.tr none (.ls (ts ++ [toT s]))))) else .no
          | none => .no
        | _ => .no
      | _ => .no
    | none => .no
  | _ => .no
theorem ds_appT {i : Nat} {x : Str} {px pa pc : Pos} (hv : PE X (.Name x px) (tVar i)) (he : DX X G W e ev)
    (hbase : attributeBase (.Name x px) "append" X.env (eval (.Name x px) X.env) = eval (.Name x px) X.env := by rfl)
    (hfew : ((backTo pc (starEach [e] X.env)).all (fun x => !x.1) && (backToKw pc (keywordEach [] X.env)).all (fun x => x.1.isSome)
      && decide ([e].length + ([] : List Keyword).length + (if ([] : List Keyword).isEmpty then 0 else 1) < 30)) = true := by rfl)
    (hline : (pa.endLine == pc.line) = true := by rfl) (hs : starEach [e] X.env = (false, eval e X.env) :: starEach [] X.env := by rfl) (hplain : (backTo pc (starEach [] X.env)).any (·.1) = false := by rfl)
    (hsw : swapsWith (.Call (.Attribute (.Name x px) "append" pa) [e] [] pc) none pos.line X.env = pure false := by rfl) :
    DS X G W (.Expr (.Call (.Attribute (.Name x px) "append" pa) [e] [] pc) pos) (sAppT i ev) := by
  refine PS.imp (ps_expr (pe_bm PySem.F.plainAttrs_list PySem.F.slot_list_append PySem.F.type_list_append mt_append hv (pa_cons he pa_nil hs) hbase hfew hline hs hplain) hsw) fun D σ H ⟨F0, H0, F, ρ, x, r, p⟩ => ?_
  simp only [sAppT] at p
  split at p
  · rename_i s0 h0
    split at p
    · rename_i ts0 hg0
      obtain ⟨v, e1, q⟩ := r.val i s0 h0
      obtain ⟨a, vs0, rfl, z1, _⟩ := getT_rep hg0 q
      refine ⟨_, e1, .inl ⟨rfl, vs0, .inl (.inl z1)⟩, F0, H0, F, ρ, x, r, ?_⟩
      cases hev : ev ρ with
      | ex c fs ρ' => rw [hev] at p; exact p.elim
      | no => rw [hev] at p; exact p.elim
      | ok s ρ' =>
        rw [hev] at p
        intro w F1 H1 x1 l1 wt
        dsimp only at p
        split at p
        · rename_i s1 h1
          split at p
          · rename_i ts hg
            split at p
            · rename_i hl
              have b := Wth.base wt
              obtain ⟨v', e2, q'⟩ := b.val i s1 h1
              rw [e1] at e2
              cases e2
              obtain ⟨a', vs, e3, y1, y2, y3, y4, y5, y6⟩ := getT_rep hg q'
              cases e3
              obtain ⟨t1, t2⟩ := toT_rep (Wth.rep wt)
              have ap : ∀ c, (c = a ∨ FootL H1 ts vs c) → ¬ FootT H1 (toT s) w c := fun c hc f => Wth.apart wt ⟨i, s1, _, h1, e1, (y6 c).mpr hc⟩ ((t2 c).mp f)
              refine ⟨a, vs, w, rfl, rfl, y1, by rw [y5.len]; exact LIM_lt hl, ?_⟩
              have up : ∀ {c}, c ≠ a → upd H1 a (.lst (vs ++ [w])) c = H1 c := fun h => upd_ne h
              obtain ⟨m1, m2⟩ := y5.move (H1 := upd H1 a (.lst (vs ++ [w]))) (.refl F1) (.refl H0) fun c f => ⟨up fun z => y4 (z ▸ f), (y5.own f).choose_spec.2.2.2⟩
              obtain ⟨n1, n2⟩ := t1.move (H1 := upd H1 a (.lst (vs ++ [w]))) (.refl F1) (.refl H0) fun c f => ⟨up fun z => ap c (.inl z) f, (t1.own f).choose_spec.2.2.2⟩
              obtain ⟨k1, k2⟩ := RepTL.snoc n1 m1 fun c f g => ap c (.inr ((m2 c).mp f)) ((n2 c).mp g)
              have k4 : ¬ FootL (upd H1 a (.lst (vs ++ [w]))) (ts ++ [toT s]) (vs ++ [w]) a := fun f => by
                rcases k2 a f with f | f
                · exact y4 ((m2 a).mp f)
                · exact ap a (.inl rfl) ((n2 a).mp f)
              obtain ⟨d1, d2⟩ := tree_mk upd_same y2 y3 k4 k1
              refine p σ F1 _ (x1.write y2 y3) l1 (b.chg h1 e1 d1 fun c ⟨j, t, u, hj, k5, k6, f⟩ => ?_)
              have nc : ¬ (c = a ∨ FootL H1 ts vs c) := fun z => b.ap i j s1 t _ u c (fun z => hj z.symm) h1 k5 e1 k6 ((y6 c).mpr z) f
              refine ⟨up fun z => nc (.inl z), fun g => ?_⟩
              rcases d2 c g with g | g
              · exact nc (.inl g)
              · rcases k2 c g with g | g
                · exact nc (.inr ((m2 c).mp g))
                · exact Wth.apart wt ⟨j, t, u, k5, k6, f⟩ ((t2 c).mp ((n2 c).mp g))
            · exact p.elim
          · exact p.elim
        · exact p.elim
    · exact p.elim
  · exact p.elim
/-- a list within a list of its own -/
def subL (ρ : SEnv) (i n : Nat) : Option (List T × List D) := match ρ[i]? with
  | some (some (.tr none (.ls ts))) => match ts[n]? with
    | some (.ls us) => (leaves us).map fun l => (ts, l)
    | _ => none
  | _ => none
abbrev putL (ρ : SEnv) (i n : Nat) (ts : List T) (l : List D) : SEnv := ρ.set i (some (.tr none (.ls (ts.set n (.ls (l.map T.lf))))))
theorem SRep.focus {K : PySem.W.Frag} {H0 F H : Hp} {σ : L2.St} {ρ : SEnv} (r : SRep K G H0 F H σ ρ) {i n : Nat} {ts : List T} {l : List D} (h : subL ρ i n = some (ts, l)) :
    n < ts.length ∧ ∃ p vs q us, σ[i]? = some (some (.ref p)) ∧ H p = some (.lst vs) ∧ vs.length = ts.length ∧ vs[n]? = some (.ref q) ∧ H q = some (.lst us) ∧ H0 q = none ∧ F q = none ∧ RepL K G F l us ∧ Own H σ ρ q ∧
      ∀ F1 H1 l' us', Le F F1 → (∀ a, Own H σ ρ a → a ≠ q → H1 a = H a) → (∀ a, Own H σ ρ a → F1 a = none) → H1 q = some (.lst us') → RepL K G F1 l' us' → SRep K G H0 F1 H1 σ (putL ρ i n ts l') := by
  unfold subL at h
  split at h
  · rename_i ts' hi
    split at h
    · rename_i xs hn
      obtain ⟨l0, hl, e⟩ := Option.map_eq_some_iff.mp h
      cases e
      obtain ⟨v, e1, s1⟩ := r.val i _ hi
      obtain ⟨p, vs, rfl, h1, h2, h3, h4, h5, h6⟩ := getT_rep (ts := ts) rfl s1
      obtain ⟨w, k1, k2, k3⟩ := h5.at hn
      obtain ⟨q, us, rfl, m1, m2, m3, m4, m5⟩ := RepT.ls.mp k2
      have foot : ∀ {H' : Hp} {zs : List T} {l : List D} {ws : List V}, leaves zs = some l → H' q = some (.lst ws) → ∀ a, FootT H' (.ls zs) (.ref q) a → a = q := fun {H' zs l ws} hz hq a f => by
        rcases FootT.ls.mp f with f | ⟨q', ws', e2, e3, f⟩
        · cases f; rfl
        · cases e2
          rw [hq] at e3
          cases e3
          exact (foot_leaves hz f).elim
      have oq : Own H σ ρ q := ⟨i, _, _, hi, e1, (h6 q).mpr (.inr (k3 q (FootT.ls.mpr (.inl rfl))))⟩
      have npq : p ≠ q := fun z => h4 (by rw [z]; exact k3 q (FootT.ls.mpr (.inl rfl)))
      refine ⟨(List.getElem?_eq_some_iff.mp hn).1, p, vs, q, us, e1, h1, h5.len, k1, m1, m2, m3, rep_leaves hl m5, oq, fun F1 H1 l' us' le ha hf hq rl => ?_⟩
      have own : ∀ {a}, a = p ∨ FootL H ts vs a → Own H σ ρ a := fun z => ⟨i, _, _, hi, e1, (h6 _).mpr z⟩
      have t1 : RepT K G F1 H0 H1 (.ls (l'.map T.lf)) (.ref q) := RepT.ls.mpr ⟨q, us', rfl, hq, m2, hf q oq, foot_leaves leaves_map, rep_lf rl⟩
      obtain ⟨d1, d2⟩ := RepTL.chg le t1 (fun a f => by rw [foot leaves_map hq a f]; exact FootT.ls.mpr (.inl rfl)) h5 hn k1 fun a f nf => ⟨ha a (own (.inr f)) fun z => nf (by rw [z]; exact FootT.ls.mpr (.inl rfl)), hf a (own (.inr f))⟩
      have hp : H1 p = some (.lst vs) := by rw [ha p (own (.inl rfl)) npq]; exact h1
      obtain ⟨x1, x2⟩ := tree_mk hp h2 (hf p (own (.inl rfl))) (fun f => h4 (d2 p f)) d1
      refine r.chgF hi e1 le x1 fun a ⟨j, t, u, hj, y1, y2, f⟩ => ?_
      have na : ¬ (a = p ∨ FootL H ts vs a) := fun z => r.ap i j _ t _ u a (fun z => hj z.symm) hi y1 e1 y2 ((h6 a).mpr z) f
      have oa : Own H σ ρ a := ⟨j, t, u, y1, y2, f⟩
      refine ⟨ha a oa fun z => na (.inr (by rw [z]; exact k3 q (FootT.ls.mpr (.inl rfl)))), hf a oa, fun g => ?_⟩
      rcases x2 a g with g | g
      · exact na (.inl g)
      · exact na (.inr (d2 a g))
    · cases h
  · cases h
/-- x[c][k] = e -/
abbrev sSetIx2 (i : Nat) (ev : SEnv → RO S) (fc fk : Env → RS) : SEnv → Out := fun ρ => match ev ρ with
  | .ok s ρ1 => match fc (viewB ρ1) with
    | .ok (.fz (.int c)) => match fk (viewB ρ1) with
      | .ok (.fz (.int (.ofNat m))) => match c with
        | .ofNat n => match subL ρ1 i n with
          | some (ts, l) => if m < l.length then .nx (putL ρ1 i n ts (l.set m s.d)) else .no
          | none => .no
        | _ => .no
      | _ => .no
    | _ => .no
  | _ => .no
theorem ixN_nat {n m : Nat} (h : m < n) : ixN n (m : Int) = some m := by
  unfold ixN
  rw [if_pos (by omega), if_pos (by omega)]
  simp
theorem bInt {K : PySem.W.Frag} {H0 F H : Hp} {σ : L2.St} {ρ : SEnv} {f : Env → RS} {c : Int} (le : Le F H) (r : SRep K G H0 F H σ ρ) (hf : f (viewB ρ) = .ok (.fz (.int c))) {Q : VK} (h : ∀ F1 H1, Ext F H F1 H1 → SRep K G H0 F1 H1 σ ρ → Q (.int c) H1) : tE K G W f σ H Q := by
  refine ⟨Fp F H σ ρ, viewB ρ, r.FpLe le, r.envB, ?_⟩
  rw [hf]
  intro v H1 F1 e q
  obtain ⟨e2, _, r2⟩ := r.back le e
  have ev : v = .int c := Rep.int.mp (show Rep K G F1 (.int c) v from q)
  subst ev
  exact h _ H1 e2 r2
theorem ds_setix2 {i : Nat} {x : Str} {e2 e3 : Expr} {fc fk : Env → RS} {px p1 p2 : Pos} (hv : PE X (.Name x px) (tVar i)) (he : DX X G W e ev) (h2 : DE X G W e2 fc) (h3 : DE X G W e3 fk) (hpl : PlainIx e2)
    (ha : ∀ v, assign (.Subscript (.Subscript (.Name x px) e2 p1) e3 p2) X.env v = (do
      let ov ← holding [v] (eval (.Subscript (.Name x px) e2 p1) X.env)
      let iv ← holding [v, ov] (eval e3 X.env)
      standAt p2
      holding [v, ov, iv] (setItem ov iv v)
      release [v, ov, iv] []) := by intro _; rfl)
    (hs : swapsWithSole [.Subscript (.Subscript (.Name x px) e2 p1) e3 p2] e pos.line X.env = pure false := by rfl) (hw : swappedStores [.Subscript (.Subscript (.Name x px) e2 p1) e3 p2] e X.env = pure none := by rfl)
    (h1 : (assignEach [.Subscript (.Subscript (.Name x px) e2 p1) e3 p2] X.env).map (·.2) = [assign (.Subscript (.Subscript (.Name x px) e2 p1) e3 p2) X.env] := by rfl) :
    DS X G W (.Assign [.Subscript (.Subscript (.Name x px) e2 p1) e3 p2] e pos) (sSetIx2 i ev fc fk) :=
  PS.imp (ps_asg he (pg_sub (pe_ix ix_list hv h2 hpl) h3 set_list ha) hs hw h1) fun D σ H ⟨F0, H0, F, ρ, x, r, p⟩ => by
    refine ⟨F0, H0, F, ρ, x, r, ?_⟩
    simp only [sSetIx2] at p
    cases hev : ev ρ with
    | ex c fs ρ' => rw [hev] at p; exact p.elim
    | no => rw [hev] at p; exact p.elim
    | ok s ρ1 =>
      rw [hev] at p
      intro v F1 H1 x1 l1 w
      dsimp only at p
      split at p
      · rename_i c hc
        split at p
        · rename_i m hk
          split at p
          · rename_i n
            split at p
            · rename_i ts l hsub
              split at p
              · rename_i hm
                obtain ⟨F2, x2, l2, r2, rv⟩ := w.view x1
                obtain ⟨hnl, p0, vs, q, us, e1, _⟩ := r2.focus hsub
                refine ⟨_, e1, bInt x2.fh r2 hc fun F3 H3 x3 r3 => ?_⟩
                obtain ⟨_, p0', vs', q', us', e1', e2', e3', e4', _⟩ := r3.focus hsub
                rw [e1] at e1'
                cases e1'
                refine ⟨p0, vs', (n : Int), .ref q', rfl, rfl, .of e2', by unfold atI; rw [e3', ixN_nat hnl]; exact e4', ?_⟩
                refine bInt x3.fh r3 hk fun F4 H4 x4 r4 => ?_
                obtain ⟨_, p4, vs4, q4, us4, g1, g2, g3, g4, g5, g6, g7, g8, g9, g10⟩ := r4.focus hsub
                rw [e1] at g1
                cases g1
                have ev := x4.h _ _ e2'
                rw [g2] at ev
                cases ev
                rw [g4] at e4'
                cases e4'
                have x5 := (x2.trans x3).trans x4
                refine ⟨q', us4, (m : Int), m, rfl, rfl, g5, by rw [g8.length]; exact ixN_nat hm, ?_⟩
                have rv4 : Rep X.K G F4 s.d v := (rv.mono x3.f).mono x4.f
                exact p σ F4 _ (x5.write g6 g7) (l1.trans (l2.trans (x3.f.trans x4.f))) (g10 F4 _ _ _ (.refl F4) (fun a _ n => upd_ne n) (fun a o => (r4.own o).choose_spec.2.2.2) upd_same (RepL.set rv4 m g8))
              · exact p.elim
            · exact p.elim
          · exact p.elim
        · exact p.elim
      · exact p.elim
end
end O

end

section
set_option Elab.async false
set_option linter.all false
set_option maxRecDepth 100000
set_option maxHeartbeats 2000000
namespace O
open PySem PySem.Spec PyProof.Rows L2

/-! ### a def that changes the list that is its first argument, and answers None -/
def spIO (K : PySem.W.Frag) (G : Ctx) (n : Nat) (sem : List D → List D → Option (List D)) : Sp := fun vs H Q E => ∃ F p us ws l ds l', vs = V.ref p :: ws ∧ Le F H ∧ F p = none ∧ H p = some (.lst us) ∧ RepL K G F l us ∧ RepL K G F ds ws ∧ ds.length + 1 = n ∧ sem l ds = some l' ∧
  ∀ H' F' us', Ext F (del H p) F' (del H' p) → F' p = none → H' p = some (.lst us') → RepL K G F' l' us' → Q .non H'
/-- the place of the first argument is known -/
def Gt (G : Ctx) (p : Addr) : Ctx := { cls := G.cls, tg := fun n => if n = 0 then some p else G.tg n, m := G.m, up := G.up }
abbrev startIO (m : Nat) (l ds : List D) : SEnv := some (.tr (some 0) (.ls (l.map T.lf))) :: ds.map (fun d => some (.fz d)) ++ List.replicate (m - (ds.length + 1)) none
def endIO (ρ : SEnv) : Option (List D) := match (ρ[0]? : Option (Option S)) with
  | some (some (.tr (some 0) (.ls ts))) => leaves ts
  | _ => none
abbrev runIO (m : Nat) (g : SEnv → Out) (l ds : List D) : Option (List D) := match g (startIO m l ds) with
  | .nx ρ => endIO ρ
  | .rt (.fz .non) ρ => endIO ρ
  | _ => none
section
variable {P : Program} {w : World} {K : PySem.W.Frag} {mg : Str → Option Value} {base : Heap} {G : Ctx}
theorem spIO_len {n : Nat} {sem : List D → List D → Option (List D)} {ps : List Str} (hn : ps.length = n) : ∀ vs H Q E, spIO K G n sem vs H Q E → vs.length = ps.length := fun vs H Q E ⟨F, p, us, ws, l, ds, l', e, _, _, _, _, r, hl, _⟩ => by rw [e, List.length_cons, r.length, hl, hn]
theorem endIO_rep {F' H0 H' : Hp} {σ : L2.St} {ρ : SEnv} {p : Addr} {l' : List D} (r : SRep K (Gt G p) H0 F' H' σ ρ) (h : endIO ρ = some l') : ∃ us', H' p = some (.lst us') ∧ F' p = none ∧ RepL K G F' l' us' := by
  unfold endIO at h
  split at h
  · rename_i ts h0
    obtain ⟨v, e1, t, q⟩ := r.val 0 _ h0
    obtain ⟨a, ha, rfl⟩ := t 0 rfl
    cases (show some p = some a from ha)
    obtain ⟨p', us, e2, h1, _, h3, _, h5⟩ := RepT.ls.mp q
    cases e2
    exact ⟨us, h1, h3, RepL.ctx (G := Gt G p) (G' := G) rfl (fun a z => z) (rep_leaves h h5)⟩
  · cases h
theorem fn_okIO {x qual : Str} {st : Stmt} {f : Addr} {fd : FuncData} {N ps : List Str} {k n : Nat} {g : SEnv → Out} (F : Fun K x qual st f fd) (Sc : FnScope N ps (defScope st)) (hn : ps.length = n) (m : Nat) (hm : N.length = m) (hG : ∀ F, G.m F)
    (hbody : ∀ (p : Addr) (cdv : Value) (A : Around) (outer : List PySem.Env) (s : Shared) (H : Hp) (E : XK) (W : WX), Room k (cxOf (L2.CX P w) P w K mg base N qual (defScope st) f cdv A outer s H E).A → Takes (cxOf (L2.CX P w) P w K mg base N qual (defScope st) f cdv A outer s H E) W →
      DSs (cxOf (L2.CX P w) P w K mg base N qual (defScope st) f cdv A outer s H E) (Gt G p) W (defBody st) g) :
    FnOk P w K mg base (L2.CX P w) (k + 1) f fd ps (spIO K G n (runIO m g)) := by
  subst hm
  refine F.okX Sc (spIO_len hn) fun cdv A outer s H vs Q E hr ⟨F0, p, us, ws, l, ds, l', ev, le, fp, hp, rl, rd, hds, hsem, q⟩ => ?_
  subst ev
  refine ⟨_, hbody p cdv A outer s H E (fun cls d _ H => E cls d H) hr (takes_of rfl rfl rfl rfl), ?_⟩
  have l0 : Le (del H p) H := fun a o z => by
    by_cases e : a = p
    · rw [e, del_same] at z; cases z
    · rw [del_ne e] at z; exact z
  have lF : Le F0 (del H p) := fun a o z => by
    have e : a ≠ p := fun e => by rw [e, fp] at z; cases z
    rw [del_ne e]; exact le a o z
  have ct : ∀ {l : List D} {vs : List V}, RepL K G F0 l vs → RepL K (Gt G p) F0 l vs := fun r => RepL.ctx (G := G) (G' := Gt G p) rfl (fun a z => z) r
  have hl := rd.length
  have sr : SRep K (Gt G p) (del H p) F0 H (L2.start N (V.ref p :: ws)) (startIO N.length l ds) := by
    have st := start_rep (N := N) (K := K) (G := Gt G p) (H := H) (F := F0) (ds := D.non :: ds) (vs := V.non :: ws) (hG F0) (RepL.cons.mpr ⟨_, _, rfl, Rep.non.mpr rfl, ct rd⟩)
    have e1 : startIO N.length l ds = (startS N.length (D.non :: ds)).set 0 (some (.tr (some 0) (.ls (l.map T.lf)))) := rfl
    have e2 : L2.start N (V.ref p :: ws) = (L2.start N (V.non :: ws)).set 0 (some (.ref p)) := rfl
    rw [e1, e2]
    have st2 : SRep K (Gt G p) (del H p) F0 H (L2.start N (V.non :: ws)) (startS N.length (D.non :: ds)) := ⟨st.m, st.len, fun i s h => let ⟨v, e, r⟩ := st.val i s h; ⟨v, e, r.back l0⟩, st.ap⟩
    refine Wth.set (Wth.mk (s := .tr (some 0) (.ls (l.map T.lf))) st2 ⟨fun n z => ⟨p, by cases z; rfl, rfl⟩, RepT.ls.mpr ⟨p, us, rfl, hp, del_same, fp, foot_leaves leaves_map, rep_lf (ct rl)⟩⟩ fun a _ ⟨i, s, v, h1, h2, h3⟩ => ?_) 0
    have nf : ∃ d, s = .fz d := by
      unfold startS at h1
      by_cases h : i < ((D.non :: ds).map fun d => some (S.fz d)).length
      · rw [List.getElem?_append_left h, List.getElem?_map] at h1
        obtain ⟨d, _, e⟩ := Option.map_eq_some_iff.mp h1
        cases e
        exact ⟨d, rfl⟩
      · rw [List.getElem?_append_right (by omega), List.getElem?_replicate] at h1
        split at h1 <;> cases h1
    obtain ⟨d, rfl⟩ := nf
    exact h3
  refine ⟨F0, del H p, F0, startIO N.length l ds, ⟨lF, l0, .refl F0, le, fun _ _ z => .inl z⟩, sr, ?_⟩
  have fin : ∀ {σ' : L2.St} {ρ : SEnv} {F' H' : Hp}, endIO ρ = some l' → Ext F0 (del H p) F' H' → SRep K (Gt G p) (del H p) F' H' σ' ρ → Q .non H' := fun {σ' ρ F' H'} h x r => by
    obtain ⟨us', h1, h2, h3⟩ := endIO_rep r h
    refine q H' F' us' ⟨x.le, fun a o z => ?_, x.f, fun a o z => ?_, x.fr⟩ h2 h1 h3
    · have e : a ≠ p := fun e => by rw [e, del_same] at z; cases z
      rw [del_ne e]
      exact x.h a o z
    · have e : a ≠ p := fun e => by rw [e, h2] at z; cases z
      rw [del_ne e]
      exact x.fh a o z
  unfold runIO at hsem
  split at hsem
  · rename_i ρ hg
    rw [hg]
    exact fun σ' F' H' x _ r => fin hsem x r
  · rename_i ρ hg
    rw [hg]
    intro v σ' F' H' x _ r
    have ev : v = .non := Rep.non.mp (show Rep K (Gt G p) F' .non v from Wth.rep r)
    subst ev
    exact fin hsem x (Wth.base r)
  · cases hsem
end
section
variable {X : Cx} {G : Ctx} {W : WX} {e : Expr} {es : List Expr} {pos : Pos}
/-- f(x[c], ..) -/
abbrev sIO (i n : Nat) (sem : List D → List D → Option (List D)) (fc : Env → RS) (fa : Env → R (List D)) : SEnv → Out := fun ρ => match fc (viewB ρ) with
  | .ok (.fz (.int (.ofNat c))) => match fa (viewB ρ) with
    | .ok ds => if immL ds = true ∧ ds.length + 1 = n then (match subL ρ i c with
      | some (ts, l) => match sem l ds with
        | some l' => .nx (putL ρ i c ts l')
        | none => .no
      | none => .no) else .no
    | _ => .no
  | _ => .no
theorem bArgs {K : PySem.W.Frag} {H0 F H : Hp} {σ : L2.St} {ρ : SEnv} {f : Env → R (List D)} {ds : List D} (le : Le F H) (r : SRep K G H0 F H σ ρ) (hf : f (viewB ρ) = .ok ds) (hi : immL ds = true) {Q : List V → Hp → Prop} (h : ∀ vs F1 H1, Ext F H F1 H1 → SRep K G H0 F1 H1 σ ρ → RepL K G F1 ds vs → Q vs H1) : tA K G W f σ H Q := by
  refine ⟨Fp F H σ ρ, viewB ρ, r.FpLe le, r.envB, ?_⟩
  rw [hf]
  intro v H1 F1 e q
  obtain ⟨e2, c, r2⟩ := r.back le e
  exact h _ _ H1 e2 r2 (q.cut c hi)
theorem ds_io {k n i : Nat} {sem : List D → List D → Option (List D)} {f : Addr} {fd : FuncData} {ps : List Str} {x y : Str} {p px p1 : Pos} {e2 : Expr} {fc : Env → RS} {fa : Env → R (List D)} (tk : Takes X W) (F : FnOk X.prog X.w X.K X.mg X.base (L2.CX X.prog X.w) k f fd ps (spIO X.K G n sem)) (hr : Room k X.A) (hg : Gl X x) (hm : X.mg x = some (.ref f)) (hk : PySem.W.keepIn X.K (.ref f) = true) (hb : Binds X.K fd ps [])
    (hv : PE X (.Name y px) (tVar i)) (h2 : DE X G W e2 fc) (hpl2 : PlainIx e2) (ha : DA X G W es fa) (hdb : (x == ("__debug__" : Str)) = false := by decide) (he : starEach (.Subscript (.Name y px) e2 p1 :: es) X.env = (false, eval (.Subscript (.Name y px) e2 p1) X.env) :: starEach es X.env := by rfl) (hpl : (backTo pos (starEach es X.env)).any (·.1) = false := by rfl) {spos : Pos}
    (hs : swapsWith (.Call (.Name x p) (.Subscript (.Name y px) e2 p1 :: es) [] pos) none spos.line X.env = pure false := by rfl) :
    DS X G W (.Expr (.Call (.Name x p) (.Subscript (.Name y px) e2 p1 :: es) [] pos) spos) (sIO i n sem fc fa) :=
  PS.imp (ps_expr (pe_callS (E := WE W) F hr hg hm hk hb (fun σ => passAt tk σ) (pa_cons (pe_ix ix_list hv h2 hpl2) ha he) hdb he hpl) hs) fun D σ H ⟨F0, H0, F, ρ, x, r, p⟩ => by
    simp only [sIO] at p
    split at p
    · rename_i c hc
      split at p
      · rename_i ds hd
        split at p
        · rename_i hi
          split at p
          · rename_i ts l hsub
            split at p
            · rename_i l' hsem
              obtain ⟨hnl, p0, vs, q, us, e1, _⟩ := r.focus hsub
              refine ⟨_, e1, bInt x.fh r hc fun F1 H1 x1 r1 => ?_⟩
              obtain ⟨_, p0', vs', q', us', e1', e2', e3', e4', _⟩ := r1.focus hsub
              rw [e1] at e1'
              cases e1'
              refine ⟨p0, vs', (c : Int), .ref q', rfl, rfl, .of e2', by unfold atI; rw [e3', ixN_nat hnl]; exact e4', ?_⟩
              refine bArgs x1.fh r1 hd hi.1 fun ws F2 H2 x2 r2 rd => ?_
              obtain ⟨_, p4, vs4, q4, us4, g1, g2, g3, g4, g5, g6, g7, g8, g9, g10⟩ := r2.focus hsub
              rw [e1] at g1
              cases g1
              have ev := x2.h _ _ e2'
              rw [g2] at ev
              cases ev
              rw [g4] at e4'
              cases e4'
              have x5 := (x.trans x1).trans x2
              refine ⟨F2, q', us4, ws, l, ds, l', rfl, x2.fh, g7, g5, g8, rd, hi.2, hsem, fun H' F' us' y1 y2 y3 y4 => ?_⟩
              have keep : ∀ {a o}, a ≠ q' → H2 a = some o → H' a = some o := fun {a o} hn z => by
                have := y1.h a o (by rw [del_ne hn]; exact z)
                rw [del_ne hn] at this
                exact this
              have lF' : Le F' H' := fun a o z => by
                have := y1.fh a o z
                by_cases e : a = q'
                · rw [e, del_same] at this; cases this
                · rw [del_ne e] at this; exact this
              have x6 : Ext F0 H0 F' H' := ⟨x5.le, fun a o z => keep (fun e => by rw [e, g6] at z; cases z) (x5.h a o z), x5.f.trans y1.f, lF', fun a o z => by
                rcases y1.fr a o z with u | u
                · exact x5.fr a o u
                · have e : a ≠ q' := fun e => by rw [e, y2] at z; cases z
                  rw [del_ne e] at u
                  exact .inr (x5.h.free u)⟩
              refine p σ F' H' x6 (x1.f.trans (x2.f.trans y1.f)) (g10 F' H' l' us' y1.f (fun a o hn => ?_) (fun a o => ?_) y3 y4)
              · obtain ⟨ob, h, _⟩ := r2.own o
                rw [h]; exact keep hn h
              · by_cases e : a = q'
                · rw [e]; exact y2
                · obtain ⟨ob, h, _, _, hf⟩ := r2.own o
                  cases z : F' a with
                  | none => rfl
                  | some o' =>
                    rcases y1.fr a o' z with u | u
                    · rw [hf] at u; cases u
                    · rw [del_ne e, h] at u; cases u
            · exact p.elim
          · exact p.elim
        · exact p.elim
      · exact p.elim
    · exact p.elim
end
end O

end

section
set_option Elab.async false
set_option linter.all false
set_option maxRecDepth 100000
set_option maxHeartbeats 2000000
namespace O
open PySem PySem.Spec PyProof.Rows L2

/-- a def of the module that is told by its values -/
def Def (P : Program) (w : World) (K : PySem.W.Frag) (mg : Str → Option Value) (base : Heap) (G : Ctx) (k : Nat) (x : Str) (n : Nat) (sem : List D → RS) : Prop :=
  ∃ f fd ps, mg x = some (.ref f) ∧ PySem.W.keepIn K (.ref f) = true ∧ Binds K fd ps [] ∧ FnOk P w K mg base (L2.CX P w) k f fd ps (spD K G n sem)
def DefS (P : Program) (w : World) (K : PySem.W.Frag) (mg : Str → Option Value) (base : Heap) (G : Ctx) (k : Nat) (x : Str) (n : Nat) (sem : List D → RS) : Prop :=
  ∃ f, mg x = some (.ref f) ∧ PySem.W.keepIn K (.ref f) = true ∧ FnR P w K mg base (L2.CX P w) k f (spS K G n sem)
def DefIO (P : Program) (w : World) (K : PySem.W.Frag) (mg : Str → Option Value) (base : Heap) (G : Ctx) (k : Nat) (x : Str) (n : Nat) (sem : List D → List D → Option (List D)) : Prop :=
  ∃ f fd ps, mg x = some (.ref f) ∧ PySem.W.keepIn K (.ref f) = true ∧ Binds K fd ps [] ∧ FnOk P w K mg base (L2.CX P w) k f fd ps (spIO K G n sem)
/-- what the head says of a def -/
def DefH (K : PySem.W.Frag) (mg : Str → Option Value) (x : Str) (st : Stmt) (ps : List Str) : Prop := ∃ f fd, mg x = some (.ref f) ∧ PySem.W.keepIn K (.ref f) = true ∧ Binds K fd ps [] ∧ Fun K x x st f fd
def G0 (cls : Str → Option Addr) : Ctx := { cls := cls, tg := fun _ => none, m := fun _ => True, up := fun _ _ _ h => h }
/-- what a walk may lean on, within a def -/
structure In (X : Cx) (W : WX) (k : Nat) : Prop where
  hr : Room k X.A
  tk : Takes X W
theorem takes0 {X : Cx} : Takes X W0 := fun _ _ ⟨_, _, _, _, _, _, _, _, _, _, _, _, _, _, _, _, w⟩ => w.elim
section
variable {X : Cx} {G : Ctx} {W : WX} {e : Expr} {es : List Expr} {pos : Pos} {st : Stmt} {g : SEnv → Out}
theorem de_def {k j n : Nat} {sem : List D → RS} {x : Str} {p : Pos} {ta : Env → R (List D)} (F : Def X.prog X.w X.K X.mg X.base G k x n sem) (I : In X W j) (ha : DA X G W (e :: es) ta) (hkj : k ≤ j := by decide) (hg : Gl X x := by rfl)
    (hdb : (x == ("__debug__" : Str)) = false := by decide) (he : starEach (e :: es) X.env = (false, eval e X.env) :: starEach es X.env := by rfl) (hpl : (backTo pos (starEach es X.env)).any (·.1) = false := by rfl) :
    DE X G W (.Call (.Name x p) (e :: es) [] pos) (sFn n sem ta) := by
  obtain ⟨f, fd, ps, hm, hk, hb, F⟩ := F
  exact de_fn I.tk F (I.hr.mono hkj) hg hm hk hb ha hdb he hpl
theorem de_defS {k j n : Nat} {sem : List D → RS} {x : Str} {p : Pos} {ta : Env → R (List D)} (F : DefS X.prog X.w X.K X.mg X.base G k x n sem) (I : In X W j) (ha : DA X G W (e :: es) ta) (hkj : k ≤ j := by decide) (hg : Gl X x := by rfl)
    (hdb : (x == ("__debug__" : Str)) = false := by decide) (he : starEach (e :: es) X.env = (false, eval e X.env) :: starEach es X.env := by rfl) (hpl : (backTo pos (starEach es X.env)).any (·.1) = false := by rfl) :
    DE X G W (.Call (.Name x p) (e :: es) [] pos) (sFnS n sem ta) := by
  obtain ⟨f, hm, hk, F⟩ := F
  exact de_fnS I.tk F (I.hr.mono hkj) hg hm hk ha hdb he hpl
theorem ds_defIO {k j n i : Nat} {sem : List D → List D → Option (List D)} {x y : Str} {p px p1 : Pos} {e2 : Expr} {fc : Env → RS} {fa : Env → R (List D)} (F : DefIO X.prog X.w X.K X.mg X.base G k x n sem) (I : In X W j)
    (hv : PE X (.Name y px) (tVar i)) (h2 : DE X G W e2 fc) (ha : DA X G W es fa) (hkj : k ≤ j := by decide) (hg : Gl X x := by rfl) (hpl2 : PlainIx e2 := by intro _ _; rfl) (hdb : (x == ("__debug__" : Str)) = false := by decide) (he : starEach (.Subscript (.Name y px) e2 p1 :: es) X.env = (false, eval (.Subscript (.Name y px) e2 p1) X.env) :: starEach es X.env := by rfl) (hpl : (backTo pos (starEach es X.env)).any (·.1) = false := by rfl) {spos : Pos}
    (hs : swapsWith (.Call (.Name x p) (.Subscript (.Name y px) e2 p1 :: es) [] pos) none spos.line X.env = pure false := by rfl) :
    DS X G W (.Expr (.Call (.Name x p) (.Subscript (.Name y px) e2 p1 :: es) [] pos) spos) (sIO i n sem fc fa) := by
  obtain ⟨f, fd, ps, hm, hk, hb, F⟩ := F
  exact ds_io I.tk F (I.hr.mono hkj) hg hm hk hb hv h2 hpl2 ha hdb he hpl hs
theorem In.blk {k : Nat} (I : In X W k) (s : Shared) (H : Hp) (scope : Scope) (cenv : PySem.Env) (fp : List Addr) : In (X.blk s H scope cenv fp) W0 k := ⟨I.hr, takes0⟩
/-- a module's int -/
theorem de_gint {x : Str} {i : Int} (hm : ∃ t, X.mg x = some (.int i t)) (hg : Gl X x := by rfl) (hd : (x == ("__debug__" : Str)) = false := by decide) : DE X G W (.Name x pos) (sC (.int i)) := by
  obtain ⟨t, hm⟩ := hm
  exact de_glob hg hm (show RelV (.int i) (.int i t) from ⟨t, rfl⟩) (fun _ => Rep.int.mpr rfl) hd
/-- a slot frozen behind a statement -/
abbrev fzAt (i : Nat) (g : SEnv → Out) : SEnv → Out := fun ρ => (g ρ).seq fun ρ' => .nx (frzI i ρ')
theorem ds_fz (i : Nat) (h : DS X G W st g) : DS X G W st (fzAt i g) := PS.imp h fun D σ H ⟨F0, H0, F, ρ, x, r, p⟩ => by
  refine ⟨F0, H0, F, ρ, x, r, ?_⟩
  cases hg : g ρ with
  | nx ρ' =>
    simp only [fzAt, hg] at p
    intro σ' F' H' x' l' r'
    obtain ⟨F1, x1, l1, r1⟩ := r'.frzI x' i
    exact p σ' F1 H' x1 (l'.trans l1) r1
  | rt s ρ' => simp only [fzAt, hg] at p; exact p
  | bk ρ' => simp only [fzAt, hg] at p; exact p
  | ct ρ' => simp only [fzAt, hg] at p; exact p
  | ex c fs ρ' => simp only [fzAt, hg] at p; exact p
  | no => simp only [fzAt, hg] at p; exact p
def qS (g k : SEnv → Out) : SEnv → Out := fun ρ => (g ρ).seq k
theorem dss_seq {sts : List Stmt} {k : SEnv → Out} (h1 : DS X G W st g) (h2 : DSs X G W sts k) : DSs X G W (st :: sts) (qS g k) := dss_cons h1 h2
/-- tables of classes -/
abbrev subOf (tbl : List (Str × Str × Bool)) (c d : Str) : Option Bool := (tbl.find? fun p => decide (p.1 = c) && decide (p.2.1 = d)).map (·.2.2)
theorem subOf_mem {tbl : List (Str × Str × Bool)} {c d : Str} {b : Bool} (h : subOf tbl c d = some b) : (c, d, b) ∈ tbl := by
  obtain ⟨p, h1, rfl⟩ := Option.map_eq_some_iff.mp h
  have := List.find?_some h1
  simp at this
  obtain ⟨rfl, rfl⟩ := this
  exact List.mem_of_find?_eq_some h1
end
section
variable {X : Cx} {G : Ctx} {W : WX} {elt tg iter tg1 iter1 : Expr} {ifs ifs1 : List Expr} {scope : Scope} {pos : Pos}
theorem de_lcI {kI : Nat} {fj : Env → R (List D)} {t : CT} {ft : Env → R Bool} {fe : Env → RS} (own : List (Str × Nat)) (I : In X W kI) (hc : X.calm = true) (hN : X.N.Nodup) (hi : DJ X G W tg iter fj) (ok : BlkOk X.N X.env.scope scope own)
    (hg : ∀ (s : Shared) (H : Hp) (C : Addr) (cl : List (Str × Addr)) (fp : List Addr), PG (X.blk s H scope (compEnvC scope cl C X.env) fp) tg (t.g X.K))
    (ht : ∀ (s : Shared) (H : Hp) (C : Addr) (cl : List (Str × Addr)) (fp : List Addr), In (X.blk s H scope (compEnvC scope cl C X.env) fp) W0 kI → PTs (X.blk s H scope (compEnvC scope cl C X.env) fp) ifs (tT X.K G W0 ft))
    (he : ∀ (s : Shared) (H : Hp) (C : Addr) (cl : List (Str × Addr)) (fp : List Addr), In (X.blk s H scope (compEnvC scope cl C X.env) fp) W0 kI → DE (X.blk s H scope (compEnvC scope cl C X.env) fp) G W0 elt fe)
    (hti : ∀ i ∈ t.is, i ∈ own.map (·.2) := by decide) (hfs : ∀ x, foldedSetIterable iter X.env x = pure x := by intro _; rfl) :
    DE X G W (.ListComp elt [⟨tg, iter, ifs, 0⟩] scope pos) (sLc fj t ft fe (own.map (·.2))) := de_lc (own := own) (hc := hc) (hN := hN) (hi := hi) (ok := ok) (hg := hg) (ht := fun s H C cl fp => ht s H C cl fp (I.blk s H scope _ fp)) (he := fun s H C cl fp => he s H C cl fp (I.blk s H scope _ fp)) (hti := hti) (hfs := hfs)
theorem de_lc2I {kI : Nat} {fj fj1 : Env → R (List D)} {t t1 : CT} {ft ft1 : Env → R Bool} {fe : Env → RS} (own : List (Str × Nat)) (vs1 : List Nat) (I : In X W kI) (hc : X.calm = true) (hN : X.N.Nodup) (hi : DJ X G W tg iter fj) (ok : BlkOk X.N X.env.scope scope own)
    (hg : ∀ (s : Shared) (H : Hp) (C : Addr) (cl : List (Str × Addr)) (fp : List Addr), PG (X.blk s H scope (compEnvC scope cl C X.env) fp) tg (t.g X.K))
    (ht : ∀ (s : Shared) (H : Hp) (C : Addr) (cl : List (Str × Addr)) (fp : List Addr), In (X.blk s H scope (compEnvC scope cl C X.env) fp) W0 kI → PTs (X.blk s H scope (compEnvC scope cl C X.env) fp) ifs (tT X.K G W0 ft))
    (hi1 : ∀ (s : Shared) (H : Hp) (C : Addr) (cl : List (Str × Addr)) (fp : List Addr), In (X.blk s H scope (compEnvC scope cl C X.env) fp) W0 kI → DJ (X.blk s H scope (compEnvC scope cl C X.env) fp) G W0 tg1 iter1 fj1)
    (hg1 : ∀ (s : Shared) (H : Hp) (C : Addr) (cl : List (Str × Addr)) (fp : List Addr), PG (X.blk s H scope (compEnvC scope cl C X.env) fp) tg1 (t1.g X.K))
    (ht1 : ∀ (s : Shared) (H : Hp) (C : Addr) (cl : List (Str × Addr)) (fp : List Addr), In (X.blk s H scope (compEnvC scope cl C X.env) fp) W0 kI → PTs (X.blk s H scope (compEnvC scope cl C X.env) fp) ifs1 (tT X.K G W0 ft1))
    (he : ∀ (s : Shared) (H : Hp) (C : Addr) (cl : List (Str × Addr)) (fp : List Addr), In (X.blk s H scope (compEnvC scope cl C X.env) fp) W0 kI → DE (X.blk s H scope (compEnvC scope cl C X.env) fp) G W0 elt fe)
    (hv : ∀ i ∈ vs1, i ∈ own.map (·.2) := by decide) (hti : ∀ i ∈ t.is, i ∈ own.map (·.2) := by decide) (hti1 : ∀ i ∈ t1.is, i ∈ vs1 := by decide) (hfs : ∀ x, foldedSetIterable iter X.env x = pure x := by intro _; rfl) (hfs1 : ∀ env x, foldedSetIterable iter1 env x = pure x := by intro _ _; rfl) :
    DE X G W (.ListComp elt [⟨tg, iter, ifs, 0⟩, ⟨tg1, iter1, ifs1, 0⟩] scope pos) (sLc2 fj t ft fj1 t1 ft1 fe (own.map (·.2)) vs1) := de_lc2 (own := own) (vs1 := vs1) (hc := hc) (hN := hN) (hi := hi) (ok := ok) (hg := hg) (ht := fun s H C cl fp => ht s H C cl fp (I.blk s H scope _ fp)) (hi1 := fun s H C cl fp => hi1 s H C cl fp (I.blk s H scope _ fp)) (hg1 := hg1) (ht1 := fun s H C cl fp => ht1 s H C cl fp (I.blk s H scope _ fp)) (he := fun s H C cl fp => he s H C cl fp (I.blk s H scope _ fp)) (hv := hv) (hti := hti) (hti1 := hti1) (hfs := hfs) (hfs1 := hfs1)
theorem ds_setLcI {kI : Nat} {i : Nat} {y : Str} {py spos : Pos} {fj : Env → R (List D)} {t : CT} {ft : Env → R Bool} {fe : Env → RS} {ev : SEnv → RO S} (own : List (Str × Nat)) (hx : ∀ σ H Q, tX X.K G W ev σ H Q → tE X.K G W (sLc fj t ft fe (own.map (·.2))) σ H Q) (I : In X W kI) (hc : X.calm = true) (hN : X.N.Nodup) (hi : DJ X G W tg iter fj) (ok : BlkOk X.N X.env.scope scope own)
    (hg : ∀ (s : Shared) (H : Hp) (C : Addr) (cl : List (Str × Addr)) (fp : List Addr), PG (X.blk s H scope (compEnvC scope cl C X.env) fp) tg (t.g X.K))
    (ht : ∀ (s : Shared) (H : Hp) (C : Addr) (cl : List (Str × Addr)) (fp : List Addr), In (X.blk s H scope (compEnvC scope cl C X.env) fp) W0 kI → PTs (X.blk s H scope (compEnvC scope cl C X.env) fp) ifs (tT X.K G W0 ft))
    (he : ∀ (s : Shared) (H : Hp) (C : Addr) (cl : List (Str × Addr)) (fp : List Addr), In (X.blk s H scope (compEnvC scope cl C X.env) fp) W0 kI → DE (X.blk s H scope (compEnvC scope cl C X.env) fp) G W0 elt fe)
    (hy : X.N[i]? = some y := by rfl) (hyl : X.env.scope.names.lookup y = some .local := by rfl) (hsw : swapsWith (.ListComp elt [⟨tg, iter, ifs, 0⟩] scope pos) (some (.Name y py)) spos.line X.env = pure true := by exact sw_true rfl rfl rfl (by decide +kernel))
    (hti : ∀ i ∈ t.is, i ∈ own.map (·.2) := by decide) (hfs : ∀ x, foldedSetIterable iter X.env x = pure x := by intro _; rfl) :
    DS X G W (.Assign [.Name y py] (.ListComp elt [⟨tg, iter, ifs, 0⟩] scope pos) spos) (sSet i ev) := ds_setLc (own := own) (hx := hx) (hc := hc) (hN := hN) (hi := hi) (ok := ok) (hg := hg) (ht := fun s H C cl fp => ht s H C cl fp (I.blk s H scope _ fp)) (he := fun s H C cl fp => he s H C cl fp (I.blk s H scope _ fp)) (hy := hy) (hyl := hyl) (hsw := hsw) (hti := hti) (hfs := hfs)
theorem ds_setLc2I {kI : Nat} {i : Nat} {y : Str} {py spos : Pos} {fj fj1 : Env → R (List D)} {t t1 : CT} {ft ft1 : Env → R Bool} {fe : Env → RS} {ev : SEnv → RO S} (own : List (Str × Nat)) (vs1 : List Nat) (hx : ∀ σ H Q, tX X.K G W ev σ H Q → tE X.K G W (sLc2 fj t ft fj1 t1 ft1 fe (own.map (·.2)) vs1) σ H Q) (I : In X W kI) (hc : X.calm = true) (hN : X.N.Nodup) (hi : DJ X G W tg iter fj) (ok : BlkOk X.N X.env.scope scope own)
    (hg : ∀ (s : Shared) (H : Hp) (C : Addr) (cl : List (Str × Addr)) (fp : List Addr), PG (X.blk s H scope (compEnvC scope cl C X.env) fp) tg (t.g X.K))
    (ht : ∀ (s : Shared) (H : Hp) (C : Addr) (cl : List (Str × Addr)) (fp : List Addr), In (X.blk s H scope (compEnvC scope cl C X.env) fp) W0 kI → PTs (X.blk s H scope (compEnvC scope cl C X.env) fp) ifs (tT X.K G W0 ft))
    (hi1 : ∀ (s : Shared) (H : Hp) (C : Addr) (cl : List (Str × Addr)) (fp : List Addr), In (X.blk s H scope (compEnvC scope cl C X.env) fp) W0 kI → DJ (X.blk s H scope (compEnvC scope cl C X.env) fp) G W0 tg1 iter1 fj1)
    (hg1 : ∀ (s : Shared) (H : Hp) (C : Addr) (cl : List (Str × Addr)) (fp : List Addr), PG (X.blk s H scope (compEnvC scope cl C X.env) fp) tg1 (t1.g X.K))
    (ht1 : ∀ (s : Shared) (H : Hp) (C : Addr) (cl : List (Str × Addr)) (fp : List Addr), In (X.blk s H scope (compEnvC scope cl C X.env) fp) W0 kI → PTs (X.blk s H scope (compEnvC scope cl C X.env) fp) ifs1 (tT X.K G W0 ft1))
    (he : ∀ (s : Shared) (H : Hp) (C : Addr) (cl : List (Str × Addr)) (fp : List Addr), In (X.blk s H scope (compEnvC scope cl C X.env) fp) W0 kI → DE (X.blk s H scope (compEnvC scope cl C X.env) fp) G W0 elt fe)
    (hy : X.N[i]? = some y := by rfl) (hyl : X.env.scope.names.lookup y = some .local := by rfl) (hsw : swapsWith (.ListComp elt [⟨tg, iter, ifs, 0⟩, ⟨tg1, iter1, ifs1, 0⟩] scope pos) (some (.Name y py)) spos.line X.env = pure true := by exact sw_true rfl rfl rfl (by decide +kernel))
    (hv : ∀ i ∈ vs1, i ∈ own.map (·.2) := by decide) (hti : ∀ i ∈ t.is, i ∈ own.map (·.2) := by decide) (hti1 : ∀ i ∈ t1.is, i ∈ vs1 := by decide) (hfs : ∀ x, foldedSetIterable iter X.env x = pure x := by intro _; rfl) (hfs1 : ∀ env x, foldedSetIterable iter1 env x = pure x := by intro _ _; rfl) :
    DS X G W (.Assign [.Name y py] (.ListComp elt [⟨tg, iter, ifs, 0⟩, ⟨tg1, iter1, ifs1, 0⟩] scope pos) spos) (sSet i ev) := ds_setLc2 (own := own) (vs1 := vs1) (hx := hx) (hc := hc) (hN := hN) (hi := hi) (ok := ok) (hg := hg) (ht := fun s H C cl fp => ht s H C cl fp (I.blk s H scope _ fp)) (hi1 := fun s H C cl fp => hi1 s H C cl fp (I.blk s H scope _ fp)) (hg1 := hg1) (ht1 := fun s H C cl fp => ht1 s H C cl fp (I.blk s H scope _ fp)) (he := fun s H C cl fp => he s H C cl fp (I.blk s H scope _ fp)) (hy := hy) (hyl := hyl) (hsw := hsw) (hv := hv) (hti := hti) (hti1 := hti1) (hfs := hfs) (hfs1 := hfs1)
theorem ds_tryI {k : Nat} {sub : Str → Str → Option Bool} {body : List Stmt} {h0 : ExceptHandler} {hds : List ExceptHandler} {hs : List Hd} {g : SEnv → Out} (I : In X W k) (h1 : G.tg 1 = none) (hst : X.stack = X.env :: X.outer) (hf : X.env.frame = some X.env.locals) (hN : X.N.Nodup)
    (hb : ∀ (W' : WX) (pn : List (Addr × Obj)) (xe : Value → Shared → Prop), In (X.tr pn xe) W' k → PassesOwn (model X.prog X.w) X.A X.env xe → DSs (X.tr pn xe) G W' body g) (hh : HdD X G sub (h0 :: hds) hs) : DS X G W (.Try body (h0 :: hds) [] [] pos) (sTry sub g hs) :=
  ds_try h1 hst hf hN I.tk (fun W' pn xe tk hp => hb W' pn xe ⟨I.hr, tk⟩ hp) hh
theorem kit_of {K : PySem.W.Frag} {C A : Addr} {b : Bool} (hs : PySem.W.subIn K (.ref C) (.ref A) = some b) (hd : PySem.W.hasDictIn K A = true) (ht : PySem.W.typeIn K (.ref A) = some (.type "type")) (hn : b = false → (Value.ref C == Value.ref A) = false) : PySem.W.kitOne K (.ref C) (.ref A) = some b := by
  obtain ⟨cd, hc, _⟩ := PySem.W.any_some hd
  have e2 : ((PySem.W.clsIn K A).isSome && PySem.W.typeIn K (.ref A) == some (.type "type")) = true := by rw [hc, ht] <;> rfl
  unfold PySem.W.kitOne PySem.W.kitCls
  cases b with
  | true =>
    split
    · rfl
    · dsimp only; rw [if_pos e2]; exact hs
  | false =>
    rw [hn rfl, if_neg Bool.false_ne_true]
    dsimp only; rw [if_pos e2]; exact hs
theorem super_of {K : PySem.W.Frag} {C A : Addr} {bm : List Value} {nm q nm' q' : Str} {N N' : Addr} {bs sub bs' sub' : List Value} {sn sn' : List Str} {ab ab' : Bool} {col col' : Option Bool} {dd dd' : Option Addr} {k0 k1 k2 k3 k5 l0 l1 l2 l3 l5 : Option Value} {i i' : String} {x : Str} {r : Option (Option Value)}
    (h : K.lookup C = some (excClassObj nm q C N bs (.ref A :: bm) true sn sub ab col dd k0 k1 k2 k3 k5 i)) (h' : K.lookup A = some (excClassObj nm' q' A N' bs' bm true sn' sub' ab' col' dd' l0 l1 l2 l3 l5 i')) (hf : PySem.W.findIn K (.ref A) x = r) : PySem.W.ks_superIn K C C x = r := by
  rw [← hf]
  unfold PySem.W.ks_superIn PySem.W.findIn PySem.W.clsIn
  dsimp only
  rw [h, h']
  simp [List.dropWhile]
end
end O

end

section
set_option Elab.async false
set_option linter.all false
set_option maxRecDepth 100000
set_option maxHeartbeats 4000000
namespace O
open PySem PySem.Spec PyProof.Rows L2
/-! ### the text by places -/
def top (i : Nat) : Stmt := PySem.Challenge.pw_oldnews_k02_rooms_meet_and_join.main.body.getD i (.Pass ⟨0, 0, 0, 0⟩)
abbrev s_as_room : Stmt := top 7
abbrev s_as_lone_room : Stmt := top 8
abbrev s_need_at_most : Stmt := top 9
abbrev s_free_houses : Stmt := top 13
abbrev s_states_of : Stmt := top 14
abbrev s_is_inside : Stmt := top 15
abbrev s_lies_within : Stmt := top 16
abbrev s_same_sized : Stmt := top 17
abbrev s_meet : Stmt := top 18
abbrev s_join : Stmt := top 19
abbrev s__law_cell : Stmt := top 21
abbrev s__law_draws : Stmt := top 22
abbrev s__law_rooms : Stmt := top 23
abbrev s__law_states : Stmt := top 24
abbrev s__law_inside : Stmt := top 25
abbrev s__law_meet : Stmt := top 26
abbrev s__law_join : Stmt := top 27
abbrev s__law_truth : Stmt := top 28
abbrev s__law_same : Stmt := top 29
abbrev s__law_lone_answers : Stmt := top 30
abbrev s__law_meets : Stmt := top 31
abbrev s__law_outcome : Stmt := top 32
abbrev s__law_expected : Stmt := top 33
abbrev s__law_spoilt : Stmt := top 34
abbrev s_law : Stmt := top 35
abbrev subT : List (Str × Str × Bool) := [("BadRoom", "BadArgument", true), ("BadRoom", "BadRoom", true), ("BadRoom", "OldNewsError", true), ("BadRoom", "TooLarge", false), ("TooLarge", "BadArgument", false), ("TooLarge", "BadRoom", false), ("TooLarge", "OldNewsError", true), ("TooLarge", "TooLarge", true)]
abbrev sub : Str → Str → Option Bool := subOf subT
abbrev made : List Str := ["BadRoom", "TooLarge"]
theorem subX {c d : Str} {b : Bool} (h : sub c d = some b) : c ∈ made := by
  have k : ∀ p ∈ subT, p.1 ∈ made := by decide +kernel
  exact k _ (subOf_mem h)
/-- what the head says -/
structure Txt (P : Program) (w : World) (K : PySem.W.Frag) (mg : Str → Option Value) (base : Heap) (cls : Str → Option Addr) : Prop where
  f_as_room : DefH K mg "as_room" s_as_room ["size", "row"]
  f_as_lone_room : DefH K mg "as_lone_room" s_as_lone_room ["row"]
  f_need_at_most : DefH K mg "need_at_most" s_need_at_most ["count", "limit"]
  f_free_houses : DefH K mg "free_houses" s_free_houses ["room"]
  f_states_of : DefH K mg "states_of" s_states_of ["room"]
  f_is_inside : DefH K mg "is_inside" s_is_inside ["room", "other"]
  f_lies_within : DefH K mg "lies_within" s_lies_within ["room", "other"]
  f_same_sized : DefH K mg "same_sized" s_same_sized ["first", "others"]
  f_meet : ∃ (f : Addr) (oc : Value) (od : Option Addr) (doc pm : Value) (an : Option Addr) (cdv ct : Value) (osl : Array (Option Value)), mg "meet" = some (.ref f) ∧ PySem.W.keepIn K (.ref f) = true ∧ K.lookup f = some ⟨oc, od, .func (PySem.W.fnOf "meet" "meet" (defArgs s_meet) (defBody s_meet) (defScope s_meet) Value.none Value.none doc pm an cdv ct), osl⟩ ∧ PySem.W.codeIn K cdv "meet" = true
  f_join : ∃ (f : Addr) (oc : Value) (od : Option Addr) (doc pm : Value) (an : Option Addr) (cdv ct : Value) (osl : Array (Option Value)), mg "join" = some (.ref f) ∧ PySem.W.keepIn K (.ref f) = true ∧ K.lookup f = some ⟨oc, od, .func (PySem.W.fnOf "join" "join" (defArgs s_join) (defBody s_join) (defScope s_join) Value.none Value.none doc pm an cdv ct), osl⟩ ∧ PySem.W.codeIn K cdv "join" = true
  f__law_cell : DefH K mg "_law_cell" s__law_cell ["_law_script", "_law_k"]
  f__law_draws : DefH K mg "_law_draws" s__law_draws ["_law_cell_here", "_law_sizes"]
  f__law_rooms : DefH K mg "_law_rooms" s__law_rooms ["_law_script", "_law_size"]
  f__law_states : DefH K mg "_law_states" s__law_states ["_law_room"]
  f__law_inside : DefH K mg "_law_inside" s__law_inside ["_law_room", "_law_other"]
  f__law_meet : DefH K mg "_law_meet" s__law_meet ["_law_rooms_here"]
  f__law_join : DefH K mg "_law_join" s__law_join ["_law_rooms_here"]
  f__law_truth : DefH K mg "_law_truth" s__law_truth ["_law_actual", "_law_expected_here"]
  f__law_same : DefH K mg "_law_same" s__law_same ["_law_actual", "_law_expected_here"]
  f__law_lone_answers : DefH K mg "_law_lone_answers" s__law_lone_answers ["_law_rooms_here"]
  f__law_meets : DefH K mg "_law_meets" s__law_meets ["_law_first", "_law_second", "_law_third"]
  f__law_outcome : DefH K mg "_law_outcome" s__law_outcome ["_law_name", "_law_rows"]
  f__law_expected : DefH K mg "_law_expected" s__law_expected ["_law_name", "_law_rows"]
  f__law_spoilt : DefH K mg "_law_spoilt" s__law_spoilt ["_law_row", "_law_fault", "_law_house", "_law_number"]
  f_law : DefH K mg "law" s_law ["_law_script"]
  b_abs : mg "abs" = none
  b_bool : mg "bool" = none
  b_enumerate : mg "enumerate" = none
  b_int : mg "int" = none
  b_isinstance : mg "isinstance" = none
  b_len : mg "len" = none
  b_list : mg "list" = none
  b_range : mg "range" = none
  b_tuple : mg "tuple" = none
  b_zip : mg "zip" = none
  g_MOST_HOUSES : ∃ t, mg "MOST_HOUSES" = some (.int 12 t)
  g_FREE : ∃ t, mg "FREE" = some (.int 2 t)
  g_MOST_FREE : ∃ t, mg "MOST_FREE" = some (.int 8 t)
  ex_BadRoom : ExcK P w K mg base (G0 cls) "BadRoom" ["row"] 1
  ex_TooLarge : ExcK P w K mg base (G0 cls) "TooLarge" ["count", "limit"] 1
  xc : ∀ (c : Str) (C : Addr), c ∈ made → cls c = some C → XcC K C ["count", "limit", "row"]
  n_BadArgument : ∃ D, mg "BadArgument" = some (.ref D) ∧ (∀ c C b, cls c = some C → sub c "BadArgument" = some b → PySem.W.kitOne K (.ref C) (.ref D) = some b)
  n_BadRoom : ∃ D, mg "BadRoom" = some (.ref D) ∧ (∀ c C b, cls c = some C → sub c "BadRoom" = some b → PySem.W.exmOne K (.ref C) (.ref D) = some b) ∧ (∀ c C b, cls c = some C → sub c "BadRoom" = some b → PySem.W.kitOne K (.ref C) (.ref D) = some b)
  n_OldNewsError : ∃ D, mg "OldNewsError" = some (.ref D) ∧ (∀ c C b, cls c = some C → sub c "OldNewsError" = some b → PySem.W.kitOne K (.ref C) (.ref D) = some b)
  n_TooLarge : ∃ D, mg "TooLarge" = some (.ref D) ∧ (∀ c C b, cls c = some C → sub c "TooLarge" = some b → PySem.W.exmOne K (.ref C) (.ref D) = some b) ∧ (∀ c C b, cls c = some C → sub c "TooLarge" = some b → PySem.W.kitOne K (.ref C) (.ref D) = some b)
section
variable {P : Program} {w : World} {K : PySem.W.Frag} {mg : Str → Option Value} {base : Heap} {cls : Str → Option Addr}
theorem sc_as_room : FnScope ["size", "row", "mark"] ["size", "row"] (defScope s_as_room) := ⟨rfl, rfl, rfl, by decide +kernel, rfl, by decide +kernel, by decide +kernel⟩
def l_as_room_1 : SEnv → Out := (sIfS (evAT (sBool (sOp notInO (sVar 2) (sTup (sCons (sC (.int 0)) (sCons (sC (.int 1)) (sCons (sC (.int 2)) sNil))))))) (sRaise "BadRoom" ["row"] (sCons (sVar 1) sNil)) Out.nx)
def b_as_room : SEnv → Out := (qS (fzAt 1 (sSet 1 (evA (sCall tupF (sCons (sVar 1) sNil)))))
    (qS (sIfS (evAT (sBool (sOp neO (sCall lenO (sCons (sVar 1) sNil)) (sVar 0)))) (sRaise "BadRoom" ["row"] (sCons (sVar 1) sNil)) Out.nx)
    (qS (sFor (evAI (sSeq (sVar 1))) (gN 2)
    l_as_room_1 [2])
    (sRet (evA (sVar 1))))))
abbrev sem_as_room : List D → RS := run 3 b_as_room
theorem ok_as_room (T : Txt P w K mg base cls) : Def P w K mg base (G0 cls) 4 "as_room" 2 sem_as_room := by
  obtain ⟨f, fd, h1, h2, h3, h4⟩ := T.f_as_room
  refine ⟨f, fd, _, h1, h2, h3, fn_ok h4 sc_as_room rfl 3 rfl (fun _ => trivial) fun cdv A outer s H E W hr tk hp => ?_⟩
  have I := In.mk hr tk
  have nd := (sc_as_room).nd
  exact (dss_seq (ds_fz 1 (ds_set (dx_A (de_callTy cd_tup rfl T.b_tuple (by decide +kernel) (da_cons (de_var (pv 1)) da_nil))) nd))
    (dss_seq (ds_if (dy_A (dt_cmp (od_ne I.hr) (de_callB cd_len rfl T.b_len (by decide +kernel) (da_cons (de_var (pv 1)) da_nil)) (de_var (pv 0)))) (dss_one (ds_raise rfl I.tk T.ex_BadRoom (I.hr.mono (by decide)) rfl (da_cons (de_var (pv 1)) da_nil))) dss_nil)
    (dss_seq (ds_for [2] hp rfl (di_A (dj_seq (de_var (pv 1)))) (dg_name nd)
    (dss_one (ds_if (dy_A (dt_cmp (od_notIn I.hr) (de_var (pv 2)) (de_tup (da_cons de_int (da_cons de_int (da_cons de_int da_nil)))))) (dss_one (ds_raise rfl I.tk T.ex_BadRoom (I.hr.mono (by decide)) rfl (da_cons (de_var (pv 1)) da_nil))) dss_nil)))
    (dss_one (ds_ret (dx_A (de_var (pv 1))))))))
theorem sc_as_lone_room : FnScope ["row"] ["row"] (defScope s_as_lone_room) := ⟨rfl, rfl, rfl, by decide +kernel, rfl, by decide +kernel, by decide +kernel⟩
def b_as_lone_room : SEnv → Out := (qS (fzAt 0 (sSet 0 (evA (sCall tupF (sCons (sVar 0) sNil)))))
    (qS (sIfS (evAT (sNot (sBool (sChain leO leO (sC (.int 1)) (sCall lenO (sCons (sVar 0) sNil)) (sC (.int 12)))))) (sRaise "BadRoom" ["row"] (sCons (sVar 0) sNil)) Out.nx)
    (sRet (evA (sFn 2 sem_as_room (sCons (sCall lenO (sCons (sVar 0) sNil)) (sCons (sVar 0) sNil)))))))
abbrev sem_as_lone_room : List D → RS := run 1 b_as_lone_room
theorem ok_as_lone_room (T : Txt P w K mg base cls) : Def P w K mg base (G0 cls) 5 "as_lone_room" 1 sem_as_lone_room := by
  obtain ⟨f, fd, h1, h2, h3, h4⟩ := T.f_as_lone_room
  refine ⟨f, fd, _, h1, h2, h3, fn_ok h4 sc_as_lone_room rfl 1 rfl (fun _ => trivial) fun cdv A outer s H E W hr tk hp => ?_⟩
  have I := In.mk hr tk
  have nd := (sc_as_lone_room).nd
  exact (dss_seq (ds_fz 0 (ds_set (dx_A (de_callTy cd_tup rfl T.b_tuple (by decide +kernel) (da_cons (de_var (pv 0)) da_nil))) nd))
    (dss_seq (ds_if (dy_A (dt_not (dt_chain od_le od_le de_int (de_callB cd_len rfl T.b_len (by decide +kernel) (da_cons (de_var (pv 0)) da_nil)) (de_gint T.g_MOST_HOUSES)))) (dss_one (ds_raise rfl I.tk T.ex_BadRoom (I.hr.mono (by decide)) rfl (da_cons (de_var (pv 0)) da_nil))) dss_nil)
    (dss_one (ds_ret (dx_A (de_def (ok_as_room T) I (da_cons (de_callB cd_len rfl T.b_len (by decide +kernel) (da_cons (de_var (pv 0)) da_nil)) (da_cons (de_var (pv 0)) da_nil))))))))
theorem sc_need_at_most : FnScope ["count", "limit"] ["count", "limit"] (defScope s_need_at_most) := ⟨rfl, rfl, rfl, by decide +kernel, rfl, by decide +kernel, by decide +kernel⟩
def b_need_at_most : SEnv → Out := (sIfS (evAT (sBool (sOp gtO (sVar 0) (sVar 1)))) (sRaise "TooLarge" ["count", "limit"] (sCons (sVar 0) (sCons (sVar 1) sNil))) Out.nx)
abbrev sem_need_at_most : List D → RS := run 2 b_need_at_most
theorem ok_need_at_most (T : Txt P w K mg base cls) : Def P w K mg base (G0 cls) 4 "need_at_most" 2 sem_need_at_most := by
  obtain ⟨f, fd, h1, h2, h3, h4⟩ := T.f_need_at_most
  refine ⟨f, fd, _, h1, h2, h3, fn_ok h4 sc_need_at_most rfl 2 rfl (fun _ => trivial) fun cdv A outer s H E W hr tk hp => ?_⟩
  have I := In.mk hr tk
  have nd := (sc_need_at_most).nd
  exact (dss_one (ds_if (dy_A (dt_cmp od_gt (de_var (pv 0)) (de_var (pv 1)))) (dss_one (ds_raise rfl I.tk T.ex_TooLarge (I.hr.mono (by decide)) rfl (da_cons (de_var (pv 0)) (da_cons (de_var (pv 1)) da_nil)))) dss_nil))
theorem sc_free_houses : FnScope ["room", "house", "mark"] ["room"] (defScope s_free_houses) := ⟨rfl, rfl, rfl, by decide +kernel, rfl, by decide +kernel, by decide +kernel⟩
def b_free_houses : SEnv → Out := (qS (fzAt 0 (sSet 0 (evA (sFn 1 sem_as_lone_room (sCons (sVar 0) sNil)))))
    (sRet (evA (sCall tupF (sCons (sLc (sEnum (sCons (sVar 0) sNil)) (.tup [1, 2]) (sBool (sOp eqO (sVar 2) (sC (.int 2)))) (sVar 1) [1, 2]) sNil)))))
abbrev sem_free_houses : List D → RS := run 3 b_free_houses
theorem ok_free_houses (T : Txt P w K mg base cls) : Def P w K mg base (G0 cls) 6 "free_houses" 1 sem_free_houses := by
  obtain ⟨f, fd, h1, h2, h3, h4⟩ := T.f_free_houses
  refine ⟨f, fd, _, h1, h2, h3, fn_ok h4 sc_free_houses rfl 3 rfl (fun _ => trivial) fun cdv A outer s H E W hr tk hp => ?_⟩
  have I := In.mk hr tk
  have nd := (sc_free_houses).nd
  exact (dss_seq (ds_fz 0 (ds_set (dx_A (de_def (ok_as_lone_room T) I (da_cons (de_var (pv 0)) da_nil))) nd))
    (dss_one (ds_ret (dx_A (de_callTy cd_tup rfl T.b_tuple (by decide +kernel) (da_cons (de_lcI [("house", 1), ("mark", 2)] I rfl nd (dj_enum rfl T.b_enumerate (da_cons (de_var (pv 0)) da_nil)) (blkOk_by (N := ["room", "house", "mark"]) (sc := defScope s_free_houses) (by decide +kernel)) (fun _ _ _ _ _ => pg_tup rfl (pgs_cons (pg_name (i := 1) nd rfl (by first | exact Or.inl rfl | exact Or.inr rfl)) (pgs_cons (pg_name (i := 2) nd rfl (by first | exact Or.inl rfl | exact Or.inr rfl)) pgs_nil))) (fun _ _ _ _ _ I => pts_oneD (dt_cmp (od_eq I.hr) (de_var (pv 2)) (de_gint T.g_FREE))) (fun _ _ _ _ _ I => (de_var (pv 1)))) da_nil))))))
theorem sc_states_of : FnScope ["room", "states", "mark", "digits", "state", "digit"] ["room"] (defScope s_states_of) := ⟨rfl, rfl, rfl, by decide +kernel, rfl, by decide +kernel, by decide +kernel⟩
def l_states_of_1 : SEnv → Out := (qS (fzAt 3 (sSet 3 (evA (sIf (sBool (sOp eqO (sVar 2) (sC (.int 2)))) (sTup (sCons (sC (.int 0)) (sCons (sC (.int 1)) sNil))) (sTup (sCons (sVar 2) sNil))))))
    (fzAt 1 (sSet 1 (evA (sLc2 (sSeq (sVar 1)) (.nm 4) (fun _ => .ok true) (sSeq (sVar 3)) (.nm 5) (fun _ => .ok true) (sOp addO (sVar 4) (sTup (sCons (sVar 5) sNil))) [4, 5] [5])))))
def b_states_of : SEnv → Out := (qS (fzAt 0 (sSet 0 (evA (sFn 1 sem_as_lone_room (sCons (sVar 0) sNil)))))
    (qS (sDrop (evA (sFn 2 sem_need_at_most (sCons (sCount (sVar 0) (sC (.int 2))) (sCons (sC (.int 8)) sNil)))))
    (qS (fzAt 1 (sSet 1 (evA (sLst (sCons (sTup sNil) sNil)))))
    (qS (sFor (evAI (sSeq (sVar 0))) (gN 2)
    l_states_of_1 [2, 3])
    (sRet (evA (sCall tupF (sCons (sVar 1) sNil))))))))
abbrev sem_states_of : List D → RS := run 6 b_states_of
theorem ok_states_of (T : Txt P w K mg base cls) : Def P w K mg base (G0 cls) 6 "states_of" 1 sem_states_of := by
  obtain ⟨f, fd, h1, h2, h3, h4⟩ := T.f_states_of
  refine ⟨f, fd, _, h1, h2, h3, fn_ok h4 sc_states_of rfl 6 rfl (fun _ => trivial) fun cdv A outer s H E W hr tk hp => ?_⟩
  have I := In.mk hr tk
  have nd := (sc_states_of).nd
  exact (dss_seq (ds_fz 0 (ds_set (dx_A (de_def (ok_as_lone_room T) I (da_cons (de_var (pv 0)) da_nil))) nd))
    (dss_seq (ds_expr (dx_A (de_def (ok_need_at_most T) I (da_cons (de_count (de_var (pv 0)) (de_gint T.g_FREE)) (da_cons (de_gint T.g_MOST_FREE) da_nil)))))
    (dss_seq (ds_fz 1 (ds_set (dx_A (de_lst (da_cons (de_tup da_nil) da_nil))) nd))
    (dss_seq (ds_for [2, 3] hp rfl (di_A (dj_seq (de_var (pv 0)))) (dg_name nd)
    (dss_seq (ds_fz 3 (ds_set (dx_A (de_if (dt_cmp (od_eq I.hr) (de_var (pv 2)) (de_gint T.g_FREE)) (de_tup (da_cons de_int (da_cons de_int da_nil))) (de_tup (da_cons (de_var (pv 2)) da_nil)))) nd))
    (dss_one (ds_fz 1 (ds_setLc2I (i := 1) [("state", 4), ("digit", 5)] [5] (fun _ _ _ q => xA q) I rfl nd (dj_seq (de_var (pv 1))) (blkOk_by (N := ["room", "states", "mark", "digits", "state", "digit"]) (sc := defScope s_states_of) (by decide +kernel)) (fun _ _ _ _ _ => pg_name (i := 4) nd rfl (by first | exact Or.inl rfl | exact Or.inr rfl)) (fun _ _ _ _ _ I => pts_nilD) (fun _ _ _ _ _ I => (dj_seq (de_var (pv 3)))) (fun _ _ _ _ _ => pg_name (i := 5) nd rfl (by first | exact Or.inl rfl | exact Or.inr rfl)) (fun _ _ _ _ _ I => pts_nilD) (fun _ _ _ _ _ I => (de_op od_add (de_var (pv 4)) (de_tup (da_cons (de_var (pv 5)) da_nil)))))))))
    (dss_one (ds_ret (dx_A (de_callTy cd_tup rfl T.b_tuple (by decide +kernel) (da_cons (de_var (pv 1)) da_nil)))))))))
theorem sc_is_inside : FnScope ["room", "other", "mark", "around"] ["room", "other"] (defScope s_is_inside) := ⟨rfl, rfl, rfl, by decide +kernel, rfl, by decide +kernel, by decide +kernel⟩
def l_is_inside_1 : SEnv → Out := (sIfS (evAT (sAnd (sBool (sOp neO (sVar 3) (sC (.int 2)))) (sBool (sOp neO (sVar 2) (sVar 3))))) (sRet (evA (sC (.bl false)))) Out.nx)
def b_is_inside : SEnv → Out := (qS (sFor (evAI (sZip (sCons (sVar 0) (sCons (sVar 1) sNil)))) (gT 2 (gsCons (gN 2) (gsCons (gN 3) gsNil)))
    l_is_inside_1 [2, 3])
    (sRet (evA (sC (.bl true)))))
abbrev sem_is_inside : List D → RS := run 4 b_is_inside
theorem ok_is_inside (T : Txt P w K mg base cls) : Def P w K mg base (G0 cls) 1 "is_inside" 2 sem_is_inside := by
  obtain ⟨f, fd, h1, h2, h3, h4⟩ := T.f_is_inside
  refine ⟨f, fd, _, h1, h2, h3, fn_ok h4 sc_is_inside rfl 4 rfl (fun _ => trivial) fun cdv A outer s H E W hr tk hp => ?_⟩
  have I := In.mk hr tk
  have nd := (sc_is_inside).nd
  exact (dss_seq (ds_for [2, 3] hp rfl (di_A (dj_zip rfl T.b_zip (da_cons (de_var (pv 0)) (da_cons (de_var (pv 1)) da_nil)))) (dg_tup rfl (dgs_cons (dg_name nd) (dgs_cons (dg_name nd) dgs_nil)))
    (dss_one (ds_if (dy_A (DW.dt (dw_and (dt_cmp (od_ne I.hr) (de_var (pv 3)) (de_gint T.g_FREE)) (dw_and1 (dt_cmp (od_ne I.hr) (de_var (pv 2)) (de_var (pv 3))))))) (dss_one (ds_ret (dx_A de_bl))) dss_nil)))
    (dss_one (ds_ret (dx_A de_bl))))
theorem sc_lies_within : FnScope ["room", "other"] ["room", "other"] (defScope s_lies_within) := ⟨rfl, rfl, rfl, by decide +kernel, rfl, by decide +kernel, by decide +kernel⟩
def b_lies_within : SEnv → Out := (qS (fzAt 0 (sSet 0 (evA (sFn 1 sem_as_lone_room (sCons (sVar 0) sNil)))))
    (qS (fzAt 1 (sSet 1 (evA (sFn 2 sem_as_room (sCons (sCall lenO (sCons (sVar 0) sNil)) (sCons (sVar 1) sNil))))))
    (sRet (evA (sFn 2 sem_is_inside (sCons (sVar 0) (sCons (sVar 1) sNil)))))))
abbrev sem_lies_within : List D → RS := run 2 b_lies_within
theorem ok_lies_within (T : Txt P w K mg base cls) : Def P w K mg base (G0 cls) 6 "lies_within" 2 sem_lies_within := by
  obtain ⟨f, fd, h1, h2, h3, h4⟩ := T.f_lies_within
  refine ⟨f, fd, _, h1, h2, h3, fn_ok h4 sc_lies_within rfl 2 rfl (fun _ => trivial) fun cdv A outer s H E W hr tk hp => ?_⟩
  have I := In.mk hr tk
  have nd := (sc_lies_within).nd
  exact (dss_seq (ds_fz 0 (ds_set (dx_A (de_def (ok_as_lone_room T) I (da_cons (de_var (pv 0)) da_nil))) nd))
    (dss_seq (ds_fz 1 (ds_set (dx_A (de_def (ok_as_room T) I (da_cons (de_callB cd_len rfl T.b_len (by decide +kernel) (da_cons (de_var (pv 0)) da_nil)) (da_cons (de_var (pv 1)) da_nil)))) nd))
    (dss_one (ds_ret (dx_A (de_def (ok_is_inside T) I (da_cons (de_var (pv 0)) (da_cons (de_var (pv 1)) da_nil))))))))
theorem sc_same_sized : FnScope ["first", "others", "rooms", "other"] ["first", "others"] (defScope s_same_sized) := ⟨rfl, rfl, rfl, by decide +kernel, rfl, by decide +kernel, by decide +kernel⟩
def l_same_sized_1 : SEnv → Out := (sDrop (sMut1 2 (evA (sFn 2 sem_as_room (sCons (sCall lenO (sCons (sVar 0) sNil)) (sCons (sVar 3) sNil)))) fAppend))
def b_same_sized : SEnv → Out := (qS (fzAt 0 (sSet 0 (evA (sFn 1 sem_as_lone_room (sCons (sVar 0) sNil)))))
    (qS (sSet 2 (evA (sLst (sCons (sVar 0) sNil))))
    (qS (sFor (evAI (sSeq (sVar 1))) (gN 3)
    l_same_sized_1 [3])
    (sRet (evM 2)))))
abbrev sem_same_sized : List D → RS := run 4 b_same_sized
theorem ok_same_sized (T : Txt P w K mg base cls) : Def P w K mg base (G0 cls) 6 "same_sized" 2 sem_same_sized := by
  obtain ⟨f, fd, h1, h2, h3, h4⟩ := T.f_same_sized
  refine ⟨f, fd, _, h1, h2, h3, fn_ok h4 sc_same_sized rfl 4 rfl (fun _ => trivial) fun cdv A outer s H E W hr tk hp => ?_⟩
  have I := In.mk hr tk
  have nd := (sc_same_sized).nd
  exact (dss_seq (ds_fz 0 (ds_set (dx_A (de_def (ok_as_lone_room T) I (da_cons (de_var (pv 0)) da_nil))) nd))
    (dss_seq (ds_set (dx_A (de_lst (da_cons (de_var (pv 0)) da_nil))) nd)
    (dss_seq (ds_for [3] hp rfl (di_A (dj_seq (de_var (pv 1)))) (dg_name nd)
    (dss_one (ds_expr (dx_mut1 mu_append PySem.F.slot_list_append PySem.F.type_list_append (pv 2) (dx_A (de_def (ok_as_room T) I (da_cons (de_callB cd_len rfl T.b_len (by decide +kernel) (da_cons (de_var (pv 0)) da_nil)) (da_cons (de_var (pv 3)) da_nil))))))))
    (dss_one (ds_ret (dx_mv (pv 2)))))))
theorem sc_meet : FnScope ["first", "others", "rooms", "marks", "room", "house", "mark"] ["first", "others"] (defScope s_meet) := ⟨rfl, rfl, rfl, by decide +kernel, rfl, by decide +kernel, by decide +kernel⟩
def l_meet_1 : SEnv → Out := (sIfS (evBT (sBool (sOp eqO (sOp ixO (sVar 3) (sVar 5)) (sC (.int 2))))) (sSetIx 3 (evA (sVar 6)) (evA (sVar 5))) (sIfS (evBT (sBool (sOp notInO (sVar 6) (sTup (sCons (sC (.int 2)) (sCons (sOp ixO (sVar 3) (sVar 5)) sNil)))))) (sRet (evA (sC .non))) Out.nx))
def l_meet_2 : SEnv → Out := (sFor (evAI (sEnum (sCons (sVar 4) sNil))) (gT 2 (gsCons (gN 5) (gsCons (gN 6) gsNil)))
    l_meet_1 [5, 6])
def b_meet : SEnv → Out := (qS (fzAt 2 (sSet 2 (evA (sFn 2 sem_same_sized (sCons (sVar 0) (sCons (sVar 1) sNil))))))
    (qS (sSet 3 (evA (sCall lstF (sCons (sOp ixO (sVar 2) (sC (.int 0))) sNil))))
    (qS (sFor (evAI (sSeq (sVar 2))) (gN 4)
    l_meet_2 [4, 5, 6])
    (sRet (evC (sCall tupF (sCons (sVar 3) sNil)))))))
abbrev sem_meet : List D → RS := runS 7 1 b_meet
theorem ok_meet (T : Txt P w K mg base cls) : DefS P w K mg base (G0 cls) 7 "meet" 1 sem_meet := by
  obtain ⟨f, oc, od, doc, pm, an, cdv, ct, osl, h1, h2, h3, h4⟩ := T.f_meet
  refine ⟨f, h1, h2, fn_okS h3 h4 (ps := ["first"]) sc_meet 1 7 rfl rfl (fun _ => trivial) (StX.bind_star1 (B := fun us => bindArgs (PySem.W.fnOf "meet" "meet" (defArgs s_meet) (defBody s_meet) (defScope s_meet) Value.none Value.none doc pm an cdv ct) ⟨us, []⟩) (p1 := "first") (pv := "others") (fun _ => rfl) (fun _ _ _ => rfl)) fun A outer s H E W hr tk hp => ?_⟩
  have I := In.mk hr tk
  have nd := (sc_meet).nd
  exact (dss_seq (ds_fz 2 (ds_set (dx_A (de_def (ok_same_sized T) I (da_cons (de_var (pv 0)) (da_cons (de_var (pv 1)) da_nil)))) nd))
    (dss_seq (ds_set (dx_A (de_callTy cd_lst rfl T.b_list (by decide +kernel) (da_cons (de_ix ixd (de_var (pv 2)) de_int) da_nil))) nd)
    (dss_seq (ds_for [4, 5, 6] hp rfl (di_A (dj_seq (de_var (pv 2)))) (dg_name nd)
    (dss_one (ds_for [5, 6] hp rfl (di_A (dj_enum rfl T.b_enumerate (da_cons (de_var (pv 4)) da_nil))) (dg_tup rfl (dgs_cons (dg_name nd) (dgs_cons (dg_name nd) dgs_nil)))
    (dss_one (ds_if (dy_B (dt_cmp (od_eq I.hr) (de_ix ixd (de_var (pv 3)) (de_var (pv 5))) (de_gint T.g_FREE))) (dss_one (ds_setix (pv 3) (dx_A (de_var (pv 6))) (dx_A (de_var (pv 5))))) (dss_one (ds_if (dy_B (dt_cmp (od_notIn I.hr) (de_var (pv 6)) (de_tup (da_cons (de_gint T.g_FREE) (da_cons (de_ix ixd (de_var (pv 3)) (de_var (pv 5))) da_nil))))) (dss_one (ds_ret (dx_A de_non))) dss_nil)))))))
    (dss_one (ds_ret (dx_C (de_callTy cd_tup rfl T.b_tuple (by decide +kernel) (da_cons (de_var (pv 3)) da_nil))))))))
theorem sc_join : FnScope ["first", "others", "rooms", "marks", "room", "house", "mark"] ["first", "others"] (defScope s_join) := ⟨rfl, rfl, rfl, by decide +kernel, rfl, by decide +kernel, by decide +kernel⟩
def l_join_1 : SEnv → Out := (sIfS (evBT (sBool (sOp neO (sVar 6) (sOp ixO (sVar 3) (sVar 5))))) (sSetIx 3 (evA (sC (.int 2))) (evA (sVar 5))) Out.nx)
def l_join_2 : SEnv → Out := (sFor (evAI (sEnum (sCons (sVar 4) sNil))) (gT 2 (gsCons (gN 5) (gsCons (gN 6) gsNil)))
    l_join_1 [5, 6])
def b_join : SEnv → Out := (qS (fzAt 2 (sSet 2 (evA (sFn 2 sem_same_sized (sCons (sVar 0) (sCons (sVar 1) sNil))))))
    (qS (sSet 3 (evA (sCall lstF (sCons (sOp ixO (sVar 2) (sC (.int 0))) sNil))))
    (qS (sFor (evAI (sSeq (sVar 2))) (gN 4)
    l_join_2 [4, 5, 6])
    (sRet (evC (sCall tupF (sCons (sVar 3) sNil)))))))
abbrev sem_join : List D → RS := runS 7 1 b_join
theorem ok_join (T : Txt P w K mg base cls) : DefS P w K mg base (G0 cls) 7 "join" 1 sem_join := by
  obtain ⟨f, oc, od, doc, pm, an, cdv, ct, osl, h1, h2, h3, h4⟩ := T.f_join
  refine ⟨f, h1, h2, fn_okS h3 h4 (ps := ["first"]) sc_join 1 7 rfl rfl (fun _ => trivial) (StX.bind_star1 (B := fun us => bindArgs (PySem.W.fnOf "join" "join" (defArgs s_join) (defBody s_join) (defScope s_join) Value.none Value.none doc pm an cdv ct) ⟨us, []⟩) (p1 := "first") (pv := "others") (fun _ => rfl) (fun _ _ _ => rfl)) fun A outer s H E W hr tk hp => ?_⟩
  have I := In.mk hr tk
  have nd := (sc_join).nd
  exact (dss_seq (ds_fz 2 (ds_set (dx_A (de_def (ok_same_sized T) I (da_cons (de_var (pv 0)) (da_cons (de_var (pv 1)) da_nil)))) nd))
    (dss_seq (ds_set (dx_A (de_callTy cd_lst rfl T.b_list (by decide +kernel) (da_cons (de_ix ixd (de_var (pv 2)) de_int) da_nil))) nd)
    (dss_seq (ds_for [4, 5, 6] hp rfl (di_A (dj_seq (de_var (pv 2)))) (dg_name nd)
    (dss_one (ds_for [5, 6] hp rfl (di_A (dj_enum rfl T.b_enumerate (da_cons (de_var (pv 4)) da_nil))) (dg_tup rfl (dgs_cons (dg_name nd) (dgs_cons (dg_name nd) dgs_nil)))
    (dss_one (ds_if (dy_B (dt_cmp (od_ne I.hr) (de_var (pv 6)) (de_ix ixd (de_var (pv 3)) (de_var (pv 5))))) (dss_one (ds_setix (pv 3) (dx_A (de_gint T.g_FREE)) (dx_A (de_var (pv 5))))) dss_nil)))))
    (dss_one (ds_ret (dx_C (de_callTy cd_tup rfl T.b_tuple (by decide +kernel) (da_cons (de_var (pv 3)) da_nil))))))))
theorem sc__law_cell : FnScope ["_law_script", "_law_k"] ["_law_script", "_law_k"] (defScope s__law_cell) := ⟨rfl, rfl, rfl, by decide +kernel, rfl, by decide +kernel, by decide +kernel⟩
def b__law_cell : SEnv → Out := (qS (sIfS (evAT (sBool (sOp ltO (sVar 1) (sCall lenO (sCons (sVar 0) sNil))))) (sRet (evA (sCall intF (sCons (sOp ixO (sVar 0) (sVar 1)) sNil)))) Out.nx)
    (sRet (evA (sC (.int 0)))))
abbrev sem__law_cell : List D → RS := run 2 b__law_cell
theorem ok__law_cell (T : Txt P w K mg base cls) : Def P w K mg base (G0 cls) 1 "_law_cell" 2 sem__law_cell := by
  obtain ⟨f, fd, h1, h2, h3, h4⟩ := T.f__law_cell
  refine ⟨f, fd, _, h1, h2, h3, fn_ok h4 sc__law_cell rfl 2 rfl (fun _ => trivial) fun cdv A outer s H E W hr tk hp => ?_⟩
  have I := In.mk hr tk
  have nd := (sc__law_cell).nd
  exact (dss_seq (ds_if (dy_A (dt_cmp od_lt (de_var (pv 1)) (de_callB cd_len rfl T.b_len (by decide +kernel) (da_cons (de_var (pv 0)) da_nil)))) (dss_one (ds_ret (dx_A (de_callTy cd_int rfl T.b_int (by decide +kernel) (da_cons (de_ix ixd (de_var (pv 0)) (de_var (pv 1))) da_nil))))) dss_nil)
    (dss_one (ds_ret (dx_A de_int))))
theorem sc__law_draws : FnScope ["_law_cell_here", "_law_sizes", "_law_rest", "_law_draws_here", "_law_k", "_law_mixed"] ["_law_cell_here", "_law_sizes"] (defScope s__law_draws) := ⟨rfl, rfl, rfl, by decide +kernel, rfl, by decide +kernel, by decide +kernel⟩
def l__law_draws_1 : SEnv → Out := (sIfS (evAT (sBool (sOp geO (sCall absF (sCons (sVar 0) sNil)) (sOp powO (sC (.int 10)) (sC (.int 18)))))) (qS (sDrop (sMut1 3 (evA (sOp modO (sCall intF (sCons (sVar 2) sNil)) (sOp ixO (sVar 1) (sVar 4)))) fAppend))
    (fzAt 2 (sSet 2 (evA (sOp fdivO (sVar 2) (sOp ixO (sVar 1) (sVar 4))))))) (qS (fzAt 5 (sSet 5 (evA (sOp modO (sCall intF (sCons (sOp mulO (sOp mulO (sOp addO (sOp modO (sCall intF (sCons (sCall absF (sCons (sVar 0) sNil)) sNil)) (sC (.int 2147483647))) (sC (.int 1))) (sOp addO (sOp mulO (sC (.int 2)) (sVar 4)) (sC (.int 7)))) (sC (.int 48271))) sNil)) (sC (.int 2147483647))))))
    (qS (fzAt 5 (sSet 5 (evA (sOp modO (sCall intF (sCons (sOp mulO (sOp addO (sVar 5) (sVar 4)) (sOp addO (sVar 5) (sC (.int 69621)))) sNil)) (sC (.int 1000000007))))))
    (sDrop (sMut1 3 (evA (sOp modO (sCall intF (sCons (sOp fdivO (sVar 5) (sC (.int 11))) sNil)) (sOp ixO (sVar 1) (sVar 4)))) fAppend)))))
def b__law_draws : SEnv → Out := (qS (fzAt 2 (sSet 2 (evA (sCall absF (sCons (sVar 0) sNil)))))
    (qS (sSet 3 (evA (sLst sNil)))
    (qS (sFor (evAI (sRange1 (sCons (sCall lenO (sCons (sVar 1) sNil)) sNil))) (gN 4)
    l__law_draws_1 [4, 5])
    (sRet (evM 3)))))
abbrev sem__law_draws : List D → RS := run 6 b__law_draws
theorem ok__law_draws (T : Txt P w K mg base cls) : Def P w K mg base (G0 cls) 1 "_law_draws" 2 sem__law_draws := by
  obtain ⟨f, fd, h1, h2, h3, h4⟩ := T.f__law_draws
  refine ⟨f, fd, _, h1, h2, h3, fn_ok h4 sc__law_draws rfl 6 rfl (fun _ => trivial) fun cdv A outer s H E W hr tk hp => ?_⟩
  have I := In.mk hr tk
  have nd := (sc__law_draws).nd
  exact (dss_seq (ds_fz 2 (ds_set (dx_A (de_callB cd_abs rfl T.b_abs (by decide +kernel) (da_cons (de_var (pv 0)) da_nil))) nd))
    (dss_seq (ds_set (dx_A (de_lst da_nil)) nd)
    (dss_seq (ds_for [4, 5] hp rfl (di_A (dj_range1 rfl T.b_range (da_cons (de_callB cd_len rfl T.b_len (by decide +kernel) (da_cons (de_var (pv 1)) da_nil)) da_nil))) (dg_name nd)
    (dss_one (ds_if (dy_A (dt_cmp od_ge (de_callB cd_abs rfl T.b_abs (by decide +kernel) (da_cons (de_var (pv 0)) da_nil)) (de_op od_pow de_int de_int))) (dss_seq (ds_expr (dx_mut1 mu_append PySem.F.slot_list_append PySem.F.type_list_append (pv 3) (dx_A (de_op od_mod (de_callTy cd_int rfl T.b_int (by decide +kernel) (da_cons (de_var (pv 2)) da_nil)) (de_ix ixd (de_var (pv 1)) (de_var (pv 4)))))))
    (dss_one (ds_fz 2 (ds_set (dx_A (de_op od_fdiv (de_var (pv 2)) (de_ix ixd (de_var (pv 1)) (de_var (pv 4))))) nd)))) (dss_seq (ds_fz 5 (ds_set (dx_A (de_op od_mod (de_callTy cd_int rfl T.b_int (by decide +kernel) (da_cons (de_op od_mul (de_op od_mul (de_op od_add (de_op od_mod (de_callTy cd_int rfl T.b_int (by decide +kernel) (da_cons (de_callB cd_abs rfl T.b_abs (by decide +kernel) (da_cons (de_var (pv 0)) da_nil)) da_nil)) de_int) de_int) (de_op od_add (de_op od_mul de_int (de_var (pv 4))) de_int)) de_int) da_nil)) de_int)) nd))
    (dss_seq (ds_fz 5 (ds_set (dx_A (de_op od_mod (de_callTy cd_int rfl T.b_int (by decide +kernel) (da_cons (de_op od_mul (de_op od_add (de_var (pv 5)) (de_var (pv 4))) (de_op od_add (de_var (pv 5)) de_int)) da_nil)) de_int)) nd))
    (dss_one (ds_expr (dx_mut1 mu_append PySem.F.slot_list_append PySem.F.type_list_append (pv 3) (dx_A (de_op od_mod (de_callTy cd_int rfl T.b_int (by decide +kernel) (da_cons (de_op od_fdiv (de_var (pv 5)) de_int) da_nil)) (de_ix ixd (de_var (pv 1)) (de_var (pv 4)))))))))))))
    (dss_one (ds_ret (dx_mv (pv 3)))))))
theorem sc__law_rooms : FnScope ["_law_script", "_law_size", "_law_mode", "_law_base", "_law_rooms_here", "_law_k", "_law_draws_here", "_law_marks", "_law_house", "_law_freed", "_law_draw"] ["_law_script", "_law_size"] (defScope s__law_rooms) := ⟨rfl, rfl, rfl, by decide +kernel, rfl, by decide +kernel, by decide +kernel⟩
def l__law_rooms_1 : SEnv → Out := (qS (fzAt 6 (sSet 6 (evA (sFn 2 sem__law_draws (sCons (sFn 2 sem__law_cell (sCons (sVar 0) (sCons (sOp addO (sC (.int 3)) (sVar 5)) sNil))) (sCons (sOp mulO (sLst (sCons (sC (.int 6)) sNil)) (sVar 1)) sNil))))))
    (qS (sSet 7 (evA (sLc (sSeq (sVar 6)) (.nm 10) (fun _ => .ok true) (sOp modO (sCall intF (sCons (sVar 10) sNil)) (sC (.int 3))) [10])))
    (qS (sIfS (evAT (sBool (sOp gtO (sVar 2) (sC (.int 0))))) (sSet 7 (evA (sLc (sRange1 (sCons (sVar 1) sNil)) (.nm 8) (fun _ => .ok true) (sIf (sBool (sOp ltO (sOp ixO (sVar 6) (sVar 8)) (sC (.int 3)))) (sOp ixO (sVar 3) (sVar 8)) (sC (.int 2))) [8]))) Out.nx)
    (sAppT 4 (evM 7)))))
def b__law_rooms : SEnv → Out := (qS (fzAt 2 (sSet 2 (evA (sOp modO (sCall intF (sCons (sFn 2 sem__law_cell (sCons (sVar 0) (sCons (sC (.int 1)) sNil))) sNil)) (sC (.int 3))))))
    (qS (fzAt 3 (sSet 3 (evA (sFn 2 sem__law_draws (sCons (sFn 2 sem__law_cell (sCons (sVar 0) (sCons (sC (.int 2)) sNil))) (sCons (sOp mulO (sLst (sCons (sC (.int 2)) sNil)) (sVar 1)) sNil))))))
    (qS (sSet 4 (evA (sLst sNil)))
    (qS (sFor (evAI (sRange1 (sCons (sC (.int 3)) sNil))) (gN 5)
    l__law_rooms_1 [5, 6, 7])
    (qS (fzAt 8 (sSet 8 (evA (sOp modO (sCall intF (sCons (sFn 2 sem__law_cell (sCons (sVar 0) (sCons (sC (.int 6)) sNil))) sNil)) (sVar 1)))))
    (qS (sIfS (evAT (sBool (sOp eqO (sVar 2) (sC (.int 2))))) (sSetIx2 4 (evA (sOp subO (sC (.int 1)) (sOp ixO (sVar 3) (sVar 8)))) (sC (.int 1)) (sVar 8)) Out.nx)
    (qS (sSet 9 (evB (sCall lstF (sCons (sOp ixO (sVar 4) (sC (.int 0))) sNil))))
    (qS (sSetIx 9 (evA (sC (.int 2))) (evA (sVar 8)))
    (qS (sAppT 4 (evM 9))
    (sRet (evM 4)))))))))))
abbrev sem__law_rooms : List D → RS := run 11 b__law_rooms
theorem ok__law_rooms (T : Txt P w K mg base cls) : Def P w K mg base (G0 cls) 2 "_law_rooms" 2 sem__law_rooms := by
  obtain ⟨f, fd, h1, h2, h3, h4⟩ := T.f__law_rooms
  refine ⟨f, fd, _, h1, h2, h3, fn_ok h4 sc__law_rooms rfl 11 rfl (fun _ => trivial) fun cdv A outer s H E W hr tk hp => ?_⟩
  have I := In.mk hr tk
  have nd := (sc__law_rooms).nd
  exact (dss_seq (ds_fz 2 (ds_set (dx_A (de_op od_mod (de_callTy cd_int rfl T.b_int (by decide +kernel) (da_cons (de_def (ok__law_cell T) I (da_cons (de_var (pv 0)) (da_cons de_int da_nil))) da_nil)) de_int)) nd))
    (dss_seq (ds_fz 3 (ds_set (dx_A (de_def (ok__law_draws T) I (da_cons (de_def (ok__law_cell T) I (da_cons (de_var (pv 0)) (da_cons de_int da_nil))) (da_cons (de_op od_mul (de_lst (da_cons de_int da_nil)) (de_var (pv 1))) da_nil)))) nd))
    (dss_seq (ds_set (dx_A (de_lst da_nil)) nd)
    (dss_seq (ds_for [5, 6, 7] hp rfl (di_A (dj_range1 rfl T.b_range (da_cons de_int da_nil))) (dg_name nd)
    (dss_seq (ds_fz 6 (ds_set (dx_A (de_def (ok__law_draws T) I (da_cons (de_def (ok__law_cell T) I (da_cons (de_var (pv 0)) (da_cons (de_op od_add de_int (de_var (pv 5))) da_nil))) (da_cons (de_op od_mul (de_lst (da_cons de_int da_nil)) (de_var (pv 1))) da_nil)))) nd))
    (dss_seq (ds_setLcI (i := 7) [("_law_draw", 10)] (fun _ _ _ q => xA q) I rfl nd (dj_seq (de_var (pv 6))) (blkOk_by (N := ["_law_script", "_law_size", "_law_mode", "_law_base", "_law_rooms_here", "_law_k", "_law_draws_here", "_law_marks", "_law_house", "_law_freed", "_law_draw"]) (sc := defScope s__law_rooms) (by decide +kernel)) (fun _ _ _ _ _ => pg_name (i := 10) nd rfl (by first | exact Or.inl rfl | exact Or.inr rfl)) (fun _ _ _ _ _ I => pts_nilD) (fun _ _ _ _ _ I => (de_op od_mod (de_callTy cd_int rfl T.b_int (by decide +kernel) (da_cons (de_var (pv 10)) da_nil)) de_int)))
    (dss_seq (ds_if (dy_A (dt_cmp od_gt (de_var (pv 2)) de_int)) (dss_one (ds_setLcI (i := 7) [("_law_house", 8)] (fun _ _ _ q => xA q) I rfl nd (dj_range1 rfl T.b_range (da_cons (de_var (pv 1)) da_nil)) (blkOk_by (N := ["_law_script", "_law_size", "_law_mode", "_law_base", "_law_rooms_here", "_law_k", "_law_draws_here", "_law_marks", "_law_house", "_law_freed", "_law_draw"]) (sc := defScope s__law_rooms) (by decide +kernel)) (fun _ _ _ _ _ => pg_name (i := 8) nd rfl (by first | exact Or.inl rfl | exact Or.inr rfl)) (fun _ _ _ _ _ I => pts_nilD) (fun _ _ _ _ _ I => (de_if (dt_cmp od_lt (de_ix ixd (de_var (pv 6)) (de_var (pv 8))) de_int) (de_ix ixd (de_var (pv 3)) (de_var (pv 8))) de_int)))) dss_nil)
    (dss_one (ds_appT (pv 4) (dx_mv (pv 7))))))))
    (dss_seq (ds_fz 8 (ds_set (dx_A (de_op od_mod (de_callTy cd_int rfl T.b_int (by decide +kernel) (da_cons (de_def (ok__law_cell T) I (da_cons (de_var (pv 0)) (da_cons de_int da_nil))) da_nil)) (de_var (pv 1)))) nd))
    (dss_seq (ds_if (dy_A (dt_cmp (od_eq I.hr) (de_var (pv 2)) de_int)) (dss_one (ds_setix2 (pv 4) (dx_A (de_op od_sub de_int (de_ix ixd (de_var (pv 3)) (de_var (pv 8))))) de_int (de_var (pv 8)) (by intro _ _; rfl))) dss_nil)
    (dss_seq (ds_set (dx_B (de_callTy cd_lst rfl T.b_list (by decide +kernel) (da_cons (de_ix ixd (de_var (pv 4)) de_int) da_nil))) nd)
    (dss_seq (ds_setix (pv 9) (dx_A de_int) (dx_A (de_var (pv 8))))
    (dss_seq (ds_appT (pv 4) (dx_mv (pv 9)))
    (dss_one (ds_ret (dx_mv (pv 4)))))))))))))
theorem sc__law_states : FnScope ["_law_room", "_law_states_here", "_law_k", "_law_mark", "_law_off", "_law_on", "_law_state"] ["_law_room"] (defScope s__law_states) := ⟨rfl, rfl, rfl, by decide +kernel, rfl, by decide +kernel, by decide +kernel⟩
def l__law_states_1 : SEnv → Out := (qS (fzAt 3 (sSet 3 (evA (sOp ixO (sVar 0) (sOp subO (sOp subO (sCall lenO (sCons (sVar 0) sNil)) (sC (.int 1))) (sVar 2))))))
    (qS (fzAt 4 (sSet 4 (evA (sLc (sSeq (sVar 1)) (.nm 6) (sBool (sOp neO (sVar 3) (sC (.int 1)))) (sOp addO (sTup (sCons (sC (.int 0)) sNil)) (sVar 6)) [6]))))
    (qS (fzAt 5 (sSet 5 (evA (sLc (sSeq (sVar 1)) (.nm 6) (sBool (sOp neO (sVar 3) (sC (.int 0)))) (sOp addO (sTup (sCons (sC (.int 1)) sNil)) (sVar 6)) [6]))))
    (fzAt 1 (sSet 1 (evA (sOp addO (sVar 4) (sVar 5))))))))
def b__law_states : SEnv → Out := (qS (fzAt 1 (sSet 1 (evA (sLst (sCons (sTup sNil) sNil)))))
    (qS (sFor (evAI (sRange1 (sCons (sCall lenO (sCons (sVar 0) sNil)) sNil))) (gN 2)
    l__law_states_1 [2, 3, 4, 5])
    (sRet (evA (sVar 1)))))
abbrev sem__law_states : List D → RS := run 7 b__law_states
theorem ok__law_states (T : Txt P w K mg base cls) : Def P w K mg base (G0 cls) 1 "_law_states" 1 sem__law_states := by
  obtain ⟨f, fd, h1, h2, h3, h4⟩ := T.f__law_states
  refine ⟨f, fd, _, h1, h2, h3, fn_ok h4 sc__law_states rfl 7 rfl (fun _ => trivial) fun cdv A outer s H E W hr tk hp => ?_⟩
  have I := In.mk hr tk
  have nd := (sc__law_states).nd
  exact (dss_seq (ds_fz 1 (ds_set (dx_A (de_lst (da_cons (de_tup da_nil) da_nil))) nd))
    (dss_seq (ds_for [2, 3, 4, 5] hp rfl (di_A (dj_range1 rfl T.b_range (da_cons (de_callB cd_len rfl T.b_len (by decide +kernel) (da_cons (de_var (pv 0)) da_nil)) da_nil))) (dg_name nd)
    (dss_seq (ds_fz 3 (ds_set (dx_A (de_ix ixd (de_var (pv 0)) (de_op od_sub (de_op od_sub (de_callB cd_len rfl T.b_len (by decide +kernel) (da_cons (de_var (pv 0)) da_nil)) de_int) (de_var (pv 2))))) nd))
    (dss_seq (ds_fz 4 (ds_setLcI (i := 4) [("_law_state", 6)] (fun _ _ _ q => xA q) I rfl nd (dj_seq (de_var (pv 1))) (blkOk_by (N := ["_law_room", "_law_states_here", "_law_k", "_law_mark", "_law_off", "_law_on", "_law_state"]) (sc := defScope s__law_states) (by decide +kernel)) (fun _ _ _ _ _ => pg_name (i := 6) nd rfl (by first | exact Or.inl rfl | exact Or.inr rfl)) (fun _ _ _ _ _ I => pts_oneD (dt_cmp (od_ne I.hr) (de_var (pv 3)) de_int)) (fun _ _ _ _ _ I => (de_op od_add (de_tup (da_cons de_int da_nil)) (de_var (pv 6))))))
    (dss_seq (ds_fz 5 (ds_setLcI (i := 5) [("_law_state", 6)] (fun _ _ _ q => xA q) I rfl nd (dj_seq (de_var (pv 1))) (blkOk_by (N := ["_law_room", "_law_states_here", "_law_k", "_law_mark", "_law_off", "_law_on", "_law_state"]) (sc := defScope s__law_states) (by decide +kernel)) (fun _ _ _ _ _ => pg_name (i := 6) nd rfl (by first | exact Or.inl rfl | exact Or.inr rfl)) (fun _ _ _ _ _ I => pts_oneD (dt_cmp (od_ne I.hr) (de_var (pv 3)) de_int)) (fun _ _ _ _ _ I => (de_op od_add (de_tup (da_cons de_int da_nil)) (de_var (pv 6))))))
    (dss_one (ds_fz 1 (ds_set (dx_A (de_op od_add (de_var (pv 4)) (de_var (pv 5)))) nd)))))))
    (dss_one (ds_ret (dx_A (de_var (pv 1)))))))
theorem sc__law_inside : FnScope ["_law_room", "_law_other", "_law_k"] ["_law_room", "_law_other"] (defScope s__law_inside) := ⟨rfl, rfl, rfl, by decide +kernel, rfl, by decide +kernel, by decide +kernel⟩
def b__law_inside : SEnv → Out := (sRet (evA (sNotT (sLc (sRange1 (sCons (sCall lenO (sCons (sVar 0) sNil)) sNil)) (.nm 2) (sAnd (sBool (sOp neO (sOp ixO (sVar 1) (sVar 2)) (sC (.int 2)))) (sBool (sOp neO (sOp ixO (sVar 0) (sVar 2)) (sOp ixO (sVar 1) (sVar 2))))) (sVar 2) [2]))))
abbrev sem__law_inside : List D → RS := run 3 b__law_inside
theorem ok__law_inside (T : Txt P w K mg base cls) : Def P w K mg base (G0 cls) 1 "_law_inside" 2 sem__law_inside := by
  obtain ⟨f, fd, h1, h2, h3, h4⟩ := T.f__law_inside
  refine ⟨f, fd, _, h1, h2, h3, fn_ok h4 sc__law_inside rfl 3 rfl (fun _ => trivial) fun cdv A outer s H E W hr tk hp => ?_⟩
  have I := In.mk hr tk
  have nd := (sc__law_inside).nd
  exact (dss_one (ds_ret (dx_A (de_notT (de_lcI [("_law_k", 2)] I rfl nd (dj_range1 rfl T.b_range (da_cons (de_callB cd_len rfl T.b_len (by decide +kernel) (da_cons (de_var (pv 0)) da_nil)) da_nil)) (blkOk_by (N := ["_law_room", "_law_other", "_law_k"]) (sc := defScope s__law_inside) (by decide +kernel)) (fun _ _ _ _ _ => pg_name (i := 2) nd rfl (by first | exact Or.inl rfl | exact Or.inr rfl)) (fun _ _ _ _ _ I => pts_oneD (DW.dt (dw_and (dt_cmp (od_ne I.hr) (de_ix ixd (de_var (pv 1)) (de_var (pv 2))) de_int) (dw_and1 (dt_cmp (od_ne I.hr) (de_ix ixd (de_var (pv 0)) (de_var (pv 2))) (de_ix ixd (de_var (pv 1)) (de_var (pv 2)))))))) (fun _ _ _ _ _ I => (de_var (pv 2))))))))
theorem sc__law_meet : FnScope ["_law_rooms_here", "_law_marks", "_law_k", "_law_fixed", "_law_room"] ["_law_rooms_here"] (defScope s__law_meet) := ⟨rfl, rfl, rfl, by decide +kernel, rfl, by decide +kernel, by decide +kernel⟩
def l__law_meet_1 : SEnv → Out := (qS (fzAt 3 (sSet 3 (evA (sLc (sSeq (sVar 0)) (.nm 4) (sBool (sOp neO (sOp ixO (sVar 4) (sVar 2)) (sC (.int 2)))) (sOp ixO (sVar 4) (sVar 2)) [4]))))
    (qS (sIfS (evAT (sAnd (sBool (sOp inO (sC (.int 0)) (sVar 3))) (sBool (sOp inO (sC (.int 1)) (sVar 3))))) (sRet (evA (sC .non))) Out.nx)
    (sDrop (sMut1 1 (evA (sIf (sTru (sVar 3)) (sOp ixO (sVar 3) (sC (.int 0))) (sC (.int 2)))) fAppend))))
def b__law_meet : SEnv → Out := (qS (sSet 1 (evA (sLst sNil)))
    (qS (sFor (evAI (sRange1 (sCons (sCall lenO (sCons (sOp ixO (sVar 0) (sC (.int 0))) sNil)) sNil))) (gN 2)
    l__law_meet_1 [2, 3])
    (sRet (evC (sCall tupF (sCons (sVar 1) sNil))))))
abbrev sem__law_meet : List D → RS := run 5 b__law_meet
theorem ok__law_meet (T : Txt P w K mg base cls) : Def P w K mg base (G0 cls) 1 "_law_meet" 1 sem__law_meet := by
  obtain ⟨f, fd, h1, h2, h3, h4⟩ := T.f__law_meet
  refine ⟨f, fd, _, h1, h2, h3, fn_ok h4 sc__law_meet rfl 5 rfl (fun _ => trivial) fun cdv A outer s H E W hr tk hp => ?_⟩
  have I := In.mk hr tk
  have nd := (sc__law_meet).nd
  exact (dss_seq (ds_set (dx_A (de_lst da_nil)) nd)
    (dss_seq (ds_for [2, 3] hp rfl (di_A (dj_range1 rfl T.b_range (da_cons (de_callB cd_len rfl T.b_len (by decide +kernel) (da_cons (de_ix ixd (de_var (pv 0)) de_int) da_nil)) da_nil))) (dg_name nd)
    (dss_seq (ds_fz 3 (ds_setLcI (i := 3) [("_law_room", 4)] (fun _ _ _ q => xA q) I rfl nd (dj_seq (de_var (pv 0))) (blkOk_by (N := ["_law_rooms_here", "_law_marks", "_law_k", "_law_fixed", "_law_room"]) (sc := defScope s__law_meet) (by decide +kernel)) (fun _ _ _ _ _ => pg_name (i := 4) nd rfl (by first | exact Or.inl rfl | exact Or.inr rfl)) (fun _ _ _ _ _ I => pts_oneD (dt_cmp (od_ne I.hr) (de_ix ixd (de_var (pv 4)) (de_var (pv 2))) de_int)) (fun _ _ _ _ _ I => (de_ix ixd (de_var (pv 4)) (de_var (pv 2))))))
    (dss_seq (ds_if (dy_A (DW.dt (dw_and (dt_cmp (od_in I.hr) de_int (de_var (pv 3))) (dw_and1 (dt_cmp (od_in I.hr) de_int (de_var (pv 3))))))) (dss_one (ds_ret (dx_A de_non))) dss_nil)
    (dss_one (ds_expr (dx_mut1 mu_append PySem.F.slot_list_append PySem.F.type_list_append (pv 1) (dx_A (de_if (dt_tru (de_var (pv 3))) (de_ix ixd (de_var (pv 3)) de_int) de_int))))))))
    (dss_one (ds_ret (dx_C (de_callTy cd_tup rfl T.b_tuple (by decide +kernel) (da_cons (de_var (pv 1)) da_nil)))))))
theorem sc__law_join : FnScope ["_law_rooms_here", "_law_marks", "_law_k", "_law_others", "_law_room"] ["_law_rooms_here"] (defScope s__law_join) := ⟨rfl, rfl, rfl, by decide +kernel, rfl, by decide +kernel, by decide +kernel⟩
def l__law_join_1 : SEnv → Out := (qS (fzAt 3 (sSet 3 (evA (sLc (sSeq (sVar 0)) (.nm 4) (sBool (sOp neO (sOp ixO (sVar 4) (sVar 2)) (sOp ixO (sOp ixO (sVar 0) (sC (.int 0))) (sVar 2)))) (sVar 4) [4]))))
    (sDrop (sMut1 1 (evA (sIf (sTru (sVar 3)) (sC (.int 2)) (sOp ixO (sOp ixO (sVar 0) (sC (.int 0))) (sVar 2)))) fAppend)))
def b__law_join : SEnv → Out := (qS (sSet 1 (evA (sLst sNil)))
    (qS (sFor (evAI (sRange1 (sCons (sCall lenO (sCons (sOp ixO (sVar 0) (sC (.int 0))) sNil)) sNil))) (gN 2)
    l__law_join_1 [2, 3])
    (sRet (evC (sCall tupF (sCons (sVar 1) sNil))))))
abbrev sem__law_join : List D → RS := run 5 b__law_join
theorem ok__law_join (T : Txt P w K mg base cls) : Def P w K mg base (G0 cls) 1 "_law_join" 1 sem__law_join := by
  obtain ⟨f, fd, h1, h2, h3, h4⟩ := T.f__law_join
  refine ⟨f, fd, _, h1, h2, h3, fn_ok h4 sc__law_join rfl 5 rfl (fun _ => trivial) fun cdv A outer s H E W hr tk hp => ?_⟩
  have I := In.mk hr tk
  have nd := (sc__law_join).nd
  exact (dss_seq (ds_set (dx_A (de_lst da_nil)) nd)
    (dss_seq (ds_for [2, 3] hp rfl (di_A (dj_range1 rfl T.b_range (da_cons (de_callB cd_len rfl T.b_len (by decide +kernel) (da_cons (de_ix ixd (de_var (pv 0)) de_int) da_nil)) da_nil))) (dg_name nd)
    (dss_seq (ds_fz 3 (ds_setLcI (i := 3) [("_law_room", 4)] (fun _ _ _ q => xA q) I rfl nd (dj_seq (de_var (pv 0))) (blkOk_by (N := ["_law_rooms_here", "_law_marks", "_law_k", "_law_others", "_law_room"]) (sc := defScope s__law_join) (by decide +kernel)) (fun _ _ _ _ _ => pg_name (i := 4) nd rfl (by first | exact Or.inl rfl | exact Or.inr rfl)) (fun _ _ _ _ _ I => pts_oneD (dt_cmp (od_ne I.hr) (de_ix ixd (de_var (pv 4)) (de_var (pv 2))) (de_ix ixd (de_ix ixd (de_var (pv 0)) de_int) (de_var (pv 2))))) (fun _ _ _ _ _ I => (de_var (pv 4)))))
    (dss_one (ds_expr (dx_mut1 mu_append PySem.F.slot_list_append PySem.F.type_list_append (pv 1) (dx_A (de_if (dt_tru (de_var (pv 3))) de_int (de_ix ixd (de_ix ixd (de_var (pv 0)) de_int) (de_var (pv 2))))))))))
    (dss_one (ds_ret (dx_C (de_callTy cd_tup rfl T.b_tuple (by decide +kernel) (da_cons (de_var (pv 1)) da_nil)))))))
theorem sc__law_truth : FnScope ["_law_actual", "_law_expected_here"] ["_law_actual", "_law_expected_here"] (defScope s__law_truth) := ⟨rfl, rfl, rfl, by decide +kernel, rfl, by decide +kernel, by decide +kernel⟩
def b__law_truth : SEnv → Out := (sRet (evA (sAndV (sIsTy .bool (sVar 0)) (sOp eqO (sVar 0) (sVar 1)))))
abbrev sem__law_truth : List D → RS := run 2 b__law_truth
theorem ok__law_truth (T : Txt P w K mg base cls) : Def P w K mg base (G0 cls) 1 "_law_truth" 2 sem__law_truth := by
  obtain ⟨f, fd, h1, h2, h3, h4⟩ := T.f__law_truth
  refine ⟨f, fd, _, h1, h2, h3, fn_ok h4 sc__law_truth rfl 2 rfl (fun _ => trivial) fun cdv A outer s H E W hr tk hp => ?_⟩
  have I := In.mk hr tk
  have nd := (sc__law_truth).nd
  exact (dss_one (ds_ret (dx_A (de_and (de_isTy (de_var (pv 0)) rfl T.b_isinstance rfl T.b_bool (by decide +kernel)) (de_one (de_cmp (od_eq I.hr) (de_var (pv 0)) (de_var (pv 1))))))))
theorem sc__law_same : FnScope ["_law_actual", "_law_expected_here"] ["_law_actual", "_law_expected_here"] (defScope s__law_same) := ⟨rfl, rfl, rfl, by decide +kernel, rfl, by decide +kernel, by decide +kernel⟩
def b__law_same : SEnv → Out := (qS (sIfS (evAT (sBool (sOp isO (sVar 1) (sC .non)))) (sRet (evA (sOp isO (sVar 0) (sC .non)))) Out.nx)
    (sRet (evA (sAndV (sIsTy .tuple (sVar 0)) (sOp eqO (sVar 0) (sVar 1))))))
abbrev sem__law_same : List D → RS := run 2 b__law_same
theorem ok__law_same (T : Txt P w K mg base cls) : Def P w K mg base (G0 cls) 1 "_law_same" 2 sem__law_same := by
  obtain ⟨f, fd, h1, h2, h3, h4⟩ := T.f__law_same
  refine ⟨f, fd, _, h1, h2, h3, fn_ok h4 sc__law_same rfl 2 rfl (fun _ => trivial) fun cdv A outer s H E W hr tk hp => ?_⟩
  have I := In.mk hr tk
  have nd := (sc__law_same).nd
  exact (dss_seq (ds_if (dy_A (dt_cmp od_is (de_var (pv 1)) de_non)) (dss_one (ds_ret (dx_A (de_cmp od_is (de_var (pv 0)) de_non)))) dss_nil)
    (dss_one (ds_ret (dx_A (de_and (de_isTy (de_var (pv 0)) rfl T.b_isinstance rfl T.b_tuple (by decide +kernel)) (de_one (de_cmp (od_eq I.hr) (de_var (pv 0)) (de_var (pv 1)))))))))
theorem sc__law_lone_answers : FnScope ["_law_rooms_here", "_law_room", "_law_free", "_law_other", "_law_house"] ["_law_rooms_here"] (defScope s__law_lone_answers) := ⟨rfl, rfl, rfl, by decide +kernel, rfl, by decide +kernel, by decide +kernel⟩
def l__law_lone_answers_1 : SEnv → Out := (sIfS (evAT (sNot (sTru (sFn 2 sem__law_truth (sCons (sFn 2 sem_lies_within (sCons (sVar 1) (sCons (sVar 3) sNil))) (sCons (sFn 2 sem__law_inside (sCons (sVar 1) (sCons (sVar 3) sNil))) sNil)))))) (sRet (evA (sC (.bl false)))) Out.nx)
def l__law_lone_answers_2 : SEnv → Out := (qS (fzAt 2 (sSet 2 (evA (sLc (sRange1 (sCons (sCall lenO (sCons (sVar 1) sNil)) sNil)) (.nm 4) (sBool (sOp eqO (sOp ixO (sVar 1) (sVar 4)) (sC (.int 2)))) (sVar 4) [4]))))
    (qS (sIfS (evAT (sNot (sTru (sFn 2 sem__law_same (sCons (sFn 1 sem_free_houses (sCons (sVar 1) sNil)) (sCons (sCall tupF (sCons (sVar 2) sNil)) sNil)))))) (sRet (evA (sC (.bl false)))) Out.nx)
    (qS (sIfS (evAT (sAnd (sBool (sOp leO (sCall lenO (sCons (sVar 2) sNil)) (sC (.int 8)))) (sNot (sTru (sFn 2 sem__law_same (sCons (sFn 1 sem_states_of (sCons (sVar 1) sNil)) (sCons (sCall tupF (sCons (sFn 1 sem__law_states (sCons (sVar 1) sNil)) sNil)) sNil))))))) (sRet (evA (sC (.bl false)))) Out.nx)
    (sFor (evAI (sSeq (sVar 0))) (gN 3)
    l__law_lone_answers_1 [3]))))
def b__law_lone_answers : SEnv → Out := (qS (sFor (evAI (sSeq (sVar 0))) (gN 1)
    l__law_lone_answers_2 [1, 2, 3])
    (sRet (evA (sC (.bl true)))))
abbrev sem__law_lone_answers : List D → RS := run 5 b__law_lone_answers
theorem ok__law_lone_answers (T : Txt P w K mg base cls) : Def P w K mg base (G0 cls) 7 "_law_lone_answers" 1 sem__law_lone_answers := by
  obtain ⟨f, fd, h1, h2, h3, h4⟩ := T.f__law_lone_answers
  refine ⟨f, fd, _, h1, h2, h3, fn_ok h4 sc__law_lone_answers rfl 5 rfl (fun _ => trivial) fun cdv A outer s H E W hr tk hp => ?_⟩
  have I := In.mk hr tk
  have nd := (sc__law_lone_answers).nd
  exact (dss_seq (ds_for [1, 2, 3] hp rfl (di_A (dj_seq (de_var (pv 0)))) (dg_name nd)
    (dss_seq (ds_fz 2 (ds_setLcI (i := 2) [("_law_house", 4)] (fun _ _ _ q => xA q) I rfl nd (dj_range1 rfl T.b_range (da_cons (de_callB cd_len rfl T.b_len (by decide +kernel) (da_cons (de_var (pv 1)) da_nil)) da_nil)) (blkOk_by (N := ["_law_rooms_here", "_law_room", "_law_free", "_law_other", "_law_house"]) (sc := defScope s__law_lone_answers) (by decide +kernel)) (fun _ _ _ _ _ => pg_name (i := 4) nd rfl (by first | exact Or.inl rfl | exact Or.inr rfl)) (fun _ _ _ _ _ I => pts_oneD (dt_cmp (od_eq I.hr) (de_ix ixd (de_var (pv 1)) (de_var (pv 4))) de_int)) (fun _ _ _ _ _ I => (de_var (pv 4)))))
    (dss_seq (ds_if (dy_A (dt_not (dt_tru (de_def (ok__law_same T) I (da_cons (de_def (ok_free_houses T) I (da_cons (de_var (pv 1)) da_nil)) (da_cons (de_callTy cd_tup rfl T.b_tuple (by decide +kernel) (da_cons (de_var (pv 2)) da_nil)) da_nil)))))) (dss_one (ds_ret (dx_A de_bl))) dss_nil)
    (dss_seq (ds_if (dy_A (DW.dt (dw_and (dt_cmp od_le (de_callB cd_len rfl T.b_len (by decide +kernel) (da_cons (de_var (pv 2)) da_nil)) de_int) (dw_and1 (dt_not (dt_tru (de_def (ok__law_same T) I (da_cons (de_def (ok_states_of T) I (da_cons (de_var (pv 1)) da_nil)) (da_cons (de_callTy cd_tup rfl T.b_tuple (by decide +kernel) (da_cons (de_def (ok__law_states T) I (da_cons (de_var (pv 1)) da_nil)) da_nil)) da_nil))))))))) (dss_one (ds_ret (dx_A de_bl))) dss_nil)
    (dss_one (ds_for [3] hp rfl (di_A (dj_seq (de_var (pv 0)))) (dg_name nd)
    (dss_one (ds_if (dy_A (dt_not (dt_tru (de_def (ok__law_truth T) I (da_cons (de_def (ok_lies_within T) I (da_cons (de_var (pv 1)) (da_cons (de_var (pv 3)) da_nil))) (da_cons (de_def (ok__law_inside T) I (da_cons (de_var (pv 1)) (da_cons (de_var (pv 3)) da_nil))) da_nil)))))) (dss_one (ds_ret (dx_A de_bl))) dss_nil))))))))
    (dss_one (ds_ret (dx_A de_bl))))
theorem sc__law_meets : FnScope ["_law_first", "_law_second", "_law_third", "_law_met", "_law_common", "_law_state"] ["_law_first", "_law_second", "_law_third"] (defScope s__law_meets) := ⟨rfl, rfl, rfl, by decide +kernel, rfl, by decide +kernel, by decide +kernel⟩
def l__law_meets_1 : SEnv → Out := (sIfS (evAT (sAnd (sTru (sFn 2 sem__law_inside (sCons (sVar 5) (sCons (sVar 1) sNil)))) (sTru (sFn 2 sem__law_inside (sCons (sVar 5) (sCons (sVar 2) sNil)))))) (sDrop (sMut1 4 (evA (sVar 5)) fAppend)) Out.nx)
def b__law_meets : SEnv → Out := (qS (fzAt 3 (sSet 3 (evA (sFnS 1 sem_meet (sCons (sVar 0) (sCons (sVar 1) (sCons (sVar 2) sNil)))))))
    (qS (sIfS (evAT (sNot (sTru (sFn 2 sem__law_same (sCons (sVar 3) (sCons (sFn 1 sem__law_meet (sCons (sLst (sCons (sVar 0) (sCons (sVar 1) (sCons (sVar 2) sNil)))) sNil)) sNil)))))) (sRet (evA (sC (.bl false)))) Out.nx)
    (qS (sIfS (evAT (sNot (sTru (sFn 2 sem__law_same (sCons (sFnS 1 sem_join (sCons (sVar 0) (sCons (sVar 1) (sCons (sVar 2) sNil)))) (sCons (sFn 1 sem__law_join (sCons (sLst (sCons (sVar 0) (sCons (sVar 1) (sCons (sVar 2) sNil)))) sNil)) sNil)))))) (sRet (evA (sC (.bl false)))) Out.nx)
    (qS (sIfS (evAT (sNot (sTru (sFn 2 sem__law_same (sCons (sFnS 1 sem_meet (sCons (sVar 0) (sCons (sVar 1) sNil))) (sCons (sFn 1 sem__law_meet (sCons (sLst (sCons (sVar 0) (sCons (sVar 1) sNil))) sNil)) sNil)))))) (sRet (evA (sC (.bl false)))) Out.nx)
    (qS (sIfS (evAT (sNot (sTru (sFn 2 sem__law_same (sCons (sFnS 1 sem_join (sCons (sVar 0) (sCons (sVar 1) sNil))) (sCons (sFn 1 sem__law_join (sCons (sLst (sCons (sVar 0) (sCons (sVar 1) sNil))) sNil)) sNil)))))) (sRet (evA (sC (.bl false)))) Out.nx)
    (qS (sIfS (evAT (sOr (sNot (sTru (sFn 2 sem__law_same (sCons (sFnS 1 sem_meet (sCons (sVar 0) sNil)) (sCons (sCall tupF (sCons (sVar 0) sNil)) sNil))))) (sNot (sTru (sFn 2 sem__law_same (sCons (sFnS 1 sem_join (sCons (sVar 2) sNil)) (sCons (sCall tupF (sCons (sVar 2) sNil)) sNil))))))) (sRet (evA (sC (.bl false)))) Out.nx)
    (qS (sIfS (evAT (sBool (sOp gtO (sCall lenO (sCons (sVar 0) sNil)) (sC (.int 5))))) (sRet (evA (sC (.bl true)))) Out.nx)
    (qS (sSet 4 (evA (sLst sNil)))
    (qS (sFor (evAI (sSeq (sFn 1 sem__law_states (sCons (sVar 0) sNil)))) (gN 5)
    l__law_meets_1 [5])
    (qS (sIfS (evAT (sBool (sOp isO (sVar 3) (sC .non)))) (sRet (evC (sNotT (sVar 4)))) Out.nx)
    (sRet (evC (sOp eqO (sFn 1 sem_states_of (sCons (sVar 3) sNil)) (sCall tupF (sCons (sVar 4) sNil)))))))))))))))
abbrev sem__law_meets : List D → RS := run 6 b__law_meets
theorem ok__law_meets (T : Txt P w K mg base cls) : Def P w K mg base (G0 cls) 8 "_law_meets" 3 sem__law_meets := by
  obtain ⟨f, fd, h1, h2, h3, h4⟩ := T.f__law_meets
  refine ⟨f, fd, _, h1, h2, h3, fn_ok h4 sc__law_meets rfl 6 rfl (fun _ => trivial) fun cdv A outer s H E W hr tk hp => ?_⟩
  have I := In.mk hr tk
  have nd := (sc__law_meets).nd
  exact (dss_seq (ds_fz 3 (ds_set (dx_A (de_defS (ok_meet T) I (da_cons (de_var (pv 0)) (da_cons (de_var (pv 1)) (da_cons (de_var (pv 2)) da_nil))))) nd))
    (dss_seq (ds_if (dy_A (dt_not (dt_tru (de_def (ok__law_same T) I (da_cons (de_var (pv 3)) (da_cons (de_def (ok__law_meet T) I (da_cons (de_lst (da_cons (de_var (pv 0)) (da_cons (de_var (pv 1)) (da_cons (de_var (pv 2)) da_nil)))) da_nil)) da_nil)))))) (dss_one (ds_ret (dx_A de_bl))) dss_nil)
    (dss_seq (ds_if (dy_A (dt_not (dt_tru (de_def (ok__law_same T) I (da_cons (de_defS (ok_join T) I (da_cons (de_var (pv 0)) (da_cons (de_var (pv 1)) (da_cons (de_var (pv 2)) da_nil)))) (da_cons (de_def (ok__law_join T) I (da_cons (de_lst (da_cons (de_var (pv 0)) (da_cons (de_var (pv 1)) (da_cons (de_var (pv 2)) da_nil)))) da_nil)) da_nil)))))) (dss_one (ds_ret (dx_A de_bl))) dss_nil)
    (dss_seq (ds_if (dy_A (dt_not (dt_tru (de_def (ok__law_same T) I (da_cons (de_defS (ok_meet T) I (da_cons (de_var (pv 0)) (da_cons (de_var (pv 1)) da_nil))) (da_cons (de_def (ok__law_meet T) I (da_cons (de_lst (da_cons (de_var (pv 0)) (da_cons (de_var (pv 1)) da_nil))) da_nil)) da_nil)))))) (dss_one (ds_ret (dx_A de_bl))) dss_nil)
    (dss_seq (ds_if (dy_A (dt_not (dt_tru (de_def (ok__law_same T) I (da_cons (de_defS (ok_join T) I (da_cons (de_var (pv 0)) (da_cons (de_var (pv 1)) da_nil))) (da_cons (de_def (ok__law_join T) I (da_cons (de_lst (da_cons (de_var (pv 0)) (da_cons (de_var (pv 1)) da_nil))) da_nil)) da_nil)))))) (dss_one (ds_ret (dx_A de_bl))) dss_nil)
    (dss_seq (ds_if (dy_A (DW.dt (dw_or (dt_not (dt_tru (de_def (ok__law_same T) I (da_cons (de_defS (ok_meet T) I (da_cons (de_var (pv 0)) da_nil)) (da_cons (de_callTy cd_tup rfl T.b_tuple (by decide +kernel) (da_cons (de_var (pv 0)) da_nil)) da_nil))))) (dw_or1 (dt_not (dt_tru (de_def (ok__law_same T) I (da_cons (de_defS (ok_join T) I (da_cons (de_var (pv 2)) da_nil)) (da_cons (de_callTy cd_tup rfl T.b_tuple (by decide +kernel) (da_cons (de_var (pv 2)) da_nil)) da_nil))))))))) (dss_one (ds_ret (dx_A de_bl))) dss_nil)
    (dss_seq (ds_if (dy_A (dt_cmp od_gt (de_callB cd_len rfl T.b_len (by decide +kernel) (da_cons (de_var (pv 0)) da_nil)) de_int)) (dss_one (ds_ret (dx_A de_bl))) dss_nil)
    (dss_seq (ds_set (dx_A (de_lst da_nil)) nd)
    (dss_seq (ds_for [5] hp rfl (di_A (dj_seq (de_def (ok__law_states T) I (da_cons (de_var (pv 0)) da_nil)))) (dg_name nd)
    (dss_one (ds_if (dy_A (DW.dt (dw_and (dt_tru (de_def (ok__law_inside T) I (da_cons (de_var (pv 5)) (da_cons (de_var (pv 1)) da_nil)))) (dw_and1 (dt_tru (de_def (ok__law_inside T) I (da_cons (de_var (pv 5)) (da_cons (de_var (pv 2)) da_nil)))))))) (dss_one (ds_expr (dx_mut1 mu_append PySem.F.slot_list_append PySem.F.type_list_append (pv 4) (dx_A (de_var (pv 5)))))) dss_nil)))
    (dss_seq (ds_if (dy_A (dt_cmp od_is (de_var (pv 3)) de_non)) (dss_one (ds_ret (dx_C (de_notT (de_var (pv 4)))))) dss_nil)
    (dss_one (ds_ret (dx_C (de_cmp (od_eq I.hr) (de_def (ok_states_of T) I (da_cons (de_var (pv 3)) da_nil)) (de_callTy cd_tup rfl T.b_tuple (by decide +kernel) (da_cons (de_var (pv 4)) da_nil))))))))))))))))
theorem sc__law_outcome : FnScope ["_law_name", "_law_rows", "e"] ["_law_name", "_law_rows"] (defScope s__law_outcome) := ⟨rfl, rfl, rfl, by decide +kernel, rfl, by decide +kernel, by decide +kernel⟩
def b__law_outcome : SEnv → Out := (qS (sTry sub (sIfS (evAT (sBool (sOp eqO (sVar 0) (sC (.str "free"))))) (sDrop (evA (sFn 1 sem_free_houses (sCons (sOp ixO (sVar 1) (sC (.int 0))) sNil)))) (sIfS (evAT (sBool (sOp eqO (sVar 0) (sC (.str "states"))))) (sDrop (evA (sFn 1 sem_states_of (sCons (sOp ixO (sVar 1) (sC (.int 0))) sNil)))) (sIfS (evAT (sBool (sOp eqO (sVar 0) (sC (.str "within"))))) (sDrop (evA (sFn 2 sem_lies_within (sCons (sOp ixO (sVar 1) (sC (.int 0))) (sCons (sOp ixO (sVar 1) (sC (.int 1))) sNil))))) (sIfS (evAT (sBool (sOp eqO (sVar 0) (sC (.str "meet"))))) (sDrop (evA (sFnS 1 sem_meet (sCons (sOp ixO (sVar 1) (sC (.int 0))) (sCons (sOp ixO (sVar 1) (sC (.int 1))) (sCons (sOp ixO (sVar 1) (sC (.int 2))) sNil)))))) (sDrop (evA (sFnS 1 sem_join (sCons (sOp ixO (sVar 1) (sC (.int 0))) (sCons (sOp ixO (sVar 1) (sC (.int 1))) (sCons (sOp ixO (sVar 1) (sC (.int 2))) sNil)))))))))) [⟨"BadRoom", 2, fun c fs => (qS (sIfS (evAT (sOr (sNot (sBool (sXis 2 (sub c "BadArgument")))) (sNot (sBool (sXis 2 (sub c "OldNewsError")))))) (sRet (evA (sTup (sCons (sC (.str "other")) sNil)))) Out.nx)
    (sRet (evA (sTup (sCons (sC (.str "bad")) (sCons (sXf 2 fs "row") sNil))))))⟩, ⟨"TooLarge", 2, fun c fs => (qS (sIfS (evAT (sOr (sBool (sXis 2 (sub c "BadArgument"))) (sNot (sBool (sXis 2 (sub c "OldNewsError")))))) (sRet (evA (sTup (sCons (sC (.str "other")) sNil)))) Out.nx)
    (sRet (evA (sTup (sCons (sC (.str "large")) (sCons (sXf 2 fs "count") (sCons (sXf 2 fs "limit") sNil)))))))⟩])
    (sRet (evA (sTup (sCons (sC (.str "fine")) sNil)))))
abbrev sem__law_outcome : List D → RS := run 3 b__law_outcome
theorem ok__law_outcome (T : Txt P w K mg base cls) : Def P w K mg base (G0 cls) 8 "_law_outcome" 2 sem__law_outcome := by
  obtain ⟨D_BadArgument, m_BadArgument, kit_BadArgument⟩ := T.n_BadArgument
  obtain ⟨D_BadRoom, m_BadRoom, exm_BadRoom, kit_BadRoom⟩ := T.n_BadRoom
  obtain ⟨D_OldNewsError, m_OldNewsError, kit_OldNewsError⟩ := T.n_OldNewsError
  obtain ⟨D_TooLarge, m_TooLarge, exm_TooLarge, kit_TooLarge⟩ := T.n_TooLarge
  obtain ⟨f, fd, h1, h2, h3, h4⟩ := T.f__law_outcome
  refine ⟨f, fd, _, h1, h2, h3, fn_ok h4 sc__law_outcome rfl 3 rfl (fun _ => trivial) fun cdv A outer s H E W hr tk hp => ?_⟩
  have I := In.mk hr tk
  have nd := (sc__law_outcome).nd
  exact (dss_seq (ds_tryI I rfl rfl rfl nd (fun _ _ _ I hp => (dss_one (ds_if (dy_A (dt_cmp (od_eq I.hr) (de_var (pv 0)) de_str)) (dss_one (ds_expr (dx_A (de_def (ok_free_houses T) I (da_cons (de_ix ixd (de_var (pv 1)) de_int) da_nil))))) (dss_one (ds_if (dy_A (dt_cmp (od_eq I.hr) (de_var (pv 0)) de_str)) (dss_one (ds_expr (dx_A (de_def (ok_states_of T) I (da_cons (de_ix ixd (de_var (pv 1)) de_int) da_nil))))) (dss_one (ds_if (dy_A (dt_cmp (od_eq I.hr) (de_var (pv 0)) de_str)) (dss_one (ds_expr (dx_A (de_def (ok_lies_within T) I (da_cons (de_ix ixd (de_var (pv 1)) de_int) (da_cons (de_ix ixd (de_var (pv 1)) de_int) da_nil)))))) (dss_one (ds_if (dy_A (dt_cmp (od_eq I.hr) (de_var (pv 0)) de_str)) (dss_one (ds_expr (dx_A (de_defS (ok_meet T) I (da_cons (de_ix ixd (de_var (pv 1)) de_int) (da_cons (de_ix ixd (de_var (pv 1)) de_int) (da_cons (de_ix ixd (de_var (pv 1)) de_int) da_nil))))))) (dss_one (ds_expr (dx_A (de_defS (ok_join T) I (da_cons (de_ix ixd (de_var (pv 1)) de_int) (da_cons (de_ix ixd (de_var (pv 1)) de_int) (da_cons (de_ix ixd (de_var (pv 1)) de_int) da_nil))))))))))))))))
    (HdD.cons ⟨rfl, by decide, .inl m_BadRoom⟩ (fun c C b h1 h2 => exm_BadRoom c C b h1 h2) rfl rfl (fun a oe cls1 d pn c fs hz hf hs => (dss_seq (ds_if (dy_A (DW.dt (dw_or (dt_not (dt_val (de_xis (sub := sub) (cn := "BadArgument") (fun C hC => T.xc c C (subX hs) hC) (fun C b hC hb => kit_BadArgument c C b hC hb) hz hf (pv 2) rfl T.b_isinstance rfl (m_BadArgument)))) (dw_or1 (dt_not (dt_val (de_xis (sub := sub) (cn := "OldNewsError") (fun C hC => T.xc c C (subX hs) hC) (fun C b hC hb => kit_OldNewsError c C b hC hb) hz hf (pv 2) rfl T.b_isinstance rfl (m_OldNewsError)))))))) (dss_one (ds_ret (dx_A (de_tup (da_cons de_str da_nil))))) dss_nil)
    (dss_one (ds_ret (dx_A (de_tup (da_cons de_str (da_cons (de_xf (fun C hC => T.xc c C (subX hs) hC) (by decide) rfl hz hf (pv 2)) da_nil))))))))
    (HdD.cons ⟨rfl, by decide, .inl m_TooLarge⟩ (fun c C b h1 h2 => exm_TooLarge c C b h1 h2) rfl rfl (fun a oe cls1 d pn c fs hz hf hs => (dss_seq (ds_if (dy_A (DW.dt (dw_or (dt_val (de_xis (sub := sub) (cn := "BadArgument") (fun C hC => T.xc c C (subX hs) hC) (fun C b hC hb => kit_BadArgument c C b hC hb) hz hf (pv 2) rfl T.b_isinstance rfl (m_BadArgument))) (dw_or1 (dt_not (dt_val (de_xis (sub := sub) (cn := "OldNewsError") (fun C hC => T.xc c C (subX hs) hC) (fun C b hC hb => kit_OldNewsError c C b hC hb) hz hf (pv 2) rfl T.b_isinstance rfl (m_OldNewsError)))))))) (dss_one (ds_ret (dx_A (de_tup (da_cons de_str da_nil))))) dss_nil)
    (dss_one (ds_ret (dx_A (de_tup (da_cons de_str (da_cons (de_xf (fun C hC => T.xc c C (subX hs) hC) (by decide) rfl hz hf (pv 2)) (da_cons (de_xf (fun C hC => T.xc c C (subX hs) hC) (by decide) rfl hz hf (pv 2)) da_nil)))))))))
    HdD.nil)))
    (dss_one (ds_ret (dx_A (de_tup (da_cons de_str da_nil))))))
theorem sc__law_expected : FnScope ["_law_name", "_law_rows", "_law_counts", "_law_row", "_law_mark"] ["_law_name", "_law_rows"] (defScope s__law_expected) := ⟨rfl, rfl, rfl, by decide +kernel, rfl, by decide +kernel, by decide +kernel⟩
def l__law_expected_1 : SEnv → Out := (sIfS (evAT (sOr (sBool (sOp neO (sCall lenO (sCons (sVar 3) sNil)) (sCall lenO (sCons (sOp ixO (sVar 1) (sC (.int 0))) sNil)))) (sTru (sLc (sSeq (sVar 3)) (.nm 4) (sBool (sOp notInO (sVar 4) (sTup (sCons (sC (.int 0)) (sCons (sC (.int 1)) (sCons (sC (.int 2)) sNil)))))) (sVar 4) [4])))) (sRet (evA (sTup (sCons (sC (.str "bad")) (sCons (sCall tupF (sCons (sVar 3) sNil)) sNil))))) Out.nx)
def b__law_expected : SEnv → Out := (qS (fzAt 2 (sSet 2 (evA (sC (.dct [(.inr "free", .int 1), (.inr "states", .int 1), (.inr "within", .int 2)])))))
    (qS (sIfS (evAT (sOr (sBool (sOp ltO (sCall lenO (sCons (sOp ixO (sVar 1) (sC (.int 0))) sNil)) (sC (.int 1)))) (sBool (sOp gtO (sCall lenO (sCons (sOp ixO (sVar 1) (sC (.int 0))) sNil)) (sC (.int 12)))))) (sRet (evA (sTup (sCons (sC (.str "bad")) (sCons (sCall tupF (sCons (sOp ixO (sVar 1) (sC (.int 0))) sNil)) sNil))))) Out.nx)
    (qS (sFor (evAI (sSeq (sSl (sVar 1) (sPart none) (sPart (some (sGet2 (sVar 2) (sVar 0) (sC (.int 3)))))))) (gN 3)
    l__law_expected_1 [3])
    (qS (sIfS (evAT (sAnd (sBool (sOp eqO (sVar 0) (sC (.str "states")))) (sBool (sOp gtO (sCount (sOp ixO (sVar 1) (sC (.int 0))) (sC (.int 2))) (sC (.int 8)))))) (sRet (evA (sTup (sCons (sC (.str "large")) (sCons (sCount (sOp ixO (sVar 1) (sC (.int 0))) (sC (.int 2))) (sCons (sC (.int 8)) sNil)))))) Out.nx)
    (sRet (evA (sTup (sCons (sC (.str "fine")) sNil))))))))
abbrev sem__law_expected : List D → RS := run 5 b__law_expected
theorem ok__law_expected (T : Txt P w K mg base cls) : Def P w K mg base (G0 cls) 1 "_law_expected" 2 sem__law_expected := by
  obtain ⟨f, fd, h1, h2, h3, h4⟩ := T.f__law_expected
  refine ⟨f, fd, _, h1, h2, h3, fn_ok h4 sc__law_expected rfl 5 rfl (fun _ => trivial) fun cdv A outer s H E W hr tk hp => ?_⟩
  have I := In.mk hr tk
  have nd := (sc__law_expected).nd
  exact (dss_seq (ds_fz 2 (ds_set (dx_A (de_dictC [(.inr "free", .int 1), (.inr "states", .int 1), (.inr "within", .int 2)] [(.inr "free", .int 1), (.inr "states", .int 1), (.inr "within", .int 2)] (fun F => by repeat (first | rfl | (refine ⟨_, _, rfl, Rep.int.mpr rfl, ?_⟩))) (pps_cons pe_str pe_int (pps_cons pe_str pe_int (pps_cons pe_str pe_int pps_nil))))) nd))
    (dss_seq (ds_if (dy_A (DW.dt (dw_or (dt_cmp od_lt (de_callB cd_len rfl T.b_len (by decide +kernel) (da_cons (de_ix ixd (de_var (pv 1)) de_int) da_nil)) de_int) (dw_or1 (dt_cmp od_gt (de_callB cd_len rfl T.b_len (by decide +kernel) (da_cons (de_ix ixd (de_var (pv 1)) de_int) da_nil)) de_int))))) (dss_one (ds_ret (dx_A (de_tup (da_cons de_str (da_cons (de_callTy cd_tup rfl T.b_tuple (by decide +kernel) (da_cons (de_ix ixd (de_var (pv 1)) de_int) da_nil)) da_nil)))))) dss_nil)
    (dss_seq (ds_for [3] hp rfl (di_A (dj_seq (de_sl (de_var (pv 1)) do_none (do_some (de_get2 I.hr (de_var (pv 2)) (de_var (pv 0)) de_int ⟨rfl, rfl, rfl, rfl⟩))))) (dg_name nd)
    (dss_one (ds_if (dy_A (DW.dt (dw_or (dt_cmp (od_ne I.hr) (de_callB cd_len rfl T.b_len (by decide +kernel) (da_cons (de_var (pv 3)) da_nil)) (de_callB cd_len rfl T.b_len (by decide +kernel) (da_cons (de_ix ixd (de_var (pv 1)) de_int) da_nil))) (dw_or1 (dt_tru (de_lcI [("_law_mark", 4)] I rfl nd (dj_seq (de_var (pv 3))) (blkOk_by (N := ["_law_name", "_law_rows", "_law_counts", "_law_row", "_law_mark"]) (sc := defScope s__law_expected) (by decide +kernel)) (fun _ _ _ _ _ => pg_name (i := 4) nd rfl (by first | exact Or.inl rfl | exact Or.inr rfl)) (fun _ _ _ _ _ I => pts_oneD (dt_cmp (od_notIn I.hr) (de_var (pv 4)) (de_tup (da_cons de_int (da_cons de_int (da_cons de_int da_nil)))))) (fun _ _ _ _ _ I => (de_var (pv 4))))))))) (dss_one (ds_ret (dx_A (de_tup (da_cons de_str (da_cons (de_callTy cd_tup rfl T.b_tuple (by decide +kernel) (da_cons (de_var (pv 3)) da_nil)) da_nil)))))) dss_nil)))
    (dss_seq (ds_if (dy_A (DW.dt (dw_and (dt_cmp (od_eq I.hr) (de_var (pv 0)) de_str) (dw_and1 (dt_cmp od_gt (de_count (de_ix ixd (de_var (pv 1)) de_int) de_int) de_int))))) (dss_one (ds_ret (dx_A (de_tup (da_cons de_str (da_cons (de_count (de_ix ixd (de_var (pv 1)) de_int) de_int) (da_cons de_int da_nil))))))) dss_nil)
    (dss_one (ds_ret (dx_A (de_tup (da_cons de_str da_nil)))))))))
theorem sc__law_spoilt : FnScope ["_law_row", "_law_fault", "_law_house", "_law_number"] ["_law_row", "_law_fault", "_law_house", "_law_number"] (defScope s__law_spoilt) := ⟨rfl, rfl, rfl, by decide +kernel, rfl, by decide +kernel, by decide +kernel⟩
def b__law_spoilt : SEnv → Out := (sIfS (evAT (sBool (sOp eqO (sVar 1) (sC (.int 0))))) (sSetIx 0 (evA (sOp addO (sC (.int 3)) (sVar 3))) (evA (sVar 2))) (sIfS (evAT (sBool (sOp eqO (sVar 1) (sC (.int 1))))) (sSetIx 0 (evA (sOp subO (sNeg (sC (.int 1))) (sVar 3))) (evA (sVar 2))) (sIfS (evAT (sBool (sOp eqO (sVar 1) (sC (.int 2))))) (sDrop (sMut1 0 (evA (sOp modO (sCall intF (sCons (sVar 3) sNil)) (sC (.int 3)))) fAppend)) (sIfS (evAT (sBool (sOp eqO (sVar 1) (sC (.int 3))))) (sDrop (sMut0 0 fPop)) (sIfS (evAT (sBool (sOp eqO (sVar 1) (sC (.int 4))))) (sDrop (sMut0 0 fClear)) Out.nx)))))
abbrev io__law_spoilt : List D → List D → Option (List D) := runIO 4 b__law_spoilt
theorem ok__law_spoilt (T : Txt P w K mg base cls) : DefIO P w K mg base (G0 cls) 1 "_law_spoilt" 4 io__law_spoilt := by
  obtain ⟨f, fd, h1, h2, h3, h4⟩ := T.f__law_spoilt
  refine ⟨f, fd, _, h1, h2, h3, fn_okIO h4 sc__law_spoilt rfl 4 rfl (fun _ => trivial) fun p0 cdv A outer s H E W hr tk => ?_⟩
  have I := In.mk hr tk
  have nd := (sc__law_spoilt).nd
  exact (dss_one (ds_if (dy_A (dt_cmp (od_eq I.hr) (de_var (pv 1)) de_int)) (dss_one (ds_setix (pv 0) (dx_A (de_op od_add de_int (de_var (pv 3)))) (dx_A (de_var (pv 2))))) (dss_one (ds_if (dy_A (dt_cmp (od_eq I.hr) (de_var (pv 1)) de_int)) (dss_one (ds_setix (pv 0) (dx_A (de_op od_sub (de_neg de_int) (de_var (pv 3)))) (dx_A (de_var (pv 2))))) (dss_one (ds_if (dy_A (dt_cmp (od_eq I.hr) (de_var (pv 1)) de_int)) (dss_one (ds_expr (dx_mut1 mu_append PySem.F.slot_list_append PySem.F.type_list_append (pv 0) (dx_A (de_op od_mod (de_callTy cd_int rfl T.b_int (by decide +kernel) (da_cons (de_var (pv 3)) da_nil)) de_int))))) (dss_one (ds_if (dy_A (dt_cmp (od_eq I.hr) (de_var (pv 1)) de_int)) (dss_one (ds_expr (dx_mut0 mu_pop PySem.F.slot_list_pop PySem.F.type_list_pop (pv 0)))) (dss_one (ds_if (dy_A (dt_cmp (od_eq I.hr) (de_var (pv 1)) de_int)) (dss_one (ds_expr (dx_mut0 mu_clear PySem.F.slot_list_clear PySem.F.type_list_clear (pv 0)))) dss_nil))))))))))
theorem sc_law : FnScope ["_law_script", "_law_size", "_law_rooms_here", "_law_kept", "_law_draws_here", "_law_spoilt_here", "_law_name", "_law_room"] ["_law_script"] (defScope s_law) := ⟨rfl, rfl, rfl, by decide +kernel, rfl, by decide +kernel, by decide +kernel⟩
def l_law_1 : SEnv → Out := (sIfS (evBT (sBool (sOp neO (sFn 2 sem__law_outcome (sCons (sVar 6) (sCons (sVar 2) sNil))) (sFn 2 sem__law_expected (sCons (sVar 6) (sCons (sVar 2) sNil)))))) (sRet (evA (sC (.bl false)))) Out.nx)
def b_law : SEnv → Out := (qS (fzAt 1 (sSet 1 (evA (sOp addO (sC (.int 1)) (sOp modO (sCall intF (sCons (sFn 2 sem__law_cell (sCons (sVar 0) (sCons (sC (.int 0)) sNil))) sNil)) (sC (.int 12)))))))
    (qS (sSet 2 (evA (sFn 2 sem__law_rooms (sCons (sVar 0) (sCons (sVar 1) sNil)))))
    (qS (fzAt 3 (sSet 3 (evB (sLc (sSeq (sVar 2)) (.nm 7) (fun _ => .ok true) (sCall tupF (sCons (sVar 7) sNil)) [7]))))
    (qS (sIfS (evBT (sNot (sTru (sFn 1 sem__law_lone_answers (sCons (sVar 2) sNil))))) (sRet (evA (sC (.bl false)))) Out.nx)
    (qS (sIfS (evBT (sOr (sNot (sTru (sFn 3 sem__law_meets (sCons (sOp ixO (sVar 2) (sC (.int 0))) (sCons (sOp ixO (sVar 2) (sC (.int 1))) (sCons (sOp ixO (sVar 2) (sC (.int 2))) sNil)))))) (sNot (sTru (sFn 3 sem__law_meets (sCons (sOp ixO (sVar 2) (sC (.int 3))) (sCons (sOp ixO (sVar 2) (sC (.int 3))) (sCons (sOp ixO (sVar 2) (sC (.int 1))) sNil)))))))) (sRet (evA (sC (.bl false)))) Out.nx)
    (qS (fzAt 4 (sSet 4 (evA (sFn 2 sem__law_draws (sCons (sFn 2 sem__law_cell (sCons (sVar 0) (sCons (sC (.int 7)) sNil))) (sCons (sLst (sCons (sC (.int 3)) (sCons (sC (.int 6)) (sCons (sVar 1) (sCons (sC (.int 50)) (sCons (sC (.int 4)) (sCons (sC (.int 3)) (sCons (sC (.int 6)) (sCons (sVar 1) (sCons (sC (.int 50)) sNil)))))))))) sNil))))))
    (qS (sIO 2 4 io__law_spoilt (sOp ixO (sVar 4) (sC (.int 0))) (sCons (sOp ixO (sVar 4) (sC (.int 1))) (sCons (sOp ixO (sVar 4) (sC (.int 2))) (sCons (sOp ixO (sVar 4) (sC (.int 3))) sNil))))
    (qS (sIfS (evAT (sAnd (sBool (sOp eqO (sOp ixO (sVar 4) (sC (.int 4))) (sC (.int 0)))) (sBool (sOp neO (sOp ixO (sVar 4) (sC (.int 5))) (sOp ixO (sVar 4) (sC (.int 0))))))) (sIO 2 4 io__law_spoilt (sOp ixO (sVar 4) (sC (.int 5))) (sCons (sOp ixO (sVar 4) (sC (.int 6))) (sCons (sOp ixO (sVar 4) (sC (.int 7))) (sCons (sOp ixO (sVar 4) (sC (.int 8))) sNil)))) Out.nx)
    (qS (fzAt 5 (sSet 5 (evB (sLc (sSeq (sVar 2)) (.nm 7) (fun _ => .ok true) (sCall tupF (sCons (sVar 7) sNil)) [7]))))
    (qS (sFor (evAI (sSeq (sLst (sCons (sC (.str "free")) (sCons (sC (.str "states")) (sCons (sC (.str "within")) (sCons (sC (.str "meet")) (sCons (sC (.str "join")) sNil)))))))) (gN 6)
    l_law_1 [6])
    (qS (sIfS (evBT (sBool (sOp neO (sLc (sSeq (sVar 2)) (.nm 7) (fun _ => .ok true) (sCall tupF (sCons (sVar 7) sNil)) [7]) (sVar 5)))) (sRet (evA (sC (.bl false)))) Out.nx)
    (sRet (evA (sFn 1 sem__law_lone_answers (sCons (sLc (sSeq (sVar 3)) (.nm 7) (fun _ => .ok true) (sCall lstF (sCons (sVar 7) sNil)) [7]) sNil)))))))))))))))
abbrev sem_law : List D → RS := run 8 b_law
theorem ok_law0 (T : Txt P w K mg base cls) {f : Addr} {fd : FuncData} (h4 : Fun K "law" "law" s_law f fd) : FnOk P w K mg base (L2.CX P w) 9 f fd ["_law_script"] (spD K (G0 cls) 1 sem_law) := by
  refine fn_ok h4 sc_law rfl 8 rfl (fun _ => trivial) fun cdv A outer s H E W hr tk hp => ?_
  have I := In.mk hr tk
  have nd := (sc_law).nd
  exact (dss_seq (ds_fz 1 (ds_set (dx_A (de_op od_add de_int (de_op od_mod (de_callTy cd_int rfl T.b_int (by decide +kernel) (da_cons (de_def (ok__law_cell T) I (da_cons (de_var (pv 0)) (da_cons de_int da_nil))) da_nil)) de_int))) nd))
    (dss_seq (ds_set (dx_A (de_def (ok__law_rooms T) I (da_cons (de_var (pv 0)) (da_cons (de_var (pv 1)) da_nil)))) nd)
    (dss_seq (ds_fz 3 (ds_setLcI (i := 3) [("_law_room", 7)] (fun _ _ _ q => xB q) I rfl nd (dj_seq (de_var (pv 2))) (blkOk_by (N := ["_law_script", "_law_size", "_law_rooms_here", "_law_kept", "_law_draws_here", "_law_spoilt_here", "_law_name", "_law_room"]) (sc := defScope s_law) (by decide +kernel)) (fun _ _ _ _ _ => pg_name (i := 7) nd rfl (by first | exact Or.inl rfl | exact Or.inr rfl)) (fun _ _ _ _ _ I => pts_nilD) (fun _ _ _ _ _ I => (de_callTy cd_tup rfl T.b_tuple (by decide +kernel) (da_cons (de_var (pv 7)) da_nil)))))
    (dss_seq (ds_if (dy_B (dt_not (dt_tru (de_def (ok__law_lone_answers T) I (da_cons (de_var (pv 2)) da_nil))))) (dss_one (ds_ret (dx_A de_bl))) dss_nil)
    (dss_seq (ds_if (dy_B (DW.dt (dw_or (dt_not (dt_tru (de_def (ok__law_meets T) I (da_cons (de_ix ixd (de_var (pv 2)) de_int) (da_cons (de_ix ixd (de_var (pv 2)) de_int) (da_cons (de_ix ixd (de_var (pv 2)) de_int) da_nil)))))) (dw_or1 (dt_not (dt_tru (de_def (ok__law_meets T) I (da_cons (de_ix ixd (de_var (pv 2)) de_int) (da_cons (de_ix ixd (de_var (pv 2)) de_int) (da_cons (de_ix ixd (de_var (pv 2)) de_int) da_nil)))))))))) (dss_one (ds_ret (dx_A de_bl))) dss_nil)
    (dss_seq (ds_fz 4 (ds_set (dx_A (de_def (ok__law_draws T) I (da_cons (de_def (ok__law_cell T) I (da_cons (de_var (pv 0)) (da_cons de_int da_nil))) (da_cons (de_lst (da_cons de_int (da_cons de_int (da_cons (de_var (pv 1)) (da_cons de_int (da_cons de_int (da_cons de_int (da_cons de_int (da_cons (de_var (pv 1)) (da_cons de_int da_nil)))))))))) da_nil)))) nd))
    (dss_seq (ds_defIO (ok__law_spoilt T) I (pv 2) (de_ix ixd (de_var (pv 4)) de_int) (da_cons (de_ix ixd (de_var (pv 4)) de_int) (da_cons (de_ix ixd (de_var (pv 4)) de_int) (da_cons (de_ix ixd (de_var (pv 4)) de_int) da_nil))))
    (dss_seq (ds_if (dy_A (DW.dt (dw_and (dt_cmp (od_eq I.hr) (de_ix ixd (de_var (pv 4)) de_int) de_int) (dw_and1 (dt_cmp (od_ne I.hr) (de_ix ixd (de_var (pv 4)) de_int) (de_ix ixd (de_var (pv 4)) de_int)))))) (dss_one (ds_defIO (ok__law_spoilt T) I (pv 2) (de_ix ixd (de_var (pv 4)) de_int) (da_cons (de_ix ixd (de_var (pv 4)) de_int) (da_cons (de_ix ixd (de_var (pv 4)) de_int) (da_cons (de_ix ixd (de_var (pv 4)) de_int) da_nil))))) dss_nil)
    (dss_seq (ds_fz 5 (ds_setLcI (i := 5) [("_law_room", 7)] (fun _ _ _ q => xB q) I rfl nd (dj_seq (de_var (pv 2))) (blkOk_by (N := ["_law_script", "_law_size", "_law_rooms_here", "_law_kept", "_law_draws_here", "_law_spoilt_here", "_law_name", "_law_room"]) (sc := defScope s_law) (by decide +kernel)) (fun _ _ _ _ _ => pg_name (i := 7) nd rfl (by first | exact Or.inl rfl | exact Or.inr rfl)) (fun _ _ _ _ _ I => pts_nilD) (fun _ _ _ _ _ I => (de_callTy cd_tup rfl T.b_tuple (by decide +kernel) (da_cons (de_var (pv 7)) da_nil)))))
    (dss_seq (ds_for [6] hp rfl (di_A (dj_seq (de_lst (da_cons de_str (da_cons de_str (da_cons de_str (da_cons de_str (da_cons de_str da_nil)))))))) (dg_name nd)
    (dss_one (ds_if (dy_B (dt_cmp (od_ne I.hr) (de_def (ok__law_outcome T) I (da_cons (de_var (pv 6)) (da_cons (de_var (pv 2)) da_nil))) (de_def (ok__law_expected T) I (da_cons (de_var (pv 6)) (da_cons (de_var (pv 2)) da_nil))))) (dss_one (ds_ret (dx_A de_bl))) dss_nil)))
    (dss_seq (ds_if (dy_B (dt_cmp (od_ne I.hr) (de_lcI [("_law_room", 7)] I rfl nd (dj_seq (de_var (pv 2))) (blkOk_by (N := ["_law_script", "_law_size", "_law_rooms_here", "_law_kept", "_law_draws_here", "_law_spoilt_here", "_law_name", "_law_room"]) (sc := defScope s_law) (by decide +kernel)) (fun _ _ _ _ _ => pg_name (i := 7) nd rfl (by first | exact Or.inl rfl | exact Or.inr rfl)) (fun _ _ _ _ _ I => pts_nilD) (fun _ _ _ _ _ I => (de_callTy cd_tup rfl T.b_tuple (by decide +kernel) (da_cons (de_var (pv 7)) da_nil)))) (de_var (pv 5)))) (dss_one (ds_ret (dx_A de_bl))) dss_nil)
    (dss_one (ds_ret (dx_A (de_def (ok__law_lone_answers T) I (da_cons (de_lcI [("_law_room", 7)] I rfl nd (dj_seq (de_var (pv 3))) (blkOk_by (N := ["_law_script", "_law_size", "_law_rooms_here", "_law_kept", "_law_draws_here", "_law_spoilt_here", "_law_name", "_law_room"]) (sc := defScope s_law) (by decide +kernel)) (fun _ _ _ _ _ => pg_name (i := 7) nd rfl (by first | exact Or.inl rfl | exact Or.inr rfl)) (fun _ _ _ _ _ I => pts_nilD) (fun _ _ _ _ _ I => (de_callTy cd_lst rfl T.b_list (by decide +kernel) (da_cons (de_var (pv 7)) da_nil)))) da_nil))))))))))))))))
end
end O

end

section
set_option Elab.async false
set_option linter.all false
set_option maxRecDepth 100000
set_option maxHeartbeats 1000000
namespace O
open PySem PySem.Spec PyProof.Rows L2

/-! ### loops by values -/
inductive Ret where
  | rt (s : S)
  | ex (c : Str) (fs : List (Str × D))
/-- o ends a loop: a return or a raise -/
def Fin : Out → Prop
  | .rt _ _ => True
  | .ex _ _ _ => True
  | _ => False
def Ret.at : Ret → SEnv → Out
  | .rt s, ρ => .rt s ρ
  | .ex c fs, ρ => .ex c fs ρ
inductive Stp (β : Type) where
  | go (b : β)
  | out (o : Ret)
def goL {α β : Type} (f : β → α → Stp β) : β → List α → Stp β
  | b, [] => .go b
  | b, x :: xs => match f b x with
    | .go b' => goL f b' xs
    | .out o => .out o
/-- one turn -/
def Turn {β : Type} (E : β → SEnv) (body : SEnv → Out) (kl : List Nat) (I : β → Prop) (ρ1 : SEnv) : Stp β → Prop
  | .go b' => (∃ ρ2, (body ρ1 = .nx ρ2 ∨ body ρ1 = .ct ρ2) ∧ killS kl ρ2 = E b') ∧ I b'
  | .out o => ∃ ρ, body ρ1 = o.at ρ
/-- what a loop comes to -/
def LoopR {β : Type} (E : β → SEnv) (I : β → Prop) (o : Out) : Stp β → Prop
  | .go b' => o = .nx (E b') ∧ I b'
  | .out r => ∃ ρ, o = r.at ρ
theorem loop_go {α β : Type} {en : α → D} {t : Tgt} {body : SEnv → Out} {kl : List Nat} (E : β → SEnv) (I : β → Prop) (f : β → α → Stp β) :
    ∀ (xs : List α), (∀ x ∈ xs, ∀ b, I b → ∃ ρ1, t (en x) (E b) = some ρ1 ∧ Turn E body kl I ρ1 (f b x)) → ∀ b, I b →
    LoopR E I (loop t body kl (xs.map en) (E b)) (goL f b xs)
  | [], _, b, i => ⟨rfl, i⟩
  | x :: xs, h, b, i => by
    obtain ⟨ρ1, h1, h2⟩ := h x (List.mem_cons_self ..) b i
    rw [List.map_cons]
    unfold loop goL
    rw [h1]
    cases hf : f b x with
    | go b' =>
      rw [hf] at h2
      obtain ⟨⟨ρ2, h2 | h2, h4⟩, h3⟩ := h2
      all_goals
        have ih := loop_go E I f xs (fun y hy => h y (List.mem_cons_of_mem _ hy)) b' h3
        dsimp only
        rw [h2]
        dsimp only
        rw [h4]
        exact ih
    | out o =>
      rw [hf] at h2
      obtain ⟨ρ, h2⟩ := h2
      dsimp only
      rw [h2]
      exact ⟨ρ, by cases o <;> rfl⟩
theorem loop_goP {α β : Type} {en : α → D} {t : Tgt} {body : SEnv → Out} {kl : List Nat} (E : β → SEnv) (I : List α → β → Prop) (f : β → α → Stp β) (xs : List α)
    (h : ∀ pre x post b, xs = pre ++ x :: post → I pre b → ∃ ρ1, t (en x) (E b) = some ρ1 ∧ Turn E body kl (I (pre ++ [x])) ρ1 (f b x)) (b : β) (i : I [] b) :
    LoopR E (I xs) (loop t body kl (xs.map en) (E b)) (goL f b xs) := by
  have key : ∀ (post pre : List α) (b : β), xs = pre ++ post → I pre b → LoopR E (I xs) (loop t body kl (post.map en) (E b)) (goL f b post) := by
    intro post
    induction post with
    | nil => intro pre b e i; rw [List.append_nil] at e; subst e; exact ⟨rfl, i⟩
    | cons x post ih =>
      intro pre b e i
      obtain ⟨ρ1, h1, h2⟩ := h pre x post b e i
      rw [List.map_cons]
      unfold loop goL
      rw [h1]
      cases hf : f b x with
      | go b' =>
        rw [hf] at h2
        obtain ⟨⟨ρ2, h2 | h2, h4⟩, h3⟩ := h2
        all_goals
          have ih := ih (pre ++ [x]) b' (by rw [e]; simp) h3
          dsimp only
          rw [h2]
          dsimp only
          rw [h4]
          exact ih
      | out o =>
        rw [hf] at h2
        obtain ⟨ρ, h2⟩ := h2
        dsimp only
        rw [h2]
        exact ⟨ρ, by cases o <;> rfl⟩
  exact key xs [] b rfl i
/-- each turn goes on -/
theorem loop_all {α β : Type} {en : α → D} {t : Tgt} {body : SEnv → Out} {kl : List Nat} (E : β → SEnv) (f : β → α → β) (xs : List α) (b : β)
    (h : ∀ x ∈ xs, ∀ b, ∃ ρ1 ρ2, t (en x) (E b) = some ρ1 ∧ body ρ1 = .nx ρ2 ∧ killS kl ρ2 = E (f b x)) : loop t body kl (xs.map en) (E b) = .nx (E (xs.foldl f b)) := by
  induction xs generalizing b with
  | nil => rfl
  | cons x xs ih =>
    obtain ⟨ρ1, ρ2, h1, h2, h3⟩ := h x (List.mem_cons_self ..) b
    rw [List.map_cons]
    unfold loop
    rw [h1]
    dsimp only
    rw [h2]
    dsimp only
    rw [h3]
    exact ih _ fun y hy => h y (List.mem_cons_of_mem _ hy)
/-- each turn goes on, as long as something holds -/
theorem loop_allI {α β : Type} {en : α → D} {t : Tgt} {body : SEnv → Out} {kl : List Nat} (E : β → SEnv) (I : List α → β → Prop) (f : β → α → β) (xs : List α) (b : β)
    (h : ∀ pre x post b, xs = pre ++ x :: post → I pre b → (∃ ρ1 ρ2, t (en x) (E b) = some ρ1 ∧ body ρ1 = .nx ρ2 ∧ killS kl ρ2 = E (f b x)) ∧ I (pre ++ [x]) (f b x)) (i : I [] b) :
    loop t body kl (xs.map en) (E b) = .nx (E (xs.foldl f b)) ∧ I xs (xs.foldl f b) := by
  have key : ∀ (post pre : List α) (b : β), xs = pre ++ post → I pre b → loop t body kl (post.map en) (E b) = .nx (E (post.foldl f b)) ∧ I xs (post.foldl f b) := by
    intro post
    induction post with
    | nil => intro pre b e i; rw [List.append_nil] at e; subst e; exact ⟨rfl, i⟩
    | cons x post ih =>
      intro pre b e i
      obtain ⟨⟨ρ1, ρ2, h1, h2, h3⟩, i'⟩ := h pre x post b e i
      rw [List.map_cons]
      unfold loop
      rw [h1]
      dsimp only
      rw [h2]
      dsimp only
      rw [h3]
      exact ih (pre ++ [x]) _ (by rw [e]; simp) i'
  exact key xs [] b rfl i
/-- a search -/
theorem loop_find {α : Type} {en : α → D} {t : Tgt} {body : SEnv → Out} {kl : List Nat} (E : SEnv) (p : α → Bool) (o : α → Out) (xs : List α)
    (h : ∀ x ∈ xs, ∃ ρ1, t (en x) E = some ρ1 ∧ (p x = false → ∃ ρ2, body ρ1 = .nx ρ2 ∧ killS kl ρ2 = E) ∧ (p x = true → body ρ1 = o x ∧ Fin (o x))) :
    loop t body kl (xs.map en) E = match xs.find? p with | some x => o x | none => .nx E := by
  induction xs with
  | nil => rfl
  | cons x xs ih =>
    obtain ⟨ρ1, h1, h2, h3⟩ := h x (List.mem_cons_self ..)
    rw [List.map_cons]
    unfold loop
    rw [h1]
    cases hp : p x with
    | false =>
      obtain ⟨ρ2, h2, h4⟩ := h2 hp
      dsimp only
      rw [h2]
      dsimp only
      rw [h4, List.find?_cons_of_neg (by rw [hp]; decide)]
      exact ih fun y hy => h y (List.mem_cons_of_mem _ hy)
    | true =>
      obtain ⟨h3, h4⟩ := h3 hp
      dsimp only
      rw [h3, List.find?_cons_of_pos hp]
      dsimp only
      cases ho : o x <;> rw [ho] at h4 <;> first | rfl | exact h4.elim

theorem loop_findE {α : Type} {en : α → D} {t : Tgt} {body : SEnv → Out} {kl : List Nat} (E : SEnv) (p : α → Bool) (o : α → Out) (xs : List α)
    (h : ∀ x ∈ xs, ∃ ρ1, t (en x) E = some ρ1 ∧ (p x = false → ∃ ρ2, body ρ1 = .nx ρ2 ∧ killS kl ρ2 = E) ∧ (p x = true → body ρ1 = o x ∧ Fin (o x))) :
    loop t body kl (xs.map en) E = (xs.find? p).elim (.nx E) o := by
  rw [loop_find E p o xs h]
  cases xs.find? p <;> rfl
/-! ### comprehensions by values -/
@[simp] theorem filter_tt {α : Type} (l : List α) : l.filter (fun _ => true) = l := List.filter_eq_self.mpr fun _ _ => rfl
@[simp] theorem filter_ff {α : Type} (l : List α) : l.filter (fun _ => false) = [] := by simp

theorem lc_eq {α : Type} {en : α → D} {t : CT} {ft : Env → R Bool} {fe : Env → RS} {ρ0 : Env} (p : α → Bool) (g : α → D) : ∀ (xs : List α),
    (∀ x ∈ xs, ∃ ρ1, t.set (en x) ρ0 = some ρ1 ∧ ft ρ1 = .ok (p x) ∧ (p x = true → ∃ s, fe ρ1 = .ok s ∧ s.d = g x)) → lcGo t ft fe ρ0 (xs.map en) = .ok ((xs.filter p).map g)
  | [], _ => rfl
  | x :: xs, h => by
    obtain ⟨ρ1, h1, h2, h3⟩ := h x (List.mem_cons_self ..)
    have ih := lc_eq p g xs fun y hy => h y (List.mem_cons_of_mem _ hy)
    rw [List.map_cons]
    unfold lcGo
    rw [h1]
    dsimp only
    rw [h2]
    cases hp : p x with
    | false => rw [List.filter_cons_of_neg (by rw [hp]; decide)]; exact ih
    | true =>
      obtain ⟨s, h3, h4⟩ := h3 hp
      rw [List.filter_cons_of_pos hp]
      dsimp only
      rw [h3]
      dsimp only
      rw [ih]
      dsimp only
      rw [h4, List.map_cons]
theorem lc_map {α : Type} {en : α → D} {t : CT} {ft : Env → R Bool} {fe : Env → RS} {ρ0 : Env} (g : α → D) (xs : List α)
    (h : ∀ x ∈ xs, ∃ ρ1, t.set (en x) ρ0 = some ρ1 ∧ ft ρ1 = .ok true ∧ ∃ s, fe ρ1 = .ok s ∧ s.d = g x) : lcGo t ft fe ρ0 (xs.map en) = .ok (xs.map g) := by
  have := lc_eq (en := en) (t := t) (ft := ft) (fe := fe) (ρ0 := ρ0) (fun _ => true) g xs fun x hx => by
    obtain ⟨ρ1, a, b, c⟩ := h x hx
    exact ⟨ρ1, a, b, fun _ => c⟩
  rw [this, List.filter_eq_self.mpr (fun _ _ => rfl)]
theorem lc2_eq {α β : Type} {en : α → D} {en1 : β → D} {t t1 : CT} {ft ft1 : Env → R Bool} {fj1 : Env → R (List D)} {fe : Env → RS} {vs1 : List Nat} {ρ0 : Env} (p : α → Bool) (ys : α → List β) (q : α → β → Bool) (g : α → β → D) : ∀ (xs : List α),
    (∀ x ∈ xs, ∃ ρ1, t.set (en x) ρ0 = some ρ1 ∧ ft ρ1 = .ok (p x) ∧ (p x = true → fj1 ρ1 = .ok ((ys x).map en1) ∧ ∀ y ∈ ys x, ∃ ρ2, t1.set (en1 y) (wipeE vs1 ρ1) = some ρ2 ∧ ft1 ρ2 = .ok (q x y) ∧ (q x y = true → ∃ s, fe ρ2 = .ok s ∧ s.d = g x y))) →
    lcGo2 t ft fj1 t1 ft1 fe vs1 ρ0 (xs.map en) = .ok ((xs.filter p).flatMap fun x => ((ys x).filter (q x)).map (g x))
  | [], _ => rfl
  | x :: xs, h => by
    obtain ⟨ρ1, h1, h2, h3⟩ := h x (List.mem_cons_self ..)
    have ih := lc2_eq (en1 := en1) p ys q g xs fun y hy => h y (List.mem_cons_of_mem _ hy)
    rw [List.map_cons]
    unfold lcGo2
    rw [h1]
    dsimp only
    rw [h2]
    cases hp : p x with
    | false => rw [List.filter_cons_of_neg (by rw [hp]; decide)]; exact ih
    | true =>
      obtain ⟨h3, h4⟩ := h3 hp
      rw [List.filter_cons_of_pos hp]
      dsimp only
      rw [h3]
      dsimp only
      rw [lc_eq (q x) (g x) (ys x) h4]
      dsimp only
      rw [ih, List.flatMap_cons]

/-! ### what is walked -/
theorem range_map (n : Nat) : rangeD 0 n = (List.range n).map fun (i : Nat) => D.int (i : Int) := by simp [rangeD]
theorem enum_map {α : Type} (en : α → D) (x0 : α) : ∀ (l : List α) (n : Nat), enumD n (l.map en) = (List.range l.length).map fun i => D.tup [.int ((n + i : Nat) : Int), en (l.getD i x0)]
  | [], _ => rfl
  | x :: l, n => by
    rw [List.map_cons]
    unfold enumD
    rw [enum_map en x0 l (n + 1), List.length_cons, List.range_succ_eq_map, List.map_cons, List.map_map]
    congr 1
    apply List.map_congr_left
    intro i _
    have e : n + 1 + i = n + i.succ := by omega
    simp only [Function.comp]
    rw [e]
    simp
theorem enum0 {α : Type} (en : α → D) (x0 : α) (l : List α) : enumD 0 (l.map en) = (List.range l.length).map fun (i : Nat) => D.tup [.int (i : Int), en (l.getD i x0)] := by
  rw [enum_map en x0]; simp only [Nat.zero_add]
theorem zip_map {α β : Type} (en : α → D) (en' : β → D) : ∀ (l : List α) (m : List β), zipD (l.map en) (m.map en') = (l.zip m).map fun p => D.tup [en p.1, en' p.2]
  | [], m => by simp [zipD]
  | x :: l, [] => by simp [zipD]
  | x :: l, y :: m => by
    rw [List.map_cons, List.map_cons]
    unfold zipD
    rw [zip_map en en' l m]
    simp
theorem at_map {α : Type} (en : α → D) {l : List α} {j : Nat} (h : j < l.length) : L2.atI (l.map en) (j : Int) = some (en l[j]) := by
  unfold L2.atI
  rw [List.length_map, ixN_nat h]
  simp [h]
theorem at_mapD {α : Type} (en : α → D) {l : List α} {j : Nat} (x0 : α) (h : j < l.length) : L2.atI (l.map en) (j : Int) = some (en (l.getD j x0)) := by
  rw [at_map en h]
  simp [h]
theorem at_cons0 {α : Type} (x : α) (l : List α) : L2.atI (x :: l) 0 = some x := by
  unfold L2.atI
  rw [show (0 : Int) = ((0 : Nat) : Int) by rfl, ixN_nat (by simp)]
  rfl
theorem at_cons1 {α : Type} (x y : α) (l : List α) : L2.atI (x :: y :: l) 1 = some y := by
  unfold L2.atI
  rw [show (1 : Int) = ((1 : Nat) : Int) by rfl, ixN_nat (by simp)]
  rfl
theorem at_nat {α : Type} {l : List α} {j : Nat} (h : j < l.length) : L2.atI l (j : Int) = some l[j] := by
  unfold L2.atI
  rw [ixN_nat h]
  simp [h]

/-! ### sizes -/
@[simp] theorem lim0 : (0 : Nat) ≤ LIM := by decide
@[simp] theorem limlt0 : (0 : Nat) < LIM := by decide
@[simp] theorem lim1 : (1 : Nat) ≤ LIM := by decide
@[simp] theorem limlt1 : (1 : Nat) < LIM := by decide
@[simp] theorem lim2 : (2 : Nat) ≤ LIM := by decide
@[simp] theorem limlt2 : (2 : Nat) < LIM := by decide
@[simp] theorem lim3 : (3 : Nat) ≤ LIM := by decide
@[simp] theorem limlt3 : (3 : Nat) < LIM := by decide
@[simp] theorem lim4 : (4 : Nat) ≤ LIM := by decide
@[simp] theorem limlt4 : (4 : Nat) < LIM := by decide
@[simp] theorem lim5 : (5 : Nat) ≤ LIM := by decide
@[simp] theorem limlt5 : (5 : Nat) < LIM := by decide
@[simp] theorem lim6 : (6 : Nat) ≤ LIM := by decide
@[simp] theorem limlt6 : (6 : Nat) < LIM := by decide
@[simp] theorem lim7 : (7 : Nat) ≤ LIM := by decide
@[simp] theorem limlt7 : (7 : Nat) < LIM := by decide
@[simp] theorem lim8 : (8 : Nat) ≤ LIM := by decide
@[simp] theorem limlt8 : (8 : Nat) < LIM := by decide
@[simp] theorem lim9 : (9 : Nat) ≤ LIM := by decide
@[simp] theorem limlt9 : (9 : Nat) < LIM := by decide
@[simp] theorem lim10 : (10 : Nat) ≤ LIM := by decide
@[simp] theorem limlt10 : (10 : Nat) < LIM := by decide
@[simp] theorem lim11 : (11 : Nat) ≤ LIM := by decide
@[simp] theorem limlt11 : (11 : Nat) < LIM := by decide
@[simp] theorem lim12 : (12 : Nat) ≤ LIM := by decide
@[simp] theorem limlt12 : (12 : Nat) < LIM := by decide
@[simp] theorem lim13 : (13 : Nat) ≤ LIM := by decide
@[simp] theorem limlt13 : (13 : Nat) < LIM := by decide
@[simp] theorem lim14 : (14 : Nat) ≤ LIM := by decide
@[simp] theorem limlt14 : (14 : Nat) < LIM := by decide
@[simp] theorem lim15 : (15 : Nat) ≤ LIM := by decide
@[simp] theorem limlt15 : (15 : Nat) < LIM := by decide
@[simp] theorem lim16 : (16 : Nat) ≤ LIM := by decide
@[simp] theorem limlt16 : (16 : Nat) < LIM := by decide
@[simp] theorem lim17 : (17 : Nat) ≤ LIM := by decide
@[simp] theorem limlt17 : (17 : Nat) < LIM := by decide
@[simp] theorem lim18 : (18 : Nat) ≤ LIM := by decide
@[simp] theorem limlt18 : (18 : Nat) < LIM := by decide
@[simp] theorem lim19 : (19 : Nat) ≤ LIM := by decide
@[simp] theorem limlt19 : (19 : Nat) < LIM := by decide
@[simp] theorem lim20 : (20 : Nat) ≤ LIM := by decide
@[simp] theorem limlt20 : (20 : Nat) < LIM := by decide
@[simp] theorem lim21 : (21 : Nat) ≤ LIM := by decide
@[simp] theorem limlt21 : (21 : Nat) < LIM := by decide
@[simp] theorem lim22 : (22 : Nat) ≤ LIM := by decide
@[simp] theorem limlt22 : (22 : Nat) < LIM := by decide
@[simp] theorem lim23 : (23 : Nat) ≤ LIM := by decide
@[simp] theorem limlt23 : (23 : Nat) < LIM := by decide
@[simp] theorem lim24 : (24 : Nat) ≤ LIM := by decide
@[simp] theorem limlt24 : (24 : Nat) < LIM := by decide
@[simp] theorem lim25 : (25 : Nat) ≤ LIM := by decide
@[simp] theorem limlt25 : (25 : Nat) < LIM := by decide
@[simp] theorem lim26 : (26 : Nat) ≤ LIM := by decide
@[simp] theorem limlt26 : (26 : Nat) < LIM := by decide
@[simp] theorem lim27 : (27 : Nat) ≤ LIM := by decide
@[simp] theorem limlt27 : (27 : Nat) < LIM := by decide
@[simp] theorem lim28 : (28 : Nat) ≤ LIM := by decide
@[simp] theorem limlt28 : (28 : Nat) < LIM := by decide
@[simp] theorem lim29 : (29 : Nat) ≤ LIM := by decide
@[simp] theorem limlt29 : (29 : Nat) < LIM := by decide
theorem lim_of {n : Nat} (h : n ≤ 1000000) : n ≤ LIM := h
theorem lim_lt {n : Nat} (h : n < 1000000) : n < LIM := h
/-! ### operations on ints -/
@[simp] theorem ltO_i (i j : Int) : ltO (.int i) (.int j) = some (.fz (.bl (decide (i < j)))) := rfl
@[simp] theorem leO_i (i j : Int) : leO (.int i) (.int j) = some (.fz (.bl (decide (i ≤ j)))) := rfl
@[simp] theorem gtO_i (i j : Int) : gtO (.int i) (.int j) = some (.fz (.bl (decide (j < i)))) := rfl
@[simp] theorem geO_i (i j : Int) : geO (.int i) (.int j) = some (.fz (.bl (decide (j ≤ i)))) := rfl
@[simp] theorem subO_i (i j : Int) : subO (.int i) (.int j) = some (.fz (.int (i - j))) := rfl
@[simp] theorem modO_i (i j : Int) : modO (.int i) (.int j) = if 0 < j then some (.fz (.int (i % j))) else none := rfl
@[simp] theorem fdivO_i (i j : Int) : fdivO (.int i) (.int j) = if 0 < j ∧ j < 1073741824 then some (.fz (.int (i / j))) else none := rfl
@[simp] theorem powO_i (i j : Int) : powO (.int i) (.int j) = if 0 ≤ j ∧ j ≤ 1000000 ∧ i.natAbs < 18446744073709551616 then some (.fz (.int (i ^ j.toNat))) else none := rfl
/-! ### values that are equal -/
@[simp] theorem shp_int (n : Nat) (i : Int) : shp n (.int i) = true := by cases n <;> rfl
@[simp] theorem shp_bl (n : Nat) (i : Bool) : shp n (.bl i) = true := by cases n <;> rfl
@[simp] theorem shp_non (n : Nat) : shp n .non = true := by cases n <;> rfl
@[simp] theorem shp_tup (n : Nat) (l : List D) : shp (n + 1) (.tup l) = shpL n l := rfl
@[simp] theorem shp_lst (n : Nat) (l : List D) : shp (n + 1) (.lst l) = shpL n l := rfl
@[simp] theorem shpL_nil (n : Nat) : shpL n [] = true := by cases n <;> rfl
@[simp] theorem shpL_cons (n : Nat) (d : D) (l : List D) : shpL n (d :: l) = (shp n d && shpL n l) := by conv => lhs; unfold shpL
theorem shpL_map {α : Type} {en : α → D} {n : Nat} : ∀ (l : List α), (∀ x ∈ l, shp n (en x) = true) → shpL n (l.map en) = true
  | [], _ => by simp
  | x :: l, h => by
    rw [List.map_cons, shpL_cons, h x (List.mem_cons_self ..), shpL_map l fun y hy => h y (List.mem_cons_of_mem _ hy)]
    rfl
@[simp] theorem shpL_ints (n : Nat) (l : List Int) : shpL n (l.map .int) = true := shpL_map l fun _ _ => shp_int _ _
@[simp] theorem shpL_tups (n : Nat) (l : List (List Int)) : shpL (n + 1) (l.map fun r => D.tup (r.map .int)) = true := shpL_map l fun _ _ => by simp
@[simp] theorem shpL_lsts (n : Nat) (l : List (List Int)) : shpL (n + 1) (l.map fun r => D.lst (r.map .int)) = true := shpL_map l fun _ _ => by simp
@[simp] theorem eqv_int (a b : Int) : eqv (.int a) (.int b) = decide (a = b) := rfl
@[simp] theorem eqv_bl (a b : Bool) : eqv (.bl a) (.bl b) = decide (a = b) := rfl
@[simp] theorem eqv_str (a b : Str) : eqv (.str a) (.str b) = decide (a = b) := rfl
@[simp] theorem eqv_tup (a b : List D) : eqv (.tup a) (.tup b) = eqvL a b := rfl
@[simp] theorem eqv_lst (a b : List D) : eqv (.lst a) (.lst b) = eqvL a b := rfl
@[simp] theorem eqvL_nil : eqvL [] [] = true := rfl
@[simp] theorem eqvL_cons (d e : D) (l m : List D) : eqvL (d :: l) (e :: m) = (eqv d e && eqvL l m) := by conv => lhs; unfold eqvL
theorem eqvL_map {α : Type} [DecidableEq α] {en : α → D} (h : ∀ a b, eqv (en a) (en b) = decide (a = b)) : ∀ (l m : List α), eqvL (l.map en) (m.map en) = decide (l = m)
  | [], [] => rfl
  | [], y :: m => rfl
  | x :: l, [] => rfl
  | x :: l, y :: m => by
    rw [List.map_cons, List.map_cons, eqvL_cons, h, eqvL_map h l m]
    by_cases hx : x = y <;> simp [hx]
@[simp] theorem eqvL_ints (l m : List Int) : eqvL (l.map .int) (m.map .int) = decide (l = m) := eqvL_map eqv_int l m
@[simp] theorem eqvL_tups (l m : List (List Int)) : eqvL (l.map fun r => D.tup (r.map .int)) (m.map fun r => D.tup (r.map .int)) = decide (l = m) := eqvL_map (fun a b => by simp) l m
theorem eqvL_refl {α : Type} {en : α → D} : ∀ (l : List α), (∀ x ∈ l, eqv (en x) (en x) = true) → eqvL (l.map en) (l.map en) = true
  | [], _ => rfl
  | x :: l, h => by rw [List.map_cons, eqvL_cons, h x (List.mem_cons_self ..), eqvL_refl l fun y hy => h y (List.mem_cons_of_mem _ hy)]; rfl
@[simp] theorem inB_ints (i : Int) (l : List Int) : inB (.int i) (l.map .int) = decide (i ∈ l) := by
  unfold inB
  induction l with
  | nil => rfl
  | cons x l ih =>
    rw [List.map_cons, List.any_cons, ih, eqv_int]
    by_cases h : x = i
    · simp [h]
    · simp [h, Ne.symm h]
@[simp] theorem inB_nil (d : D) : inB d [] = false := rfl
@[simp] theorem flat_int (i : Int) : flatD (.int i) = true := rfl
theorem flatL_ints (l : List Int) : (l.map D.int).all flatD = true := by simp
@[simp] theorem imm_int (i : Int) : imm (.int i) = true := rfl
@[simp] theorem imm_tup (l : List D) : imm (.tup l) = immL l := rfl
@[simp] theorem imm_bl (i : Bool) : imm (.bl i) = true := rfl
@[simp] theorem imm_str (i : Str) : imm (.str i) = true := rfl
@[simp] theorem imm_non : imm .non = true := rfl
@[simp] theorem immL_nil : immL [] = true := rfl
@[simp] theorem immL_cons (d : D) (l : List D) : immL (d :: l) = (imm d && immL l) := by conv => lhs; unfold immL
theorem immL_map {α : Type} {en : α → D} : ∀ (l : List α), (∀ x ∈ l, imm (en x) = true) → immL (l.map en) = true
  | [], _ => rfl
  | x :: l, h => by rw [List.map_cons, immL_cons, h x (List.mem_cons_self ..), immL_map l fun y hy => h y (List.mem_cons_of_mem _ hy)]; rfl
@[simp] theorem immL_ints (l : List Int) : immL (l.map .int) = true := immL_map l fun _ _ => rfl
@[simp] theorem immL_tups (l : List (List Int)) : immL (l.map fun r => D.tup (r.map .int)) = true := immL_map l fun _ _ => by simp
theorem intsD_ints (l : List Int) : intsD (l.map .int) = some l := by
  induction l with
  | nil => rfl
  | cons x l ih => rw [List.map_cons]; unfold intsD; rw [ih]; rfl
end O

end

section
set_option linter.all false
namespace O
/-! ### rooms: the mathematics -/
def okM (m : Int) : Bool := m == 0 || m == 1 || m == 2
theorem okM_iff {m : Int} : okM m = true ↔ m = 0 ∨ m = 1 ∨ m = 2 := by unfold okM; simp; omega
def IsRoom (l : List Int) : Prop := 1 ≤ l.length ∧ l.length ≤ 12 ∧ l.all okM = true
instance (l : List Int) : Decidable (IsRoom l) := inferInstanceAs (Decidable (_ ∧ _ ∧ _))
def freeN (l : List Int) : List Nat := (List.range l.length).filter fun i => decide (l.getD i 0 = 2)
/-- the states of a room -/
def sts : List Int → List (List Int)
  | [] => [[]]
  | m :: l => (if m = 1 then [] else (sts l).map fun s => 0 :: s) ++ (if m = 0 then [] else (sts l).map fun s => 1 :: s)
def digs (m : Int) : List Int := if m = 2 then [0, 1] else [m]
def stsStep (acc : List (List Int)) (m : Int) : List (List Int) := acc.flatMap fun s => (digs m).map fun d => s ++ [d]
theorem sts_cons {m : Int} (h : okM m = true) (l : List Int) : sts (m :: l) = (digs m).flatMap fun d => (sts l).map fun s => d :: s := by
  rcases okM_iff.mp h with rfl | rfl | rfl <;> simp [sts, digs]
theorem sts_fold : ∀ (l : List Int), l.all okM = true → ∀ acc, l.foldl stsStep acc = acc.flatMap fun a => (sts l).map fun s => a ++ s
  | [], _, acc => by simp [sts]
  | m :: l, h, acc => by
    simp only [List.all_cons, Bool.and_eq_true] at h
    rw [List.foldl_cons, sts_fold l h.2, sts_cons h.1]
    unfold stsStep
    rw [List.flatMap_assoc]
    congr 1
    funext a
    rw [List.flatMap_map, List.map_flatMap]
    congr 1
    funext d
    rw [List.map_map]
    apply List.map_congr_left
    intro s _
    simp
theorem sts_eq (l : List Int) (h : l.all okM = true) : l.foldl stsStep [[]] = sts l := by
  rw [sts_fold l h]; simp
def frees (l : List Int) : Nat := l.count 2
theorem sts_len : ∀ (l : List Int), l.all okM = true → (sts l).length = 2 ^ frees l
  | [], _ => rfl
  | m :: l, h => by
    simp only [List.all_cons, Bool.and_eq_true] at h
    have ih := sts_len l h.2
    unfold frees at *
    rcases okM_iff.mp h.1 with rfl | rfl | rfl
    · simp [sts, ih]
    · simp [sts, ih]
    · simp [sts, ih]; omega
theorem sts_mem_len : ∀ (l : List Int), ∀ s ∈ sts l, s.length = l.length
  | [], s, h => by simp [sts] at h; subst h; rfl
  | m :: l, s, h => by
    simp only [sts, List.mem_append] at h
    rcases h with h | h
    · split at h
      · simp at h
      · obtain ⟨t, ht, rfl⟩ := List.mem_map.mp h
        simp [sts_mem_len l t ht]
    · split at h
      · simp at h
      · obtain ⟨t, ht, rfl⟩ := List.mem_map.mp h
        simp [sts_mem_len l t ht]
theorem frees_len (l : List Int) : frees l ≤ l.length := List.count_le_length
theorem freeN_len (l : List Int) : (freeN l).length = frees l := by
  unfold freeN frees
  induction l with
  | nil => rfl
  | cons m l ih =>
    rw [List.length_cons, List.range_succ_eq_map, List.filter_cons, List.filter_map, List.count_cons]
    have e : ((fun i => decide ((m :: l).getD i 0 = 2)) ∘ Nat.succ) = fun i => decide (l.getD i 0 = 2) := by
      funext i; simp
    rw [e]
    by_cases hx : m = 2
    · subst hx; simp; exact ih
    · simp [hx]; exact ih

/-! lies within -/
def insideB (a b : List Int) : Bool := (a.zip b).all fun p => !(decide (p.2 ≠ 2) && decide (p.1 ≠ p.2))
theorem inside_range {a b : List Int} (h : a.length = b.length) : insideB a b = ((List.range a.length).filter fun i => decide (b.getD i 0 ≠ 2) && decide (a.getD i 0 ≠ b.getD i 0)).isEmpty := by
  rw [Bool.eq_iff_iff, List.isEmpty_iff, List.filter_eq_nil_iff]
  unfold insideB
  rw [List.all_eq_true]
  constructor
  · intro q i hi
    have hi' := List.mem_range.mp hi
    have := q (a[i], b[i]'(by omega)) (by rw [List.mem_iff_getElem]; exact ⟨i, by simp; omega, by simp⟩)
    have hb : i < b.length := by omega
    simp [List.getD, hi', hb] at this ⊢
    exact fun z => this.resolve_left z
  · intro q p hp
    obtain ⟨i, hi, rfl⟩ := List.mem_iff_getElem.mp hp
    rw [List.length_zip] at hi
    have ha : i < a.length := by omega
    have hb : i < b.length := by omega
    have := q i (List.mem_range.mpr ha)
    simp [List.getD, ha, hb] at this ⊢
    by_cases z : b[i] = 2
    · exact .inl z
    · exact .inr (this z)

/-! meet and join of rooms of one size, by houses -/
/-- the marks of house i -/
def col (rs : List (List Int)) (i : Nat) : List Int := rs.map fun r => r.getD i 0
def meet1 (ms : List Int) : Option Int := if 0 ∈ ms.filter (fun m => decide (m ≠ 2)) ∧ 1 ∈ ms.filter (fun m => decide (m ≠ 2)) then none else some ((ms.filter fun m => decide (m ≠ 2)).headD 2)
def join1 (ms : List Int) : Int := if (ms.filter fun m => decide (m ≠ ms.headD 0)).isEmpty then ms.headD 0 else 2
def meetR (n : Nat) (rs : List (List Int)) : Option (List Int) := (List.range n).mapM fun i => meet1 (col rs i)
def joinR (n : Nat) (rs : List (List Int)) : List Int := (List.range n).map fun i => join1 (col rs i)
/-- one mark met by another -/
def mstep (a b : Int) : Option Int := if a = 2 then some b else if b = 2 ∨ b = a then some a else none
def mfold : Int → List Int → Option Int
  | a, [] => some a
  | a, b :: l => match mstep a b with
    | some c => mfold c l
    | none => none
theorem mfold_eq : ∀ (ms : List Int) (a : Int), okM a = true → ms.all okM = true → mfold a ms = meet1 (a :: ms)
  | [], a, h, _ => by
    rcases okM_iff.mp h with rfl | rfl | rfl <;> simp [mfold, meet1]
  | b :: ms, a, h, hs => by
    simp only [List.all_cons, Bool.and_eq_true] at hs
    unfold mfold mstep
    rcases okM_iff.mp h with rfl | rfl | rfl <;> rcases okM_iff.mp hs.1 with rfl | rfl | rfl <;> simp [mfold_eq ms _ h hs.2, mfold_eq ms _ hs.1 hs.2] <;> simp [meet1]
def jstep (a b : Int) : Int := if b ≠ a then 2 else a
theorem jfold_2 : ∀ (ms : List Int), ms.foldl jstep 2 = 2
  | [] => rfl
  | b :: ms => by
    rw [List.foldl_cons, show jstep 2 b = 2 by unfold jstep; split <;> rfl]
    exact jfold_2 ms
theorem jfold_eq : ∀ (ms : List Int) (a : Int), ms.foldl jstep a = join1 (a :: ms)
  | [], a => by simp [join1]
  | b :: ms, a => by
    rw [List.foldl_cons]
    by_cases h : b = a
    · subst h
      rw [show jstep b b = b by unfold jstep; simp, jfold_eq ms b]
      simp [join1]
    · rw [show jstep a b = 2 by unfold jstep; simp [h], jfold_2]
      simp [join1, h]
end O

end

section
set_option linter.all false
namespace O
/-! the states from the end -/
def lstep (acc : List (List Int)) (m : Int) : List (List Int) := (if m = 1 then [] else acc.map fun s => 0 :: s) ++ (if m = 0 then [] else acc.map fun s => 1 :: s)
theorem range_split {n k : Nat} {pre post : List Nat} (h : List.range n = pre ++ k :: post) : k = pre.length ∧ k < n := by
  have hl := congrArg List.length h
  simp at hl
  have e : (List.range n)[pre.length]? = some k := by rw [h]; simp
  have h2 : pre.length < n := by omega
  rw [List.getElem?_range h2] at e
  cases e
  exact ⟨rfl, h2⟩
theorem drop_step (l : List Int) {k : Nat} (h : k < l.length) : l.drop (l.length - (k + 1)) = l.getD (l.length - 1 - k) 0 :: l.drop (l.length - k) := by
  have e : l.length - (k + 1) = l.length - 1 - k := by omega
  have h2 : l.length - 1 - k < l.length := by omega
  rw [e, List.drop_eq_getElem_cons h2]
  have e2 : l.length - 1 - k + 1 = l.length - k := by omega
  rw [e2]
  congr 1
  simp [List.getD, h2]
theorem sts_step (l : List Int) {k : Nat} (h : k < l.length) : lstep (sts (l.drop (l.length - k))) (l.getD (l.length - 1 - k) 0) = sts (l.drop (l.length - (k + 1))) := by
  rw [drop_step l h]; rfl
theorem frees_drop (l : List Int) (k : Nat) : frees (l.drop k) ≤ frees l := (List.drop_sublist k l).count_le 2
/-! common states -/
theorem col_cons (rs : List (Int × List Int)) (i : Nat) : col (rs.map fun p => p.1 :: p.2) (i + 1) = col (rs.map fun p => p.2) i := by
  unfold col; simp [List.map_map, Function.comp_def]
theorem meetR_succ (n : Nat) (x y z : Int) (a b c : List Int) : meetR (n + 1) [x :: a, y :: b, z :: c] = (meet1 [x, y, z]).bind fun m => (meetR n [a, b, c]).map fun l => m :: l := by
  unfold meetR
  rw [List.range_succ_eq_map, List.mapM_cons, List.mapM_map]
  have e : ((fun i => meet1 (col [x :: a, y :: b, z :: c] i)) ∘ Nat.succ) = fun i => meet1 (col [a, b, c] i) := by
    funext i; simp [col]
  have e0 : col [x :: a, y :: b, z :: c] 0 = [x, y, z] := by simp [col]
  rw [e0]
  cases meet1 [x, y, z] with
  | none => rfl
  | some m =>
    simp only [Option.bind_eq_bind, Option.bind_some]
    show (((List.range n).mapM fun i => meet1 (col [x :: a, y :: b, z :: c] (i + 1))).bind fun ms => pure (m :: ms)) = _
    have e' : (fun i => meet1 (col [x :: a, y :: b, z :: c] (i + 1))) = fun i => meet1 (col [a, b, c] i) := by funext i; simp [col]
    rw [e']
    cases (List.range n).mapM fun i => meet1 (col [a, b, c] i) <;> rfl
def stsO : Option (List Int) → List (List Int)
  | none => []
  | some m => sts m
theorem inside_cons (x y : Int) (a b : List Int) : insideB (x :: a) (y :: b) = (!(decide (y ≠ 2) && decide (x ≠ y)) && insideB a b) := by simp [insideB]
theorem common_eq : ∀ (a b c : List Int), b.length = a.length → c.length = a.length → a.all okM = true → b.all okM = true → c.all okM = true →
    (sts a).filter (fun s => insideB s b && insideB s c) = stsO (meetR a.length [a, b, c])
  | [], [], [], _, _, _, _, _ => by simp [sts, insideB, meetR, stsO]
  | x :: a, y :: b, z :: c, hb, hc, h1, h2, h3 => by
    simp only [List.all_cons, Bool.and_eq_true] at h1 h2 h3
    simp only [List.length_cons, Nat.succ.injEq, Nat.add_right_cancel_iff] at hb hc
    have ih := common_eq a b c hb hc h1.2 h2.2 h3.2
    rw [List.length_cons, meetR_succ]
    have f0 : ∀ v : Int, ((sts a).map fun s => v :: s).filter (fun s => insideB s (y :: b) && insideB s (z :: c)) = if (y = 2 ∨ v = y) ∧ (z = 2 ∨ v = z) then (stsO (meetR a.length [a, b, c])).map fun s => v :: s else [] := by
      intro v
      rw [List.filter_map]
      have e : ((fun s => insideB s (y :: b) && insideB s (z :: c)) ∘ fun s => v :: s) = fun s => (decide ((y = 2 ∨ v = y) ∧ (z = 2 ∨ v = z))) && (insideB s b && insideB s c) := by
        funext s
        simp only [Function.comp, inside_cons]
        generalize insideB s b = pb
        generalize insideB s c = pc
        cases pb <;> cases pc <;> simp
        try (by_cases q1 : y = 2 <;> by_cases q2 : v = y <;> by_cases q3 : z = 2 <;> by_cases q4 : v = z <;> simp [q1, q2, q3, q4])
      rw [e]
      by_cases q : (y = 2 ∨ v = y) ∧ (z = 2 ∨ v = z)
      · rw [if_pos q, ← ih]; simp only [q, decide_true, Bool.true_and, and_self]
      · rw [if_neg q]; simp only [q, decide_false, Bool.false_and, ]; simp
    simp only [sts, List.filter_append]
    have h0 : ∀ (c' : Prop) [Decidable c'] (v : Int), (if c' then [] else (sts a).map fun s => v :: s).filter (fun s => insideB s (y :: b) && insideB s (z :: c)) = if c' then [] else if (y = 2 ∨ v = y) ∧ (z = 2 ∨ v = z) then (stsO (meetR a.length [a, b, c])).map fun s => v :: s else [] := by
      intro c' _ v
      split
      · rfl
      · exact f0 v
    rw [h0, h0]
    cases hm : meetR a.length [a, b, c] with
    | none =>
      have : ((meet1 [x, y, z]).bind fun m => (none : Option (List Int)).map fun l => m :: l) = none := by cases meet1 [x, y, z] <;> rfl
      rw [this]
      simp [stsO]
    | some m =>
      simp only [Option.map_some]
      rcases okM_iff.mp h1.1 with rfl | rfl | rfl <;> rcases okM_iff.mp h2.1 with rfl | rfl | rfl <;> rcases okM_iff.mp h3.1 with rfl | rfl | rfl <;> simp [stsO, meet1, sts]
theorem mapM_len {f : Nat → Option Int} : ∀ {l : List Nat} {m : List Int}, l.mapM f = some m → m.length = l.length ∧ ∀ (i : Nat) (x : Int), m[i]? = some x → ∃ k ∈ l, f k = some x
  | [], m, h => by simp at h; subst h; simp
  | k :: l, m, h => by
    rw [List.mapM_cons] at h
    cases hk : f k with
    | none => rw [hk] at h; simp at h
    | some y =>
      rw [hk] at h
      cases hl : l.mapM f with
      | none => rw [hl] at h; simp at h
      | some ys =>
        rw [hl] at h
        simp at h
        subst h
        have ih := mapM_len hl
        refine ⟨by simp [ih.1], fun i x hx => ?_⟩
        cases i with
        | zero => simp at hx; subst hx; exact ⟨k, List.mem_cons_self .., hk⟩
        | succ i =>
          simp at hx
          obtain ⟨k', h1, h2⟩ := ih.2 i x hx
          exact ⟨k', List.mem_cons_of_mem _ h1, h2⟩
theorem meet1_ok {ms : List Int} (h : ms.all okM = true) {x : Int} (e : meet1 ms = some x) : okM x = true := by
  unfold meet1 at e
  split at e
  · cases e
  · cases e
    cases hf : ms.filter (fun m => decide (m ≠ 2)) with
    | nil => rfl
    | cons y ys =>
      have hm : y ∈ ms := (List.mem_filter.mp (show y ∈ ms.filter (fun m => decide (m ≠ 2)) by rw [hf]; exact List.mem_cons_self ..)).1
      exact List.all_eq_true.mp h y hm
theorem meetR_room {a b c m : List Int} (hb : b.length = a.length) (hc : c.length = a.length) (h1 : a.all okM = true) (h2 : b.all okM = true) (h3 : c.all okM = true) (e : meetR a.length [a, b, c] = some m) : m.length = a.length ∧ m.all okM = true := by
  obtain ⟨l1, l2⟩ := mapM_len e
  refine ⟨by simpa using l1, ?_⟩
  rw [List.all_eq_true]
  intro x hx
  obtain ⟨i, hi, rfl⟩ := List.mem_iff_getElem.mp hx
  obtain ⟨k, hk, hf⟩ := l2 i m[i] (by simp [hi])
  have hk' := List.mem_range.mp hk
  refine meet1_ok (ms := col [a, b, c] k) ?_ hf
  rw [List.all_eq_true]
  intro y hy
  obtain ⟨r, hr, rfl⟩ := List.mem_map.mp hy
  have hl : r.length = a.length ∧ r.all okM = true := by
    rcases List.mem_cons.mp hr with rfl | hr
    · exact ⟨rfl, h1⟩
    · rcases List.mem_cons.mp hr with rfl | hr
      · exact ⟨hb, h2⟩
      · rcases List.mem_cons.mp hr with rfl | hr
        · exact ⟨hc, h3⟩
        · cases hr
  have := List.all_eq_true.mp hl.2 r[k] (List.getElem_mem (by omega))
  simpa [List.getD, show k < r.length by omega] using this
theorem meetR_one {a : List Int} (h : a.all okM = true) : meetR a.length [a] = some a := by
  have e : ∀ i ∈ List.range a.length, meet1 (col [a] i) = some (a.getD i 0) := fun i hi => by
    have hi' := List.mem_range.mp hi
    have := List.all_eq_true.mp h a[i] (List.getElem_mem hi')
    have h2 : okM (a.getD i 0) = true := by simpa [List.getD, hi'] using this
    simp only [col, List.map_cons, List.map_nil]
    rcases okM_iff.mp h2 with z | z | z <;> rw [z] <;> simp [meet1]
  have key : ∀ (l : List Nat), (∀ i ∈ l, i ∈ List.range a.length) → l.mapM (fun i => meet1 (col [a] i)) = some (l.map fun i => a.getD i 0) := by
    intro l
    induction l with
    | nil => intro _; rfl
    | cons i l ih =>
      intro hl
      rw [List.mapM_cons, e i (hl i (List.mem_cons_self ..)), ih fun j hj => hl j (List.mem_cons_of_mem _ hj)]
      rfl
  unfold meetR
  rw [key _ fun _ h => h]
  congr 1
  apply List.ext_getElem
  · simp
  · intro i h1 h2
    simp [List.getD, h2]
theorem joinR_one (a : List Int) : joinR a.length [a] = a := by
  unfold joinR
  apply List.ext_getElem
  · simp
  · intro i h1 h2
    simp [col, join1, List.getD, h2]
end O

end

section
set_option linter.all false
set_option Elab.async false
set_option maxRecDepth 100000
namespace O
open PySem PySem.Spec PyProof.Rows L2
/-- a loop that changes each place -/
def setF (g : Nat → Int → Option Int) (o : Ret) (ms : List Int) (i : Nat) : Stp (List Int) := match g i (ms.getD i 0) with
  | some c => .go (ms.set i c)
  | none => .out o
theorem getD_set_ne {l : List Int} {i j : Nat} {c d : Int} (h : i ≠ j) : (l.set i c).getD j d = l.getD j d := by
  simp [List.getD, List.getElem?_set_ne h]
theorem goL_set' (g : Nat → Int → Option Int) (o : Ret) : ∀ (m k : Nat) (cur : List Int), k + m = cur.length →
    goL (setF g o) cur (List.range' k m) = if (List.range' k m).all (fun i => (g i (cur.getD i 0)).isSome) = true then .go (cur.take k ++ (List.range' k m).map fun i => (g i (cur.getD i 0)).getD 0) else .out o
  | 0, k, cur, h => by
    have : cur.take k = cur := List.take_of_length_le (by omega)
    simp [goL, this]
  | m + 1, k, cur, h => by
    rw [List.range'_succ]
    unfold goL
    cases hg : g k (cur.getD k 0) with
    | none => simp [setF, hg, -List.getD_eq_getElem?_getD]
    | some c =>
      have ih := goL_set' g o m (k + 1) (cur.set k c) (by simp; omega)
      have e : ∀ i ∈ List.range' (k + 1) m, (cur.set k c).getD i 0 = cur.getD i 0 := fun i hi => getD_set_ne (by have := (List.mem_range'_1.mp hi).1; omega)
      have ea : (List.range' (k + 1) m).all (fun i => (g i ((cur.set k c).getD i 0)).isSome) = (List.range' (k + 1) m).all (fun i => (g i (cur.getD i 0)).isSome) := by
        rw [Bool.eq_iff_iff, List.all_eq_true, List.all_eq_true]
        exact ⟨fun q i hi => by rw [← e i hi]; exact q i hi, fun q i hi => by rw [e i hi]; exact q i hi⟩
      have em : (List.range' (k + 1) m).map (fun i => (g i ((cur.set k c).getD i 0)).getD 0) = (List.range' (k + 1) m).map fun i => (g i (cur.getD i 0)).getD 0 :=
        List.map_congr_left fun i hi => by rw [e i hi]
      have et : (cur.set k c).take (k + 1) = cur.take k ++ [c] := by
        rw [List.take_add_one, List.take_set_of_le (Nat.le_refl k)]
        simp [show k < cur.length by omega]
      rw [ea, em, et] at ih
      simp only [setF, hg]
      show goL (setF g o) (cur.set k c) (List.range' (k + 1) m) = _
      rw [ih]
      rw [List.all_cons, List.map_cons, hg, Option.isSome_some, Bool.true_and, Option.getD_some, List.append_assoc]
      rfl
theorem goL_set (g : Nat → Int → Option Int) (o : Ret) (ms : List Int) : goL (setF g o) ms (List.range ms.length) = if (List.range ms.length).all (fun i => (g i (ms.getD i 0)).isSome) = true then .go ((List.range ms.length).map fun i => (g i (ms.getD i 0)).getD 0) else .out o := by
  have := goL_set' g o ms.length 0 ms (by omega)
  rw [← List.range_eq_range'] at this
  rw [this]
  simp
theorem getD_range_map {n i : Nat} (f : Nat → Int) (h : i < n) : ((List.range n).map f).getD i 0 = f i := by
  simp [List.getD, h]
theorem range_map_getD (l : List Int) : (List.range l.length).map (fun i => l.getD i 0) = l := by
  apply List.ext_getElem
  · simp
  · intro i h1 h2
    simp [List.getD, h2]
/-- the loop over the rooms -/
def roomsF (o : Ret) (ms r : List Int) : Stp (List Int) := goL (setF (fun i a => mstep a (r.getD i 0)) o) ms (List.range ms.length)
theorem goL_rooms (o : Ret) (n : Nat) : ∀ (rs : List (List Int)) (ms : List Int), ms.length = n → goL (roomsF o) ms rs = if (List.range n).all (fun i => (mfold (ms.getD i 0) (col rs i)).isSome) = true then .go ((List.range n).map fun i => (mfold (ms.getD i 0) (col rs i)).getD 0) else .out o
  | [], ms, h => by subst h; simp only [goL, col, List.map_nil, mfold, Option.isSome_some, Option.getD_some]; rw [range_map_getD]; simp
  | r :: rs, ms, h => by
    unfold goL roomsF
    rw [goL_set, h]
    by_cases ha : (List.range n).all (fun i => (mstep (ms.getD i 0) (r.getD i 0)).isSome) = true
    · rw [if_pos ha]
      dsimp only
      have ih := goL_rooms o n rs ((List.range n).map fun i => (mstep (ms.getD i 0) (r.getD i 0)).getD 0) (by simp)
      show goL (roomsF o) _ rs = _
      rw [ih]
      have e : ∀ i ∈ List.range n, mfold (((List.range n).map fun i => (mstep (ms.getD i 0) (r.getD i 0)).getD 0).getD i 0) (col rs i) = mfold (ms.getD i 0) (col (r :: rs) i) := fun i hi => by
        rw [getD_range_map _ (List.mem_range.mp hi)]
        have := List.all_eq_true.mp ha i hi
        show _ = mfold (ms.getD i 0) (r.getD i 0 :: col rs i)
        conv => rhs; unfold mfold
        cases hc : mstep (ms.getD i 0) (r.getD i 0) with
        | none => rw [hc] at this; cases this
        | some c => rfl
      have e1 : (List.range n).all (fun i => (mfold (((List.range n).map fun i => (mstep (ms.getD i 0) (r.getD i 0)).getD 0).getD i 0) (col rs i)).isSome) = (List.range n).all (fun i => (mfold (ms.getD i 0) (col (r :: rs) i)).isSome) := by
        rw [Bool.eq_iff_iff, List.all_eq_true, List.all_eq_true]
        exact ⟨fun q i hi => by rw [← e i hi]; exact q i hi, fun q i hi => by rw [e i hi]; exact q i hi⟩
      have e2 : (List.range n).map (fun i => (mfold (((List.range n).map fun i => (mstep (ms.getD i 0) (r.getD i 0)).getD 0).getD i 0) (col rs i)).getD 0) = (List.range n).map (fun i => (mfold (ms.getD i 0) (col (r :: rs) i)).getD 0) :=
        List.map_congr_left fun i hi => by rw [e i hi]
      rw [e1, e2]
    · rw [if_neg ha]
      dsimp only
      rw [if_neg]
      intro q
      apply ha
      rw [List.all_eq_true] at q ⊢
      intro i hi
      have := q i hi
      rw [show col (r :: rs) i = r.getD i 0 :: col rs i by rfl] at this
      unfold mfold at this
      cases hc : mstep (ms.getD i 0) (r.getD i 0) with
      | none => rw [hc] at this; cases this
      | some c => rfl
theorem mapM_some {n : Nat} {f : Nat → Option Int} : (List.range n).mapM f = if (List.range n).all (fun i => (f i).isSome) = true then some ((List.range n).map fun i => (f i).getD 0) else none := by
  generalize List.range n = l
  induction l with
  | nil => rfl
  | cons i l ih =>
    rw [List.mapM_cons, ih]
    cases hf : f i with
    | none => simp [hf]
    | some c =>
      by_cases ha : l.all (fun i => (f i).isSome) = true
      · simp only [ha, if_true, List.all_cons, hf, Option.isSome_some, Bool.and_self, List.map_cons, Option.getD_some]; rfl
      · simp only [ha, List.all_cons, hf, Option.isSome_some, Bool.and_false]; rfl
theorem col_ok {rs : List (List Int)} (h : ∀ r ∈ rs, r.all okM = true) {i : Nat} (hi : ∀ r ∈ rs, i < r.length) : (col rs i).all okM = true := by
  rw [List.all_eq_true]
  intro m hm
  obtain ⟨r, hr, rfl⟩ := List.mem_map.mp hm
  have hl := hi r hr
  have := List.all_eq_true.mp (h r hr) r[i] (List.getElem_mem hl)
  simpa [List.getD, hl] using this
theorem getD_ok {r : List Int} (h : r.all okM = true) {i : Nat} (hl : i < r.length) : okM (r.getD i 0) = true := by
  have := List.all_eq_true.mp h r[i] (List.getElem_mem hl)
  simpa [List.getD, hl] using this
/-- what the loops make of the rooms: their meet -/
theorem goL_meet (o : Ret) {r0 : List Int} {rs : List (List Int)} (h0 : r0.all okM = true) (h : ∀ r ∈ rs, r.all okM = true) (hl : ∀ r ∈ rs, r.length = r0.length) :
    goL (roomsF o) r0 (r0 :: rs) = match meetR r0.length (r0 :: rs) with | some l => .go l | none => .out o := by
  rw [goL_rooms o r0.length _ _ rfl]
  unfold meetR
  rw [mapM_some]
  have e : ∀ i ∈ List.range r0.length, mfold (r0.getD i 0) (col (r0 :: rs) i) = meet1 (col (r0 :: rs) i) := fun i hi => by
    have hi' := List.mem_range.mp hi
    have ho := getD_ok h0 hi'
    have hc : (col rs i).all okM = true := col_ok h fun r hr => by rw [hl r hr]; exact hi'
    show mfold (r0.getD i 0) (r0.getD i 0 :: col rs i) = meet1 (r0.getD i 0 :: col rs i)
    rw [← mfold_eq _ _ ho hc]
    conv => lhs; unfold mfold
    have : mstep (r0.getD i 0) (r0.getD i 0) = some (r0.getD i 0) := by
      rcases okM_iff.mp ho with z | z | z <;> rw [z] <;> simp [mstep]
    rw [this]
  have e1 : (List.range r0.length).all (fun i => (mfold (r0.getD i 0) (col (r0 :: rs) i)).isSome) = (List.range r0.length).all (fun i => (meet1 (col (r0 :: rs) i)).isSome) := by
    rw [Bool.eq_iff_iff, List.all_eq_true, List.all_eq_true]
    exact ⟨fun q i hi => by rw [← e i hi]; exact q i hi, fun q i hi => by rw [e i hi]; exact q i hi⟩
  have e2 : (List.range r0.length).map (fun i => (mfold (r0.getD i 0) (col (r0 :: rs) i)).getD 0) = (List.range r0.length).map (fun i => (meet1 (col (r0 :: rs) i)).getD 0) :=
    List.map_congr_left fun i hi => by rw [e i hi]
  rw [e1, e2]
  split <;> rfl
/-- the same for the join -/
def jroom (ms r : List Int) : List Int := (List.range ms.length).foldl (fun ms i => ms.set i (jstep (ms.getD i 0) (r.getD i 0))) ms
theorem jroom_eq (ms r : List Int) : jroom ms r = (List.range ms.length).map fun i => jstep (ms.getD i 0) (r.getD i 0) := by
  have key : ∀ (m k : Nat) (cur : List Int), k + m = cur.length → (List.range' k m).foldl (fun ms i => ms.set i (jstep (ms.getD i 0) (r.getD i 0))) cur = cur.take k ++ (List.range' k m).map fun i => jstep (cur.getD i 0) (r.getD i 0) := by
    intro m
    induction m with
    | zero => intro k cur h; have : cur.take k = cur := List.take_of_length_le (by omega); simp [this]
    | succ m ih =>
      intro k cur h
      rw [List.range'_succ, List.foldl_cons, ih (k + 1) _ (by simp; omega), List.take_add_one, List.take_set_of_le (Nat.le_refl k)]
      have e : (List.range' (k + 1) m).map (fun i => jstep ((cur.set k (jstep (cur.getD k 0) (r.getD k 0))).getD i 0) (r.getD i 0)) = (List.range' (k + 1) m).map fun i => jstep (cur.getD i 0) (r.getD i 0) :=
        List.map_congr_left fun i hi => by rw [getD_set_ne (by have := (List.mem_range'_1.mp hi).1; omega)]
      rw [e]
      simp [show k < cur.length by omega]
  have := key ms.length 0 ms (by omega)
  rw [← List.range_eq_range'] at this
  unfold jroom
  rw [this]
  simp
theorem jrooms (n : Nat) : ∀ (rs : List (List Int)) (ms : List Int), ms.length = n → rs.foldl jroom ms = (List.range n).map fun i => (col rs i).foldl jstep (ms.getD i 0)
  | [], ms, h => by subst h; simp only [List.foldl_nil, col, List.map_nil]; rw [range_map_getD]
  | r :: rs, ms, h => by
    rw [List.foldl_cons, jrooms n rs _ (by rw [jroom_eq]; simp [h]), jroom_eq, h]
    apply List.map_congr_left
    intro i hi
    rw [getD_range_map _ (List.mem_range.mp hi)]
    rfl
theorem fold_join (r0 : List Int) (rs : List (List Int)) : (r0 :: rs).foldl jroom r0 = joinR r0.length (r0 :: rs) := by
  rw [jrooms r0.length _ _ rfl]
  unfold joinR
  apply List.map_congr_left
  intro i _
  show (r0.getD i 0 :: col rs i).foldl jstep (r0.getD i 0) = join1 (r0.getD i 0 :: col rs i)
  rw [List.foldl_cons, show jstep (r0.getD i 0) (r0.getD i 0) = r0.getD i 0 by unfold jstep; simp, jfold_eq]
end O

end

section
set_option Elab.async false
set_option linter.all false
set_option maxRecDepth 100000
set_option maxHeartbeats 1000000
namespace O
open PySem PySem.Spec PyProof.Rows L2
theorem cell_eq (ns : List Int) (k : Nat) : sem__law_cell [.scr ns, .int k] = .ok (.fz (.int (ns.getD k 0))) := by
  by_cases h : k < ns.length
  · simp [sem__law_cell, b__law_cell, run, runS, runIO, startIO, endIO, startS, qS, fzAt, sSet, evA, evB, evC, evM, evAT, evBT, viewF, viewB, seeF, seeB, sVar, sC, R.bind, sCall, sCons, sNil, R.of, thenS, thenB, Out.seq, sLst, sTup, sFor, evAI, evCI, sRange1, sRange2, killS, sRet, frzI, frzA, frz1, S.d, sIfS, sBool, sTru, truD, sAnd, sOr, sNot, sIf, sAndV, sOrV, sNotV, sNotT, sOp, intO, ltO, leO, gtO, geO, addO, subO, mulO, fdivO, modO, powO, intC, CP, CD, CW, fzI, fzB, eqO, neO, isO, isN, isnotO, inO, notInO, ixO, lenO, intF, absF, tupF, lstF, sIsTy, isTy, sDrop, sMut1, sMut0, getO, fAppend, fPopAt, fPop, fClear, sSeq, itemsO, sEnum, sZip, sLc, sLc2, CT.set, setsD, wipeE, sChain, sFn, sFnS, sRaise, gN, gT, gsCons, gsNil, sSl, sPart, slO, sCount, seqI, sGet2, keyD, sAppT, getT, toT, sSetIx, sNeg, enum0 D.int 0, zip_map, range_map, Turn, Fin, eqv, immS, at_nat h, h]
  · simp [sem__law_cell, b__law_cell, run, runS, runIO, startIO, endIO, startS, qS, fzAt, sSet, evA, evB, evC, evM, evAT, evBT, viewF, viewB, seeF, seeB, sVar, sC, R.bind, sCall, sCons, sNil, R.of, thenS, thenB, Out.seq, sLst, sTup, sFor, evAI, evCI, sRange1, sRange2, killS, sRet, frzI, frzA, frz1, S.d, sIfS, sBool, sTru, truD, sAnd, sOr, sNot, sIf, sAndV, sOrV, sNotV, sNotT, sOp, intO, ltO, leO, gtO, geO, addO, subO, mulO, fdivO, modO, powO, intC, CP, CD, CW, fzI, fzB, eqO, neO, isO, isN, isnotO, inO, notInO, ixO, lenO, intF, absF, tupF, lstF, sIsTy, isTy, sDrop, sMut1, sMut0, getO, fAppend, fPopAt, fPop, fClear, sSeq, itemsO, sEnum, sZip, sLc, sLc2, CT.set, setsD, wipeE, sChain, sFn, sFnS, sRaise, gN, gT, gsCons, gsNil, sSl, sPart, slO, sCount, seqI, sGet2, keyD, sAppT, getT, toT, sSetIx, sNeg, enum0 D.int 0, zip_map, range_map, Turn, Fin, eqv, immS, h]
theorem find_not {α : Type} (p : α → Bool) (l : List α) : (l.find? (fun m => !p m) = none ∧ l.all p = true) ∨ ∃ m, l.find? (fun m => !p m) = some m ∧ l.all p = false := by
  cases hf : l.find? (fun m => !p m) with
  | none =>
    refine .inl ⟨rfl, ?_⟩
    rw [List.all_eq_true]
    intro m hm
    have := List.find?_eq_none.mp hf m hm
    simpa using this
  | some m =>
    refine .inr ⟨m, rfl, ?_⟩
    rw [Bool.eq_false_iff]
    intro q
    rw [List.all_eq_true] at q
    have h1 := List.find?_some hf
    have h2 := q m (List.mem_of_find?_eq_some hf)
    rw [h2] at h1
    cases h1
/-- a list or a tuple of ints -/
inductive Seq' (l : List Int) : D → Prop
  | tup : Seq' l (.tup (l.map .int))
  | lst : Seq' l (.lst (l.map .int))
theorem in012 (m : Int) : decide (m ∈ [(0 : Int), 1, 2]) = okM m := by
  unfold okM
  by_cases h0 : m = 0
  · subst h0; rfl
  · by_cases h1 : m = 1
    · subst h1; rfl
    · by_cases h2 : m = 2
      · subst h2; rfl
      · simp [h0, h1, h2]
theorem as_room_eq {size : Int} {l : List Int} {d : D} (hd : Seq' l d) (hl : l.length ≤ 1000) : sem_as_room [.int size, d] = if (l.length : Int) = size ∧ l.all okM = true then .ok (.fz (.tup (l.map .int))) else .ex "BadRoom" [("row", .tup (l.map .int))] := by
  have hm := loop_find (en := D.int) (t := gN 2) (body := l_as_room_1) (kl := [2]) [some (.fz (.int size)), some (.fz (.tup (l.map .int))), none] (fun m => !okM m) (fun m => .ex "BadRoom" [("row", .tup (l.map .int))] [some (.fz (.int size)), some (.fz (.tup (l.map .int))), some (.fz (.int m))]) l (fun m _ => by
    have e := inB_ints m [0, 1, 2]
    rw [in012] at e
    refine ⟨_, rfl, fun h => ?_, fun h => ?_⟩
    · simp at h
      simp [l_as_room_1, run, runS, runIO, startIO, endIO, startS, qS, fzAt, sSet, evA, evB, evC, evM, evAT, evBT, viewF, viewB, seeF, seeB, sVar, sC, R.bind, sCall, sCons, sNil, R.of, thenS, thenB, Out.seq, sLst, sTup, sFor, evAI, evCI, sRange1, sRange2, killS, sRet, frzI, frzA, frz1, S.d, sIfS, sBool, sTru, truD, sAnd, sOr, sNot, sIf, sAndV, sOrV, sNotV, sNotT, sOp, intO, ltO, leO, gtO, geO, addO, subO, mulO, fdivO, modO, powO, intC, CP, CD, CW, fzI, fzB, eqO, neO, isO, isN, isnotO, inO, notInO, ixO, lenO, intF, absF, tupF, lstF, sIsTy, isTy, sDrop, sMut1, sMut0, getO, fAppend, fPopAt, fPop, fClear, sSeq, itemsO, sEnum, sZip, sLc, sLc2, CT.set, setsD, wipeE, sChain, sFn, sFnS, sRaise, gN, gT, gsCons, gsNil, sSl, sPart, slO, sCount, seqI, sGet2, keyD, sAppT, getT, toT, sSetIx, sNeg, enum0 D.int 0, zip_map, range_map, Turn, Fin, eqv, immS, h] at e ⊢
      simp [e]
    · simp at h
      simp [l_as_room_1, run, runS, runIO, startIO, endIO, startS, qS, fzAt, sSet, evA, evB, evC, evM, evAT, evBT, viewF, viewB, seeF, seeB, sVar, sC, R.bind, sCall, sCons, sNil, R.of, thenS, thenB, Out.seq, sLst, sTup, sFor, evAI, evCI, sRange1, sRange2, killS, sRet, frzI, frzA, frz1, S.d, sIfS, sBool, sTru, truD, sAnd, sOr, sNot, sIf, sAndV, sOrV, sNotV, sNotT, sOp, intO, ltO, leO, gtO, geO, addO, subO, mulO, fdivO, modO, powO, intC, CP, CD, CW, fzI, fzB, eqO, neO, isO, isN, isnotO, inO, notInO, ixO, lenO, intF, absF, tupF, lstF, sIsTy, isTy, sDrop, sMut1, sMut0, getO, fAppend, fPopAt, fPop, fClear, sSeq, itemsO, sEnum, sZip, sLc, sLc2, CT.set, setsD, wipeE, sChain, sFn, sFnS, sRaise, gN, gT, gsCons, gsNil, sSl, sPart, slO, sCount, seqI, sGet2, keyD, sAppT, getT, toT, sSetIx, sNeg, enum0 D.int 0, zip_map, range_map, Turn, Fin, eqv, immS, h] at e ⊢
      simp [e])
  by_cases h : (l.length : Int) = size
  · have goal : sem_as_room [.int size, d] = if l.all okM = true then .ok (.fz (.tup (l.map .int))) else .ex "BadRoom" [("row", .tup (l.map .int))] := by
      cases hd <;>
      · simp [sem_as_room, b_as_room, run, runS, runIO, startIO, endIO, startS, qS, fzAt, sSet, evA, evB, evC, evM, evAT, evBT, viewF, viewB, seeF, seeB, sVar, sC, R.bind, sCall, sCons, sNil, R.of, thenS, thenB, Out.seq, sLst, sTup, sFor, evAI, evCI, sRange1, sRange2, killS, sRet, frzI, frzA, frz1, S.d, sIfS, sBool, sTru, truD, sAnd, sOr, sNot, sIf, sAndV, sOrV, sNotV, sNotT, sOp, intO, ltO, leO, gtO, geO, addO, subO, mulO, fdivO, modO, powO, intC, CP, CD, CW, fzI, fzB, eqO, neO, isO, isN, isnotO, inO, notInO, ixO, lenO, intF, absF, tupF, lstF, sIsTy, isTy, sDrop, sMut1, sMut0, getO, fAppend, fPopAt, fPop, fClear, sSeq, itemsO, sEnum, sZip, sLc, sLc2, CT.set, setsD, wipeE, sChain, sFn, sFnS, sRaise, gN, gT, gsCons, gsNil, sSl, sPart, slO, sCount, seqI, sGet2, keyD, sAppT, getT, toT, sSetIx, sNeg, enum0 D.int 0, zip_map, range_map, Turn, Fin, eqv, immS, h, -List.all_eq_true]
        rw [hm]
        rcases find_not okM l with ⟨hf, ha⟩ | ⟨m, hf, ha⟩ <;> rw [hf, ha] <;> rfl
    rw [goal]
    by_cases ha : l.all okM = true
    · rw [if_pos ha, if_pos ⟨h, ha⟩]
    · rw [if_neg ha, if_neg (fun z => ha z.2)]
  · rw [if_neg (fun z => h z.1)]
    cases hd <;> simp [sem_as_room, b_as_room, run, runS, runIO, startIO, endIO, startS, qS, fzAt, sSet, evA, evB, evC, evM, evAT, evBT, viewF, viewB, seeF, seeB, sVar, sC, R.bind, sCall, sCons, sNil, R.of, thenS, thenB, Out.seq, sLst, sTup, sFor, evAI, evCI, sRange1, sRange2, killS, sRet, frzI, frzA, frz1, S.d, sIfS, sBool, sTru, truD, sAnd, sOr, sNot, sIf, sAndV, sOrV, sNotV, sNotT, sOp, intO, ltO, leO, gtO, geO, addO, subO, mulO, fdivO, modO, powO, intC, CP, CD, CW, fzI, fzB, eqO, neO, isO, isN, isnotO, inO, notInO, ixO, lenO, intF, absF, tupF, lstF, sIsTy, isTy, sDrop, sMut1, sMut0, getO, fAppend, fPopAt, fPop, fClear, sSeq, itemsO, sEnum, sZip, sLc, sLc2, CT.set, setsD, wipeE, sChain, sFn, sFnS, sRaise, gN, gT, gsCons, gsNil, sSl, sPart, slO, sCount, seqI, sGet2, keyD, sAppT, getT, toT, sSetIx, sNeg, enum0 D.int 0, zip_map, range_map, Turn, Fin, eqv, immS, h]
theorem lone_eq {l : List Int} {d : D} (hd : Seq' l d) (hl : l.length ≤ 1000) : sem_as_lone_room [d] = if IsRoom l then .ok (.fz (.tup (l.map .int))) else .ex "BadRoom" [("row", .tup (l.map .int))] := by
  have a := as_room_eq (size := (l.length : Int)) (.tup : Seq' l _) hl
  have b : sem_as_lone_room [d] = if 1 ≤ l.length ∧ l.length ≤ 12 then sem_as_room [.int (l.length : Int), .tup (l.map .int)] else .ex "BadRoom" [("row", .tup (l.map .int))] := by
    by_cases h1 : (1 : Int) ≤ l.length
    · by_cases h2 : (l.length : Int) ≤ 12
      · rw [if_pos ⟨by omega, by omega⟩]
        cases hd <;>
        · simp [sem_as_lone_room, b_as_lone_room, run, runS, runIO, startIO, endIO, startS, qS, fzAt, sSet, evA, evB, evC, evM, evAT, evBT, viewF, viewB, seeF, seeB, sVar, sC, R.bind, sCall, sCons, sNil, R.of, thenS, thenB, Out.seq, sLst, sTup, sFor, evAI, evCI, sRange1, sRange2, killS, sRet, frzI, frzA, frz1, S.d, sIfS, sBool, sTru, truD, sAnd, sOr, sNot, sIf, sAndV, sOrV, sNotV, sNotT, sOp, intO, ltO, leO, gtO, geO, addO, subO, mulO, fdivO, modO, powO, intC, CP, CD, CW, fzI, fzB, eqO, neO, isO, isN, isnotO, inO, notInO, ixO, lenO, intF, absF, tupF, lstF, sIsTy, isTy, sDrop, sMut1, sMut0, getO, fAppend, fPopAt, fPop, fClear, sSeq, itemsO, sEnum, sZip, sLc, sLc2, CT.set, setsD, wipeE, sChain, sFn, sFnS, sRaise, gN, gT, gsCons, gsNil, sSl, sPart, slO, sCount, seqI, sGet2, keyD, sAppT, getT, toT, sSetIx, sNeg, enum0 D.int 0, zip_map, range_map, Turn, Fin, eqv, immS, h1, h2]
          cases sem_as_room [.int (l.length : Int), .tup (l.map .int)] <;> rfl
      · rw [if_neg (fun z => h2 (by omega))]
        cases hd <;> simp [sem_as_lone_room, b_as_lone_room, run, runS, runIO, startIO, endIO, startS, qS, fzAt, sSet, evA, evB, evC, evM, evAT, evBT, viewF, viewB, seeF, seeB, sVar, sC, R.bind, sCall, sCons, sNil, R.of, thenS, thenB, Out.seq, sLst, sTup, sFor, evAI, evCI, sRange1, sRange2, killS, sRet, frzI, frzA, frz1, S.d, sIfS, sBool, sTru, truD, sAnd, sOr, sNot, sIf, sAndV, sOrV, sNotV, sNotT, sOp, intO, ltO, leO, gtO, geO, addO, subO, mulO, fdivO, modO, powO, intC, CP, CD, CW, fzI, fzB, eqO, neO, isO, isN, isnotO, inO, notInO, ixO, lenO, intF, absF, tupF, lstF, sIsTy, isTy, sDrop, sMut1, sMut0, getO, fAppend, fPopAt, fPop, fClear, sSeq, itemsO, sEnum, sZip, sLc, sLc2, CT.set, setsD, wipeE, sChain, sFn, sFnS, sRaise, gN, gT, gsCons, gsNil, sSl, sPart, slO, sCount, seqI, sGet2, keyD, sAppT, getT, toT, sSetIx, sNeg, enum0 D.int 0, zip_map, range_map, Turn, Fin, eqv, immS, h1, h2]
    · rw [if_neg (fun z => h1 (by omega))]
      cases hd <;> simp [sem_as_lone_room, b_as_lone_room, run, runS, runIO, startIO, endIO, startS, qS, fzAt, sSet, evA, evB, evC, evM, evAT, evBT, viewF, viewB, seeF, seeB, sVar, sC, R.bind, sCall, sCons, sNil, R.of, thenS, thenB, Out.seq, sLst, sTup, sFor, evAI, evCI, sRange1, sRange2, killS, sRet, frzI, frzA, frz1, S.d, sIfS, sBool, sTru, truD, sAnd, sOr, sNot, sIf, sAndV, sOrV, sNotV, sNotT, sOp, intO, ltO, leO, gtO, geO, addO, subO, mulO, fdivO, modO, powO, intC, CP, CD, CW, fzI, fzB, eqO, neO, isO, isN, isnotO, inO, notInO, ixO, lenO, intF, absF, tupF, lstF, sIsTy, isTy, sDrop, sMut1, sMut0, getO, fAppend, fPopAt, fPop, fClear, sSeq, itemsO, sEnum, sZip, sLc, sLc2, CT.set, setsD, wipeE, sChain, sFn, sFnS, sRaise, gN, gT, gsCons, gsNil, sSl, sPart, slO, sCount, seqI, sGet2, keyD, sAppT, getT, toT, sSetIx, sNeg, enum0 D.int 0, zip_map, range_map, Turn, Fin, eqv, immS, h1]
  rw [b, a]
  unfold IsRoom
  by_cases h1 : 1 ≤ l.length <;> by_cases h2 : l.length ≤ 12 <;> by_cases h3 : l.all okM = true <;> simp [h1, h2, h3]

theorem need_eq (a b : Int) : sem_need_at_most [.int a, .int b] = if b < a then .ex "TooLarge" [("count", .int a), ("limit", .int b)] else .ok (.fz .non) := by
  by_cases h : b < a <;> simp [sem_need_at_most, b_need_at_most, run, runS, runIO, startIO, endIO, startS, qS, fzAt, sSet, evA, evB, evC, evM, evAT, evBT, viewF, viewB, seeF, seeB, sVar, sC, R.bind, sCall, sCons, sNil, R.of, thenS, thenB, Out.seq, sLst, sTup, sFor, evAI, evCI, sRange1, sRange2, killS, sRet, frzI, frzA, frz1, S.d, sIfS, sBool, sTru, truD, sAnd, sOr, sNot, sIf, sAndV, sOrV, sNotV, sNotT, sOp, intO, ltO, leO, gtO, geO, addO, subO, mulO, fdivO, modO, powO, intC, CP, CD, CW, fzI, fzB, eqO, neO, isO, isN, isnotO, inO, notInO, ixO, lenO, intF, absF, tupF, lstF, sIsTy, isTy, sDrop, sMut1, sMut0, getO, fAppend, fPopAt, fPop, fClear, sSeq, itemsO, sEnum, sZip, sLc, sLc2, CT.set, setsD, wipeE, sChain, sFn, sFnS, sRaise, gN, gT, gsCons, gsNil, sSl, sPart, slO, sCount, seqI, sGet2, keyD, sAppT, getT, toT, sSetIx, sNeg, enum0 D.int 0, zip_map, range_map, Turn, Fin, eqv, immS, h]
theorem Seq'.len {l : List Int} {d : D} (h : Seq' l d) : True := trivial
abbrev tupI (l : List Int) : D := .tup (l.map .int)
abbrev lstI (l : List Int) : D := .lst (l.map .int)
abbrev natI (l : List Nat) : D := .tup (l.map fun (i : Nat) => D.int (i : Int))
abbrev exRoom {α : Type} (l : List Int) : R α := .ex "BadRoom" [("row", tupI l)]
theorem free_eq {l : List Int} {d : D} (hd : Seq' l d) (hl : l.length ≤ 1000) : sem_free_houses [d] = if IsRoom l then .ok (.fz (natI (freeN l))) else exRoom l := by
  have a := lone_eq hd hl
  by_cases h : IsRoom l
  · rw [if_pos h] at a ⊢
    have hlen : (freeN l).length ≤ LIM := lim_of (by have := frees_len l; rw [freeN_len]; omega)
    unfold freeN at hlen ⊢
    simp [sem_free_houses, b_free_houses, run, runS, runIO, startIO, endIO, startS, qS, fzAt, sSet, evA, evB, evC, evM, evAT, evBT, viewF, viewB, seeF, seeB, sVar, sC, R.bind, sCall, sCons, sNil, R.of, thenS, thenB, Out.seq, sLst, sTup, sFor, evAI, evCI, sRange1, sRange2, killS, sRet, frzI, frzA, frz1, S.d, sIfS, sBool, sTru, truD, sAnd, sOr, sNot, sIf, sAndV, sOrV, sNotV, sNotT, sOp, intO, ltO, leO, gtO, geO, addO, subO, mulO, fdivO, modO, powO, intC, CP, CD, CW, fzI, fzB, eqO, neO, isO, isN, isnotO, inO, notInO, ixO, lenO, intF, absF, tupF, lstF, sIsTy, isTy, sDrop, sMut1, sMut0, getO, fAppend, fPopAt, fPop, fClear, sSeq, itemsO, sEnum, sZip, sLc, sLc2, CT.set, setsD, wipeE, sChain, sFn, sFnS, sRaise, gN, gT, gsCons, gsNil, sSl, sPart, slO, sCount, seqI, sGet2, keyD, sAppT, getT, toT, sSetIx, sNeg, enum0 D.int 0, zip_map, range_map, Turn, Fin, eqv, immS, a, -List.getD_eq_getElem?_getD]
    rw [lc_eq (en := fun (i : Nat) => D.tup [.int (i : Int), .int (l.getD i 0)]) (fun i => decide (l.getD i 0 = 2)) (fun i => .int (i : Int)) (List.range l.length) (fun i _ => ⟨_, rfl, by simp [run, runS, runIO, startIO, endIO, startS, qS, fzAt, sSet, evA, evB, evC, evM, evAT, evBT, viewF, viewB, seeF, seeB, sVar, sC, R.bind, sCall, sCons, sNil, R.of, thenS, thenB, Out.seq, sLst, sTup, sFor, evAI, evCI, sRange1, sRange2, killS, sRet, frzI, frzA, frz1, S.d, sIfS, sBool, sTru, truD, sAnd, sOr, sNot, sIf, sAndV, sOrV, sNotV, sNotT, sOp, intO, ltO, leO, gtO, geO, addO, subO, mulO, fdivO, modO, powO, intC, CP, CD, CW, fzI, fzB, eqO, neO, isO, isN, isnotO, inO, notInO, ixO, lenO, intF, absF, tupF, lstF, sIsTy, isTy, sDrop, sMut1, sMut0, getO, fAppend, fPopAt, fPop, fClear, sSeq, itemsO, sEnum, sZip, sLc, sLc2, CT.set, setsD, wipeE, sChain, sFn, sFnS, sRaise, gN, gT, gsCons, gsNil, sSl, sPart, slO, sCount, seqI, sGet2, keyD, sAppT, getT, toT, sSetIx, sNeg, enum0 D.int 0, zip_map, range_map, Turn, Fin, eqv, immS, -List.getD_eq_getElem?_getD], fun _ => ⟨_, rfl, rfl⟩⟩)]
    simp [hlen, -List.getD_eq_getElem?_getD]
  · rw [if_neg h] at a ⊢
    simp [sem_free_houses, b_free_houses, run, runS, runIO, startIO, endIO, startS, qS, fzAt, sSet, evA, evB, evC, evM, evAT, evBT, viewF, viewB, seeF, seeB, sVar, sC, R.bind, sCall, sCons, sNil, R.of, thenS, thenB, Out.seq, sLst, sTup, sFor, evAI, evCI, sRange1, sRange2, killS, sRet, frzI, frzA, frz1, S.d, sIfS, sBool, sTru, truD, sAnd, sOr, sNot, sIf, sAndV, sOrV, sNotV, sNotT, sOp, intO, ltO, leO, gtO, geO, addO, subO, mulO, fdivO, modO, powO, intC, CP, CD, CW, fzI, fzB, eqO, neO, isO, isN, isnotO, inO, notInO, ixO, lenO, intF, absF, tupF, lstF, sIsTy, isTy, sDrop, sMut1, sMut0, getO, fAppend, fPopAt, fPop, fClear, sSeq, itemsO, sEnum, sZip, sLc, sLc2, CT.set, setsD, wipeE, sChain, sFn, sFnS, sRaise, gN, gT, gsCons, gsNil, sSl, sPart, slO, sCount, seqI, sGet2, keyD, sAppT, getT, toT, sSetIx, sNeg, enum0 D.int 0, zip_map, range_map, Turn, Fin, eqv, immS, a]

abbrev stD (l : List (List Int)) : List D := l.map fun s => tupI s
theorem stsStep_len (acc : List (List Int)) (m : Int) : (stsStep acc m).length ≤ 2 * acc.length := by
  unfold stsStep
  induction acc with
  | nil => simp
  | cons a acc ih =>
    rw [List.flatMap_cons, List.length_append, List.length_cons]
    have : ((digs m).map fun d => a ++ [d]).length ≤ 2 := by unfold digs; split <;> simp
    omega
def bnd (k : Nat) (n : Nat) (acc : List (List Int)) : Prop := acc.length ≤ 2 ^ k ∧ ∀ s ∈ acc, s.length = n
theorem states_loop {l : List Int} (hr : IsRoom l) (h8 : frees l ≤ 8) : loop (gN 2) l_states_of_1 [2, 3] (l.map .int) [some (.fz (tupI l)), some (.fz (.lst [.tup []])), none, none, none, none] = .nx [some (.fz (tupI l)), some (.fz (.lst (stD (sts l)))), none, none, none, none] := by
  have key := loop_allI (en := D.int) (t := gN 2) (body := l_states_of_1) (kl := [2, 3]) (fun acc => [some (.fz (tupI l)), some (.fz (.lst (stD acc))), none, none, none, none]) (fun pre acc => pre.foldl stsStep [[]] = acc) stsStep l [[]] (fun pre m post acc e i => by
    have hall : pre.all okM = true ∧ okM m = true ∧ post.all okM = true := by
      have := hr.2.2; rw [e] at this; simpa [-List.all_eq_true] using this
    have hp : acc = sts pre := by rw [← i, sts_eq _ hall.1]
    have hlen : (stsStep acc m).length ≤ LIM := by
      have h1 : (pre ++ [m]).all okM = true := by simp [hall, -List.all_eq_true]
      have h2 := sts_len _ h1
      have h3 : stsStep acc m = sts (pre ++ [m]) := by rw [← sts_eq _ h1, List.foldl_append, List.foldl_cons, List.foldl_nil, i]
      have h4 : frees (pre ++ [m]) ≤ frees l := by rw [e]; unfold frees; rw [List.count_append, List.count_append, List.count_cons, List.count_cons, List.count_nil]; omega
      rw [h3, h2]
      exact lim_of (Nat.le_trans (Nat.pow_le_pow_right (by decide) (Nat.le_trans h4 h8)) (by decide))
    refine ⟨⟨_, [some (.fz (tupI l)), some (.fz (.lst (stD (stsStep acc m)))), some (.fz (.int m)), some (.fz (tupI (digs m))), none, none], rfl, ?_, rfl⟩, by rw [List.foldl_append, i]; rfl⟩
    have hmem : ∀ s ∈ acc, s.length ≤ 12 := fun s hs => by
      rw [hp] at hs
      rw [sts_mem_len _ s hs]
      have := hr.2.1; rw [e] at this; simp at this; omega
    have e2 : ((acc.filter fun _ => true).flatMap fun x => ((digs m).filter fun _ => true).map fun d => tupI (x ++ [d])) = stD (stsStep acc m) := by
      rw [List.filter_eq_self.mpr (fun _ _ => rfl), List.filter_eq_self.mpr (fun _ _ => rfl)]
      unfold stsStep stD
      rw [List.map_flatMap]
      congr 1
      funext s
      rw [List.map_map]
      rfl
    by_cases hm : m = 2
    · subst hm
      simp [l_states_of_1, run, runS, runIO, startIO, endIO, startS, qS, fzAt, sSet, evA, evB, evC, evM, evAT, evBT, viewF, viewB, seeF, seeB, sVar, sC, R.bind, sCall, sCons, sNil, R.of, thenS, thenB, Out.seq, sLst, sTup, sFor, evAI, evCI, sRange1, sRange2, killS, sRet, frzI, frzA, frz1, S.d, sIfS, sBool, sTru, truD, sAnd, sOr, sNot, sIf, sAndV, sOrV, sNotV, sNotT, sOp, intO, ltO, leO, gtO, geO, addO, subO, mulO, fdivO, modO, powO, intC, CP, CD, CW, fzI, fzB, eqO, neO, isO, isN, isnotO, inO, notInO, ixO, lenO, intF, absF, tupF, lstF, sIsTy, isTy, sDrop, sMut1, sMut0, getO, fAppend, fPopAt, fPop, fClear, sSeq, itemsO, sEnum, sZip, sLc, sLc2, CT.set, setsD, wipeE, sChain, sFn, sFnS, sRaise, gN, gT, gsCons, gsNil, sSl, sPart, slO, sCount, seqI, sGet2, keyD, sAppT, getT, toT, sSetIx, sNeg, enum0 D.int 0, zip_map, range_map, Turn, Fin, eqv, immS]
      rw [lc2_eq (en := fun s => tupI s) (en1 := D.int) (fun _ => true) (fun _ => digs 2) (fun _ _ => true) (fun s d => tupI (s ++ [d])) acc (fun s hs => ⟨_, rfl, rfl, fun _ => ⟨by simp [run, runS, runIO, startIO, endIO, startS, qS, fzAt, sSet, evA, evB, evC, evM, evAT, evBT, viewF, viewB, seeF, seeB, sVar, sC, R.bind, sCall, sCons, sNil, R.of, thenS, thenB, Out.seq, sLst, sTup, sFor, evAI, evCI, sRange1, sRange2, killS, sRet, frzI, frzA, frz1, S.d, sIfS, sBool, sTru, truD, sAnd, sOr, sNot, sIf, sAndV, sOrV, sNotV, sNotT, sOp, intO, ltO, leO, gtO, geO, addO, subO, mulO, fdivO, modO, powO, intC, CP, CD, CW, fzI, fzB, eqO, neO, isO, isN, isnotO, inO, notInO, ixO, lenO, intF, absF, tupF, lstF, sIsTy, isTy, sDrop, sMut1, sMut0, getO, fAppend, fPopAt, fPop, fClear, sSeq, itemsO, sEnum, sZip, sLc, sLc2, CT.set, setsD, wipeE, sChain, sFn, sFnS, sRaise, gN, gT, gsCons, gsNil, sSl, sPart, slO, sCount, seqI, sGet2, keyD, sAppT, getT, toT, sSetIx, sNeg, enum0 D.int 0, zip_map, range_map, Turn, Fin, eqv, immS, digs], fun d _ => ⟨_, rfl, rfl, fun _ => by
        have := hmem s hs
        simp [run, runS, runIO, startIO, endIO, startS, qS, fzAt, sSet, evA, evB, evC, evM, evAT, evBT, viewF, viewB, seeF, seeB, sVar, sC, R.bind, sCall, sCons, sNil, R.of, thenS, thenB, Out.seq, sLst, sTup, sFor, evAI, evCI, sRange1, sRange2, killS, sRet, frzI, frzA, frz1, S.d, sIfS, sBool, sTru, truD, sAnd, sOr, sNot, sIf, sAndV, sOrV, sNotV, sNotT, sOp, intO, ltO, leO, gtO, geO, addO, subO, mulO, fdivO, modO, powO, intC, CP, CD, CW, fzI, fzB, eqO, neO, isO, isN, isnotO, inO, notInO, ixO, lenO, intF, absF, tupF, lstF, sIsTy, isTy, sDrop, sMut1, sMut0, getO, fAppend, fPopAt, fPop, fClear, sSeq, itemsO, sEnum, sZip, sLc, sLc2, CT.set, setsD, wipeE, sChain, sFn, sFnS, sRaise, gN, gT, gsCons, gsNil, sSl, sPart, slO, sCount, seqI, sGet2, keyD, sAppT, getT, toT, sSetIx, sNeg, enum0 D.int 0, zip_map, range_map, Turn, Fin, eqv, immS, lim_of (show s.length + 1 ≤ 1000000 by omega)]⟩⟩⟩), e2]
      simp [hlen, digs]
    · have hdg : digs m = [m] := by unfold digs; rw [if_neg hm]
      simp [l_states_of_1, run, runS, runIO, startIO, endIO, startS, qS, fzAt, sSet, evA, evB, evC, evM, evAT, evBT, viewF, viewB, seeF, seeB, sVar, sC, R.bind, sCall, sCons, sNil, R.of, thenS, thenB, Out.seq, sLst, sTup, sFor, evAI, evCI, sRange1, sRange2, killS, sRet, frzI, frzA, frz1, S.d, sIfS, sBool, sTru, truD, sAnd, sOr, sNot, sIf, sAndV, sOrV, sNotV, sNotT, sOp, intO, ltO, leO, gtO, geO, addO, subO, mulO, fdivO, modO, powO, intC, CP, CD, CW, fzI, fzB, eqO, neO, isO, isN, isnotO, inO, notInO, ixO, lenO, intF, absF, tupF, lstF, sIsTy, isTy, sDrop, sMut1, sMut0, getO, fAppend, fPopAt, fPop, fClear, sSeq, itemsO, sEnum, sZip, sLc, sLc2, CT.set, setsD, wipeE, sChain, sFn, sFnS, sRaise, gN, gT, gsCons, gsNil, sSl, sPart, slO, sCount, seqI, sGet2, keyD, sAppT, getT, toT, sSetIx, sNeg, enum0 D.int 0, zip_map, range_map, Turn, Fin, eqv, immS, hm]
      rw [lc2_eq (en := fun s => tupI s) (en1 := D.int) (fun _ => true) (fun _ => digs m) (fun _ _ => true) (fun s d => tupI (s ++ [d])) acc (fun s hs => ⟨_, rfl, rfl, fun _ => ⟨by simp [run, runS, runIO, startIO, endIO, startS, qS, fzAt, sSet, evA, evB, evC, evM, evAT, evBT, viewF, viewB, seeF, seeB, sVar, sC, R.bind, sCall, sCons, sNil, R.of, thenS, thenB, Out.seq, sLst, sTup, sFor, evAI, evCI, sRange1, sRange2, killS, sRet, frzI, frzA, frz1, S.d, sIfS, sBool, sTru, truD, sAnd, sOr, sNot, sIf, sAndV, sOrV, sNotV, sNotT, sOp, intO, ltO, leO, gtO, geO, addO, subO, mulO, fdivO, modO, powO, intC, CP, CD, CW, fzI, fzB, eqO, neO, isO, isN, isnotO, inO, notInO, ixO, lenO, intF, absF, tupF, lstF, sIsTy, isTy, sDrop, sMut1, sMut0, getO, fAppend, fPopAt, fPop, fClear, sSeq, itemsO, sEnum, sZip, sLc, sLc2, CT.set, setsD, wipeE, sChain, sFn, sFnS, sRaise, gN, gT, gsCons, gsNil, sSl, sPart, slO, sCount, seqI, sGet2, keyD, sAppT, getT, toT, sSetIx, sNeg, enum0 D.int 0, zip_map, range_map, Turn, Fin, eqv, immS, hdg], fun d _ => ⟨_, rfl, rfl, fun _ => by
        have := hmem s hs
        simp [run, runS, runIO, startIO, endIO, startS, qS, fzAt, sSet, evA, evB, evC, evM, evAT, evBT, viewF, viewB, seeF, seeB, sVar, sC, R.bind, sCall, sCons, sNil, R.of, thenS, thenB, Out.seq, sLst, sTup, sFor, evAI, evCI, sRange1, sRange2, killS, sRet, frzI, frzA, frz1, S.d, sIfS, sBool, sTru, truD, sAnd, sOr, sNot, sIf, sAndV, sOrV, sNotV, sNotT, sOp, intO, ltO, leO, gtO, geO, addO, subO, mulO, fdivO, modO, powO, intC, CP, CD, CW, fzI, fzB, eqO, neO, isO, isN, isnotO, inO, notInO, ixO, lenO, intF, absF, tupF, lstF, sIsTy, isTy, sDrop, sMut1, sMut0, getO, fAppend, fPopAt, fPop, fClear, sSeq, itemsO, sEnum, sZip, sLc, sLc2, CT.set, setsD, wipeE, sChain, sFn, sFnS, sRaise, gN, gT, gsCons, gsNil, sSl, sPart, slO, sCount, seqI, sGet2, keyD, sAppT, getT, toT, sSetIx, sNeg, enum0 D.int 0, zip_map, range_map, Turn, Fin, eqv, immS, lim_of (show s.length + 1 ≤ 1000000 by omega)]⟩⟩⟩), e2]
      simp [hlen, hdg]) rfl
  obtain ⟨key, e⟩ := key
  rw [← e, sts_eq _ hr.2.2] at key
  exact key
theorem states_eq {l : List Int} {d : D} (hd : Seq' l d) (hl : l.length ≤ 1000) : sem_states_of [d] = if IsRoom l then (if frees l ≤ 8 then .ok (.fz (.tup (stD (sts l)))) else .ex "TooLarge" [("count", .int (frees l : Nat)), ("limit", .int 8)]) else exRoom l := by
  have a := lone_eq hd hl
  by_cases h : IsRoom l
  · rw [if_pos h] at a ⊢
    have n := need_eq (frees l : Nat) 8
    by_cases h8 : frees l ≤ 8
    · rw [if_pos h8]
      rw [if_neg (by omega)] at n
      have hlp := states_loop h h8
      simp [sem_states_of, b_states_of, run, runS, runIO, startIO, endIO, startS, qS, fzAt, sSet, evA, evB, evC, evM, evAT, evBT, viewF, viewB, seeF, seeB, sVar, sC, R.bind, sCall, sCons, sNil, R.of, thenS, thenB, Out.seq, sLst, sTup, sFor, evAI, evCI, sRange1, sRange2, killS, sRet, frzI, frzA, frz1, S.d, sIfS, sBool, sTru, truD, sAnd, sOr, sNot, sIf, sAndV, sOrV, sNotV, sNotT, sOp, intO, ltO, leO, gtO, geO, addO, subO, mulO, fdivO, modO, powO, intC, CP, CD, CW, fzI, fzB, eqO, neO, isO, isN, isnotO, inO, notInO, ixO, lenO, intF, absF, tupF, lstF, sIsTy, isTy, sDrop, sMut1, sMut0, getO, fAppend, fPopAt, fPop, fClear, sSeq, itemsO, sEnum, sZip, sLc, sLc2, CT.set, setsD, wipeE, sChain, sFn, sFnS, sRaise, gN, gT, gsCons, gsNil, sSl, sPart, slO, sCount, seqI, sGet2, keyD, sAppT, getT, toT, sSetIx, sNeg, enum0 D.int 0, zip_map, range_map, Turn, Fin, eqv, immS, a, intsD_ints]
      unfold frees at n
      rw [n]
      simp
      rw [hlp]
      simp
    · rw [if_neg h8]
      rw [if_pos (by omega)] at n
      unfold frees at n ⊢
      simp [sem_states_of, b_states_of, run, runS, runIO, startIO, endIO, startS, qS, fzAt, sSet, evA, evB, evC, evM, evAT, evBT, viewF, viewB, seeF, seeB, sVar, sC, R.bind, sCall, sCons, sNil, R.of, thenS, thenB, Out.seq, sLst, sTup, sFor, evAI, evCI, sRange1, sRange2, killS, sRet, frzI, frzA, frz1, S.d, sIfS, sBool, sTru, truD, sAnd, sOr, sNot, sIf, sAndV, sOrV, sNotV, sNotT, sOp, intO, ltO, leO, gtO, geO, addO, subO, mulO, fdivO, modO, powO, intC, CP, CD, CW, fzI, fzB, eqO, neO, isO, isN, isnotO, inO, notInO, ixO, lenO, intF, absF, tupF, lstF, sIsTy, isTy, sDrop, sMut1, sMut0, getO, fAppend, fPopAt, fPop, fClear, sSeq, itemsO, sEnum, sZip, sLc, sLc2, CT.set, setsD, wipeE, sChain, sFn, sFnS, sRaise, gN, gT, gsCons, gsNil, sSl, sPart, slO, sCount, seqI, sGet2, keyD, sAppT, getT, toT, sSetIx, sNeg, enum0 D.int 0, zip_map, range_map, Turn, Fin, eqv, immS, a, intsD_ints]
      rw [n]
  · rw [if_neg h] at a ⊢
    simp [sem_states_of, b_states_of, run, runS, runIO, startIO, endIO, startS, qS, fzAt, sSet, evA, evB, evC, evM, evAT, evBT, viewF, viewB, seeF, seeB, sVar, sC, R.bind, sCall, sCons, sNil, R.of, thenS, thenB, Out.seq, sLst, sTup, sFor, evAI, evCI, sRange1, sRange2, killS, sRet, frzI, frzA, frz1, S.d, sIfS, sBool, sTru, truD, sAnd, sOr, sNot, sIf, sAndV, sOrV, sNotV, sNotT, sOp, intO, ltO, leO, gtO, geO, addO, subO, mulO, fdivO, modO, powO, intC, CP, CD, CW, fzI, fzB, eqO, neO, isO, isN, isnotO, inO, notInO, ixO, lenO, intF, absF, tupF, lstF, sIsTy, isTy, sDrop, sMut1, sMut0, getO, fAppend, fPopAt, fPop, fClear, sSeq, itemsO, sEnum, sZip, sLc, sLc2, CT.set, setsD, wipeE, sChain, sFn, sFnS, sRaise, gN, gT, gsCons, gsNil, sSl, sPart, slO, sCount, seqI, sGet2, keyD, sAppT, getT, toT, sSetIx, sNeg, enum0 D.int 0, zip_map, range_map, Turn, Fin, eqv, immS, a]
end O

end

section
set_option Elab.async false
set_option linter.all false
set_option maxRecDepth 100000
set_option maxHeartbeats 1000000
namespace O
open PySem PySem.Spec PyProof.Rows L2
theorem inside_eq (a b : List Int) : sem_is_inside [tupI a, tupI b] = .ok (.fz (.bl (insideB a b))) := by
  simp [sem_is_inside, b_is_inside, run, runS, runIO, startIO, endIO, startS, qS, fzAt, sSet, evA, evB, evC, evM, evAT, evBT, viewF, viewB, seeF, seeB, sVar, sC, R.bind, sCall, sCons, sNil, R.of, thenS, thenB, Out.seq, sLst, sTup, sFor, evAI, evCI, sRange1, sRange2, killS, sRet, frzI, frzA, frz1, S.d, sIfS, sBool, sTru, truD, sAnd, sOr, sNot, sIf, sAndV, sOrV, sNotV, sNotT, sOp, intO, ltO, leO, gtO, geO, addO, subO, mulO, fdivO, modO, powO, intC, CP, CD, CW, fzI, fzB, eqO, neO, isO, isN, isnotO, inO, notInO, ixO, lenO, intF, absF, tupF, lstF, sIsTy, isTy, sDrop, sMut1, sMut0, getO, fAppend, fPopAt, fPop, fClear, sSeq, itemsO, sEnum, sZip, sLc, sLc2, CT.set, setsD, wipeE, sChain, sFn, sFnS, sRaise, gN, gT, gsCons, gsNil, sSl, sPart, slO, sCount, seqI, sGet2, keyD, sAppT, getT, toT, sSetIx, sNeg, enum0 D.int 0, zip_map, range_map, Turn, Fin, eqv, immS]
  rw [loop_find (en := fun p : Int × Int => D.tup [.int p.1, .int p.2]) [some (.fz (tupI a)), some (.fz (tupI b)), none, none] (fun p => !!(decide (p.2 ≠ 2) && decide (p.1 ≠ p.2))) (fun p => .rt (.fz (.bl false)) [some (.fz (tupI a)), some (.fz (tupI b)), some (.fz (.int p.1)), some (.fz (.int p.2))]) (a.zip b) (fun p _ => by
    refine ⟨_, rfl, fun h => ⟨[some (.fz (tupI a)), some (.fz (tupI b)), some (.fz (.int p.1)), some (.fz (.int p.2))], ?_, rfl⟩, fun h => ⟨?_, trivial⟩⟩
    · by_cases h2 : p.2 = 2
      · simp [l_is_inside_1, run, runS, runIO, startIO, endIO, startS, qS, fzAt, sSet, evA, evB, evC, evM, evAT, evBT, viewF, viewB, seeF, seeB, sVar, sC, R.bind, sCall, sCons, sNil, R.of, thenS, thenB, Out.seq, sLst, sTup, sFor, evAI, evCI, sRange1, sRange2, killS, sRet, frzI, frzA, frz1, S.d, sIfS, sBool, sTru, truD, sAnd, sOr, sNot, sIf, sAndV, sOrV, sNotV, sNotT, sOp, intO, ltO, leO, gtO, geO, addO, subO, mulO, fdivO, modO, powO, intC, CP, CD, CW, fzI, fzB, eqO, neO, isO, isN, isnotO, inO, notInO, ixO, lenO, intF, absF, tupF, lstF, sIsTy, isTy, sDrop, sMut1, sMut0, getO, fAppend, fPopAt, fPop, fClear, sSeq, itemsO, sEnum, sZip, sLc, sLc2, CT.set, setsD, wipeE, sChain, sFn, sFnS, sRaise, gN, gT, gsCons, gsNil, sSl, sPart, slO, sCount, seqI, sGet2, keyD, sAppT, getT, toT, sSetIx, sNeg, enum0 D.int 0, zip_map, range_map, Turn, Fin, eqv, immS, h2]
      · have : p.1 = p.2 := by simpa [h2] using h
        simp [l_is_inside_1, run, runS, runIO, startIO, endIO, startS, qS, fzAt, sSet, evA, evB, evC, evM, evAT, evBT, viewF, viewB, seeF, seeB, sVar, sC, R.bind, sCall, sCons, sNil, R.of, thenS, thenB, Out.seq, sLst, sTup, sFor, evAI, evCI, sRange1, sRange2, killS, sRet, frzI, frzA, frz1, S.d, sIfS, sBool, sTru, truD, sAnd, sOr, sNot, sIf, sAndV, sOrV, sNotV, sNotT, sOp, intO, ltO, leO, gtO, geO, addO, subO, mulO, fdivO, modO, powO, intC, CP, CD, CW, fzI, fzB, eqO, neO, isO, isN, isnotO, inO, notInO, ixO, lenO, intF, absF, tupF, lstF, sIsTy, isTy, sDrop, sMut1, sMut0, getO, fAppend, fPopAt, fPop, fClear, sSeq, itemsO, sEnum, sZip, sLc, sLc2, CT.set, setsD, wipeE, sChain, sFn, sFnS, sRaise, gN, gT, gsCons, gsNil, sSl, sPart, slO, sCount, seqI, sGet2, keyD, sAppT, getT, toT, sSetIx, sNeg, enum0 D.int 0, zip_map, range_map, Turn, Fin, eqv, immS, h2, this]
    · have h2 : p.2 ≠ 2 ∧ p.1 ≠ p.2 := by simpa using h
      simp [l_is_inside_1, run, runS, runIO, startIO, endIO, startS, qS, fzAt, sSet, evA, evB, evC, evM, evAT, evBT, viewF, viewB, seeF, seeB, sVar, sC, R.bind, sCall, sCons, sNil, R.of, thenS, thenB, Out.seq, sLst, sTup, sFor, evAI, evCI, sRange1, sRange2, killS, sRet, frzI, frzA, frz1, S.d, sIfS, sBool, sTru, truD, sAnd, sOr, sNot, sIf, sAndV, sOrV, sNotV, sNotT, sOp, intO, ltO, leO, gtO, geO, addO, subO, mulO, fdivO, modO, powO, intC, CP, CD, CW, fzI, fzB, eqO, neO, isO, isN, isnotO, inO, notInO, ixO, lenO, intF, absF, tupF, lstF, sIsTy, isTy, sDrop, sMut1, sMut0, getO, fAppend, fPopAt, fPop, fClear, sSeq, itemsO, sEnum, sZip, sLc, sLc2, CT.set, setsD, wipeE, sChain, sFn, sFnS, sRaise, gN, gT, gsCons, gsNil, sSl, sPart, slO, sCount, seqI, sGet2, keyD, sAppT, getT, toT, sSetIx, sNeg, enum0 D.int 0, zip_map, range_map, Turn, Fin, eqv, immS, h2])]
  unfold insideB
  rcases find_not (fun p : Int × Int => !(decide (p.2 ≠ 2) && decide (p.1 ≠ p.2))) (a.zip b) with ⟨hf, ha⟩ | ⟨m, hf, ha⟩ <;> rw [hf, ha] <;> rfl
theorem within_eq {a b : List Int} {da db : D} (ha : Seq' a da) (hb : Seq' b db) (hla : a.length ≤ 1000) (hlb : b.length ≤ 1000) :
    sem_lies_within [da, db] = if IsRoom a then (if b.length = a.length ∧ b.all okM = true then .ok (.fz (.bl (insideB a b))) else exRoom b) else exRoom a := by
  have e1 := lone_eq ha hla
  by_cases h : IsRoom a
  · rw [if_pos h] at e1 ⊢
    have e2 := as_room_eq (size := (a.length : Int)) hb hlb
    have e3 := inside_eq a b
    by_cases h2 : b.length = a.length ∧ b.all okM = true
    · rw [if_pos ⟨by omega, h2.2⟩] at e2
      rw [if_pos h2]
      simp [sem_lies_within, b_lies_within, run, runS, runIO, startIO, endIO, startS, qS, fzAt, sSet, evA, evB, evC, evM, evAT, evBT, viewF, viewB, seeF, seeB, sVar, sC, R.bind, sCall, sCons, sNil, R.of, thenS, thenB, Out.seq, sLst, sTup, sFor, evAI, evCI, sRange1, sRange2, killS, sRet, frzI, frzA, frz1, S.d, sIfS, sBool, sTru, truD, sAnd, sOr, sNot, sIf, sAndV, sOrV, sNotV, sNotT, sOp, intO, ltO, leO, gtO, geO, addO, subO, mulO, fdivO, modO, powO, intC, CP, CD, CW, fzI, fzB, eqO, neO, isO, isN, isnotO, inO, notInO, ixO, lenO, intF, absF, tupF, lstF, sIsTy, isTy, sDrop, sMut1, sMut0, getO, fAppend, fPopAt, fPop, fClear, sSeq, itemsO, sEnum, sZip, sLc, sLc2, CT.set, setsD, wipeE, sChain, sFn, sFnS, sRaise, gN, gT, gsCons, gsNil, sSl, sPart, slO, sCount, seqI, sGet2, keyD, sAppT, getT, toT, sSetIx, sNeg, enum0 D.int 0, zip_map, range_map, Turn, Fin, eqv, immS, e1, e2]
      rw [e3]
    · rw [if_neg (fun z => h2 ⟨by omega, z.2⟩)] at e2
      rw [if_neg h2]
      simp [sem_lies_within, b_lies_within, run, runS, runIO, startIO, endIO, startS, qS, fzAt, sSet, evA, evB, evC, evM, evAT, evBT, viewF, viewB, seeF, seeB, sVar, sC, R.bind, sCall, sCons, sNil, R.of, thenS, thenB, Out.seq, sLst, sTup, sFor, evAI, evCI, sRange1, sRange2, killS, sRet, frzI, frzA, frz1, S.d, sIfS, sBool, sTru, truD, sAnd, sOr, sNot, sIf, sAndV, sOrV, sNotV, sNotT, sOp, intO, ltO, leO, gtO, geO, addO, subO, mulO, fdivO, modO, powO, intC, CP, CD, CW, fzI, fzB, eqO, neO, isO, isN, isnotO, inO, notInO, ixO, lenO, intF, absF, tupF, lstF, sIsTy, isTy, sDrop, sMut1, sMut0, getO, fAppend, fPopAt, fPop, fClear, sSeq, itemsO, sEnum, sZip, sLc, sLc2, CT.set, setsD, wipeE, sChain, sFn, sFnS, sRaise, gN, gT, gsCons, gsNil, sSl, sPart, slO, sCount, seqI, sGet2, keyD, sAppT, getT, toT, sSetIx, sNeg, enum0 D.int 0, zip_map, range_map, Turn, Fin, eqv, immS, e1, e2]
  · rw [if_neg h] at e1 ⊢
    simp [sem_lies_within, b_lies_within, run, runS, runIO, startIO, endIO, startS, qS, fzAt, sSet, evA, evB, evC, evM, evAT, evBT, viewF, viewB, seeF, seeB, sVar, sC, R.bind, sCall, sCons, sNil, R.of, thenS, thenB, Out.seq, sLst, sTup, sFor, evAI, evCI, sRange1, sRange2, killS, sRet, frzI, frzA, frz1, S.d, sIfS, sBool, sTru, truD, sAnd, sOr, sNot, sIf, sAndV, sOrV, sNotV, sNotT, sOp, intO, ltO, leO, gtO, geO, addO, subO, mulO, fdivO, modO, powO, intC, CP, CD, CW, fzI, fzB, eqO, neO, isO, isN, isnotO, inO, notInO, ixO, lenO, intF, absF, tupF, lstF, sIsTy, isTy, sDrop, sMut1, sMut0, getO, fAppend, fPopAt, fPop, fClear, sSeq, itemsO, sEnum, sZip, sLc, sLc2, CT.set, setsD, wipeE, sChain, sFn, sFnS, sRaise, gN, gT, gsCons, gsNil, sSl, sPart, slO, sCount, seqI, sGet2, keyD, sAppT, getT, toT, sSetIx, sNeg, enum0 D.int 0, zip_map, range_map, Turn, Fin, eqv, immS, e1]
/-- the rows -/
inductive Rows' : List (List Int) → List D → Prop
  | nil : Rows' [] []
  | cons {r : List Int} {d : D} {rs : List (List Int)} {ds : List D} (h : Seq' r d) (hs : Rows' rs ds) : Rows' (r :: rs) (d :: ds)
def badRow (n : Nat) (rs : List (List Int)) : Option (List Int) := rs.find? fun r => !(decide (r.length = n) && r.all okM)
theorem same_loop {a : List Int} {od : D} : ∀ {rs : List (List Int)} {ds : List D}, Rows' rs ds → (∀ r ∈ rs, r.length ≤ 1000) → ∀ acc : List (List Int), acc.length + rs.length ≤ 1000 →
    ∃ ρe, loop (gN 3) l_same_sized_1 [3] ds [some (.fz (tupI a)), some (.fz od), some (.ow (stD acc)), none] = match badRow a.length rs with
      | none => .nx [some (.fz (tupI a)), some (.fz od), some (.ow (stD (acc ++ rs))), none]
      | some r => .ex "BadRoom" [("row", tupI r)] ρe
  | _, _, .nil, _, acc, _ => ⟨[], by simp [loop, badRow]⟩
  | _, _, .cons (r := r) (d := d) (rs := rs) (ds := ds) h hs, hl, acc, hz => by
    have e := as_room_eq (size := (a.length : Int)) h (hl r (List.mem_cons_self ..))
    have hz' : acc.length + (rs.length + 1) ≤ 1000 := by simpa using hz
    by_cases h2 : r.length = a.length ∧ r.all okM = true
    · rw [if_pos ⟨by omega, h2.2⟩] at e
      obtain ⟨ρe, ih⟩ := same_loop (a := a) (od := od) hs (fun x hx => hl x (List.mem_cons_of_mem _ hx)) (acc ++ [r]) (by simp; omega)
      refine ⟨ρe, ?_⟩
      have hb : badRow a.length (r :: rs) = badRow a.length rs := by unfold badRow; rw [List.find?_cons_of_neg]; simp [h2, -List.all_eq_true]
      rw [hb]
      unfold loop
      have hlen : (stD acc).length < LIM := lim_lt (by simp; omega)
      simp at hlen
      simp [l_same_sized_1, run, runS, runIO, startIO, endIO, startS, qS, fzAt, sSet, evA, evB, evC, evM, evAT, evBT, viewF, viewB, seeF, seeB, sVar, sC, R.bind, sCall, sCons, sNil, R.of, thenS, thenB, Out.seq, sLst, sTup, sFor, evAI, evCI, sRange1, sRange2, killS, sRet, frzI, frzA, frz1, S.d, sIfS, sBool, sTru, truD, sAnd, sOr, sNot, sIf, sAndV, sOrV, sNotV, sNotT, sOp, intO, ltO, leO, gtO, geO, addO, subO, mulO, fdivO, modO, powO, intC, CP, CD, CW, fzI, fzB, eqO, neO, isO, isN, isnotO, inO, notInO, ixO, lenO, intF, absF, tupF, lstF, sIsTy, isTy, sDrop, sMut1, sMut0, getO, fAppend, fPopAt, fPop, fClear, sSeq, itemsO, sEnum, sZip, sLc, sLc2, CT.set, setsD, wipeE, sChain, sFn, sFnS, sRaise, gN, gT, gsCons, gsNil, sSl, sPart, slO, sCount, seqI, sGet2, keyD, sAppT, getT, toT, sSetIx, sNeg, enum0 D.int 0, zip_map, range_map, Turn, Fin, eqv, immS, e, hlen]
      simp at ih
      exact ih
    · rw [if_neg (fun z => h2 ⟨by omega, z.2⟩)] at e
      refine ⟨[some (.fz (tupI a)), some (.fz od), some (.ow (stD acc)), some (.fz d)], ?_⟩
      have hb : badRow a.length (r :: rs) = some r := by
        unfold badRow; rw [List.find?_cons_of_pos]
        by_cases h3 : r.length = a.length
        · have : r.all okM = false := by rw [Bool.eq_false_iff]; exact fun z => h2 ⟨h3, z⟩
          simp [this]
        · simp [h3]
      rw [hb]
      unfold loop
      simp [l_same_sized_1, run, runS, runIO, startIO, endIO, startS, qS, fzAt, sSet, evA, evB, evC, evM, evAT, evBT, viewF, viewB, seeF, seeB, sVar, sC, R.bind, sCall, sCons, sNil, R.of, thenS, thenB, Out.seq, sLst, sTup, sFor, evAI, evCI, sRange1, sRange2, killS, sRet, frzI, frzA, frz1, S.d, sIfS, sBool, sTru, truD, sAnd, sOr, sNot, sIf, sAndV, sOrV, sNotV, sNotT, sOp, intO, ltO, leO, gtO, geO, addO, subO, mulO, fdivO, modO, powO, intC, CP, CD, CW, fzI, fzB, eqO, neO, isO, isN, isnotO, inO, notInO, ixO, lenO, intF, absF, tupF, lstF, sIsTy, isTy, sDrop, sMut1, sMut0, getO, fAppend, fPopAt, fPop, fClear, sSeq, itemsO, sEnum, sZip, sLc, sLc2, CT.set, setsD, wipeE, sChain, sFn, sFnS, sRaise, gN, gT, gsCons, gsNil, sSl, sPart, slO, sCount, seqI, sGet2, keyD, sAppT, getT, toT, sSetIx, sNeg, enum0 D.int 0, zip_map, range_map, Turn, Fin, eqv, immS, e]
theorem same_eq {a : List Int} {da : D} (ha : Seq' a da) (hla : a.length ≤ 1000) {rs : List (List Int)} {ds : List D} (h : Rows' rs ds) (hl : ∀ r ∈ rs, r.length ≤ 1000) (hz : rs.length ≤ 900) :
    sem_same_sized [da, .tup ds] = if IsRoom a then (match badRow a.length rs with | none => .ok (.ow (stD (a :: rs))) | some r => exRoom r) else exRoom a := by
  have e1 := lone_eq ha hla
  by_cases hr : IsRoom a
  · rw [if_pos hr] at e1 ⊢
    obtain ⟨ρe, e2⟩ := same_loop (a := a) (od := .tup ds) h hl [a] (by simp; omega)
    simp [sem_same_sized, b_same_sized, run, runS, runIO, startIO, endIO, startS, qS, fzAt, sSet, evA, evB, evC, evM, evAT, evBT, viewF, viewB, seeF, seeB, sVar, sC, R.bind, sCall, sCons, sNil, R.of, thenS, thenB, Out.seq, sLst, sTup, sFor, evAI, evCI, sRange1, sRange2, killS, sRet, frzI, frzA, frz1, S.d, sIfS, sBool, sTru, truD, sAnd, sOr, sNot, sIf, sAndV, sOrV, sNotV, sNotT, sOp, intO, ltO, leO, gtO, geO, addO, subO, mulO, fdivO, modO, powO, intC, CP, CD, CW, fzI, fzB, eqO, neO, isO, isN, isnotO, inO, notInO, ixO, lenO, intF, absF, tupF, lstF, sIsTy, isTy, sDrop, sMut1, sMut0, getO, fAppend, fPopAt, fPop, fClear, sSeq, itemsO, sEnum, sZip, sLc, sLc2, CT.set, setsD, wipeE, sChain, sFn, sFnS, sRaise, gN, gT, gsCons, gsNil, sSl, sPart, slO, sCount, seqI, sGet2, keyD, sAppT, getT, toT, sSetIx, sNeg, enum0 D.int 0, zip_map, range_map, Turn, Fin, eqv, immS, e1]
    simp at e2
    rw [e2]
    cases badRow a.length rs <;> simp
  · rw [if_neg hr] at e1 ⊢
    simp [sem_same_sized, b_same_sized, run, runS, runIO, startIO, endIO, startS, qS, fzAt, sSet, evA, evB, evC, evM, evAT, evBT, viewF, viewB, seeF, seeB, sVar, sC, R.bind, sCall, sCons, sNil, R.of, thenS, thenB, Out.seq, sLst, sTup, sFor, evAI, evCI, sRange1, sRange2, killS, sRet, frzI, frzA, frz1, S.d, sIfS, sBool, sTru, truD, sAnd, sOr, sNot, sIf, sAndV, sOrV, sNotV, sNotT, sOp, intO, ltO, leO, gtO, geO, addO, subO, mulO, fdivO, modO, powO, intC, CP, CD, CW, fzI, fzB, eqO, neO, isO, isN, isnotO, inO, notInO, ixO, lenO, intF, absF, tupF, lstF, sIsTy, isTy, sDrop, sMut1, sMut0, getO, fAppend, fPopAt, fPop, fClear, sSeq, itemsO, sEnum, sZip, sLc, sLc2, CT.set, setsD, wipeE, sChain, sFn, sFnS, sRaise, gN, gT, gsCons, gsNil, sSl, sPart, slO, sCount, seqI, sGet2, keyD, sAppT, getT, toT, sSetIx, sNeg, enum0 D.int 0, zip_map, range_map, Turn, Fin, eqv, immS, e1]

/-! meet -/
abbrev mE (x y : D) (rs : List (List Int)) (o4 : Option S) (ms : List Int) : SEnv := [some (.fz x), some (.fz y), some (.fz (.lst (stD rs))), some (.ow (ms.map .int)), o4, none, none]
theorem getO_ow (l : List D) : getO (.ow l) = some (l, S.ow) := rfl
theorem meet_in (x y : D) (rs : List (List Int)) (r : List Int) (n : Nat) (hn : r.length = n) (ms : List Int) (hm : ms.length = n) :
    LoopR (mE x y rs (some (.fz (tupI r)))) (fun ms => ms.length = n) (loop (gT 2 (gsCons (gN 5) (gsCons (gN 6) gsNil))) l_meet_1 [5, 6] (enumD 0 (r.map .int)) (mE x y rs (some (.fz (tupI r))) ms)) (roomsF (.rt (.fz .non)) ms r) := by
  have key := loop_go (en := fun (i : Nat) => D.tup [.int (i : Int), .int (r.getD i 0)]) (t := gT 2 (gsCons (gN 5) (gsCons (gN 6) gsNil))) (body := l_meet_1) (kl := [5, 6]) (mE x y rs (some (.fz (tupI r)))) (fun ms => ms.length = n) (setF (fun i a => mstep a (r.getD i 0)) (.rt (.fz .non))) (List.range n) (fun i hi ms hms => by
    have hi' := List.mem_range.mp hi
    refine ⟨_, rfl, ?_⟩
    have e1 : L2.atI (ms.map D.int) (i : Int) = some (.int (ms.getD i 0)) := at_mapD D.int 0 (by omega)
    have e2 : ixN ms.length (i : Int) = some i := ixN_nat (by omega)
    generalize hb : r.getD i 0 = b
    generalize ha : ms.getD i 0 = a at e1
    have hst : setF (fun i a => mstep a (r.getD i 0)) (.rt (.fz .non)) ms i = match mstep a b with | some c => Stp.go (ms.set i c) | none => .out (.rt (.fz .non)) := by
      unfold setF; rw [ha]; dsimp only; rw [hb]; try rfl
    rw [hst]
    unfold mstep
    by_cases h2 : a = 2
    · subst h2
      rw [if_pos rfl]
      exact ⟨⟨mE x y rs (some (.fz (tupI r))) (ms.set i b) |>.set 5 (some (.fz (.int (i : Int)))) |>.set 6 (some (.fz (.int b))), .inl (by simp [l_meet_1, run, runS, runIO, startIO, endIO, startS, qS, fzAt, sSet, evA, evB, evC, evM, evAT, evBT, viewF, viewB, seeF, seeB, sVar, sC, R.bind, sCall, sCons, sNil, R.of, thenS, thenB, Out.seq, sLst, sTup, sFor, evAI, evCI, sRange1, sRange2, killS, sRet, frzI, frzA, frz1, S.d, sIfS, sBool, sTru, truD, sAnd, sOr, sNot, sIf, sAndV, sOrV, sNotV, sNotT, sOp, intO, ltO, leO, gtO, geO, addO, subO, mulO, fdivO, modO, powO, intC, CP, CD, CW, fzI, fzB, eqO, neO, isO, isN, isnotO, inO, notInO, ixO, lenO, intF, absF, tupF, lstF, sIsTy, isTy, sDrop, sMut1, sMut0, getO, fAppend, fPopAt, fPop, fClear, sSeq, itemsO, sEnum, sZip, sLc, sLc2, CT.set, setsD, wipeE, sChain, sFn, sFnS, sRaise, gN, gT, gsCons, gsNil, sSl, sPart, slO, sCount, seqI, sGet2, keyD, sAppT, getT, toT, sSetIx, sNeg, enum0 D.int 0, zip_map, range_map, Turn, Fin, eqv, immS, e1, e2, getO_ow, List.map_set]), rfl⟩, by simp [hms]⟩
    · rw [if_neg h2]
      have e3 := inB_ints b [2, a]
      simp at e3
      by_cases h3 : b = 2 ∨ b = a
      · rw [if_pos h3]
        have es : ms.set i a = ms := by
          apply List.ext_getElem
          · simp
          · intro j h1 h4
            by_cases hj : i = j
            · subst hj; simp; rw [← ha]; simp [List.getD, h4]
            · simp [List.getElem_set_ne hj]
        rw [show (decide (b = 2) || decide (b = a)) = true by simpa using h3] at e3
        exact ⟨⟨mE x y rs (some (.fz (tupI r))) (ms.set i a) |>.set 5 (some (.fz (.int (i : Int)))) |>.set 6 (some (.fz (.int b))), .inl (by rw [es]; simp [l_meet_1, run, runS, runIO, startIO, endIO, startS, qS, fzAt, sSet, evA, evB, evC, evM, evAT, evBT, viewF, viewB, seeF, seeB, sVar, sC, R.bind, sCall, sCons, sNil, R.of, thenS, thenB, Out.seq, sLst, sTup, sFor, evAI, evCI, sRange1, sRange2, killS, sRet, frzI, frzA, frz1, S.d, sIfS, sBool, sTru, truD, sAnd, sOr, sNot, sIf, sAndV, sOrV, sNotV, sNotT, sOp, intO, ltO, leO, gtO, geO, addO, subO, mulO, fdivO, modO, powO, intC, CP, CD, CW, fzI, fzB, eqO, neO, isO, isN, isnotO, inO, notInO, ixO, lenO, intF, absF, tupF, lstF, sIsTy, isTy, sDrop, sMut1, sMut0, getO, fAppend, fPopAt, fPop, fClear, sSeq, itemsO, sEnum, sZip, sLc, sLc2, CT.set, setsD, wipeE, sChain, sFn, sFnS, sRaise, gN, gT, gsCons, gsNil, sSl, sPart, slO, sCount, seqI, sGet2, keyD, sAppT, getT, toT, sSetIx, sNeg, enum0 D.int 0, zip_map, range_map, Turn, Fin, eqv, immS, e1, h2, e3]), rfl⟩, by simp [hms]⟩
      · rw [if_neg h3]
        rw [show (decide (b = 2) || decide (b = a)) = false by simpa using h3] at e3
        exact ⟨_, by simp [l_meet_1, run, runS, runIO, startIO, endIO, startS, qS, fzAt, sSet, evA, evB, evC, evM, evAT, evBT, viewF, viewB, seeF, seeB, sVar, sC, R.bind, sCall, sCons, sNil, R.of, thenS, thenB, Out.seq, sLst, sTup, sFor, evAI, evCI, sRange1, sRange2, killS, sRet, frzI, frzA, frz1, S.d, sIfS, sBool, sTru, truD, sAnd, sOr, sNot, sIf, sAndV, sOrV, sNotV, sNotT, sOp, intO, ltO, leO, gtO, geO, addO, subO, mulO, fdivO, modO, powO, intC, CP, CD, CW, fzI, fzB, eqO, neO, isO, isN, isnotO, inO, notInO, ixO, lenO, intF, absF, tupF, lstF, sIsTy, isTy, sDrop, sMut1, sMut0, getO, fAppend, fPopAt, fPop, fClear, sSeq, itemsO, sEnum, sZip, sLc, sLc2, CT.set, setsD, wipeE, sChain, sFn, sFnS, sRaise, gN, gT, gsCons, gsNil, sSl, sPart, slO, sCount, seqI, sGet2, keyD, sAppT, getT, toT, sSetIx, sNeg, enum0 D.int 0, zip_map, range_map, Turn, Fin, eqv, immS, e1, h2, e3, Ret.at]; rfl⟩) ms hm
  rw [enum0 D.int 0, hn]
  unfold roomsF
  rw [hm]
  exact key

theorem meet_out (x y : D) (rs qs : List (List Int)) (n : Nat) (hq : ∀ r ∈ qs, r.length = n) (ms : List Int) (hm : ms.length = n) :
    LoopR (mE x y rs none) (fun ms => ms.length = n) (loop (gN 4) l_meet_2 [4, 5, 6] (stD qs) (mE x y rs none ms)) (goL (roomsF (.rt (.fz .non))) ms qs) :=
  loop_go (en := fun s => tupI s) (t := gN 4) (body := l_meet_2) (kl := [4, 5, 6]) (mE x y rs none) (fun ms => ms.length = n) (roomsF (.rt (.fz .non))) qs (fun r hr ms hms => by
    refine ⟨_, rfl, ?_⟩
    have h := meet_in x y rs r n (hq r hr) ms hms
    generalize hb : roomsF (.rt (.fz .non)) ms r = o at h
    have e : l_meet_2 (mE x y rs (some (.fz (tupI r))) ms) = loop (gT 2 (gsCons (gN 5) (gsCons (gN 6) gsNil))) l_meet_1 [5, 6] (enumD 0 (r.map .int)) (mE x y rs (some (.fz (tupI r))) ms) := by simp [l_meet_2, run, runS, runIO, startIO, endIO, startS, qS, fzAt, sSet, evA, evB, evC, evM, evAT, evBT, viewF, viewB, seeF, seeB, sVar, sC, R.bind, sCall, sCons, sNil, R.of, thenS, thenB, Out.seq, sLst, sTup, sFor, evAI, evCI, sRange1, sRange2, killS, sRet, frzI, frzA, frz1, S.d, sIfS, sBool, sTru, truD, sAnd, sOr, sNot, sIf, sAndV, sOrV, sNotV, sNotT, sOp, intO, ltO, leO, gtO, geO, addO, subO, mulO, fdivO, modO, powO, intC, CP, CD, CW, fzI, fzB, eqO, neO, isO, isN, isnotO, inO, notInO, ixO, lenO, intF, absF, tupF, lstF, sIsTy, isTy, sDrop, sMut1, sMut0, getO, fAppend, fPopAt, fPop, fClear, sSeq, itemsO, sEnum, sZip, sLc, sLc2, CT.set, setsD, wipeE, sChain, sFn, sFnS, sRaise, gN, gT, gsCons, gsNil, sSl, sPart, slO, sCount, seqI, sGet2, keyD, sAppT, getT, toT, sSetIx, sNeg, enum0 D.int 0, zip_map, range_map, Turn, Fin, eqv, immS]
    cases o with
    | go b' => exact ⟨⟨_, .inl (e.trans h.1), rfl⟩, h.2⟩
    | out o =>
      obtain ⟨ρ, h⟩ := h
      exact ⟨ρ, e.trans h⟩) ms hm
def meetS (n : Nat) (rs : List (List Int)) : RS := match meetR n rs with | some l => .ok (.fz (tupI l)) | none => .ok (.fz .non)
theorem badRow_none {n : Nat} {rs : List (List Int)} (h : badRow n rs = none) : ∀ r ∈ rs, r.length = n ∧ r.all okM = true := by
  intro r hr
  have := List.find?_eq_none.mp h r hr
  simp at this
  exact ⟨this.1, List.all_eq_true.mpr this.2⟩
theorem meet_eq {a : List Int} {da : D} (ha : Seq' a da) (hla : a.length ≤ 1000) {rs : List (List Int)} {ds : List D} (h : Rows' rs ds) (hl : ∀ r ∈ rs, r.length ≤ 1000) (hz : rs.length ≤ 900) :
    sem_meet (da :: ds) = if IsRoom a then (match badRow a.length rs with | none => meetS a.length (a :: rs) | some r => exRoom r) else exRoom a := by
  have e := same_eq ha hla h hl hz
  by_cases hr : IsRoom a
  · rw [if_pos hr] at e ⊢
    cases hb : badRow a.length rs with
    | some r =>
      rw [hb] at e
      simp at e
      simp [sem_meet, b_meet, run, runS, runIO, startIO, endIO, startS, qS, fzAt, sSet, evA, evB, evC, evM, evAT, evBT, viewF, viewB, seeF, seeB, sVar, sC, R.bind, sCall, sCons, sNil, R.of, thenS, thenB, Out.seq, sLst, sTup, sFor, evAI, evCI, sRange1, sRange2, killS, sRet, frzI, frzA, frz1, S.d, sIfS, sBool, sTru, truD, sAnd, sOr, sNot, sIf, sAndV, sOrV, sNotV, sNotT, sOp, intO, ltO, leO, gtO, geO, addO, subO, mulO, fdivO, modO, powO, intC, CP, CD, CW, fzI, fzB, eqO, neO, isO, isN, isnotO, inO, notInO, ixO, lenO, intF, absF, tupF, lstF, sIsTy, isTy, sDrop, sMut1, sMut0, getO, fAppend, fPopAt, fPop, fClear, sSeq, itemsO, sEnum, sZip, sLc, sLc2, CT.set, setsD, wipeE, sChain, sFn, sFnS, sRaise, gN, gT, gsCons, gsNil, sSl, sPart, slO, sCount, seqI, sGet2, keyD, sAppT, getT, toT, sSetIx, sNeg, enum0 D.int 0, zip_map, range_map, Turn, Fin, eqv, immS, e]
    | none =>
      rw [hb] at e
      have hrs := badRow_none hb
      have hq : ∀ r ∈ a :: rs, r.length = a.length := fun r hr' => by
        rcases List.mem_cons.mp hr' with rfl | hr'
        · rfl
        · exact (hrs r hr').1
      have k := meet_out da (.tup ds) (a :: rs) (a :: rs) a.length hq a rfl
      rw [goL_meet _ hr.2.2 (fun r hr => (hrs r hr).2) (fun r hr => (hrs r hr).1)] at k
      simp [mE, stD] at e k
      dsimp only
      unfold meetS
      simp [sem_meet, b_meet, run, runS, runIO, startIO, endIO, startS, qS, fzAt, sSet, evA, evB, evC, evM, evAT, evBT, viewF, viewB, seeF, seeB, sVar, sC, R.bind, sCall, sCons, sNil, R.of, thenS, thenB, Out.seq, sLst, sTup, sFor, evAI, evCI, sRange1, sRange2, killS, sRet, frzI, frzA, frz1, S.d, sIfS, sBool, sTru, truD, sAnd, sOr, sNot, sIf, sAndV, sOrV, sNotV, sNotT, sOp, intO, ltO, leO, gtO, geO, addO, subO, mulO, fdivO, modO, powO, intC, CP, CD, CW, fzI, fzB, eqO, neO, isO, isN, isnotO, inO, notInO, ixO, lenO, intF, absF, tupF, lstF, sIsTy, isTy, sDrop, sMut1, sMut0, getO, fAppend, fPopAt, fPop, fClear, sSeq, itemsO, sEnum, sZip, sLc, sLc2, CT.set, setsD, wipeE, sChain, sFn, sFnS, sRaise, gN, gT, gsCons, gsNil, sSl, sPart, slO, sCount, seqI, sGet2, keyD, sAppT, getT, toT, sSetIx, sNeg, enum0 D.int 0, zip_map, range_map, Turn, Fin, eqv, immS, e, at_cons0]
      cases hm : meetR a.length (a :: rs) with
      | some l => rw [hm] at k; have k := k.1; simp [mE, stD] at k; rw [k]; simp
      | none =>
        rw [hm] at k
        obtain ⟨ρ, k⟩ := k
        rw [k]
        simp [Ret.at]
  · rw [if_neg hr] at e ⊢
    simp [sem_meet, b_meet, run, runS, runIO, startIO, endIO, startS, qS, fzAt, sSet, evA, evB, evC, evM, evAT, evBT, viewF, viewB, seeF, seeB, sVar, sC, R.bind, sCall, sCons, sNil, R.of, thenS, thenB, Out.seq, sLst, sTup, sFor, evAI, evCI, sRange1, sRange2, killS, sRet, frzI, frzA, frz1, S.d, sIfS, sBool, sTru, truD, sAnd, sOr, sNot, sIf, sAndV, sOrV, sNotV, sNotT, sOp, intO, ltO, leO, gtO, geO, addO, subO, mulO, fdivO, modO, powO, intC, CP, CD, CW, fzI, fzB, eqO, neO, isO, isN, isnotO, inO, notInO, ixO, lenO, intF, absF, tupF, lstF, sIsTy, isTy, sDrop, sMut1, sMut0, getO, fAppend, fPopAt, fPop, fClear, sSeq, itemsO, sEnum, sZip, sLc, sLc2, CT.set, setsD, wipeE, sChain, sFn, sFnS, sRaise, gN, gT, gsCons, gsNil, sSl, sPart, slO, sCount, seqI, sGet2, keyD, sAppT, getT, toT, sSetIx, sNeg, enum0 D.int 0, zip_map, range_map, Turn, Fin, eqv, immS, e]
/-! join -/
theorem join_in (x y : D) (rs : List (List Int)) (r : List Int) (n : Nat) (hn : r.length = n) (ms : List Int) (hm : ms.length = n) :
    loop (gT 2 (gsCons (gN 5) (gsCons (gN 6) gsNil))) l_join_1 [5, 6] (enumD 0 (r.map .int)) (mE x y rs (some (.fz (tupI r))) ms) = .nx (mE x y rs (some (.fz (tupI r))) (jroom ms r)) := by
  have key := loop_allI (en := fun (i : Nat) => D.tup [.int (i : Int), .int (r.getD i 0)]) (t := gT 2 (gsCons (gN 5) (gsCons (gN 6) gsNil))) (body := l_join_1) (kl := [5, 6]) (mE x y rs (some (.fz (tupI r)))) (fun _ ms => ms.length = n) (fun ms i => ms.set i (jstep (ms.getD i 0) (r.getD i 0))) (List.range n) ms (fun pre i post ms hpp hms => by
    have hi' : i < n := List.mem_range.mp (by rw [hpp]; simp)
    have e1 : L2.atI (ms.map D.int) (i : Int) = some (.int (ms.getD i 0)) := at_mapD D.int 0 (by omega)
    have e2 : ixN ms.length (i : Int) = some i := ixN_nat (by omega)
    generalize hb : r.getD i 0 = b
    generalize ha : ms.getD i 0 = a at e1
    refine ⟨⟨_, mE x y rs (some (.fz (tupI r))) (ms.set i (jstep a b)) |>.set 5 (some (.fz (.int (i : Int)))) |>.set 6 (some (.fz (.int b))), rfl, ?_, rfl⟩, by simp [hms]⟩
    by_cases h2 : b = a
    · have es : ms.set i (jstep a b) = ms := by
        subst h2
        apply List.ext_getElem
        · simp
        · intro j h1 h4
          by_cases hj : i = j
          · subst hj; simp [jstep]; rw [← ha]; simp [List.getD, h4]
          · simp [List.getElem_set_ne hj]
      rw [es]
      simp [l_join_1, run, runS, runIO, startIO, endIO, startS, qS, fzAt, sSet, evA, evB, evC, evM, evAT, evBT, viewF, viewB, seeF, seeB, sVar, sC, R.bind, sCall, sCons, sNil, R.of, thenS, thenB, Out.seq, sLst, sTup, sFor, evAI, evCI, sRange1, sRange2, killS, sRet, frzI, frzA, frz1, S.d, sIfS, sBool, sTru, truD, sAnd, sOr, sNot, sIf, sAndV, sOrV, sNotV, sNotT, sOp, intO, ltO, leO, gtO, geO, addO, subO, mulO, fdivO, modO, powO, intC, CP, CD, CW, fzI, fzB, eqO, neO, isO, isN, isnotO, inO, notInO, ixO, lenO, intF, absF, tupF, lstF, sIsTy, isTy, sDrop, sMut1, sMut0, getO, fAppend, fPopAt, fPop, fClear, sSeq, itemsO, sEnum, sZip, sLc, sLc2, CT.set, setsD, wipeE, sChain, sFn, sFnS, sRaise, gN, gT, gsCons, gsNil, sSl, sPart, slO, sCount, seqI, sGet2, keyD, sAppT, getT, toT, sSetIx, sNeg, enum0 D.int 0, zip_map, range_map, Turn, Fin, eqv, immS, e1, h2]
    · have es : jstep a b = 2 := by unfold jstep; rw [if_pos h2]
      rw [es]
      simp [l_join_1, run, runS, runIO, startIO, endIO, startS, qS, fzAt, sSet, evA, evB, evC, evM, evAT, evBT, viewF, viewB, seeF, seeB, sVar, sC, R.bind, sCall, sCons, sNil, R.of, thenS, thenB, Out.seq, sLst, sTup, sFor, evAI, evCI, sRange1, sRange2, killS, sRet, frzI, frzA, frz1, S.d, sIfS, sBool, sTru, truD, sAnd, sOr, sNot, sIf, sAndV, sOrV, sNotV, sNotT, sOp, intO, ltO, leO, gtO, geO, addO, subO, mulO, fdivO, modO, powO, intC, CP, CD, CW, fzI, fzB, eqO, neO, isO, isN, isnotO, inO, notInO, ixO, lenO, intF, absF, tupF, lstF, sIsTy, isTy, sDrop, sMut1, sMut0, getO, fAppend, fPopAt, fPop, fClear, sSeq, itemsO, sEnum, sZip, sLc, sLc2, CT.set, setsD, wipeE, sChain, sFn, sFnS, sRaise, gN, gT, gsCons, gsNil, sSl, sPart, slO, sCount, seqI, sGet2, keyD, sAppT, getT, toT, sSetIx, sNeg, enum0 D.int 0, zip_map, range_map, Turn, Fin, eqv, immS, e1, e2, h2, getO_ow, List.map_set]) hm
  rw [enum0 D.int 0, hn, key.1]
  unfold jroom
  rw [hm]
theorem join_out (x y : D) (rs qs : List (List Int)) (n : Nat) (hq : ∀ r ∈ qs, r.length = n) (ms : List Int) (hm : ms.length = n) :
    loop (gN 4) l_join_2 [4, 5, 6] (stD qs) (mE x y rs none ms) = .nx (mE x y rs none (qs.foldl jroom ms)) :=
  (loop_allI (en := fun s => tupI s) (t := gN 4) (body := l_join_2) (kl := [4, 5, 6]) (mE x y rs none) (fun _ ms => ms.length = n) jroom qs ms (fun pre r post ms hpp hms => by
    have h := join_in x y rs r n (hq r (by rw [hpp]; simp)) ms hms
    exact ⟨⟨_, mE x y rs (some (.fz (tupI r))) (jroom ms r), rfl, by rw [← h]; simp [l_join_2, run, runS, runIO, startIO, endIO, startS, qS, fzAt, sSet, evA, evB, evC, evM, evAT, evBT, viewF, viewB, seeF, seeB, sVar, sC, R.bind, sCall, sCons, sNil, R.of, thenS, thenB, Out.seq, sLst, sTup, sFor, evAI, evCI, sRange1, sRange2, killS, sRet, frzI, frzA, frz1, S.d, sIfS, sBool, sTru, truD, sAnd, sOr, sNot, sIf, sAndV, sOrV, sNotV, sNotT, sOp, intO, ltO, leO, gtO, geO, addO, subO, mulO, fdivO, modO, powO, intC, CP, CD, CW, fzI, fzB, eqO, neO, isO, isN, isnotO, inO, notInO, ixO, lenO, intF, absF, tupF, lstF, sIsTy, isTy, sDrop, sMut1, sMut0, getO, fAppend, fPopAt, fPop, fClear, sSeq, itemsO, sEnum, sZip, sLc, sLc2, CT.set, setsD, wipeE, sChain, sFn, sFnS, sRaise, gN, gT, gsCons, gsNil, sSl, sPart, slO, sCount, seqI, sGet2, keyD, sAppT, getT, toT, sSetIx, sNeg, enum0 D.int 0, zip_map, range_map, Turn, Fin, eqv, immS], rfl⟩, by rw [jroom_eq]; simp [hms]⟩) hm).1
theorem join_eq {a : List Int} {da : D} (ha : Seq' a da) (hla : a.length ≤ 1000) {rs : List (List Int)} {ds : List D} (h : Rows' rs ds) (hl : ∀ r ∈ rs, r.length ≤ 1000) (hz : rs.length ≤ 900) :
    sem_join (da :: ds) = if IsRoom a then (match badRow a.length rs with | none => .ok (.fz (tupI (joinR a.length (a :: rs)))) | some r => exRoom r) else exRoom a := by
  have e := same_eq ha hla h hl hz
  by_cases hr : IsRoom a
  · rw [if_pos hr] at e ⊢
    cases hb : badRow a.length rs with
    | some r =>
      rw [hb] at e
      simp at e
      simp [sem_join, b_join, run, runS, runIO, startIO, endIO, startS, qS, fzAt, sSet, evA, evB, evC, evM, evAT, evBT, viewF, viewB, seeF, seeB, sVar, sC, R.bind, sCall, sCons, sNil, R.of, thenS, thenB, Out.seq, sLst, sTup, sFor, evAI, evCI, sRange1, sRange2, killS, sRet, frzI, frzA, frz1, S.d, sIfS, sBool, sTru, truD, sAnd, sOr, sNot, sIf, sAndV, sOrV, sNotV, sNotT, sOp, intO, ltO, leO, gtO, geO, addO, subO, mulO, fdivO, modO, powO, intC, CP, CD, CW, fzI, fzB, eqO, neO, isO, isN, isnotO, inO, notInO, ixO, lenO, intF, absF, tupF, lstF, sIsTy, isTy, sDrop, sMut1, sMut0, getO, fAppend, fPopAt, fPop, fClear, sSeq, itemsO, sEnum, sZip, sLc, sLc2, CT.set, setsD, wipeE, sChain, sFn, sFnS, sRaise, gN, gT, gsCons, gsNil, sSl, sPart, slO, sCount, seqI, sGet2, keyD, sAppT, getT, toT, sSetIx, sNeg, enum0 D.int 0, zip_map, range_map, Turn, Fin, eqv, immS, e]
    | none =>
      rw [hb] at e
      have hrs := badRow_none hb
      have hq : ∀ r ∈ a :: rs, r.length = a.length := fun r hr' => by
        rcases List.mem_cons.mp hr' with rfl | hr'
        · rfl
        · exact (hrs r hr').1
      have k := join_out da (.tup ds) (a :: rs) (a :: rs) a.length hq a rfl
      rw [fold_join] at k
      simp [mE, stD] at e k
      simp [sem_join, b_join, run, runS, runIO, startIO, endIO, startS, qS, fzAt, sSet, evA, evB, evC, evM, evAT, evBT, viewF, viewB, seeF, seeB, sVar, sC, R.bind, sCall, sCons, sNil, R.of, thenS, thenB, Out.seq, sLst, sTup, sFor, evAI, evCI, sRange1, sRange2, killS, sRet, frzI, frzA, frz1, S.d, sIfS, sBool, sTru, truD, sAnd, sOr, sNot, sIf, sAndV, sOrV, sNotV, sNotT, sOp, intO, ltO, leO, gtO, geO, addO, subO, mulO, fdivO, modO, powO, intC, CP, CD, CW, fzI, fzB, eqO, neO, isO, isN, isnotO, inO, notInO, ixO, lenO, intF, absF, tupF, lstF, sIsTy, isTy, sDrop, sMut1, sMut0, getO, fAppend, fPopAt, fPop, fClear, sSeq, itemsO, sEnum, sZip, sLc, sLc2, CT.set, setsD, wipeE, sChain, sFn, sFnS, sRaise, gN, gT, gsCons, gsNil, sSl, sPart, slO, sCount, seqI, sGet2, keyD, sAppT, getT, toT, sSetIx, sNeg, enum0 D.int 0, zip_map, range_map, Turn, Fin, eqv, immS, e, at_cons0]
      rw [k]
      simp
  · rw [if_neg hr] at e ⊢
    simp [sem_join, b_join, run, runS, runIO, startIO, endIO, startS, qS, fzAt, sSet, evA, evB, evC, evM, evAT, evBT, viewF, viewB, seeF, seeB, sVar, sC, R.bind, sCall, sCons, sNil, R.of, thenS, thenB, Out.seq, sLst, sTup, sFor, evAI, evCI, sRange1, sRange2, killS, sRet, frzI, frzA, frz1, S.d, sIfS, sBool, sTru, truD, sAnd, sOr, sNot, sIf, sAndV, sOrV, sNotV, sNotT, sOp, intO, ltO, leO, gtO, geO, addO, subO, mulO, fdivO, modO, powO, intC, CP, CD, CW, fzI, fzB, eqO, neO, isO, isN, isnotO, inO, notInO, ixO, lenO, intF, absF, tupF, lstF, sIsTy, isTy, sDrop, sMut1, sMut0, getO, fAppend, fPopAt, fPop, fClear, sSeq, itemsO, sEnum, sZip, sLc, sLc2, CT.set, setsD, wipeE, sChain, sFn, sFnS, sRaise, gN, gT, gsCons, gsNil, sSl, sPart, slO, sCount, seqI, sGet2, keyD, sAppT, getT, toT, sSetIx, sNeg, enum0 D.int 0, zip_map, range_map, Turn, Fin, eqv, immS, e]
end O

end

section
set_option Elab.async false
set_option linter.all false
set_option maxRecDepth 100000
set_option maxHeartbeats 1000000
namespace O
open PySem PySem.Spec PyProof.Rows L2
theorem loop_inv {t : Tgt} {body : SEnv → Out} {kl : List Nat} (P : List D → SEnv → Prop) (hs : ∀ d l ρ, P (d :: l) ρ → ∃ ρ1 ρ2, t d ρ = some ρ1 ∧ body ρ1 = .nx ρ2 ∧ P l (killS kl ρ2)) : ∀ l ρ, P l ρ → ∃ ρ', loop t body kl l ρ = .nx ρ' ∧ P [] ρ'
  | [], ρ, h => ⟨ρ, rfl, h⟩
  | d :: l, ρ, h => by
    obtain ⟨ρ1, ρ2, h1, h2, h3⟩ := hs d l ρ h
    obtain ⟨ρ', q1, q2⟩ := loop_inv P hs l _ h3
    exact ⟨ρ', by unfold loop; rw [h1]; dsimp only; rw [h2]; exact q1, q2⟩
abbrev rng (j m : Nat) : List D := (List.range' j m).map fun (i : Nat) => D.int (i : Int)
theorem range_rng (n : Nat) : rangeD 0 n = rng 0 n := by simp [rangeD, rng, List.range_eq_range']
theorem rng_succ (j m : Nat) : rng j (m + 1) = .int (j : Int) :: rng (j + 1) m := by simp [rng, List.range'_succ]
/-- what a draw gives -/
def Drawn (sizes : List Int) (ds : List Int) : Prop := ds.length ≤ sizes.length ∧ ∀ (i : Nat) (z : Int), ds[i]? = some z → ∃ s, sizes[i]? = some s ∧ 0 ≤ z ∧ z < s
theorem Drawn.snoc {sizes ds : List Int} {z s : Int} (h : Drawn sizes ds) (hs : sizes[ds.length]? = some s) (h0 : 0 ≤ z) (h1 : z < s) : Drawn sizes (ds ++ [z]) := by
  have hl := (List.getElem?_eq_some_iff.mp hs).1
  refine ⟨by simp; omega, fun i y hy => ?_⟩
  by_cases hi : i < ds.length
  · rw [List.getElem?_append_left hi] at hy; exact h.2 i y hy
  · rw [List.getElem?_append_right (by omega)] at hy
    have e : i = ds.length := by
      have := (List.getElem?_eq_some_iff.mp hy).1
      simp at this; omega
    subst e
    simp at hy
    subst hy
    exact ⟨s, hs, h0, h1⟩
theorem atI_int {sizes : List Int} {j : Nat} {s : Int} (h : sizes[j]? = some s) : L2.atI (sizes.map D.int) (j : Int) = some (.int s) := by
  have hl := (List.getElem?_eq_some_iff.mp h).1
  unfold L2.atI
  rw [List.length_map, ixN_nat hl]
  simp [h]
abbrev dX (c : Int) (sizes : List Int) (r : Int) (ds : List Int) (a b : Option S) : SEnv := [some (.fz (.int c)), some (.fz (.lst (sizes.map .int))), some (.fz (.int r)), some (.ow (ds.map .int)), a, b]
abbrev dE (c : Int) (sizes : List Int) (r : Int) (ds : List Int) : SEnv := [some (.fz (.int c)), some (.fz (.lst (sizes.map .int))), some (.fz (.int r)), some (.ow (ds.map .int)), none, none]
def dInv (c : Int) (sizes : List Int) (l : List D) (ρ : SEnv) : Prop := ∃ (r : Int) (ds : List Int) (m : Nat), l = rng ds.length m ∧ ds.length + m = sizes.length ∧ Drawn sizes ds ∧ ρ = dE c sizes r ds
theorem draws_eq (c : Int) (sizes : List Int) (hpos : ∀ s ∈ sizes, 0 < s) (hbig : ∀ s ∈ sizes, s < 1000000000) (hn : sizes.length ≤ 1000) :
    ∃ ds : List Int, sem__law_draws [.int c, .lst (sizes.map .int)] = .ok (.ow (ds.map .int)) ∧ ds.length = sizes.length ∧ Drawn sizes ds := by
  have hl : (sizes.length : Int) ≤ 1000000 := by omega
  simp [sem__law_draws, b__law_draws, run, runS, runIO, startIO, endIO, startS, qS, fzAt, sSet, evA, evB, evC, evM, evAT, evBT, viewF, viewB, seeF, seeB, sVar, sC, R.bind, sCall, sCons, sNil, R.of, thenS, thenB, Out.seq, sLst, sTup, sFor, evAI, evCI, sRange1, sRange2, killS, sRet, frzI, frzA, frz1, S.d, sIfS, sBool, sTru, truD, sAnd, sOr, sNot, sIf, sAndV, sOrV, sNotV, sNotT, sOp, intO, ltO, leO, gtO, geO, addO, subO, mulO, fdivO, modO, powO, intC, CP, CD, CW, fzI, fzB, eqO, neO, isO, isN, isnotO, inO, notInO, ixO, lenO, intF, absF, tupF, lstF, sIsTy, isTy, sDrop, sMut1, sMut0, getO, fAppend, fPopAt, fPop, fClear, sSeq, itemsO, sEnum, sZip, sLc, sLc2, CT.set, setsD, wipeE, sChain, sFn, sFnS, sRaise, gN, gT, gsCons, gsNil, sSl, sPart, slO, sCount, seqI, sGet2, keyD, sAppT, getT, toT, sSetIx, sNeg, enum0 D.int 0, zip_map, range_map, Turn, Fin, eqv, immS, hl, -range_map]
  have key := loop_inv (t := gN 4) (kl := [4, 5]) (dInv c sizes) (body := l__law_draws_1) (fun d l ρ ⟨r, ds, m, h1, h2, h3, h4⟩ => ?_)
  · obtain ⟨ρ', q1, r, ds, m, h1, h2, h3, rfl⟩ := key (rng 0 sizes.length) (dE c sizes (if c < 0 then -c else c) []) ⟨_, [], sizes.length, rfl, by simp, ⟨by simp, fun i z h => by simp at h⟩, rfl⟩
    have hm : m = 0 := by
      cases m with
      | zero => rfl
      | succ m => rw [rng_succ] at h1; cases h1
    subst hm
    rw [range_rng]
    simp only [dE, List.map_nil] at q1
    refine ⟨ds, ?_, by omega, h3⟩
    simp [q1]
  · cases m with
    | zero => simp [rng] at h1
    | succ m =>
      rw [rng_succ] at h1
      cases h1
      have hlt : ds.length < sizes.length := by omega
      obtain ⟨s, hs⟩ : ∃ s, sizes[ds.length]? = some s := ⟨_, List.getElem?_eq_getElem hlt⟩
      have hs1 := hpos s (List.mem_of_getElem? hs)
      have hs2 := hbig s (List.mem_of_getElem? hs)
      have ea := atI_int hs
      subst h4
      by_cases hc : (1000000000000000000 : Int) ≤ (if c < 0 then -c else c)
      · have hm := Int.emod_nonneg r (show s ≠ 0 by omega)
        have hm2 := Int.emod_lt_of_pos r hs1
        refine ⟨_, dX c sizes (r / s) (ds ++ [r % s]) (some (.fz (.int (ds.length : Int)))) none, rfl, ?_, r / s, ds ++ [r % s], m, by simp, by simp; omega, h3.snoc hs hm hm2, by simp [killS, dE, dX]⟩
        have g1 : ds.length < LIM := lim_lt (by omega)
        have g2 : s < 1073741824 := by omega
        simp [l__law_draws_1, run, runS, runIO, startIO, endIO, startS, qS, fzAt, sSet, evA, evB, evC, evM, evAT, evBT, viewF, viewB, seeF, seeB, sVar, sC, R.bind, sCall, sCons, sNil, R.of, thenS, thenB, Out.seq, sLst, sTup, sFor, evAI, evCI, sRange1, sRange2, killS, sRet, frzI, frzA, frz1, S.d, sIfS, sBool, sTru, truD, sAnd, sOr, sNot, sIf, sAndV, sOrV, sNotV, sNotT, sOp, intO, ltO, leO, gtO, geO, addO, subO, mulO, fdivO, modO, powO, intC, CP, CD, CW, fzI, fzB, eqO, neO, isO, isN, isnotO, inO, notInO, ixO, lenO, intF, absF, tupF, lstF, sIsTy, isTy, sDrop, sMut1, sMut0, getO, fAppend, fPopAt, fPop, fClear, sSeq, itemsO, sEnum, sZip, sLc, sLc2, CT.set, setsD, wipeE, sChain, sFn, sFnS, sRaise, gN, gT, gsCons, gsNil, sSl, sPart, slO, sCount, seqI, sGet2, keyD, sAppT, getT, toT, sSetIx, sNeg, enum0 D.int 0, zip_map, range_map, Turn, Fin, eqv, immS, hc, ea, hs1, g1, g2]
      · have g1 : ds.length < LIM := lim_lt (by omega)
        have b0 : (0 : Int) ≤ (if c < 0 then -c else c) % 2147483647 ∧ (if c < 0 then -c else c) % 2147483647 < 2147483647 := ⟨Int.emod_nonneg _ (by decide), Int.emod_lt_of_pos _ (by decide)⟩
        generalize hq : (if c < 0 then -c else c) % 2147483647 = q at b0
        have b1 : (0 : Int) ≤ ((q + 1) * (2 * (ds.length : Int) + 7) * 48271) % 2147483647 ∧ ((q + 1) * (2 * (ds.length : Int) + 7) * 48271) % 2147483647 < 2147483647 := ⟨Int.emod_nonneg _ (by decide), Int.emod_lt_of_pos _ (by decide)⟩
        have hm := Int.emod_nonneg (((((q + 1) * (2 * (ds.length : Int) + 7) * 48271) % 2147483647 + ds.length) * (((q + 1) * (2 * (ds.length : Int) + 7) * 48271) % 2147483647 + 69621)) % 1000000007 / 11) (show s ≠ 0 by omega)
        have hm2 := Int.emod_lt_of_pos (((((q + 1) * (2 * (ds.length : Int) + 7) * 48271) % 2147483647 + ds.length) * (((q + 1) * (2 * (ds.length : Int) + 7) * 48271) % 2147483647 + 69621)) % 1000000007 / 11) hs1
        have c1 : CM (q + 1) (2 * (ds.length : Int) + 7) := by unfold CM; omega
        have c2 : CM ((q + 1) * (2 * (ds.length : Int) + 7)) 48271 := by unfold CM; omega
        have c0 : CM 2 (ds.length : Int) := by unfold CM; omega
        generalize hx : ((q + 1) * (2 * (ds.length : Int) + 7) * 48271) % 2147483647 = x at b1 hm hm2
        have c3 : CM (x + (ds.length : Int)) (x + 69621) := by unfold CM; omega
        refine ⟨_, dX c sizes r (ds ++ [((x + ds.length) * (x + 69621)) % 1000000007 / 11 % s]) (some (.fz (.int (ds.length : Int)))) (some (.fz (.int (((x + ds.length) * (x + 69621)) % 1000000007)))), rfl, ?_, r, ds ++ [((x + ds.length) * (x + 69621)) % 1000000007 / 11 % s], m, by simp, by simp; omega, h3.snoc hs hm hm2, by simp [killS, dE, dX]⟩
        simp [l__law_draws_1, run, runS, runIO, startIO, endIO, startS, qS, fzAt, sSet, evA, evB, evC, evM, evAT, evBT, viewF, viewB, seeF, seeB, sVar, sC, R.bind, sCall, sCons, sNil, R.of, thenS, thenB, Out.seq, sLst, sTup, sFor, evAI, evCI, sRange1, sRange2, killS, sRet, frzI, frzA, frz1, S.d, sIfS, sBool, sTru, truD, sAnd, sOr, sNot, sIf, sAndV, sOrV, sNotV, sNotT, sOp, intO, ltO, leO, gtO, geO, addO, subO, mulO, fdivO, modO, powO, intC, CP, CD, CW, fzI, fzB, eqO, neO, isO, isN, isnotO, inO, notInO, ixO, lenO, intF, absF, tupF, lstF, sIsTy, isTy, sDrop, sMut1, sMut0, getO, fAppend, fPopAt, fPop, fClear, sSeq, itemsO, sEnum, sZip, sLc, sLc2, CT.set, setsD, wipeE, sChain, sFn, sFnS, sRaise, gN, gT, gsCons, gsNil, sSl, sPart, slO, sCount, seqI, sGet2, keyD, sAppT, getT, toT, sSetIx, sNeg, enum0 D.int 0, zip_map, range_map, Turn, Fin, eqv, immS, hc, ea, hs1, g1, c0, c1, c2, c3, hq, hx]
end O

end

section
set_option Elab.async false
set_option linter.all false
set_option maxRecDepth 100000
set_option maxHeartbeats 1000000
namespace O
open PySem PySem.Spec PyProof.Rows L2
theorem lstates_eq {l : List Int} (hl : l.length ≤ 1000) (hr : l.all okM = true) (h8 : frees l ≤ 8) : sem__law_states [lstI l] = .ok (.fz (.lst (stD (sts l)))) := by
  have key := loop_allI (en := fun (i : Nat) => D.int (i : Int)) (t := gN 2) (body := l__law_states_1) (kl := [2, 3, 4, 5]) (fun acc => [some (.fz (lstI l)), some (.fz (.lst (stD acc))), none, none, none, none, none]) (fun pre acc => acc = sts (l.drop (l.length - pre.length))) (fun acc k => lstep acc (l.getD (l.length - 1 - k) 0)) (List.range l.length) [[]] (fun pre k post acc e i => by
    obtain ⟨hk, hkl⟩ := range_split e
    have hst : lstep acc (l.getD (l.length - 1 - k) 0) = sts (l.drop (l.length - (k + 1))) := by rw [i, ← hk]; exact sts_step l hkl
    have hlen : (lstep acc (l.getD (l.length - 1 - k) 0)).length ≤ LIM := by
      rw [hst, sts_len _ (by rw [List.all_eq_true]; intro m hm; exact List.all_eq_true.mp hr m (List.mem_of_mem_drop hm))]
      exact lim_of (Nat.le_trans (Nat.pow_le_pow_right (by decide) (Nat.le_trans (frees_drop l _) h8)) (by decide))
    have hmem : ∀ s ∈ acc, s.length ≤ 1000 := fun s hs => by
      rw [i] at hs; rw [sts_mem_len _ s hs]; simp; omega
    have ha : L2.atI (l.map D.int) ((l.length : Int) - 1 - (k : Int)) = some (.int (l.getD (l.length - 1 - k) 0)) := by
      rw [show (l.length : Int) - 1 - (k : Int) = ((l.length - 1 - k : Nat) : Int) by omega]
      exact at_mapD D.int 0 (by omega)
    generalize hm : l.getD (l.length - 1 - k) 0 = m at ha hlen hst
    have off : ∀ v : Int, ∀ s ∈ acc, (1 + s.length) ≤ LIM := fun v s hs => lim_of (by have := hmem s hs; omega)
    have l1 : (if m = 1 then [] else acc.map fun s => 0 :: s : List (List Int)).length ≤ LIM := by
      unfold lstep at hlen; simp only [List.length_append] at hlen; exact Nat.le_trans (Nat.le_add_right _ _) hlen
    have l2 : (if m = 0 then [] else acc.map fun s => 1 :: s : List (List Int)).length ≤ LIM := by
      unfold lstep at hlen; simp only [List.length_append] at hlen; exact Nat.le_trans (Nat.le_add_left _ _) hlen
    refine ⟨⟨_, [some (.fz (lstI l)), some (.fz (.lst (stD (lstep acc m)))), some (.fz (.int k)), some (.fz (.int m)), some (.fz (.lst (stD (if m = 1 then [] else acc.map fun s => 0 :: s)))), some (.fz (.lst (stD (if m = 0 then [] else acc.map fun s => 1 :: s)))), none], rfl, ?_, rfl⟩, by rw [hst, hk]; simp⟩
    have c1 : ((acc.filter fun _ => decide (m ≠ 1)).map fun s => tupI (0 :: s)) = stD (if m = 1 then [] else acc.map fun s => 0 :: s) := by
      by_cases h : m = 1 <;> simp [h, Function.comp_def]
    have c2 : ((acc.filter fun _ => decide (m ≠ 0)).map fun s => tupI (1 :: s)) = stD (if m = 0 then [] else acc.map fun s => 1 :: s) := by
      by_cases h : m = 0 <;> simp [h, Function.comp_def]
    simp [l__law_states_1, run, runS, runIO, startIO, endIO, startS, qS, fzAt, sSet, evA, evB, evC, evM, evAT, evBT, viewF, viewB, seeF, seeB, sVar, sC, R.bind, sCall, sCons, sNil, R.of, thenS, thenB, Out.seq, sLst, sTup, sFor, evAI, evCI, sRange1, sRange2, killS, sRet, frzI, frzA, frz1, S.d, sIfS, sBool, sTru, truD, sAnd, sOr, sNot, sIf, sAndV, sOrV, sNotV, sNotT, sOp, intO, ltO, leO, gtO, geO, addO, subO, mulO, fdivO, modO, powO, intC, CP, CD, CW, fzI, fzB, eqO, neO, isO, isN, isnotO, inO, notInO, ixO, lenO, intF, absF, tupF, lstF, sIsTy, isTy, sDrop, sMut1, sMut0, getO, fAppend, fPopAt, fPop, fClear, sSeq, itemsO, sEnum, sZip, sLc, sLc2, CT.set, setsD, wipeE, sChain, sFn, sFnS, sRaise, gN, gT, gsCons, gsNil, sSl, sPart, slO, sCount, seqI, sGet2, keyD, sAppT, getT, toT, sSetIx, sNeg, enum0 D.int 0, zip_map, range_map, Turn, Fin, eqv, immS, ha, -List.getD_eq_getElem?_getD]
    rw [lc_eq (en := fun s => tupI s) (fun _ => decide (m ≠ 1)) (fun s => tupI (0 :: s)) acc (fun s hs => ⟨_, rfl, by simp [run, runS, runIO, startIO, endIO, startS, qS, fzAt, sSet, evA, evB, evC, evM, evAT, evBT, viewF, viewB, seeF, seeB, sVar, sC, R.bind, sCall, sCons, sNil, R.of, thenS, thenB, Out.seq, sLst, sTup, sFor, evAI, evCI, sRange1, sRange2, killS, sRet, frzI, frzA, frz1, S.d, sIfS, sBool, sTru, truD, sAnd, sOr, sNot, sIf, sAndV, sOrV, sNotV, sNotT, sOp, intO, ltO, leO, gtO, geO, addO, subO, mulO, fdivO, modO, powO, intC, CP, CD, CW, fzI, fzB, eqO, neO, isO, isN, isnotO, inO, notInO, ixO, lenO, intF, absF, tupF, lstF, sIsTy, isTy, sDrop, sMut1, sMut0, getO, fAppend, fPopAt, fPop, fClear, sSeq, itemsO, sEnum, sZip, sLc, sLc2, CT.set, setsD, wipeE, sChain, sFn, sFnS, sRaise, gN, gT, gsCons, gsNil, sSl, sPart, slO, sCount, seqI, sGet2, keyD, sAppT, getT, toT, sSetIx, sNeg, enum0 D.int 0, zip_map, range_map, Turn, Fin, eqv, immS], fun _ => ⟨.fz (tupI (0 :: s)), by simp [run, runS, runIO, startIO, endIO, startS, qS, fzAt, sSet, evA, evB, evC, evM, evAT, evBT, viewF, viewB, seeF, seeB, sVar, sC, R.bind, sCall, sCons, sNil, R.of, thenS, thenB, Out.seq, sLst, sTup, sFor, evAI, evCI, sRange1, sRange2, killS, sRet, frzI, frzA, frz1, S.d, sIfS, sBool, sTru, truD, sAnd, sOr, sNot, sIf, sAndV, sOrV, sNotV, sNotT, sOp, intO, ltO, leO, gtO, geO, addO, subO, mulO, fdivO, modO, powO, intC, CP, CD, CW, fzI, fzB, eqO, neO, isO, isN, isnotO, inO, notInO, ixO, lenO, intF, absF, tupF, lstF, sIsTy, isTy, sDrop, sMut1, sMut0, getO, fAppend, fPopAt, fPop, fClear, sSeq, itemsO, sEnum, sZip, sLc, sLc2, CT.set, setsD, wipeE, sChain, sFn, sFnS, sRaise, gN, gT, gsCons, gsNil, sSl, sPart, slO, sCount, seqI, sGet2, keyD, sAppT, getT, toT, sSetIx, sNeg, enum0 D.int 0, zip_map, range_map, Turn, Fin, eqv, immS, off 0 s hs], rfl⟩⟩), c1]
    simp [l1, -List.length_map]
    rw [if_pos (by simpa using l1)]
    simp
    rw [lc_eq (en := fun s => tupI s) (fun _ => decide (m ≠ 0)) (fun s => tupI (1 :: s)) acc (fun s hs => ⟨_, rfl, by simp [run, runS, runIO, startIO, endIO, startS, qS, fzAt, sSet, evA, evB, evC, evM, evAT, evBT, viewF, viewB, seeF, seeB, sVar, sC, R.bind, sCall, sCons, sNil, R.of, thenS, thenB, Out.seq, sLst, sTup, sFor, evAI, evCI, sRange1, sRange2, killS, sRet, frzI, frzA, frz1, S.d, sIfS, sBool, sTru, truD, sAnd, sOr, sNot, sIf, sAndV, sOrV, sNotV, sNotT, sOp, intO, ltO, leO, gtO, geO, addO, subO, mulO, fdivO, modO, powO, intC, CP, CD, CW, fzI, fzB, eqO, neO, isO, isN, isnotO, inO, notInO, ixO, lenO, intF, absF, tupF, lstF, sIsTy, isTy, sDrop, sMut1, sMut0, getO, fAppend, fPopAt, fPop, fClear, sSeq, itemsO, sEnum, sZip, sLc, sLc2, CT.set, setsD, wipeE, sChain, sFn, sFnS, sRaise, gN, gT, gsCons, gsNil, sSl, sPart, slO, sCount, seqI, sGet2, keyD, sAppT, getT, toT, sSetIx, sNeg, enum0 D.int 0, zip_map, range_map, Turn, Fin, eqv, immS], fun _ => ⟨.fz (tupI (1 :: s)), by simp [run, runS, runIO, startIO, endIO, startS, qS, fzAt, sSet, evA, evB, evC, evM, evAT, evBT, viewF, viewB, seeF, seeB, sVar, sC, R.bind, sCall, sCons, sNil, R.of, thenS, thenB, Out.seq, sLst, sTup, sFor, evAI, evCI, sRange1, sRange2, killS, sRet, frzI, frzA, frz1, S.d, sIfS, sBool, sTru, truD, sAnd, sOr, sNot, sIf, sAndV, sOrV, sNotV, sNotT, sOp, intO, ltO, leO, gtO, geO, addO, subO, mulO, fdivO, modO, powO, intC, CP, CD, CW, fzI, fzB, eqO, neO, isO, isN, isnotO, inO, notInO, ixO, lenO, intF, absF, tupF, lstF, sIsTy, isTy, sDrop, sMut1, sMut0, getO, fAppend, fPopAt, fPop, fClear, sSeq, itemsO, sEnum, sZip, sLc, sLc2, CT.set, setsD, wipeE, sChain, sFn, sFnS, sRaise, gN, gT, gsCons, gsNil, sSl, sPart, slO, sCount, seqI, sGet2, keyD, sAppT, getT, toT, sSetIx, sNeg, enum0 D.int 0, zip_map, range_map, Turn, Fin, eqv, immS, off 1 s hs], rfl⟩⟩), c2]
    simp
    rw [if_pos (by simpa using l2)]
    simp
    unfold lstep at hlen
    rw [List.length_append] at hlen
    rw [if_pos (by simpa using hlen)]
    simp [lstep]) (by simp [sts])
  have h0 : l.foldl (fun _ _ => ()) () = () := rfl
  simp [sem__law_states, b__law_states, run, runS, runIO, startIO, endIO, startS, qS, fzAt, sSet, evA, evB, evC, evM, evAT, evBT, viewF, viewB, seeF, seeB, sVar, sC, R.bind, sCall, sCons, sNil, R.of, thenS, thenB, Out.seq, sLst, sTup, sFor, evAI, evCI, sRange1, sRange2, killS, sRet, frzI, frzA, frz1, S.d, sIfS, sBool, sTru, truD, sAnd, sOr, sNot, sIf, sAndV, sOrV, sNotV, sNotT, sOp, intO, ltO, leO, gtO, geO, addO, subO, mulO, fdivO, modO, powO, intC, CP, CD, CW, fzI, fzB, eqO, neO, isO, isN, isnotO, inO, notInO, ixO, lenO, intF, absF, tupF, lstF, sIsTy, isTy, sDrop, sMut1, sMut0, getO, fAppend, fPopAt, fPop, fClear, sSeq, itemsO, sEnum, sZip, sLc, sLc2, CT.set, setsD, wipeE, sChain, sFn, sFnS, sRaise, gN, gT, gsCons, gsNil, sSl, sPart, slO, sCount, seqI, sGet2, keyD, sAppT, getT, toT, sSetIx, sNeg, enum0 D.int 0, zip_map, range_map, Turn, Fin, eqv, immS, show (l.length : Int) ≤ 1000000 by omega, -List.getD_eq_getElem?_getD]
  have k2 := key.2
  simp only [List.length_range, Nat.sub_self, List.drop_zero] at k2
  have k1 := key.1
  rw [k2] at k1
  simp [tupI] at k1
  rw [k1]
  simp
end O

end

section
set_option Elab.async false
set_option linter.all false
set_option maxRecDepth 100000
set_option maxHeartbeats 1000000
namespace O
open PySem PySem.Spec PyProof.Rows L2
theorem Seq'.ix {l : List Int} {d : D} (h : Seq' l d) {i : Nat} (hi : i < l.length) : ixO d (.int (i : Int)) = some (.fz (.int (l.getD i 0))) := by
  have e := at_mapD D.int (l := l) 0 hi
  cases h <;> simp [ixO, e, -List.getD_eq_getElem?_getD]
theorem Seq'.lenO {l : List Int} {d : D} (h : Seq' l d) : lenO [d] = some (.fz (.int (l.length : Int))) := by
  cases h <;> simp [O.lenO, fzI]
theorem truth_eq (a b : Bool) : sem__law_truth [.bl a, .bl b] = .ok (.fz (.bl (decide (a = b)))) := by
  simp [sem__law_truth, b__law_truth, run, runS, runIO, startIO, endIO, startS, qS, fzAt, sSet, evA, evB, evC, evM, evAT, evBT, viewF, viewB, seeF, seeB, sVar, sC, R.bind, sCall, sCons, sNil, R.of, thenS, thenB, Out.seq, sLst, sTup, sFor, evAI, evCI, sRange1, sRange2, killS, sRet, frzI, frzA, frz1, S.d, sIfS, sBool, sTru, truD, sAnd, sOr, sNot, sIf, sAndV, sOrV, sNotV, sNotT, sOp, intO, ltO, leO, gtO, geO, addO, subO, mulO, fdivO, modO, powO, intC, CP, CD, CW, fzI, fzB, eqO, neO, isO, isN, isnotO, inO, notInO, ixO, lenO, intF, absF, tupF, lstF, sIsTy, isTy, sDrop, sMut1, sMut0, getO, fAppend, fPopAt, fPop, fClear, sSeq, itemsO, sEnum, sZip, sLc, sLc2, CT.set, setsD, wipeE, sChain, sFn, sFnS, sRaise, gN, gT, gsCons, gsNil, sSl, sPart, slO, sCount, seqI, sGet2, keyD, sAppT, getT, toT, sSetIx, sNeg, enum0 D.int 0, zip_map, range_map, Turn, Fin, eqv, immS]
theorem linside_eq {a b : List Int} {da db : D} (ha : Seq' a da) (hb : Seq' b db) (hl : a.length ≤ 1000) (hab : b.length = a.length) : sem__law_inside [da, db] = .ok (.fz (.bl (insideB a b))) := by
  rw [inside_range hab.symm]
  simp [sem__law_inside, b__law_inside, run, runS, runIO, startIO, endIO, startS, qS, fzAt, sSet, evA, evB, evC, evM, evAT, evBT, viewF, viewB, seeF, seeB, sVar, sC, R.bind, sCall, sCons, sNil, R.of, thenS, thenB, Out.seq, sLst, sTup, sFor, evAI, evCI, sRange1, sRange2, killS, sRet, frzI, frzA, frz1, S.d, sIfS, sBool, sTru, truD, sAnd, sOr, sNot, sIf, sAndV, sOrV, sNotV, sNotT, sOp, intO, ltO, leO, gtO, geO, addO, subO, mulO, fdivO, modO, powO, intC, CP, CD, CW, fzI, fzB, eqO, neO, isO, isN, isnotO, inO, notInO, ixO, lenO, intF, absF, tupF, lstF, sIsTy, isTy, sDrop, sMut1, sMut0, getO, fAppend, fPopAt, fPop, fClear, sSeq, itemsO, sEnum, sZip, sLc, sLc2, CT.set, setsD, wipeE, sChain, sFn, sFnS, sRaise, gN, gT, gsCons, gsNil, sSl, sPart, slO, sCount, seqI, sGet2, keyD, sAppT, getT, toT, sSetIx, sNeg, enum0 D.int 0, zip_map, range_map, Turn, Fin, eqv, immS, ha.lenO, show (a.length : Int) ≤ 1000000 by omega, -ixO, -lenO, -List.getD_eq_getElem?_getD]
  rw [lc_eq (en := fun (i : Nat) => D.int (i : Int)) (fun i => decide (b.getD i 0 ≠ 2) && decide (a.getD i 0 ≠ b.getD i 0)) (fun i => D.int (i : Int)) (List.range a.length) (fun i hi => ⟨_, rfl, by
    have hi' := List.mem_range.mp hi
    have e1 := ha.ix hi'
    have e2 := hb.ix (i := i) (by omega)
    by_cases h2 : b.getD i 0 = 2
    · simp [run, runS, runIO, startIO, endIO, startS, qS, fzAt, sSet, evA, evB, evC, evM, evAT, evBT, viewF, viewB, seeF, seeB, sVar, sC, R.bind, sCall, sCons, sNil, R.of, thenS, thenB, Out.seq, sLst, sTup, sFor, evAI, evCI, sRange1, sRange2, killS, sRet, frzI, frzA, frz1, S.d, sIfS, sBool, sTru, truD, sAnd, sOr, sNot, sIf, sAndV, sOrV, sNotV, sNotT, sOp, intO, ltO, leO, gtO, geO, addO, subO, mulO, fdivO, modO, powO, intC, CP, CD, CW, fzI, fzB, eqO, neO, isO, isN, isnotO, inO, notInO, ixO, lenO, intF, absF, tupF, lstF, sIsTy, isTy, sDrop, sMut1, sMut0, getO, fAppend, fPopAt, fPop, fClear, sSeq, itemsO, sEnum, sZip, sLc, sLc2, CT.set, setsD, wipeE, sChain, sFn, sFnS, sRaise, gN, gT, gsCons, gsNil, sSl, sPart, slO, sCount, seqI, sGet2, keyD, sAppT, getT, toT, sSetIx, sNeg, enum0 D.int 0, zip_map, range_map, Turn, Fin, eqv, immS, e1, e2, h2, -ixO, -lenO, -List.getD_eq_getElem?_getD]
    · simp [run, runS, runIO, startIO, endIO, startS, qS, fzAt, sSet, evA, evB, evC, evM, evAT, evBT, viewF, viewB, seeF, seeB, sVar, sC, R.bind, sCall, sCons, sNil, R.of, thenS, thenB, Out.seq, sLst, sTup, sFor, evAI, evCI, sRange1, sRange2, killS, sRet, frzI, frzA, frz1, S.d, sIfS, sBool, sTru, truD, sAnd, sOr, sNot, sIf, sAndV, sOrV, sNotV, sNotT, sOp, intO, ltO, leO, gtO, geO, addO, subO, mulO, fdivO, modO, powO, intC, CP, CD, CW, fzI, fzB, eqO, neO, isO, isN, isnotO, inO, notInO, ixO, lenO, intF, absF, tupF, lstF, sIsTy, isTy, sDrop, sMut1, sMut0, getO, fAppend, fPopAt, fPop, fClear, sSeq, itemsO, sEnum, sZip, sLc, sLc2, CT.set, setsD, wipeE, sChain, sFn, sFnS, sRaise, gN, gT, gsCons, gsNil, sSl, sPart, slO, sCount, seqI, sGet2, keyD, sAppT, getT, toT, sSetIx, sNeg, enum0 D.int 0, zip_map, range_map, Turn, Fin, eqv, immS, e1, e2, h2, -ixO, -lenO, -List.getD_eq_getElem?_getD], fun _ => ⟨_, rfl, rfl⟩⟩)]
  have hz : ((List.range a.length).filter fun i => decide (b.getD i 0 ≠ 2) && decide (a.getD i 0 ≠ b.getD i 0)).length ≤ LIM := lim_of (Nat.le_trans (List.length_filter_le ..) (by simp; omega))
  simp [hz, truD, -List.getD_eq_getElem?_getD]
  rw [if_pos (by simpa using hz)]
  simp [truD, List.isEmpty_iff, -List.getD_eq_getElem?_getD]
/-! law's meet and join -/
abbrev lrows (rs : List (List Int)) : D := .lst (rs.map fun r => lstI r)
theorem goL_snoc (g : Nat → Option Int) (o : Ret) : ∀ (l : List Nat) (acc : List Int), goL (fun acc k => match g k with | some m => Stp.go (acc ++ [m]) | none => .out o) acc l = match l.mapM g with | some ms => .go (acc ++ ms) | none => .out o
  | [], acc => by simp [goL]
  | k :: l, acc => by
    rw [List.mapM_cons]
    unfold goL
    cases hk : g k with
    | none => rfl
    | some m =>
      dsimp only
      rw [goL_snoc g o l (acc ++ [m])]
      cases l.mapM g <;> simp

theorem fixed_eq (rs : List (List Int)) (k : Nat) : ((rs.filter fun r => decide (r.getD k 0 ≠ 2)).map fun r => D.int (r.getD k 0)) = ((col rs k).filter fun m => decide (m ≠ 2)).map D.int := by
  unfold col
  rw [List.filter_map, List.map_map]
  rfl
theorem lmeet_eq {r0 : List Int} {rs : List (List Int)} (hn : ∀ r ∈ r0 :: rs, r.length = r0.length) (hl : r0.length ≤ 1000) (hz : rs.length ≤ 900) : sem__law_meet [lrows (r0 :: rs)] = meetS r0.length (r0 :: rs) := by
  have key := loop_goP (en := fun (i : Nat) => D.int (i : Int)) (t := gN 2) (body := l__law_meet_1) (kl := [2, 3]) (fun acc : List Int => [some (.fz (lrows (r0 :: rs))), some (.ow (acc.map .int)), none, none, none]) (fun pre acc => acc.length = pre.length) (fun acc k => match meet1 (col (r0 :: rs) k) with | some m => Stp.go (acc ++ [m]) | none => .out (.rt (.fz .non))) (List.range r0.length) (fun pre k post acc e i => by
    obtain ⟨hk, hkl⟩ := range_split e
    refine ⟨_, rfl, ?_⟩
    have hc : lcGo (.nm 4) (sBool (sOp neO (sOp ixO (sVar 4) (sVar 2)) (sC (.int 2)))) (sOp ixO (sVar 4) (sVar 2)) [some (lrows (r0 :: rs)), none, some (.int (k : Int)), none, none] ((r0 :: rs).map fun r => lstI r) = .ok (((col (r0 :: rs) k).filter fun m => decide (m ≠ 2)).map D.int) := by
      rw [← fixed_eq]
      exact lc_eq (en := fun r => lstI r) (fun r => decide (r.getD k 0 ≠ 2)) (fun r => D.int (r.getD k 0)) (r0 :: rs) (fun r hr => by
        have e1 := (Seq'.lst : Seq' r _).ix (i := k) (by rw [hn r hr]; exact hkl)
        exact ⟨_, rfl, by simp [run, runS, runIO, startIO, endIO, startS, qS, fzAt, sSet, evA, evB, evC, evM, evAT, evBT, viewF, viewB, seeF, seeB, sVar, sC, R.bind, sCall, sCons, sNil, R.of, thenS, thenB, Out.seq, sLst, sTup, sFor, evAI, evCI, sRange1, sRange2, killS, sRet, frzI, frzA, frz1, S.d, sIfS, sBool, sTru, truD, sAnd, sOr, sNot, sIf, sAndV, sOrV, sNotV, sNotT, sOp, intO, ltO, leO, gtO, geO, addO, subO, mulO, fdivO, modO, powO, intC, CP, CD, CW, fzI, fzB, eqO, neO, isO, isN, isnotO, inO, notInO, ixO, lenO, intF, absF, tupF, lstF, sIsTy, isTy, sDrop, sMut1, sMut0, getO, fAppend, fPopAt, fPop, fClear, sSeq, itemsO, sEnum, sZip, sLc, sLc2, CT.set, setsD, wipeE, sChain, sFn, sFnS, sRaise, gN, gT, gsCons, gsNil, sSl, sPart, slO, sCount, seqI, sGet2, keyD, sAppT, getT, toT, sSetIx, sNeg, enum0 D.int 0, zip_map, range_map, Turn, Fin, eqv, immS, e1, -ixO, -List.getD_eq_getElem?_getD], fun _ => ⟨_, by simp [run, runS, runIO, startIO, endIO, startS, qS, fzAt, sSet, evA, evB, evC, evM, evAT, evBT, viewF, viewB, seeF, seeB, sVar, sC, R.bind, sCall, sCons, sNil, R.of, thenS, thenB, Out.seq, sLst, sTup, sFor, evAI, evCI, sRange1, sRange2, killS, sRet, frzI, frzA, frz1, S.d, sIfS, sBool, sTru, truD, sAnd, sOr, sNot, sIf, sAndV, sOrV, sNotV, sNotT, sOp, intO, ltO, leO, gtO, geO, addO, subO, mulO, fdivO, modO, powO, intC, CP, CD, CW, fzI, fzB, eqO, neO, isO, isN, isnotO, inO, notInO, ixO, lenO, intF, absF, tupF, lstF, sIsTy, isTy, sDrop, sMut1, sMut0, getO, fAppend, fPopAt, fPop, fClear, sSeq, itemsO, sEnum, sZip, sLc, sLc2, CT.set, setsD, wipeE, sChain, sFn, sFnS, sRaise, gN, gT, gsCons, gsNil, sSl, sPart, slO, sCount, seqI, sGet2, keyD, sAppT, getT, toT, sSetIx, sNeg, enum0 D.int 0, zip_map, range_map, Turn, Fin, eqv, immS, e1, -ixO, -List.getD_eq_getElem?_getD]; rfl, rfl⟩⟩)
    unfold meet1
    generalize hfx : (col (r0 :: rs) k).filter (fun m => decide (m ≠ 2)) = fx at hc
    have hfl : fx.length ≤ LIM := lim_of (by
      rw [← hfx]
      refine Nat.le_trans (List.length_filter_le ..) ?_
      simp [col]; omega)
    have i0 := inB_ints 0 fx
    have i1 := inB_ints 1 fx
    have hlt : acc.length < LIM := lim_lt (by omega)
    by_cases h : 0 ∈ fx ∧ 1 ∈ fx
    · rw [if_pos h]
      refine ⟨[some (.fz (lrows (r0 :: rs))), some (.ow (acc.map .int)), some (.fz (.int (k : Int))), some (.fz (lstI fx)), none], ?_⟩
      simp [l__law_meet_1, run, runS, runIO, startIO, endIO, startS, qS, fzAt, sSet, evA, evB, evC, evM, evAT, evBT, viewF, viewB, seeF, seeB, sVar, sC, R.bind, sCall, sCons, sNil, R.of, thenS, thenB, Out.seq, sLst, sTup, sFor, evAI, evCI, sRange1, sRange2, killS, sRet, frzI, frzA, frz1, S.d, sIfS, sBool, sTru, truD, sAnd, sOr, sNot, sIf, sAndV, sOrV, sNotV, sNotT, sOp, intO, ltO, leO, gtO, geO, addO, subO, mulO, fdivO, modO, powO, intC, CP, CD, CW, fzI, fzB, eqO, neO, isO, isN, isnotO, inO, notInO, ixO, lenO, intF, absF, tupF, lstF, sIsTy, isTy, sDrop, sMut1, sMut0, getO, fAppend, fPopAt, fPop, fClear, sSeq, itemsO, sEnum, sZip, sLc, sLc2, CT.set, setsD, wipeE, sChain, sFn, sFnS, sRaise, gN, gT, gsCons, gsNil, sSl, sPart, slO, sCount, seqI, sGet2, keyD, sAppT, getT, toT, sSetIx, sNeg, enum0 D.int 0, zip_map, range_map, Turn, Fin, eqv, immS]
      simp at hc
      rw [hc]
      simp [hfl, h, Ret.at]
    · rw [if_neg h]
      refine ⟨⟨[some (.fz (lrows (r0 :: rs))), some (.ow ((acc ++ [fx.headD 2]).map .int)), some (.fz (.int (k : Int))), some (.fz (lstI fx)), none], .inl ?_, by simp [killS]⟩, by simp [i]⟩
      simp [l__law_meet_1, run, runS, runIO, startIO, endIO, startS, qS, fzAt, sSet, evA, evB, evC, evM, evAT, evBT, viewF, viewB, seeF, seeB, sVar, sC, R.bind, sCall, sCons, sNil, R.of, thenS, thenB, Out.seq, sLst, sTup, sFor, evAI, evCI, sRange1, sRange2, killS, sRet, frzI, frzA, frz1, S.d, sIfS, sBool, sTru, truD, sAnd, sOr, sNot, sIf, sAndV, sOrV, sNotV, sNotT, sOp, intO, ltO, leO, gtO, geO, addO, subO, mulO, fdivO, modO, powO, intC, CP, CD, CW, fzI, fzB, eqO, neO, isO, isN, isnotO, inO, notInO, ixO, lenO, intF, absF, tupF, lstF, sIsTy, isTy, sDrop, sMut1, sMut0, getO, fAppend, fPopAt, fPop, fClear, sSeq, itemsO, sEnum, sZip, sLc, sLc2, CT.set, setsD, wipeE, sChain, sFn, sFnS, sRaise, gN, gT, gsCons, gsNil, sSl, sPart, slO, sCount, seqI, sGet2, keyD, sAppT, getT, toT, sSetIx, sNeg, enum0 D.int 0, zip_map, range_map, Turn, Fin, eqv, immS]
      simp at hc
      rw [hc]
      have hh : L2.atI (fx.map D.int) 0 = fx.head?.map D.int := by
        cases fx with
        | nil => rfl
        | cons x fx => exact at_cons0 _ _
      by_cases h0 : 0 ∈ fx
      · have h1 : ¬ 1 ∈ fx := fun z => h ⟨h0, z⟩
        simp [hfl, h0, h1, getO_ow, hlt, hh]
        cases fx <;> simp [hlt, getO_ow]
      · simp [hfl, h0, getO_ow, hlt, hh]
        cases fx <;> simp [hlt, getO_ow]) [] rfl
  rw [goL_snoc (fun k => meet1 (col (r0 :: rs) k))] at key
  simp [sem__law_meet, b__law_meet, run, runS, runIO, startIO, endIO, startS, qS, fzAt, sSet, evA, evB, evC, evM, evAT, evBT, viewF, viewB, seeF, seeB, sVar, sC, R.bind, sCall, sCons, sNil, R.of, thenS, thenB, Out.seq, sLst, sTup, sFor, evAI, evCI, sRange1, sRange2, killS, sRet, frzI, frzA, frz1, S.d, sIfS, sBool, sTru, truD, sAnd, sOr, sNot, sIf, sAndV, sOrV, sNotV, sNotT, sOp, intO, ltO, leO, gtO, geO, addO, subO, mulO, fdivO, modO, powO, intC, CP, CD, CW, fzI, fzB, eqO, neO, isO, isN, isnotO, inO, notInO, ixO, lenO, intF, absF, tupF, lstF, sIsTy, isTy, sDrop, sMut1, sMut0, getO, fAppend, fPopAt, fPop, fClear, sSeq, itemsO, sEnum, sZip, sLc, sLc2, CT.set, setsD, wipeE, sChain, sFn, sFnS, sRaise, gN, gT, gsCons, gsNil, sSl, sPart, slO, sCount, seqI, sGet2, keyD, sAppT, getT, toT, sSetIx, sNeg, enum0 D.int 0, zip_map, range_map, Turn, Fin, eqv, immS, at_cons0, show (r0.length : Int) ≤ 1000000 by omega]
  unfold meetS meetR
  cases hm : (List.range r0.length).mapM fun i => meet1 (col (r0 :: rs) i) with
  | some l =>
    rw [hm] at key
    have key := key.1
    simp at key
    rw [key]
    simp
  | none =>
    rw [hm] at key
    obtain ⟨ρ, key⟩ := key
    simp at key
    rw [key]
    simp [Ret.at]

theorem others_eq (r0 : List Int) (rs : List (List Int)) (k : Nat) : ((r0 :: rs).filter fun r => decide (r.getD k 0 ≠ r0.getD k 0)).isEmpty = ((col (r0 :: rs) k).filter fun m => decide (m ≠ (col (r0 :: rs) k).headD 0)).isEmpty := by
  have : (col (r0 :: rs) k).headD 0 = r0.getD k 0 := rfl
  rw [this]
  unfold col
  rw [List.filter_map, List.isEmpty_map]
  rfl
theorem ljoin_eq {r0 : List Int} {rs : List (List Int)} (hn : ∀ r ∈ r0 :: rs, r.length = r0.length) (hl : r0.length ≤ 1000) (hz : rs.length ≤ 900) : sem__law_join [lrows (r0 :: rs)] = .ok (.fz (tupI (joinR r0.length (r0 :: rs)))) := by
  have key := loop_allI (en := fun (i : Nat) => D.int (i : Int)) (t := gN 2) (body := l__law_join_1) (kl := [2, 3]) (fun acc : List Int => [some (.fz (lrows (r0 :: rs))), some (.ow (acc.map .int)), none, none, none]) (fun pre acc => acc = pre.map fun k => join1 (col (r0 :: rs) k)) (fun acc k => acc ++ [join1 (col (r0 :: rs) k)]) (List.range r0.length) [] (fun pre k post acc e i => by
    obtain ⟨hk, hkl⟩ := range_split e
    have e0 := (Seq'.lst : Seq' r0 _).ix (i := k) hkl
    have hc : lcGo (.nm 4) (sBool (sOp neO (sOp ixO (sVar 4) (sVar 2)) (sOp ixO (sOp ixO (sVar 0) (sC (.int 0))) (sVar 2)))) (sVar 4) [some (lrows (r0 :: rs)), none, some (.int (k : Int)), none, none] ((r0 :: rs).map fun r => lstI r) = .ok (((r0 :: rs).filter fun r => decide (r.getD k 0 ≠ r0.getD k 0)).map fun r => lstI r) :=
      lc_eq (en := fun r => lstI r) (fun r => decide (r.getD k 0 ≠ r0.getD k 0)) (fun r => lstI r) (r0 :: rs) (fun r hr => by
        have e1 := (Seq'.lst : Seq' r _).ix (i := k) (by rw [hn r hr]; exact hkl)
        have e2 : ixO (lrows (r0 :: rs)) (.int 0) = some (.fz (lstI r0)) := by simp [ixO, at_cons0]
        exact ⟨_, rfl, by simp [run, runS, runIO, startIO, endIO, startS, qS, fzAt, sSet, evA, evB, evC, evM, evAT, evBT, viewF, viewB, seeF, seeB, sVar, sC, R.bind, sCall, sCons, sNil, R.of, thenS, thenB, Out.seq, sLst, sTup, sFor, evAI, evCI, sRange1, sRange2, killS, sRet, frzI, frzA, frz1, S.d, sIfS, sBool, sTru, truD, sAnd, sOr, sNot, sIf, sAndV, sOrV, sNotV, sNotT, sOp, intO, ltO, leO, gtO, geO, addO, subO, mulO, fdivO, modO, powO, intC, CP, CD, CW, fzI, fzB, eqO, neO, isO, isN, isnotO, inO, notInO, ixO, lenO, intF, absF, tupF, lstF, sIsTy, isTy, sDrop, sMut1, sMut0, getO, fAppend, fPopAt, fPop, fClear, sSeq, itemsO, sEnum, sZip, sLc, sLc2, CT.set, setsD, wipeE, sChain, sFn, sFnS, sRaise, gN, gT, gsCons, gsNil, sSl, sPart, slO, sCount, seqI, sGet2, keyD, sAppT, getT, toT, sSetIx, sNeg, enum0 D.int 0, zip_map, range_map, Turn, Fin, eqv, immS, e1, e2, e0, -ixO, -List.getD_eq_getElem?_getD], fun _ => ⟨_, rfl, rfl⟩⟩)
    have hf := others_eq r0 rs k
    have e3 : ixO (lstI r0) (.int (k : Int)) = some (.fz (.int (r0.getD k 0))) := e0
    have hlen : ((r0 :: rs).filter fun r => decide (r.getD k 0 ≠ r0.getD k 0)).length ≤ LIM := lim_of (Nat.le_trans (List.length_filter_le ..) (by simp; omega))
    generalize hfx : (r0 :: rs).filter (fun r => decide (r.getD k 0 ≠ r0.getD k 0)) = fx at hc hf hlen
    have hlt : acc.length < LIM := lim_lt (by rw [i, List.length_map]; omega)
    refine ⟨⟨_, [some (.fz (lrows (r0 :: rs))), some (.ow ((acc ++ [join1 (col (r0 :: rs) k)]).map .int)), some (.fz (.int (k : Int))), some (.fz (lrows fx)), none], rfl, ?_, by simp [killS]⟩, by rw [i]; simp⟩
    have hj : join1 (col (r0 :: rs) k) = if fx.isEmpty = true then r0.getD k 0 else 2 := by
      unfold join1; rw [← hf]; rfl
    rw [hj]
    have e4 : L2.atI (r0.map D.int) (k : Int) = some (.int (r0.getD k 0)) := at_mapD D.int 0 hkl
    simp [l__law_join_1, run, runS, runIO, startIO, endIO, startS, qS, fzAt, sSet, evA, evB, evC, evM, evAT, evBT, viewF, viewB, seeF, seeB, sVar, sC, R.bind, sCall, sCons, sNil, R.of, thenS, thenB, Out.seq, sLst, sTup, sFor, evAI, evCI, sRange1, sRange2, killS, sRet, frzI, frzA, frz1, S.d, sIfS, sBool, sTru, truD, sAnd, sOr, sNot, sIf, sAndV, sOrV, sNotV, sNotT, sOp, intO, ltO, leO, gtO, geO, addO, subO, mulO, fdivO, modO, powO, intC, CP, CD, CW, fzI, fzB, eqO, neO, isO, isN, isnotO, inO, notInO, ixO, lenO, intF, absF, tupF, lstF, sIsTy, isTy, sDrop, sMut1, sMut0, getO, fAppend, fPopAt, fPop, fClear, sSeq, itemsO, sEnum, sZip, sLc, sLc2, CT.set, setsD, wipeE, sChain, sFn, sFnS, sRaise, gN, gT, gsCons, gsNil, sSl, sPart, slO, sCount, seqI, sGet2, keyD, sAppT, getT, toT, sSetIx, sNeg, enum0 D.int 0, zip_map, range_map, Turn, Fin, eqv, immS, -List.getD_eq_getElem?_getD]
    simp [-List.getD_eq_getElem?_getD] at hc
    rw [hc]
    simp [hlen, -List.getD_eq_getElem?_getD]
    cases fx with
    | nil => simp [getO_ow, hlt, at_cons0, e4, -List.getD_eq_getElem?_getD]
    | cons x fx => simp [getO_ow, hlt]) rfl
  obtain ⟨k1, k2⟩ := key
  rw [k2] at k1
  simp at k1
  simp [sem__law_join, b__law_join, run, runS, runIO, startIO, endIO, startS, qS, fzAt, sSet, evA, evB, evC, evM, evAT, evBT, viewF, viewB, seeF, seeB, sVar, sC, R.bind, sCall, sCons, sNil, R.of, thenS, thenB, Out.seq, sLst, sTup, sFor, evAI, evCI, sRange1, sRange2, killS, sRet, frzI, frzA, frz1, S.d, sIfS, sBool, sTru, truD, sAnd, sOr, sNot, sIf, sAndV, sOrV, sNotV, sNotT, sOp, intO, ltO, leO, gtO, geO, addO, subO, mulO, fdivO, modO, powO, intC, CP, CD, CW, fzI, fzB, eqO, neO, isO, isN, isnotO, inO, notInO, ixO, lenO, intF, absF, tupF, lstF, sIsTy, isTy, sDrop, sMut1, sMut0, getO, fAppend, fPopAt, fPop, fClear, sSeq, itemsO, sEnum, sZip, sLc, sLc2, CT.set, setsD, wipeE, sChain, sFn, sFnS, sRaise, gN, gT, gsCons, gsNil, sSl, sPart, slO, sCount, seqI, sGet2, keyD, sAppT, getT, toT, sSetIx, sNeg, enum0 D.int 0, zip_map, range_map, Turn, Fin, eqv, immS, at_cons0, show (r0.length : Int) ≤ 1000000 by omega, k1]
  unfold joinR
  simp
theorem same_none_eq (d : D) : sem__law_same [d, .non] = .ok (.fz (.bl (isN d))) := by
  simp [sem__law_same, b__law_same, run, runS, runIO, startIO, endIO, startS, qS, fzAt, sSet, evA, evB, evC, evM, evAT, evBT, viewF, viewB, seeF, seeB, sVar, sC, R.bind, sCall, sCons, sNil, R.of, thenS, thenB, Out.seq, sLst, sTup, sFor, evAI, evCI, sRange1, sRange2, killS, sRet, frzI, frzA, frz1, S.d, sIfS, sBool, sTru, truD, sAnd, sOr, sNot, sIf, sAndV, sOrV, sNotV, sNotT, sOp, intO, ltO, leO, gtO, geO, addO, subO, mulO, fdivO, modO, powO, intC, CP, CD, CW, fzI, fzB, eqO, neO, isO, isN, isnotO, inO, notInO, ixO, lenO, intF, absF, tupF, lstF, sIsTy, isTy, sDrop, sMut1, sMut0, getO, fAppend, fPopAt, fPop, fClear, sSeq, itemsO, sEnum, sZip, sLc, sLc2, CT.set, setsD, wipeE, sChain, sFn, sFnS, sRaise, gN, gT, gsCons, gsNil, sSl, sPart, slO, sCount, seqI, sGet2, keyD, sAppT, getT, toT, sSetIx, sNeg, enum0 D.int 0, zip_map, range_map, Turn, Fin, eqv, immS]
theorem same_tup_eq (l m : List D) (h1 : shpL 8 l = true) (h2 : shpL 8 m = true) : sem__law_same [.tup l, .tup m] = .ok (.fz (.bl (eqvL l m))) := by
  simp [sem__law_same, b__law_same, run, runS, runIO, startIO, endIO, startS, qS, fzAt, sSet, evA, evB, evC, evM, evAT, evBT, viewF, viewB, seeF, seeB, sVar, sC, R.bind, sCall, sCons, sNil, R.of, thenS, thenB, Out.seq, sLst, sTup, sFor, evAI, evCI, sRange1, sRange2, killS, sRet, frzI, frzA, frz1, S.d, sIfS, sBool, sTru, truD, sAnd, sOr, sNot, sIf, sAndV, sOrV, sNotV, sNotT, sOp, intO, ltO, leO, gtO, geO, addO, subO, mulO, fdivO, modO, powO, intC, CP, CD, CW, fzI, fzB, eqO, neO, isO, isN, isnotO, inO, notInO, ixO, lenO, intF, absF, tupF, lstF, sIsTy, isTy, sDrop, sMut1, sMut0, getO, fAppend, fPopAt, fPop, fClear, sSeq, itemsO, sEnum, sZip, sLc, sLc2, CT.set, setsD, wipeE, sChain, sFn, sFnS, sRaise, gN, gT, gsCons, gsNil, sSl, sPart, slO, sCount, seqI, sGet2, keyD, sAppT, getT, toT, sSetIx, sNeg, enum0 D.int 0, zip_map, range_map, Turn, Fin, eqv, immS, h1, h2]
theorem eqvL_self {α : Type} {en : α → D} (h : ∀ x, eqv (en x) (en x) = true) (l : List α) : eqvL (l.map en) (l.map en) = true := eqvL_refl l fun x _ => h x
end O

end

section
set_option Elab.async false
set_option linter.all false
set_option maxRecDepth 100000
set_option maxHeartbeats 1000000
namespace O
open PySem PySem.Spec PyProof.Rows L2
theorem nats_self (l : List Nat) : eqvL (l.map fun (i : Nat) => D.int (i : Int)) (l.map fun (i : Nat) => D.int (i : Int)) = true := eqvL_self (fun x => by simp) l
theorem nats_shp (l : List Nat) : shpL 8 (l.map fun (i : Nat) => D.int (i : Int)) = true := shpL_map l fun _ _ => by simp
theorem stD_self (l : List (List Int)) : eqvL (stD l) (stD l) = true := eqvL_self (fun x => by simp) l
theorem stD_shp (l : List (List Int)) : shpL 8 (stD l) = true := shpL_map l fun _ _ => by simp
/-- rooms of one size -/
def Rooms (n : Nat) (rs : List (List Int)) : Prop := ∀ r ∈ rs, IsRoom r ∧ r.length = n
theorem lone_turn {n : Nat} {rs : List (List Int)} (h : Rooms n rs) {r : List Int} (hr : r ∈ rs) :
    l__law_lone_answers_2 [some (.fz (lrows rs)), some (.fz (lstI r)), none, none, none] = .nx [some (.fz (lrows rs)), some (.fz (lstI r)), some (.fz (.lst ((freeN r).map fun (i : Nat) => D.int (i : Int)))), none, none] := by
  obtain ⟨h1, h2⟩ := h r hr
  have hz : r.length ≤ 1000 := by have := h1.2.1; omega
  have f := free_eq (.lst : Seq' r _) hz
  rw [if_pos h1] at f
  have st := states_eq (.lst : Seq' r _) hz
  rw [if_pos h1] at st
  have hfl : (freeN r).length ≤ LIM := lim_of (by rw [freeN_len]; have := frees_len r; omega)
  have hfl2 : frees r ≤ LIM := by rw [← freeN_len]; exact hfl
  have e4 : ∀ i ∈ List.range r.length, L2.atI (r.map D.int) (i : Int) = some (.int (r.getD i 0)) := fun i hi => at_mapD D.int 0 (List.mem_range.mp hi)
  have hc : lcGo (.nm 4) (sBool (sOp eqO (sOp ixO (sVar 1) (sVar 4)) (sC (.int 2)))) (sVar 4) [some (lrows rs), some (lstI r), none, none, none] ((List.range r.length).map fun (i : Nat) => D.int (i : Int)) = .ok ((freeN r).map fun (i : Nat) => D.int (i : Int)) :=
    lc_eq (en := fun (i : Nat) => D.int (i : Int)) (fun i => decide (r.getD i 0 = 2)) (fun i => D.int (i : Int)) (List.range r.length) (fun i hi => ⟨_, rfl, by simp [run, runS, runIO, startIO, endIO, startS, qS, fzAt, sSet, evA, evB, evC, evM, evAT, evBT, viewF, viewB, seeF, seeB, sVar, sC, R.bind, sCall, sCons, sNil, R.of, thenS, thenB, Out.seq, sLst, sTup, sFor, evAI, evCI, sRange1, sRange2, killS, sRet, frzI, frzA, frz1, S.d, sIfS, sBool, sTru, truD, sAnd, sOr, sNot, sIf, sAndV, sOrV, sNotV, sNotT, sOp, intO, ltO, leO, gtO, geO, addO, subO, mulO, fdivO, modO, powO, intC, CP, CD, CW, fzI, fzB, eqO, neO, isO, isN, isnotO, inO, notInO, ixO, lenO, intF, absF, tupF, lstF, sIsTy, isTy, sDrop, sMut1, sMut0, getO, fAppend, fPopAt, fPop, fClear, sSeq, itemsO, sEnum, sZip, sLc, sLc2, CT.set, setsD, wipeE, sChain, sFn, sFnS, sRaise, gN, gT, gsCons, gsNil, sSl, sPart, slO, sCount, seqI, sGet2, keyD, sAppT, getT, toT, sSetIx, sNeg, enum0 D.int 0, zip_map, range_map, Turn, Fin, eqv, immS, e4 i hi, -List.getD_eq_getElem?_getD], fun _ => ⟨_, rfl, rfl⟩⟩)
  have s1 := same_tup_eq ((freeN r).map fun (i : Nat) => D.int (i : Int)) ((freeN r).map fun (i : Nat) => D.int (i : Int)) (nats_shp _) (nats_shp _)
  rw [nats_self] at s1
  have s2 := same_tup_eq (stD (sts r)) (stD (sts r)) (stD_shp _) (stD_shp _)
  rw [stD_self] at s2
  have lp := loop_allI (en := fun r => lstI r) (t := gN 3) (body := l__law_lone_answers_1) (kl := [3]) (fun (_ : Unit) => [some (.fz (lrows rs)), some (.fz (lstI r)), some (.fz (.lst ((freeN r).map fun (i : Nat) => D.int (i : Int)))), none, none]) (fun _ _ => True) (fun _ _ => ()) rs () (fun pre o post _ e _ => by
    have ho := h o (by rw [e]; simp)
    have w := within_eq (.lst : Seq' r _) (.lst : Seq' o _) hz (by rw [ho.2, ← h2]; exact hz)
    rw [if_pos h1, if_pos ⟨by rw [ho.2, h2], ho.1.2.2⟩] at w
    have li := linside_eq (.lst : Seq' r _) (.lst : Seq' o _) hz (by rw [ho.2, h2])
    have t := truth_eq (insideB r o) (insideB r o)
    refine ⟨⟨_, [some (.fz (lrows rs)), some (.fz (lstI r)), some (.fz (.lst ((freeN r).map fun (i : Nat) => D.int (i : Int)))), some (.fz (lstI o)), none], rfl, ?_, rfl⟩, trivial⟩
    simp [l__law_lone_answers_1, run, runS, runIO, startIO, endIO, startS, qS, fzAt, sSet, evA, evB, evC, evM, evAT, evBT, viewF, viewB, seeF, seeB, sVar, sC, R.bind, sCall, sCons, sNil, R.of, thenS, thenB, Out.seq, sLst, sTup, sFor, evAI, evCI, sRange1, sRange2, killS, sRet, frzI, frzA, frz1, S.d, sIfS, sBool, sTru, truD, sAnd, sOr, sNot, sIf, sAndV, sOrV, sNotV, sNotT, sOp, intO, ltO, leO, gtO, geO, addO, subO, mulO, fdivO, modO, powO, intC, CP, CD, CW, fzI, fzB, eqO, neO, isO, isN, isnotO, inO, notInO, ixO, lenO, intF, absF, tupF, lstF, sIsTy, isTy, sDrop, sMut1, sMut0, getO, fAppend, fPopAt, fPop, fClear, sSeq, itemsO, sEnum, sZip, sLc, sLc2, CT.set, setsD, wipeE, sChain, sFn, sFnS, sRaise, gN, gT, gsCons, gsNil, sSl, sPart, slO, sCount, seqI, sGet2, keyD, sAppT, getT, toT, sSetIx, sNeg, enum0 D.int 0, zip_map, range_map, Turn, Fin, eqv, immS, w, li, t]) trivial
  have lp := lp.1
  simp only [lrows] at lp hc
  by_cases h8 : frees r ≤ 8
  · rw [if_pos h8] at st
    have ls := lstates_eq hz h1.2.2 h8
    simp [l__law_lone_answers_2, run, runS, runIO, startIO, endIO, startS, qS, fzAt, sSet, evA, evB, evC, evM, evAT, evBT, viewF, viewB, seeF, seeB, sVar, sC, R.bind, sCall, sCons, sNil, R.of, thenS, thenB, Out.seq, sLst, sTup, sFor, evAI, evCI, sRange1, sRange2, killS, sRet, frzI, frzA, frz1, S.d, sIfS, sBool, sTru, truD, sAnd, sOr, sNot, sIf, sAndV, sOrV, sNotV, sNotT, sOp, intO, ltO, leO, gtO, geO, addO, subO, mulO, fdivO, modO, powO, intC, CP, CD, CW, fzI, fzB, eqO, neO, isO, isN, isnotO, inO, notInO, ixO, lenO, intF, absF, tupF, lstF, sIsTy, isTy, sDrop, sMut1, sMut0, getO, fAppend, fPopAt, fPop, fClear, sSeq, itemsO, sEnum, sZip, sLc, sLc2, CT.set, setsD, wipeE, sChain, sFn, sFnS, sRaise, gN, gT, gsCons, gsNil, sSl, sPart, slO, sCount, seqI, sGet2, keyD, sAppT, getT, toT, sSetIx, sNeg, enum0 D.int 0, zip_map, range_map, Turn, Fin, eqv, immS, show (r.length : Int) ≤ 1000000 by omega]
    rw [hc]
    simp [hfl, hfl2, f, s1, st, ls, s2, lp, freeN_len, show (frees r : Int) ≤ 8 by omega]
  · simp [l__law_lone_answers_2, run, runS, runIO, startIO, endIO, startS, qS, fzAt, sSet, evA, evB, evC, evM, evAT, evBT, viewF, viewB, seeF, seeB, sVar, sC, R.bind, sCall, sCons, sNil, R.of, thenS, thenB, Out.seq, sLst, sTup, sFor, evAI, evCI, sRange1, sRange2, killS, sRet, frzI, frzA, frz1, S.d, sIfS, sBool, sTru, truD, sAnd, sOr, sNot, sIf, sAndV, sOrV, sNotV, sNotT, sOp, intO, ltO, leO, gtO, geO, addO, subO, mulO, fdivO, modO, powO, intC, CP, CD, CW, fzI, fzB, eqO, neO, isO, isN, isnotO, inO, notInO, ixO, lenO, intF, absF, tupF, lstF, sIsTy, isTy, sDrop, sMut1, sMut0, getO, fAppend, fPopAt, fPop, fClear, sSeq, itemsO, sEnum, sZip, sLc, sLc2, CT.set, setsD, wipeE, sChain, sFn, sFnS, sRaise, gN, gT, gsCons, gsNil, sSl, sPart, slO, sCount, seqI, sGet2, keyD, sAppT, getT, toT, sSetIx, sNeg, enum0 D.int 0, zip_map, range_map, Turn, Fin, eqv, immS, show (r.length : Int) ≤ 1000000 by omega]
    rw [hc]
    simp [hfl, hfl2, f, s1, lp, freeN_len, show ¬ (frees r : Int) ≤ 8 by omega]
theorem lone_answers_eq {n : Nat} {rs : List (List Int)} (h : Rooms n rs) : sem__law_lone_answers [lrows rs] = .ok (.fz (.bl true)) := by
  have lp := loop_allI (en := fun r => lstI r) (t := gN 1) (body := l__law_lone_answers_2) (kl := [1, 2, 3]) (fun (_ : Unit) => [some (.fz (lrows rs)), none, none, none, none]) (fun _ _ => True) (fun _ _ => ()) rs () (fun pre r post _ e _ => by
    exact ⟨⟨_, _, rfl, lone_turn h (by rw [e]; simp), rfl⟩, trivial⟩) trivial
  have lp := lp.1
  simp only [lrows] at lp
  simp [sem__law_lone_answers, b__law_lone_answers, run, runS, runIO, startIO, endIO, startS, qS, fzAt, sSet, evA, evB, evC, evM, evAT, evBT, viewF, viewB, seeF, seeB, sVar, sC, R.bind, sCall, sCons, sNil, R.of, thenS, thenB, Out.seq, sLst, sTup, sFor, evAI, evCI, sRange1, sRange2, killS, sRet, frzI, frzA, frz1, S.d, sIfS, sBool, sTru, truD, sAnd, sOr, sNot, sIf, sAndV, sOrV, sNotV, sNotT, sOp, intO, ltO, leO, gtO, geO, addO, subO, mulO, fdivO, modO, powO, intC, CP, CD, CW, fzI, fzB, eqO, neO, isO, isN, isnotO, inO, notInO, ixO, lenO, intF, absF, tupF, lstF, sIsTy, isTy, sDrop, sMut1, sMut0, getO, fAppend, fPopAt, fPop, fClear, sSeq, itemsO, sEnum, sZip, sLc, sLc2, CT.set, setsD, wipeE, sChain, sFn, sFnS, sRaise, gN, gT, gsCons, gsNil, sSl, sPart, slO, sCount, seqI, sGet2, keyD, sAppT, getT, toT, sSetIx, sNeg, enum0 D.int 0, zip_map, range_map, Turn, Fin, eqv, immS, lp]
end O

end

section
set_option Elab.async false
set_option linter.all false
set_option maxRecDepth 100000
set_option maxHeartbeats 1000000
namespace O
open PySem PySem.Spec PyProof.Rows L2
theorem same_row (l : List Int) : sem__law_same [tupI l, tupI l] = .ok (.fz (.bl true)) := by
  have := same_tup_eq (l.map .int) (l.map .int) (by simp) (by simp)
  rw [this]
  simp
theorem same_non : sem__law_same [.non, .non] = .ok (.fz (.bl true)) := by rw [same_none_eq]; rfl
def metD : Option (List Int) → D
  | none => .non
  | some l => tupI l
theorem meetS_eq (n : Nat) (rs : List (List Int)) : meetS n rs = .ok (.fz (metD (meetR n rs))) := by
  unfold meetS metD; cases meetR n rs <;> rfl
theorem same_met (o : Option (List Int)) : sem__law_same [metD o, metD o] = .ok (.fz (.bl true)) := by
  cases o
  · exact same_non
  · exact same_row _
theorem bad_none {n : Nat} {rs : List (List Int)} (h : Rooms n rs) : badRow n rs = none := by
  unfold badRow
  rw [List.find?_eq_none]
  intro r hr
  obtain ⟨h1, h2⟩ := h r hr
  simp only [h2, h1.2.2]
  decide
theorem meets_eq {n : Nat} {a b c : List Int} (h : Rooms n [a, b, c]) : sem__law_meets [lstI a, lstI b, lstI c] = .ok (.fz (.bl true)) := by
  obtain ⟨a1, a2⟩ := h a (by simp)
  obtain ⟨b1, b2⟩ := h b (by simp)
  obtain ⟨c1, c2⟩ := h c (by simp)
  have ha : a.length ≤ 1000 := by have := a1.2.1; omega
  have hb : b.length ≤ 1000 := by omega
  have hc : c.length ≤ 1000 := by omega
  have hbc : Rooms a.length [b, c] := fun r hr => by
    rw [a2]; exact h r (List.mem_cons_of_mem _ hr)
  have hb' : Rooms a.length [b] := fun r hr => hbc r (by simp at hr; simp [hr])
  have m3 := meet_eq (.lst : Seq' a _) ha (.cons (.lst : Seq' b _) (.cons (.lst : Seq' c _) .nil)) (fun r hr => by have := (hbc r hr).2; omega) (by simp)
  rw [if_pos a1, bad_none hbc] at m3
  have m2 := meet_eq (.lst : Seq' a _) ha (.cons (.lst : Seq' b _) .nil) (fun r hr => by have := (hb' r hr).2; omega) (by simp)
  rw [if_pos a1, bad_none hb'] at m2
  have m1 := meet_eq (.lst : Seq' a _) ha .nil (fun r hr => by cases hr) (by simp)
  rw [if_pos a1, show badRow a.length [] = none by rfl] at m1
  have j3 := join_eq (.lst : Seq' a _) ha (.cons (.lst : Seq' b _) (.cons (.lst : Seq' c _) .nil)) (fun r hr => by have := (hbc r hr).2; omega) (by simp)
  rw [if_pos a1, bad_none hbc] at j3
  have j2 := join_eq (.lst : Seq' a _) ha (.cons (.lst : Seq' b _) .nil) (fun r hr => by have := (hb' r hr).2; omega) (by simp)
  rw [if_pos a1, bad_none hb'] at j2
  have j1 := join_eq (.lst : Seq' c _) hc .nil (fun r hr => by cases hr) (by simp)
  rw [if_pos c1, show badRow c.length [] = none by rfl] at j1
  have lm3 := lmeet_eq (r0 := a) (rs := [b, c]) (fun r hr => by rw [a2]; exact (h r hr).2) ha (by simp)
  have lm2 := lmeet_eq (r0 := a) (rs := [b]) (fun r hr => by rw [a2]; exact (h r (by simp at hr; rcases hr with rfl | rfl <;> simp)).2) ha (by simp)
  have lj3 := ljoin_eq (r0 := a) (rs := [b, c]) (fun r hr => by rw [a2]; exact (h r hr).2) ha (by simp)
  have lj2 := ljoin_eq (r0 := a) (rs := [b]) (fun r hr => by rw [a2]; exact (h r (by simp at hr; rcases hr with rfl | rfl <;> simp)).2) ha (by simp)
  simp only [meetS_eq] at m3 m2 m1 lm3 lm2
  rw [meetR_one a1.2.2] at m1
  rw [joinR_one] at j1
  simp only [lrows, List.map_cons, List.map_nil] at lm3 lm2 lj3 lj2
  have sa := same_row a
  have sc := same_row c
  have s3 := same_met (meetR a.length [a, b, c])
  have s2 := same_met (meetR a.length [a, b])
  have t3 := same_row (joinR a.length [a, b, c])
  have t2 := same_row (joinR a.length [a, b])
  by_cases h5 : a.length ≤ 5
  · have h8 : frees a ≤ 8 := by have := frees_len a; omega
    have ls := lstates_eq ha a1.2.2 h8
    have lp := loop_allI (en := fun s => tupI s) (t := gN 5) (body := l__law_meets_1) (kl := [5]) (fun acc => [some (.fz (lstI a)), some (.fz (lstI b)), some (.fz (lstI c)), some (.fz (metD (meetR a.length [a, b, c]))), some (.ow (stD acc)), none]) (fun pre acc => acc = pre.filter fun s => insideB s b && insideB s c) (fun acc s => if (insideB s b && insideB s c) = true then acc ++ [s] else acc) (sts a) [] (fun pre s post acc e i => by
      have hs := sts_mem_len a s (by rw [e]; simp)
      have n1 := linside_eq (.tup : Seq' s _) (.lst : Seq' b _) (by omega) (by omega)
      have n2 := linside_eq (.tup : Seq' s _) (.lst : Seq' c _) (by omega) (by omega)
      have hl : (stD acc).length < LIM := lim_lt (by
        have q1 : acc.length ≤ pre.length := by rw [i]; exact List.length_filter_le ..
        have q2 := sts_len a a1.2.2
        have q3 : pre.length < (sts a).length := by rw [e]; simp
        have q4 : 2 ^ frees a ≤ 2 ^ 8 := Nat.pow_le_pow_right (by decide) h8
        simp; omega)
      simp at hl
      refine ⟨⟨_, [some (.fz (lstI a)), some (.fz (lstI b)), some (.fz (lstI c)), some (.fz (metD (meetR a.length [a, b, c]))), some (.ow (stD (if (insideB s b && insideB s c) = true then acc ++ [s] else acc))), some (.fz (tupI s))], rfl, ?_, rfl⟩, ?_⟩
      · by_cases p1 : insideB s b = true
        · by_cases p2 : insideB s c = true
          · simp [l__law_meets_1, run, runS, runIO, startIO, endIO, startS, qS, fzAt, sSet, evA, evB, evC, evM, evAT, evBT, viewF, viewB, seeF, seeB, sVar, sC, R.bind, sCall, sCons, sNil, R.of, thenS, thenB, Out.seq, sLst, sTup, sFor, evAI, evCI, sRange1, sRange2, killS, sRet, frzI, frzA, frz1, S.d, sIfS, sBool, sTru, truD, sAnd, sOr, sNot, sIf, sAndV, sOrV, sNotV, sNotT, sOp, intO, ltO, leO, gtO, geO, addO, subO, mulO, fdivO, modO, powO, intC, CP, CD, CW, fzI, fzB, eqO, neO, isO, isN, isnotO, inO, notInO, ixO, lenO, intF, absF, tupF, lstF, sIsTy, isTy, sDrop, sMut1, sMut0, getO, fAppend, fPopAt, fPop, fClear, sSeq, itemsO, sEnum, sZip, sLc, sLc2, CT.set, setsD, wipeE, sChain, sFn, sFnS, sRaise, gN, gT, gsCons, gsNil, sSl, sPart, slO, sCount, seqI, sGet2, keyD, sAppT, getT, toT, sSetIx, sNeg, enum0 D.int 0, zip_map, range_map, Turn, Fin, eqv, immS, n1, n2, p1, p2, hl]
          · simp [l__law_meets_1, run, runS, runIO, startIO, endIO, startS, qS, fzAt, sSet, evA, evB, evC, evM, evAT, evBT, viewF, viewB, seeF, seeB, sVar, sC, R.bind, sCall, sCons, sNil, R.of, thenS, thenB, Out.seq, sLst, sTup, sFor, evAI, evCI, sRange1, sRange2, killS, sRet, frzI, frzA, frz1, S.d, sIfS, sBool, sTru, truD, sAnd, sOr, sNot, sIf, sAndV, sOrV, sNotV, sNotT, sOp, intO, ltO, leO, gtO, geO, addO, subO, mulO, fdivO, modO, powO, intC, CP, CD, CW, fzI, fzB, eqO, neO, isO, isN, isnotO, inO, notInO, ixO, lenO, intF, absF, tupF, lstF, sIsTy, isTy, sDrop, sMut1, sMut0, getO, fAppend, fPopAt, fPop, fClear, sSeq, itemsO, sEnum, sZip, sLc, sLc2, CT.set, setsD, wipeE, sChain, sFn, sFnS, sRaise, gN, gT, gsCons, gsNil, sSl, sPart, slO, sCount, seqI, sGet2, keyD, sAppT, getT, toT, sSetIx, sNeg, enum0 D.int 0, zip_map, range_map, Turn, Fin, eqv, immS, n1, n2, p1, p2, hl]
        · simp [l__law_meets_1, run, runS, runIO, startIO, endIO, startS, qS, fzAt, sSet, evA, evB, evC, evM, evAT, evBT, viewF, viewB, seeF, seeB, sVar, sC, R.bind, sCall, sCons, sNil, R.of, thenS, thenB, Out.seq, sLst, sTup, sFor, evAI, evCI, sRange1, sRange2, killS, sRet, frzI, frzA, frz1, S.d, sIfS, sBool, sTru, truD, sAnd, sOr, sNot, sIf, sAndV, sOrV, sNotV, sNotT, sOp, intO, ltO, leO, gtO, geO, addO, subO, mulO, fdivO, modO, powO, intC, CP, CD, CW, fzI, fzB, eqO, neO, isO, isN, isnotO, inO, notInO, ixO, lenO, intF, absF, tupF, lstF, sIsTy, isTy, sDrop, sMut1, sMut0, getO, fAppend, fPopAt, fPop, fClear, sSeq, itemsO, sEnum, sZip, sLc, sLc2, CT.set, setsD, wipeE, sChain, sFn, sFnS, sRaise, gN, gT, gsCons, gsNil, sSl, sPart, slO, sCount, seqI, sGet2, keyD, sAppT, getT, toT, sSetIx, sNeg, enum0 D.int 0, zip_map, range_map, Turn, Fin, eqv, immS, n1, n2, p1, hl]
      · rw [i, List.filter_append]
        by_cases p : (insideB s b && insideB s c) = true <;> simp [p]) rfl
    obtain ⟨k1, k2⟩ := lp
    rw [k2, common_eq a b c (by omega) (by omega) a1.2.2 b1.2.2 c1.2.2] at k1
    simp at k1
    cases hm : meetR a.length [a, b, c] with
    | none =>
      rw [hm] at k1 m3 lm3 s3
      simp only [metD] at k1 m3 lm3 s3 m2 lm2 s2 m1
      simp [sem__law_meets, b__law_meets, run, runS, runIO, startIO, endIO, startS, qS, fzAt, sSet, evA, evB, evC, evM, evAT, evBT, viewF, viewB, seeF, seeB, sVar, sC, R.bind, sCall, sCons, sNil, R.of, thenS, thenB, Out.seq, sLst, sTup, sFor, evAI, evCI, sRange1, sRange2, killS, sRet, frzI, frzA, frz1, S.d, sIfS, sBool, sTru, truD, sAnd, sOr, sNot, sIf, sAndV, sOrV, sNotV, sNotT, sOp, intO, ltO, leO, gtO, geO, addO, subO, mulO, fdivO, modO, powO, intC, CP, CD, CW, fzI, fzB, eqO, neO, isO, isN, isnotO, inO, notInO, ixO, lenO, intF, absF, tupF, lstF, sIsTy, isTy, sDrop, sMut1, sMut0, getO, fAppend, fPopAt, fPop, fClear, sSeq, itemsO, sEnum, sZip, sLc, sLc2, CT.set, setsD, wipeE, sChain, sFn, sFnS, sRaise, gN, gT, gsCons, gsNil, sSl, sPart, slO, sCount, seqI, sGet2, keyD, sAppT, getT, toT, sSetIx, sNeg, enum0 D.int 0, zip_map, range_map, Turn, Fin, eqv, immS, m3, m2, m1, j3, j2, j1, lm3, lm2, lj3, lj2, sa, sc, s3, s2, t3, t2, ls, show ¬ (5 : Int) < a.length by omega]
      rw [k1]
      simp [stsO]
    | some m =>
      obtain ⟨r1, r2⟩ := meetR_room (by omega) (by omega) a1.2.2 b1.2.2 c1.2.2 hm
      have rm : IsRoom m := ⟨by have := a1.1; omega, by have := a1.2.1; omega, r2⟩
      have so := states_eq (.tup : Seq' m _) (by omega)
      rw [if_pos rm, if_pos (by have := frees_len m; omega)] at so
      rw [hm] at k1 m3 lm3 s3
      simp only [metD] at k1 m3 lm3 s3 m2 lm2 s2 m1
      have e1 := stD_self (sts m)
      have e2 := stD_shp (sts m)
      simp [sem__law_meets, b__law_meets, run, runS, runIO, startIO, endIO, startS, qS, fzAt, sSet, evA, evB, evC, evM, evAT, evBT, viewF, viewB, seeF, seeB, sVar, sC, R.bind, sCall, sCons, sNil, R.of, thenS, thenB, Out.seq, sLst, sTup, sFor, evAI, evCI, sRange1, sRange2, killS, sRet, frzI, frzA, frz1, S.d, sIfS, sBool, sTru, truD, sAnd, sOr, sNot, sIf, sAndV, sOrV, sNotV, sNotT, sOp, intO, ltO, leO, gtO, geO, addO, subO, mulO, fdivO, modO, powO, intC, CP, CD, CW, fzI, fzB, eqO, neO, isO, isN, isnotO, inO, notInO, ixO, lenO, intF, absF, tupF, lstF, sIsTy, isTy, sDrop, sMut1, sMut0, getO, fAppend, fPopAt, fPop, fClear, sSeq, itemsO, sEnum, sZip, sLc, sLc2, CT.set, setsD, wipeE, sChain, sFn, sFnS, sRaise, gN, gT, gsCons, gsNil, sSl, sPart, slO, sCount, seqI, sGet2, keyD, sAppT, getT, toT, sSetIx, sNeg, enum0 D.int 0, zip_map, range_map, Turn, Fin, eqv, immS, m3, m2, m1, j3, j2, j1, lm3, lm2, lj3, lj2, sa, sc, s3, s2, t3, t2, ls, show ¬ (5 : Int) < a.length by omega]
      rw [k1]
      simp [stsO, so, e1, e2]
  · simp only [metD] at m1
    simp [sem__law_meets, b__law_meets, run, runS, runIO, startIO, endIO, startS, qS, fzAt, sSet, evA, evB, evC, evM, evAT, evBT, viewF, viewB, seeF, seeB, sVar, sC, R.bind, sCall, sCons, sNil, R.of, thenS, thenB, Out.seq, sLst, sTup, sFor, evAI, evCI, sRange1, sRange2, killS, sRet, frzI, frzA, frz1, S.d, sIfS, sBool, sTru, truD, sAnd, sOr, sNot, sIf, sAndV, sOrV, sNotV, sNotT, sOp, intO, ltO, leO, gtO, geO, addO, subO, mulO, fdivO, modO, powO, intC, CP, CD, CW, fzI, fzB, eqO, neO, isO, isN, isnotO, inO, notInO, ixO, lenO, intF, absF, tupF, lstF, sIsTy, isTy, sDrop, sMut1, sMut0, getO, fAppend, fPopAt, fPop, fClear, sSeq, itemsO, sEnum, sZip, sLc, sLc2, CT.set, setsD, wipeE, sChain, sFn, sFnS, sRaise, gN, gT, gsCons, gsNil, sSl, sPart, slO, sCount, seqI, sGet2, keyD, sAppT, getT, toT, sSetIx, sNeg, enum0 D.int 0, zip_map, range_map, Turn, Fin, eqv, immS, m3, m2, m1, j3, j2, j1, lm3, lm2, lj3, lj2, sa, sc, s3, s2, t3, t2, show (5 : Int) < a.length by omega]
end O

end

section
set_option Elab.async false
set_option linter.all false
set_option maxRecDepth 100000
set_option maxHeartbeats 1000000
namespace O
open PySem PySem.Spec PyProof.Rows L2
def trow (r : List Int) : T := .ls ((r.map D.int).map T.lf)
def spoil (f h x : Int) (r : List Int) : List Int := if f = 0 then r.set h.toNat (3 + x) else if f = 1 then r.set h.toNat (-1 - x) else if f = 2 then r ++ [x % 3] else if f = 3 then r.dropLast else if f = 4 then [] else r
theorem getO_row (k : Option Nat) (r : List Int) : getO (.tr k (trow r)) = some (r.map .int, fun l' => .tr k (.ls (l'.map T.lf))) := by
  unfold trow
  simp only [getO, leaves_map, Option.map_some]
theorem startIO_row (r : List Int) (ds : List D) : startIO 4 (r.map .int) ds = some (.tr (some 0) (trow r)) :: ds.map (fun d => some (.fz d)) ++ List.replicate (4 - (ds.length + 1)) none := rfl
theorem endIO_row (r : List Int) (ρ : SEnv) : endIO (some (.tr (some 0) (trow r)) :: ρ) = some (r.map .int) := by
  unfold trow
  simp only [endIO, List.getElem?_cons_zero, leaves_map]
theorem back_row (k : Option Nat) (r : List Int) : S.tr k (.ls ((r.map D.int).map T.lf)) = .tr k (trow r) := rfl
theorem spoilt_eq {f h x : Int} {r : List Int} (h0 : 0 ≤ h) (h1 : h < r.length) (hl : r.length ≤ 1000) : io__law_spoilt (r.map .int) [.int f, .int h, .int x] = some ((spoil f h x r).map .int) := by
  have e : ixN r.length h = some h.toNat := by
    have := @ixN_nat r.length h.toNat (by omega)
    rwa [show ((h.toNat : Nat) : Int) = h by omega] at this
  have hlt : r.length < LIM := lim_lt (by omega)
  have key : b__law_spoilt [some (.tr (some 0) (trow r)), some (.fz (.int f)), some (.fz (.int h)), some (.fz (.int x))] = .nx [some (.tr (some 0) (trow (spoil f h x r))), some (.fz (.int f)), some (.fz (.int h)), some (.fz (.int x))] := by
    unfold spoil
    by_cases f0 : f = 0
    · subst f0
      simp [b__law_spoilt, run, runS, runIO, startIO, endIO, startS, qS, fzAt, sSet, evA, evB, evC, evM, evAT, evBT, viewF, viewB, seeF, seeB, sVar, sC, R.bind, sCall, sCons, sNil, R.of, thenS, thenB, Out.seq, sLst, sTup, sFor, evAI, evCI, sRange1, sRange2, killS, sRet, frzI, frzA, frz1, S.d, sIfS, sBool, sTru, truD, sAnd, sOr, sNot, sIf, sAndV, sOrV, sNotV, sNotT, sOp, intO, ltO, leO, gtO, geO, addO, subO, mulO, fdivO, modO, powO, intC, CP, CD, CW, fzI, fzB, eqO, neO, isO, isN, isnotO, inO, notInO, ixO, lenO, intF, absF, tupF, lstF, sIsTy, isTy, sDrop, sMut1, sMut0, getO, fAppend, fPopAt, fPop, fClear, sSeq, itemsO, sEnum, sZip, sLc, sLc2, CT.set, setsD, wipeE, sChain, sFn, sFnS, sRaise, gN, gT, gsCons, gsNil, sSl, sPart, slO, sCount, seqI, sGet2, keyD, sAppT, getT, toT, sSetIx, sNeg, enum0 D.int 0, zip_map, range_map, Turn, Fin, eqv, immS, -getO, getO_row, e]
      simp [trow, List.map_set]
    · by_cases f1 : f = 1
      · subst f1
        simp [b__law_spoilt, run, runS, runIO, startIO, endIO, startS, qS, fzAt, sSet, evA, evB, evC, evM, evAT, evBT, viewF, viewB, seeF, seeB, sVar, sC, R.bind, sCall, sCons, sNil, R.of, thenS, thenB, Out.seq, sLst, sTup, sFor, evAI, evCI, sRange1, sRange2, killS, sRet, frzI, frzA, frz1, S.d, sIfS, sBool, sTru, truD, sAnd, sOr, sNot, sIf, sAndV, sOrV, sNotV, sNotT, sOp, intO, ltO, leO, gtO, geO, addO, subO, mulO, fdivO, modO, powO, intC, CP, CD, CW, fzI, fzB, eqO, neO, isO, isN, isnotO, inO, notInO, ixO, lenO, intF, absF, tupF, lstF, sIsTy, isTy, sDrop, sMut1, sMut0, getO, fAppend, fPopAt, fPop, fClear, sSeq, itemsO, sEnum, sZip, sLc, sLc2, CT.set, setsD, wipeE, sChain, sFn, sFnS, sRaise, gN, gT, gsCons, gsNil, sSl, sPart, slO, sCount, seqI, sGet2, keyD, sAppT, getT, toT, sSetIx, sNeg, enum0 D.int 0, zip_map, range_map, Turn, Fin, eqv, immS, -getO, getO_row, e]
        simp [trow, List.map_set]
      · by_cases f2 : f = 2
        · subst f2
          simp [b__law_spoilt, run, runS, runIO, startIO, endIO, startS, qS, fzAt, sSet, evA, evB, evC, evM, evAT, evBT, viewF, viewB, seeF, seeB, sVar, sC, R.bind, sCall, sCons, sNil, R.of, thenS, thenB, Out.seq, sLst, sTup, sFor, evAI, evCI, sRange1, sRange2, killS, sRet, frzI, frzA, frz1, S.d, sIfS, sBool, sTru, truD, sAnd, sOr, sNot, sIf, sAndV, sOrV, sNotV, sNotT, sOp, intO, ltO, leO, gtO, geO, addO, subO, mulO, fdivO, modO, powO, intC, CP, CD, CW, fzI, fzB, eqO, neO, isO, isN, isnotO, inO, notInO, ixO, lenO, intF, absF, tupF, lstF, sIsTy, isTy, sDrop, sMut1, sMut0, getO, fAppend, fPopAt, fPop, fClear, sSeq, itemsO, sEnum, sZip, sLc, sLc2, CT.set, setsD, wipeE, sChain, sFn, sFnS, sRaise, gN, gT, gsCons, gsNil, sSl, sPart, slO, sCount, seqI, sGet2, keyD, sAppT, getT, toT, sSetIx, sNeg, enum0 D.int 0, zip_map, range_map, Turn, Fin, eqv, immS, -getO, getO_row, hlt]
          simp [trow]
        · by_cases f3 : f = 3
          · subst f3
            have hne : r ≠ [] := by intro z; subst z; simp at h1; omega
            have hg : (r.map D.int).getLast? = some (.int (r.getLast hne)) := by
              rw [List.getLast?_map, List.getLast?_eq_some_getLast hne]; rfl
            simp [b__law_spoilt, run, runS, runIO, startIO, endIO, startS, qS, fzAt, sSet, evA, evB, evC, evM, evAT, evBT, viewF, viewB, seeF, seeB, sVar, sC, R.bind, sCall, sCons, sNil, R.of, thenS, thenB, Out.seq, sLst, sTup, sFor, evAI, evCI, sRange1, sRange2, killS, sRet, frzI, frzA, frz1, S.d, sIfS, sBool, sTru, truD, sAnd, sOr, sNot, sIf, sAndV, sOrV, sNotV, sNotT, sOp, intO, ltO, leO, gtO, geO, addO, subO, mulO, fdivO, modO, powO, intC, CP, CD, CW, fzI, fzB, eqO, neO, isO, isN, isnotO, inO, notInO, ixO, lenO, intF, absF, tupF, lstF, sIsTy, isTy, sDrop, sMut1, sMut0, getO, fAppend, fPopAt, fPop, fClear, sSeq, itemsO, sEnum, sZip, sLc, sLc2, CT.set, setsD, wipeE, sChain, sFn, sFnS, sRaise, gN, gT, gsCons, gsNil, sSl, sPart, slO, sCount, seqI, sGet2, keyD, sAppT, getT, toT, sSetIx, sNeg, enum0 D.int 0, zip_map, range_map, Turn, Fin, eqv, immS, -getO, getO_row, -List.getLast?_map, hg]
            simp [trow]
          · by_cases f4 : f = 4
            · subst f4
              simp [b__law_spoilt, run, runS, runIO, startIO, endIO, startS, qS, fzAt, sSet, evA, evB, evC, evM, evAT, evBT, viewF, viewB, seeF, seeB, sVar, sC, R.bind, sCall, sCons, sNil, R.of, thenS, thenB, Out.seq, sLst, sTup, sFor, evAI, evCI, sRange1, sRange2, killS, sRet, frzI, frzA, frz1, S.d, sIfS, sBool, sTru, truD, sAnd, sOr, sNot, sIf, sAndV, sOrV, sNotV, sNotT, sOp, intO, ltO, leO, gtO, geO, addO, subO, mulO, fdivO, modO, powO, intC, CP, CD, CW, fzI, fzB, eqO, neO, isO, isN, isnotO, inO, notInO, ixO, lenO, intF, absF, tupF, lstF, sIsTy, isTy, sDrop, sMut1, sMut0, getO, fAppend, fPopAt, fPop, fClear, sSeq, itemsO, sEnum, sZip, sLc, sLc2, CT.set, setsD, wipeE, sChain, sFn, sFnS, sRaise, gN, gT, gsCons, gsNil, sSl, sPart, slO, sCount, seqI, sGet2, keyD, sAppT, getT, toT, sSetIx, sNeg, enum0 D.int 0, zip_map, range_map, Turn, Fin, eqv, immS, -getO, getO_row]
              rfl
            · simp [b__law_spoilt, run, runS, runIO, startIO, endIO, startS, qS, fzAt, sSet, evA, evB, evC, evM, evAT, evBT, viewF, viewB, seeF, seeB, sVar, sC, R.bind, sCall, sCons, sNil, R.of, thenS, thenB, Out.seq, sLst, sTup, sFor, evAI, evCI, sRange1, sRange2, killS, sRet, frzI, frzA, frz1, S.d, sIfS, sBool, sTru, truD, sAnd, sOr, sNot, sIf, sAndV, sOrV, sNotV, sNotT, sOp, intO, ltO, leO, gtO, geO, addO, subO, mulO, fdivO, modO, powO, intC, CP, CD, CW, fzI, fzB, eqO, neO, isO, isN, isnotO, inO, notInO, ixO, lenO, intF, absF, tupF, lstF, sIsTy, isTy, sDrop, sMut1, sMut0, getO, fAppend, fPopAt, fPop, fClear, sSeq, itemsO, sEnum, sZip, sLc, sLc2, CT.set, setsD, wipeE, sChain, sFn, sFnS, sRaise, gN, gT, gsCons, gsNil, sSl, sPart, slO, sCount, seqI, sGet2, keyD, sAppT, getT, toT, sSetIx, sNeg, enum0 D.int 0, zip_map, range_map, Turn, Fin, eqv, immS, f0, f1, f2, f3, f4]
  have : startIO 4 (r.map .int) [.int f, .int h, .int x] = [some (.tr (some 0) (trow r)), some (.fz (.int f)), some (.fz (.int h)), some (.fz (.int x))] := rfl
  show runIO 4 b__law_spoilt (r.map .int) [.int f, .int h, .int x] = _
  unfold runIO
  rw [this, key]
  exact endIO_row _ _
theorem setIx2_eq {ev : SEnv → RO S} {fc fk : Env → RS} {ρ ρ1 : SEnv} {i n m : Nat} {s : S} {ts : List T} {l : List D} (h1 : ev ρ = .ok s ρ1) (h2 : fc (viewB ρ1) = .ok (.fz (.int (n : Int)))) (h3 : fk (viewB ρ1) = .ok (.fz (.int (m : Int)))) (h4 : subL ρ1 i n = some (ts, l)) (h5 : m < l.length) :
    sSetIx2 i ev fc fk ρ = .nx (putL ρ1 i n ts (l.set m s.d)) := by
  unfold sSetIx2
  rw [h1]
  dsimp only
  rw [h2]
  dsimp only
  rw [h3]
  dsimp only
  show (match subL ρ1 i n with | some (ts, l) => if m < l.length then Out.nx (putL ρ1 i n ts (l.set m s.d)) else .no | none => .no) = _
  rw [h4]
  dsimp only
  rw [if_pos h5]
theorem io_eq {i n c : Nat} {sem : List D → List D → Option (List D)} {fc : Env → RS} {fa : Env → R (List D)} {ρ : SEnv} {ds l l' : List D} {ts : List T} (h1 : fc (viewB ρ) = .ok (.fz (.int (c : Int)))) (h2 : fa (viewB ρ) = .ok ds) (h3 : immL ds = true ∧ ds.length + 1 = n) (h4 : subL ρ i c = some (ts, l)) (h5 : sem l ds = some l') :
    sIO i n sem fc fa ρ = .nx (putL ρ i c ts l') := by
  unfold sIO
  rw [h1]
  dsimp only
  show (match fa (viewB ρ) with | .ok ds => if immL ds = true ∧ ds.length + 1 = n then (match subL ρ i c with | some (ts, l) => (match sem l ds with | some l' => Out.nx (putL ρ i c ts l') | none => .no) | none => .no) else .no | _ => .no) = _
  rw [h2]
  dsimp only
  rw [if_pos h3, h4]
  dsimp only
  rw [h5]
def trR (rs : List (List Int)) : S := .tr none (.ls (rs.map trow))
theorem subL_rows {ρ : SEnv} {i n : Nat} {rs : List (List Int)} {r : List Int} (h : ρ[i]? = some (some (trR rs))) (hr : rs[n]? = some r) : subL ρ i n = some (rs.map trow, r.map .int) := by
  unfold subL trR at *
  rw [h]
  simp only [List.getElem?_map, hr, Option.map_some]
  unfold trow
  simp only [leaves_map, Option.map_some]
theorem putL_rows {ρ : SEnv} {i n : Nat} {rs : List (List Int)} {r : List Int} : putL ρ i n (rs.map trow) (r.map .int) = ρ.set i (some (trR (rs.set n r))) := by
  unfold putL trR
  rw [List.map_set]
  rfl
theorem T_ds_map (l : List D) : T.ds (l.map T.lf) = l := by
  induction l with
  | nil => rfl
  | cons d l ih => rw [List.map_cons]; unfold T.ds; rw [ih]; rfl
theorem trow_d (r : List Int) : (trow r).d = lstI r := by
  unfold trow T.d
  rw [T_ds_map]
theorem trows_d (rs : List (List Int)) : T.ds (rs.map trow) = rs.map fun r => lstI r := by
  induction rs with
  | nil => rfl
  | cons r rs ih => rw [List.map_cons]; unfold T.ds; rw [ih, trow_d]; rfl
theorem trR_d (rs : List (List Int)) : (trR rs).d = lrows rs := by
  unfold trR
  simp only [S.d]
  unfold T.d
  rw [trows_d]

/-! the rooms that are drawn -/
theorem drawn_mem {n : Nat} {s : Int} {ds : List Int} (h : Drawn (List.replicate n s) ds) (hl : ds.length = n) {i : Nat} (hi : i < n) : 0 ≤ ds.getD i 0 ∧ ds.getD i 0 < s := by
  have hi' : i < ds.length := by omega
  obtain ⟨z, h1, h2, h3⟩ := h.2 i ds[i] (by simp [hi'])
  rw [List.getElem?_replicate] at h1
  simp [hi] at h1
  subst h1
  simp [List.getD, hi']
  exact ⟨h2, h3⟩
theorem draws_rep (c : Int) (n : Nat) (s : Int) (h0 : 0 < s) (h1 : s < 1000000000) (hn : n ≤ 1000) : ∃ ds : List Int, sem__law_draws [.int c, .lst (List.replicate n (.int s))] = .ok (.ow (ds.map .int)) ∧ ds.length = n ∧ ∀ i, i < n → 0 ≤ ds.getD i 0 ∧ ds.getD i 0 < s := by
  obtain ⟨ds, e, hl, hd⟩ := draws_eq c (List.replicate n s) (fun x hx => by rw [(List.mem_replicate.mp hx).2]; exact h0) (fun x hx => by rw [(List.mem_replicate.mp hx).2]; exact h1) (by simp; exact hn)
  rw [List.map_replicate] at e
  rw [List.length_replicate] at hl
  exact ⟨ds, e, hl, fun i hi => drawn_mem hd hl hi⟩
theorem cell_nat (ns : List Int) (k : Nat) : sem__law_cell [.scr ns, .int (k : Int)] = .ok (.fz (.int (ns.getD k 0))) := cell_eq ns k
abbrev rE (ns : List Int) (n : Nat) (md : Int) (base : List Int) (s4 s5 s6 s7 : Option S) : SEnv := [some (.fz (.scr ns)), some (.fz (.int (n : Int))), some (.fz (.int md)), some (.fz (lstI base)), s4, s5, s6, s7, none, none, none]
def gT' : S → Option (List T)
  | .ow l => some (l.map T.lf)
  | .tr none (.ls ts) => some ts
  | _ => none
theorem getD_flat (n : Nat) (s : Int) : (List.replicate n [D.int s]).flatten = List.replicate n (.int s) := by
  induction n with
  | zero => rfl
  | succ n ih => rw [List.replicate_succ, List.flatten_cons, ih]; rfl
theorem room_turn (ns : List Int) (n : Nat) (h1 : 1 ≤ n) (h12 : n ≤ 12) (md : Int) (base : List Int) (hb : base.length = n) (hbv : ∀ i, i < n → 0 ≤ base.getD i 0 ∧ base.getD i 0 < 2) (k : Nat) (s4 : S) (ts : List T) (h4 : getT s4 = some ts) (hts : ts.length < 10) :
    ∃ r s6, IsRoom r ∧ r.length = n ∧ l__law_rooms_1 (rE ns n md base (some s4) (some (.fz (.int (k : Int)))) none none) = .nx (rE ns n md base (some (.tr none (.ls (ts ++ [trow r])))) (some (.fz (.int (k : Int)))) (some s6) none) := by
  obtain ⟨ds, e, hl, hd⟩ := draws_rep (ns.getD (3 + k) 0) n 6 (by decide) (by decide) (by omega)
  have c := cell_nat ns (3 + k)
  rw [show ((3 + k : Nat) : Int) = 3 + (k : Int) by omega] at c
  have hz : n ≤ LIM := lim_of (by omega)
  have hlt : ts.length < LIM := lim_lt (by omega)
  have tot : ∀ r : List Int, toT (.ow (r.map .int)) = trow r := fun _ => rfl
  have hc0 : ∀ x4, lcGo (.nm 10) (fun _ => .ok true) (sOp modO (sCall intF (sCons (sVar 10) sNil)) (sC (.int 3))) [some (.scr ns), some (.int (n : Int)), some (.int md), some (lstI base), x4, some (.int (k : Int)), some (lstI ds), none, none, none, none] (ds.map .int) = .ok ((ds.map fun d => d % 3).map .int) := fun x4 => by
    rw [List.map_map]
    exact lc_map (en := D.int) (fun d => D.int (d % 3)) ds (fun d _ => ⟨_, rfl, rfl, _, by simp [run, runS, runIO, startIO, endIO, startS, qS, fzAt, sSet, evA, evB, evC, evM, evAT, evBT, viewF, viewB, seeF, seeB, sVar, sC, R.bind, sCall, sCons, sNil, R.of, thenS, thenB, Out.seq, sLst, sTup, sFor, evAI, evCI, sRange1, sRange2, killS, sRet, frzI, frzA, frz1, S.d, sIfS, sBool, sTru, truD, sAnd, sOr, sNot, sIf, sAndV, sOrV, sNotV, sNotT, sOp, addO, mulO, fzI, fzB, eqO, neO, isO, isN, isnotO, inO, notInO, ixO, lenO, intF, absF, tupF, lstF, sIsTy, isTy, sDrop, sMut1, sMut0, getO, fAppend, fPopAt, fPop, fClear, sSeq, itemsO, sEnum, sZip, sLc, sLc2, CT.set, setsD, wipeE, sChain, sFn, sFnS, sRaise, gN, gT, gsCons, gsNil, sSl, sPart, slO, sCount, seqI, sGet2, keyD, sAppT, getT, toT, sSetIx, sNeg, enum0 D.int 0, zip_map, range_map, Turn, Fin, eqv, immS, tupI, natI, lstI, stD, -List.getD_eq_getElem?_getD]; rfl, rfl⟩)
  by_cases hm : 0 < md
  · refine ⟨(List.range n).map fun i => if ds.getD i 0 < 3 then base.getD i 0 else 2, .fz (lstI ds), ⟨by simp; omega, by simp; omega, ?_⟩, by simp, ?_⟩
    · rw [List.all_eq_true]
      intro m hm
      obtain ⟨i, hi, rfl⟩ := List.mem_map.mp hm
      have := hbv i (List.mem_range.mp hi)
      rw [okM_iff]
      split <;> omega
    · have hc1 : ∀ x4 x7, lcGo (.nm 8) (fun _ => .ok true) (sIf (sBool (sOp ltO (sOp ixO (sVar 6) (sVar 8)) (sC (.int 3)))) (sOp ixO (sVar 3) (sVar 8)) (sC (.int 2))) [some (.scr ns), some (.int (n : Int)), some (.int md), some (lstI base), x4, some (.int (k : Int)), some (lstI ds), x7, none, none, none] ((List.range n).map fun (i : Nat) => D.int (i : Int)) = .ok (((List.range n).map fun i => if ds.getD i 0 < 3 then base.getD i 0 else 2).map .int) := fun x4 x7 => by
        rw [List.map_map]
        refine lc_map (en := fun (i : Nat) => D.int (i : Int)) (fun i => D.int (if ds.getD i 0 < 3 then base.getD i 0 else 2)) (List.range n) (fun i hi => ?_)
        have hi' := List.mem_range.mp hi
        have a1 : L2.atI (ds.map D.int) (i : Int) = some (.int (ds.getD i 0)) := at_mapD D.int 0 (by omega)
        have a2 : L2.atI (base.map D.int) (i : Int) = some (.int (base.getD i 0)) := at_mapD D.int 0 (by omega)
        refine ⟨_, rfl, rfl, .fz (.int (if ds.getD i 0 < 3 then base.getD i 0 else 2)), ?_, rfl⟩
        by_cases h3 : ds.getD i 0 < 3 <;> simp [run, runS, runIO, startIO, endIO, startS, qS, fzAt, sSet, evA, evB, evC, evM, evAT, evBT, viewF, viewB, seeF, seeB, sVar, sC, R.bind, sCall, sCons, sNil, R.of, thenS, thenB, Out.seq, sLst, sTup, sFor, evAI, evCI, sRange1, sRange2, killS, sRet, frzI, frzA, frz1, S.d, sIfS, sBool, sTru, truD, sAnd, sOr, sNot, sIf, sAndV, sOrV, sNotV, sNotT, sOp, addO, mulO, fzI, fzB, eqO, neO, isO, isN, isnotO, inO, notInO, ixO, lenO, intF, absF, tupF, lstF, sIsTy, isTy, sDrop, sMut1, sMut0, getO, fAppend, fPopAt, fPop, fClear, sSeq, itemsO, sEnum, sZip, sLc, sLc2, CT.set, setsD, wipeE, sChain, sFn, sFnS, sRaise, gN, gT, gsCons, gsNil, sSl, sPart, slO, sCount, seqI, sGet2, keyD, sAppT, getT, toT, sSetIx, sNeg, enum0 D.int 0, zip_map, range_map, Turn, Fin, eqv, immS, tupI, natI, lstI, stD, -List.getD_eq_getElem?_getD, a1, a2, h3]
      have hz2 : ∀ r : List Int, r.length = n → (r.map D.int).length ≤ LIM := fun r hr => by simp [hr, hz]
      have hn2 : (n : Int) ≤ 1000000 := by omega
      simp [l__law_rooms_1, run, runS, runIO, startIO, endIO, startS, qS, fzAt, sSet, evA, evB, evC, evM, evAT, evBT, viewF, viewB, seeF, seeB, sVar, sC, R.bind, sCall, sCons, sNil, R.of, thenS, thenB, Out.seq, sLst, sTup, sFor, evAI, evCI, sRange1, sRange2, killS, sRet, frzI, frzA, frz1, S.d, sIfS, sBool, sTru, truD, sAnd, sOr, sNot, sIf, sAndV, sOrV, sNotV, sNotT, sOp, addO, mulO, fzI, fzB, eqO, neO, isO, isN, isnotO, inO, notInO, ixO, lenO, intF, absF, tupF, lstF, sIsTy, isTy, sDrop, sMut1, sMut0, getO, fAppend, fPopAt, fPop, fClear, sSeq, itemsO, sEnum, sZip, sLc, sLc2, CT.set, setsD, wipeE, sChain, sFn, sFnS, sRaise, gN, gT, gsCons, gsNil, sSl, sPart, slO, sCount, seqI, sGet2, keyD, sAppT, getT, toT, sSetIx, sNeg, enum0 D.int 0, zip_map, range_map, Turn, Fin, eqv, immS, tupI, natI, lstI, stD, -List.getD_eq_getElem?_getD, c, e, getD_flat, hn2, hz, show (0 : Int) ≤ n by omega, hm, -getT, h4]
      rw [hc0]
      simp [hl, hz, hm, hn2, -List.getD_eq_getElem?_getD]
      rw [hc1]
      simp [hz, -getT, h4, hlt, -List.getD_eq_getElem?_getD]
      simp [trow, toT, -List.getD_eq_getElem?_getD]
  · refine ⟨ds.map fun d => d % 3, .fz (lstI ds), ⟨by simp; omega, by simp; omega, ?_⟩, by simp [hl], ?_⟩
    · rw [List.all_eq_true]
      intro m hm
      obtain ⟨d, hd, rfl⟩ := List.mem_map.mp hm
      rw [okM_iff]
      omega
    · have hn2 : (n : Int) ≤ 1000000 := by omega
      simp [l__law_rooms_1, run, runS, runIO, startIO, endIO, startS, qS, fzAt, sSet, evA, evB, evC, evM, evAT, evBT, viewF, viewB, seeF, seeB, sVar, sC, R.bind, sCall, sCons, sNil, R.of, thenS, thenB, Out.seq, sLst, sTup, sFor, evAI, evCI, sRange1, sRange2, killS, sRet, frzI, frzA, frz1, S.d, sIfS, sBool, sTru, truD, sAnd, sOr, sNot, sIf, sAndV, sOrV, sNotV, sNotT, sOp, addO, mulO, fzI, fzB, eqO, neO, isO, isN, isnotO, inO, notInO, ixO, lenO, intF, absF, tupF, lstF, sIsTy, isTy, sDrop, sMut1, sMut0, getO, fAppend, fPopAt, fPop, fClear, sSeq, itemsO, sEnum, sZip, sLc, sLc2, CT.set, setsD, wipeE, sChain, sFn, sFnS, sRaise, gN, gT, gsCons, gsNil, sSl, sPart, slO, sCount, seqI, sGet2, keyD, sAppT, getT, toT, sSetIx, sNeg, enum0 D.int 0, zip_map, range_map, Turn, Fin, eqv, immS, tupI, natI, lstI, stD, -List.getD_eq_getElem?_getD, c, e, getD_flat, hn2, hz, show (0 : Int) ≤ n by omega, hm, -getT, h4]
      rw [hc0]
      simp [hl, hz, hm, hn2, -List.getD_eq_getElem?_getD, -getT, h4, hlt]
      simp [trow, toT, -List.getD_eq_getElem?_getD]
end O

end

section
set_option Elab.async false
set_option linter.all false
set_option maxRecDepth 100000
set_option maxHeartbeats 1000000
namespace O
open PySem PySem.Spec PyProof.Rows L2
theorem rooms_loop (ns : List Int) (n : Nat) (h1 : 1 ≤ n) (h12 : n ≤ 12) (md : Int) (base : List Int) (hb : base.length = n) (hbv : ∀ i, i < n → 0 ≤ base.getD i 0 ∧ base.getD i 0 < 2) :
    ∃ a b c, Rooms n [a, b, c] ∧ loop (gN 5) l__law_rooms_1 [5, 6, 7] [.int 0, .int 1, .int 2] (rE ns n md base (some (.ow [])) none none none) = .nx (rE ns n md base (some (trR [a, b, c])) none none none) := by
  obtain ⟨a, sa, a1, a2, a3⟩ := room_turn ns n h1 h12 md base hb hbv 0 (.ow []) [] rfl (by simp)
  obtain ⟨b, sb, b1, b2, b3⟩ := room_turn ns n h1 h12 md base hb hbv 1 (.tr none (.ls ([] ++ [trow a]))) ([] ++ [trow a]) rfl (by simp)
  obtain ⟨c, sc, c1, c2, c3⟩ := room_turn ns n h1 h12 md base hb hbv 2 (.tr none (.ls ([] ++ [trow a] ++ [trow b]))) ([] ++ [trow a] ++ [trow b]) rfl (by simp)
  refine ⟨a, b, c, fun r hr => ?_, ?_⟩
  · simp at hr
    rcases hr with rfl | rfl | rfl
    · exact ⟨a1, a2⟩
    · exact ⟨b1, b2⟩
    · exact ⟨c1, c2⟩
  · have k : ∀ (s4 : S) (k : Nat), ((rE ns n md base (some s4) none none none).set 5 (some (.fz (.int (k : Int))))) = rE ns n md base (some s4) (some (.fz (.int (k : Int)))) none none := fun _ _ => rfl
    have kk : ∀ (s4 s6 : S) (k : Nat), killS [5, 6, 7] (rE ns n md base (some s4) (some (.fz (.int (k : Int)))) (some s6) none) = rE ns n md base (some s4) none none none := fun _ _ _ => rfl
    unfold loop
    simp only [gN]
    rw [show (D.int 0) = .int ((0 : Nat) : Int) by rfl, k, a3]
    dsimp only
    rw [kk]
    unfold loop
    simp only [gN]
    rw [show (D.int 1) = .int ((1 : Nat) : Int) by rfl, k, b3]
    dsimp only
    rw [kk]
    unfold loop
    simp only [gN]
    rw [show (D.int 2) = .int ((2 : Nat) : Int) by rfl, k, c3]
    dsimp only
    rw [kk]
    rfl
theorem isRoom_set {r : List Int} (h : IsRoom r) {i : Nat} {x : Int} (hx : okM x = true) : IsRoom (r.set i x) := by
  refine ⟨by simpa using h.1, by simpa using h.2.1, ?_⟩
  rw [List.all_eq_true]
  intro m hm
  rcases List.mem_or_eq_of_mem_set hm with hm | rfl
  · exact List.all_eq_true.mp h.2.2 m hm
  · exact hx
theorem rooms_eq (ns : List Int) (n : Nat) (h1 : 1 ≤ n) (h12 : n ≤ 12) : ∃ a b c d, Rooms n [a, b, c, d] ∧ sem__law_rooms [.scr ns, .int (n : Int)] = .ok (trR [a, b, c, d]) := by
  obtain ⟨base, e, hl, hd⟩ := draws_rep (ns.getD 2 0) n 2 (by decide) (by decide) (by omega)
  have c1 : sem__law_cell [.scr ns, .int 1] = .ok (.fz (.int (ns.getD 1 0))) := cell_nat ns 1
  have c2 : sem__law_cell [.scr ns, .int 2] = .ok (.fz (.int (ns.getD 2 0))) := cell_nat ns 2
  have c6 : sem__law_cell [.scr ns, .int 6] = .ok (.fz (.int (ns.getD 6 0))) := cell_nat ns 6
  obtain ⟨a, b, c, hr, lp⟩ := rooms_loop ns n h1 h12 (ns.getD 1 0 % 3) base hl hd
  obtain ⟨a1, a2⟩ := hr a (by simp)
  obtain ⟨b1, b2⟩ := hr b (by simp)
  obtain ⟨k1, k2⟩ := hr c (by simp)
  have hz : n ≤ LIM := lim_of (by omega)
  have hh : 0 ≤ ns.getD 6 0 % (n : Int) ∧ ns.getD 6 0 % (n : Int) < n := ⟨Int.emod_nonneg _ (by omega), Int.emod_lt_of_pos _ (by omega)⟩
  generalize hq : ns.getD 6 0 % (n : Int) = q at hh
  obtain ⟨h, rfl⟩ := Int.eq_ofNat_of_zero_le hh.1
  have hlt : h < n := by omega
  have hrg : rangeD 0 3 = [.int 0, .int 1, .int 2] := rfl
  have fr : (trR [a, b, c]).d = lrows [a, b, c] := trR_d _
  have at0 : L2.atI ((lstI a) :: [lstI b, lstI c]) 0 = some (lstI a) := at_cons0 _ _
  have ixa : ixN a.length (h : Int) = some h := @ixN_nat a.length h (by omega)
  have o2 : IsRoom (a.set h 2) := isRoom_set a1 rfl
  by_cases hm : ns.getD 1 0 % 3 = 2
  · have hbh := hd h hlt
    have ob : IsRoom (b.set h (1 - base.getD h 0)) := isRoom_set b1 (by rw [okM_iff]; omega)
    refine ⟨a, b.set h (1 - base.getD h 0), c, a.set h 2, fun r hr' => ?_, ?_⟩
    · simp [-List.getD_eq_getElem?_getD] at hr'
      rcases hr' with rfl | rfl | rfl | rfl
      · exact ⟨a1, a2⟩
      · exact ⟨ob, by simp [b2]⟩
      · exact ⟨k1, k2⟩
      · exact ⟨o2, by simp [a2]⟩
    · have ab : L2.atI (base.map D.int) (h : Int) = some (.int (base.getD h 0)) := at_mapD D.int 0 (by omega)
      have sx : sSetIx2 4 (evA (sOp subO (sC (.int 1)) (sOp ixO (sVar 3) (sVar 8)))) (sC (.int 1)) (sVar 8) [some (.fz (.scr ns)), some (.fz (.int (n : Int))), some (.fz (.int (ns.getD 1 0 % 3))), some (.fz (lstI base)), some (trR [a, b, c]), none, none, none, some (.fz (.int (h : Int))), none, none] = .nx [some (.fz (.scr ns)), some (.fz (.int (n : Int))), some (.fz (.int (ns.getD 1 0 % 3))), some (.fz (lstI base)), some (trR [a, b.set h (1 - base.getD h 0), c]), none, none, none, some (.fz (.int (h : Int))), none, none] := by
        rw [setIx2_eq (i := 4) (n := 1) (m := h) (s := .fz (.int (1 - base.getD h 0))) (by simp [run, runS, runIO, startIO, endIO, startS, qS, fzAt, sSet, evA, evB, evC, evM, evAT, evBT, viewF, viewB, seeF, seeB, sVar, sC, R.bind, sCall, sCons, sNil, R.of, thenS, thenB, Out.seq, sLst, sTup, sFor, evAI, evCI, sRange1, sRange2, killS, sRet, frzI, frzA, frz1, S.d, sIfS, sBool, sTru, truD, sAnd, sOr, sNot, sIf, sAndV, sOrV, sNotV, sNotT, sOp, addO, mulO, fzI, fzB, eqO, neO, isO, isN, isnotO, inO, notInO, ixO, lenO, intF, absF, tupF, lstF, sIsTy, isTy, sDrop, sMut1, sMut0, getO, fAppend, fPopAt, fPop, fClear, sSeq, itemsO, sEnum, sZip, sLc, sLc2, CT.set, setsD, wipeE, sChain, sFn, sFnS, sRaise, gN, gT, gsCons, gsNil, sSl, sPart, slO, sCount, seqI, sGet2, keyD, sAppT, getT, toT, sSetIx, sNeg, enum0 D.int 0, zip_map, range_map, Turn, Fin, eqv, immS, tupI, natI, lstI, stD, -List.getD_eq_getElem?_getD, ab]; rfl) rfl rfl (subL_rows (rs := [a, b, c]) (r := b) rfl rfl) (by simp; omega)]
        have := @putL_rows [some (.fz (.scr ns)), some (.fz (.int (n : Int))), some (.fz (.int (ns.getD 1 0 % 3))), some (.fz (lstI base)), some (trR [a, b, c]), none, none, none, some (.fz (.int (h : Int))), none, none] 4 1 [a, b, c] (b.set h (1 - base.getD h 0))
        rw [List.map_set] at this
        rw [this]
        rfl
      simp [sem__law_rooms, b__law_rooms, run, runS, runIO, startIO, endIO, startS, qS, fzAt, sSet, evA, evB, evC, evM, evAT, evBT, viewF, viewB, seeF, seeB, sVar, sC, R.bind, sCall, sCons, sNil, R.of, thenS, thenB, Out.seq, sLst, sTup, sFor, evAI, evCI, sRange1, sRange2, killS, sRet, frzI, frzA, frz1, S.d, sIfS, sBool, sTru, truD, sAnd, sOr, sNot, sIf, sAndV, sOrV, sNotV, sNotT, sOp, addO, mulO, fzI, fzB, eqO, neO, isO, isN, isnotO, inO, notInO, ixO, lenO, intF, absF, tupF, lstF, sIsTy, isTy, sDrop, sMut1, sMut0, getO, fAppend, fPopAt, fPop, fClear, sSeq, itemsO, sEnum, sZip, sLc, sLc2, CT.set, setsD, wipeE, sChain, sFn, sFnS, sRaise, gN, gT, gsCons, gsNil, sSl, sPart, slO, sCount, seqI, sGet2, keyD, sAppT, getT, toT, sSetIx, sNeg, enum0 D.int 0, zip_map, range_map, Turn, Fin, eqv, immS, tupI, natI, lstI, stD, -List.getD_eq_getElem?_getD, c1, c2, c6, e, getD_flat, hz, show (0 : Int) ≤ n by omega, show (n : Int) ≤ 1000000 by omega, hq, hm, hrg, -range_map]
      rw [hm] at lp sx
      rw [lp]
      simp [hq, hm, c6, show 0 < n by omega, -List.getD_eq_getElem?_getD]
      rw [sx]
      simp [trR, getT, toT, T.d, T.ds, trow_d, at_cons0, ixa, getO_ow, List.map_set, lstI, -List.getD_eq_getElem?_getD]
      simp [trow, List.map_set]
  · refine ⟨a, b, c, a.set h 2, fun r hr' => ?_, ?_⟩
    · simp at hr'
      rcases hr' with rfl | rfl | rfl | rfl
      · exact ⟨a1, a2⟩
      · exact ⟨b1, b2⟩
      · exact ⟨k1, k2⟩
      · exact ⟨o2, by simp [a2]⟩
    · simp [sem__law_rooms, b__law_rooms, run, runS, runIO, startIO, endIO, startS, qS, fzAt, sSet, evA, evB, evC, evM, evAT, evBT, viewF, viewB, seeF, seeB, sVar, sC, R.bind, sCall, sCons, sNil, R.of, thenS, thenB, Out.seq, sLst, sTup, sFor, evAI, evCI, sRange1, sRange2, killS, sRet, frzI, frzA, frz1, S.d, sIfS, sBool, sTru, truD, sAnd, sOr, sNot, sIf, sAndV, sOrV, sNotV, sNotT, sOp, addO, mulO, fzI, fzB, eqO, neO, isO, isN, isnotO, inO, notInO, ixO, lenO, intF, absF, tupF, lstF, sIsTy, isTy, sDrop, sMut1, sMut0, getO, fAppend, fPopAt, fPop, fClear, sSeq, itemsO, sEnum, sZip, sLc, sLc2, CT.set, setsD, wipeE, sChain, sFn, sFnS, sRaise, gN, gT, gsCons, gsNil, sSl, sPart, slO, sCount, seqI, sGet2, keyD, sAppT, getT, toT, sSetIx, sNeg, enum0 D.int 0, zip_map, range_map, Turn, Fin, eqv, immS, tupI, natI, lstI, stD, -List.getD_eq_getElem?_getD, c1, c2, c6, e, getD_flat, hz, show (0 : Int) ≤ n by omega, show (n : Int) ≤ 1000000 by omega, hq, hm, hrg, -range_map]
      rw [lp]
      simp [hq, hm, c6, show 0 < n by omega, -List.getD_eq_getElem?_getD]
      simp [trR, getT, toT, T.d, T.ds, trow_d, at_cons0, ixa, getO_ow, List.map_set, lstI, -List.getD_eq_getElem?_getD]
      simp [trow, List.map_set]
end O

end

section
set_option Elab.async false
set_option linter.all false
set_option maxRecDepth 100000
set_option maxHeartbeats 1000000
namespace O
open PySem PySem.Spec PyProof.Rows L2
def dBad (r : List Int) : D := .tup [.str "bad", tupI r]
def dLarge (k : Nat) : D := .tup [.str "large", .int (k : Int), .int 8]
def dFine : D := .tup [.str "fine"]
theorem badP (n : Nat) (r : List Int) : (!(decide (r.length = n) && r.all okM)) = (decide (¬ (r.length = n)) || !(r.filter fun m => !okM m).isEmpty) := by
  by_cases h : r.length = n
  · by_cases h2 : r.all okM = true
    · have : r.filter (fun m => !okM m) = [] := by
        rw [List.filter_eq_nil_iff]; intro m hm; rw [List.all_eq_true.mp h2 m hm]; decide
      simp only [this, h2, h]; decide
    · have : ¬ r.filter (fun m => !okM m) = [] := by
        intro z; apply h2; rw [List.all_eq_true]; intro m hm
        have := List.filter_eq_nil_iff.mp z m hm; simpa using this
      have e : (r.filter fun m => !okM m).isEmpty = false := by
        rw [Bool.eq_false_iff]; intro z; exact this (List.isEmpty_iff.mp z)
      rw [e, Bool.eq_false_iff.mpr h2]; simp
  · simp [h]
theorem exp_loop (x : D) (rows qs : List (List Int)) (r0 : List Int) (rest : List (List Int)) (hrows : rows = r0 :: rest) (dd : D) (hq : ∀ r ∈ qs, r.length ≤ 1000) :
    loop (gN 3) l__law_expected_1 [3] (qs.map fun r => lstI r) [some (.fz x), some (.fz (lrows rows)), some (.fz dd), none, none] = (badRow r0.length qs).elim (.nx [some (.fz x), some (.fz (lrows rows)), some (.fz dd), none, none]) fun r => .rt (.fz (dBad r)) [some (.fz x), some (.fz (lrows rows)), some (.fz dd), some (.fz (lstI r)), none] := by
  subst hrows
  refine loop_findE (en := fun r => lstI r) _ (fun r => !(decide (r.length = r0.length) && r.all okM)) (fun r => .rt (.fz (dBad r)) [some (.fz x), some (.fz (lrows (r0 :: rest))), some (.fz dd), some (.fz (lstI r)), none]) qs (fun r hr => ?_)
  refine ⟨_, rfl, ?_⟩
  have hc : lcGo (.nm 4) (sBool (sOp notInO (sVar 4) (sTup (sCons (sC (.int 0)) (sCons (sC (.int 1)) (sCons (sC (.int 2)) sNil)))))) (sVar 4) [some x, some (lrows (r0 :: rest)), some dd, some (lstI r), none] (r.map .int) = .ok ((r.filter fun m => !okM m).map .int) :=
    lc_eq (en := D.int) (fun m => !okM m) (fun m => D.int m) r (fun m _ => ⟨_, rfl, by
      have e := inB_ints m [0, 1, 2]
      rw [in012] at e
      simp at e
      simp [run, runS, runIO, startIO, endIO, startS, qS, fzAt, sSet, evA, evB, evC, evM, evAT, evBT, viewF, viewB, seeF, seeB, sVar, sC, R.bind, sCall, sCons, sNil, R.of, thenS, thenB, Out.seq, sLst, sTup, sFor, evAI, evCI, sRange1, sRange2, killS, sRet, frzI, frzA, frz1, S.d, sIfS, sBool, sTru, truD, sAnd, sOr, sNot, sIf, sAndV, sOrV, sNotV, sNotT, sOp, addO, mulO, fzI, fzB, eqO, neO, isO, isN, isnotO, inO, notInO, ixO, lenO, intF, absF, tupF, lstF, sIsTy, isTy, sDrop, sMut1, sMut0, getO, fAppend, fPopAt, fPop, fClear, sSeq, itemsO, sEnum, sZip, sLc, sLc2, CT.set, setsD, wipeE, sChain, sFn, sFnS, sRaise, gN, gT, gsCons, gsNil, sSl, sPart, slO, sCount, seqI, sGet2, keyD, sAppT, getT, toT, sSetIx, sNeg, enum0 D.int 0, zip_map, range_map, Turn, Fin, eqv, immS, tupI, natI, lstI, stD, -List.getD_eq_getElem?_getD, e], fun _ => ⟨_, rfl, rfl⟩⟩)
  have hlen : (r.filter fun m => !okM m).length ≤ LIM := lim_of (Nat.le_trans (List.length_filter_le ..) (by have := hq r hr; omega))
  rw [badP]
  generalize r.filter (fun m => !okM m) = fx at hc hlen
  have a0 : L2.atI ((r0 :: rest).map fun r => lstI r) 0 = some (lstI r0) := at_cons0 _ _
  simp at a0 hc
  constructor
  · intro h
    simp at h
    obtain ⟨hA, hB⟩ := h
    refine ⟨[some (.fz x), some (.fz (lrows (r0 :: rest))), some (.fz dd), some (.fz (lstI r)), none], ?_, rfl⟩
    simp [l__law_expected_1, run, runS, runIO, startIO, endIO, startS, qS, fzAt, sSet, evA, evB, evC, evM, evAT, evBT, viewF, viewB, seeF, seeB, sVar, sC, R.bind, sCall, sCons, sNil, R.of, thenS, thenB, Out.seq, sLst, sTup, sFor, evAI, evCI, sRange1, sRange2, killS, sRet, frzI, frzA, frz1, S.d, sIfS, sBool, sTru, truD, sAnd, sOr, sNot, sIf, sAndV, sOrV, sNotV, sNotT, sOp, addO, mulO, fzI, fzB, eqO, neO, isO, isN, isnotO, inO, notInO, ixO, lenO, intF, absF, tupF, lstF, sIsTy, isTy, sDrop, sMut1, sMut0, getO, fAppend, fPopAt, fPop, fClear, sSeq, itemsO, sEnum, sZip, sLc, sLc2, CT.set, setsD, wipeE, sChain, sFn, sFnS, sRaise, gN, gT, gsCons, gsNil, sSl, sPart, slO, sCount, seqI, sGet2, keyD, sAppT, getT, toT, sSetIx, sNeg, enum0 D.int 0, zip_map, range_map, Turn, Fin, eqv, immS, tupI, natI, lstI, stD, -List.getD_eq_getElem?_getD, at_cons0, hA]
    rw [hc]
    simp [hB]
  · intro h
    refine ⟨?_, trivial⟩
    by_cases hA : r.length = r0.length
    · simp [hA] at h
      simp [l__law_expected_1, run, runS, runIO, startIO, endIO, startS, qS, fzAt, sSet, evA, evB, evC, evM, evAT, evBT, viewF, viewB, seeF, seeB, sVar, sC, R.bind, sCall, sCons, sNil, R.of, thenS, thenB, Out.seq, sLst, sTup, sFor, evAI, evCI, sRange1, sRange2, killS, sRet, frzI, frzA, frz1, S.d, sIfS, sBool, sTru, truD, sAnd, sOr, sNot, sIf, sAndV, sOrV, sNotV, sNotT, sOp, addO, mulO, fzI, fzB, eqO, neO, isO, isN, isnotO, inO, notInO, ixO, lenO, intF, absF, tupF, lstF, sIsTy, isTy, sDrop, sMut1, sMut0, getO, fAppend, fPopAt, fPop, fClear, sSeq, itemsO, sEnum, sZip, sLc, sLc2, CT.set, setsD, wipeE, sChain, sFn, sFnS, sRaise, gN, gT, gsCons, gsNil, sSl, sPart, slO, sCount, seqI, sGet2, keyD, sAppT, getT, toT, sSetIx, sNeg, enum0 D.int 0, zip_map, range_map, Turn, Fin, eqv, immS, tupI, natI, lstI, stD, -List.getD_eq_getElem?_getD, at_cons0, hA]
      rw [hc]
      simp [hlen, h, dBad]
    · simp [l__law_expected_1, run, runS, runIO, startIO, endIO, startS, qS, fzAt, sSet, evA, evB, evC, evM, evAT, evBT, viewF, viewB, seeF, seeB, sVar, sC, R.bind, sCall, sCons, sNil, R.of, thenS, thenB, Out.seq, sLst, sTup, sFor, evAI, evCI, sRange1, sRange2, killS, sRet, frzI, frzA, frz1, S.d, sIfS, sBool, sTru, truD, sAnd, sOr, sNot, sIf, sAndV, sOrV, sNotV, sNotT, sOp, addO, mulO, fzI, fzB, eqO, neO, isO, isN, isnotO, inO, notInO, ixO, lenO, intF, absF, tupF, lstF, sIsTy, isTy, sDrop, sMut1, sMut0, getO, fAppend, fPopAt, fPop, fClear, sSeq, itemsO, sEnum, sZip, sLc, sLc2, CT.set, setsD, wipeE, sChain, sFn, sFnS, sRaise, gN, gT, gsCons, gsNil, sSl, sPart, slO, sCount, seqI, sGet2, keyD, sAppT, getT, toT, sSetIx, sNeg, enum0 D.int 0, zip_map, range_map, Turn, Fin, eqv, immS, tupI, natI, lstI, stD, -List.getD_eq_getElem?_getD, at_cons0, show ¬ (r.length : Int) = r0.length by omega, dBad]
def expD (big : Bool) (qs : List (List Int)) (r0 : List Int) : D := if ¬ (1 ≤ r0.length ∧ r0.length ≤ 12) then dBad r0 else match badRow r0.length qs with
  | some r => dBad r
  | none => if big = true ∧ 8 < frees r0 then dLarge (frees r0) else dFine
abbrev dctE : D := .dct [(.inr "free", .int 1), (.inr "states", .int 1), (.inr "within", .int 2)]
theorem exp_eq (x : Str) (k : Nat) (hx : (getK [(.inr "free", .int 1), (.inr "states", .int 1), (.inr "within", .int 2)] (.inr x)).getD (D.int 3) = .int (k : Int)) (big : Bool) (hs : shp 9 (.str x) = true) (hb : decide (x = "states") = big) (rows : List (List Int)) (r0 : List Int) (rest : List (List Int)) (hrows : rows = r0 :: rest) (hq : ∀ r ∈ rows, r.length ≤ 1000)
    (hk : ∀ l : List D, l.length = rows.length → cutD l none (some (k : Int)) = l.take k) : sem__law_expected [.str x, lrows rows] = .ok (.fz (expD big (rows.take k) r0)) := by
  have hl := exp_loop (.str x) rows (rows.take k) r0 rest hrows dctE (fun r hr => hq r (List.mem_of_mem_take hr))
  subst hrows
  have h0 := hq r0 (by simp)
  have hcut := hk ((r0 :: rest).map fun r => lstI r) (by simp)
  rw [← List.map_take] at hcut
  simp at hcut hl hx
  unfold expD
  by_cases hA : r0.length < 1
  · rw [if_pos (by omega)]
    simp [sem__law_expected, b__law_expected, run, runS, runIO, startIO, endIO, startS, qS, fzAt, sSet, evA, evB, evC, evM, evAT, evBT, viewF, viewB, seeF, seeB, sVar, sC, R.bind, sCall, sCons, sNil, R.of, thenS, thenB, Out.seq, sLst, sTup, sFor, evAI, evCI, sRange1, sRange2, killS, sRet, frzI, frzA, frz1, S.d, sIfS, sBool, sTru, truD, sAnd, sOr, sNot, sIf, sAndV, sOrV, sNotV, sNotT, sOp, addO, mulO, fzI, fzB, eqO, neO, isO, isN, isnotO, inO, notInO, ixO, lenO, intF, absF, tupF, lstF, sIsTy, isTy, sDrop, sMut1, sMut0, getO, fAppend, fPopAt, fPop, fClear, sSeq, itemsO, sEnum, sZip, sLc, sLc2, CT.set, setsD, wipeE, sChain, sFn, sFnS, sRaise, gN, gT, gsCons, gsNil, sSl, sPart, slO, sCount, seqI, sGet2, keyD, sAppT, getT, toT, sSetIx, sNeg, enum0 D.int 0, zip_map, range_map, Turn, Fin, eqv, immS, tupI, natI, lstI, stD, -List.getD_eq_getElem?_getD, at_cons0, show (r0.length : Int) < 1 by omega, dBad]
  · by_cases hB : 12 < r0.length
    · rw [if_pos (by omega)]
      simp [sem__law_expected, b__law_expected, run, runS, runIO, startIO, endIO, startS, qS, fzAt, sSet, evA, evB, evC, evM, evAT, evBT, viewF, viewB, seeF, seeB, sVar, sC, R.bind, sCall, sCons, sNil, R.of, thenS, thenB, Out.seq, sLst, sTup, sFor, evAI, evCI, sRange1, sRange2, killS, sRet, frzI, frzA, frz1, S.d, sIfS, sBool, sTru, truD, sAnd, sOr, sNot, sIf, sAndV, sOrV, sNotV, sNotT, sOp, addO, mulO, fzI, fzB, eqO, neO, isO, isN, isnotO, inO, notInO, ixO, lenO, intF, absF, tupF, lstF, sIsTy, isTy, sDrop, sMut1, sMut0, getO, fAppend, fPopAt, fPop, fClear, sSeq, itemsO, sEnum, sZip, sLc, sLc2, CT.set, setsD, wipeE, sChain, sFn, sFnS, sRaise, gN, gT, gsCons, gsNil, sSl, sPart, slO, sCount, seqI, sGet2, keyD, sAppT, getT, toT, sSetIx, sNeg, enum0 D.int 0, zip_map, range_map, Turn, Fin, eqv, immS, tupI, natI, lstI, stD, -List.getD_eq_getElem?_getD, at_cons0, show ¬ (r0.length : Int) < 1 by omega, show (12 : Int) < r0.length by omega, dBad]
    · rw [if_neg (by omega)]
      have hs2 : shp 9 (.str "states") = true := by decide +kernel
      cases hbr : badRow r0.length ((r0 :: rest).take k) with
      | some r =>
        rw [hbr] at hl
        simp [sem__law_expected, b__law_expected, run, runS, runIO, startIO, endIO, startS, qS, fzAt, sSet, evA, evB, evC, evM, evAT, evBT, viewF, viewB, seeF, seeB, sVar, sC, R.bind, sCall, sCons, sNil, R.of, thenS, thenB, Out.seq, sLst, sTup, sFor, evAI, evCI, sRange1, sRange2, killS, sRet, frzI, frzA, frz1, S.d, sIfS, sBool, sTru, truD, sAnd, sOr, sNot, sIf, sAndV, sOrV, sNotV, sNotT, sOp, addO, mulO, fzI, fzB, eqO, neO, isO, isN, isnotO, inO, notInO, ixO, lenO, intF, absF, tupF, lstF, sIsTy, isTy, sDrop, sMut1, sMut0, getO, fAppend, fPopAt, fPop, fClear, sSeq, itemsO, sEnum, sZip, sLc, sLc2, CT.set, setsD, wipeE, sChain, sFn, sFnS, sRaise, gN, gT, gsCons, gsNil, sSl, sPart, slO, sCount, seqI, sGet2, keyD, sAppT, getT, toT, sSetIx, sNeg, enum0 D.int 0, zip_map, range_map, Turn, Fin, eqv, immS, tupI, natI, lstI, stD, -List.getD_eq_getElem?_getD, at_cons0, show ¬ (r0.length : Int) < 1 by omega, show ¬ (12 : Int) < r0.length by omega, hx, hcut]
        rw [hl]
        simp
      | none =>
        rw [hbr] at hl
        simp [sem__law_expected, b__law_expected, run, runS, runIO, startIO, endIO, startS, qS, fzAt, sSet, evA, evB, evC, evM, evAT, evBT, viewF, viewB, seeF, seeB, sVar, sC, R.bind, sCall, sCons, sNil, R.of, thenS, thenB, Out.seq, sLst, sTup, sFor, evAI, evCI, sRange1, sRange2, killS, sRet, frzI, frzA, frz1, S.d, sIfS, sBool, sTru, truD, sAnd, sOr, sNot, sIf, sAndV, sOrV, sNotV, sNotT, sOp, addO, mulO, fzI, fzB, eqO, neO, isO, isN, isnotO, inO, notInO, ixO, lenO, intF, absF, tupF, lstF, sIsTy, isTy, sDrop, sMut1, sMut0, getO, fAppend, fPopAt, fPop, fClear, sSeq, itemsO, sEnum, sZip, sLc, sLc2, CT.set, setsD, wipeE, sChain, sFn, sFnS, sRaise, gN, gT, gsCons, gsNil, sSl, sPart, slO, sCount, seqI, sGet2, keyD, sAppT, getT, toT, sSetIx, sNeg, enum0 D.int 0, zip_map, range_map, Turn, Fin, eqv, immS, tupI, natI, lstI, stD, -List.getD_eq_getElem?_getD, at_cons0, show ¬ (r0.length : Int) < 1 by omega, show ¬ (12 : Int) < r0.length by omega, hx, hcut]
        rw [hl]
        unfold frees
        cases big with
        | false => simp [hs, hs2, hb, fzB, dFine]
        | true =>
          by_cases h8 : 8 < r0.count 2
          · simp [hs, hs2, hb, fzB, h8, show (8 : Int) < (r0.count 2 : Nat) by omega, dLarge, intsD_ints, at_cons0]
          · simp [hs, hs2, hb, fzB, h8, show ¬ (8 : Int) < (r0.count 2 : Nat) by omega, dFine, intsD_ints, at_cons0]
end O

end

section
set_option Elab.async false
set_option linter.all false
set_option maxRecDepth 100000
set_option maxHeartbeats 1000000
namespace O
open PySem PySem.Spec PyProof.Rows L2
theorem nox_ints (l : List Int) : noxL (l.map .int) = true := by
  induction l with
  | nil => rfl
  | cons i l ih => rw [List.map_cons]; unfold noxL; rw [ih]; rfl
/-- what a call comes to, told by the law -/
def outD : RS → D
  | .ok _ => dFine
  | .ex _ [(_, .tup l)] => .tup [.str "bad", .tup l]
  | .ex _ [(_, k), (_, m)] => .tup [.str "large", k, m]
  | _ => .non
theorem s1 : sub "BadRoom" "BadRoom" = some true := by decide +kernel
theorem s2 : sub "BadRoom" "BadArgument" = some true := by decide +kernel
theorem s3 : sub "BadRoom" "OldNewsError" = some true := by decide +kernel
theorem s4 : sub "TooLarge" "BadRoom" = some false := by decide +kernel
theorem s5 : sub "TooLarge" "TooLarge" = some true := by decide +kernel
theorem s6 : sub "TooLarge" "BadArgument" = some false := by decide +kernel
theorem s7 : sub "TooLarge" "OldNewsError" = some true := by decide +kernel
theorem lk1 (d : D) : List.lookup ("row" : Str) [("row", d)] = some d := by simp [List.lookup]
theorem lk2 (d e : D) : List.lookup ("count" : Str) [("count", d), ("limit", e)] = some d := by simp [List.lookup]
theorem lk3 (d e : D) : List.lookup ("limit" : Str) [("count", d), ("limit", e)] = some e := by
  have : (("limit" : Str) == "count") = false := by decide +kernel
  simp [List.lookup, this]
/-- how a call may end -/
inductive Ends' : RS → Prop
  | ok (s : S) : Ends' (.ok s)
  | bad (r : List Int) : Ends' (exRoom r)
  | large (k m : Int) : Ends' (.ex "TooLarge" [("count", .int k), ("limit", .int m)])
theorem out_free {rows : List (List Int)} {a : List Int} {rest : List (List Int)} (h : rows = a :: rest) {res : RS} (e : sem_free_houses [lstI a] = res) (he : Ends' res) : sem__law_outcome [.str "free", lrows rows] = .ok (.fz (outD res)) := by
  subst h
  have q1 : shp 9 (.str "free") = true := by decide +kernel
  cases he with
  | ok s => simp [sem__law_outcome, b__law_outcome, run, runS, runIO, startIO, endIO, startS, qS, fzAt, sSet, evA, evB, evC, evM, evAT, evBT, viewF, viewB, seeF, seeB, sVar, sC, R.bind, sCall, sCons, sNil, R.of, thenS, thenB, Out.seq, sLst, sTup, sFor, evAI, evCI, sRange1, sRange2, killS, sRet, frzI, frzA, frz1, S.d, sIfS, sBool, sTru, truD, sAnd, sOr, sNot, sIf, sAndV, sOrV, sNotV, sNotT, sOp, addO, mulO, fzI, fzB, eqO, neO, isO, isN, isnotO, inO, notInO, ixO, lenO, intF, absF, tupF, lstF, sIsTy, isTy, sDrop, sMut1, sMut0, getO, fAppend, fPopAt, fPop, fClear, sSeq, itemsO, sEnum, sZip, sLc, sLc2, CT.set, setsD, wipeE, sChain, sFn, sFnS, sRaise, gN, gT, gsCons, gsNil, sSl, sPart, slO, sCount, seqI, sGet2, keyD, sAppT, getT, toT, sSetIx, sNeg, enum0 D.int 0, zip_map, range_map, Turn, Fin, eqv, immS, tupI, natI, lstI, stD, -List.getD_eq_getElem?_getD, sTry, q1, at_cons0, e, outD, dFine]
  | bad r => simp [sem__law_outcome, b__law_outcome, run, runS, runIO, startIO, endIO, startS, qS, fzAt, sSet, evA, evB, evC, evM, evAT, evBT, viewF, viewB, seeF, seeB, sVar, sC, R.bind, sCall, sCons, sNil, R.of, thenS, thenB, Out.seq, sLst, sTup, sFor, evAI, evCI, sRange1, sRange2, killS, sRet, frzI, frzA, frz1, S.d, sIfS, sBool, sTru, truD, sAnd, sOr, sNot, sIf, sAndV, sOrV, sNotV, sNotT, sOp, addO, mulO, fzI, fzB, eqO, neO, isO, isN, isnotO, inO, notInO, ixO, lenO, intF, absF, tupF, lstF, sIsTy, isTy, sDrop, sMut1, sMut0, getO, fAppend, fPopAt, fPop, fClear, sSeq, itemsO, sEnum, sZip, sLc, sLc2, CT.set, setsD, wipeE, sChain, sFn, sFnS, sRaise, gN, gT, gsCons, gsNil, sSl, sPart, slO, sCount, seqI, sGet2, keyD, sAppT, getT, toT, sSetIx, sNeg, enum0 D.int 0, zip_map, range_map, Turn, Fin, eqv, immS, tupI, natI, lstI, stD, -List.getD_eq_getElem?_getD, sTry, q1, at_cons0, e, outD, handle, outS, s1, s2, s3, sXis, sXf, lk1, noxS, nox, noxL, nox_ints]
  | large k m => simp [sem__law_outcome, b__law_outcome, run, runS, runIO, startIO, endIO, startS, qS, fzAt, sSet, evA, evB, evC, evM, evAT, evBT, viewF, viewB, seeF, seeB, sVar, sC, R.bind, sCall, sCons, sNil, R.of, thenS, thenB, Out.seq, sLst, sTup, sFor, evAI, evCI, sRange1, sRange2, killS, sRet, frzI, frzA, frz1, S.d, sIfS, sBool, sTru, truD, sAnd, sOr, sNot, sIf, sAndV, sOrV, sNotV, sNotT, sOp, addO, mulO, fzI, fzB, eqO, neO, isO, isN, isnotO, inO, notInO, ixO, lenO, intF, absF, tupF, lstF, sIsTy, isTy, sDrop, sMut1, sMut0, getO, fAppend, fPopAt, fPop, fClear, sSeq, itemsO, sEnum, sZip, sLc, sLc2, CT.set, setsD, wipeE, sChain, sFn, sFnS, sRaise, gN, gT, gsCons, gsNil, sSl, sPart, slO, sCount, seqI, sGet2, keyD, sAppT, getT, toT, sSetIx, sNeg, enum0 D.int 0, zip_map, range_map, Turn, Fin, eqv, immS, tupI, natI, lstI, stD, -List.getD_eq_getElem?_getD, sTry, q1, at_cons0, e, outD, handle, outS, s4, s5, s6, s7, sXis, sXf, lk2, lk3, noxS, nox, noxL]
theorem at_cons2 {α : Type} (x y z : α) (l : List α) : L2.atI (x :: y :: z :: l) 2 = some z := by
  unfold L2.atI
  rw [show (2 : Int) = ((2 : Nat) : Int) by rfl, ixN_nat (by simp)]
  rfl
theorem q_free : shp 9 (.str "free") = true := by decide +kernel
theorem q_states : shp 9 (.str "states") = true := by decide +kernel
theorem n_states_free : ¬ (("states" : Str) = "free") := by decide +kernel
theorem q_within : shp 9 (.str "within") = true := by decide +kernel
theorem n_within_free : ¬ (("within" : Str) = "free") := by decide +kernel
theorem n_within_states : ¬ (("within" : Str) = "states") := by decide +kernel
theorem q_meet : shp 9 (.str "meet") = true := by decide +kernel
theorem n_meet_free : ¬ (("meet" : Str) = "free") := by decide +kernel
theorem n_meet_states : ¬ (("meet" : Str) = "states") := by decide +kernel
theorem n_meet_within : ¬ (("meet" : Str) = "within") := by decide +kernel
theorem q_join : shp 9 (.str "join") = true := by decide +kernel
theorem n_join_free : ¬ (("join" : Str) = "free") := by decide +kernel
theorem n_join_states : ¬ (("join" : Str) = "states") := by decide +kernel
theorem n_join_within : ¬ (("join" : Str) = "within") := by decide +kernel
theorem n_join_meet : ¬ (("join" : Str) = "meet") := by decide +kernel
theorem out_states {rows : List (List Int)} {a : List Int} {rest : List (List Int)} (h : rows = a :: rest) {res : RS} (e : sem_states_of [lstI a] = res) (he : Ends' res) : sem__law_outcome [.str "states", lrows rows] = .ok (.fz (outD res)) := by
  subst h
  cases he with
  | ok s => simp [sem__law_outcome, b__law_outcome, run, runS, runIO, startIO, endIO, startS, qS, fzAt, sSet, evA, evB, evC, evM, evAT, evBT, viewF, viewB, seeF, seeB, sVar, sC, R.bind, sCall, sCons, sNil, R.of, thenS, thenB, Out.seq, sLst, sTup, sFor, evAI, evCI, sRange1, sRange2, killS, sRet, frzI, frzA, frz1, S.d, sIfS, sBool, sTru, truD, sAnd, sOr, sNot, sIf, sAndV, sOrV, sNotV, sNotT, sOp, addO, mulO, fzI, fzB, eqO, neO, isO, isN, isnotO, inO, notInO, ixO, lenO, intF, absF, tupF, lstF, sIsTy, isTy, sDrop, sMut1, sMut0, getO, fAppend, fPopAt, fPop, fClear, sSeq, itemsO, sEnum, sZip, sLc, sLc2, CT.set, setsD, wipeE, sChain, sFn, sFnS, sRaise, gN, gT, gsCons, gsNil, sSl, sPart, slO, sCount, seqI, sGet2, keyD, sAppT, getT, toT, sSetIx, sNeg, enum0 D.int 0, zip_map, range_map, Turn, Fin, eqv, immS, tupI, natI, lstI, stD, -List.getD_eq_getElem?_getD, sTry, q_free, q_states, n_states_free, at_cons0, at_cons1, at_cons2, e, outD, dFine]
  | bad r => simp [sem__law_outcome, b__law_outcome, run, runS, runIO, startIO, endIO, startS, qS, fzAt, sSet, evA, evB, evC, evM, evAT, evBT, viewF, viewB, seeF, seeB, sVar, sC, R.bind, sCall, sCons, sNil, R.of, thenS, thenB, Out.seq, sLst, sTup, sFor, evAI, evCI, sRange1, sRange2, killS, sRet, frzI, frzA, frz1, S.d, sIfS, sBool, sTru, truD, sAnd, sOr, sNot, sIf, sAndV, sOrV, sNotV, sNotT, sOp, addO, mulO, fzI, fzB, eqO, neO, isO, isN, isnotO, inO, notInO, ixO, lenO, intF, absF, tupF, lstF, sIsTy, isTy, sDrop, sMut1, sMut0, getO, fAppend, fPopAt, fPop, fClear, sSeq, itemsO, sEnum, sZip, sLc, sLc2, CT.set, setsD, wipeE, sChain, sFn, sFnS, sRaise, gN, gT, gsCons, gsNil, sSl, sPart, slO, sCount, seqI, sGet2, keyD, sAppT, getT, toT, sSetIx, sNeg, enum0 D.int 0, zip_map, range_map, Turn, Fin, eqv, immS, tupI, natI, lstI, stD, -List.getD_eq_getElem?_getD, sTry, q_free, q_states, n_states_free, at_cons0, at_cons1, at_cons2, e, outD, handle, outS, s1, s2, s3, sXis, sXf, lk1, noxS, nox, noxL, nox_ints]
  | large k m => simp [sem__law_outcome, b__law_outcome, run, runS, runIO, startIO, endIO, startS, qS, fzAt, sSet, evA, evB, evC, evM, evAT, evBT, viewF, viewB, seeF, seeB, sVar, sC, R.bind, sCall, sCons, sNil, R.of, thenS, thenB, Out.seq, sLst, sTup, sFor, evAI, evCI, sRange1, sRange2, killS, sRet, frzI, frzA, frz1, S.d, sIfS, sBool, sTru, truD, sAnd, sOr, sNot, sIf, sAndV, sOrV, sNotV, sNotT, sOp, addO, mulO, fzI, fzB, eqO, neO, isO, isN, isnotO, inO, notInO, ixO, lenO, intF, absF, tupF, lstF, sIsTy, isTy, sDrop, sMut1, sMut0, getO, fAppend, fPopAt, fPop, fClear, sSeq, itemsO, sEnum, sZip, sLc, sLc2, CT.set, setsD, wipeE, sChain, sFn, sFnS, sRaise, gN, gT, gsCons, gsNil, sSl, sPart, slO, sCount, seqI, sGet2, keyD, sAppT, getT, toT, sSetIx, sNeg, enum0 D.int 0, zip_map, range_map, Turn, Fin, eqv, immS, tupI, natI, lstI, stD, -List.getD_eq_getElem?_getD, sTry, q_free, q_states, n_states_free, at_cons0, at_cons1, at_cons2, e, outD, handle, outS, s4, s5, s6, s7, sXis, sXf, lk2, lk3, noxS, nox, noxL]
theorem out_within {rows : List (List Int)} {a b : List Int} {rest : List (List Int)} (h : rows = a :: b :: rest) {res : RS} (e : sem_lies_within [lstI a, lstI b] = res) (he : Ends' res) : sem__law_outcome [.str "within", lrows rows] = .ok (.fz (outD res)) := by
  subst h
  cases he with
  | ok s => simp [sem__law_outcome, b__law_outcome, run, runS, runIO, startIO, endIO, startS, qS, fzAt, sSet, evA, evB, evC, evM, evAT, evBT, viewF, viewB, seeF, seeB, sVar, sC, R.bind, sCall, sCons, sNil, R.of, thenS, thenB, Out.seq, sLst, sTup, sFor, evAI, evCI, sRange1, sRange2, killS, sRet, frzI, frzA, frz1, S.d, sIfS, sBool, sTru, truD, sAnd, sOr, sNot, sIf, sAndV, sOrV, sNotV, sNotT, sOp, addO, mulO, fzI, fzB, eqO, neO, isO, isN, isnotO, inO, notInO, ixO, lenO, intF, absF, tupF, lstF, sIsTy, isTy, sDrop, sMut1, sMut0, getO, fAppend, fPopAt, fPop, fClear, sSeq, itemsO, sEnum, sZip, sLc, sLc2, CT.set, setsD, wipeE, sChain, sFn, sFnS, sRaise, gN, gT, gsCons, gsNil, sSl, sPart, slO, sCount, seqI, sGet2, keyD, sAppT, getT, toT, sSetIx, sNeg, enum0 D.int 0, zip_map, range_map, Turn, Fin, eqv, immS, tupI, natI, lstI, stD, -List.getD_eq_getElem?_getD, sTry, q_free, q_states, q_within, n_within_free, n_within_states, at_cons0, at_cons1, at_cons2, e, outD, dFine]
  | bad r => simp [sem__law_outcome, b__law_outcome, run, runS, runIO, startIO, endIO, startS, qS, fzAt, sSet, evA, evB, evC, evM, evAT, evBT, viewF, viewB, seeF, seeB, sVar, sC, R.bind, sCall, sCons, sNil, R.of, thenS, thenB, Out.seq, sLst, sTup, sFor, evAI, evCI, sRange1, sRange2, killS, sRet, frzI, frzA, frz1, S.d, sIfS, sBool, sTru, truD, sAnd, sOr, sNot, sIf, sAndV, sOrV, sNotV, sNotT, sOp, addO, mulO, fzI, fzB, eqO, neO, isO, isN, isnotO, inO, notInO, ixO, lenO, intF, absF, tupF, lstF, sIsTy, isTy, sDrop, sMut1, sMut0, getO, fAppend, fPopAt, fPop, fClear, sSeq, itemsO, sEnum, sZip, sLc, sLc2, CT.set, setsD, wipeE, sChain, sFn, sFnS, sRaise, gN, gT, gsCons, gsNil, sSl, sPart, slO, sCount, seqI, sGet2, keyD, sAppT, getT, toT, sSetIx, sNeg, enum0 D.int 0, zip_map, range_map, Turn, Fin, eqv, immS, tupI, natI, lstI, stD, -List.getD_eq_getElem?_getD, sTry, q_free, q_states, q_within, n_within_free, n_within_states, at_cons0, at_cons1, at_cons2, e, outD, handle, outS, s1, s2, s3, sXis, sXf, lk1, noxS, nox, noxL, nox_ints]
  | large k m => simp [sem__law_outcome, b__law_outcome, run, runS, runIO, startIO, endIO, startS, qS, fzAt, sSet, evA, evB, evC, evM, evAT, evBT, viewF, viewB, seeF, seeB, sVar, sC, R.bind, sCall, sCons, sNil, R.of, thenS, thenB, Out.seq, sLst, sTup, sFor, evAI, evCI, sRange1, sRange2, killS, sRet, frzI, frzA, frz1, S.d, sIfS, sBool, sTru, truD, sAnd, sOr, sNot, sIf, sAndV, sOrV, sNotV, sNotT, sOp, addO, mulO, fzI, fzB, eqO, neO, isO, isN, isnotO, inO, notInO, ixO, lenO, intF, absF, tupF, lstF, sIsTy, isTy, sDrop, sMut1, sMut0, getO, fAppend, fPopAt, fPop, fClear, sSeq, itemsO, sEnum, sZip, sLc, sLc2, CT.set, setsD, wipeE, sChain, sFn, sFnS, sRaise, gN, gT, gsCons, gsNil, sSl, sPart, slO, sCount, seqI, sGet2, keyD, sAppT, getT, toT, sSetIx, sNeg, enum0 D.int 0, zip_map, range_map, Turn, Fin, eqv, immS, tupI, natI, lstI, stD, -List.getD_eq_getElem?_getD, sTry, q_free, q_states, q_within, n_within_free, n_within_states, at_cons0, at_cons1, at_cons2, e, outD, handle, outS, s4, s5, s6, s7, sXis, sXf, lk2, lk3, noxS, nox, noxL]
theorem out_meet {rows : List (List Int)} {a b c : List Int} {rest : List (List Int)} (h : rows = a :: b :: c :: rest) {res : RS} (e : sem_meet [lstI a, lstI b, lstI c] = res) (he : Ends' res) : sem__law_outcome [.str "meet", lrows rows] = .ok (.fz (outD res)) := by
  subst h
  cases he with
  | ok s => simp [sem__law_outcome, b__law_outcome, run, runS, runIO, startIO, endIO, startS, qS, fzAt, sSet, evA, evB, evC, evM, evAT, evBT, viewF, viewB, seeF, seeB, sVar, sC, R.bind, sCall, sCons, sNil, R.of, thenS, thenB, Out.seq, sLst, sTup, sFor, evAI, evCI, sRange1, sRange2, killS, sRet, frzI, frzA, frz1, S.d, sIfS, sBool, sTru, truD, sAnd, sOr, sNot, sIf, sAndV, sOrV, sNotV, sNotT, sOp, addO, mulO, fzI, fzB, eqO, neO, isO, isN, isnotO, inO, notInO, ixO, lenO, intF, absF, tupF, lstF, sIsTy, isTy, sDrop, sMut1, sMut0, getO, fAppend, fPopAt, fPop, fClear, sSeq, itemsO, sEnum, sZip, sLc, sLc2, CT.set, setsD, wipeE, sChain, sFn, sFnS, sRaise, gN, gT, gsCons, gsNil, sSl, sPart, slO, sCount, seqI, sGet2, keyD, sAppT, getT, toT, sSetIx, sNeg, enum0 D.int 0, zip_map, range_map, Turn, Fin, eqv, immS, tupI, natI, lstI, stD, -List.getD_eq_getElem?_getD, sTry, q_free, q_states, q_within, q_meet, n_meet_free, n_meet_states, n_meet_within, at_cons0, at_cons1, at_cons2, e, outD, dFine]
  | bad r => simp [sem__law_outcome, b__law_outcome, run, runS, runIO, startIO, endIO, startS, qS, fzAt, sSet, evA, evB, evC, evM, evAT, evBT, viewF, viewB, seeF, seeB, sVar, sC, R.bind, sCall, sCons, sNil, R.of, thenS, thenB, Out.seq, sLst, sTup, sFor, evAI, evCI, sRange1, sRange2, killS, sRet, frzI, frzA, frz1, S.d, sIfS, sBool, sTru, truD, sAnd, sOr, sNot, sIf, sAndV, sOrV, sNotV, sNotT, sOp, addO, mulO, fzI, fzB, eqO, neO, isO, isN, isnotO, inO, notInO, ixO, lenO, intF, absF, tupF, lstF, sIsTy, isTy, sDrop, sMut1, sMut0, getO, fAppend, fPopAt, fPop, fClear, sSeq, itemsO, sEnum, sZip, sLc, sLc2, CT.set, setsD, wipeE, sChain, sFn, sFnS, sRaise, gN, gT, gsCons, gsNil, sSl, sPart, slO, sCount, seqI, sGet2, keyD, sAppT, getT, toT, sSetIx, sNeg, enum0 D.int 0, zip_map, range_map, Turn, Fin, eqv, immS, tupI, natI, lstI, stD, -List.getD_eq_getElem?_getD, sTry, q_free, q_states, q_within, q_meet, n_meet_free, n_meet_states, n_meet_within, at_cons0, at_cons1, at_cons2, e, outD, handle, outS, s1, s2, s3, sXis, sXf, lk1, noxS, nox, noxL, nox_ints]
  | large k m => simp [sem__law_outcome, b__law_outcome, run, runS, runIO, startIO, endIO, startS, qS, fzAt, sSet, evA, evB, evC, evM, evAT, evBT, viewF, viewB, seeF, seeB, sVar, sC, R.bind, sCall, sCons, sNil, R.of, thenS, thenB, Out.seq, sLst, sTup, sFor, evAI, evCI, sRange1, sRange2, killS, sRet, frzI, frzA, frz1, S.d, sIfS, sBool, sTru, truD, sAnd, sOr, sNot, sIf, sAndV, sOrV, sNotV, sNotT, sOp, addO, mulO, fzI, fzB, eqO, neO, isO, isN, isnotO, inO, notInO, ixO, lenO, intF, absF, tupF, lstF, sIsTy, isTy, sDrop, sMut1, sMut0, getO, fAppend, fPopAt, fPop, fClear, sSeq, itemsO, sEnum, sZip, sLc, sLc2, CT.set, setsD, wipeE, sChain, sFn, sFnS, sRaise, gN, gT, gsCons, gsNil, sSl, sPart, slO, sCount, seqI, sGet2, keyD, sAppT, getT, toT, sSetIx, sNeg, enum0 D.int 0, zip_map, range_map, Turn, Fin, eqv, immS, tupI, natI, lstI, stD, -List.getD_eq_getElem?_getD, sTry, q_free, q_states, q_within, q_meet, n_meet_free, n_meet_states, n_meet_within, at_cons0, at_cons1, at_cons2, e, outD, handle, outS, s4, s5, s6, s7, sXis, sXf, lk2, lk3, noxS, nox, noxL]
theorem out_join {rows : List (List Int)} {a b c : List Int} {rest : List (List Int)} (h : rows = a :: b :: c :: rest) {res : RS} (e : sem_join [lstI a, lstI b, lstI c] = res) (he : Ends' res) : sem__law_outcome [.str "join", lrows rows] = .ok (.fz (outD res)) := by
  subst h
  cases he with
  | ok s => simp [sem__law_outcome, b__law_outcome, run, runS, runIO, startIO, endIO, startS, qS, fzAt, sSet, evA, evB, evC, evM, evAT, evBT, viewF, viewB, seeF, seeB, sVar, sC, R.bind, sCall, sCons, sNil, R.of, thenS, thenB, Out.seq, sLst, sTup, sFor, evAI, evCI, sRange1, sRange2, killS, sRet, frzI, frzA, frz1, S.d, sIfS, sBool, sTru, truD, sAnd, sOr, sNot, sIf, sAndV, sOrV, sNotV, sNotT, sOp, addO, mulO, fzI, fzB, eqO, neO, isO, isN, isnotO, inO, notInO, ixO, lenO, intF, absF, tupF, lstF, sIsTy, isTy, sDrop, sMut1, sMut0, getO, fAppend, fPopAt, fPop, fClear, sSeq, itemsO, sEnum, sZip, sLc, sLc2, CT.set, setsD, wipeE, sChain, sFn, sFnS, sRaise, gN, gT, gsCons, gsNil, sSl, sPart, slO, sCount, seqI, sGet2, keyD, sAppT, getT, toT, sSetIx, sNeg, enum0 D.int 0, zip_map, range_map, Turn, Fin, eqv, immS, tupI, natI, lstI, stD, -List.getD_eq_getElem?_getD, sTry, q_free, q_states, q_within, q_meet, q_join, n_join_free, n_join_states, n_join_within, n_join_meet, at_cons0, at_cons1, at_cons2, e, outD, dFine]
  | bad r => simp [sem__law_outcome, b__law_outcome, run, runS, runIO, startIO, endIO, startS, qS, fzAt, sSet, evA, evB, evC, evM, evAT, evBT, viewF, viewB, seeF, seeB, sVar, sC, R.bind, sCall, sCons, sNil, R.of, thenS, thenB, Out.seq, sLst, sTup, sFor, evAI, evCI, sRange1, sRange2, killS, sRet, frzI, frzA, frz1, S.d, sIfS, sBool, sTru, truD, sAnd, sOr, sNot, sIf, sAndV, sOrV, sNotV, sNotT, sOp, addO, mulO, fzI, fzB, eqO, neO, isO, isN, isnotO, inO, notInO, ixO, lenO, intF, absF, tupF, lstF, sIsTy, isTy, sDrop, sMut1, sMut0, getO, fAppend, fPopAt, fPop, fClear, sSeq, itemsO, sEnum, sZip, sLc, sLc2, CT.set, setsD, wipeE, sChain, sFn, sFnS, sRaise, gN, gT, gsCons, gsNil, sSl, sPart, slO, sCount, seqI, sGet2, keyD, sAppT, getT, toT, sSetIx, sNeg, enum0 D.int 0, zip_map, range_map, Turn, Fin, eqv, immS, tupI, natI, lstI, stD, -List.getD_eq_getElem?_getD, sTry, q_free, q_states, q_within, q_meet, q_join, n_join_free, n_join_states, n_join_within, n_join_meet, at_cons0, at_cons1, at_cons2, e, outD, handle, outS, s1, s2, s3, sXis, sXf, lk1, noxS, nox, noxL, nox_ints]
  | large k m => simp [sem__law_outcome, b__law_outcome, run, runS, runIO, startIO, endIO, startS, qS, fzAt, sSet, evA, evB, evC, evM, evAT, evBT, viewF, viewB, seeF, seeB, sVar, sC, R.bind, sCall, sCons, sNil, R.of, thenS, thenB, Out.seq, sLst, sTup, sFor, evAI, evCI, sRange1, sRange2, killS, sRet, frzI, frzA, frz1, S.d, sIfS, sBool, sTru, truD, sAnd, sOr, sNot, sIf, sAndV, sOrV, sNotV, sNotT, sOp, addO, mulO, fzI, fzB, eqO, neO, isO, isN, isnotO, inO, notInO, ixO, lenO, intF, absF, tupF, lstF, sIsTy, isTy, sDrop, sMut1, sMut0, getO, fAppend, fPopAt, fPop, fClear, sSeq, itemsO, sEnum, sZip, sLc, sLc2, CT.set, setsD, wipeE, sChain, sFn, sFnS, sRaise, gN, gT, gsCons, gsNil, sSl, sPart, slO, sCount, seqI, sGet2, keyD, sAppT, getT, toT, sSetIx, sNeg, enum0 D.int 0, zip_map, range_map, Turn, Fin, eqv, immS, tupI, natI, lstI, stD, -List.getD_eq_getElem?_getD, sTry, q_free, q_states, q_within, q_meet, q_join, n_join_free, n_join_states, n_join_within, n_join_meet, at_cons0, at_cons1, at_cons2, e, outD, handle, outS, s4, s5, s6, s7, sXis, sXf, lk2, lk3, noxS, nox, noxL]

/-- what is asked of each call -/
theorem badRow_cons (n : Nat) (r : List Int) (rs : List (List Int)) : badRow n (r :: rs) = if r.length = n ∧ r.all okM = true then badRow n rs else some r := by
  unfold badRow
  by_cases h : r.length = n ∧ r.all okM = true
  · rw [if_pos h, List.find?_cons_of_neg]
    rw [h.2, decide_eq_true h.1]; decide
  · rw [if_neg h, List.find?_cons_of_pos]
    by_cases h1 : r.length = n
    · have : r.all okM = false := by rw [Bool.eq_false_iff]; exact fun z => h ⟨h1, z⟩
      simp [h1, this]
    · simp [h1]
theorem expD_room {big : Bool} {qs : List (List Int)} {a : List Int} : expD big (a :: qs) a = if IsRoom a then (match badRow a.length qs with | some r => dBad r | none => if big = true ∧ 8 < frees a then dLarge (frees a) else dFine) else dBad a := by
  unfold expD
  rw [badRow_cons]
  by_cases h : 1 ≤ a.length ∧ a.length ≤ 12
  · rw [if_neg (fun z => z h)]
    by_cases h2 : a.all okM = true
    · rw [if_pos (show a.length = a.length ∧ a.all okM = true from ⟨rfl, h2⟩), if_pos (show IsRoom a from ⟨h.1, h.2, h2⟩)]
      try (cases badRow a.length qs <;> rfl)
    · rw [if_neg (show ¬ (a.length = a.length ∧ a.all okM = true) from fun z => h2 z.2), if_neg (show ¬ IsRoom a from fun z => h2 z.2.2)]
  · rw [if_pos h, if_neg (show ¬ IsRoom a from fun z => h ⟨z.1, z.2.1⟩)]
theorem eqv_self_bad (r : List Int) : eqv (dBad r) (dBad r) = true ∧ shp 9 (dBad r) = true := by
  refine ⟨by simp [dBad], ?_⟩
  have : shp 8 (.str "bad") = true := by decide +kernel
  simp [dBad, this]
theorem eqv_self_large (k : Nat) : eqv (dLarge k) (dLarge k) = true ∧ shp 9 (dLarge k) = true := by
  refine ⟨by simp [dLarge], ?_⟩
  have : shp 8 (.str "large") = true := by decide +kernel
  simp [dLarge, this]
theorem eqv_self_fine : eqv dFine dFine = true ∧ shp 9 dFine = true := by
  refine ⟨by simp [dFine], ?_⟩
  have : shp 8 (.str "fine") = true := by decide +kernel
  simp [dFine, this]
theorem eqv_self_exp (big : Bool) (qs : List (List Int)) (a : List Int) : eqv (expD big qs a) (expD big qs a) = true ∧ shp 9 (expD big qs a) = true := by
  unfold expD
  split
  · exact eqv_self_bad _
  · split
    · exact eqv_self_bad _
    · split
      · exact eqv_self_large _
      · exact eqv_self_fine
/-- outcome and expectation agree -/
def Agree (x : Str) (rows : List (List Int)) : Prop := ∃ d, sem__law_outcome [.str x, lrows rows] = .ok (.fz d) ∧ sem__law_expected [.str x, lrows rows] = .ok (.fz d) ∧ eqv d d = true ∧ shp 9 d = true
theorem cut4 (k : Nat) (hk : k < 4) : ∀ l : List D, l.length = 4 → cutD l none (some (k : Int)) = l.take k := by
  intro l hl
  match l, hl with
  | [a, b, c, d], _ =>
    match k, hk with
    | 0, _ => rfl
    | 1, _ => rfl
    | 2, _ => rfl
    | 3, _ => rfl
theorem agree_free {a b c d : List Int} (h : ∀ r ∈ [a, b, c, d], r.length ≤ 1000) : Agree "free" [a, b, c, d] := by
  have e := exp_eq "free" 1 rfl false q_free (by decide +kernel) [a, b, c, d] a [b, c, d] rfl h (cut4 1 (by decide))
  have f := free_eq (.lst : Seq' a _) (h a (by simp))
  have o := out_free (rows := [a, b, c, d]) rfl f (by split <;> constructor)
  refine ⟨_, o, ?_, ?_⟩
  · rw [e, show [a, b, c, d].take 1 = [a] by rfl, expD_room]
    by_cases hr : IsRoom a
    · simp only [if_pos hr]; simp [badRow, outD]
    · simp only [if_neg hr]; rfl
  · by_cases hr : IsRoom a
    · simp only [if_pos hr]; exact eqv_self_fine
    · simp only [if_neg hr]; exact eqv_self_bad a
theorem agree_states {a b c d : List Int} (h : ∀ r ∈ [a, b, c, d], r.length ≤ 1000) : Agree "states" [a, b, c, d] := by
  have e := exp_eq "states" 1 rfl true q_states (by decide +kernel) [a, b, c, d] a [b, c, d] rfl h (cut4 1 (by decide))
  have f := states_eq (.lst : Seq' a _) (h a (by simp))
  have o := out_states (rows := [a, b, c, d]) rfl f (by split; (split <;> constructor); constructor)
  refine ⟨_, o, ?_, ?_⟩
  · rw [e, show [a, b, c, d].take 1 = [a] by rfl, expD_room]
    by_cases hr : IsRoom a
    · simp only [if_pos hr]
      by_cases h8 : frees a ≤ 8
      · simp only [if_pos h8]; simp [badRow, outD, show ¬ 8 < frees a by omega]
      · simp only [if_neg h8]; simp [badRow, outD, show 8 < frees a by omega, dLarge]
    · simp only [if_neg hr]; rfl
  · by_cases hr : IsRoom a
    · simp only [if_pos hr]
      by_cases h8 : frees a ≤ 8
      · simp only [if_pos h8]; exact eqv_self_fine
      · simp only [if_neg h8]; exact eqv_self_large _
    · simp only [if_neg hr]; exact eqv_self_bad a
theorem agree_within {a b c d : List Int} (h : ∀ r ∈ [a, b, c, d], r.length ≤ 1000) : Agree "within" [a, b, c, d] := by
  have e := exp_eq "within" 2 rfl false q_within (by decide +kernel) [a, b, c, d] a [b, c, d] rfl h (cut4 2 (by decide))
  have f := within_eq (.lst : Seq' a _) (.lst : Seq' b _) (h a (by simp)) (h b (by simp))
  have o := out_within (rows := [a, b, c, d]) rfl f (by split; (split <;> constructor); constructor)
  refine ⟨_, o, ?_, ?_⟩
  · rw [e, show [a, b, c, d].take 2 = [a, b] by rfl, expD_room]
    by_cases hr : IsRoom a
    · simp only [if_pos hr, badRow_cons]
      by_cases hb : b.length = a.length ∧ b.all okM = true
      · simp only [if_pos hb]; simp [badRow, outD]
      · simp only [if_neg hb]; rfl
    · simp only [if_neg hr]; rfl
  · by_cases hr : IsRoom a
    · simp only [if_pos hr]
      by_cases hb : b.length = a.length ∧ b.all okM = true
      · simp only [if_pos hb]; exact eqv_self_fine
      · simp only [if_neg hb]; exact eqv_self_bad b
    · simp only [if_neg hr]; exact eqv_self_bad a
theorem agree_meet {a b c d : List Int} (h : ∀ r ∈ [a, b, c, d], r.length ≤ 1000) : Agree "meet" [a, b, c, d] := by
  have e := exp_eq "meet" 3 rfl false q_meet (by decide +kernel) [a, b, c, d] a [b, c, d] rfl h (cut4 3 (by decide))
  have f := meet_eq (.lst : Seq' a _) (h a (by simp)) (.cons (.lst : Seq' b _) (.cons (.lst : Seq' c _) .nil)) (fun r hr => h r (by simp at hr; rcases hr with rfl | rfl <;> simp)) (by simp)
  rw [meetS_eq] at f
  have o := out_meet (rows := [a, b, c, d]) rfl f (by split; (split <;> constructor); constructor)
  refine ⟨_, o, ?_, ?_⟩
  · rw [e, show [a, b, c, d].take 3 = [a, b, c] by rfl, expD_room]
    by_cases hr : IsRoom a
    · simp only [if_pos hr]
      cases badRow a.length [b, c] <;> simp [outD, dBad]
    · simp only [if_neg hr]; rfl
  · by_cases hr : IsRoom a
    · simp only [if_pos hr]
      cases badRow a.length [b, c] with
      | none => exact eqv_self_fine
      | some r => exact eqv_self_bad r
    · simp only [if_neg hr]; exact eqv_self_bad a
theorem agree_join {a b c d : List Int} (h : ∀ r ∈ [a, b, c, d], r.length ≤ 1000) : Agree "join" [a, b, c, d] := by
  have e := exp_eq "join" 3 rfl false q_join (by decide +kernel) [a, b, c, d] a [b, c, d] rfl h (cut4 3 (by decide))
  have f := join_eq (.lst : Seq' a _) (h a (by simp)) (.cons (.lst : Seq' b _) (.cons (.lst : Seq' c _) .nil)) (fun r hr => h r (by simp at hr; rcases hr with rfl | rfl <;> simp)) (by simp)
  have o := out_join (rows := [a, b, c, d]) rfl f (by split; (split <;> constructor); constructor)
  refine ⟨_, o, ?_, ?_⟩
  · rw [e, show [a, b, c, d].take 3 = [a, b, c] by rfl, expD_room]
    by_cases hr : IsRoom a
    · simp only [if_pos hr]
      cases badRow a.length [b, c] <;> simp [outD, dBad]
    · simp only [if_neg hr]; rfl
  · by_cases hr : IsRoom a
    · simp only [if_pos hr]
      cases badRow a.length [b, c] with
      | none => exact eqv_self_fine
      | some r => exact eqv_self_bad r
    · simp only [if_neg hr]; exact eqv_self_bad a
end O

end

section
set_option Elab.async false
set_option linter.all false
set_option maxRecDepth 100000
set_option maxHeartbeats 2000000
namespace O
open PySem PySem.Spec PyProof.Rows L2
abbrev lE (ns : List Int) (n : Nat) (rows : List (List Int)) (s3 s4 s5 s6 : Option S) : SEnv := [some (.fz (.scr ns)), some (.fz (.int (n : Int))), some (trR rows), s3, s4, s5, s6, none]
theorem law_turn (ns : List Int) (n : Nat) (a b c d : List Int) (s3 s4 s5 : Option S) (x : Str) (h : Agree x [a, b, c, d]) : l_law_1 (lE ns n [a, b, c, d] s3 s4 s5 (some (.fz (.str x)))) = .nx (lE ns n [a, b, c, d] s3 s4 s5 (some (.fz (.str x)))) := by
  obtain ⟨v, h1, h2, h3, h4⟩ := h
  simp [lrows] at h1 h2
  simp [l_law_1, run, runS, runIO, startIO, endIO, startS, qS, fzAt, sSet, evA, evB, evC, evM, evAT, evBT, viewF, viewB, seeF, seeB, sVar, sC, R.bind, sCall, sCons, sNil, R.of, thenS, thenB, Out.seq, sLst, sTup, sFor, evAI, evCI, sRange1, sRange2, killS, sRet, frzI, frzA, frz1, S.d, sIfS, sBool, sTru, truD, sAnd, sOr, sNot, sIf, sAndV, sOrV, sNotV, sNotT, sOp, addO, mulO, fzI, fzB, eqO, neO, isO, isN, isnotO, inO, notInO, ixO, lenO, intF, absF, tupF, lstF, sIsTy, isTy, sDrop, sMut1, sMut0, getO, fAppend, fPopAt, fPop, fClear, sSeq, itemsO, sEnum, sZip, sLc, sLc2, CT.set, setsD, wipeE, sChain, sFn, sFnS, sRaise, gN, gT, gsCons, gsNil, sSl, sPart, slO, sCount, seqI, sGet2, keyD, sAppT, getT, toT, sSetIx, sNeg, enum0 D.int 0, zip_map, range_map, Turn, Fin, eqv, immS, tupI, natI, lstI, stD, -List.getD_eq_getElem?_getD, trR, T.d, T.ds, trow_d, h1, h2, h3, h4]
theorem law_loop (ns : List Int) (n : Nat) (a b c d : List Int) (s3 s4 s5 : Option S) (h : ∀ r ∈ [a, b, c, d], r.length ≤ 1000) : loop (gN 6) l_law_1 [6] [.str "free", .str "states", .str "within", .str "meet", .str "join"] (lE ns n [a, b, c, d] s3 s4 s5 none) = .nx (lE ns n [a, b, c, d] s3 s4 s5 none) := by
  have := loop_allI (en := D.str) (t := gN 6) (body := l_law_1) (kl := [6]) (fun (_ : Unit) => lE ns n [a, b, c, d] s3 s4 s5 none) (fun _ _ => True) (fun _ _ => ()) ["free", "states", "within", "meet", "join"] () (fun pre x post _ e _ => by
    have hx : Agree x [a, b, c, d] := by
      have : x ∈ (["free", "states", "within", "meet", "join"] : List Str) := by rw [e]; simp
      simp at this
      rcases this with rfl | rfl | rfl | rfl | rfl
      · exact agree_free h
      · exact agree_states h
      · exact agree_within h
      · exact agree_meet h
      · exact agree_join h
    exact ⟨⟨_, _, rfl, law_turn ns n a b c d s3 s4 s5 x hx, rfl⟩, trivial⟩) trivial
  exact this.1
/-- a row is spoilt -/
theorem spoil_len (f h x : Int) (r : List Int) : (spoil f h x r).length ≤ r.length + 1 := by
  unfold spoil
  repeat' split
  all_goals simp
  all_goals omega
theorem io_step (ns : List Int) (n : Nat) (rows : List (List Int)) (s3 s5 : Option S) (ds : List Int) (i j : Nat) (k : Nat) (r : List Int) (hk : rows[k]? = some r) (f h x : Int) (h0 : 0 ≤ h) (h1 : h < r.length) (hl : r.length ≤ 1000)
    {fc : Env → RS} {fa : Env → R (List D)} (hc : ∀ ρ : Env, ρ[4]? = some (some (.lst (ds.map .int))) → fc ρ = .ok (.fz (.int (k : Int)))) (ha : ∀ ρ : Env, ρ[4]? = some (some (.lst (ds.map .int))) → fa ρ = .ok [.int f, .int h, .int x]) :
    sIO 2 4 io__law_spoilt fc fa (lE ns n rows s3 (some (.fz (.lst (ds.map .int)))) s5 none) = .nx (lE ns n (rows.set k (spoil f h x r)) s3 (some (.fz (.lst (ds.map .int)))) s5 none) := by
  have v4 : (viewB (lE ns n rows s3 (some (.fz (.lst (ds.map .int)))) s5 none))[4]? = some (some (.lst (ds.map .int))) := rfl
  rw [io_eq (i := 2) (c := k) (hc _ v4) (ha _ v4) ⟨by simp, by simp⟩ (subL_rows (rs := rows) (r := r) rfl hk) (spoilt_eq h0 h1 hl)]
  have := @putL_rows (lE ns n rows s3 (some (.fz (.lst (ds.map .int)))) s5 none) 2 k rows (spoil f h x r)
  rw [this]
  rfl

theorem at_lit {α : Type} (l : List α) (j : Nat) (x : α) (h : l[j]? = some x) : L2.atI l (j : Int) = some x := by
  obtain ⟨h1, h2⟩ := List.getElem?_eq_some_iff.mp h
  rw [at_nat h1, h2]
theorem length9 {l : List Int} (h : l.length = 9) : ∃ d0 d1 d2 d3 d4 d5 d6 d7 d8, l = [d0, d1, d2, d3, d4, d5, d6, d7, d8] := by
  match l, h with
  | [d0, d1, d2, d3, d4, d5, d6, d7, d8], _ => exact ⟨_, _, _, _, _, _, _, _, _, rfl⟩
/-- both rows are spoilt -/
theorem spoils (ns : List Int) (n : Nat) (h1 : 1 ≤ n) (h12 : n ≤ 12) (a b c d : List Int) (h : Rooms n [a, b, c, d]) (s3 : Option S) (ds : List Int) (hl : ds.length = 9) (hd : Drawn [3, 6, (n : Int), 50, 4, 3, 6, (n : Int), 50] ds) :
    ∃ a' b' c' d', (∀ r ∈ [a', b', c', d'], r.length ≤ 1000) ∧ qS (sIO 2 4 io__law_spoilt (sOp ixO (sVar 4) (sC (.int 0))) (sCons (sOp ixO (sVar 4) (sC (.int 1))) (sCons (sOp ixO (sVar 4) (sC (.int 2))) (sCons (sOp ixO (sVar 4) (sC (.int 3))) sNil))))
      (sIfS (evAT (sAnd (sBool (sOp eqO (sOp ixO (sVar 4) (sC (.int 4))) (sC (.int 0)))) (sBool (sOp neO (sOp ixO (sVar 4) (sC (.int 5))) (sOp ixO (sVar 4) (sC (.int 0))))))) (sIO 2 4 io__law_spoilt (sOp ixO (sVar 4) (sC (.int 5))) (sCons (sOp ixO (sVar 4) (sC (.int 6))) (sCons (sOp ixO (sVar 4) (sC (.int 7))) (sCons (sOp ixO (sVar 4) (sC (.int 8))) sNil)))) Out.nx)
      (lE ns n [a, b, c, d] s3 (some (.fz (.lst (ds.map .int)))) none none) = .nx (lE ns n [a', b', c', d'] s3 (some (.fz (.lst (ds.map .int)))) none none) := by
  obtain ⟨d0, d1, d2, d3, d4, d5, d6, d7, d8, rfl⟩ := length9 hl
  have t0 : L2.atI ([d0, d1, d2, d3, d4, d5, d6, d7, d8].map D.int) (0 : Int) = some (.int d0) := at_lit _ 0 _ rfl
  have t1 : L2.atI ([d0, d1, d2, d3, d4, d5, d6, d7, d8].map D.int) (1 : Int) = some (.int d1) := at_lit _ 1 _ rfl
  have t2 : L2.atI ([d0, d1, d2, d3, d4, d5, d6, d7, d8].map D.int) (2 : Int) = some (.int d2) := at_lit _ 2 _ rfl
  have t3 : L2.atI ([d0, d1, d2, d3, d4, d5, d6, d7, d8].map D.int) (3 : Int) = some (.int d3) := at_lit _ 3 _ rfl
  have t4 : L2.atI ([d0, d1, d2, d3, d4, d5, d6, d7, d8].map D.int) (4 : Int) = some (.int d4) := at_lit _ 4 _ rfl
  have t5 : L2.atI ([d0, d1, d2, d3, d4, d5, d6, d7, d8].map D.int) (5 : Int) = some (.int d5) := at_lit _ 5 _ rfl
  have t6 : L2.atI ([d0, d1, d2, d3, d4, d5, d6, d7, d8].map D.int) (6 : Int) = some (.int d6) := at_lit _ 6 _ rfl
  have t7 : L2.atI ([d0, d1, d2, d3, d4, d5, d6, d7, d8].map D.int) (7 : Int) = some (.int d7) := at_lit _ 7 _ rfl
  have t8 : L2.atI ([d0, d1, d2, d3, d4, d5, d6, d7, d8].map D.int) (8 : Int) = some (.int d8) := at_lit _ 8 _ rfl
  obtain ⟨z0, g0, p0, u0⟩ := hd.2 0 d0 rfl
  cases (show some (3 : Int) = some z0 from g0)
  obtain ⟨z1, g1, p1, u1⟩ := hd.2 1 d1 rfl
  cases (show some (6 : Int) = some z1 from g1)
  obtain ⟨z2, g2, p2, u2⟩ := hd.2 2 d2 rfl
  cases (show some (n : Int) = some z2 from g2)
  obtain ⟨z3, g3, p3, u3⟩ := hd.2 3 d3 rfl
  cases (show some (50 : Int) = some z3 from g3)
  obtain ⟨z4, g4, p4, u4⟩ := hd.2 4 d4 rfl
  cases (show some (4 : Int) = some z4 from g4)
  obtain ⟨z5, g5, p5, u5⟩ := hd.2 5 d5 rfl
  cases (show some (3 : Int) = some z5 from g5)
  obtain ⟨z6, g6, p6, u6⟩ := hd.2 6 d6 rfl
  cases (show some (6 : Int) = some z6 from g6)
  obtain ⟨z7, g7, p7, u7⟩ := hd.2 7 d7 rfl
  cases (show some (n : Int) = some z7 from g7)
  obtain ⟨z8, g8, p8, u8⟩ := hd.2 8 d8 rfl
  cases (show some (50 : Int) = some z8 from g8)
  obtain ⟨k0, rfl⟩ := Int.eq_ofNat_of_zero_le p0
  obtain ⟨k5, rfl⟩ := Int.eq_ofNat_of_zero_le p5
  have len4 : ∀ rs : List (List Int), rs.length = 4 → ∃ a b c d, rs = [a, b, c, d] := fun rs h => by
    match rs, h with
    | [a, b, c, d], _ => exact ⟨_, _, _, _, rfl⟩
  have hk0 : k0 < 4 := by omega
  have hk5 : k5 < 4 := by omega
  obtain ⟨r0, hr0⟩ : ∃ r, [a, b, c, d][k0]? = some r := ⟨_, List.getElem?_eq_getElem (by simpa using hk0)⟩
  obtain ⟨i0, l0⟩ := h r0 (List.mem_of_getElem? hr0)
  have st0 := io_step ns n [a, b, c, d] s3 none [(k0 : Int), d1, d2, d3, d4, (k5 : Int), d6, d7, d8] 0 0 k0 r0 hr0 d1 d2 d3 p2 (by omega) (by omega)
    (fc := sOp ixO (sVar 4) (sC (.int 0))) (fa := sCons (sOp ixO (sVar 4) (sC (.int 1))) (sCons (sOp ixO (sVar 4) (sC (.int 2))) (sCons (sOp ixO (sVar 4) (sC (.int 3))) sNil)))
    (fun ρ e => by simp only [sOp, sVar, e, sC, R.bind, S.d, ixO, t0]; rfl) (fun ρ e => by simp only [sOp, sVar, e, sC, R.bind, S.d, ixO, t1, t2, t3, sCons, sNil]; rfl)
  have hb : ∀ r ∈ [a, b, c, d].set k0 (spoil d1 d2 d3 r0), r.length ≤ 14 := fun r hr => by
    rcases List.mem_or_eq_of_mem_set hr with hr | rfl
    · have := (h r hr).2; omega
    · have := spoil_len d1 d2 d3 r0; omega
  have key : qS (sIO 2 4 io__law_spoilt (sOp ixO (sVar 4) (sC (.int 0))) (sCons (sOp ixO (sVar 4) (sC (.int 1))) (sCons (sOp ixO (sVar 4) (sC (.int 2))) (sCons (sOp ixO (sVar 4) (sC (.int 3))) sNil)))) = qS (sIO 2 4 io__law_spoilt (sOp ixO (sVar 4) (sC (.int 0))) (sCons (sOp ixO (sVar 4) (sC (.int 1))) (sCons (sOp ixO (sVar 4) (sC (.int 2))) (sCons (sOp ixO (sVar 4) (sC (.int 3))) sNil)))) := rfl
  simp only [qS, st0]
  by_cases hc : d4 = 0 ∧ (k5 : Int) ≠ (k0 : Int)
  · obtain ⟨rfl, hc2⟩ := hc
    obtain ⟨r5, hr5⟩ : ∃ r, [a, b, c, d][k5]? = some r := ⟨_, List.getElem?_eq_getElem (by simpa using hk5)⟩
    obtain ⟨i5, l5⟩ := h r5 (List.mem_of_getElem? hr5)
    have hne : k0 ≠ k5 := fun z => hc2 (by rw [z])
    have hr5' : ([a, b, c, d].set k0 (spoil d1 d2 d3 r0))[k5]? = some r5 := by rw [List.getElem?_set_ne hne]; exact hr5
    have st5 := io_step ns n ([a, b, c, d].set k0 (spoil d1 d2 d3 r0)) s3 none [(k0 : Int), d1, d2, d3, 0, (k5 : Int), d6, d7, d8] 0 0 k5 r5 hr5' d6 d7 d8 p7 (by omega) (by omega)
      (fc := sOp ixO (sVar 4) (sC (.int 5))) (fa := sCons (sOp ixO (sVar 4) (sC (.int 6))) (sCons (sOp ixO (sVar 4) (sC (.int 7))) (sCons (sOp ixO (sVar 4) (sC (.int 8))) sNil)))
      (fun ρ e => by simp only [sOp, sVar, e, sC, R.bind, S.d, ixO, t5]; rfl) (fun ρ e => by simp only [sOp, sVar, e, sC, R.bind, S.d, ixO, t6, t7, t8, sCons, sNil]; rfl)
    obtain ⟨a', b', c', d', e⟩ := len4 (([a, b, c, d].set k0 (spoil d1 d2 d3 r0)).set k5 (spoil d6 d7 d8 r5)) (by simp)
    refine ⟨a', b', c', d', fun r hr => ?_, ?_⟩
    · rw [← e] at hr
      rcases List.mem_or_eq_of_mem_set hr with hr | rfl
      · have := hb r hr; omega
      · have := spoil_len d6 d7 d8 r5; omega
    · rw [e] at st5
      rw [← st5]
      simp only [List.map_cons, List.map_nil] at t0 t4 t5
      simp [run, runS, runIO, startIO, endIO, startS, qS, fzAt, sSet, evA, evB, evC, evM, evAT, evBT, viewF, viewB, seeF, seeB, sVar, sC, R.bind, sCall, sCons, sNil, R.of, thenS, thenB, Out.seq, sLst, sTup, sFor, evAI, evCI, sRange1, sRange2, killS, sRet, frzI, frzA, frz1, S.d, sIfS, sBool, sTru, truD, sAnd, sOr, sNot, sIf, sAndV, sOrV, sNotV, sNotT, sOp, addO, mulO, fzI, fzB, eqO, neO, isO, isN, isnotO, inO, notInO, ixO, lenO, intF, absF, tupF, lstF, sIsTy, isTy, sDrop, sMut1, sMut0, getO, fAppend, fPopAt, fPop, fClear, sSeq, itemsO, sEnum, sZip, sLc, sLc2, CT.set, setsD, wipeE, sChain, sFn, sFnS, sRaise, gN, gT, gsCons, gsNil, sSl, sPart, slO, sCount, seqI, sGet2, keyD, sAppT, getT, toT, sSetIx, sNeg, enum0 D.int 0, zip_map, range_map, Turn, Fin, eqv, immS, tupI, natI, lstI, stD, -List.getD_eq_getElem?_getD, t4, t5, t0, show ¬ (k5 : Int) = (k0 : Int) from hc2, show ¬ k5 = k0 from fun z => hne z.symm, -range_map]
  · obtain ⟨a', b', c', d', e⟩ := len4 ([a, b, c, d].set k0 (spoil d1 d2 d3 r0)) (by simp)
    refine ⟨a', b', c', d', fun r hr => ?_, ?_⟩
    · rw [← e] at hr
      have := hb r hr; omega
    · rw [e]
      simp only [List.map_cons, List.map_nil] at t0 t4 t5
      by_cases h4 : d4 = 0
      · have h5 : k5 = k0 := by
          have : (k5 : Int) = k0 := Classical.byContradiction fun z => hc ⟨h4, z⟩
          omega
        subst h5 h4
        simp [run, runS, runIO, startIO, endIO, startS, qS, fzAt, sSet, evA, evB, evC, evM, evAT, evBT, viewF, viewB, seeF, seeB, sVar, sC, R.bind, sCall, sCons, sNil, R.of, thenS, thenB, Out.seq, sLst, sTup, sFor, evAI, evCI, sRange1, sRange2, killS, sRet, frzI, frzA, frz1, S.d, sIfS, sBool, sTru, truD, sAnd, sOr, sNot, sIf, sAndV, sOrV, sNotV, sNotT, sOp, addO, mulO, fzI, fzB, eqO, neO, isO, isN, isnotO, inO, notInO, ixO, lenO, intF, absF, tupF, lstF, sIsTy, isTy, sDrop, sMut1, sMut0, getO, fAppend, fPopAt, fPop, fClear, sSeq, itemsO, sEnum, sZip, sLc, sLc2, CT.set, setsD, wipeE, sChain, sFn, sFnS, sRaise, gN, gT, gsCons, gsNil, sSl, sPart, slO, sCount, seqI, sGet2, keyD, sAppT, getT, toT, sSetIx, sNeg, enum0 D.int 0, zip_map, range_map, Turn, Fin, eqv, immS, tupI, natI, lstI, stD, -List.getD_eq_getElem?_getD, t4, t5, t0, -range_map]
      · simp [run, runS, runIO, startIO, endIO, startS, qS, fzAt, sSet, evA, evB, evC, evM, evAT, evBT, viewF, viewB, seeF, seeB, sVar, sC, R.bind, sCall, sCons, sNil, R.of, thenS, thenB, Out.seq, sLst, sTup, sFor, evAI, evCI, sRange1, sRange2, killS, sRet, frzI, frzA, frz1, S.d, sIfS, sBool, sTru, truD, sAnd, sOr, sNot, sIf, sAndV, sOrV, sNotV, sNotT, sOp, addO, mulO, fzI, fzB, eqO, neO, isO, isN, isnotO, inO, notInO, ixO, lenO, intF, absF, tupF, lstF, sIsTy, isTy, sDrop, sMut1, sMut0, getO, fAppend, fPopAt, fPop, fClear, sSeq, itemsO, sEnum, sZip, sLc, sLc2, CT.set, setsD, wipeE, sChain, sFn, sFnS, sRaise, gN, gT, gsCons, gsNil, sSl, sPart, slO, sCount, seqI, sGet2, keyD, sAppT, getT, toT, sSetIx, sNeg, enum0 D.int 0, zip_map, range_map, Turn, Fin, eqv, immS, tupI, natI, lstI, stD, -List.getD_eq_getElem?_getD, t4, t5, t0, h4, -range_map]

theorem qS_nx {g k : SEnv → Out} {ρ ρ' : SEnv} (h : g ρ = .nx ρ') : qS g k ρ = k ρ' := by
  unfold qS; rw [h]
theorem qS_nx2 {a b c : SEnv → Out} {ρ ρ' : SEnv} (h : qS a b ρ = .nx ρ') : qS a (qS b c) ρ = c ρ' := by
  unfold qS at *
  cases ha : a ρ with
  | nx ρ1 =>
    rw [ha] at h
    have h' : b ρ1 = .nx ρ' := h
    simp only [Out.seq, h']
  | _ => rw [ha] at h; cases h
theorem rooms_sub {n : Nat} {rs qs : List (List Int)} (h : Rooms n rs) (s : ∀ r ∈ qs, r ∈ rs) : Rooms n qs := fun r hr => h r (s r hr)
theorem law_true : ∀ ns : List Int, ns.length ≤ 63 → sem_law [.scr ns] = .ok (.fz (.bl true)) := by
  intro ns _
  have c0 : sem__law_cell [.scr ns, .int 0] = .ok (.fz (.int (ns.getD 0 0))) := cell_nat ns 0
  have c7 : sem__law_cell [.scr ns, .int 7] = .ok (.fz (.int (ns.getD 7 0))) := cell_nat ns 7
  have hn : 0 ≤ ns.getD 0 0 % 12 ∧ ns.getD 0 0 % 12 < 12 := ⟨Int.emod_nonneg _ (by decide), Int.emod_lt_of_pos _ (by decide)⟩
  generalize hq : ns.getD 0 0 % 12 = q at hn
  obtain ⟨n, hnq⟩ : ∃ n : Nat, 1 + q = (n : Int) := ⟨(1 + q).toNat, by omega⟩
  have h1 : 1 ≤ n := by omega
  have h12 : n ≤ 12 := by omega
  obtain ⟨a, b, c, d, hr, er⟩ := rooms_eq ns n h1 h12
  have la := lone_answers_eq hr
  have m1 := meets_eq (rooms_sub hr (qs := [a, b, c]) fun r h => by simp at h ⊢; rcases h with rfl | rfl | rfl <;> simp)
  have m2 := meets_eq (rooms_sub hr (qs := [d, d, b]) fun r h => by simp at h ⊢; rcases h with rfl | rfl | rfl <;> simp)
  obtain ⟨ds, e, hl, hd⟩ := draws_eq (ns.getD 7 0) [3, 6, (n : Int), 50, 4, 3, 6, (n : Int), 50] (fun s hs => by simp at hs; omega) (fun s hs => by simp at hs; omega) (by simp)
  simp [-List.getD_eq_getElem?_getD] at e
  obtain ⟨a', b', c', d', hr', sp⟩ := spoils ns n h1 h12 a b c d hr (some (.fz (.lst [tupI a, tupI b, tupI c, tupI d]))) ds hl hd
  have lp := law_loop ns n a' b' c' d' (some (.fz (.lst [tupI a, tupI b, tupI c, tupI d]))) (some (.fz (.lst (ds.map .int)))) (some (.fz (.lst [tupI a', tupI b', tupI c', tupI d']))) hr'
  simp [lrows] at la
  have cut : ∀ (x y z w : List Int) (ρ0 : Env), ρ0.length = 8 → lcGo (.nm 7) (fun _ => .ok true) (sCall tupF (sCons (sVar 7) sNil)) ρ0 [lstI x, lstI y, lstI z, lstI w] = .ok [tupI x, tupI y, tupI z, tupI w] := fun x y z w ρ0 h0 =>
    lc_map (en := fun r => lstI r) (fun r => tupI r) [x, y, z, w] (fun r _ => ⟨_, rfl, rfl, .fz (tupI r), by simp [run, runS, runIO, startIO, endIO, startS, qS, fzAt, sSet, evA, evB, evC, evM, evAT, evBT, viewF, viewB, seeF, seeB, sVar, sC, R.bind, sCall, sCons, sNil, R.of, thenS, thenB, Out.seq, sLst, sTup, sFor, evAI, evCI, sRange1, sRange2, killS, sRet, frzI, frzA, frz1, S.d, sIfS, sBool, sTru, truD, sAnd, sOr, sNot, sIf, sAndV, sOrV, sNotV, sNotT, sOp, addO, mulO, fzI, fzB, eqO, neO, isO, isN, isnotO, inO, notInO, ixO, lenO, intF, absF, tupF, lstF, sIsTy, isTy, sDrop, sMut1, sMut0, getO, fAppend, fPopAt, fPop, fClear, sSeq, itemsO, sEnum, sZip, sLc, sLc2, CT.set, setsD, wipeE, sChain, sFn, sFnS, sRaise, gN, gT, gsCons, gsNil, sSl, sPart, slO, sCount, seqI, sGet2, keyD, sAppT, getT, toT, sSetIx, sNeg, enum0 D.int 0, zip_map, range_map, Turn, Fin, eqv, immS, tupI, natI, lstI, stD, -List.getD_eq_getElem?_getD, h0], rfl⟩)
  have cut2 : ∀ (x y z w : List Int) (ρ0 : Env), ρ0.length = 8 → lcGo (.nm 7) (fun _ => .ok true) (sCall lstF (sCons (sVar 7) sNil)) ρ0 [tupI x, tupI y, tupI z, tupI w] = .ok [lstI x, lstI y, lstI z, lstI w] := fun x y z w ρ0 h0 =>
    lc_map (en := fun r => tupI r) (fun r => lstI r) [x, y, z, w] (fun r _ => ⟨_, rfl, rfl, .ow (r.map .int), by simp [run, runS, runIO, startIO, endIO, startS, qS, fzAt, sSet, evA, evB, evC, evM, evAT, evBT, viewF, viewB, seeF, seeB, sVar, sC, R.bind, sCall, sCons, sNil, R.of, thenS, thenB, Out.seq, sLst, sTup, sFor, evAI, evCI, sRange1, sRange2, killS, sRet, frzI, frzA, frz1, S.d, sIfS, sBool, sTru, truD, sAnd, sOr, sNot, sIf, sAndV, sOrV, sNotV, sNotT, sOp, addO, mulO, fzI, fzB, eqO, neO, isO, isN, isnotO, inO, notInO, ixO, lenO, intF, absF, tupF, lstF, sIsTy, isTy, sDrop, sMut1, sMut0, getO, fAppend, fPopAt, fPop, fClear, sSeq, itemsO, sEnum, sZip, sLc, sLc2, CT.set, setsD, wipeE, sChain, sFn, sFnS, sRaise, gN, gT, gsCons, gsNil, sSl, sPart, slO, sCount, seqI, sGet2, keyD, sAppT, getT, toT, sSetIx, sNeg, enum0 D.int 0, zip_map, range_map, Turn, Fin, eqv, immS, tupI, natI, lstI, stD, -List.getD_eq_getElem?_getD, h0], rfl⟩)
  have b3 : L2.atI ([lstI a, lstI b, lstI c, lstI d]) 3 = some (lstI d) := at_lit _ 3 _ rfl
  have key : run 8 b_law [.scr ns] = .ok (.fz (.bl true)) := by
    unfold run b_law
    rw [qS_nx (ρ' := [some (.fz (.scr ns)), some (.fz (.int (n : Int))), none, none, none, none, none, none]) (by simp [run, runS, runIO, startIO, endIO, startS, qS, fzAt, sSet, evA, evB, evC, evM, evAT, evBT, viewF, viewB, seeF, seeB, sVar, sC, R.bind, sCall, sCons, sNil, R.of, thenS, thenB, Out.seq, sLst, sTup, sFor, evAI, evCI, sRange1, sRange2, killS, sRet, frzI, frzA, frz1, S.d, sIfS, sBool, sTru, truD, sAnd, sOr, sNot, sIf, sAndV, sOrV, sNotV, sNotT, sOp, addO, mulO, fzI, fzB, eqO, neO, isO, isN, isnotO, inO, notInO, ixO, lenO, intF, absF, tupF, lstF, sIsTy, isTy, sDrop, sMut1, sMut0, getO, fAppend, fPopAt, fPop, fClear, sSeq, itemsO, sEnum, sZip, sLc, sLc2, CT.set, setsD, wipeE, sChain, sFn, sFnS, sRaise, gN, gT, gsCons, gsNil, sSl, sPart, slO, sCount, seqI, sGet2, keyD, sAppT, getT, toT, sSetIx, sNeg, enum0 D.int 0, zip_map, range_map, Turn, Fin, eqv, immS, tupI, natI, lstI, stD, -List.getD_eq_getElem?_getD, c0, hq, hnq])]
    rw [qS_nx (ρ' := lE ns n [a, b, c, d] none none none none) (by simp [run, runS, runIO, startIO, endIO, startS, qS, fzAt, sSet, evA, evB, evC, evM, evAT, evBT, viewF, viewB, seeF, seeB, sVar, sC, R.bind, sCall, sCons, sNil, R.of, thenS, thenB, Out.seq, sLst, sTup, sFor, evAI, evCI, sRange1, sRange2, killS, sRet, frzI, frzA, frz1, S.d, sIfS, sBool, sTru, truD, sAnd, sOr, sNot, sIf, sAndV, sOrV, sNotV, sNotT, sOp, addO, mulO, fzI, fzB, eqO, neO, isO, isN, isnotO, inO, notInO, ixO, lenO, intF, absF, tupF, lstF, sIsTy, isTy, sDrop, sMut1, sMut0, getO, fAppend, fPopAt, fPop, fClear, sSeq, itemsO, sEnum, sZip, sLc, sLc2, CT.set, setsD, wipeE, sChain, sFn, sFnS, sRaise, gN, gT, gsCons, gsNil, sSl, sPart, slO, sCount, seqI, sGet2, keyD, sAppT, getT, toT, sSetIx, sNeg, enum0 D.int 0, zip_map, range_map, Turn, Fin, eqv, immS, tupI, natI, lstI, stD, -List.getD_eq_getElem?_getD, er])]
    rw [qS_nx (ρ' := lE ns n [a, b, c, d] (some (.fz (.lst [tupI a, tupI b, tupI c, tupI d]))) none none none) (by
      simp [run, runS, runIO, startIO, endIO, startS, qS, fzAt, sSet, evA, evB, evC, evM, evAT, evBT, viewF, viewB, seeF, seeB, sVar, sC, R.bind, sCall, sCons, sNil, R.of, thenS, thenB, Out.seq, sLst, sTup, sFor, evAI, evCI, sRange1, sRange2, killS, sRet, frzI, frzA, frz1, S.d, sIfS, sBool, sTru, truD, sAnd, sOr, sNot, sIf, sAndV, sOrV, sNotV, sNotT, sOp, addO, mulO, fzI, fzB, eqO, neO, isO, isN, isnotO, inO, notInO, ixO, lenO, intF, absF, tupF, lstF, sIsTy, isTy, sDrop, sMut1, sMut0, getO, fAppend, fPopAt, fPop, fClear, sSeq, itemsO, sEnum, sZip, sLc, sLc2, CT.set, setsD, wipeE, sChain, sFn, sFnS, sRaise, gN, gT, gsCons, gsNil, sSl, sPart, slO, sCount, seqI, sGet2, keyD, sAppT, getT, toT, sSetIx, sNeg, enum0 D.int 0, zip_map, range_map, Turn, Fin, eqv, immS, tupI, natI, lstI, stD, -List.getD_eq_getElem?_getD, trR, T.d, T.ds, trow_d]
      rw [cut _ _ _ _ _ rfl]
      simp)]
    rw [qS_nx (ρ' := lE ns n [a, b, c, d] (some (.fz (.lst [tupI a, tupI b, tupI c, tupI d]))) none none none) (by
      simp [run, runS, runIO, startIO, endIO, startS, qS, fzAt, sSet, evA, evB, evC, evM, evAT, evBT, viewF, viewB, seeF, seeB, sVar, sC, R.bind, sCall, sCons, sNil, R.of, thenS, thenB, Out.seq, sLst, sTup, sFor, evAI, evCI, sRange1, sRange2, killS, sRet, frzI, frzA, frz1, S.d, sIfS, sBool, sTru, truD, sAnd, sOr, sNot, sIf, sAndV, sOrV, sNotV, sNotT, sOp, addO, mulO, fzI, fzB, eqO, neO, isO, isN, isnotO, inO, notInO, ixO, lenO, intF, absF, tupF, lstF, sIsTy, isTy, sDrop, sMut1, sMut0, getO, fAppend, fPopAt, fPop, fClear, sSeq, itemsO, sEnum, sZip, sLc, sLc2, CT.set, setsD, wipeE, sChain, sFn, sFnS, sRaise, gN, gT, gsCons, gsNil, sSl, sPart, slO, sCount, seqI, sGet2, keyD, sAppT, getT, toT, sSetIx, sNeg, enum0 D.int 0, zip_map, range_map, Turn, Fin, eqv, immS, tupI, natI, lstI, stD, -List.getD_eq_getElem?_getD, trR, T.d, T.ds, trow_d, la])]
    rw [qS_nx (ρ' := lE ns n [a, b, c, d] (some (.fz (.lst [tupI a, tupI b, tupI c, tupI d]))) none none none) (by
      simp [run, runS, runIO, startIO, endIO, startS, qS, fzAt, sSet, evA, evB, evC, evM, evAT, evBT, viewF, viewB, seeF, seeB, sVar, sC, R.bind, sCall, sCons, sNil, R.of, thenS, thenB, Out.seq, sLst, sTup, sFor, evAI, evCI, sRange1, sRange2, killS, sRet, frzI, frzA, frz1, S.d, sIfS, sBool, sTru, truD, sAnd, sOr, sNot, sIf, sAndV, sOrV, sNotV, sNotT, sOp, addO, mulO, fzI, fzB, eqO, neO, isO, isN, isnotO, inO, notInO, ixO, lenO, intF, absF, tupF, lstF, sIsTy, isTy, sDrop, sMut1, sMut0, getO, fAppend, fPopAt, fPop, fClear, sSeq, itemsO, sEnum, sZip, sLc, sLc2, CT.set, setsD, wipeE, sChain, sFn, sFnS, sRaise, gN, gT, gsCons, gsNil, sSl, sPart, slO, sCount, seqI, sGet2, keyD, sAppT, getT, toT, sSetIx, sNeg, enum0 D.int 0, zip_map, range_map, Turn, Fin, eqv, immS, tupI, natI, lstI, stD, -List.getD_eq_getElem?_getD, trR, T.d, T.ds, trow_d, at_cons0, at_cons1, at_cons2, b3, m1, m2])]
    rw [qS_nx (ρ' := lE ns n [a, b, c, d] (some (.fz (.lst [tupI a, tupI b, tupI c, tupI d]))) (some (.fz (.lst (ds.map .int)))) none none) (by
      simp [run, runS, runIO, startIO, endIO, startS, qS, fzAt, sSet, evA, evB, evC, evM, evAT, evBT, viewF, viewB, seeF, seeB, sVar, sC, R.bind, sCall, sCons, sNil, R.of, thenS, thenB, Out.seq, sLst, sTup, sFor, evAI, evCI, sRange1, sRange2, killS, sRet, frzI, frzA, frz1, S.d, sIfS, sBool, sTru, truD, sAnd, sOr, sNot, sIf, sAndV, sOrV, sNotV, sNotT, sOp, addO, mulO, fzI, fzB, eqO, neO, isO, isN, isnotO, inO, notInO, ixO, lenO, intF, absF, tupF, lstF, sIsTy, isTy, sDrop, sMut1, sMut0, getO, fAppend, fPopAt, fPop, fClear, sSeq, itemsO, sEnum, sZip, sLc, sLc2, CT.set, setsD, wipeE, sChain, sFn, sFnS, sRaise, gN, gT, gsCons, gsNil, sSl, sPart, slO, sCount, seqI, sGet2, keyD, sAppT, getT, toT, sSetIx, sNeg, enum0 D.int 0, zip_map, range_map, Turn, Fin, eqv, immS, tupI, natI, lstI, stD, -List.getD_eq_getElem?_getD, c7, e])]
    rw [qS_nx2 sp]
    rw [qS_nx (ρ' := lE ns n [a', b', c', d'] (some (.fz (.lst [tupI a, tupI b, tupI c, tupI d]))) (some (.fz (.lst (ds.map .int)))) (some (.fz (.lst [tupI a', tupI b', tupI c', tupI d']))) none) (by
      simp [run, runS, runIO, startIO, endIO, startS, qS, fzAt, sSet, evA, evB, evC, evM, evAT, evBT, viewF, viewB, seeF, seeB, sVar, sC, R.bind, sCall, sCons, sNil, R.of, thenS, thenB, Out.seq, sLst, sTup, sFor, evAI, evCI, sRange1, sRange2, killS, sRet, frzI, frzA, frz1, S.d, sIfS, sBool, sTru, truD, sAnd, sOr, sNot, sIf, sAndV, sOrV, sNotV, sNotT, sOp, addO, mulO, fzI, fzB, eqO, neO, isO, isN, isnotO, inO, notInO, ixO, lenO, intF, absF, tupF, lstF, sIsTy, isTy, sDrop, sMut1, sMut0, getO, fAppend, fPopAt, fPop, fClear, sSeq, itemsO, sEnum, sZip, sLc, sLc2, CT.set, setsD, wipeE, sChain, sFn, sFnS, sRaise, gN, gT, gsCons, gsNil, sSl, sPart, slO, sCount, seqI, sGet2, keyD, sAppT, getT, toT, sSetIx, sNeg, enum0 D.int 0, zip_map, range_map, Turn, Fin, eqv, immS, tupI, natI, lstI, stD, -List.getD_eq_getElem?_getD, trR, T.d, T.ds, trow_d]
      rw [cut _ _ _ _ _ rfl]
      simp)]
    rw [qS_nx (ρ' := lE ns n [a', b', c', d'] (some (.fz (.lst [tupI a, tupI b, tupI c, tupI d]))) (some (.fz (.lst (ds.map .int)))) (some (.fz (.lst [tupI a', tupI b', tupI c', tupI d']))) none) (by
      simp [run, runS, runIO, startIO, endIO, startS, qS, fzAt, sSet, evA, evB, evC, evM, evAT, evBT, viewF, viewB, seeF, seeB, sVar, sC, R.bind, sCall, sCons, sNil, R.of, thenS, thenB, Out.seq, sLst, sTup, sFor, evAI, evCI, sRange1, sRange2, killS, sRet, frzI, frzA, frz1, S.d, sIfS, sBool, sTru, truD, sAnd, sOr, sNot, sIf, sAndV, sOrV, sNotV, sNotT, sOp, addO, mulO, fzI, fzB, eqO, neO, isO, isN, isnotO, inO, notInO, ixO, lenO, intF, absF, tupF, lstF, sIsTy, isTy, sDrop, sMut1, sMut0, getO, fAppend, fPopAt, fPop, fClear, sSeq, itemsO, sEnum, sZip, sLc, sLc2, CT.set, setsD, wipeE, sChain, sFn, sFnS, sRaise, gN, gT, gsCons, gsNil, sSl, sPart, slO, sCount, seqI, sGet2, keyD, sAppT, getT, toT, sSetIx, sNeg, enum0 D.int 0, zip_map, range_map, Turn, Fin, eqv, immS, tupI, natI, lstI, stD, -List.getD_eq_getElem?_getD]
      exact lp)]
    rw [qS_nx (ρ' := lE ns n [a', b', c', d'] (some (.fz (.lst [tupI a, tupI b, tupI c, tupI d]))) (some (.fz (.lst (ds.map .int)))) (some (.fz (.lst [tupI a', tupI b', tupI c', tupI d']))) none) (by
      simp [run, runS, runIO, startIO, endIO, startS, qS, fzAt, sSet, evA, evB, evC, evM, evAT, evBT, viewF, viewB, seeF, seeB, sVar, sC, R.bind, sCall, sCons, sNil, R.of, thenS, thenB, Out.seq, sLst, sTup, sFor, evAI, evCI, sRange1, sRange2, killS, sRet, frzI, frzA, frz1, S.d, sIfS, sBool, sTru, truD, sAnd, sOr, sNot, sIf, sAndV, sOrV, sNotV, sNotT, sOp, addO, mulO, fzI, fzB, eqO, neO, isO, isN, isnotO, inO, notInO, ixO, lenO, intF, absF, tupF, lstF, sIsTy, isTy, sDrop, sMut1, sMut0, getO, fAppend, fPopAt, fPop, fClear, sSeq, itemsO, sEnum, sZip, sLc, sLc2, CT.set, setsD, wipeE, sChain, sFn, sFnS, sRaise, gN, gT, gsCons, gsNil, sSl, sPart, slO, sCount, seqI, sGet2, keyD, sAppT, getT, toT, sSetIx, sNeg, enum0 D.int 0, zip_map, range_map, Turn, Fin, eqv, immS, tupI, natI, lstI, stD, -List.getD_eq_getElem?_getD, trR, T.d, T.ds, trow_d]
      rw [cut _ _ _ _ _ rfl]
      simp)]
    simp [run, runS, runIO, startIO, endIO, startS, qS, fzAt, sSet, evA, evB, evC, evM, evAT, evBT, viewF, viewB, seeF, seeB, sVar, sC, R.bind, sCall, sCons, sNil, R.of, thenS, thenB, Out.seq, sLst, sTup, sFor, evAI, evCI, sRange1, sRange2, killS, sRet, frzI, frzA, frz1, S.d, sIfS, sBool, sTru, truD, sAnd, sOr, sNot, sIf, sAndV, sOrV, sNotV, sNotT, sOp, addO, mulO, fzI, fzB, eqO, neO, isO, isN, isnotO, inO, notInO, ixO, lenO, intF, absF, tupF, lstF, sIsTy, isTy, sDrop, sMut1, sMut0, getO, fAppend, fPopAt, fPop, fClear, sSeq, itemsO, sEnum, sZip, sLc, sLc2, CT.set, setsD, wipeE, sChain, sFn, sFnS, sRaise, gN, gT, gsCons, gsNil, sSl, sPart, slO, sCount, seqI, sGet2, keyD, sAppT, getT, toT, sSetIx, sNeg, enum0 D.int 0, zip_map, range_map, Turn, Fin, eqv, immS, tupI, natI, lstI, stD, -List.getD_eq_getElem?_getD]
    rw [cut2 _ _ _ _ _ rfl]
    simp [la]
  exact key
end O

end

set_option Elab.async false
set_option linter.all false
set_option maxRecDepth 100000
set_option maxHeartbeats 4000000
namespace O
open PySem PySem.Spec PyProof.Rows L2
abbrev i_BadRoom : Stmt := inClass (top 3) 0
theorem nsc_BadRoom : NdefX.NScope ["self", "row", "__class__"] ["self", "row"] ["__class__"] (defScope i_BadRoom) := NdefX.nscope_by (by decide +kernel)
abbrev i_TooLarge : Stmt := inClass (top 4) 0
theorem nsc_TooLarge : NdefX.NScope ["self", "count", "limit", "__class__"] ["self", "count", "limit"] ["__class__"] (defScope i_TooLarge) := NdefX.nscope_by (by decide +kernel)
def spLaw (K : PySem.W.Frag) (n : Nat) : Sp := fun vs H Q _ => ∃ (a : Addr) (ns : List Int), vs = [.ref a] ∧ SqL K H a (ns.map V.int) ∧ ns.length ≤ n ∧ ∀ H', Q (.bl true) H'
theorem all_mk {l : PySem.W.OpenLaw} {n : Nat} {w : World} {K : PySem.W.Frag} {h : Heap} {mg : Str → Option Value} {fa : Addr} (X : K.In h) (G : h.Ns mainGlobals mg) (hfa : mg "law" = some (.ref fa)) (htop : (l.prog.main.scope.names.lookup ("super" : Str)).isSome = false) (hlaw : ∀ ns : List Int, ns.length ≤ n → sem_law [.scr ns] = .ok (.fz (.bl true)))
    {A_BadArgument : Addr}
    {A_OldNewsError : Addr}
    {A_BadRoom : Addr}
    {A_TooLarge : Addr}
    {nm_BadRoom qn_BadRoom : Str} {N_BadRoom : Addr} {bs_BadRoom sb_BadRoom : List Value} {sn_BadRoomx : List Str} {ab_BadRoom : Bool} {col_BadRoom : Option Bool} {ddx_BadRoom : Option Addr} {k0_BadRoom k1_BadRoom k2_BadRoom k3_BadRoom k5_BadRoom : Option Value}
    {nm_BadArgument qn_BadArgument : Str} {N_BadArgument : Addr} {bs_BadArgument sb_BadArgument : List Value} {sn_BadArgumentx : List Str} {ab_BadArgument : Bool} {col_BadArgument : Option Bool} {ddx_BadArgument : Option Addr} {k0_BadArgument k1_BadArgument k2_BadArgument k3_BadArgument k5_BadArgument : Option Value}
    {I_BadRoom cda_BadRoom cc_BadRoom : Addr} {oc_BadRoom kV_BadRoom dc_BadRoom pm_BadRoom ct_BadRoom xl_BadRoom cl_BadRoom : Value} {od_BadRoom an_BadRoom dd_BadRoom de_BadRoom : Option Addr} {sl_BadRoom sm_BadRoom sn_BadRoom : Array (Option Value)} {vs_BadRoom : Array Value} {fi_BadRoom : Str} {tf_BadRoom : Tok}
    {nm_TooLarge qn_TooLarge : Str} {N_TooLarge : Addr} {bs_TooLarge sb_TooLarge : List Value} {sn_TooLargex : List Str} {ab_TooLarge : Bool} {col_TooLarge : Option Bool} {ddx_TooLarge : Option Addr} {k0_TooLarge k1_TooLarge k2_TooLarge k3_TooLarge k5_TooLarge : Option Value}
    {nm_OldNewsError qn_OldNewsError : Str} {N_OldNewsError : Addr} {bs_OldNewsError sb_OldNewsError : List Value} {sn_OldNewsErrorx : List Str} {ab_OldNewsError : Bool} {col_OldNewsError : Option Bool} {ddx_OldNewsError : Option Addr} {k0_OldNewsError k1_OldNewsError k2_OldNewsError k3_OldNewsError k5_OldNewsError : Option Value}
    {I_TooLarge cda_TooLarge cc_TooLarge : Addr} {oc_TooLarge kV_TooLarge dc_TooLarge pm_TooLarge ct_TooLarge xl_TooLarge cl_TooLarge : Value} {od_TooLarge an_TooLarge dd_TooLarge de_TooLarge : Option Addr} {sl_TooLarge sm_TooLarge sn_TooLarge : Array (Option Value)} {vs_TooLarge : Array Value} {fi_TooLarge : Str} {tf_TooLarge : Tok}
    {f_as_room : Addr} {oc_as_room kV_as_room dc_as_room pm_as_room cd_as_room ct_as_room : Value} {od_as_room an_as_room : Option Addr} {sl_as_room : Array (Option Value)}
    {f_as_lone_room : Addr} {oc_as_lone_room kV_as_lone_room dc_as_lone_room pm_as_lone_room cd_as_lone_room ct_as_lone_room : Value} {od_as_lone_room an_as_lone_room : Option Addr} {sl_as_lone_room : Array (Option Value)}
    {f_need_at_most : Addr} {oc_need_at_most kV_need_at_most dc_need_at_most pm_need_at_most cd_need_at_most ct_need_at_most : Value} {od_need_at_most an_need_at_most : Option Addr} {sl_need_at_most : Array (Option Value)}
    {f_free_houses : Addr} {oc_free_houses kV_free_houses dc_free_houses pm_free_houses cd_free_houses ct_free_houses : Value} {od_free_houses an_free_houses : Option Addr} {sl_free_houses : Array (Option Value)}
    {f_states_of : Addr} {oc_states_of kV_states_of dc_states_of pm_states_of cd_states_of ct_states_of : Value} {od_states_of an_states_of : Option Addr} {sl_states_of : Array (Option Value)}
    {f_is_inside : Addr} {oc_is_inside kV_is_inside dc_is_inside pm_is_inside cd_is_inside ct_is_inside : Value} {od_is_inside an_is_inside : Option Addr} {sl_is_inside : Array (Option Value)}
    {f_lies_within : Addr} {oc_lies_within kV_lies_within dc_lies_within pm_lies_within cd_lies_within ct_lies_within : Value} {od_lies_within an_lies_within : Option Addr} {sl_lies_within : Array (Option Value)}
    {f_same_sized : Addr} {oc_same_sized kV_same_sized dc_same_sized pm_same_sized cd_same_sized ct_same_sized : Value} {od_same_sized an_same_sized : Option Addr} {sl_same_sized : Array (Option Value)}
    {f_meet : Addr} {oc_meet dc_meet pm_meet cd_meet ct_meet : Value} {od_meet an_meet : Option Addr} {sl_meet : Array (Option Value)}
    {f_join : Addr} {oc_join dc_join pm_join cd_join ct_join : Value} {od_join an_join : Option Addr} {sl_join : Array (Option Value)}
    {f__law_cell : Addr} {oc__law_cell kV__law_cell dc__law_cell pm__law_cell cd__law_cell ct__law_cell : Value} {od__law_cell an__law_cell : Option Addr} {sl__law_cell : Array (Option Value)}
    {f__law_draws : Addr} {oc__law_draws kV__law_draws dc__law_draws pm__law_draws cd__law_draws ct__law_draws : Value} {od__law_draws an__law_draws : Option Addr} {sl__law_draws : Array (Option Value)}
    {f__law_rooms : Addr} {oc__law_rooms kV__law_rooms dc__law_rooms pm__law_rooms cd__law_rooms ct__law_rooms : Value} {od__law_rooms an__law_rooms : Option Addr} {sl__law_rooms : Array (Option Value)}
    {f__law_states : Addr} {oc__law_states kV__law_states dc__law_states pm__law_states cd__law_states ct__law_states : Value} {od__law_states an__law_states : Option Addr} {sl__law_states : Array (Option Value)}
    {f__law_inside : Addr} {oc__law_inside kV__law_inside dc__law_inside pm__law_inside cd__law_inside ct__law_inside : Value} {od__law_inside an__law_inside : Option Addr} {sl__law_inside : Array (Option Value)}
    {f__law_meet : Addr} {oc__law_meet kV__law_meet dc__law_meet pm__law_meet cd__law_meet ct__law_meet : Value} {od__law_meet an__law_meet : Option Addr} {sl__law_meet : Array (Option Value)}
    {f__law_join : Addr} {oc__law_join kV__law_join dc__law_join pm__law_join cd__law_join ct__law_join : Value} {od__law_join an__law_join : Option Addr} {sl__law_join : Array (Option Value)}
    {f__law_truth : Addr} {oc__law_truth kV__law_truth dc__law_truth pm__law_truth cd__law_truth ct__law_truth : Value} {od__law_truth an__law_truth : Option Addr} {sl__law_truth : Array (Option Value)}
    {f__law_same : Addr} {oc__law_same kV__law_same dc__law_same pm__law_same cd__law_same ct__law_same : Value} {od__law_same an__law_same : Option Addr} {sl__law_same : Array (Option Value)}
    {f__law_lone_answers : Addr} {oc__law_lone_answers kV__law_lone_answers dc__law_lone_answers pm__law_lone_answers cd__law_lone_answers ct__law_lone_answers : Value} {od__law_lone_answers an__law_lone_answers : Option Addr} {sl__law_lone_answers : Array (Option Value)}
    {f__law_meets : Addr} {oc__law_meets kV__law_meets dc__law_meets pm__law_meets cd__law_meets ct__law_meets : Value} {od__law_meets an__law_meets : Option Addr} {sl__law_meets : Array (Option Value)}
    {f__law_outcome : Addr} {oc__law_outcome kV__law_outcome dc__law_outcome pm__law_outcome cd__law_outcome ct__law_outcome : Value} {od__law_outcome an__law_outcome : Option Addr} {sl__law_outcome : Array (Option Value)}
    {f__law_expected : Addr} {oc__law_expected kV__law_expected dc__law_expected pm__law_expected cd__law_expected ct__law_expected : Value} {od__law_expected an__law_expected : Option Addr} {sl__law_expected : Array (Option Value)}
    {f__law_spoilt : Addr} {oc__law_spoilt kV__law_spoilt dc__law_spoilt pm__law_spoilt cd__law_spoilt ct__law_spoilt : Value} {od__law_spoilt an__law_spoilt : Option Addr} {sl__law_spoilt : Array (Option Value)}
    {f_law : Addr} {oc_law kV_law dc_law pm_law cd_law ct_law : Value} {od_law an_law : Option Addr} {sl_law : Array (Option Value)}
    {t_MOST_HOUSES : Tok}
    {t_FREE : Tok}
    {t_MOST_FREE : Tok}
    (h_a_BadArgument : PySem.W.nsIn K mainGlobals "BadArgument" = some (some (.ref A_BadArgument)))
    (h_a_BadRoom : PySem.W.nsIn K mainGlobals "BadRoom" = some (some (.ref A_BadRoom)))
    (h_a_OldNewsError : PySem.W.nsIn K mainGlobals "OldNewsError" = some (some (.ref A_OldNewsError)))
    (h_a_TooLarge : PySem.W.nsIn K mainGlobals "TooLarge" = some (some (.ref A_TooLarge)))
    (h_dH_BadArgument : PySem.W.hasDictIn K A_BadArgument = true)
    (h_dT_BadArgument : PySem.W.typeIn K (.ref A_BadArgument) = some (.type "type"))
    (h_dE_BadRoom : PySem.W.subIn K (.ref A_BadRoom) (.type "BaseException") = some true)
    (h_dH_BadRoom : PySem.W.hasDictIn K A_BadRoom = true)
    (h_dT_BadRoom : PySem.W.typeIn K (.ref A_BadRoom) = some (.type "type"))
    (h_dH_OldNewsError : PySem.W.hasDictIn K A_OldNewsError = true)
    (h_dT_OldNewsError : PySem.W.typeIn K (.ref A_OldNewsError) = some (.type "type"))
    (h_dE_TooLarge : PySem.W.subIn K (.ref A_TooLarge) (.type "BaseException") = some true)
    (h_dH_TooLarge : PySem.W.hasDictIn K A_TooLarge = true)
    (h_dT_TooLarge : PySem.W.typeIn K (.ref A_TooLarge) = some (.type "type"))
    (h_su_BadRoom_BadArgument : PySem.W.subIn K (.ref A_BadRoom) (.ref A_BadArgument) = some true)
    (h_su_BadRoom_BadRoom : PySem.W.subIn K (.ref A_BadRoom) (.ref A_BadRoom) = some true)
    (h_su_BadRoom_OldNewsError : PySem.W.subIn K (.ref A_BadRoom) (.ref A_OldNewsError) = some true)
    (h_su_BadRoom_TooLarge : PySem.W.subIn K (.ref A_BadRoom) (.ref A_TooLarge) = some false)
    (h_ne_BadRoom_TooLarge : (Value.ref A_BadRoom == Value.ref A_TooLarge) = false)
    (h_su_TooLarge_BadArgument : PySem.W.subIn K (.ref A_TooLarge) (.ref A_BadArgument) = some false)
    (h_ne_TooLarge_BadArgument : (Value.ref A_TooLarge == Value.ref A_BadArgument) = false)
    (h_su_TooLarge_BadRoom : PySem.W.subIn K (.ref A_TooLarge) (.ref A_BadRoom) = some false)
    (h_ne_TooLarge_BadRoom : (Value.ref A_TooLarge == Value.ref A_BadRoom) = false)
    (h_su_TooLarge_OldNewsError : PySem.W.subIn K (.ref A_TooLarge) (.ref A_OldNewsError) = some true)
    (h_su_TooLarge_TooLarge : PySem.W.subIn K (.ref A_TooLarge) (.ref A_TooLarge) = some true)
    (h_gd : PySem.W.specialIn K (.builtin "object.__class__") "__get__" = some (some (.builtin "getset_descriptor.__get__")))
    (h_tkc : PySem.W.takesIn K (.builtin "object.__class__") = some true)
    (h_ns3 : PySem.W.nsIn K PySem.cStatics "thirdparty.any" = some none)
    (h_sup : PySem.W.nsIn K mainGlobals "super" = some none)
    (h_xL_BadRoom : K.lookup A_BadRoom = some (excClassObj nm_BadRoom qn_BadRoom A_BadRoom N_BadRoom bs_BadRoom [.ref A_BadArgument, .ref A_OldNewsError, .type "ValueError", .type "Exception", .type "BaseException", .type "object"] true sn_BadRoomx sb_BadRoom ab_BadRoom col_BadRoom ddx_BadRoom k0_BadRoom k1_BadRoom k2_BadRoom k3_BadRoom k5_BadRoom "ValueError.__new__"))
    (h_xL_BadArgument : K.lookup A_BadArgument = some (excClassObj nm_BadArgument qn_BadArgument A_BadArgument N_BadArgument bs_BadArgument [.ref A_OldNewsError, .type "ValueError", .type "Exception", .type "BaseException", .type "object"] true sn_BadArgumentx sb_BadArgument ab_BadArgument col_BadArgument ddx_BadArgument k0_BadArgument k1_BadArgument k2_BadArgument k3_BadArgument k5_BadArgument "ValueError.__new__"))
    (h_sa_BadRoom : PySem.W.findIn K (.ref A_BadRoom) "__setattr__" = some (some (.builtin "object.__setattr__")))
    (h_ga_BadRoom : PySem.W.findIn K (.ref A_BadRoom) "__getattribute__" = some (some (.builtin "BaseException.__getattribute__")))
    (h_gg_BadRoom : PySem.W.findIn K (.ref A_BadRoom) "__getattr__" = some none)
    (h_ca_BadRoom : PySem.W.findIn K (.ref A_BadRoom) "__class__" = some (some (.builtin "object.__class__")))
    (h_eC_BadRoom : PySem.W.subIn K (.ref A_BadRoom) (.type "BaseException") = some true)
    (h_eV_BadRoom : PySem.W.subIn K (.ref A_BadRoom) (.type "ValueError") = some true)
    (h_tC_BadRoom : PySem.W.typeIn K (.ref A_BadRoom) = some (.type "type"))
    (h_kC_BadRoom : PySem.W.keepIn K (.ref A_BadRoom) = true)
    (h_hC_BadRoom : PySem.W.hasDictIn K A_BadRoom = true)
    (h_mO_BadRoom : PySem.W.mroIn K A_BadRoom (.type "object") = some true)
    (h_mS_BadRoom : PySem.W.mroIn K A_BadRoom (.ref A_BadRoom) = some true)
    (h_sI_BadRoom : PySem.W.findIn K (.ref A_BadArgument) "__init__" = some (some (.builtin "ValueError.__init__")))
    (h_no_BadRoom_count : PySem.W.findIn K (.ref A_BadRoom) "count" = some none)
    (h_no_BadRoom_limit : PySem.W.findIn K (.ref A_BadRoom) "limit" = some none)
    (h_no_BadRoom_row : PySem.W.findIn K (.ref A_BadRoom) "row" = some none)
    (h_iC_BadRoom : PySem.W.findIn K (.ref A_BadRoom) "__init__" = some (some (.ref I_BadRoom)))
    (h_tI_BadRoom : PySem.W.typeIn K (.ref I_BadRoom) = some (.type "function"))
    (h_l_BadRoom : K.lookup I_BadRoom = some ⟨oc_BadRoom, od_BadRoom, .func (PySem.W.fnX "__init__" "BadRoom.__init__" (defArgs i_BadRoom) (defBody i_BadRoom) (defScope i_BadRoom) [("__class__", cc_BadRoom)] .none kV_BadRoom dc_BadRoom pm_BadRoom an_BadRoom (.ref cda_BadRoom) ct_BadRoom), sl_BadRoom⟩)
    (h_cd_BadRoom : PySem.W.codeIn K (.ref cda_BadRoom) "BadRoom.__init__" = true)
    (h_cc_BadRoom : K.lookup cc_BadRoom = some ⟨xl_BadRoom, dd_BadRoom, .cell (some (.ref A_BadRoom)), sm_BadRoom⟩)
    (h_co_BadRoom : K.lookup cda_BadRoom = some ⟨cl_BadRoom, de_BadRoom, .fields vs_BadRoom, sn_BadRoom⟩)
    (h_v2_BadRoom : vs_BadRoom[2]? = some (.str fi_BadRoom tf_BadRoom))
    (h_fi_BadRoom : (l.prog.main.file == fi_BadRoom) = true)
    (h_xL_TooLarge : K.lookup A_TooLarge = some (excClassObj nm_TooLarge qn_TooLarge A_TooLarge N_TooLarge bs_TooLarge [.ref A_OldNewsError, .type "ValueError", .type "Exception", .type "BaseException", .type "object"] true sn_TooLargex sb_TooLarge ab_TooLarge col_TooLarge ddx_TooLarge k0_TooLarge k1_TooLarge k2_TooLarge k3_TooLarge k5_TooLarge "ValueError.__new__"))
    (h_xL_OldNewsError : K.lookup A_OldNewsError = some (excClassObj nm_OldNewsError qn_OldNewsError A_OldNewsError N_OldNewsError bs_OldNewsError [.type "ValueError", .type "Exception", .type "BaseException", .type "object"] true sn_OldNewsErrorx sb_OldNewsError ab_OldNewsError col_OldNewsError ddx_OldNewsError k0_OldNewsError k1_OldNewsError k2_OldNewsError k3_OldNewsError k5_OldNewsError "ValueError.__new__"))
    (h_sa_TooLarge : PySem.W.findIn K (.ref A_TooLarge) "__setattr__" = some (some (.builtin "object.__setattr__")))
    (h_ga_TooLarge : PySem.W.findIn K (.ref A_TooLarge) "__getattribute__" = some (some (.builtin "BaseException.__getattribute__")))
    (h_gg_TooLarge : PySem.W.findIn K (.ref A_TooLarge) "__getattr__" = some none)
    (h_ca_TooLarge : PySem.W.findIn K (.ref A_TooLarge) "__class__" = some (some (.builtin "object.__class__")))
    (h_eC_TooLarge : PySem.W.subIn K (.ref A_TooLarge) (.type "BaseException") = some true)
    (h_eV_TooLarge : PySem.W.subIn K (.ref A_TooLarge) (.type "ValueError") = some true)
    (h_tC_TooLarge : PySem.W.typeIn K (.ref A_TooLarge) = some (.type "type"))
    (h_kC_TooLarge : PySem.W.keepIn K (.ref A_TooLarge) = true)
    (h_hC_TooLarge : PySem.W.hasDictIn K A_TooLarge = true)
    (h_mO_TooLarge : PySem.W.mroIn K A_TooLarge (.type "object") = some true)
    (h_mS_TooLarge : PySem.W.mroIn K A_TooLarge (.ref A_TooLarge) = some true)
    (h_sI_TooLarge : PySem.W.findIn K (.ref A_OldNewsError) "__init__" = some (some (.builtin "ValueError.__init__")))
    (h_no_TooLarge_count : PySem.W.findIn K (.ref A_TooLarge) "count" = some none)
    (h_no_TooLarge_limit : PySem.W.findIn K (.ref A_TooLarge) "limit" = some none)
    (h_no_TooLarge_row : PySem.W.findIn K (.ref A_TooLarge) "row" = some none)
    (h_iC_TooLarge : PySem.W.findIn K (.ref A_TooLarge) "__init__" = some (some (.ref I_TooLarge)))
    (h_tI_TooLarge : PySem.W.typeIn K (.ref I_TooLarge) = some (.type "function"))
    (h_l_TooLarge : K.lookup I_TooLarge = some ⟨oc_TooLarge, od_TooLarge, .func (PySem.W.fnX "__init__" "TooLarge.__init__" (defArgs i_TooLarge) (defBody i_TooLarge) (defScope i_TooLarge) [("__class__", cc_TooLarge)] .none kV_TooLarge dc_TooLarge pm_TooLarge an_TooLarge (.ref cda_TooLarge) ct_TooLarge), sl_TooLarge⟩)
    (h_cd_TooLarge : PySem.W.codeIn K (.ref cda_TooLarge) "TooLarge.__init__" = true)
    (h_cc_TooLarge : K.lookup cc_TooLarge = some ⟨xl_TooLarge, dd_TooLarge, .cell (some (.ref A_TooLarge)), sm_TooLarge⟩)
    (h_co_TooLarge : K.lookup cda_TooLarge = some ⟨cl_TooLarge, de_TooLarge, .fields vs_TooLarge, sn_TooLarge⟩)
    (h_v2_TooLarge : vs_TooLarge[2]? = some (.str fi_TooLarge tf_TooLarge))
    (h_fi_TooLarge : (l.prog.main.file == fi_TooLarge) = true)
    (h_a_as_room : PySem.W.nsIn K mainGlobals "as_room" = some (some (.ref f_as_room)))
    (h_l_as_room : K.lookup f_as_room = some ⟨oc_as_room, od_as_room, .func (PySem.W.fnOf "as_room" "as_room" (defArgs s_as_room) (defBody s_as_room) (defScope s_as_room) .none kV_as_room dc_as_room pm_as_room an_as_room cd_as_room ct_as_room), sl_as_room⟩)
    (h_c_as_room : PySem.W.codeIn K cd_as_room "as_room" = true)
    (h_k_as_room : PySem.W.keepIn K (.ref f_as_room) = true)
    (h_a_as_lone_room : PySem.W.nsIn K mainGlobals "as_lone_room" = some (some (.ref f_as_lone_room)))
    (h_l_as_lone_room : K.lookup f_as_lone_room = some ⟨oc_as_lone_room, od_as_lone_room, .func (PySem.W.fnOf "as_lone_room" "as_lone_room" (defArgs s_as_lone_room) (defBody s_as_lone_room) (defScope s_as_lone_room) .none kV_as_lone_room dc_as_lone_room pm_as_lone_room an_as_lone_room cd_as_lone_room ct_as_lone_room), sl_as_lone_room⟩)
    (h_c_as_lone_room : PySem.W.codeIn K cd_as_lone_room "as_lone_room" = true)
    (h_k_as_lone_room : PySem.W.keepIn K (.ref f_as_lone_room) = true)
    (h_a_need_at_most : PySem.W.nsIn K mainGlobals "need_at_most" = some (some (.ref f_need_at_most)))
    (h_l_need_at_most : K.lookup f_need_at_most = some ⟨oc_need_at_most, od_need_at_most, .func (PySem.W.fnOf "need_at_most" "need_at_most" (defArgs s_need_at_most) (defBody s_need_at_most) (defScope s_need_at_most) .none kV_need_at_most dc_need_at_most pm_need_at_most an_need_at_most cd_need_at_most ct_need_at_most), sl_need_at_most⟩)
    (h_c_need_at_most : PySem.W.codeIn K cd_need_at_most "need_at_most" = true)
    (h_k_need_at_most : PySem.W.keepIn K (.ref f_need_at_most) = true)
    (h_a_free_houses : PySem.W.nsIn K mainGlobals "free_houses" = some (some (.ref f_free_houses)))
    (h_l_free_houses : K.lookup f_free_houses = some ⟨oc_free_houses, od_free_houses, .func (PySem.W.fnOf "free_houses" "free_houses" (defArgs s_free_houses) (defBody s_free_houses) (defScope s_free_houses) .none kV_free_houses dc_free_houses pm_free_houses an_free_houses cd_free_houses ct_free_houses), sl_free_houses⟩)
    (h_c_free_houses : PySem.W.codeIn K cd_free_houses "free_houses" = true)
    (h_k_free_houses : PySem.W.keepIn K (.ref f_free_houses) = true)
    (h_a_states_of : PySem.W.nsIn K mainGlobals "states_of" = some (some (.ref f_states_of)))
    (h_l_states_of : K.lookup f_states_of = some ⟨oc_states_of, od_states_of, .func (PySem.W.fnOf "states_of" "states_of" (defArgs s_states_of) (defBody s_states_of) (defScope s_states_of) .none kV_states_of dc_states_of pm_states_of an_states_of cd_states_of ct_states_of), sl_states_of⟩)
    (h_c_states_of : PySem.W.codeIn K cd_states_of "states_of" = true)
    (h_k_states_of : PySem.W.keepIn K (.ref f_states_of) = true)
    (h_a_is_inside : PySem.W.nsIn K mainGlobals "is_inside" = some (some (.ref f_is_inside)))
    (h_l_is_inside : K.lookup f_is_inside = some ⟨oc_is_inside, od_is_inside, .func (PySem.W.fnOf "is_inside" "is_inside" (defArgs s_is_inside) (defBody s_is_inside) (defScope s_is_inside) .none kV_is_inside dc_is_inside pm_is_inside an_is_inside cd_is_inside ct_is_inside), sl_is_inside⟩)
    (h_c_is_inside : PySem.W.codeIn K cd_is_inside "is_inside" = true)
    (h_k_is_inside : PySem.W.keepIn K (.ref f_is_inside) = true)
    (h_a_lies_within : PySem.W.nsIn K mainGlobals "lies_within" = some (some (.ref f_lies_within)))
    (h_l_lies_within : K.lookup f_lies_within = some ⟨oc_lies_within, od_lies_within, .func (PySem.W.fnOf "lies_within" "lies_within" (defArgs s_lies_within) (defBody s_lies_within) (defScope s_lies_within) .none kV_lies_within dc_lies_within pm_lies_within an_lies_within cd_lies_within ct_lies_within), sl_lies_within⟩)
    (h_c_lies_within : PySem.W.codeIn K cd_lies_within "lies_within" = true)
    (h_k_lies_within : PySem.W.keepIn K (.ref f_lies_within) = true)
    (h_a_same_sized : PySem.W.nsIn K mainGlobals "same_sized" = some (some (.ref f_same_sized)))
    (h_l_same_sized : K.lookup f_same_sized = some ⟨oc_same_sized, od_same_sized, .func (PySem.W.fnOf "same_sized" "same_sized" (defArgs s_same_sized) (defBody s_same_sized) (defScope s_same_sized) .none kV_same_sized dc_same_sized pm_same_sized an_same_sized cd_same_sized ct_same_sized), sl_same_sized⟩)
    (h_c_same_sized : PySem.W.codeIn K cd_same_sized "same_sized" = true)
    (h_k_same_sized : PySem.W.keepIn K (.ref f_same_sized) = true)
    (h_a_meet : PySem.W.nsIn K mainGlobals "meet" = some (some (.ref f_meet)))
    (h_l_meet : K.lookup f_meet = some ⟨oc_meet, od_meet, .func (PySem.W.fnOf "meet" "meet" (defArgs s_meet) (defBody s_meet) (defScope s_meet) .none .none dc_meet pm_meet an_meet cd_meet ct_meet), sl_meet⟩)
    (h_c_meet : PySem.W.codeIn K cd_meet "meet" = true)
    (h_k_meet : PySem.W.keepIn K (.ref f_meet) = true)
    (h_a_join : PySem.W.nsIn K mainGlobals "join" = some (some (.ref f_join)))
    (h_l_join : K.lookup f_join = some ⟨oc_join, od_join, .func (PySem.W.fnOf "join" "join" (defArgs s_join) (defBody s_join) (defScope s_join) .none .none dc_join pm_join an_join cd_join ct_join), sl_join⟩)
    (h_c_join : PySem.W.codeIn K cd_join "join" = true)
    (h_k_join : PySem.W.keepIn K (.ref f_join) = true)
    (h_a__law_cell : PySem.W.nsIn K mainGlobals "_law_cell" = some (some (.ref f__law_cell)))
    (h_l__law_cell : K.lookup f__law_cell = some ⟨oc__law_cell, od__law_cell, .func (PySem.W.fnOf "_law_cell" "_law_cell" (defArgs s__law_cell) (defBody s__law_cell) (defScope s__law_cell) .none kV__law_cell dc__law_cell pm__law_cell an__law_cell cd__law_cell ct__law_cell), sl__law_cell⟩)
    (h_c__law_cell : PySem.W.codeIn K cd__law_cell "_law_cell" = true)
    (h_k__law_cell : PySem.W.keepIn K (.ref f__law_cell) = true)
    (h_a__law_draws : PySem.W.nsIn K mainGlobals "_law_draws" = some (some (.ref f__law_draws)))
    (h_l__law_draws : K.lookup f__law_draws = some ⟨oc__law_draws, od__law_draws, .func (PySem.W.fnOf "_law_draws" "_law_draws" (defArgs s__law_draws) (defBody s__law_draws) (defScope s__law_draws) .none kV__law_draws dc__law_draws pm__law_draws an__law_draws cd__law_draws ct__law_draws), sl__law_draws⟩)
    (h_c__law_draws : PySem.W.codeIn K cd__law_draws "_law_draws" = true)
    (h_k__law_draws : PySem.W.keepIn K (.ref f__law_draws) = true)
    (h_a__law_rooms : PySem.W.nsIn K mainGlobals "_law_rooms" = some (some (.ref f__law_rooms)))
    (h_l__law_rooms : K.lookup f__law_rooms = some ⟨oc__law_rooms, od__law_rooms, .func (PySem.W.fnOf "_law_rooms" "_law_rooms" (defArgs s__law_rooms) (defBody s__law_rooms) (defScope s__law_rooms) .none kV__law_rooms dc__law_rooms pm__law_rooms an__law_rooms cd__law_rooms ct__law_rooms), sl__law_rooms⟩)
    (h_c__law_rooms : PySem.W.codeIn K cd__law_rooms "_law_rooms" = true)
    (h_k__law_rooms : PySem.W.keepIn K (.ref f__law_rooms) = true)
    (h_a__law_states : PySem.W.nsIn K mainGlobals "_law_states" = some (some (.ref f__law_states)))
    (h_l__law_states : K.lookup f__law_states = some ⟨oc__law_states, od__law_states, .func (PySem.W.fnOf "_law_states" "_law_states" (defArgs s__law_states) (defBody s__law_states) (defScope s__law_states) .none kV__law_states dc__law_states pm__law_states an__law_states cd__law_states ct__law_states), sl__law_states⟩)
    (h_c__law_states : PySem.W.codeIn K cd__law_states "_law_states" = true)
    (h_k__law_states : PySem.W.keepIn K (.ref f__law_states) = true)
    (h_a__law_inside : PySem.W.nsIn K mainGlobals "_law_inside" = some (some (.ref f__law_inside)))
    (h_l__law_inside : K.lookup f__law_inside = some ⟨oc__law_inside, od__law_inside, .func (PySem.W.fnOf "_law_inside" "_law_inside" (defArgs s__law_inside) (defBody s__law_inside) (defScope s__law_inside) .none kV__law_inside dc__law_inside pm__law_inside an__law_inside cd__law_inside ct__law_inside), sl__law_inside⟩)
    (h_c__law_inside : PySem.W.codeIn K cd__law_inside "_law_inside" = true)
    (h_k__law_inside : PySem.W.keepIn K (.ref f__law_inside) = true)
    (h_a__law_meet : PySem.W.nsIn K mainGlobals "_law_meet" = some (some (.ref f__law_meet)))
    (h_l__law_meet : K.lookup f__law_meet = some ⟨oc__law_meet, od__law_meet, .func (PySem.W.fnOf "_law_meet" "_law_meet" (defArgs s__law_meet) (defBody s__law_meet) (defScope s__law_meet) .none kV__law_meet dc__law_meet pm__law_meet an__law_meet cd__law_meet ct__law_meet), sl__law_meet⟩)
    (h_c__law_meet : PySem.W.codeIn K cd__law_meet "_law_meet" = true)
    (h_k__law_meet : PySem.W.keepIn K (.ref f__law_meet) = true)
    (h_a__law_join : PySem.W.nsIn K mainGlobals "_law_join" = some (some (.ref f__law_join)))
    (h_l__law_join : K.lookup f__law_join = some ⟨oc__law_join, od__law_join, .func (PySem.W.fnOf "_law_join" "_law_join" (defArgs s__law_join) (defBody s__law_join) (defScope s__law_join) .none kV__law_join dc__law_join pm__law_join an__law_join cd__law_join ct__law_join), sl__law_join⟩)
    (h_c__law_join : PySem.W.codeIn K cd__law_join "_law_join" = true)
    (h_k__law_join : PySem.W.keepIn K (.ref f__law_join) = true)
    (h_a__law_truth : PySem.W.nsIn K mainGlobals "_law_truth" = some (some (.ref f__law_truth)))
    (h_l__law_truth : K.lookup f__law_truth = some ⟨oc__law_truth, od__law_truth, .func (PySem.W.fnOf "_law_truth" "_law_truth" (defArgs s__law_truth) (defBody s__law_truth) (defScope s__law_truth) .none kV__law_truth dc__law_truth pm__law_truth an__law_truth cd__law_truth ct__law_truth), sl__law_truth⟩)
    (h_c__law_truth : PySem.W.codeIn K cd__law_truth "_law_truth" = true)
    (h_k__law_truth : PySem.W.keepIn K (.ref f__law_truth) = true)
    (h_a__law_same : PySem.W.nsIn K mainGlobals "_law_same" = some (some (.ref f__law_same)))
    (h_l__law_same : K.lookup f__law_same = some ⟨oc__law_same, od__law_same, .func (PySem.W.fnOf "_law_same" "_law_same" (defArgs s__law_same) (defBody s__law_same) (defScope s__law_same) .none kV__law_same dc__law_same pm__law_same an__law_same cd__law_same ct__law_same), sl__law_same⟩)
    (h_c__law_same : PySem.W.codeIn K cd__law_same "_law_same" = true)
    (h_k__law_same : PySem.W.keepIn K (.ref f__law_same) = true)
    (h_a__law_lone_answers : PySem.W.nsIn K mainGlobals "_law_lone_answers" = some (some (.ref f__law_lone_answers)))
    (h_l__law_lone_answers : K.lookup f__law_lone_answers = some ⟨oc__law_lone_answers, od__law_lone_answers, .func (PySem.W.fnOf "_law_lone_answers" "_law_lone_answers" (defArgs s__law_lone_answers) (defBody s__law_lone_answers) (defScope s__law_lone_answers) .none kV__law_lone_answers dc__law_lone_answers pm__law_lone_answers an__law_lone_answers cd__law_lone_answers ct__law_lone_answers), sl__law_lone_answers⟩)
    (h_c__law_lone_answers : PySem.W.codeIn K cd__law_lone_answers "_law_lone_answers" = true)
    (h_k__law_lone_answers : PySem.W.keepIn K (.ref f__law_lone_answers) = true)
    (h_a__law_meets : PySem.W.nsIn K mainGlobals "_law_meets" = some (some (.ref f__law_meets)))
    (h_l__law_meets : K.lookup f__law_meets = some ⟨oc__law_meets, od__law_meets, .func (PySem.W.fnOf "_law_meets" "_law_meets" (defArgs s__law_meets) (defBody s__law_meets) (defScope s__law_meets) .none kV__law_meets dc__law_meets pm__law_meets an__law_meets cd__law_meets ct__law_meets), sl__law_meets⟩)
    (h_c__law_meets : PySem.W.codeIn K cd__law_meets "_law_meets" = true)
    (h_k__law_meets : PySem.W.keepIn K (.ref f__law_meets) = true)
    (h_a__law_outcome : PySem.W.nsIn K mainGlobals "_law_outcome" = some (some (.ref f__law_outcome)))
    (h_l__law_outcome : K.lookup f__law_outcome = some ⟨oc__law_outcome, od__law_outcome, .func (PySem.W.fnOf "_law_outcome" "_law_outcome" (defArgs s__law_outcome) (defBody s__law_outcome) (defScope s__law_outcome) .none kV__law_outcome dc__law_outcome pm__law_outcome an__law_outcome cd__law_outcome ct__law_outcome), sl__law_outcome⟩)
    (h_c__law_outcome : PySem.W.codeIn K cd__law_outcome "_law_outcome" = true)
    (h_k__law_outcome : PySem.W.keepIn K (.ref f__law_outcome) = true)
    (h_a__law_expected : PySem.W.nsIn K mainGlobals "_law_expected" = some (some (.ref f__law_expected)))
    (h_l__law_expected : K.lookup f__law_expected = some ⟨oc__law_expected, od__law_expected, .func (PySem.W.fnOf "_law_expected" "_law_expected" (defArgs s__law_expected) (defBody s__law_expected) (defScope s__law_expected) .none kV__law_expected dc__law_expected pm__law_expected an__law_expected cd__law_expected ct__law_expected), sl__law_expected⟩)
    (h_c__law_expected : PySem.W.codeIn K cd__law_expected "_law_expected" = true)
    (h_k__law_expected : PySem.W.keepIn K (.ref f__law_expected) = true)
    (h_a__law_spoilt : PySem.W.nsIn K mainGlobals "_law_spoilt" = some (some (.ref f__law_spoilt)))
    (h_l__law_spoilt : K.lookup f__law_spoilt = some ⟨oc__law_spoilt, od__law_spoilt, .func (PySem.W.fnOf "_law_spoilt" "_law_spoilt" (defArgs s__law_spoilt) (defBody s__law_spoilt) (defScope s__law_spoilt) .none kV__law_spoilt dc__law_spoilt pm__law_spoilt an__law_spoilt cd__law_spoilt ct__law_spoilt), sl__law_spoilt⟩)
    (h_c__law_spoilt : PySem.W.codeIn K cd__law_spoilt "_law_spoilt" = true)
    (h_k__law_spoilt : PySem.W.keepIn K (.ref f__law_spoilt) = true)
    (h_a_law : PySem.W.nsIn K mainGlobals "law" = some (some (.ref f_law)))
    (h_l_law : K.lookup f_law = some ⟨oc_law, od_law, .func (PySem.W.fnOf "law" "law" (defArgs s_law) (defBody s_law) (defScope s_law) .none kV_law dc_law pm_law an_law cd_law ct_law), sl_law⟩)
    (h_c_law : PySem.W.codeIn K cd_law "law" = true)
    (h_k_law : PySem.W.keepIn K (.ref f_law) = true)
    (h_z_abs : PySem.W.nsIn K mainGlobals "abs" = some none)
    (h_z_bool : PySem.W.nsIn K mainGlobals "bool" = some none)
    (h_z_enumerate : PySem.W.nsIn K mainGlobals "enumerate" = some none)
    (h_z_int : PySem.W.nsIn K mainGlobals "int" = some none)
    (h_z_isinstance : PySem.W.nsIn K mainGlobals "isinstance" = some none)
    (h_z_len : PySem.W.nsIn K mainGlobals "len" = some none)
    (h_z_list : PySem.W.nsIn K mainGlobals "list" = some none)
    (h_z_range : PySem.W.nsIn K mainGlobals "range" = some none)
    (h_z_tuple : PySem.W.nsIn K mainGlobals "tuple" = some none)
    (h_z_zip : PySem.W.nsIn K mainGlobals "zip" = some none)
    (h_g_MOST_HOUSES : PySem.W.nsIn K mainGlobals "MOST_HOUSES" = some (some (.int 12 t_MOST_HOUSES)))
    (h_g_FREE : PySem.W.nsIn K mainGlobals "FREE" = some (some (.int 2 t_FREE)))
    (h_g_MOST_FREE : PySem.W.nsIn K mainGlobals "MOST_FREE" = some (some (.int 8 t_MOST_FREE)))
    : ∃ fd : FuncData, (∀ (s : Shared) (v : Value), BindsTo s fd ⟨[v], []⟩ [("_law_script", v)]) ∧ ∀ base : Heap, K.In base → base.Ns mainGlobals mg → FnOk l.prog w K mg base (L2.CX l.prog w) 9 fa fd ["_law_script"] (spLaw K n) := by
  have e := hfa.symm.trans (PySem.W.mg_of X G h_a_law)
  cases e
  refine ⟨PySem.W.fnOf "law" "law" (defArgs s_law) (defBody s_law) (defScope s_law) .none kV_law dc_law pm_law an_law cd_law ct_law, fun s v => .of_eq rfl, fun base hb1 hb2 => ?_⟩
  let cls : Str → Option Addr := fun x => if x = "BadArgument" then some A_BadArgument else if x = "BadRoom" then some A_BadRoom else if x = "OldNewsError" then some A_OldNewsError else if x = "TooLarge" then some A_TooLarge else none
  have cl_BadArgument : cls "BadArgument" = some A_BadArgument := by first | rfl | (simp only [cls]; rfl) | decide +kernel
  have cl_BadRoom : cls "BadRoom" = some A_BadRoom := by first | rfl | (simp only [cls]; rfl) | decide +kernel
  have cl_OldNewsError : cls "OldNewsError" = some A_OldNewsError := by first | rfl | (simp only [cls]; rfl) | decide +kernel
  have cl_TooLarge : cls "TooLarge" = some A_TooLarge := by first | rfl | (simp only [cls]; rfl) | decide +kernel
  have T_BadRoom : OexC K A_BadRoom := by
    exact ⟨⟨_, _, _, _, _, _, _, _, _, _, _, _, _, _, _, h_xL_BadRoom, (show PySem.HandSPX.refsVE [.type "ValueError", .type "Exception", .type "BaseException", .type "object"] = true by decide +kernel)⟩, h_sa_BadRoom, h_eC_BadRoom, h_tC_BadRoom, h_kC_BadRoom⟩
  have cl1_BadRoom : ∃ cd, PySem.W.clsIn K A_BadRoom = some cd := by obtain ⟨cd, hc, _⟩ := PySem.W.any_some h_hC_BadRoom; exact ⟨cd, hc⟩
  have S_BadRoom : SupK l.prog K mg "BadRoom.__init__" (defArgs i_BadRoom) I_BadRoom cda_BadRoom cc_BadRoom A_BadRoom A_BadRoom := ⟨⟨_, _, _, _, h_l_BadRoom, rfl⟩, ⟨_, _, _, _, _, _, h_co_BadRoom, h_v2_BadRoom, h_fi_BadRoom⟩, ⟨_, _, _, h_cc_BadRoom⟩, cl1_BadRoom, h_mS_BadRoom, PySem.W.mg_none_of X G h_sup, htop⟩
  have F_BadRoom : FnOk l.prog w K mg base (L2.CX l.prog w) 1 I_BadRoom (PySem.W.fnX "__init__" "BadRoom.__init__" (defArgs i_BadRoom) (defBody i_BadRoom) (defScope i_BadRoom) [("__class__", cc_BadRoom)] .none kV_BadRoom dc_BadRoom pm_BadRoom an_BadRoom (.ref cda_BadRoom) ct_BadRoom) ["self", "row"] (spXI A_BadRoom ["row"]) := by
    refine initX_ok h_l_BadRoom h_cd_BadRoom nsc_BadRoom rfl S_BadRoom T_BadRoom (super_of h_xL_BadRoom h_xL_BadArgument h_sI_BadRoom) h_eV_BadRoom h_ns3 rfl rfl rfl rfl rfl (fun _ => rfl) (fun _ => rfl) _ (fun _ => rfl) fun A outer s H vs Q E hsp => ⟨_, pss_one (ps_ost (pv 0) (pv 1)), ?_⟩
    obtain ⟨a, ws, rfl, hl, ha, hk⟩ := hsp
    obtain ⟨y, rfl⟩ := zip1 (fs := "") hl
    exact read1 T_BadRoom h_no_BadRoom_row ha hk rfl rfl
  have X_BadRoom : ExcK l.prog w K mg base (G0 cls) "BadRoom" ["row"] 1 := ⟨⟨A_BadRoom, I_BadRoom, _, ["self", "row"], cl_BadRoom, PySem.W.mg_of X G h_a_BadRoom, T_BadRoom, h_iC_BadRoom, h_tI_BadRoom, F_BadRoom, .all fun us hl => match us, hl with | [_, _], _ => rfl⟩, by decide +kernel, by decide⟩
  have T_TooLarge : OexC K A_TooLarge := by
    exact ⟨⟨_, _, _, _, _, _, _, _, _, _, _, _, _, _, _, h_xL_TooLarge, (show PySem.HandSPX.refsVE [.type "ValueError", .type "Exception", .type "BaseException", .type "object"] = true by decide +kernel)⟩, h_sa_TooLarge, h_eC_TooLarge, h_tC_TooLarge, h_kC_TooLarge⟩
  have cl1_TooLarge : ∃ cd, PySem.W.clsIn K A_TooLarge = some cd := by obtain ⟨cd, hc, _⟩ := PySem.W.any_some h_hC_TooLarge; exact ⟨cd, hc⟩
  have S_TooLarge : SupK l.prog K mg "TooLarge.__init__" (defArgs i_TooLarge) I_TooLarge cda_TooLarge cc_TooLarge A_TooLarge A_TooLarge := ⟨⟨_, _, _, _, h_l_TooLarge, rfl⟩, ⟨_, _, _, _, _, _, h_co_TooLarge, h_v2_TooLarge, h_fi_TooLarge⟩, ⟨_, _, _, h_cc_TooLarge⟩, cl1_TooLarge, h_mS_TooLarge, PySem.W.mg_none_of X G h_sup, htop⟩
  have F_TooLarge : FnOk l.prog w K mg base (L2.CX l.prog w) 1 I_TooLarge (PySem.W.fnX "__init__" "TooLarge.__init__" (defArgs i_TooLarge) (defBody i_TooLarge) (defScope i_TooLarge) [("__class__", cc_TooLarge)] .none kV_TooLarge dc_TooLarge pm_TooLarge an_TooLarge (.ref cda_TooLarge) ct_TooLarge) ["self", "count", "limit"] (spXI A_TooLarge ["count", "limit"]) := by
    refine initX_ok h_l_TooLarge h_cd_TooLarge nsc_TooLarge rfl S_TooLarge T_TooLarge (super_of h_xL_TooLarge h_xL_OldNewsError h_sI_TooLarge) h_eV_TooLarge h_ns3 rfl rfl rfl rfl rfl (fun _ => rfl) (fun _ => rfl) _ (fun _ => rfl) fun A outer s H vs Q E hsp => ⟨_, pss_cons (ps_ost (pv 0) (pv 1)) (pss_one (ps_ost (pv 0) (pv 2))), ?_⟩
    obtain ⟨a, ws, rfl, hl, ha, hk⟩ := hsp
    obtain ⟨y, z, rfl⟩ := zip2 hl
    exact read2 T_TooLarge h_no_TooLarge_count h_no_TooLarge_limit ha hk rfl rfl rfl
  have X_TooLarge : ExcK l.prog w K mg base (G0 cls) "TooLarge" ["count", "limit"] 1 := ⟨⟨A_TooLarge, I_TooLarge, _, ["self", "count", "limit"], cl_TooLarge, PySem.W.mg_of X G h_a_TooLarge, T_TooLarge, h_iC_TooLarge, h_tI_TooLarge, F_TooLarge, .all fun us hl => match us, hl with | [_, _, _], _ => rfl⟩, by decide +kernel, by decide⟩
  have XC : ∀ (c : Str) (C : Addr), c ∈ made → cls c = some C → XcC K C ["count", "limit", "row"] := by
    intro c C hc hC
    simp only [made, List.mem_cons, List.not_mem_nil, or_false] at hc
    rcases hc with rfl | rfl
    · rw [cl_BadRoom] at hC
      cases hC
      refine ⟨⟨h_ga_BadRoom, h_gg_BadRoom, h_eC_BadRoom, h_hC_BadRoom⟩, ?_, (by obtain ⟨cd, hc⟩ := cl1_BadRoom; rw [hc]; rfl), h_ca_BadRoom, h_gd, h_tkc, h_mO_BadRoom⟩
      intro f hf
      simp only [List.mem_cons, List.not_mem_nil, or_false] at hf
      rcases hf with rfl | rfl | rfl
      · exact h_no_BadRoom_count
      · exact h_no_BadRoom_limit
      · exact h_no_BadRoom_row
    · rw [cl_TooLarge] at hC
      cases hC
      refine ⟨⟨h_ga_TooLarge, h_gg_TooLarge, h_eC_TooLarge, h_hC_TooLarge⟩, ?_, (by obtain ⟨cd, hc⟩ := cl1_TooLarge; rw [hc]; rfl), h_ca_TooLarge, h_gd, h_tkc, h_mO_TooLarge⟩
      intro f hf
      simp only [List.mem_cons, List.not_mem_nil, or_false] at hf
      rcases hf with rfl | rfl | rfl
      · exact h_no_TooLarge_count
      · exact h_no_TooLarge_limit
      · exact h_no_TooLarge_row
  have KI_BadArgument : ∀ (c : Str) (C : Addr) (b : Bool), cls c = some C → sub c "BadArgument" = some b → PySem.W.kitOne K (.ref C) (.ref A_BadArgument) = some b := by
    intro c C b hC hb
    have hm := subOf_mem hb
    simp only [subT, List.mem_cons, List.not_mem_nil, or_false, Prod.mk.injEq] at hm
    rcases hm with ⟨rfl, h2, rfl⟩ | ⟨rfl, h2, rfl⟩ | ⟨rfl, h2, rfl⟩ | ⟨rfl, h2, rfl⟩ | ⟨rfl, h2, rfl⟩ | ⟨rfl, h2, rfl⟩ | ⟨rfl, h2, rfl⟩ | ⟨rfl, h2, rfl⟩
    · rw [cl_BadRoom] at hC; cases hC; exact kit_of h_su_BadRoom_BadArgument h_dH_BadArgument h_dT_BadArgument (fun z => by cases z)
    · exact absurd h2 (by decide +kernel)
    · exact absurd h2 (by decide +kernel)
    · exact absurd h2 (by decide +kernel)
    · rw [cl_TooLarge] at hC; cases hC; exact kit_of h_su_TooLarge_BadArgument h_dH_BadArgument h_dT_BadArgument (fun _ => h_ne_TooLarge_BadArgument)
    · exact absurd h2 (by decide +kernel)
    · exact absurd h2 (by decide +kernel)
    · exact absurd h2 (by decide +kernel)
  have EX_BadRoom : ∀ (c : Str) (C : Addr) (b : Bool), cls c = some C → sub c "BadRoom" = some b → PySem.W.exmOne K (.ref C) (.ref A_BadRoom) = some b := by
    intro c C b hC hb
    have hm := subOf_mem hb
    simp only [subT, List.mem_cons, List.not_mem_nil, or_false, Prod.mk.injEq] at hm
    rcases hm with ⟨rfl, h2, rfl⟩ | ⟨rfl, h2, rfl⟩ | ⟨rfl, h2, rfl⟩ | ⟨rfl, h2, rfl⟩ | ⟨rfl, h2, rfl⟩ | ⟨rfl, h2, rfl⟩ | ⟨rfl, h2, rfl⟩ | ⟨rfl, h2, rfl⟩
    · exact absurd h2 (by decide +kernel)
    · rw [cl_BadRoom] at hC; cases hC; exact PySem.W.exm_ref h_dE_BadRoom h_dH_BadRoom h_dT_BadRoom h_su_BadRoom_BadRoom
    · exact absurd h2 (by decide +kernel)
    · exact absurd h2 (by decide +kernel)
    · exact absurd h2 (by decide +kernel)
    · rw [cl_TooLarge] at hC; cases hC; exact PySem.W.exm_ref h_dE_BadRoom h_dH_BadRoom h_dT_BadRoom h_su_TooLarge_BadRoom
    · exact absurd h2 (by decide +kernel)
    · exact absurd h2 (by decide +kernel)
  have KI_BadRoom : ∀ (c : Str) (C : Addr) (b : Bool), cls c = some C → sub c "BadRoom" = some b → PySem.W.kitOne K (.ref C) (.ref A_BadRoom) = some b := by
    intro c C b hC hb
    have hm := subOf_mem hb
    simp only [subT, List.mem_cons, List.not_mem_nil, or_false, Prod.mk.injEq] at hm
    rcases hm with ⟨rfl, h2, rfl⟩ | ⟨rfl, h2, rfl⟩ | ⟨rfl, h2, rfl⟩ | ⟨rfl, h2, rfl⟩ | ⟨rfl, h2, rfl⟩ | ⟨rfl, h2, rfl⟩ | ⟨rfl, h2, rfl⟩ | ⟨rfl, h2, rfl⟩
    · exact absurd h2 (by decide +kernel)
    · rw [cl_BadRoom] at hC; cases hC; exact kit_of h_su_BadRoom_BadRoom h_dH_BadRoom h_dT_BadRoom (fun z => by cases z)
    · exact absurd h2 (by decide +kernel)
    · exact absurd h2 (by decide +kernel)
    · exact absurd h2 (by decide +kernel)
    · rw [cl_TooLarge] at hC; cases hC; exact kit_of h_su_TooLarge_BadRoom h_dH_BadRoom h_dT_BadRoom (fun _ => h_ne_TooLarge_BadRoom)
    · exact absurd h2 (by decide +kernel)
    · exact absurd h2 (by decide +kernel)
  have KI_OldNewsError : ∀ (c : Str) (C : Addr) (b : Bool), cls c = some C → sub c "OldNewsError" = some b → PySem.W.kitOne K (.ref C) (.ref A_OldNewsError) = some b := by
    intro c C b hC hb
    have hm := subOf_mem hb
    simp only [subT, List.mem_cons, List.not_mem_nil, or_false, Prod.mk.injEq] at hm
    rcases hm with ⟨rfl, h2, rfl⟩ | ⟨rfl, h2, rfl⟩ | ⟨rfl, h2, rfl⟩ | ⟨rfl, h2, rfl⟩ | ⟨rfl, h2, rfl⟩ | ⟨rfl, h2, rfl⟩ | ⟨rfl, h2, rfl⟩ | ⟨rfl, h2, rfl⟩
    · exact absurd h2 (by decide +kernel)
    · exact absurd h2 (by decide +kernel)
    · rw [cl_BadRoom] at hC; cases hC; exact kit_of h_su_BadRoom_OldNewsError h_dH_OldNewsError h_dT_OldNewsError (fun z => by cases z)
    · exact absurd h2 (by decide +kernel)
    · exact absurd h2 (by decide +kernel)
    · exact absurd h2 (by decide +kernel)
    · rw [cl_TooLarge] at hC; cases hC; exact kit_of h_su_TooLarge_OldNewsError h_dH_OldNewsError h_dT_OldNewsError (fun z => by cases z)
    · exact absurd h2 (by decide +kernel)
  have EX_TooLarge : ∀ (c : Str) (C : Addr) (b : Bool), cls c = some C → sub c "TooLarge" = some b → PySem.W.exmOne K (.ref C) (.ref A_TooLarge) = some b := by
    intro c C b hC hb
    have hm := subOf_mem hb
    simp only [subT, List.mem_cons, List.not_mem_nil, or_false, Prod.mk.injEq] at hm
    rcases hm with ⟨rfl, h2, rfl⟩ | ⟨rfl, h2, rfl⟩ | ⟨rfl, h2, rfl⟩ | ⟨rfl, h2, rfl⟩ | ⟨rfl, h2, rfl⟩ | ⟨rfl, h2, rfl⟩ | ⟨rfl, h2, rfl⟩ | ⟨rfl, h2, rfl⟩
    · exact absurd h2 (by decide +kernel)
    · exact absurd h2 (by decide +kernel)
    · exact absurd h2 (by decide +kernel)
    · rw [cl_BadRoom] at hC; cases hC; exact PySem.W.exm_ref h_dE_TooLarge h_dH_TooLarge h_dT_TooLarge h_su_BadRoom_TooLarge
    · exact absurd h2 (by decide +kernel)
    · exact absurd h2 (by decide +kernel)
    · exact absurd h2 (by decide +kernel)
    · rw [cl_TooLarge] at hC; cases hC; exact PySem.W.exm_ref h_dE_TooLarge h_dH_TooLarge h_dT_TooLarge h_su_TooLarge_TooLarge
  have KI_TooLarge : ∀ (c : Str) (C : Addr) (b : Bool), cls c = some C → sub c "TooLarge" = some b → PySem.W.kitOne K (.ref C) (.ref A_TooLarge) = some b := by
    intro c C b hC hb
    have hm := subOf_mem hb
    simp only [subT, List.mem_cons, List.not_mem_nil, or_false, Prod.mk.injEq] at hm
    rcases hm with ⟨rfl, h2, rfl⟩ | ⟨rfl, h2, rfl⟩ | ⟨rfl, h2, rfl⟩ | ⟨rfl, h2, rfl⟩ | ⟨rfl, h2, rfl⟩ | ⟨rfl, h2, rfl⟩ | ⟨rfl, h2, rfl⟩ | ⟨rfl, h2, rfl⟩
    · exact absurd h2 (by decide +kernel)
    · exact absurd h2 (by decide +kernel)
    · exact absurd h2 (by decide +kernel)
    · rw [cl_BadRoom] at hC; cases hC; exact kit_of h_su_BadRoom_TooLarge h_dH_TooLarge h_dT_TooLarge (fun _ => h_ne_BadRoom_TooLarge)
    · exact absurd h2 (by decide +kernel)
    · exact absurd h2 (by decide +kernel)
    · exact absurd h2 (by decide +kernel)
    · rw [cl_TooLarge] at hC; cases hC; exact kit_of h_su_TooLarge_TooLarge h_dH_TooLarge h_dT_TooLarge (fun z => by cases z)
  have T : Txt l.prog w K mg base cls :=
    { f_as_room := have F := fun_mk (st := s_as_room) h_l_as_room h_c_as_room h_k_as_room; ⟨_, _, PySem.W.mg_of X G h_a_as_room, h_k_as_room, F.binds (ps := ["size", "row"]) (fun _ _ _ _ _ _ us hl => match us, hl with | [_, _], _ => rfl), F⟩,
      f_as_lone_room := have F := fun_mk (st := s_as_lone_room) h_l_as_lone_room h_c_as_lone_room h_k_as_lone_room; ⟨_, _, PySem.W.mg_of X G h_a_as_lone_room, h_k_as_lone_room, F.binds (ps := ["row"]) (fun _ _ _ _ _ _ us hl => match us, hl with | [_], _ => rfl), F⟩,
      f_need_at_most := have F := fun_mk (st := s_need_at_most) h_l_need_at_most h_c_need_at_most h_k_need_at_most; ⟨_, _, PySem.W.mg_of X G h_a_need_at_most, h_k_need_at_most, F.binds (ps := ["count", "limit"]) (fun _ _ _ _ _ _ us hl => match us, hl with | [_, _], _ => rfl), F⟩,
      f_free_houses := have F := fun_mk (st := s_free_houses) h_l_free_houses h_c_free_houses h_k_free_houses; ⟨_, _, PySem.W.mg_of X G h_a_free_houses, h_k_free_houses, F.binds (ps := ["room"]) (fun _ _ _ _ _ _ us hl => match us, hl with | [_], _ => rfl), F⟩,
      f_states_of := have F := fun_mk (st := s_states_of) h_l_states_of h_c_states_of h_k_states_of; ⟨_, _, PySem.W.mg_of X G h_a_states_of, h_k_states_of, F.binds (ps := ["room"]) (fun _ _ _ _ _ _ us hl => match us, hl with | [_], _ => rfl), F⟩,
      f_is_inside := have F := fun_mk (st := s_is_inside) h_l_is_inside h_c_is_inside h_k_is_inside; ⟨_, _, PySem.W.mg_of X G h_a_is_inside, h_k_is_inside, F.binds (ps := ["room", "other"]) (fun _ _ _ _ _ _ us hl => match us, hl with | [_, _], _ => rfl), F⟩,
      f_lies_within := have F := fun_mk (st := s_lies_within) h_l_lies_within h_c_lies_within h_k_lies_within; ⟨_, _, PySem.W.mg_of X G h_a_lies_within, h_k_lies_within, F.binds (ps := ["room", "other"]) (fun _ _ _ _ _ _ us hl => match us, hl with | [_, _], _ => rfl), F⟩,
      f_same_sized := have F := fun_mk (st := s_same_sized) h_l_same_sized h_c_same_sized h_k_same_sized; ⟨_, _, PySem.W.mg_of X G h_a_same_sized, h_k_same_sized, F.binds (ps := ["first", "others"]) (fun _ _ _ _ _ _ us hl => match us, hl with | [_, _], _ => rfl), F⟩,
      f_meet := ⟨_, _, _, _, _, _, _, _, _, PySem.W.mg_of X G h_a_meet, h_k_meet, h_l_meet, h_c_meet⟩,
      f_join := ⟨_, _, _, _, _, _, _, _, _, PySem.W.mg_of X G h_a_join, h_k_join, h_l_join, h_c_join⟩,
      f__law_cell := have F := fun_mk (st := s__law_cell) h_l__law_cell h_c__law_cell h_k__law_cell; ⟨_, _, PySem.W.mg_of X G h_a__law_cell, h_k__law_cell, F.binds (ps := ["_law_script", "_law_k"]) (fun _ _ _ _ _ _ us hl => match us, hl with | [_, _], _ => rfl), F⟩,
      f__law_draws := have F := fun_mk (st := s__law_draws) h_l__law_draws h_c__law_draws h_k__law_draws; ⟨_, _, PySem.W.mg_of X G h_a__law_draws, h_k__law_draws, F.binds (ps := ["_law_cell_here", "_law_sizes"]) (fun _ _ _ _ _ _ us hl => match us, hl with | [_, _], _ => rfl), F⟩,
      f__law_rooms := have F := fun_mk (st := s__law_rooms) h_l__law_rooms h_c__law_rooms h_k__law_rooms; ⟨_, _, PySem.W.mg_of X G h_a__law_rooms, h_k__law_rooms, F.binds (ps := ["_law_script", "_law_size"]) (fun _ _ _ _ _ _ us hl => match us, hl with | [_, _], _ => rfl), F⟩,
      f__law_states := have F := fun_mk (st := s__law_states) h_l__law_states h_c__law_states h_k__law_states; ⟨_, _, PySem.W.mg_of X G h_a__law_states, h_k__law_states, F.binds (ps := ["_law_room"]) (fun _ _ _ _ _ _ us hl => match us, hl with | [_], _ => rfl), F⟩,
      f__law_inside := have F := fun_mk (st := s__law_inside) h_l__law_inside h_c__law_inside h_k__law_inside; ⟨_, _, PySem.W.mg_of X G h_a__law_inside, h_k__law_inside, F.binds (ps := ["_law_room", "_law_other"]) (fun _ _ _ _ _ _ us hl => match us, hl with | [_, _], _ => rfl), F⟩,
      f__law_meet := have F := fun_mk (st := s__law_meet) h_l__law_meet h_c__law_meet h_k__law_meet; ⟨_, _, PySem.W.mg_of X G h_a__law_meet, h_k__law_meet, F.binds (ps := ["_law_rooms_here"]) (fun _ _ _ _ _ _ us hl => match us, hl with | [_], _ => rfl), F⟩,
      f__law_join := have F := fun_mk (st := s__law_join) h_l__law_join h_c__law_join h_k__law_join; ⟨_, _, PySem.W.mg_of X G h_a__law_join, h_k__law_join, F.binds (ps := ["_law_rooms_here"]) (fun _ _ _ _ _ _ us hl => match us, hl with | [_], _ => rfl), F⟩,
      f__law_truth := have F := fun_mk (st := s__law_truth) h_l__law_truth h_c__law_truth h_k__law_truth; ⟨_, _, PySem.W.mg_of X G h_a__law_truth, h_k__law_truth, F.binds (ps := ["_law_actual", "_law_expected_here"]) (fun _ _ _ _ _ _ us hl => match us, hl with | [_, _], _ => rfl), F⟩,
      f__law_same := have F := fun_mk (st := s__law_same) h_l__law_same h_c__law_same h_k__law_same; ⟨_, _, PySem.W.mg_of X G h_a__law_same, h_k__law_same, F.binds (ps := ["_law_actual", "_law_expected_here"]) (fun _ _ _ _ _ _ us hl => match us, hl with | [_, _], _ => rfl), F⟩,
      f__law_lone_answers := have F := fun_mk (st := s__law_lone_answers) h_l__law_lone_answers h_c__law_lone_answers h_k__law_lone_answers; ⟨_, _, PySem.W.mg_of X G h_a__law_lone_answers, h_k__law_lone_answers, F.binds (ps := ["_law_rooms_here"]) (fun _ _ _ _ _ _ us hl => match us, hl with | [_], _ => rfl), F⟩,
      f__law_meets := have F := fun_mk (st := s__law_meets) h_l__law_meets h_c__law_meets h_k__law_meets; ⟨_, _, PySem.W.mg_of X G h_a__law_meets, h_k__law_meets, F.binds (ps := ["_law_first", "_law_second", "_law_third"]) (fun _ _ _ _ _ _ us hl => match us, hl with | [_, _, _], _ => rfl), F⟩,
      f__law_outcome := have F := fun_mk (st := s__law_outcome) h_l__law_outcome h_c__law_outcome h_k__law_outcome; ⟨_, _, PySem.W.mg_of X G h_a__law_outcome, h_k__law_outcome, F.binds (ps := ["_law_name", "_law_rows"]) (fun _ _ _ _ _ _ us hl => match us, hl with | [_, _], _ => rfl), F⟩,
      f__law_expected := have F := fun_mk (st := s__law_expected) h_l__law_expected h_c__law_expected h_k__law_expected; ⟨_, _, PySem.W.mg_of X G h_a__law_expected, h_k__law_expected, F.binds (ps := ["_law_name", "_law_rows"]) (fun _ _ _ _ _ _ us hl => match us, hl with | [_, _], _ => rfl), F⟩,
      f__law_spoilt := have F := fun_mk (st := s__law_spoilt) h_l__law_spoilt h_c__law_spoilt h_k__law_spoilt; ⟨_, _, PySem.W.mg_of X G h_a__law_spoilt, h_k__law_spoilt, F.binds (ps := ["_law_row", "_law_fault", "_law_house", "_law_number"]) (fun _ _ _ _ _ _ us hl => match us, hl with | [_, _, _, _], _ => rfl), F⟩,
      f_law := have F := fun_mk (st := s_law) h_l_law h_c_law h_k_law; ⟨_, _, PySem.W.mg_of X G h_a_law, h_k_law, F.binds (ps := ["_law_script"]) (fun _ _ _ _ _ _ us hl => match us, hl with | [_], _ => rfl), F⟩,
      b_abs := PySem.W.mg_none_of X G h_z_abs,
      b_bool := PySem.W.mg_none_of X G h_z_bool,
      b_enumerate := PySem.W.mg_none_of X G h_z_enumerate,
      b_int := PySem.W.mg_none_of X G h_z_int,
      b_isinstance := PySem.W.mg_none_of X G h_z_isinstance,
      b_len := PySem.W.mg_none_of X G h_z_len,
      b_list := PySem.W.mg_none_of X G h_z_list,
      b_range := PySem.W.mg_none_of X G h_z_range,
      b_tuple := PySem.W.mg_none_of X G h_z_tuple,
      b_zip := PySem.W.mg_none_of X G h_z_zip,
      g_MOST_HOUSES := ⟨_, PySem.W.mg_of X G h_g_MOST_HOUSES⟩,
      g_FREE := ⟨_, PySem.W.mg_of X G h_g_FREE⟩,
      g_MOST_FREE := ⟨_, PySem.W.mg_of X G h_g_MOST_FREE⟩,
      ex_BadRoom := X_BadRoom,
      ex_TooLarge := X_TooLarge,
      xc := XC,
      n_BadArgument := ⟨A_BadArgument, PySem.W.mg_of X G h_a_BadArgument, KI_BadArgument⟩,
      n_BadRoom := ⟨A_BadRoom, PySem.W.mg_of X G h_a_BadRoom, EX_BadRoom, KI_BadRoom⟩,
      n_OldNewsError := ⟨A_OldNewsError, PySem.W.mg_of X G h_a_OldNewsError, KI_OldNewsError⟩,
      n_TooLarge := ⟨A_TooLarge, PySem.W.mg_of X G h_a_TooLarge, EX_TooLarge, KI_TooLarge⟩ }
  have F0 := fun_mk (st := s_law) h_l_law h_c_law h_k_law
  refine FnOk.imp (sp := spD K (G0 cls) 1 sem_law) (ok_law0 T F0) fun vs H Q E ⟨a, ns, ev, hs, hl, k⟩ => ?_
  subst ev
  refine ⟨H, [.scr ns], .refl H, RepL.one (Rep.scr.mpr ⟨a, rfl, hs⟩), rfl, ?_⟩
  rw [hlaw ns hl]
  exact fun v H1 F1 _ r => by rw [Rep.bl.mp (show Rep K (G0 cls) F1 (.bl true) v from r)]; exact k H1
theorem walk {l : PySem.W.OpenLaw} {q : Program} {loose : List Str} {XP : (Str → Option Value) → Heap → Prop} {YP : World → Heap → Prop} {d : DefRec} {K : Params → PySem.W.Frag} {n : Nat} (hn : l.most = some n) (hn2 : n ≤ sizeLine) (hdf : d.params.defaults = [])
    (hY : ∀ (w : World) (h : Heap), YP w h → (K w.params).In h)
    (F : ∀ (w : World) (mg : Str → Option Value) (fa : Addr) (h : Heap), (K w.params).In h → h.Ns mainGlobals mg → mg d.name = some (.ref fa) →
      ∃ fd : FuncData, (∀ (s : Shared) (u : Value), BindsTo s fd ⟨[u], []⟩ [("_law_script", u)]) ∧ ∀ base : Heap, (K w.params).In base → base.Ns mainGlobals mg → FnOk l.prog w (K w.params) mg base (L2.CX l.prog w) 9 fa fd ["_law_script"] (spLaw (K w.params) n)) :
    PySem.W.WalkO q loose XP YP l.row.toRowW d [] (fun f vs => PySem.call f vs) :=
  L2.walk_of (n := n) (k := 9) (x := "_law_script") (CX := fun w => L2.CX l.prog w) (sp := fun w => spLaw (K w.params) n) hn hn2 hdf ⟨rfl, by decide, by decide⟩ hY F (fun _ _ a ns hl _ hS => ⟨a, ns, rfl, hS, hl, fun _ => rfl⟩) fun _ _ _ _ _ ⟨_, _, _, _, _, _, _, _, _, _, _, _, z⟩ => z
end O
open PySem PySem.W PyProof.Rows
set_option maxRecDepth 100000 in
set_option maxHeartbeats 0 in
theorem PySem.Challenge.cw_oldnews_k02_rooms_meet_and_join_holds : PySem.Challenge.rw_oldnews_k02_rooms_meet_and_join.Holds := by
  w_on; o_law; k_head; (case hw => w_witness2)
  k_fill
  refine O.walk (l := PySem.Challenge.rw_oldnews_k02_rooms_meet_and_join) rfl (by decide) rfl (fun w h Y => PySem.W.kIn_of Y) ?F
  case F =>
    intro w mg fa h KX G hmg
    refine' O.all_mk KX G hmg rfl O.law_true ?a_BadArgument ?a_BadRoom ?a_OldNewsError ?a_TooLarge ?dH_BadArgument ?dT_BadArgument ?dE_BadRoom ?dH_BadRoom ?dT_BadRoom ?dH_OldNewsError ?dT_OldNewsError ?dE_TooLarge ?dH_TooLarge ?dT_TooLarge ?su_BadRoom_BadArgument ?su_BadRoom_BadRoom ?su_BadRoom_OldNewsError ?su_BadRoom_TooLarge ?ne_BadRoom_TooLarge ?su_TooLarge_BadArgument ?ne_TooLarge_BadArgument ?su_TooLarge_BadRoom ?ne_TooLarge_BadRoom ?su_TooLarge_OldNewsError ?su_TooLarge_TooLarge ?gd ?tkc ?ns3 ?sup ?xL_BadRoom ?xL_BadArgument ?sa_BadRoom ?ga_BadRoom ?gg_BadRoom ?ca_BadRoom ?eC_BadRoom ?eV_BadRoom ?tC_BadRoom ?kC_BadRoom ?hC_BadRoom ?mO_BadRoom ?mS_BadRoom ?sI_BadRoom ?no_BadRoom_count ?no_BadRoom_limit ?no_BadRoom_row ?iC_BadRoom ?tI_BadRoom ?l_BadRoom ?cd_BadRoom ?cc_BadRoom ?co_BadRoom ?v2_BadRoom ?fi_BadRoom ?xL_TooLarge ?xL_OldNewsError ?sa_TooLarge ?ga_TooLarge ?gg_TooLarge ?ca_TooLarge ?eC_TooLarge ?eV_TooLarge ?tC_TooLarge ?kC_TooLarge ?hC_TooLarge ?mO_TooLarge ?mS_TooLarge ?sI_TooLarge ?no_TooLarge_count ?no_TooLarge_limit ?no_TooLarge_row ?iC_TooLarge ?tI_TooLarge ?l_TooLarge ?cd_TooLarge ?cc_TooLarge ?co_TooLarge ?v2_TooLarge ?fi_TooLarge ?a_as_room ?l_as_room ?c_as_room ?k_as_room ?a_as_lone_room ?l_as_lone_room ?c_as_lone_room ?k_as_lone_room ?a_need_at_most ?l_need_at_most ?c_need_at_most ?k_need_at_most ?a_free_houses ?l_free_houses ?c_free_houses ?k_free_houses ?a_states_of ?l_states_of ?c_states_of ?k_states_of ?a_is_inside ?l_is_inside ?c_is_inside ?k_is_inside ?a_lies_within ?l_lies_within ?c_lies_within ?k_lies_within ?a_same_sized ?l_same_sized ?c_same_sized ?k_same_sized ?a_meet ?l_meet ?c_meet ?k_meet ?a_join ?l_join ?c_join ?k_join ?a__law_cell ?l__law_cell ?c__law_cell ?k__law_cell ?a__law_draws ?l__law_draws ?c__law_draws ?k__law_draws ?a__law_rooms ?l__law_rooms ?c__law_rooms ?k__law_rooms ?a__law_states ?l__law_states ?c__law_states ?k__law_states ?a__law_inside ?l__law_inside ?c__law_inside ?k__law_inside ?a__law_meet ?l__law_meet ?c__law_meet ?k__law_meet ?a__law_join ?l__law_join ?c__law_join ?k__law_join ?a__law_truth ?l__law_truth ?c__law_truth ?k__law_truth ?a__law_same ?l__law_same ?c__law_same ?k__law_same ?a__law_lone_answers ?l__law_lone_answers ?c__law_lone_answers ?k__law_lone_answers ?a__law_meets ?l__law_meets ?c__law_meets ?k__law_meets ?a__law_outcome ?l__law_outcome ?c__law_outcome ?k__law_outcome ?a__law_expected ?l__law_expected ?c__law_expected ?k__law_expected ?a__law_spoilt ?l__law_spoilt ?c__law_spoilt ?k__law_spoilt ?a_law ?l_law ?c_law ?k_law ?z_abs ?z_bool ?z_enumerate ?z_int ?z_isinstance ?z_len ?z_list ?z_range ?z_tuple ?z_zip ?g_MOST_HOUSES ?g_FREE ?g_MOST_FREE
    (case a_BadArgument => k_is)
    (case a_BadRoom => k_is)
    (case a_OldNewsError => k_is)
    (case a_TooLarge => k_is)
    (case dH_BadArgument => k_is)
    (case dT_BadArgument => k_is)
    (case dE_BadRoom => k_is)
    (case dH_BadRoom => k_is)
    (case dT_BadRoom => k_is)
    (case dH_OldNewsError => k_is)
    (case dT_OldNewsError => k_is)
    (case dE_TooLarge => k_is)
    (case dH_TooLarge => k_is)
    (case dT_TooLarge => k_is)
    (case su_BadRoom_BadArgument => k_is)
    (case su_BadRoom_BadRoom => k_is)
    (case su_BadRoom_OldNewsError => k_is)
    (case su_BadRoom_TooLarge => k_is)
    (case ne_BadRoom_TooLarge => first | rfl | decide)
    (case su_TooLarge_BadArgument => k_is)
    (case ne_TooLarge_BadArgument => first | rfl | decide)
    (case su_TooLarge_BadRoom => k_is)
    (case ne_TooLarge_BadRoom => first | rfl | decide)
    (case su_TooLarge_OldNewsError => k_is)
    (case su_TooLarge_TooLarge => k_is)
    (case gd => k_is)
    (case tkc => k_is)
    (case ns3 => k_is)
    (case sup => k_is)
    (case xL_BadRoom => k_is)
    (case xL_BadArgument => k_is)
    (case sa_BadRoom => k_is)
    (case ga_BadRoom => k_is)
    (case gg_BadRoom => k_is)
    (case ca_BadRoom => k_is)
    (case eC_BadRoom => k_is)
    (case eV_BadRoom => k_is)
    (case tC_BadRoom => k_is)
    (case kC_BadRoom => k_is)
    (case hC_BadRoom => k_is)
    (case mO_BadRoom => k_is)
    (case mS_BadRoom => k_is)
    (case sI_BadRoom => k_is)
    (case no_BadRoom_count => k_is)
    (case no_BadRoom_limit => k_is)
    (case no_BadRoom_row => k_is)
    (case iC_BadRoom => k_is)
    (case tI_BadRoom => k_is)
    (case l_BadRoom => k_is)
    (case cd_BadRoom => k_is)
    (case cc_BadRoom => k_is)
    (case co_BadRoom => k_is)
    (case v2_BadRoom => first | rfl | decide)
    (case fi_BadRoom => first | rfl | decide)
    (case xL_TooLarge => k_is)
    (case xL_OldNewsError => k_is)
    (case sa_TooLarge => k_is)
    (case ga_TooLarge => k_is)
    (case gg_TooLarge => k_is)
    (case ca_TooLarge => k_is)
    (case eC_TooLarge => k_is)
    (case eV_TooLarge => k_is)
    (case tC_TooLarge => k_is)
    (case kC_TooLarge => k_is)
    (case hC_TooLarge => k_is)
    (case mO_TooLarge => k_is)
    (case mS_TooLarge => k_is)
    (case sI_TooLarge => k_is)
    (case no_TooLarge_count => k_is)
    (case no_TooLarge_limit => k_is)
    (case no_TooLarge_row => k_is)
    (case iC_TooLarge => k_is)
    (case tI_TooLarge => k_is)
    (case l_TooLarge => k_is)
    (case cd_TooLarge => k_is)
    (case cc_TooLarge => k_is)
    (case co_TooLarge => k_is)
    (case v2_TooLarge => first | rfl | decide)
    (case fi_TooLarge => first | rfl | decide)
    (case a_as_room => k_is)
    (case l_as_room => k_is)
    (case c_as_room => k_is)
    (case k_as_room => k_is)
    (case a_as_lone_room => k_is)
    (case l_as_lone_room => k_is)
    (case c_as_lone_room => k_is)
    (case k_as_lone_room => k_is)
    (case a_need_at_most => k_is)
    (case l_need_at_most => k_is)
    (case c_need_at_most => k_is)
    (case k_need_at_most => k_is)
    (case a_free_houses => k_is)
    (case l_free_houses => k_is)
    (case c_free_houses => k_is)
    (case k_free_houses => k_is)
    (case a_states_of => k_is)
    (case l_states_of => k_is)
    (case c_states_of => k_is)
    (case k_states_of => k_is)
    (case a_is_inside => k_is)
    (case l_is_inside => k_is)
    (case c_is_inside => k_is)
    (case k_is_inside => k_is)
    (case a_lies_within => k_is)
    (case l_lies_within => k_is)
    (case c_lies_within => k_is)
    (case k_lies_within => k_is)
    (case a_same_sized => k_is)
    (case l_same_sized => k_is)
    (case c_same_sized => k_is)
    (case k_same_sized => k_is)
    (case a_meet => k_is)
    (case l_meet => k_is)
    (case c_meet => k_is)
    (case k_meet => k_is)
    (case a_join => k_is)
    (case l_join => k_is)
    (case c_join => k_is)
    (case k_join => k_is)
    (case a__law_cell => k_is)
    (case l__law_cell => k_is)
    (case c__law_cell => k_is)
    (case k__law_cell => k_is)
    (case a__law_draws => k_is)
    (case l__law_draws => k_is)
    (case c__law_draws => k_is)
    (case k__law_draws => k_is)
    (case a__law_rooms => k_is)
    (case l__law_rooms => k_is)
    (case c__law_rooms => k_is)
    (case k__law_rooms => k_is)
    (case a__law_states => k_is)
    (case l__law_states => k_is)
    (case c__law_states => k_is)
    (case k__law_states => k_is)
    (case a__law_inside => k_is)
    (case l__law_inside => k_is)
    (case c__law_inside => k_is)
    (case k__law_inside => k_is)
    (case a__law_meet => k_is)
    (case l__law_meet => k_is)
    (case c__law_meet => k_is)
    (case k__law_meet => k_is)
    (case a__law_join => k_is)
    (case l__law_join => k_is)
    (case c__law_join => k_is)
    (case k__law_join => k_is)
    (case a__law_truth => k_is)
    (case l__law_truth => k_is)
    (case c__law_truth => k_is)
    (case k__law_truth => k_is)
    (case a__law_same => k_is)
    (case l__law_same => k_is)
    (case c__law_same => k_is)
    (case k__law_same => k_is)
    (case a__law_lone_answers => k_is)
    (case l__law_lone_answers => k_is)
    (case c__law_lone_answers => k_is)
    (case k__law_lone_answers => k_is)
    (case a__law_meets => k_is)
    (case l__law_meets => k_is)
    (case c__law_meets => k_is)
    (case k__law_meets => k_is)
    (case a__law_outcome => k_is)
    (case l__law_outcome => k_is)
    (case c__law_outcome => k_is)
    (case k__law_outcome => k_is)
    (case a__law_expected => k_is)
    (case l__law_expected => k_is)
    (case c__law_expected => k_is)
    (case k__law_expected => k_is)
    (case a__law_spoilt => k_is)
    (case l__law_spoilt => k_is)
    (case c__law_spoilt => k_is)
    (case k__law_spoilt => k_is)
    (case a_law => k_is)
    (case l_law => k_is)
    (case c_law => k_is)
    (case k_law => k_is)
    (case z_abs => k_is)
    (case z_bool => k_is)
    (case z_enumerate => k_is)
    (case z_int => k_is)
    (case z_isinstance => k_is)
    (case z_len => k_is)
    (case z_list => k_is)
    (case z_range => k_is)
    (case z_tuple => k_is)
    (case z_zip => k_is)
    (case g_MOST_HOUSES => k_is)
    (case g_FREE => k_is)
    (case g_MOST_FREE => k_is)

