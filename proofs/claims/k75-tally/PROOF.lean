import PyProof.Rows.All
import Wide.All
import OpenK.AllK
import Wide.FinOn
import HandS.ForMost
import HandS.Exc
import HandS.WordsExc
import HandS.HeadHook1
import HandS.CallSlots
import HandS.TryOnly
import HandS.Defaults
import HandS.ExcCtx
import HandS.Wide
import HandS.Style
import HandS.Deep
import HandS.TupAny
import HandS.TupMul
import KE.KTupSum
import HandS.Conv
import HandS.Text
import HandS.Walk
import HandS.DictComp
import HandS.Small
import HandS.More
import HandS.SetFor
import HandS.HeadHook2
import HandS.Words
import HandS.IsInst
import HandS.SortInts
import KE.GoesMore
import HandS.SortOrd
import HandS.Property
import HandS.HeadHook3
import HandS.ExcInit
import HandS.NestedK
import KE.KExcSuper
import KE.KSuper
import HandS.ExcInitHot
import HandS.FStr
import HandS.HotCalls
import HandS.ExcIs
import HandS.ExcField
import HandS.OwnEq
import PyProof.InstEq
import HandS.ClsMeth
import Lean
import KE.KStateDown
import HandS.Head0
import HandS.Head1
import HandS.Head2
import HandS.HeadEnd
import PySem.Challenge.RW_heldorder_k75_tally
set_option Elab.async false
set_option linter.all false
set_option maxRecDepth 100000
set_option maxHeartbeats 4000000
/-! Vd, part 1: data as trees with ownership flags; how a value of the layer bears a datum; steps of the heap. -/
namespace Vd
open PySem PySem.Spec PyProof.Rows L2

/-- data: o tells whether the object is owned by the one who holds it (it may be changed through this place alone) -/
inductive D where
  | non
  | bl (b : Bool)
  | int (i : Int)
  | str (x : Str)
  | scr (ns : List Int)
  | tup (xs : List D)
  | lst (o : Bool) (xs : List D)
  | dik (o : Bool) (kvs : List (Key × D))
  | dit (o : Bool) (kvs : List (List Key × D))
  | ins (o : Bool) (c : Str) (fs : List (Str × D))
  | exc (c : Str) (fs : List (Str × D))

mutual
def noOwn : D → Bool
  | .non => true
  | .bl _ => true
  | .int _ => true
  | .str _ => true
  | .scr _ => true
  | .tup xs => noOwnL xs
  | .lst o xs => !o && noOwnL xs
  | .dik o kvs => !o && noOwnK kvs
  | .dit o kvs => !o && noOwnT kvs
  | .ins o _ fs => !o && noOwnF fs
  | .exc _ fs => noOwnF fs
def noOwnL : List D → Bool
  | [] => true
  | x :: xs => noOwn x && noOwnL xs
def noOwnK : List (Key × D) → Bool
  | [] => true
  | (_, x) :: xs => noOwn x && noOwnK xs
def noOwnT : List (List Key × D) → Bool
  | [] => true
  | (_, x) :: xs => noOwn x && noOwnT xs
def noOwnF : List (Str × D) → Bool
  | [] => true
  | (_, x) :: xs => noOwn x && noOwnF xs
end
mutual
def frz : D → D
  | .non => .non
  | .bl b => .bl b
  | .int i => .int i
  | .str x => .str x
  | .scr x => .scr x
  | .tup xs => .tup (frzL xs)
  | .lst _ xs => .lst false (frzL xs)
  | .dik _ kvs => .dik false (frzK kvs)
  | .dit _ kvs => .dit false (frzT kvs)
  | .ins _ c fs => .ins false c (frzF fs)
  | .exc c fs => .exc c (frzF fs)
def frzL : List D → List D
  | [] => []
  | x :: xs => frz x :: frzL xs
def frzK : List (Key × D) → List (Key × D)
  | [] => []
  | (k, x) :: xs => (k, frz x) :: frzK xs
def frzT : List (List Key × D) → List (List Key × D)
  | [] => []
  | (k, x) :: xs => (k, frz x) :: frzT xs
def frzF : List (Str × D) → List (Str × D)
  | [] => []
  | (k, x) :: xs => (k, frz x) :: frzF xs
end
/-! no frozen object that may be changed elsewhere stands in it -/
mutual
def noFz : D → Bool
  | .non => true
  | .bl _ => true
  | .int _ => true
  | .str _ => true
  | .scr _ => true
  | .tup xs => noFzL xs
  | .lst o xs => o && noFzL xs
  | .dik o kvs => o && noFzK kvs
  | .dit o kvs => o && noFzT kvs
  | .ins o _ fs => o && noFzF fs
  | .exc _ _ => false
def noFzL : List D → Bool
  | [] => true
  | x :: xs => noFz x && noFzL xs
def noFzK : List (Key × D) → Bool
  | [] => true
  | (_, x) :: xs => noFz x && noFzK xs
def noFzT : List (List Key × D) → Bool
  | [] => true
  | (_, x) :: xs => noFz x && noFzT xs
def noFzF : List (Str × D) → Bool
  | [] => true
  | (_, x) :: xs => noFz x && noFzF xs
end

/-! ### how values bear data -/
/-- a list of the written part -/
def KSq (K : PySem.W.Frag) (a : Addr) (xs : List V) : Prop :=
  ∃ (o : Obj) (its : Array Value) (n : Nat), K.lookup a = some o ∧ o.cls = .type "list" ∧ o.dict = none ∧ o.data = .seq its n ∧ its.size ≤ sizeLine ∧ Vals xs its.toList
def SqF (K : PySem.W.Frag) (F : Addr → Prop) (H : Hp) (a : Addr) (xs : List V) : Prop := F a ∧ Rd H a (.lst xs)
theorem SqF.sq {K : PySem.W.Frag} {F : Addr → Prop} {H : Hp} {a : Addr} {xs : List V} (h : SqF K F H a xs) : SqL K H a xs := .inl h.2
mutual
def Rep (K : PySem.W.Frag) (F : Addr → Prop) (H : Hp) : D → V → List Addr → Prop
  | .non, v, fp => v = .non ∧ fp = []
  | .bl b, v, fp => v = .bl b ∧ fp = []
  | .int i, v, fp => v = .int i ∧ fp = []
  | .str x, v, fp => v = .str x ∧ fp = []
  | .scr ns, v, fp => ∃ a, v = .ref a ∧ fp = [] ∧ ((∃ o, H a = some (.frz o (.lst (ns.map V.int)))) ∨ KSq K a (ns.map V.int))
  | .tup xs, v, fp => ∃ a vs, v = .ref a ∧ H a = some (.tup vs) ∧ RepL K F H xs vs fp
  | .lst true xs, v, fp => ∃ a vs fp', v = .ref a ∧ fp = a :: fp' ∧ H a = some (.lst vs) ∧ RepL K F H xs vs fp'
  | .lst false xs, v, fp => ∃ a vs, v = .ref a ∧ fp = [] ∧ SqF K F H a vs ∧ RepL K F H xs vs []
  | .dik true kvs, v, fp => ∃ a vs fp', v = .ref a ∧ fp = a :: fp' ∧ H a = some (.dK ((kvs.map (·.1)).zip vs)) ∧ RepK K F H kvs vs fp'
  | .dik false kvs, v, fp => ∃ a vs, v = .ref a ∧ fp = [] ∧ F a ∧ Rd H a (.dK ((kvs.map (·.1)).zip vs)) ∧ RepK K F H kvs vs []
  | .dit true kvs, v, fp => ∃ a vs fp', v = .ref a ∧ fp = a :: fp' ∧ H a = some (.dT ((kvs.map (·.1)).zip vs)) ∧ RepT K F H kvs vs fp'
  | .dit false kvs, v, fp => ∃ a vs, v = .ref a ∧ fp = [] ∧ F a ∧ Rd H a (.dT ((kvs.map (·.1)).zip vs)) ∧ RepT K F H kvs vs []
  | .ins true c fs, v, fp => ∃ a dx vs fp', v = .ref a ∧ fp = a :: fp' ∧ H a = some (.ins (He.ga K c) dx ((fs.map (·.1)).zip vs)) ∧ RepF K F H fs vs fp'
  | .ins false c fs, v, fp => ∃ a dx vs, v = .ref a ∧ fp = [] ∧ F a ∧ H a = some (.ins (He.ga K c) dx ((fs.map (·.1)).zip vs)) ∧ RepF K F H fs vs []
  | .exc c fs, v, fp => ∃ a dx vs φ, v = .ref a ∧ fp = [] ∧ F a ∧ H a = some (.ext φ) ∧ (∀ h, φ h → ∃ oe : Obj, h.get? a = some oe ∧ oe.cls = .ref (He.ga K c) ∧ oe.dict = dx ∧ ∃ vs, oe.data = .fields vs) ∧
      (fs = [] ∨ ∃ d, dx = some d ∧ H d = some (.xd ((fs.map (·.1)).zip vs))) ∧ RepF K F H fs vs []
def RepL (K : PySem.W.Frag) (F : Addr → Prop) (H : Hp) : List D → List V → List Addr → Prop
  | [], vs, fp => vs = [] ∧ fp = []
  | x :: xs, vs, fp => ∃ v r f1 f2, vs = v :: r ∧ fp = f1 ++ f2 ∧ Rep K F H x v f1 ∧ RepL K F H xs r f2
def RepK (K : PySem.W.Frag) (F : Addr → Prop) (H : Hp) : List (Key × D) → List V → List Addr → Prop
  | [], vs, fp => vs = [] ∧ fp = []
  | (_, x) :: xs, vs, fp => ∃ v r f1 f2, vs = v :: r ∧ fp = f1 ++ f2 ∧ Rep K F H x v f1 ∧ RepK K F H xs r f2
def RepT (K : PySem.W.Frag) (F : Addr → Prop) (H : Hp) : List (List Key × D) → List V → List Addr → Prop
  | [], vs, fp => vs = [] ∧ fp = []
  | (_, x) :: xs, vs, fp => ∃ v r f1 f2, vs = v :: r ∧ fp = f1 ++ f2 ∧ Rep K F H x v f1 ∧ RepT K F H xs r f2
def RepF (K : PySem.W.Frag) (F : Addr → Prop) (H : Hp) : List (Str × D) → List V → List Addr → Prop
  | [], vs, fp => vs = [] ∧ fp = []
  | (_, x) :: xs, vs, fp => ∃ v r f1 f2, vs = v :: r ∧ fp = f1 ++ f2 ∧ Rep K F H x v f1 ∧ RepF K F H xs r f2
end
theorem repK_L {K : PySem.W.Frag} {F : Addr → Prop} {H : Hp} : ∀ {kvs : List (Key × D)} {vs : List V} {fp : List Addr}, RepK K F H kvs vs fp ↔ RepL K F H (kvs.map (·.2)) vs fp
  | [], vs, fp => by simp [RepK, RepL]
  | (k, x) :: xs, vs, fp => by simp only [RepK, RepL, List.map_cons, repK_L (kvs := xs)]
theorem repT_L {K : PySem.W.Frag} {F : Addr → Prop} {H : Hp} : ∀ {kvs : List (List Key × D)} {vs : List V} {fp : List Addr}, RepT K F H kvs vs fp ↔ RepL K F H (kvs.map (·.2)) vs fp
  | [], vs, fp => by simp [RepT, RepL]
  | (k, x) :: xs, vs, fp => by simp only [RepT, RepL, List.map_cons, repT_L (kvs := xs)]
theorem repF_L {K : PySem.W.Frag} {F : Addr → Prop} {H : Hp} : ∀ {kvs : List (Str × D)} {vs : List V} {fp : List Addr}, RepF K F H kvs vs fp ↔ RepL K F H (kvs.map (·.2)) vs fp
  | [], vs, fp => by simp [RepF, RepL]
  | (k, x) :: xs, vs, fp => by simp only [RepF, RepL, List.map_cons, repF_L (kvs := xs)]
theorem noOwnK_L : ∀ {kvs : List (Key × D)}, noOwnK kvs = noOwnL (kvs.map (·.2))
  | [] => by simp [noOwnK, noOwnL]
  | (k, x) :: xs => by simp only [noOwnK, noOwnL, List.map_cons, noOwnK_L (kvs := xs)]
theorem noOwnT_L : ∀ {kvs : List (List Key × D)}, noOwnT kvs = noOwnL (kvs.map (·.2))
  | [] => by simp [noOwnT, noOwnL]
  | (k, x) :: xs => by simp only [noOwnT, noOwnL, List.map_cons, noOwnT_L (kvs := xs)]
theorem noOwnF_L : ∀ {kvs : List (Str × D)}, noOwnF kvs = noOwnL (kvs.map (·.2))
  | [] => by simp [noOwnF, noOwnL]
  | (k, x) :: xs => by simp only [noOwnF, noOwnL, List.map_cons, noOwnF_L (kvs := xs)]
theorem frzK_L : ∀ {kvs : List (Key × D)}, (frzK kvs).map (·.2) = frzL (kvs.map (·.2)) ∧ (frzK kvs).map (·.1) = kvs.map (·.1)
  | [] => by simp [frzK, frzL]
  | (k, x) :: xs => by simp only [frzK, frzL, List.map_cons, (frzK_L (kvs := xs)).1, (frzK_L (kvs := xs)).2, and_self]
theorem frzT_L : ∀ {kvs : List (List Key × D)}, (frzT kvs).map (·.2) = frzL (kvs.map (·.2)) ∧ (frzT kvs).map (·.1) = kvs.map (·.1)
  | [] => by simp [frzT, frzL]
  | (k, x) :: xs => by simp only [frzT, frzL, List.map_cons, (frzT_L (kvs := xs)).1, (frzT_L (kvs := xs)).2, and_self]
theorem frzF_L : ∀ {kvs : List (Str × D)}, (frzF kvs).map (·.2) = frzL (kvs.map (·.2)) ∧ (frzF kvs).map (·.1) = kvs.map (·.1)
  | [] => by simp [frzF, frzL]
  | (k, x) :: xs => by simp only [frzF, frzL, List.map_cons, (frzF_L (kvs := xs)).1, (frzF_L (kvs := xs)).2, and_self]

/-- induction over data -/
theorem D.ind {P : D → Prop} (h0 : P .non) (h1 : ∀ b, P (.bl b)) (h2 : ∀ i, P (.int i)) (h3 : ∀ x, P (.str x)) (h3b : ∀ x, P (.scr x)) (h4 : ∀ xs, (∀ x ∈ xs, P x) → P (.tup xs)) (h5 : ∀ o xs, (∀ x ∈ xs, P x) → P (.lst o xs))
    (h6 : ∀ o (kvs : List (Key × D)), (∀ x ∈ kvs.map (·.2), P x) → P (.dik o kvs)) (h7 : ∀ o (kvs : List (List Key × D)), (∀ x ∈ kvs.map (·.2), P x) → P (.dit o kvs))
    (h8 : ∀ o c (fs : List (Str × D)), (∀ x ∈ fs.map (·.2), P x) → P (.ins o c fs)) (h9 : ∀ c (fs : List (Str × D)), (∀ x ∈ fs.map (·.2), P x) → P (.exc c fs)) : ∀ d, P d := by
  intro d
  refine D.rec (motive_1 := P) (motive_2 := fun l => ∀ x ∈ l, P x) (motive_3 := fun l => ∀ x ∈ l.map (·.2), P x) (motive_4 := fun l => ∀ x ∈ l.map (·.2), P x) (motive_5 := fun l => ∀ x ∈ l.map (·.2), P x)
    (motive_6 := fun p => P p.2) (motive_7 := fun p => P p.2) (motive_8 := fun p => P p.2) h0 h1 h2 h3 h3b h4 h5 h6 h7 h8 h9 ?_ ?_ ?_ ?_ ?_ ?_ ?_ ?_ ?_ ?_ ?_ d
  · intro x hx; cases hx
  · intro a l ha hl x hx
    rcases List.mem_cons.mp hx with e | e
    · rw [e]; exact ha
    · exact hl x e
  · intro x hx; cases hx
  · intro a l ha hl x hx
    rcases List.mem_cons.mp (show x ∈ a.2 :: l.map (·.2) from hx) with e | e
    · rw [e]; exact ha
    · exact hl x e
  · intro x hx; cases hx
  · intro a l ha hl x hx
    rcases List.mem_cons.mp (show x ∈ a.2 :: l.map (·.2) from hx) with e | e
    · rw [e]; exact ha
    · exact hl x e
  · intro x hx; cases hx
  · intro a l ha hl x hx
    rcases List.mem_cons.mp (show x ∈ a.2 :: l.map (·.2) from hx) with e | e
    · rw [e]; exact ha
    · exact hl x e
  · intro k x h; exact h
  · intro k x h; exact h
  · intro k x h; exact h
end Vd

set_option Elab.async false
set_option linter.all false
set_option maxRecDepth 100000
set_option maxHeartbeats 4000000
/-! Vd, part 2: lemmas of Rep. -/
namespace Vd
open PySem PySem.Spec PyProof.Rows L2

def Mk : HO → Prop
  | .lst _ => True
  | .dK _ => True
  | .dT _ => True
  | .ins _ _ _ => True
  | _ => False
def Mks (H : Hp) (fp : List Addr) : Prop := ∀ a ∈ fp, ∃ o, H a = some o ∧ Mk o

section
variable {K : PySem.W.Frag} {F F' : Addr → Prop} {H H' : Hp}

theorem RepL.len : ∀ {xs : List D} {vs : List V} {fp : List Addr}, RepL K F H xs vs fp → xs.length = vs.length
  | [], vs, fp, h => by
    simp only [RepL] at h
    rw [h.1] <;> rfl
  | x :: xs, vs, fp, h => by
    simp only [RepL] at h
    obtain ⟨v, r, f1, f2, e1, e2, h1, h2⟩ := h
    rw [e1, List.length_cons, List.length_cons, RepL.len h2]
theorem RepL.nil : RepL K F H [] [] [] := by simp [RepL]
theorem RepL.cons {x : D} {v : V} {xs : List D} {vs : List V} {f1 f2 : List Addr} (h : Rep K F H x v f1) (t : RepL K F H xs vs f2) : RepL K F H (x :: xs) (v :: vs) (f1 ++ f2) := by
  simp only [RepL]
  exact ⟨v, vs, f1, f2, rfl, rfl, h, t⟩
theorem RepL.inv {x : D} {xs : List D} {vs : List V} {fp : List Addr} (h : RepL K F H (x :: xs) vs fp) : ∃ v r f1 f2, vs = v :: r ∧ fp = f1 ++ f2 ∧ Rep K F H x v f1 ∧ RepL K F H xs r f2 := by
  simpa only [RepL] using h
theorem RepL.inv0 {vs : List V} {fp : List Addr} (h : RepL K F H [] vs fp) : vs = [] ∧ fp = [] := by
  simpa only [RepL] using h
theorem RepL.append : ∀ {xs ys : List D} {vs ws : List V} {f1 f2 : List Addr}, RepL K F H xs vs f1 → RepL K F H ys ws f2 → RepL K F H (xs ++ ys) (vs ++ ws) (f1 ++ f2)
  | [], ys, vs, ws, f1, f2, h, t => by
    obtain ⟨rfl, rfl⟩ := h.inv0
    exact t
  | x :: xs, ys, vs, ws, f1, f2, h, t => by
    obtain ⟨v, r, g1, g2, rfl, rfl, h1, h2⟩ := h.inv
    have q := RepL.cons h1 (RepL.append h2 t)
    simpa only [List.cons_append, List.append_assoc] using q
theorem RepL.split : ∀ {xs ys : List D} {us : List V} {fp : List Addr}, RepL K F H (xs ++ ys) us fp → ∃ vs ws f1 f2, us = vs ++ ws ∧ fp = f1 ++ f2 ∧ RepL K F H xs vs f1 ∧ RepL K F H ys ws f2
  | [], ys, us, fp, h => ⟨[], us, [], fp, rfl, rfl, .nil, h⟩
  | x :: xs, ys, us, fp, h => by
    obtain ⟨v, r, g1, g2, rfl, rfl, h1, h2⟩ := RepL.inv (show RepL K F H (x :: (xs ++ ys)) us fp from h)
    obtain ⟨vs, ws, f1, f2, rfl, rfl, h3, h4⟩ := RepL.split h2
    exact ⟨v :: vs, ws, g1 ++ f1, f2, rfl, by simp, .cons h1 h3, h4⟩
/-- the datum at a place -/
theorem RepL.get : ∀ {xs : List D} {vs : List V} {fp : List Addr} {i : Nat} {x : D}, RepL K F H xs vs fp → xs[i]? = some x → ∃ v f, vs[i]? = some v ∧ Rep K F H x v f ∧ ∀ a ∈ f, a ∈ fp
  | [], vs, fp, i, x, h, e => by simp at e
  | y :: xs, vs, fp, 0, x, h, e => by
    obtain ⟨v, r, f1, f2, rfl, rfl, h1, h2⟩ := h.inv
    have e' : y = x := Option.some.inj e
    subst e'
    exact ⟨v, f1, rfl, h1, fun a ha => List.mem_append_left _ ha⟩
  | y :: xs, vs, fp, i + 1, x, h, e => by
    obtain ⟨v, r, f1, f2, rfl, rfl, h1, h2⟩ := h.inv
    obtain ⟨w, f, e1, h3, h4⟩ := RepL.get (i := i) (x := x) h2 (by simpa using e)
    exact ⟨w, f, by simpa using e1, h3, fun a ha => List.mem_append_right _ (h4 a ha)⟩
/-- pointwise -/
theorem RepL.imp {G : Addr → Prop} : ∀ {xs : List D} {vs : List V} {fp : List Addr}, (∀ x ∈ xs, ∀ v fp, Rep K F H x v fp → (∀ a ∈ fp, G a) → Rep K F' H' x v fp) → RepL K F H xs vs fp → (∀ a ∈ fp, G a) → RepL K F' H' xs vs fp
  | [], vs, fp, k, h, g => by
    obtain ⟨rfl, rfl⟩ := h.inv0
    exact .nil
  | x :: xs, vs, fp, k, h, g => by
    obtain ⟨v, r, f1, f2, rfl, rfl, h1, h2⟩ := h.inv
    exact .cons (k x (List.mem_cons_self ..) v f1 h1 fun a ha => g a (List.mem_append_left _ ha)) (RepL.imp (fun y hy => k y (List.mem_cons_of_mem _ hy)) h2 fun a ha => g a (List.mem_append_right _ ha))

theorem RepL.mks_of : ∀ {xs : List D} {vs : List V} {fp : List Addr}, (∀ x ∈ xs, ∀ v fp, Rep K F H x v fp → Mks H fp) → RepL K F H xs vs fp → Mks H fp
  | [], vs, fp, k, h => by
    obtain ⟨rfl, rfl⟩ := h.inv0
    intro a ha; cases ha
  | x :: xs, vs, fp, k, h => by
    obtain ⟨v, r, f1, f2, rfl, rfl, h1, h2⟩ := h.inv
    intro a ha
    rcases List.mem_append.mp ha with z | z
    · exact k x (List.mem_cons_self ..) v f1 h1 a z
    · exact RepL.mks_of (fun y hy => k y (List.mem_cons_of_mem _ hy)) h2 a z
theorem Rep.mks : ∀ (d : D) {v : V} {fp : List Addr}, Rep K F H d v fp → Mks H fp := by
  refine D.ind ?_ ?_ ?_ ?_ ?_ ?_ ?_ ?_ ?_ ?_ ?_
  · intro v fp h; simp only [Rep] at h; obtain ⟨_, rfl⟩ := h; intro a ha; cases ha
  · intro b v fp h; simp only [Rep] at h; obtain ⟨_, rfl⟩ := h; intro a ha; cases ha
  · intro b v fp h; simp only [Rep] at h; obtain ⟨_, rfl⟩ := h; intro a ha; cases ha
  · intro b v fp h; simp only [Rep] at h; obtain ⟨_, rfl⟩ := h; intro a ha; cases ha
  · intro b v fp h; simp only [Rep] at h; obtain ⟨_, _, rfl, _⟩ := h; intro a ha; cases ha
  · intro xs ih v fp h
    simp only [Rep] at h
    obtain ⟨a, vs, _, _, h2⟩ := h
    exact RepL.mks_of (fun x hx v fp => ih x hx) h2
  · intro o xs ih v fp h
    cases o with
    | true =>
      simp only [Rep] at h
      obtain ⟨a, vs, fp', _, rfl, e, h2⟩ := h
      intro b hb
      rcases List.mem_cons.mp hb with z | z
      · rw [z]; exact ⟨_, e, True.intro⟩
      · exact RepL.mks_of (fun x hx v fp => ih x hx) h2 b z
    | false =>
      simp only [Rep] at h
      obtain ⟨a, vs, _, rfl, _⟩ := h
      intro b hb; cases hb
  · intro o xs ih v fp h
    cases o with
    | true =>
      simp only [Rep, repK_L] at h
      obtain ⟨a, vs, fp', _, rfl, e, h2⟩ := h
      intro b hb
      rcases List.mem_cons.mp hb with z | z
      · rw [z]; exact ⟨_, e, True.intro⟩
      · exact RepL.mks_of (fun x hx v fp => ih x hx) h2 b z
    | false =>
      simp only [Rep] at h
      obtain ⟨a, vs, _, rfl, _⟩ := h
      intro b hb; cases hb
  · intro o xs ih v fp h
    cases o with
    | true =>
      simp only [Rep, repT_L] at h
      obtain ⟨a, vs, fp', _, rfl, e, h2⟩ := h
      intro b hb
      rcases List.mem_cons.mp hb with z | z
      · rw [z]; exact ⟨_, e, True.intro⟩
      · exact RepL.mks_of (fun x hx v fp => ih x hx) h2 b z
    | false =>
      simp only [Rep] at h
      obtain ⟨a, vs, _, rfl, _⟩ := h
      intro b hb; cases hb
  · intro o c xs ih v fp h
    cases o with
    | true =>
      simp only [Rep, repF_L] at h
      obtain ⟨a, dx, vs, fp', _, rfl, e, h2⟩ := h
      intro b hb
      rcases List.mem_cons.mp hb with z | z
      · rw [z]; exact ⟨_, e, True.intro⟩
      · exact RepL.mks_of (fun x hx v fp => ih x hx) h2 b z
    | false =>
      simp only [Rep] at h
      obtain ⟨a, dx, vs, _, rfl, _⟩ := h
      intro b hb; cases hb
  · intro c xs ih v fp h
    simp only [Rep] at h
    obtain ⟨a, dx, vs, φ, _, rfl, _⟩ := h
    intro b hb; cases hb
theorem RepL.mks {xs : List D} {vs : List V} {fp : List Addr} (h : RepL K F H xs vs fp) : Mks H fp := RepL.mks_of (fun x _ v fp => Rep.mks x) h

/-- what is not written, or of another kind, is kept -/
structure Kps (W : Addr → Prop) (F : Addr → Prop) (H H' : Hp) : Prop where
  kp : ∀ a o, H a = some o → ¬ W a → H' a = some o
  mks : ∀ a, W a → ∃ o, H a = some o ∧ Mk o
  fr : ∀ a, F a → ¬ W a
theorem Kps.tup {W : Addr → Prop} (k : Kps W F H H') {a : Addr} {xs : List V} (h : SqT K H a xs) : SqT K H' a xs := by
  rcases h with h | h
  · refine .inl ?_
    rcases h with h | ⟨o, h⟩
    · refine .inl (k.kp _ _ h fun z => ?_)
      obtain ⟨o, e, m⟩ := k.mks _ z
      rw [h] at e; cases e; exact m
    · refine .inr ⟨o, k.kp _ _ h fun z => ?_⟩
      obtain ⟨o, e, m⟩ := k.mks _ z
      rw [h] at e; cases e; exact m
  · exact .inr h
theorem Kps.rd {W : Addr → Prop} (k : Kps W F H H') {a : Addr} {u : HO} (hF : F a) (h : Rd H a u) : Rd H' a u := by
  rcases h with h | ⟨o, h⟩
  · exact .inl (k.kp _ _ h (k.fr a hF))
  · exact .inr ⟨o, k.kp _ _ h (k.fr a hF)⟩
theorem Kps.nt {W : Addr → Prop} (k : Kps W F H H') {a : Addr} {o : HO} (h : H a = some o) (m : ¬ Mk o) : H' a = some o := k.kp a o h fun z => by
  obtain ⟨u, e, q⟩ := k.mks a z
  rw [h] at e; cases e; exact m q
theorem Rep.keep {W : Addr → Prop} (k : Kps W F H H') (m : ∀ a, F a → F' a) : ∀ (d : D) (v : V) (fp : List Addr), Rep K F H d v fp → (∀ a ∈ fp, ¬ W a) → Rep K F' H' d v fp := by
  refine D.ind ?_ ?_ ?_ ?_ ?_ ?_ ?_ ?_ ?_ ?_ ?_
  · intro v fp h _; simp only [Rep] at h ⊢; exact h
  · intro b v fp h _; simp only [Rep] at h ⊢; exact h
  · intro b v fp h _; simp only [Rep] at h ⊢; exact h
  · intro b v fp h _; simp only [Rep] at h ⊢; exact h
  · intro b v fp h _
    simp only [Rep] at h ⊢
    obtain ⟨a, e, e2, h⟩ := h
    refine ⟨a, e, e2, ?_⟩
    rcases h with ⟨o, h⟩ | h
    · exact .inl ⟨o, k.nt h fun z => z⟩
    · exact .inr h
  · intro xs ih v fp h g
    simp only [Rep] at h ⊢
    obtain ⟨a, vs, e, q, h2⟩ := h
    exact ⟨a, vs, e, k.nt q fun z => z, RepL.imp ih h2 g⟩
  · intro o xs ih v fp h g
    cases o with
    | true =>
      simp only [Rep] at h ⊢
      obtain ⟨a, vs, fp', e1, rfl, e, h2⟩ := h
      exact ⟨a, vs, fp', e1, rfl, k.kp _ _ e (g a (List.mem_cons_self ..)), RepL.imp ih h2 fun b hb => g b (List.mem_cons_of_mem _ hb)⟩
    | false =>
      simp only [Rep] at h ⊢
      obtain ⟨a, vs, e1, rfl, e, h2⟩ := h
      exact ⟨a, vs, e1, rfl, ⟨m a e.1, k.rd e.1 e.2⟩, RepL.imp ih h2 g⟩
  · intro o xs ih v fp h g
    cases o with
    | true =>
      simp only [Rep, repK_L] at h ⊢
      obtain ⟨a, vs, fp', e1, rfl, e, h2⟩ := h
      exact ⟨a, vs, fp', e1, rfl, k.kp _ _ e (g a (List.mem_cons_self ..)), RepL.imp ih h2 fun b hb => g b (List.mem_cons_of_mem _ hb)⟩
    | false =>
      simp only [Rep, repK_L] at h ⊢
      obtain ⟨a, vs, e1, rfl, e2, e3, h2⟩ := h
      exact ⟨a, vs, e1, rfl, m a e2, k.rd e2 e3, RepL.imp ih h2 g⟩
  · intro o xs ih v fp h g
    cases o with
    | true =>
      simp only [Rep, repT_L] at h ⊢
      obtain ⟨a, vs, fp', e1, rfl, e, h2⟩ := h
      exact ⟨a, vs, fp', e1, rfl, k.kp _ _ e (g a (List.mem_cons_self ..)), RepL.imp ih h2 fun b hb => g b (List.mem_cons_of_mem _ hb)⟩
    | false =>
      simp only [Rep, repT_L] at h ⊢
      obtain ⟨a, vs, e1, rfl, e2, e3, h2⟩ := h
      exact ⟨a, vs, e1, rfl, m a e2, k.rd e2 e3, RepL.imp ih h2 g⟩
  · intro o c xs ih v fp h g
    cases o with
    | true =>
      simp only [Rep, repF_L] at h ⊢
      obtain ⟨a, dx, vs, fp', e1, rfl, e, h2⟩ := h
      exact ⟨a, dx, vs, fp', e1, rfl, k.kp _ _ e (g a (List.mem_cons_self ..)), RepL.imp ih h2 fun b hb => g b (List.mem_cons_of_mem _ hb)⟩
    | false =>
      simp only [Rep, repF_L] at h ⊢
      obtain ⟨a, dx, vs, e1, rfl, e2, e3, h2⟩ := h
      exact ⟨a, dx, vs, e1, rfl, m a e2, k.kp _ _ e3 (k.fr a e2), RepL.imp ih h2 g⟩
  · intro c xs ih v fp h g
    simp only [Rep, repF_L] at h ⊢
    obtain ⟨a, dx, vs, φ, e1, rfl, e2, e3, e4, e5, h2⟩ := h
    refine ⟨a, dx, vs, φ, e1, rfl, m a e2, k.kp _ _ e3 (k.fr a e2), e4, ?_, RepL.imp ih h2 g⟩
    rcases e5 with e5 | ⟨d, e6, e7⟩
    · exact .inl e5
    · exact .inr ⟨d, e6, k.nt e7 fun z => z⟩
theorem RepL.keep {W : Addr → Prop} (k : Kps W F H H') (m : ∀ a, F a → F' a) {xs : List D} {vs : List V} {fp : List Addr} (h : RepL K F H xs vs fp) (g : ∀ a ∈ fp, ¬ W a) : RepL K F' H' xs vs fp :=
  RepL.imp (fun x _ => Rep.keep k m x) h g

theorem noOwnL_iff : ∀ {xs : List D}, noOwnL xs = true ↔ ∀ x ∈ xs, noOwn x = true
  | [] => by simp [noOwnL]
  | x :: xs => by simp [noOwnL, noOwnL_iff (xs := xs)]
theorem noFzL_iff : ∀ {xs : List D}, noFzL xs = true ↔ ∀ x ∈ xs, noFz x = true
  | [] => by simp [noFzL]
  | x :: xs => by simp [noFzL, noFzL_iff (xs := xs)]
theorem noFzK_L : ∀ {kvs : List (Key × D)}, noFzK kvs = noFzL (kvs.map (·.2))
  | [] => by simp [noFzK, noFzL]
  | (k, x) :: xs => by simp only [noFzK, noFzL, List.map_cons, noFzK_L (kvs := xs)]
theorem noFzT_L : ∀ {kvs : List (List Key × D)}, noFzT kvs = noFzL (kvs.map (·.2))
  | [] => by simp [noFzT, noFzL]
  | (k, x) :: xs => by simp only [noFzT, noFzL, List.map_cons, noFzT_L (kvs := xs)]
theorem noFzF_L : ∀ {kvs : List (Str × D)}, noFzF kvs = noFzL (kvs.map (·.2))
  | [] => by simp [noFzF, noFzL]
  | (k, x) :: xs => by simp only [noFzF, noFzL, List.map_cons, noFzF_L (kvs := xs)]
theorem frzL_map : ∀ {xs : List D}, frzL xs = xs.map frz
  | [] => by simp [frzL]
  | x :: xs => by simp [frzL, frzL_map (xs := xs)]

theorem RepL.no_of : ∀ {xs : List D} {vs : List V} {fp : List Addr}, (∀ x ∈ xs, ∀ v fp, Rep K F H x v fp → fp = []) → RepL K F H xs vs fp → fp = []
  | [], vs, fp, k, h => h.inv0.2
  | x :: xs, vs, fp, k, h => by
    obtain ⟨v, r, f1, f2, rfl, rfl, h1, h2⟩ := h.inv
    rw [k x (List.mem_cons_self ..) v f1 h1, RepL.no_of (fun y hy => k y (List.mem_cons_of_mem _ hy)) h2] <;> rfl
theorem Rep.no : ∀ (d : D), noOwn d = true → ∀ (v : V) (fp : List Addr), Rep K F H d v fp → fp = [] := by
  refine D.ind ?_ ?_ ?_ ?_ ?_ ?_ ?_ ?_ ?_ ?_ ?_
  · intro _ v fp h; simp only [Rep] at h; exact h.2
  · intro b _ v fp h; simp only [Rep] at h; exact h.2
  · intro b _ v fp h; simp only [Rep] at h; exact h.2
  · intro b _ v fp h; simp only [Rep] at h; exact h.2
  · intro b _ v fp h; simp only [Rep] at h; obtain ⟨_, _, q, _⟩ := h; exact q
  · intro xs ih n v fp h
    simp only [Rep, noOwn] at h n
    obtain ⟨a, vs, e, q, h2⟩ := h
    exact RepL.no_of (fun x hx => ih x hx (noOwnL_iff.mp n x hx)) h2
  · intro o xs ih n v fp h
    cases o with
    | true => simp [noOwn] at n
    | false => simp only [Rep] at h; obtain ⟨_, _, _, q, _⟩ := h; exact q
  · intro o xs ih n v fp h
    cases o with
    | true => simp [noOwn] at n
    | false => simp only [Rep] at h; obtain ⟨_, _, _, q, _⟩ := h; exact q
  · intro o xs ih n v fp h
    cases o with
    | true => simp [noOwn] at n
    | false => simp only [Rep] at h; obtain ⟨_, _, _, q, _⟩ := h; exact q
  · intro o c xs ih n v fp h
    cases o with
    | true => simp [noOwn] at n
    | false => simp only [Rep] at h; obtain ⟨_, _, _, _, q, _⟩ := h; exact q
  · intro c xs ih n v fp h
    simp only [Rep] at h; obtain ⟨_, _, _, _, _, q, _⟩ := h; exact q
theorem RepL.no {xs : List D} {vs : List V} {fp : List Addr} (n : noOwnL xs = true) (h : RepL K F H xs vs fp) : fp = [] := RepL.no_of (fun x hx => Rep.no x (noOwnL_iff.mp n x hx)) h

theorem RepL.frz_of : ∀ {xs : List D} {vs : List V} {fp : List Addr}, (∀ x ∈ xs, ∀ v fp, Rep K F H x v fp → (∀ a ∈ fp, F' a) → Rep K F' H (frz x) v []) → RepL K F H xs vs fp → (∀ a ∈ fp, F' a) → RepL K F' H (frzL xs) vs []
  | [], vs, fp, k, h, g => by
    obtain ⟨rfl, rfl⟩ := h.inv0
    exact .nil
  | x :: xs, vs, fp, k, h, g => by
    obtain ⟨v, r, f1, f2, rfl, rfl, h1, h2⟩ := h.inv
    have q := RepL.cons (k x (List.mem_cons_self ..) v f1 h1 fun a ha => g a (List.mem_append_left _ ha)) (RepL.frz_of (fun y hy => k y (List.mem_cons_of_mem _ hy)) h2 fun a ha => g a (List.mem_append_right _ ha))
    simpa only [frzL, List.append_nil] using q
theorem Rep.frz (m : ∀ a, F a → F' a) : ∀ (d : D) (v : V) (fp : List Addr), Rep K F H d v fp → (∀ a ∈ fp, F' a) → Rep K F' H (frz d) v [] := by
  refine D.ind ?_ ?_ ?_ ?_ ?_ ?_ ?_ ?_ ?_ ?_ ?_
  · intro v fp h _; simp only [Rep, Vd.frz] at h ⊢; exact ⟨h.1, True.intro⟩
  · intro b v fp h _; simp only [Rep, Vd.frz] at h ⊢; exact ⟨h.1, True.intro⟩
  · intro b v fp h _; simp only [Rep, Vd.frz] at h ⊢; exact ⟨h.1, True.intro⟩
  · intro b v fp h _; simp only [Rep, Vd.frz] at h ⊢; exact ⟨h.1, True.intro⟩
  · intro b v fp h _; simp only [Rep, Vd.frz] at h ⊢; obtain ⟨a, e, _, h⟩ := h; exact ⟨a, e, True.intro, h⟩
  · intro xs ih v fp h g
    simp only [Rep, Vd.frz] at h ⊢
    obtain ⟨a, vs, e, q, h2⟩ := h
    exact ⟨a, vs, e, q, RepL.frz_of ih h2 g⟩
  · intro o xs ih v fp h g
    cases o with
    | true =>
      simp only [Rep, Vd.frz] at h ⊢
      obtain ⟨a, vs, fp', e1, rfl, e, h2⟩ := h
      exact ⟨a, vs, e1, True.intro, ⟨g a (List.mem_cons_self ..), .inl e⟩, RepL.frz_of ih h2 fun b hb => g b (List.mem_cons_of_mem _ hb)⟩
    | false =>
      simp only [Rep, Vd.frz] at h ⊢
      obtain ⟨a, vs, e1, rfl, e, h2⟩ := h
      exact ⟨a, vs, e1, True.intro, ⟨m a e.1, e.2⟩, RepL.frz_of ih h2 g⟩
  · intro o xs ih v fp h g
    cases o with
    | true =>
      simp only [Rep, Vd.frz, repK_L] at h ⊢
      obtain ⟨a, vs, fp', e1, rfl, e, h2⟩ := h
      rw [frzK_L.1, frzK_L.2]
      exact ⟨a, vs, e1, True.intro, g a (List.mem_cons_self ..), .inl e, RepL.frz_of ih h2 fun b hb => g b (List.mem_cons_of_mem _ hb)⟩
    | false =>
      simp only [Rep, Vd.frz, repK_L] at h ⊢
      obtain ⟨a, vs, e1, rfl, e2, e3, h2⟩ := h
      rw [frzK_L.1, frzK_L.2]
      exact ⟨a, vs, e1, True.intro, m a e2, e3, RepL.frz_of ih h2 g⟩
  · intro o xs ih v fp h g
    cases o with
    | true =>
      simp only [Rep, Vd.frz, repT_L] at h ⊢
      obtain ⟨a, vs, fp', e1, rfl, e, h2⟩ := h
      rw [frzT_L.1, frzT_L.2]
      exact ⟨a, vs, e1, True.intro, g a (List.mem_cons_self ..), .inl e, RepL.frz_of ih h2 fun b hb => g b (List.mem_cons_of_mem _ hb)⟩
    | false =>
      simp only [Rep, Vd.frz, repT_L] at h ⊢
      obtain ⟨a, vs, e1, rfl, e2, e3, h2⟩ := h
      rw [frzT_L.1, frzT_L.2]
      exact ⟨a, vs, e1, True.intro, m a e2, e3, RepL.frz_of ih h2 g⟩
  · intro o c xs ih v fp h g
    cases o with
    | true =>
      simp only [Rep, Vd.frz, repF_L] at h ⊢
      obtain ⟨a, dx, vs, fp', e1, rfl, e, h2⟩ := h
      rw [frzF_L.1, frzF_L.2]
      exact ⟨a, dx, vs, e1, True.intro, g a (List.mem_cons_self ..), e, RepL.frz_of ih h2 fun b hb => g b (List.mem_cons_of_mem _ hb)⟩
    | false =>
      simp only [Rep, Vd.frz, repF_L] at h ⊢
      obtain ⟨a, dx, vs, e1, rfl, e2, e3, h2⟩ := h
      rw [frzF_L.1, frzF_L.2]
      exact ⟨a, dx, vs, e1, True.intro, m a e2, e3, RepL.frz_of ih h2 g⟩
  · intro c xs ih v fp h g
    simp only [Rep, Vd.frz, repF_L] at h ⊢
    obtain ⟨a, dx, vs, φ, e1, rfl, e2, e3, e4, e5, h2⟩ := h
    rw [frzF_L.1, frzF_L.2]
    refine ⟨a, dx, vs, φ, e1, True.intro, m a e2, e3, e4, ?_, RepL.frz_of ih h2 g⟩
    rcases e5 with e5 | e5
    · subst e5; exact .inl (by simp [frzF])
    · exact .inr e5
theorem RepL.frz (m : ∀ a, F a → F' a) {xs : List D} {vs : List V} {fp : List Addr} (h : RepL K F H xs vs fp) (g : ∀ a ∈ fp, F' a) : RepL K F' H (frzL xs) vs [] := RepL.frz_of (fun x _ => Rep.frz m x) h g

theorem noOwn_frz : ∀ d : D, noOwn (Vd.frz d) = true := by
  refine D.ind (by simp [Vd.frz, noOwn]) (by simp [Vd.frz, noOwn]) (by simp [Vd.frz, noOwn]) (by simp [Vd.frz, noOwn]) (by simp [Vd.frz, noOwn]) ?_ ?_ ?_ ?_ ?_ ?_
  · intro xs ih; simp only [Vd.frz, noOwn, frzL_map]; rw [noOwnL_iff]; intro x hx; obtain ⟨y, hy, rfl⟩ := List.mem_map.mp hx; exact ih y hy
  · intro o xs ih; simp only [Vd.frz, noOwn, frzL_map, Bool.not_false, Bool.true_and]; rw [noOwnL_iff]; intro x hx; obtain ⟨y, hy, rfl⟩ := List.mem_map.mp hx; exact ih y hy
  · intro o xs ih; simp only [Vd.frz, noOwn, noOwnK_L, frzK_L.1, frzL_map, Bool.not_false, Bool.true_and]; rw [noOwnL_iff]; intro x hx; obtain ⟨y, hy, rfl⟩ := List.mem_map.mp hx; exact ih y hy
  · intro o xs ih; simp only [Vd.frz, noOwn, noOwnT_L, frzT_L.1, frzL_map, Bool.not_false, Bool.true_and]; rw [noOwnL_iff]; intro x hx; obtain ⟨y, hy, rfl⟩ := List.mem_map.mp hx; exact ih y hy
  · intro o c xs ih; simp only [Vd.frz, noOwn, noOwnF_L, frzF_L.1, frzL_map, Bool.not_false, Bool.true_and]; rw [noOwnL_iff]; intro x hx; obtain ⟨y, hy, rfl⟩ := List.mem_map.mp hx; exact ih y hy
  · intro c xs ih; simp only [Vd.frz, noOwn, noOwnF_L, frzF_L.1, frzL_map]; rw [noOwnL_iff]; intro x hx; obtain ⟨y, hy, rfl⟩ := List.mem_map.mp hx; exact ih y hy
theorem noOwnL_frz (xs : List D) : noOwnL (frzL xs) = true := by
  rw [frzL_map, noOwnL_iff]; intro x hx; obtain ⟨y, hy, rfl⟩ := List.mem_map.mp hx; exact noOwn_frz y

theorem RepL.nofz_of : ∀ {xs : List D} {vs : List V} {fp : List Addr}, (∀ x ∈ xs, ∀ v fp, Rep K F H x v fp → Rep K F' H x v fp) → RepL K F H xs vs fp → RepL K F' H xs vs fp :=
  fun k h => RepL.imp (G := fun _ => True) (fun x hx v fp r _ => k x hx v fp r) h fun _ _ => True.intro
/-- data without frozen objects do not lean on F -/
theorem Rep.nofz : ∀ (d : D), noFz d = true → ∀ (v : V) (fp : List Addr), Rep K F H d v fp → Rep K F' H d v fp := by
  refine D.ind ?_ ?_ ?_ ?_ ?_ ?_ ?_ ?_ ?_ ?_ ?_
  · intro _ v fp h; simp only [Rep] at h ⊢; exact h
  · intro b _ v fp h; simp only [Rep] at h ⊢; exact h
  · intro b _ v fp h; simp only [Rep] at h ⊢; exact h
  · intro b _ v fp h; simp only [Rep] at h ⊢; exact h
  · intro b _ v fp h; simp only [Rep] at h ⊢; exact h
  · intro xs ih n v fp h
    simp only [Rep, noFz] at h n ⊢
    obtain ⟨a, vs, e, q, h2⟩ := h
    exact ⟨a, vs, e, q, RepL.nofz_of (fun x hx => ih x hx (noFzL_iff.mp n x hx)) h2⟩
  · intro o xs ih n v fp h
    cases o with
    | true =>
      simp only [Rep, noFz, Bool.true_and] at h n ⊢
      obtain ⟨a, vs, fp', e1, rfl, e, h2⟩ := h
      exact ⟨a, vs, fp', e1, rfl, e, RepL.nofz_of (fun x hx => ih x hx (noFzL_iff.mp n x hx)) h2⟩
    | false => simp [noFz] at n
  · intro o xs ih n v fp h
    cases o with
    | true =>
      simp only [Rep, noFz, Bool.true_and, repK_L, noFzK_L] at h n ⊢
      obtain ⟨a, vs, fp', e1, rfl, e, h2⟩ := h
      exact ⟨a, vs, fp', e1, rfl, e, RepL.nofz_of (fun x hx => ih x hx (noFzL_iff.mp n x hx)) h2⟩
    | false => simp [noFz] at n
  · intro o xs ih n v fp h
    cases o with
    | true =>
      simp only [Rep, noFz, Bool.true_and, repT_L, noFzT_L] at h n ⊢
      obtain ⟨a, vs, fp', e1, rfl, e, h2⟩ := h
      exact ⟨a, vs, fp', e1, rfl, e, RepL.nofz_of (fun x hx => ih x hx (noFzL_iff.mp n x hx)) h2⟩
    | false => simp [noFz] at n
  · intro o c xs ih n v fp h
    cases o with
    | true =>
      simp only [Rep, noFz, Bool.true_and, repF_L, noFzF_L] at h n ⊢
      obtain ⟨a, dx, vs, fp', e1, rfl, e, h2⟩ := h
      exact ⟨a, dx, vs, fp', e1, rfl, e, RepL.nofz_of (fun x hx => ih x hx (noFzL_iff.mp n x hx)) h2⟩
    | false => simp [noFz] at n
  · intro c xs ih n v fp h
    simp [noFz] at n
end
end Vd

set_option Elab.async false
set_option linter.all false
set_option maxRecDepth 100000
set_option maxHeartbeats 4000000
/-! Vd, part 3: environments, what is held, steps, the judgements of expressions. -/
namespace Vd
open PySem PySem.Spec PyProof.Rows L2

abbrev Ev := List (Option D)
abbrev Sg := L2.St
/-- an operand: a value of its own, or the name in slot i, read when it is used -/
inductive R where
  | tmp (d : D)
  | plc (i : Nat)
def gv : Ev → Nat → Option D
  | [], _ => none
  | x :: _, 0 => x
  | _ :: r, n + 1 => gv r n
def gr (env : Ev) : R → Option D
  | .tmp d => some d
  | .plc i => gv env i

section
variable (K : PySem.W.Frag) (F : Addr → Prop) (H : Hp)
def RepO : Option D → Option V → List Addr → Prop
  | none, _, fp => fp = []
  | some d, s, fp => ∃ v, s = some v ∧ Rep K F H d v fp
def RepE : Ev → Sg → List Addr → Prop
  | [], σ, fp => σ = [] ∧ fp = []
  | d :: e, σ, fp => ∃ s r f1 f2, σ = s :: r ∧ fp = f1 ++ f2 ∧ RepO K F H d s f1 ∧ RepE e r f2
structure Hold (env : Ev) (σ : Sg) (fp : List Addr) : Prop where
  rep : RepE K F H env σ fp
  nd : fp.Nodup
  dis : ∀ a ∈ fp, ¬ F a
  fx : ∀ a, F a → H a ≠ none
end
structure Stp (F : Addr → Prop) (fp : List Addr) (H : Hp) (F' : Addr → Prop) (fp' : List Addr) (H' : Hp) : Prop where
  keep : ∀ a o, H a = some o → a ∉ fp → H' a = some o
  live : ∀ a, H' a = none → H a = none
  mono : ∀ a, F a → F' a
  nF : ∀ a, F' a → F a ∨ a ∈ fp ∨ H a = none
  nfp : ∀ a ∈ fp', a ∈ fp ∨ H a = none

section
variable {K : PySem.W.Frag} {F F' F1 F2 : Addr → Prop} {H H' H1 H2 : Hp} {env env' : Ev} {σ : Sg} {fp fp' fp1 fp2 fp3 : List Addr}
theorem Stp.refl : Stp F fp H F fp H := ⟨fun _ _ h _ => h, fun _ h => h, fun _ h => h, fun _ h => .inl h, fun _ h => .inl h⟩
theorem Stp.trans (a : Stp F fp H F1 fp1 H1) (hs : ∀ b ∈ fp2, b ∈ fp1) (b : Stp F1 fp2 H1 F2 fp3 H2) : Stp F fp H F2 fp3 H2 where
  keep := fun c o h n => b.keep c o (a.keep c o h n) fun z => by
    rcases a.nfp c (hs c z) with q | q
    · exact n q
    · rw [h] at q; cases q
  live := fun c h => a.live c (b.live c h)
  mono := fun c h => b.mono c (a.mono c h)
  nF := fun c h => by
    rcases b.nF c h with q | q | q
    · exact a.nF c q
    · exact .inr (a.nfp c (hs c q))
    · exact .inr (.inr (a.live c q))
  nfp := fun c h => by
    rcases b.nfp c h with q | q
    · exact a.nfp c (hs c q)
    · exact .inr (a.live c q)
theorem Stp.less (a : Stp F fp H F1 fp1 H1) (hs : ∀ b ∈ fp2, b ∈ fp1) : Stp F fp H F1 fp2 H1 := a.trans hs .refl
/-- nothing is written: new objects at fpz -/
structure New (H H' : Hp) (fpz : List Addr) : Prop where
  keep : ∀ a o, H a = some o → H' a = some o
  new : ∀ a ∈ fpz, H a = none
  nd : fpz.Nodup
theorem New.live (n : New H H' fpz) (a : Addr) (h : H' a = none) : H a = none := by
  cases q : H a with
  | none => rfl
  | some o => rw [n.keep a o q] at h; cases h
theorem New.refl : New H H [] := ⟨fun _ _ h => h, fun a h => absurd h (List.not_mem_nil), List.nodup_nil⟩
theorem New.one {p : Addr} {o : HO} (h : H p = none) : New H (upd H p o) [p] :=
  ⟨fun a u e => by rw [upd_ne (ne_of_none e h)]; exact e, fun a ha => by rw [List.mem_singleton.mp ha]; exact h, by simp⟩
theorem New.none_ {p : Addr} {o : HO} (h : H p = none) : New H (upd H p o) [] :=
  ⟨fun a u e => by rw [upd_ne (ne_of_none e h)]; exact e, fun a ha => absurd ha (List.not_mem_nil), List.nodup_nil⟩
theorem New.kps (n : New H H' fpz) : Kps (fun _ => False) F H H' := ⟨fun a o h _ => n.keep a o h, fun _ z => z.elim, fun _ _ z => z⟩
theorem New.stp (n : New H H' fpz) : Stp F fp H F (fpz ++ fp) H' where
  keep := fun a o h _ => n.keep a o h
  live := n.live
  mono := fun _ h => h
  nF := fun _ h => .inl h
  nfp := fun a h => (List.mem_append.mp h).elim (fun z => .inr (n.new a z)) .inl

theorem RepO.keep {W : Addr → Prop} (k : Kps W F H H') (m : ∀ a, F a → F' a) : ∀ {d : Option D} {s : Option V} {f : List Addr}, RepO K F H d s f → (∀ a ∈ f, ¬ W a) → RepO K F' H' d s f
  | none, s, f, h, g => h
  | some d, s, f, h, g => by
    obtain ⟨v, e, r⟩ := h
    exact ⟨v, e, Rep.keep k m d v f r g⟩
theorem RepO.mks : ∀ {d : Option D} {s : Option V} {f : List Addr}, RepO K F H d s f → Mks H f
  | none, s, f, h => by
    have e : f = [] := h
    rw [e]; intro a ha; cases ha
  | some d, s, f, h => by
    obtain ⟨v, e, r⟩ := h
    exact Rep.mks d r
theorem RepE.keep {W : Addr → Prop} (k : Kps W F H H') (m : ∀ a, F a → F' a) : ∀ {env : Ev} {σ : Sg} {f : List Addr}, RepE K F H env σ f → (∀ a ∈ f, ¬ W a) → RepE K F' H' env σ f
  | [], σ, f, h, g => h
  | d :: e, σ, f, h, g => by
    obtain ⟨s, r, f1, f2, e1, e2, h1, h2⟩ := h
    subst e2
    exact ⟨s, r, f1, f2, e1, rfl, h1.keep k m fun a ha => g a (List.mem_append_left _ ha), RepE.keep k m h2 fun a ha => g a (List.mem_append_right _ ha)⟩
theorem RepE.mks : ∀ {env : Ev} {σ : Sg} {f : List Addr}, RepE K F H env σ f → Mks H f
  | [], σ, f, h => by
    have e : f = [] := h.2
    rw [e]; intro a ha; cases ha
  | d :: e, σ, f, h => by
    obtain ⟨s, r, f1, f2, e1, e2, h1, h2⟩ := h
    subst e2
    intro a ha
    rcases List.mem_append.mp ha with z | z
    · exact h1.mks a z
    · exact RepE.mks h2 a z
theorem RepE.len : ∀ {env : Ev} {σ : Sg} {f : List Addr}, RepE K F H env σ f → σ.length = env.length
  | [], σ, f, h => by rw [h.1] <;> rfl
  | d :: e, σ, f, h => by
    obtain ⟨s, r, f1, f2, e1, e2, h1, h2⟩ := h
    rw [e1, List.length_cons, List.length_cons, RepE.len h2]
theorem RepE.get : ∀ {env : Ev} {σ : Sg} {f : List Addr} {i : Nat} {d : D}, RepE K F H env σ f → gv env i = some d → ∃ v g, σ[i]? = some (some v) ∧ Rep K F H d v g ∧ ∀ a ∈ g, a ∈ f
  | [], σ, f, i, d, h, e => by simp [gv] at e
  | x :: r, σ, f, 0, d, h, e => by
    have e' : x = some d := by simpa [gv] using e
    subst e'
    obtain ⟨s, q, f1, f2, e1, e2, ⟨v, e3, h1⟩, h2⟩ := h
    subst e1 e2 e3
    exact ⟨v, f1, rfl, h1, fun a ha => List.mem_append_left _ ha⟩
  | x :: r, σ, f, i + 1, d, h, e => by
    have e' : gv r i = some d := by simpa [gv] using e
    obtain ⟨s, q, f1, f2, e1, e2, h1, h2⟩ := h
    subst e1 e2
    obtain ⟨v, g, e4, h3, h4⟩ := RepE.get (i := i) h2 e'
    exact ⟨v, g, by simpa using e4, h3, fun a ha => List.mem_append_right _ (h4 a ha)⟩
/-- one slot taken out -/
theorem RepE.cut : ∀ {env : Ev} {σ : Sg} {f : List Addr} {i : Nat}, RepE K F H env σ f → i < env.length →
    ∃ fa fi fb s, f = fa ++ (fi ++ fb) ∧ σ[i]? = some s ∧ RepO K F H (gv env i) s fi ∧
      ∀ {W : Addr → Prop} {F' : Addr → Prop} {H' : Hp}, Kps W F H H' → (∀ a, F a → F' a) → (∀ a ∈ fa ++ fb, ¬ W a) → ∀ (d : Option D) (s' : Option V) (fi' : List Addr), RepO K F' H' d s' fi' → RepE K F' H' (env.set i d) (σ.set i s') (fa ++ (fi' ++ fb))
  | [], σ, f, i, h, hi => by simp at hi
  | x :: r, σ, f, 0, h, hi => by
    obtain ⟨s, q, f1, f2, e1, e2, h1, h2⟩ := h
    subst e1 e2
    refine ⟨[], f1, f2, s, rfl, rfl, by simpa [gv] using h1, fun {W F' H'} k m g d s' fi' h3 => ?_⟩
    exact ⟨s', q, fi', f2, rfl, rfl, h3, RepE.keep k m h2 fun a ha => g a ha⟩
  | x :: r, σ, f, i + 1, h, hi => by
    obtain ⟨s, q, f1, f2, e1, e2, h1, h2⟩ := h
    subst e1 e2
    obtain ⟨fa, fi, fb, s2, e3, e4, h3, h4⟩ := RepE.cut (i := i) h2 (by simpa using hi)
    subst e3
    refine ⟨f1 ++ fa, fi, fb, s2, by simp, by simpa using e4, by simpa [gv] using h3, fun {W F' H'} k m g d s' fi' h5 => ?_⟩
    refine ⟨s, q.set i s', f1, fa ++ (fi' ++ fb), rfl, by simp, h1.keep k m fun a ha => g a (by simp [ha]), h4 k m (fun a ha => g a ?_) d s' fi' h5⟩
    rcases List.mem_append.mp ha with z | z <;> simp [z]
theorem Hold.kps (h : Hold K F H env σ fp) (s : Stp F fp H F' fp' H') : Kps (fun a => a ∈ fp) F H H' := ⟨fun a o e n => s.keep a o e n, fun a z => h.rep.mks a z, fun a z q => h.dis a q z⟩

/-! ### operands -/
def RepR (K : PySem.W.Frag) (F : Addr → Prop) (H : Hp) (σ : Sg) : R → V → List Addr → Prop
  | .tmp d, x, f => Rep K F H d x f
  | .plc i, x, f => σ[i]? = some (some x) ∧ f = []
def RepRs (K : PySem.W.Frag) (F : Addr → Prop) (H : Hp) (σ : Sg) : List R → List V → List Addr → Prop
  | [], xs, f => xs = [] ∧ f = []
  | r :: rs, xs, f => ∃ x ys f1 f2, xs = x :: ys ∧ f = f1 ++ f2 ∧ RepR K F H σ r x f1 ∧ RepRs K F H σ rs ys f2
theorem RepR.keep {W : Addr → Prop} (k : Kps W F H H') (m : ∀ a, F a → F' a) : ∀ {r : R} {x : V} {f : List Addr}, RepR K F H σ r x f → (∀ a ∈ f, ¬ W a) → RepR K F' H' σ r x f
  | .tmp d, x, f, h, g => Rep.keep k m d x f h g
  | .plc i, x, f, h, g => h
theorem RepRs.keep {W : Addr → Prop} (k : Kps W F H H') (m : ∀ a, F a → F' a) : ∀ {r : List R} {x : List V} {f : List Addr}, RepRs K F H σ r x f → (∀ a ∈ f, ¬ W a) → RepRs K F' H' σ r x f
  | [], x, f, h, g => h
  | r :: rs, x, f, h, g => by
    obtain ⟨v, ys, f1, f2, e1, e2, h1, h2⟩ := h
    subst e2
    exact ⟨v, ys, f1, f2, e1, rfl, h1.keep k m fun a ha => g a (List.mem_append_left _ ha), RepRs.keep k m h2 fun a ha => g a (List.mem_append_right _ ha)⟩
theorem RepR.mks : ∀ {r : R} {x : V} {f : List Addr}, RepR K F H σ r x f → Mks H f
  | .tmp d, x, f, h => Rep.mks d h
  | .plc i, x, f, h => by
    have e : f = [] := h.2
    rw [e]; intro a ha; cases ha
/-- an operand has come -/
structure Res (K : PySem.W.Frag) (F : Addr → Prop) (fp : List Addr) (H : Hp) (F' : Addr → Prop) (H' : Hp) (env' : Ev) (σ : Sg) (r : R) (x : V) (fpr fp' : List Addr) : Prop where
  st : Stp F fp H F' (fpr ++ fp') H'
  ho : Hold K F' H' env' σ fp'
  rp : RepR K F' H' σ r x fpr
  nd : fpr.Nodup
  dj : ∀ a ∈ fpr, a ∉ fp' ∧ ¬ F' a
structure ResL (K : PySem.W.Frag) (F : Addr → Prop) (fp : List Addr) (H : Hp) (F' : Addr → Prop) (H' : Hp) (env' : Ev) (σ : Sg) (r : List R) (x : List V) (fpr fp' : List Addr) : Prop where
  st : Stp F fp H F' (fpr ++ fp') H'
  ho : Hold K F' H' env' σ fp'
  rp : RepRs K F' H' σ r x fpr
  nd : fpr.Nodup
  dj : ∀ a ∈ fpr, a ∉ fp' ∧ ¬ F' a
theorem ResL.nil (h : Hold K F H env σ fp) : ResL K F fp H F H env σ [] [] [] fp := ⟨.refl, h, ⟨rfl, rfl⟩, .nil, fun a ha => by cases ha⟩
theorem ResL.cons {r : R} {rs : List R} {x : V} {xs : List V} {env1 env2 : Ev} {f1 f2 g1 g2 : List Addr} (a : Res K F fp H F1 H1 env1 σ r x f1 g1) (b : ResL K F1 g1 H1 F2 H2 env2 σ rs xs f2 g2) :
    ResL K F fp H F2 H2 env2 σ (r :: rs) (x :: xs) (f1 ++ f2) g2 := by
  have k := a.ho.kps b.st
  have out : ∀ c ∈ f1, c ∉ f2 ++ g2 := fun c hc z => by
    rcases b.st.nfp c z with q | q
    · exact (a.dj c hc).1 q
    · obtain ⟨o, e, _⟩ := a.rp.mks c hc
      rw [e] at q; cases q
  refine ⟨?_, b.ho, ⟨x, xs, f1, f2, rfl, rfl, a.rp.keep k b.st.mono fun c hc => (a.dj c hc).1, b.rp⟩, ?_, fun c hc => ?_⟩
  · have t := a.st.trans (fun c hc => List.mem_append_right _ hc) b.st
    refine ⟨t.keep, t.live, t.mono, t.nF, fun c hc => ?_⟩
    rw [List.append_assoc] at hc
    rcases List.mem_append.mp hc with z | z
    · exact a.st.nfp c (List.mem_append_left _ z)
    · exact t.nfp c z
  · exact List.nodup_append.mpr ⟨a.nd, b.nd, fun c hc d hd e => out c hc (List.mem_append_left _ (e ▸ hd))⟩
  · rcases List.mem_append.mp hc with z | z
    · refine ⟨fun q => out c z (List.mem_append_right _ q), fun q => ?_⟩
      rcases b.st.nF c q with y | y | y
      · exact (a.dj c z).2 y
      · exact (a.dj c z).1 y
      · obtain ⟨o, e, _⟩ := a.rp.mks c z
        rw [e] at y; cases y
    · exact b.dj c z
/-- the datum of an operand, when it is used -/
theorem RepR.get {r : R} {x : V} {f : List Addr} {d : D} (h : RepR K F H σ r x f) (ho : Hold K F H env σ fp) (e : gr env r = some d) : ∃ g, Rep K F H d x g ∧ ∀ a ∈ g, a ∈ f ++ fp := by
  cases r with
  | tmp d' =>
    have e' : d' = d := Option.some.inj e
    subst e'
    exact ⟨f, h, fun a ha => List.mem_append_left _ ha⟩
  | plc i =>
    obtain ⟨v, g, e1, h1, h2⟩ := ho.rep.get (i := i) e
    have e2 : σ[i]? = some (some x) := h.1
    rw [e1] at e2
    have e3 : v = x := Option.some.inj (Option.some.inj e2)
    subst e3
    exact ⟨g, h1, fun a ha => List.mem_append_right _ (h2 a ha)⟩
end

/-! ### the entry -/
structure Gh where
  F0 : Addr → Prop
  fp0 : List Addr
  H0 : Hp
  pins : List (Nat × V)
structure Ent (G : Gh) (F : Addr → Prop) (fp : List Addr) (H : Hp) (σ : Sg) : Prop where
  st : Stp G.F0 G.fp0 G.H0 F fp H
  pin : ∀ p ∈ G.pins, σ[p.1]? = some (some p.2)
theorem Ent.go {G : Gh} {F F' : Addr → Prop} {fp fp' fq : List Addr} {H H' : Hp} {σ : Sg} (e : Ent G F fp H σ) (s : Stp F fp H F' fq H') (hs : ∀ a ∈ fp', a ∈ fq) : Ent G F' fp' H' σ := ⟨(e.st.trans (fun _ h => h) s).less hs, e.pin⟩

/-! ### the judgements of expressions -/
abbrev W1 := Ev → (R → Ev → Prop) → Prop
abbrev WL := Ev → (List R → Ev → Prop) → Prop
abbrev WB := Ev → (Bool → Ev → Prop) → Prop
def lE (K : PySem.W.Frag) (G : Gh) (w : W1) : TE := fun σ H Q => ∃ env F fp Φ, Hold K F H env σ fp ∧ Ent G F fp H σ ∧ w env Φ ∧
  ∀ r env', Φ r env' → ∀ x H' F' fpr fp', Res K F fp H F' H' env' σ r x fpr fp' → Q x H'
def lA (K : PySem.W.Frag) (G : Gh) (w : WL) : TA := fun σ H Q => ∃ env F fp Φ, Hold K F H env σ fp ∧ Ent G F fp H σ ∧ w env Φ ∧
  ∀ r env', Φ r env' → ∀ x H' F' fpr fp', ResL K F fp H F' H' env' σ r x fpr fp' → Q x H'
def lB (K : PySem.W.Frag) (G : Gh) (w : WB) : TT := fun σ H Q => ∃ env F fp Φ, Hold K F H env σ fp ∧ Ent G F fp H σ ∧ w env Φ ∧
  ∀ b env', Φ b env' → ∀ H' F' fp', Stp F fp H F' fp' H' → Hold K F' H' env' σ fp' → Q b H'
structure DE (X : Cx) (G : Gh) (e : Expr) (w : W1) : Prop where
  pe : PE X e (lE X.K G w)
structure DA (X : Cx) (G : Gh) (es : List Expr) (w : WL) : Prop where
  pa : PA X es (lA X.K G w)
structure DT (X : Cx) (G : Gh) (e : Expr) (w : WB) : Prop where
  pt : PT X e (lB X.K G w)
section
variable {X : Cx} {G : Gh} {e a b c : Expr} {es : List Expr} {w wa wb wc : W1} {ws : WL} {pos : Pos}
theorem pe_imp {t t' : TE} (h : PE X e t) (k : ∀ σ H Q, t' σ H Q → t σ H Q) : PE X e t' := ⟨fun pins s σ H Q I q => h.run pins s σ H Q I (k σ H Q q)⟩
theorem pa_imp {t t' : TA} (h : PA X es t) (k : ∀ σ H Q, t' σ H Q → t σ H Q) : PA X es t' := ⟨fun pos pins s σ H Q I q => h.run pos pins s σ H Q I (k σ H Q q)⟩
theorem pt_imp {t t' : TT} (h : PT X e t) (k : ∀ σ H Q, t' σ H Q → t σ H Q) : PT X e t' := ⟨fun pins s σ H Q I q => h.run pins s σ H Q I (k σ H Q q)⟩

def wTmp (d : D) : W1 := fun env Φ => Φ (.tmp d) env
def wVar (i : Nat) : W1 := fun env Φ => (gv env i).isSome = true ∧ Φ (.plc i) env
theorem res_tmp {K : PySem.W.Frag} {F : Addr → Prop} {H H' : Hp} {env : Ev} {σ : Sg} {fp fpz : List Addr} {d : D} {x : V} (ho : Hold K F H env σ fp) (n : New H H' fpz) (r : Rep K F H' d x fpz) : Res K F fp H F H' env σ (.tmp d) x fpz fp := by
  refine ⟨n.stp, ⟨ho.rep.keep n.kps (fun _ h => h) fun _ _ z => z, ho.nd, ho.dis, fun a h z => ho.fx a h (n.live a z)⟩, r, n.nd, fun a ha => ⟨fun z => ?_, fun z => ho.fx a z (n.new a ha)⟩⟩
  obtain ⟨o, e, _⟩ := ho.rep.mks a z
  rw [n.new a ha] at e; cases e
theorem de_tmp {v : V} {d : D} (h : PE X e (tC v)) (r : ∀ F H, Rep X.K F H d v []) : DE X G e (wTmp d) := ⟨pe_imp h fun σ H Q ⟨env, F, fp, Φ, ho, en, hw, k⟩ => k _ _ hw v H F [] fp (res_tmp ho .refl (r F H))⟩
theorem de_int {i j pos} : DE X G (.Constant (.int i) j pos) (wTmp (.int i)) := de_tmp pe_int fun _ _ => by simp [Rep]
theorem de_bl {i j pos} : DE X G (.Constant (.bool i) j pos) (wTmp (.bl i)) := de_tmp pe_bl fun _ _ => by simp [Rep]
theorem de_non {j pos} : DE X G (.Constant .none j pos) (wTmp .non) := de_tmp pe_non fun _ _ => by simp [Rep]
theorem de_str {x j pos} : DE X G (.Constant (.str x) j pos) (wTmp (.str x)) := de_tmp pe_str fun _ _ => by simp [Rep]
theorem de_gint {x : Str} {i : Int} (hg : Gl X x) (hm : ∃ t, X.mg x = some (.int i t)) (hd : (x == ("__debug__" : Str)) = false := by decide) : DE X G (.Name x pos) (wTmp (.int i)) := by
  obtain ⟨t, ht⟩ := hm
  exact de_tmp (pe_glob (v := .int i) hg ht ⟨t, rfl⟩ hd) fun _ _ => by simp [Rep]
theorem de_var {i : Nat} {x : Str} (hN : X.N[i]? = some x) (hv : Vis X.env.scope x) (hd : (x == ("__debug__" : Str)) = false := by decide) (hcd : (x == ("__classdict__" : Str)) = false := by decide) : DE X G (.Name x pos) (wVar i) := by
  refine ⟨pe_imp (pe_var hN hv hd hcd) fun σ H Q ⟨env, F, fp, Φ, ho, en, ⟨hs, hw⟩, k⟩ => ?_⟩
  obtain ⟨d, e⟩ := Option.isSome_iff_exists.mp hs
  obtain ⟨v, g, e1, h1, h2⟩ := ho.rep.get e
  exact ⟨v, e1, k _ _ hw v H F [] fp ⟨.refl, ho, ⟨e1, rfl⟩, .nil, fun a ha => by cases ha⟩⟩
/-! ### argument lists -/
def wNil : WL := fun env Φ => Φ [] env
def wCons (w : W1) (ws : WL) : WL := fun env Φ => w env fun r e1 => ws e1 fun rs e2 => Φ (r :: rs) e2
/-- two readings one behind the other -/
theorem seq_cons {K : PySem.W.Frag} {σ : Sg} {H : Hp} {Q : List V → Hp → Prop} (h : lA K G (wCons w ws) σ H Q) : lE K G w σ H fun x H1 => lA K G ws σ H1 fun xs H2 => Q (x :: xs) H2 := by
  obtain ⟨env, F, fp, Φ, ho, en, hw, k⟩ := h
  refine ⟨env, F, fp, _, ho, en, hw, fun r e1 h1 x H1 F1 f1 g1 r1 => ?_⟩
  refine ⟨e1, F1, g1, _, r1.ho, en.go r1.st (fun a ha => List.mem_append_right _ ha), h1, fun rs e2 h2 xs H2 F2 f2 g2 r2 => ?_⟩
  exact k _ _ h2 _ H2 F2 _ g2 (ResL.cons r1 r2)
theorem da_nil : DA X G [] wNil := ⟨pa_imp pa_nil fun σ H Q ⟨env, F, fp, Φ, ho, en, hw, k⟩ => k _ _ hw [] H F [] fp (.nil ho)⟩
theorem da_cons (h : DE X G e w) (t : DA X G es ws) (hs : starEach (e :: es) X.env = (false, eval e X.env) :: starEach es X.env := by rfl) : DA X G (e :: es) (wCons w ws) :=
  ⟨pa_imp (pa_cons h.pe t.pa hs) fun σ H Q h => seq_cons h⟩
theorem lA_nil {K : PySem.W.Frag} {σ : Sg} {H : Hp} {Q : List V → Hp → Prop} (h : lA K G wNil σ H Q) : Q [] H := by
  obtain ⟨env, F, fp, Φ, ho, en, hw, k⟩ := h
  exact k _ _ hw [] H F [] fp (.nil ho)
theorem seq_two {K : PySem.W.Frag} {σ : Sg} {H : Hp} {Q : List V → Hp → Prop} (h : lA K G (wCons wa (wCons wb wNil)) σ H Q) : lE K G wa σ H fun x H1 => lE K G wb σ H1 fun y H2 => Q [x, y] H2 := by
  have q := seq_cons h
  obtain ⟨env, F, fp, Φ, ho, en, hw, k⟩ := q
  refine ⟨env, F, fp, Φ, ho, en, hw, fun r e1 h1 x H1 F1 f1 g1 r1 => ?_⟩
  obtain ⟨env, F, fp, Φ, ho, en, hw, k⟩ := seq_cons (k r e1 h1 x H1 F1 f1 g1 r1)
  exact ⟨env, F, fp, Φ, ho, en, hw, fun r e1 h1 y H1 F1 f1 g1 r1 => lA_nil (k r e1 h1 y H1 F1 f1 g1 r1)⟩
theorem seq_one {K : PySem.W.Frag} {σ : Sg} {H : Hp} {Q : List V → Hp → Prop} (h : lA K G (wCons wa wNil) σ H Q) : lE K G wa σ H fun x H1 => Q [x] H1 := by
  obtain ⟨env, F, fp, Φ, ho, en, hw, k⟩ := seq_cons h
  exact ⟨env, F, fp, Φ, ho, en, hw, fun r e1 h1 x H1 F1 f1 g1 r1 => lA_nil (k r e1 h1 x H1 F1 f1 g1 r1)⟩

/-! ### pure operations: operands read, a new datum -/
abbrev KD := List D → (D → Prop) → Prop
def grs (env : Ev) : List R → Option (List D)
  | [] => some []
  | r :: rs => match gr env r, grs env rs with
    | some d, some ds => some (d :: ds)
    | _, _ => none
def wOp (k : KD) (ws : WL) : W1 := fun env Φ => ws env fun rs e2 => match grs e2 rs with
  | some ds => k ds fun d => Φ (.tmp d) e2
  | none => False
/-- what the rule asks (r) follows from what is said of the data (k) -/
def PureR (K : PySem.W.Frag) (r : List V → Hp → VK → Prop) (k : KD) : Prop :=
  ∀ (F : Addr → Prop) (H : Hp) (ds : List D) (xs : List V) (fp : List Addr) (Φ : D → Prop) (Q : VK), (∀ a, F a → H a ≠ none) → RepL' K F H ds xs → k ds Φ →
    (∀ d, Φ d → ∀ z H' fpz, New H H' fpz → Rep K F H' d z fpz → Q z H') → r xs H Q
where RepL' (K : PySem.W.Frag) (F : Addr → Prop) (H : Hp) : List D → List V → Prop
  | [], xs => xs = []
  | d :: ds, xs => ∃ x ys f, xs = x :: ys ∧ Rep K F H d x f ∧ RepL' K F H ds ys
theorem repRs_get {K : PySem.W.Frag} {F : Addr → Prop} {H : Hp} {env : Ev} {σ : Sg} {fp : List Addr} (ho : Hold K F H env σ fp) : ∀ {rs : List R} {xs : List V} {f : List Addr} {ds : List D}, RepRs K F H σ rs xs f → grs env rs = some ds → PureR.RepL' K F H ds xs
  | [], xs, f, ds, h, e => by
    have e' : [] = ds := Option.some.inj e
    subst e'
    exact h.1
  | r :: rs, xs, f, ds, h, e => by
    obtain ⟨x, ys, f1, f2, e1, e2, h1, h2⟩ := h
    unfold grs at e
    split at e
    · rename_i d ds' e3 e4
      have e5 : d :: ds' = ds := Option.some.inj e
      subst e5
      obtain ⟨g, h3, _⟩ := h1.get ho e3
      exact ⟨x, ys, g, e1, h3, repRs_get ho h2 e4⟩
    · cases e
/-- a pure operation -/
theorem pure_go {K : PySem.W.Frag} {H : Hp} {σ : Sg} {r : List V → Hp → VK → Prop} {k : KD} {Q : VK} (p : PureR K r k) (h : lE K G (wOp k ws) σ H Q) : lA K G ws σ H fun xs H2 => r xs H2 Q := by
  obtain ⟨env, F, fp, Φ, ho, en, hw, kk⟩ := h
  refine ⟨env, F, fp, _, ho, en, hw, fun rs e2 h2 xs H2 F2 f2 g2 r2 => ?_⟩
  split at h2
  · rename_i ds eds
    refine p F2 H2 ds xs g2 _ Q r2.ho.fx (repRs_get r2.ho r2.rp eds) h2 fun d hd z H' fpz n rz => ?_
    refine kk _ _ hd z H' F2 fpz g2 ?_
    have q := res_tmp r2.ho n rz
    refine ⟨?_, q.ho, q.rp, q.nd, q.dj⟩
    exact r2.st.trans (fun a ha => List.mem_append_right _ ha) q.st
  · exact h2.elim
end
end Vd

set_option Elab.async false
set_option linter.all false
set_option maxRecDepth 100000
set_option maxHeartbeats 4000000
/-! Vd, part 4: tests, operators, statements. -/
namespace Vd
open PySem PySem.Spec PyProof.Rows L2

section
variable {X : Cx} {G : Gh} {e a b c : Expr} {es : List Expr} {w wa wb wc : W1} {ws : WL} {pos : Pos} {op op' : Operator}

/-! ### truth -/
def truD : D → (Bool → Prop) → Prop
  | .non, Q => Q false
  | .bl b, Q => Q b
  | .int i, Q => Q (i != 0)
  | .str x, Q => x.length ≤ sizeLine ∧ Q ((x.length : Int) != 0)
  | .tup xs, Q => Q (!xs.isEmpty)
  | .lst _ xs, Q => Q (!xs.isEmpty)
  | _, _ => False
theorem empty_len {α β : Type} {xs : List α} {ys : List β} (h : xs.length = ys.length) : xs.isEmpty = ys.isEmpty := by
  cases xs <;> cases ys <;> first | rfl | (simp at h)
theorem tru_of {K : PySem.W.Frag} {F : Addr → Prop} {H : Hp} {d : D} {x : V} {f : List Addr} {Q : Bool → Prop} (r : Rep K F H d x f) (h : truD d Q) : ∃ k, TruV K x H k ∧ Q k := by
  cases d with
  | non => simp only [Rep] at r; obtain ⟨rfl, _⟩ := r; exact ⟨false, rfl, h⟩
  | bl b => simp only [Rep] at r; obtain ⟨rfl, _⟩ := r; exact ⟨b, rfl, h⟩
  | int i => simp only [Rep] at r; obtain ⟨rfl, _⟩ := r; exact ⟨_, rfl, h⟩
  | str y => simp only [Rep] at r; obtain ⟨rfl, _⟩ := r; exact ⟨_, ⟨h.1, rfl⟩, h.2⟩
  | tup xs =>
    simp only [Rep] at r
    obtain ⟨p, vs, rfl, q, rl⟩ := r
    exact ⟨_, .inr (.inl ⟨vs, .of q, rfl⟩), by rw [← empty_len rl.len]; exact h⟩
  | lst o xs =>
    cases o with
    | true =>
      simp only [Rep] at r
      obtain ⟨p, vs, f', rfl, _, q, rl⟩ := r
      exact ⟨_, .inl ⟨vs, .of q, rfl⟩, by rw [← empty_len rl.len]; exact h⟩
    | false =>
      simp only [Rep] at r
      obtain ⟨p, vs, rfl, _, q, rl⟩ := r
      exact ⟨_, .inl ⟨vs, q.sq, rfl⟩, by rw [← empty_len rl.len]; exact h⟩
  | _ => exact h.elim
def wTest (w : W1) : WB := fun env Φ => w env fun r e1 => match gr e1 r with
  | some d => truD d fun k => Φ k e1
  | none => False
theorem res_drop {K : PySem.W.Frag} {F F' : Addr → Prop} {H H' : Hp} {fp fpr fp' : List Addr} {env : Ev} {σ : Sg} {r : R} {x : V} (q : Res K F fp H F' H' env σ r x fpr fp') : Stp F fp H F' fp' H' := q.st.less fun _ h => List.mem_append_right _ h
theorem dt_val (h : DE X G e w) (he : ∀ whole, isTrue e X.env whole = (do let v ← whole; standAt e.pos; holding [v] (truthy v)) := by intro _; rfl) : DT X G e (wTest w) := by
  refine ⟨pt_imp (pt_truth h.pe he) fun σ H Q ⟨env, F, fp, Φ, ho, en, hw, k⟩ => ?_⟩
  refine ⟨env, F, fp, _, ho, en, hw, fun r e1 h1 x H1 F1 f1 g1 r1 => ?_⟩
  split at h1
  · rename_i d ed
    obtain ⟨g, rp, _⟩ := r1.rp.get r1.ho ed
    obtain ⟨kk, t1, t2⟩ := tru_of rp h1
    exact ⟨kk, t1, k _ _ t2 H1 F1 g1 (res_drop r1) r1.ho⟩
  · exact h1.elim

/-! ### and, or, not -/
def wAnd (u v : WB) : WB := fun env Φ => u env fun k e1 => if k = true then v e1 Φ else Φ false e1
def wOr (u v : WB) : WB := fun env Φ => u env fun k e1 => if k = true then Φ true e1 else v e1 Φ
def wNot (u : WB) : WB := fun env Φ => u env fun k e1 => Φ (!k) e1
structure DW (X : Cx) (G : Gh) (e : Expr) (w : WB) : Prop where
  pw : PW X e (lB X.K G w)
theorem pw_imp {t t' : TT} (h : PW X e t) (k : ∀ σ H Q, t' σ H Q → t σ H Q) : PW X e t' := ⟨fun wh pins s σ H Q I q => h.run wh pins s σ H Q I (k σ H Q q)⟩
theorem DW.dt {u : WB} (h : DW X G e u) : DT X G e u := ⟨h.pw.pt⟩
theorem dw_and1 {u : WB} (h : DT X G a u) : DW X G (.BoolOp .And [a] pos) u := ⟨pw_and1 h.pt⟩
theorem dw_or1 {u : WB} (h : DT X G a u) : DW X G (.BoolOp .Or [a] pos) u := ⟨pw_or1 h.pt⟩
variable {u v : WB} {rest : List Expr}
theorem lB_go {K : PySem.W.Frag} {σ : Sg} {H : Hp} {F : Addr → Prop} {fp : List Addr} {F1 : Addr → Prop} {H1 : Hp} {e1 : Ev} {g1 : List Addr} {Φ : Bool → Ev → Prop} {Q : Bool → Hp → Prop} (en : Ent G F fp H σ) (s : Stp F fp H F1 g1 H1) (ho : Hold K F1 H1 e1 σ g1) (h : v e1 Φ)
    (k : ∀ b env', Φ b env' → ∀ H' F' fp', Stp F fp H F' fp' H' → Hold K F' H' env' σ fp' → Q b H') : lB K G v σ H1 Q :=
  ⟨e1, F1, g1, Φ, ho, en.go s fun _ h => h, h, fun b env' hb H' F' fp' s' ho' => k b env' hb H' F' fp' (s.trans (fun _ h => h) s') ho'⟩
theorem dw_and (ha : DT X G a u) (hb : DW X G (.BoolOp .And (b :: rest) pos) v) : DW X G (.BoolOp .And (a :: b :: rest) pos) (wAnd u v) := by
  refine ⟨pw_imp (pw_and ha.pt hb.pw) fun σ H Q ⟨env, F, fp, Φ, ho, en, hw, k⟩ => ?_⟩
  refine ⟨env, F, fp, _, ho, en, hw, fun kk e1 h1 H1 F1 g1 s1 ho1 => ?_⟩
  cases kk with
  | true => exact lB_go en s1 ho1 (by simpa using h1) k
  | false => exact k _ _ (by simpa using h1) H1 F1 g1 s1 ho1
theorem dw_or (ha : DT X G a u) (hb : DW X G (.BoolOp .Or (b :: rest) pos) v) : DW X G (.BoolOp .Or (a :: b :: rest) pos) (wOr u v) := by
  refine ⟨pw_imp (pw_or ha.pt hb.pw) fun σ H Q ⟨env, F, fp, Φ, ho, en, hw, k⟩ => ?_⟩
  refine ⟨env, F, fp, _, ho, en, hw, fun kk e1 h1 H1 F1 g1 s1 ho1 => ?_⟩
  cases kk with
  | false => exact lB_go en s1 ho1 (by simpa using h1) k
  | true => exact k _ _ (by simpa using h1) H1 F1 g1 s1 ho1
theorem dt_not (ha : DT X G a u) : DT X G (.UnaryOp .Not a pos) (wNot u) := by
  refine ⟨pt_imp (pt_not ha.pt) fun σ H Q ⟨env, F, fp, Φ, ho, en, hw, k⟩ => ?_⟩
  exact ⟨env, F, fp, _, ho, en, hw, fun kk e1 h1 H1 F1 g1 s1 ho1 => k _ _ h1 H1 F1 g1 s1 ho1⟩
/-! .. as values: all but the last True or False -/
def isB (env : Ev) (r : R) (k : Bool → Prop) : Prop := match gr env r with
  | some (.bl b) => k b
  | _ => False
def wAndV (wa wb : W1) : W1 := fun env Φ => wa env fun r e1 => isB e1 r fun k => if k = true then wb e1 Φ else Φ (.tmp (.bl false)) e1
def wOrV (wa wb : W1) : W1 := fun env Φ => wa env fun r e1 => isB e1 r fun k => if k = true then Φ (.tmp (.bl true)) e1 else wb e1 Φ
def wNotV (u : WB) : W1 := fun env Φ => u env fun k e1 => Φ (.tmp (.bl (!k))) e1
theorem isB_of {K : PySem.W.Frag} {F : Addr → Prop} {H : Hp} {env : Ev} {σ : Sg} {fp f : List Addr} {r : R} {x : V} {k : Bool → Prop} (ho : Hold K F H env σ fp) (rp : RepR K F H σ r x f) (h : isB env r k) : ∃ c, x = .bl c ∧ k c := by
  unfold isB at h
  split at h
  · rename_i c ec
    obtain ⟨g, q, _⟩ := rp.get ho ec
    simp only [Rep] at q
    exact ⟨c, q.1, h⟩
  · exact h.elim
theorem lE_go {K : PySem.W.Frag} {σ : Sg} {H : Hp} {F : Addr → Prop} {fp : List Addr} {F1 : Addr → Prop} {H1 : Hp} {e1 : Ev} {g1 : List Addr} {Φ : R → Ev → Prop} {Q : VK} (en : Ent G F fp H σ) (s : Stp F fp H F1 g1 H1) (ho : Hold K F1 H1 e1 σ g1) (h : wb e1 Φ)
    (k : ∀ r env', Φ r env' → ∀ x H' F' fpr fp', Res K F fp H F' H' env' σ r x fpr fp' → Q x H') : lE K G wb σ H1 Q :=
  ⟨e1, F1, g1, Φ, ho, en.go s fun _ h => h, h, fun r env' hb x H' F' fpr fp' q => k r env' hb x H' F' fpr fp' ⟨s.trans (fun _ h => h) q.st, q.ho, q.rp, q.nd, q.dj⟩⟩
theorem res_bl {K : PySem.W.Frag} {F F1 : Addr → Prop} {H H1 : Hp} {e1 : Ev} {σ : Sg} {fp g1 : List Addr} {k : Bool} (s : Stp F fp H F1 g1 H1) (ho : Hold K F1 H1 e1 σ g1) : Res K F fp H F1 H1 e1 σ (.tmp (.bl k)) (.bl k) [] g1 :=
  ⟨s, ho, (by show Rep K F1 H1 (.bl k) (.bl k) []; simp [Rep]), List.nodup_nil, fun a ha => absurd ha (List.not_mem_nil)⟩
theorem de_one {o : BoolOp} (h : DE X G a wa) : DE X G (.BoolOp o [a] pos) wa := ⟨pe_one h.pe⟩
theorem de_and (ha : DE X G a wa) (hb : DE X G (.BoolOp .And (b :: rest) pos) wb) : DE X G (.BoolOp .And (a :: b :: rest) pos) (wAndV wa wb) := by
  refine ⟨pe_imp (pe_and ha.pe hb.pe) fun σ H Q ⟨env, F, fp, Φ, ho, en, hw, k⟩ => ?_⟩
  refine ⟨env, F, fp, _, ho, en, hw, fun r e1 h1 x H1 F1 f1 g1 r1 => ?_⟩
  obtain ⟨c, ec, h2⟩ := isB_of r1.ho r1.rp h1
  refine ⟨c, ec, ?_⟩
  cases c with
  | true => exact lE_go en (res_drop r1) r1.ho (by simpa using h2) k
  | false => exact k _ _ (by simpa using h2) _ H1 F1 [] g1 (res_bl (res_drop r1) r1.ho)
theorem de_or (ha : DE X G a wa) (hb : DE X G (.BoolOp .Or (b :: rest) pos) wb) : DE X G (.BoolOp .Or (a :: b :: rest) pos) (wOrV wa wb) := by
  refine ⟨pe_imp (pe_or ha.pe hb.pe) fun σ H Q ⟨env, F, fp, Φ, ho, en, hw, k⟩ => ?_⟩
  refine ⟨env, F, fp, _, ho, en, hw, fun r e1 h1 x H1 F1 f1 g1 r1 => ?_⟩
  obtain ⟨c, ec, h2⟩ := isB_of r1.ho r1.rp h1
  refine ⟨c, ec, ?_⟩
  cases c with
  | false => exact lE_go en (res_drop r1) r1.ho (by simpa using h2) k
  | true => exact k _ _ (by simpa using h2) _ H1 F1 [] g1 (res_bl (res_drop r1) r1.ho)
def wNotE (wa : W1) : W1 := fun env Φ => wa env fun r e1 => isB e1 r fun k => Φ (.tmp (.bl (!k))) e1
theorem de_not (ha : DE X G a wa) : DE X G (.UnaryOp .Not a pos) (wNotE wa) := by
  refine ⟨pe_imp (pe_not ha.pe) fun σ H Q ⟨env, F, fp, Φ, ho, en, hw, k⟩ => ?_⟩
  refine ⟨env, F, fp, _, ho, en, hw, fun r e1 h1 x H1 F1 f1 g1 r1 => ?_⟩
  obtain ⟨c, ec, h2⟩ := isB_of r1.ho r1.rp h1
  exact ⟨c, ec, k _ _ h2 _ H1 F1 [] g1 (res_bl (res_drop r1) r1.ho)⟩
def wIfE (u : WB) (wa wb : W1) : W1 := fun env Φ => u env fun k e1 => if k = true then wa e1 Φ else wb e1 Φ
theorem de_ifExp (hc : DT X G c u) (ha : DE X G a wa) (hb : DE X G b wb) : DE X G (.IfExp c a b pos) (wIfE u wa wb) := by
  refine ⟨pe_imp (pe_ifExp hc.pt ha.pe hb.pe) fun σ H Q ⟨env, F, fp, Φ, ho, en, hw, k⟩ => ?_⟩
  refine ⟨env, F, fp, _, ho, en, hw, fun kk e1 h1 H1 F1 g1 s1 ho1 => ?_⟩
  cases kk with
  | true => exact lE_go en s1 ho1 (by simpa using h1) k
  | false => exact lE_go en s1 ho1 (by simpa using h1) k

/-! ### operators -/
abbrev P2 (r : R2) : List V → Hp → VK → Prop := fun xs H Q => match xs with
  | [x, y] => r x y H Q
  | _ => False
abbrev P1 (r : V → Hp → VK → Prop) : List V → Hp → VK → Prop := fun xs H Q => match xs with
  | [x] => r x H Q
  | _ => False
abbrev wBin (k : KD) (wa wb : W1) : W1 := wOp k (wCons wa (wCons wb wNil))
abbrev wUn (k : KD) (wa : W1) : W1 := wOp k (wCons wa wNil)
theorem go_two {K : PySem.W.Frag} {σ : Sg} {H : Hp} {Q : VK} {r : R2} {k : KD} (p : PureR K (P2 r) k) (h : lE K G (wBin k wa wb) σ H Q) : tOp r (lE K G wa) (lE K G wb) σ H Q := seq_two (pure_go p h)
theorem go_one {K : PySem.W.Frag} {σ : Sg} {H : Hp} {Q : VK} {r : V → Hp → VK → Prop} {k : KD} (p : PureR K (P1 r) k) (h : lE K G (wUn k wa) σ H Q) : tUn r (lE K G wa) σ H Q := seq_one (pure_go p h)
/-- a two-place operator on data -/
structure OpD (X : Cx) (f : Value → Value → Sem Value) (k : KD) : Prop where
  ex : ∃ r : R2, OpR X f r ∧ PureR X.K (P2 r) k
theorem de_bin {k : KD} (o : OpD X (binaryOp op) k) (ha : DE X G a wa) (hb : DE X G b wb) : DE X G (.BinOp a op b pos) (wBin k wa wb) := by
  obtain ⟨r, h1, h2⟩ := o.ex
  exact ⟨pe_imp (pe_op h1 ha.pe hb.pe) fun σ H Q h => go_two h2 h⟩
theorem de_cmp {o : CmpOp} {k : KD} (h : OpD X (compareOp o) k) (ha : DE X G a wa) (hb : DE X G b wb) (hm : behindInMarks o b = false) : DE X G (.Compare a [o] [b] pos) (wBin k wa wb) := by
  obtain ⟨r, h1, h2⟩ := h.ex
  exact ⟨pe_imp (pe_cmpR h1 ha.pe hb.pe hm) fun σ H Q h => go_two h2 h⟩
def wTB (w : W1) : WB := fun env Φ => w env fun r e1 => isB e1 r fun k => Φ k e1
theorem dt_cmp {o : CmpOp} {k : KD} (h : OpD X (compareOp o) k) (ha : DE X G a wa) (hb : DE X G b wb) (hm : behindInMarks o b = false) : DT X G (.Compare a [o] [b] pos) (wTB (wBin k wa wb)) := by
  obtain ⟨r, h1, h2⟩ := h.ex
  refine ⟨pt_imp (pt_cmpR h1 ha.pe hb.pe hm) fun σ H Q ⟨env, F, fp, Φ, ho, en, hw, kk⟩ => ?_⟩
  have hw2 : wBin k wa wb env (fun r e1 => isB e1 r fun k => Φ k e1) := hw
  refine go_two (k := k) (G := G) h2 ⟨env, F, fp, _, ho, en, hw2, fun r e1 h1 x H1 F1 f1 g1 r1 => ?_⟩
  obtain ⟨c, ec, h2⟩ := isB_of r1.ho r1.rp h1
  exact ⟨c, ec, kk _ _ h2 H1 F1 g1 (res_drop r1) r1.ho⟩
structure UnD (X : Cx) (f : Value → Sem Value) (k : KD) : Prop where
  ex : ∃ r, UnR X f r ∧ PureR X.K (P1 r) k
theorem de_un {o : UnaryOp} {k : KD} (h : UnD X (unaryOp o) k) (ha : DE X G a wa) : DE X G (.UnaryOp o a pos) (wUn k wa) := by
  obtain ⟨r, h1, h2⟩ := h.ex
  exact ⟨pe_imp (pe_un h1 ha.pe) fun σ H Q h => go_one h2 h⟩
structure IxD (X : Cx) (k : KD) : Prop where
  ex : ∃ r : R2, IxR X r ∧ PureR X.K (P2 r) k
theorem de_ix {k : KD} (h : IxD X k) (ha : DE X G a wa) (hb : DE X G b wb) (hs : PlainIx b) : DE X G (.Subscript a b pos) (wBin k wa wb) := by
  obtain ⟨r, h1, h2⟩ := h.ex
  exact ⟨pe_imp (pe_ix h1 ha.pe hb.pe hs) fun σ H Q h => go_two h2 h⟩
structure CallD (X : Cx) (f : Value) (k : KD) : Prop where
  ex : ∃ r, CallR X f r ∧ PureR X.K r k
variable {x : Str} {p : Pos} {id T : String}
theorem de_callB {k : KD} (h : CallD X (.builtin id) k) (hg : Gl X x) (hm : X.mg x = none) (hv : bootBuiltins x = some (.builtin id)) (ha : DA X G (e :: es) ws) (hn : x ≠ "__name__" := by decide) (hdb : (x == ("__debug__" : Str)) = false := by decide)
    (he : starEach (e :: es) X.env = (false, eval e X.env) :: starEach es X.env := by rfl) (hpl : (backTo pos (starEach es X.env)).any (·.1) = false := by rfl) : DE X G (.Call (.Name x p) (e :: es) [] pos) (wOp k ws) := by
  obtain ⟨r, h1, h2⟩ := h.ex
  exact ⟨pe_imp (pe_callB h1 hg hm hv ha.pa hn hdb he hpl) fun σ H Q h => pure_go h2 h⟩
theorem de_callTy {k : KD} (h : CallD X (.type T) k) (hg : Gl X x) (hm : X.mg x = none) (hv : bootBuiltins x = some (.type T)) (ha : DA X G (e :: es) ws) (hn : x ≠ "__name__" := by decide) (hdb : (x == ("__debug__" : Str)) = false := by decide)
    (he : starEach (e :: es) X.env = (false, eval e X.env) :: starEach es X.env := by rfl) (hpl : (backTo pos (starEach es X.env)).any (·.1) = false := by rfl) : DE X G (.Call (.Name x p) (e :: es) [] pos) (wOp k ws) := by
  obtain ⟨r, h1, h2⟩ := h.ex
  exact ⟨pe_imp (pe_callTy h1 hg hm hv ha.pa hn hdb he hpl) fun σ H Q h => pure_go h2 h⟩
end

/-! ### statements -/
structure Dn where
  nx : Ev → Prop
  rt : D → Ev → Prop
  bk : Ev → Prop := fun _ => False
  ct : Ev → Prop := fun _ => False
abbrev WS := Dn → Ev → Prop
structure Adq (K : PySem.W.Frag) (G : Gh) (Dd : Dn) (D : Ends) : Prop where
  nx : ∀ env σ H F fp, Hold K F H env σ fp → Ent G F fp H σ → Dd.nx env → D.nx σ H
  bk : ∀ env σ H F fp, Hold K F H env σ fp → Ent G F fp H σ → Dd.bk env → D.bk σ H
  ct : ∀ env σ H F fp, Hold K F H env σ fp → Ent G F fp H σ → Dd.ct env → D.ct σ H
  rt : ∀ d env σ H F x fpr fp, Hold K F H env σ fp → Ent G F (fpr ++ fp) H σ → Rep K F H d x fpr → fpr.Nodup → (∀ a ∈ fpr, a ∉ fp ∧ ¬ F a) → Dd.rt d env → D.rt x H
def lS (K : PySem.W.Frag) (G : Gh) (w : WS) : TS := fun D σ H => ∃ env F fp Dd, Hold K F H env σ fp ∧ Ent G F fp H σ ∧ w Dd env ∧ Adq K G Dd D
structure DS (X : Cx) (G : Gh) (st : Stmt) (w : WS) : Prop where
  ps : PS X st (lS X.K G w)
structure DSs (X : Cx) (G : Gh) (st : List Stmt) (w : WS) : Prop where
  ps : PSs X st (lS X.K G w)
section
variable {X : Cx} {G : Gh} {e c : Expr} {st : Stmt} {sts : List Stmt} {w1 w2 : WS} {w : W1} {u : WB} {pos : Pos}
theorem ps_imp {t t' : TS} (h : PS X st t) (k : ∀ D σ H, t' D σ H → t D σ H) : PS X st t' := ⟨fun pins s σ H D I q => h.run pins s σ H D I (k D σ H q)⟩
theorem pss_imp {t t' : TS} (h : PSs X sts t) (k : ∀ D σ H, t' D σ H → t D σ H) : PSs X sts t' := ⟨fun pins s σ H D I q => h.run pins s σ H D I (k D σ H q)⟩
def wNext : WS := fun D env => D.nx env
def wSeq (a b : WS) : WS := fun D env => a { D with nx := fun e1 => b D e1 } env
def wIf (u : WB) (a b : WS) : WS := fun D env => u env fun k e1 => if k = true then a D e1 else b D e1
theorem dss_nil : DSs X G [] wNext := ⟨pss_imp pss_nil fun D σ H ⟨env, F, fp, Dd, ho, en, hw, ad⟩ => ad.nx env σ H F fp ho en hw⟩
theorem dss_cons (h : DS X G st w1) (t : DSs X G sts w2) : DSs X G (st :: sts) (wSeq w1 w2) := by
  refine ⟨pss_imp (pss_cons h.ps t.ps) fun D σ H ⟨env, F, fp, Dd, ho, en, hw, ad⟩ => ?_⟩
  exact ⟨env, F, fp, _, ho, en, hw, ⟨fun env σ H F fp ho en q => ⟨env, F, fp, Dd, ho, en, q, ad⟩, ad.bk, ad.ct, ad.rt⟩⟩
theorem dss_one (h : DS X G st w1) : DSs X G [st] w1 := ⟨pss_one h.ps⟩
theorem ds_pass : DS X G (.Pass pos) wNext := ⟨ps_imp ps_pass fun D σ H ⟨env, F, fp, Dd, ho, en, hw, ad⟩ => ad.nx env σ H F fp ho en hw⟩
def wBreak : WS := fun D env => D.bk env
def wCont : WS := fun D env => D.ct env
theorem ds_break : DS X G (.Break pos) wBreak := ⟨ps_imp ps_break fun D σ H ⟨env, F, fp, Dd, ho, en, hw, ad⟩ => ad.bk env σ H F fp ho en hw⟩
theorem ds_cont : DS X G (.Continue pos) wCont := ⟨ps_imp ps_continue fun D σ H ⟨env, F, fp, Dd, ho, en, hw, ad⟩ => ad.ct env σ H F fp ho en hw⟩
def wNever : WS := fun _ _ => False
theorem ds_never : DS X G st wNever := ⟨ps_imp ps_never fun D σ H ⟨env, F, fp, Dd, ho, en, hw, ad⟩ => hw⟩
theorem dss_never : DSs X G sts wNever := ⟨pss_imp pss_never fun D σ H ⟨env, F, fp, Dd, ho, en, hw, ad⟩ => hw⟩
theorem ds_if {a b : List Stmt} (hc : DT X G c u) (ha : DSs X G a w1) (hb : DSs X G b w2) : DS X G (.If c a b pos) (wIf u w1 w2) := by
  refine ⟨ps_imp (ps_if hc.pt ha.ps hb.ps) fun D σ H ⟨env, F, fp, Dd, ho, en, hw, ad⟩ => ?_⟩
  refine ⟨env, F, fp, _, ho, en, hw, fun kk e1 h1 H1 F1 g1 s1 ho1 => ?_⟩
  cases kk with
  | true => exact ⟨e1, F1, g1, Dd, ho1, en.go s1 fun _ h => h, by simpa using h1, ad⟩
  | false => exact ⟨e1, F1, g1, Dd, ho1, en.go s1 fun _ h => h, by simpa using h1, ad⟩
def wExpr (w : W1) : WS := fun D env => w env fun _ e1 => D.nx e1
theorem ds_expr (he : DE X G e w) (hs : swapsWith e none pos.line X.env = pure false := by rfl) : DS X G (.Expr e pos) (wExpr w) := by
  refine ⟨ps_imp (ps_expr he.pe hs) fun D σ H ⟨env, F, fp, Dd, ho, en, hw, ad⟩ => ?_⟩
  exact ⟨env, F, fp, _, ho, en, hw, fun r e1 h1 x H1 F1 f1 g1 r1 => ad.nx e1 σ H1 F1 g1 r1.ho (en.go (res_drop r1) fun _ h => h) h1⟩
/-! ### taking a datum out of an operand -/
/-- it is kept where it stood: what was owned is frozen -/
def cap (env : Ev) (r : R) (k : D → Ev → Prop) : Prop := match r with
  | .tmp d => k d env
  | .plc j => match gv env j with
    | some d => if noOwn d = true then k d env else k (frz d) (env.set j (some (frz d)))
    | none => False
/-- it is moved -/
def mov (env : Ev) (r : R) (k : D → Ev → Prop) : Prop := match r with
  | .tmp d => k d env
  | .plc j => match gv env j with
    | some d => if noOwn d = true then k d env else k d (env.set j none)
    | none => False
theorem gv_lt : ∀ {env : Ev} {i : Nat} {d : D}, gv env i = some d → i < env.length
  | [], i, d, h => by simp [gv] at h
  | x :: r, 0, d, h => by simp
  | x :: r, i + 1, d, h => by
    have := gv_lt (env := r) (i := i) (d := d) (by simpa [gv] using h)
    simp; omega
theorem setSame {σ : Sg} {i : Nat} {s : Option V} (h : σ[i]? = some s) : σ.set i s = σ := by
  have hi : i < σ.length := (List.getElem?_eq_some_iff.mp h).1
  apply List.ext_getElem?
  intro j
  by_cases e : j = i
  · subst e; rw [List.getElem?_set_self hi, h]
  · rw [List.getElem?_set_ne (Ne.symm e)]
theorem perm3 {α : Type} {fa fi fb : List α} (h : (fa ++ (fi ++ fb)).Nodup) : (fa ++ fb).Nodup ∧ fi.Nodup ∧ (∀ a ∈ fi, a ∉ fa ++ fb) := by
  rw [List.nodup_append] at h
  obtain ⟨h1, h2, h3⟩ := h
  rw [List.nodup_append] at h2
  obtain ⟨h4, h5, h6⟩ := h2
  refine ⟨List.nodup_append.mpr ⟨h1, h5, fun a ha b hb => h3 a ha b (List.mem_append_right _ hb)⟩, h4, fun a ha z => ?_⟩
  rcases List.mem_append.mp z with q | q
  · exact h3 a q a (List.mem_append_left _ ha) rfl
  · exact h6 a ha a q rfl
theorem kps_self {F : Addr → Prop} {H : Hp} : Kps (fun _ => False) F H H := ⟨fun _ _ h _ => h, fun _ z => z.elim, fun _ _ z => z⟩
theorem cap_go {K : PySem.W.Frag} {F F' : Addr → Prop} {H H' : Hp} {fp fpr fp' : List Addr} {env : Ev} {σ : Sg} {r : R} {x : V} {k : D → Ev → Prop} (q : Res K F fp H F' H' env σ r x fpr fp') (h : cap env r k) :
    ∃ d e2 F2 f2 g2, k d e2 ∧ Res K F fp H F2 H' e2 σ (.tmp d) x f2 g2 := by
  cases r with
  | tmp d => exact ⟨d, env, F', fpr, fp', h, q⟩
  | plc j =>
    unfold cap at h
    split at h
    · cases ‹R.plc j = R.tmp _›
    · rename_i j' ej
      cases ej
      split at h
      · rename_i d ed
        split at h
        · rename_i n
          refine ⟨d, env, F', [], fp', h, q.st.less fun a ha => List.mem_append_right _ ha, q.ho, ?_, List.nodup_nil, fun a ha => absurd ha (List.not_mem_nil)⟩
          obtain ⟨g, rp, _⟩ := q.rp.get q.ho (r := .plc j) ed
          have e := Rep.no d n x g rp
          subst e
          exact rp
        · obtain ⟨fa, fi, fb, s, e1, e2, h3, h4⟩ := q.ho.rep.cut (gv_lt ed)
          rw [ed] at h3
          obtain ⟨v, es, rp⟩ := h3
          have e5 : σ[j]? = some (some x) := q.rp.1
          rw [e2] at e5
          have e6 : s = some x := Option.some.inj e5
          subst e6
          have e7 : x = v := Option.some.inj es
          subst e7
          have nd := q.ho.nd
          rw [e1] at nd
          obtain ⟨n1, n2, n3⟩ := perm3 nd
          have rz : Rep K (fun a => F' a ∨ a ∈ fi) H' (frz d) x [] := Rep.frz (fun a z => .inl z) d x fi rp fun a ha => .inr ha
          have re := h4 (W := fun _ => False) (F' := fun a => F' a ∨ a ∈ fi) (H' := H') kps_self (fun a z => .inl z) (fun _ _ z => z) (some (frz d)) (some x) [] ⟨x, rfl, rz⟩
          rw [setSame e2] at re
          refine ⟨frz d, _, fun a => F' a ∨ a ∈ fi, [], fa ++ ([] ++ fb), h, ⟨q.st.keep, q.st.live, fun a z => .inl (q.st.mono a z), fun a z => ?_, fun a z => ?_⟩, ⟨re, by simpa using n1, fun a ha z => ?_, fun a z => ?_⟩, rz, List.nodup_nil, fun a ha => absurd ha (List.not_mem_nil)⟩
          · rcases z with z | z
            · exact q.st.nF a z
            · exact .inr (q.st.nfp a (List.mem_append_right _ (by rw [e1]; simp [z])))
          · have z' : a ∈ fa ++ fb := by simpa using z
            exact q.st.nfp a (List.mem_append_right _ (by rw [e1]; rcases List.mem_append.mp z' with y | y <;> simp [y]))
          · have ha' : a ∈ fa ++ fb := by simpa using ha
            rcases z with z | z
            · exact q.ho.dis a (by rw [e1]; rcases List.mem_append.mp ha' with y | y <;> simp [y]) z
            · exact n3 a z ha'
          · rcases z with z | z
            · exact q.ho.fx a z
            · obtain ⟨o, eo, _⟩ := Rep.mks d rp a z
              intro y; rw [eo] at y; cases y
      · exact h.elim
theorem mov_go {K : PySem.W.Frag} {F F' : Addr → Prop} {H H' : Hp} {fp fpr fp' : List Addr} {env : Ev} {σ : Sg} {r : R} {x : V} {k : D → Ev → Prop} (q : Res K F fp H F' H' env σ r x fpr fp') (h : mov env r k) :
    ∃ d e2 f2 g2, k d e2 ∧ Res K F fp H F' H' e2 σ (.tmp d) x f2 g2 := by
  cases r with
  | tmp d => exact ⟨d, env, fpr, fp', h, q⟩
  | plc j =>
    unfold mov at h
    split at h
    · cases ‹R.plc j = R.tmp _›
    · rename_i j' ej
      cases ej
      split at h
      · rename_i d ed
        split at h
        · rename_i n
          refine ⟨d, env, [], fp', h, q.st.less fun a ha => List.mem_append_right _ ha, q.ho, ?_, List.nodup_nil, fun a ha => absurd ha (List.not_mem_nil)⟩
          obtain ⟨g, rp, _⟩ := q.rp.get q.ho (r := .plc j) ed
          have e := Rep.no d n x g rp
          subst e
          exact rp
        · obtain ⟨fa, fi, fb, s, e1, e2, h3, h4⟩ := q.ho.rep.cut (gv_lt ed)
          rw [ed] at h3
          obtain ⟨v, es, rp⟩ := h3
          have e5 : σ[j]? = some (some x) := q.rp.1
          rw [e2] at e5
          have e6 : s = some x := Option.some.inj e5
          subst e6
          have e7 : x = v := Option.some.inj es
          subst e7
          have nd := q.ho.nd
          rw [e1] at nd
          obtain ⟨n1, n2, n3⟩ := perm3 nd
          have re := h4 (W := fun _ => False) (F' := F') (H' := H') kps_self (fun a z => z) (fun _ _ z => z) none (some x) [] rfl
          rw [setSame e2] at re
          have sub : ∀ a, a ∈ fa ++ fb → a ∈ fp' := fun a z => by rw [e1]; rcases List.mem_append.mp z with y | y <;> simp [y]
          refine ⟨d, _, fi, fa ++ ([] ++ fb), h, ⟨q.st.keep, q.st.live, q.st.mono, q.st.nF, fun a z => ?_⟩, ⟨re, by simpa using n1, fun a ha z => ?_, q.ho.fx⟩, rp, n2, fun a ha => ⟨fun z => n3 a ha (by simpa using z), fun z => q.ho.dis a (by rw [e1]; simp [ha]) z⟩⟩
          · rcases List.mem_append.mp z with y | y
            · exact q.st.nfp a (List.mem_append_right _ (by rw [e1]; simp [y]))
            · exact q.st.nfp a (List.mem_append_right _ (sub a (by simpa using y)))
          · exact q.ho.dis a (sub a (by simpa using ha)) z
      · exact h.elim
/-- the slot i takes a datum -/
theorem set_go {K : PySem.W.Frag} {F F' : Addr → Prop} {H H' : Hp} {fp f2 g2 : List Addr} {env : Ev} {σ : Sg} {d : D} {x : V} {i : Nat} (q : Res K F fp H F' H' env σ (.tmp d) x f2 g2) (hi : i < env.length) (en : Ent G F fp H σ) (hp : ∀ p ∈ G.pins, p.1 ≠ i) :
    ∃ g3, Hold K F' H' (env.set i (some d)) (σ.set i (some x)) g3 ∧ Ent G F' g3 H' (σ.set i (some x)) := by
  obtain ⟨fa, fi, fb, s, e1, e2, h3, h4⟩ := q.ho.rep.cut hi
  have re := h4 (W := fun _ => False) (F' := F') (H' := H') kps_self (fun a z => z) (fun _ _ z => z) (some d) (some x) f2 ⟨x, rfl, q.rp⟩
  have nd := q.ho.nd
  rw [e1] at nd
  obtain ⟨n1, n2, n3⟩ := perm3 nd
  have sub : ∀ a, a ∈ fa ++ fb → a ∈ g2 := fun a z => by rw [e1]; rcases List.mem_append.mp z with y | y <;> simp [y]
  have mem : ∀ a, a ∈ fa ++ (f2 ++ fb) → a ∈ f2 ∨ a ∈ fa ++ fb := fun a z => by
    rcases List.mem_append.mp z with y | y
    · exact .inr (List.mem_append_left _ y)
    · rcases List.mem_append.mp y with y | y
      · exact .inl y
      · exact .inr (List.mem_append_right _ y)
  refine ⟨fa ++ (f2 ++ fb), ⟨re, ?_, fun a ha z => ?_, q.ho.fx⟩, ⟨?_, fun p hp2 => ?_⟩⟩
  · rw [List.nodup_append] at n1 ⊢
    obtain ⟨m1, m2, m3⟩ := n1
    refine ⟨m1, List.nodup_append.mpr ⟨q.nd, m2, fun a ha b hb e => ?_⟩, fun a ha b hb e => ?_⟩
    · subst e; exact (q.dj a ha).1 (sub a (List.mem_append_right _ hb))
    · subst e
      rcases List.mem_append.mp hb with y | y
      · exact (q.dj a y).1 (sub a (List.mem_append_left _ ha))
      · exact m3 a ha a y rfl
  · rcases mem a ha with y | y
    · exact (q.dj a y).2 z
    · exact q.ho.dis a (sub a y) z
  · refine (en.st.trans (fun _ h => h) q.st).less fun a ha => ?_
    rcases mem a ha with y | y
    · exact List.mem_append_left _ y
    · exact List.mem_append_right _ (sub a y)
  · rw [List.getElem?_set_ne (Ne.symm (hp p hp2))]
    exact en.pin p hp2
def wSet (i : Nat) (w : W1) : WS := fun D env => w env fun r e1 => cap e1 r fun d e2 => i < e2.length ∧ D.nx (e2.set i (some d))
theorem ds_set {i : Nat} {x : Str} {pos' : Pos} (hN : X.N.Nodup) (hi : X.N[i]? = some x) (hx : Loc X.env.scope x) (he : DE X G e w) (hp : ∀ p ∈ G.pins, p.1 ≠ i) (hs : swapsWith e (some (.Name x pos')) pos.line X.env = pure false := by rfl)
    (hf : X.fn x = true ∨ X.env.scope.names.lookup x = some .local := by first | exact .inl rfl | exact .inr rfl | assumption) : DS X G (.Assign [.Name x pos'] e pos) (wSet i w) := by
  refine ⟨ps_imp (ps_set hN hi hx he.pe hs hf) fun D σ H ⟨env, F, fp, Dd, ho, en, hw, ad⟩ => ?_⟩
  refine ⟨env, F, fp, _, ho, en, hw, fun r e1 h1 x H1 F1 f1 g1 r1 => ?_⟩
  obtain ⟨d, e2, F2, f2, g2, ⟨hi2, hk⟩, r2⟩ := cap_go r1 h1
  obtain ⟨g3, ho3, en3⟩ := set_go r2 hi2 en hp
  exact ad.nx _ _ H1 F2 g3 ho3 en3 hk
def wRet (w : W1) : WS := fun D env => w env fun r e1 => mov e1 r fun d e2 => D.rt d e2
theorem ds_ret (he : DE X G e w) : DS X G (.Return (some e) pos) (wRet w) := by
  refine ⟨ps_imp (ps_ret he.pe) fun D σ H ⟨env, F, fp, Dd, ho, en, hw, ad⟩ => ?_⟩
  refine ⟨env, F, fp, _, ho, en, hw, fun r e1 h1 x H1 F1 f1 g1 r1 => ?_⟩
  obtain ⟨d, e2, f2, g2, hk, r2⟩ := mov_go r1 h1
  exact ad.rt d e2 σ H1 F1 x f2 g2 r2.ho ⟨en.st.trans (fun _ h => h) r2.st, en.pin⟩ r2.rp r2.nd r2.dj hk
def wRetN : WS := fun D env => D.rt .non env
theorem ds_retN : DS X G (.Return none pos) wRetN := by
  refine ⟨ps_imp ps_retN fun D σ H ⟨env, F, fp, Dd, ho, en, hw, ad⟩ => ?_⟩
  exact ad.rt .non env σ H F .non [] fp ho en (by simp [Rep]) List.nodup_nil (fun a ha => absurd ha (List.not_mem_nil)) hw
end
end Vd

set_option Elab.async false
set_option linter.all false
set_option maxRecDepth 100000
set_option maxHeartbeats 4000000
/-! Vd, part 5: promises on data, a def by its body, calls with parameters that are changed. -/
namespace Vd
open PySem PySem.Spec PyProof.Rows L2

/-- a promise on data: the arguments; wanted of the value and of what the changed parameters hold behind; the same of an error (its class, its fields) -/
abbrev SpD := List D → (D → List (Option D) → Prop) → (Str → List (Str × D) → List (Option D) → Prop) → Prop
abbrev EWt := Str → List (Str × D) → Ev → Prop
def sel {α : Type} : List Bool → List α → List α
  | true :: ms, x :: xs => x :: sel ms xs
  | false :: ms, _ :: xs => sel ms xs
  | _, _ => []
def ixs : List Bool → Nat → List Nat
  | [], _ => []
  | true :: ms, n => n :: ixs ms (n + 1)
  | false :: ms, n => ixs ms (n + 1)
def ExcAt (K : PySem.W.Frag) (F : Addr → Prop) (H : Hp) (cls : Value) (d : Option Addr) (c : Str) (fs : List (Str × D)) : Prop :=
  cls = .ref (He.ga K c) ∧ ((fs = [] ∧ d = none) ∨ ∃ dx vs, d = some dx ∧ H dx = some (.xd ((fs.map (·.1)).zip vs)) ∧ RepF K F H fs vs [])
def spH (K : PySem.W.Frag) (ms : List Bool) (sp : SpD) : Sp := fun vs H Q E => ∃ ds F fps Q0 E0, RepL K F H ds vs fps ∧ fps.Nodup ∧ (∀ a ∈ fps, ¬ F a) ∧ (∀ a, F a → H a ≠ none) ∧ sp ds Q0 E0 ∧
  (∀ d outs, Q0 d outs → ∀ x H' F' fpr fpo, Stp F fps H F' (fpr ++ fpo) H' → Rep K F' H' d x fpr → RepE K F' H' outs ((sel ms vs).map some) fpo → (fpr ++ fpo).Nodup → (∀ a ∈ fpr ++ fpo, ¬ F' a) → (∀ a, F' a → H' a ≠ none) → Q x H') ∧
  (∀ c fs outs, E0 c fs outs → ∀ cls dd H' F' fpo, Stp F fps H F' fpo H' → ExcAt K F' H' cls dd c fs → RepE K F' H' outs ((sel ms vs).map some) fpo → fpo.Nodup → (∀ a ∈ fpo, ¬ F' a) → (∀ a, F' a → H' a ≠ none) → E cls dd H')
def WXof (K : PySem.W.Frag) (G : Gh) (EW : EWt) : WX := fun cls d σ H => ∃ env F fp c fs, Hold K F H env σ fp ∧ Ent G F fp H σ ∧ ExcAt K F H cls d c fs ∧ EW c fs env
theorem takes0N {X : Cx} : L2N.Takes X (fun _ _ _ _ => False) := fun _ _ x => by
  obtain ⟨_, _, _, _, _, _, _, _, _, _, _, _, _, _, _, _, z⟩ := x
  exact z.elim
abbrev Tk (X : Cx) (G : Gh) (EW : EWt) : Prop := L2N.Takes X (WXof X.K G EW)
theorem Tk.imp {X : Cx} {G : Gh} {EW EW' : EWt} (t : Tk X G EW) (h : ∀ c fs env, EW' c fs env → EW c fs env) : Tk X G EW' := L2N.Takes.imp t fun cls d σ H ⟨env, F, fp, c, fs, h1, h2, h3, h4⟩ => ⟨env, F, fp, c, fs, h1, h2, h3, h _ _ _ h4⟩
theorem tk_none {X : Cx} {G : Gh} : Tk X G (fun _ _ _ => False) := L2N.Takes.imp takes0N fun cls d σ H ⟨env, F, fp, c, fs, h1, h2, h3, h4⟩ => h4

section
variable {K : PySem.W.Frag} {F F' F1 F2 : Addr → Prop} {H H' H1 H2 : Hp} {env env' : Ev} {σ : Sg} {fp fp' : List Addr}
theorem gv_set_ne : ∀ {env : Ev} {i j : Nat} {d : Option D}, i ≠ j → gv (env.set i d) j = gv env j
  | [], i, j, d, h => by simp [gv]
  | x :: r, 0, 0, d, h => absurd rfl h
  | x :: r, 0, j + 1, d, h => by simp [gv]
  | x :: r, i + 1, 0, d, h => by simp [gv]
  | x :: r, i + 1, j + 1, d, h => by
    simp only [List.set_cons_succ, gv]
    exact gv_set_ne (fun e => h (by rw [e]))
theorem gv_none : ∀ {env : Ev} {i : Nat}, ¬ i < env.length → gv env i = none
  | [], i, h => by simp [gv]
  | x :: r, 0, h => by simp at h
  | x :: r, i + 1, h => by
    simp only [gv]
    exact gv_none (by simpa using h)
/-- what some slots hold, taken together -/
theorem outs_of : ∀ (is : List Nat) {env : Ev} {fp : List Addr} {vs : List V}, is.Nodup → RepE K F H env σ fp → fp.Nodup → is.map (fun i => σ[i]?) = vs.map (fun v => some (some v)) →
    ∃ fpo, RepE K F H (is.map (gv env)) (vs.map some) fpo ∧ fpo.Nodup ∧ ∀ a ∈ fpo, a ∈ fp
  | [], env, fp, vs, n, h, nd, e => by
    cases vs with
    | nil => exact ⟨[], ⟨rfl, rfl⟩, List.nodup_nil, fun a ha => absurd ha (List.not_mem_nil)⟩
    | cons v r => simp at e
  | i :: is, env, fp, vs, n, h, nd, e => by
    cases vs with
    | nil => simp at e
    | cons v r =>
      simp only [List.map_cons, List.cons.injEq] at e
      obtain ⟨e0, e1⟩ := e
      by_cases hi : i < env.length
      · obtain ⟨fa, fi, fb, s, ef, es, h3, h4⟩ := h.cut hi
        rw [e0] at es
        have es' : some v = s := Option.some.inj es
        subst es'
        have re := h4 (W := fun _ => False) (F' := F) (H' := H) kps_self (fun a z => z) (fun _ _ z => z) none (some v) [] rfl
        rw [setSame e0] at re
        rw [ef] at nd
        obtain ⟨n1, n2, n3⟩ := perm3 nd
        obtain ⟨fpo, q1, q2, q3⟩ := outs_of is (vs := r) (List.nodup_cons.mp n).2 re (by simpa using n1) e1
        have em : is.map (gv (env.set i none)) = is.map (gv env) := List.map_congr_left fun j hj => gv_set_ne fun e => (List.nodup_cons.mp n).1 (e ▸ hj)
        rw [em] at q1
        refine ⟨fi ++ fpo, ⟨some v, r.map some, fi, fpo, rfl, rfl, h3, q1⟩, List.nodup_append.mpr ⟨n2, q2, fun a ha b hb e => ?_⟩, fun a ha => ?_⟩
        · subst e
          exact n3 a ha (by simpa using q3 a hb)
        · rw [ef]
          rcases List.mem_append.mp ha with z | z
          · simp [z]
          · have := q3 a z
            simp only [List.nil_append, List.mem_append] at this
            rcases this with y | y <;> simp [y]
      · obtain ⟨fpo, q1, q2, q3⟩ := outs_of is (vs := r) (List.nodup_cons.mp n).2 h nd e1
        refine ⟨[] ++ fpo, ⟨some v, r.map some, [], fpo, rfl, rfl, ?_, q1⟩, by simpa using q2, by simpa using q3⟩
        rw [gv_none hi]
        exact rfl
def startE (N : List Str) (ds : List D) : Ev := ds.map some ++ List.replicate (N.length - ds.length) none
theorem repE_none (n : Nat) (s : List (Option V)) (h : s.length = n) : RepE K F H (List.replicate n none) s [] := by
  induction n generalizing s with
  | zero => cases s with
    | nil => exact ⟨rfl, rfl⟩
    | cons a b => simp at h
  | succ n ih => cases s with
    | nil => simp at h
    | cons a b => exact ⟨a, b, [], [], rfl, rfl, rfl, ih b (by simpa using h)⟩
theorem repE_start : ∀ {ds : List D} {vs : List V} {fp : List Addr} (n : Nat), RepL K F H ds vs fp → RepE K F H (ds.map some ++ List.replicate n none) (vs.map some ++ List.replicate n none) fp
  | [], vs, fp, n, h => by
    obtain ⟨rfl, rfl⟩ := h.inv0
    exact repE_none n _ (by simp)
  | d :: ds, vs, fp, n, h => by
    obtain ⟨v, r, f1, f2, rfl, rfl, h1, h2⟩ := h.inv
    exact ⟨some v, _, f1, f2, rfl, rfl, ⟨v, rfl, h1⟩, repE_start n h2⟩
def pinsOf : List Bool → List V → Nat → List (Nat × V)
  | true :: ms, v :: vs, n => (n, v) :: pinsOf ms vs (n + 1)
  | false :: ms, _ :: vs, n => pinsOf ms vs (n + 1)
  | _, _, _ => []
theorem pins_ixs : ∀ {ms : List Bool} {vs : List V} {n : Nat}, ∀ p ∈ pinsOf ms vs n, p.1 ∈ ixs ms n
  | [], vs, n, p, h => by simp [pinsOf] at h
  | true :: ms, [], n, p, h => by simp [pinsOf] at h
  | false :: ms, [], n, p, h => by simp [pinsOf] at h
  | true :: ms, v :: vs, n, p, h => by
    rcases List.mem_cons.mp (show p ∈ (n, v) :: pinsOf ms vs (n + 1) from h) with e | e
    · rw [e]; exact List.mem_cons_self ..
    · exact List.mem_cons_of_mem _ (pins_ixs p e)
  | false :: ms, v :: vs, n, p, h => pins_ixs (n := n + 1) p h
theorem pins_start : ∀ {ms : List Bool} {vs : List V} {n : Nat} {σ : Sg}, (∀ i v, vs[i]? = some v → σ[n + i]? = some (some v)) → ∀ p ∈ pinsOf ms vs n, σ[p.1]? = some (some p.2)
  | [], vs, n, σ, k, p, h => by simp [pinsOf] at h
  | true :: ms, [], n, σ, k, p, h => by simp [pinsOf] at h
  | false :: ms, [], n, σ, k, p, h => by simp [pinsOf] at h
  | true :: ms, v :: vs, n, σ, k, p, h => by
    rcases List.mem_cons.mp (show p ∈ (n, v) :: pinsOf ms vs (n + 1) from h) with e | e
    · rw [e]; exact k 0 v rfl
    · exact pins_start (n := n + 1) (fun i w hw => by have := k (i + 1) w (by simpa using hw); rw [show n + 1 + i = n + (i + 1) by omega]; exact this) p e
  | false :: ms, v :: vs, n, σ, k, p, h => pins_start (n := n + 1) (fun i w hw => by have := k (i + 1) w (by simpa using hw); rw [show n + 1 + i = n + (i + 1) by omega]; exact this) p h
theorem pins_sel : ∀ {ms : List Bool} {vs : List V} {n : Nat} {σ : Sg}, ms.length = vs.length → (∀ p ∈ pinsOf ms vs n, σ[p.1]? = some (some p.2)) → (ixs ms n).map (fun i => σ[i]?) = (sel ms vs).map (fun v => some (some v))
  | [], [], n, σ, hl, k => rfl
  | [], v :: vs, n, σ, hl, k => by simp at hl
  | true :: ms, [], n, σ, hl, k => by simp at hl
  | false :: ms, [], n, σ, hl, k => by simp at hl
  | true :: ms, v :: vs, n, σ, hl, k => by
    show σ[n]? :: (ixs ms (n + 1)).map (fun i => σ[i]?) = some (some v) :: (sel ms vs).map (fun v => some (some v))
    rw [k (n, v) (List.mem_cons_self ..), pins_sel (n := n + 1) (by simpa using hl) fun p hp => k p (List.mem_cons_of_mem _ hp)]
  | false :: ms, v :: vs, n, σ, hl, k => pins_sel (n := n + 1) (by simpa using hl) k
theorem ixs_ge : ∀ {ms : List Bool} {n i : Nat}, i ∈ ixs ms n → n ≤ i ∧ i < n + ms.length
  | [], n, i, h => by simp [ixs] at h
  | true :: ms, n, i, h => by
    rcases List.mem_cons.mp (show i ∈ n :: ixs ms (n + 1) from h) with e | e
    · subst e; simp
    · have := ixs_ge e; simp; omega
  | false :: ms, n, i, h => by
    have := ixs_ge (ms := ms) (n := n + 1) h; simp; omega
theorem ixs_nd : ∀ {ms : List Bool} {n : Nat}, (ixs ms n).Nodup
  | [], n => List.nodup_nil
  | true :: ms, n => List.nodup_cons.mpr ⟨fun h => by have := ixs_ge h; omega, ixs_nd⟩
  | false :: ms, n => ixs_nd (ms := ms) (n := n + 1)
end

/-! ### a def by its body -/
def outs (ms : List Bool) (env : Ev) : List (Option D) := (ixs ms 0).map (gv env)
def dEnd (ms : List Bool) (Q : D → List (Option D) → Prop) : Dn := ⟨fun env => Q .non (outs ms env), fun d env => Q d (outs ms env), fun _ => False, fun _ => False⟩
section
variable {P : Program} {w : World} {K : PySem.W.Frag} {mg : Str → Option Value} {base : Heap} {x qual : Str} {params : Arguments} {body : List Stmt} {scope : Scope} {dvs : List V} {kws : List (Str × V)} {f : Addr} {fd : FuncData}
theorem fd_ok {N ps : List Str} {k : Nat} {ms : List Bool} {sp : SpD} {wb : EWt → WS} (F : FunD K x qual params body scope dvs kws f fd) (S : FnScope N ps scope) (hm : ms.length = ps.length) (len : ∀ ds Q E, sp ds Q E → ds.length = ps.length)
    (hb : ∀ (cdv : Value) (A : Around) (outer : List Env) (s : Shared) (H : Hp) (E : XK) (G : Gh) (EW : EWt), Room k (A.deeper (envOfC qual scope s.heap.objs.size f cdv)) → (∀ p ∈ G.pins, p.1 ∈ ixs ms 0) →
      Tk (cxOf (L2N.CX P w) P w K mg base N qual scope f cdv A outer s H E) G EW → DSs (cxOf (L2N.CX P w) P w K mg base N qual scope f cdv A outer s H E) G body (wb EW))
    (hw : ∀ ds Q E, sp ds Q E → wb (fun c fs env => E c fs (outs ms env)) (dEnd ms Q) (startE N ds)) :
    FnOk P w K mg base (L2N.CX P w) (k + 1) f fd ps (spH K ms sp) := by
  have hps : ps.length ≤ N.length := by have := congrArg List.length S.pre; rw [List.length_take] at this; omega
  refine F.ok S (fun vs H Q E ⟨ds, F, fps, Q0, E0, h1, _, _, _, h2, _⟩ => by rw [← h1.len]; exact len _ _ _ h2) fun cdv A outer s H vs Q E hr h => ?_
  obtain ⟨ds, F, fps, Q0, E0, hr1, nd, dis, fx, hsp, kq, ke⟩ := h
  have hl : ds.length = ps.length := len _ _ _ hsp
  have hv : vs.length = ps.length := by rw [← hr1.len]; exact hl
  let G : Gh := ⟨F, fps, H, pinsOf ms vs 0⟩
  have st0 : Hold K F H (startE N ds) (L2.start N vs) fps := by
    refine ⟨?_, nd, dis, fx⟩
    have q := repE_start (K := K) (F := F) (H := H) (N.length - ds.length) hr1
    have e : List.map some vs ++ List.replicate (N.length - ds.length) none = L2.start N vs := by unfold L2.start; rw [hl, hv]
    rw [← e]
    exact q
  have en0 : Ent G F fps H (L2.start N vs) := ⟨.refl, pins_start fun i v hv2 => by
    rw [Nat.zero_add]
    unfold L2.start
    have hi : i < vs.length := (List.getElem?_eq_some_iff.mp hv2).1
    rw [List.getElem?_append_left (by simpa using hi), List.getElem?_map, hv2]
    rfl⟩
  -- what the slots of the changed parameters hold
  have out : ∀ {env : Ev} {σ : Sg} {H' : Hp} {F' : Addr → Prop} {fp : List Addr}, RepE K F' H' env σ fp → fp.Nodup → (∀ p ∈ G.pins, σ[p.1]? = some (some p.2)) → ∃ fpo, RepE K F' H' (outs ms env) ((sel ms vs).map some) fpo ∧ fpo.Nodup ∧ ∀ a ∈ fpo, a ∈ fp :=
    fun re n pin => outs_of (ixs ms 0) ixs_nd re n (pins_sel (by rw [hm, hv]) pin)
  have tk : Tk (cxOf (L2N.CX P w) P w K mg base N qual scope f cdv A outer s H E) G (fun c fs env => E0 c fs (outs ms env)) := (L2N.takes_of rfl rfl rfl rfl).imp fun cls d σ H' ⟨env, F', fp, c, fs, ho, en, ex, he⟩ => by
    obtain ⟨fpo, q1, q2, q3⟩ := out ho.rep ho.nd en.pin
    exact ke c fs _ he cls d H' F' fpo (en.st.less q3) ex q1 q2 (fun a ha => ho.dis a (q3 a ha)) ho.fx
  refine ⟨_, (hb cdv A outer s H E G _ hr (fun p hp => pins_ixs p hp) tk).ps, ⟨_, F, fps, _, st0, en0, hw ds Q0 E0 hsp, ?_⟩⟩
  refine ⟨fun env σ H' F' fp ho en hq => ?_, fun _ _ _ _ _ _ _ z => z.elim, fun _ _ _ _ _ _ _ z => z.elim, fun d env σ H' F' x fpr fp ho en rp n dj hq => ?_⟩
  · obtain ⟨fpo, q1, q2, q3⟩ := out ho.rep ho.nd en.pin
    exact kq .non _ hq .non H' F' [] fpo (en.st.less q3) (by simp [Rep]) q1 (by simpa using q2) (fun a ha => ho.dis a (q3 a (by simpa using ha))) ho.fx
  · obtain ⟨fpo, q1, q2, q3⟩ := out ho.rep ho.nd en.pin
    refine kq d _ hq x H' F' fpr fpo (en.st.less fun a ha => ?_) rp q1 (List.nodup_append.mpr ⟨n, q2, fun a ha b hb e => ?_⟩) (fun a ha => ?_) ho.fx
    · rcases List.mem_append.mp ha with z | z
      · exact List.mem_append_left _ z
      · exact List.mem_append_right _ (q3 a z)
    · subst e; exact (dj a ha).1 (q3 a hb)
    · rcases List.mem_append.mp ha with z | z
      · exact (dj a z).2
      · exact ho.dis a (q3 a z)
end
end Vd

set_option Elab.async false
set_option linter.all false
set_option maxRecDepth 100000
set_option maxHeartbeats 4000000
/-! Vd, part 6: calls. -/
namespace Vd
open PySem PySem.Spec PyProof.Rows L2

/-- a read argument: nothing of it is owned by the callee -/
def capz (env : Ev) (r : R) (k : D → Ev → Prop) : Prop := match r with
  | .tmp d => if noOwn d = true then k d env else k (frz d) env
  | .plc j => match gv env j with
    | some d => if noOwn d = true then k d env else k (frz d) (env.set j (some (frz d)))
    | none => False
/-- an argument that the callee changes -/
def take1 (env : Ev) (r : R) (k : D → Ev → Prop) : Prop := match r with
  | .plc j => match gv env j with
    | some d => k d (env.set j none)
    | none => False
  | .tmp _ => False
def prep : List Bool → List R → Ev → (List D → Ev → Prop) → Prop
  | _, [], e, k => k [] e
  | true :: ms, r :: rs, e, k => take1 e r fun d e1 => prep ms rs e1 fun ds e2 => k (d :: ds) e2
  | false :: ms, r :: rs, e, k => capz e r fun d e1 => prep ms rs e1 fun ds e2 => k (d :: ds) e2
  | [], _ :: _, _, _ => False
def ioS : List Bool → List R → List Nat
  | true :: ms, .plc i :: rs => i :: ioS ms rs
  | true :: ms, .tmp _ :: rs => ioS ms rs
  | false :: ms, _ :: rs => ioS ms rs
  | _, _ => []
def putO : Ev → List Nat → List (Option D) → Ev
  | e, i :: is, d :: ds => putO (e.set i d) is ds
  | e, _, _ => e
def clr : Ev → List Nat → Ev
  | e, [] => e
  | e, i :: is => clr (e.set i none) is
def noFzO : Option D → Bool
  | none => true
  | some d => noFz d

section
variable {K : PySem.W.Frag} {F F' F1 F2 : Addr → Prop} {H H' H1 H2 : Hp} {env env' : Ev} {σ : Sg} {fp fp' : List Addr}
/-- two views of one frame: the second one owns more -/
def RepE2 (K : PySem.W.Frag) (F F2 : Addr → Prop) (H : Hp) : Ev → Ev → Sg → List Addr → List Addr → Prop
  | [], [], σ, fp, fq => σ = [] ∧ fp = [] ∧ fq = []
  | d :: e, d0 :: e0, σ, fp, fq => ∃ s r f1 f2 g1 g2, σ = s :: r ∧ fp = f1 ++ f2 ∧ fq = g1 ++ g2 ∧ RepO K F H d s f1 ∧ RepO K F2 H d0 s g1 ∧ (∀ a ∈ f1, a ∈ g1) ∧ RepE2 K F F2 H e e0 r f2 g2
  | _, _, _, _, _ => False
theorem RepE2.of : ∀ {e : Ev} {σ : Sg} {fp : List Addr}, RepE K F H e σ fp → RepE2 K F F H e e σ fp fp
  | [], σ, fp, h => ⟨h.1, h.2, h.2⟩
  | d :: e, σ, fp, ⟨s, r, f1, f2, e1, e2, h1, h2⟩ => ⟨s, r, f1, f2, f1, f2, e1, e2, e2, h1, h1, fun _ h => h, RepE2.of h2⟩
theorem RepE2.fst : ∀ {e e0 : Ev} {σ : Sg} {fp fq : List Addr}, RepE2 K F F2 H e e0 σ fp fq → RepE K F H e σ fp
  | [], [], σ, fp, fq, h => ⟨h.1, h.2.1⟩
  | [], _ :: _, σ, fp, fq, h => h.elim
  | _ :: _, [], σ, fp, fq, h => h.elim
  | d :: e, d0 :: e0, σ, fp, fq, ⟨s, r, f1, f2, g1, g2, e1, e2, e3, h1, h2, h3, h4⟩ => ⟨s, r, f1, f2, e1, e2, h1, h4.fst⟩
theorem RepE2.snd : ∀ {e e0 : Ev} {σ : Sg} {fp fq : List Addr}, RepE2 K F F2 H e e0 σ fp fq → RepE K F2 H e0 σ fq
  | [], [], σ, fp, fq, h => ⟨h.1, h.2.2⟩
  | [], _ :: _, σ, fp, fq, h => h.elim
  | _ :: _, [], σ, fp, fq, h => h.elim
  | d :: e, d0 :: e0, σ, fp, fq, ⟨s, r, f1, f2, g1, g2, e1, e2, e3, h1, h2, h3, h4⟩ => ⟨s, r, g1, g2, e1, e3, h2, h4.snd⟩
theorem RepE2.mono (m : ∀ a, F a → F' a) : ∀ {e e0 : Ev} {σ : Sg} {fp fq : List Addr}, RepE2 K F F2 H e e0 σ fp fq → RepE2 K F' F2 H e e0 σ fp fq
  | [], [], σ, fp, fq, h => h
  | [], _ :: _, σ, fp, fq, h => h.elim
  | _ :: _, [], σ, fp, fq, h => h.elim
  | d :: e, d0 :: e0, σ, fp, fq, ⟨s, r, f1, f2, g1, g2, e1, e2, e3, h1, h2, h3, h4⟩ => ⟨s, r, f1, f2, g1, g2, e1, e2, e3, h1.keep kps_self m fun _ _ z => z, h2, h3, h4.mono m⟩
theorem RepE2.sub : ∀ {e e0 : Ev} {σ : Sg} {fp fq : List Addr}, RepE2 K F F2 H e e0 σ fp fq → ∀ a ∈ fp, a ∈ fq
  | [], [], σ, fp, fq, h => fun a ha => by rw [h.2.1] at ha; cases ha
  | [], _ :: _, σ, fp, fq, h => h.elim
  | _ :: _, [], σ, fp, fq, h => h.elim
  | d :: e, d0 :: e0, σ, fp, fq, ⟨s, r, f1, f2, g1, g2, e1, e2, e3, h1, h2, h3, h4⟩ => fun a ha => by
    rw [e2] at ha
    rw [e3]
    rcases List.mem_append.mp ha with z | z
    · exact List.mem_append_left _ (h3 a z)
    · exact List.mem_append_right _ (h4.sub a z)
theorem RepE2.cut : ∀ {e e0 : Ev} {σ : Sg} {fp fq : List Addr} {i : Nat}, RepE2 K F F2 H e e0 σ fp fq → i < e.length →
    ∃ fa fi fb ga gi gb s, fp = fa ++ (fi ++ fb) ∧ fq = ga ++ (gi ++ gb) ∧ σ[i]? = some s ∧ RepO K F H (gv e i) s fi ∧ RepO K F2 H (gv e0 i) s gi ∧ (∀ a ∈ fi, a ∈ gi) ∧ (∀ a ∈ fa ++ fb, a ∈ ga ++ gb) ∧
      ∀ {F' : Addr → Prop}, (∀ a, F a → F' a) → ∀ (d d0 : Option D) (fi' gi' : List Addr), RepO K F' H d s fi' → RepO K F2 H d0 s gi' → (∀ a ∈ fi', a ∈ gi') → RepE2 K F' F2 H (e.set i d) (e0.set i d0) σ (fa ++ (fi' ++ fb)) (ga ++ (gi' ++ gb))
  | [], [], σ, fp, fq, i, h, hi => by simp at hi
  | [], _ :: _, σ, fp, fq, i, h, hi => h.elim
  | _ :: _, [], σ, fp, fq, i, h, hi => h.elim
  | d :: e, d0 :: e0, σ, fp, fq, 0, ⟨s, r, f1, f2, g1, g2, e1, e2, e3, h1, h2, h3, h4⟩, hi => by
    subst e1 e2 e3
    refine ⟨[], f1, f2, [], g1, g2, s, rfl, rfl, rfl, by simpa [gv] using h1, by simpa [gv] using h2, h3, fun a ha => h4.sub a ha, fun {F'} m d d0 fi' gi' q1 q2 q3 => ?_⟩
    exact ⟨s, r, fi', f2, gi', g2, rfl, rfl, rfl, q1, q2, q3, h4.mono m⟩
  | d :: e, d0 :: e0, σ, fp, fq, i + 1, ⟨s, r, f1, f2, g1, g2, e1, e2, e3, h1, h2, h3, h4⟩, hi => by
    subst e1 e2 e3
    obtain ⟨fa, fi, fb, ga, gi, gb, s2, q1, q2, q3, q4, q5, q6, q7, q8⟩ := h4.cut (i := i) (by simpa using hi)
    subst q1 q2
    refine ⟨f1 ++ fa, fi, fb, g1 ++ ga, gi, gb, s2, by simp, by simp, by simpa using q3, by simpa [gv] using q4, by simpa [gv] using q5, q6, fun a ha => ?_, fun {F'} m d d0 fi' gi' y1 y2 y3 => ?_⟩
    · simp only [List.append_assoc, List.mem_append] at ha ⊢
      rcases ha with z | z
      · exact .inl (h3 a z)
      · have := q7 a (List.mem_append.mpr z)
        exact .inr (List.mem_append.mp this)
    · exact ⟨s, r, f1, fa ++ (fi' ++ fb), g1, ga ++ (gi' ++ gb), rfl, by simp, by simp, h1.keep kps_self m fun _ _ z => z, h2, h3, q8 m d d0 fi' gi' y1 y2 y3⟩
theorem set_gv : ∀ {env : Ev} {i : Nat}, env.set i (gv env i) = env
  | [], i => by simp
  | x :: r, 0 => by simp [gv]
  | x :: r, i + 1 => by simp only [List.set_cons_succ, gv]; rw [set_gv (env := r) (i := i)]

/-- the arguments handed over -/
theorem prep_go : ∀ (ms : List Bool) (rs : List R) {xs : List V} {fpr fp fq : List Addr} {F : Addr → Prop} {e e0 : Ev} {k : List D → Ev → Prop},
    RepE2 K F F2 H e e0 σ fp fq → fp.Nodup → fq.Nodup → (∀ a ∈ fp, ¬ F a) → (∀ a, F2 a → F a) → (∀ a, F a → H a ≠ none) → RepRs K F2 H σ rs xs fpr → fpr.Nodup → (∀ a ∈ fpr, a ∉ fp ∧ ¬ F a) → prep ms rs e k →
    ∃ ds ef F1 ff fps fq', k ds ef ∧ RepL K F1 H ds xs fps ∧ RepE2 K F1 F2 H ef (clr e0 (ioS ms rs)) σ ff fq' ∧ ff.Nodup ∧ fq'.Nodup ∧ fps.Nodup ∧ (∀ a ∈ fps, a ∉ fq' ∧ ¬ F1 a) ∧ (∀ a ∈ ff, ¬ F1 a) ∧ (∀ a, F a → F1 a) ∧ (∀ a, F1 a → F a ∨ a ∈ fp ∨ a ∈ fpr) ∧
      (∀ a, F1 a → H a ≠ none) ∧ (∀ a ∈ fps, a ∈ fp) ∧ (∀ a ∈ fq', a ∈ fq) ∧ (ioS ms rs).map (fun i => σ[i]?) = (sel ms xs).map (fun v => some (some v))
  | ms, [], xs, fpr, fp, fq, F, e, e0, k, h2, n1, n2, d1, d2, fx, rr, n3, d3, hk => by
    have hk' : k [] e := by cases ms <;> simpa [prep] using hk
    obtain ⟨rfl, rfl⟩ : xs = [] ∧ fpr = [] := rr
    have ei : ioS ms [] = [] := by cases ms with
      | nil => rfl
      | cons b r => cases b <;> rfl
    have es : sel ms ([] : List V) = [] := by cases ms with
      | nil => rfl
      | cons b r => cases b <;> rfl
    rw [ei, es]
    exact ⟨[], e, F, fp, [], fq, hk', .nil, h2, n1, n2, List.nodup_nil, fun a ha => absurd ha (List.not_mem_nil), d1, fun _ h => h, fun _ h => .inl h, fx, fun a ha => absurd ha (List.not_mem_nil), fun _ h => h, rfl⟩
  | [], r :: rs, xs, fpr, fp, fq, F, e, e0, k, h2, n1, n2, d1, d2, fx, rr, n3, d3, hk => by
    exact absurd hk (by simp [prep])
  | true :: ms, .tmp d :: rs, xs, fpr, fp, fq, F, e, e0, k, h2, n1, n2, d1, d2, fx, rr, n3, d3, hk => by
    exact absurd hk (by simp [prep, take1])
  | true :: ms, .plc i :: rs, xs, fpr, fp, fq, F, e, e0, k, h2, n1, n2, d1, d2, fx, rr, n3, d3, hk => by
    obtain ⟨x, ys, f1, f2, rfl, rfl, ⟨hx, rfl⟩, rr2⟩ := rr
    simp only [prep, take1] at hk
    split at hk
    · rename_i d ed
      obtain ⟨fa, fi, fb, ga, gi, gb, s, q1, q2, q3, q4, q5, q6, q7, q8⟩ := h2.cut (gv_lt ed)
      rw [hx] at q3
      have es : some x = s := Option.some.inj q3
      subst es
      rw [ed] at q4
      obtain ⟨v, ev, rp⟩ := q4
      have ev' : x = v := Option.some.inj ev
      subst ev'
      have re := q8 (F' := F) (fun _ h => h) none none [] [] rfl rfl fun _ h => h
      rw [q1] at n1 d1 d3
      rw [q2] at n2
      obtain ⟨m1, m2, m3⟩ := perm3 n1
      obtain ⟨p1, p2, p3⟩ := perm3 n2
      have sub : ∀ a, a ∈ fa ++ fb → a ∈ fa ++ (fi ++ fb) := fun a z => by rcases List.mem_append.mp z with y | y <;> simp [y]
      obtain ⟨ds, ef, F1, ff, fps, fq', y1, y2, y3, y4, y5, y6, y7, y8, y9, y10, y11, y12, y13, y14⟩ := prep_go ms rs (k := fun ds e2 => k (d :: ds) e2) re (by simpa using m1) (by simpa using p1) (fun a ha => d1 a (sub a (by simpa using ha))) d2 fx rr2 (by simpa using n3) (fun a ha => ⟨fun z => (d3 a (by simpa using ha)).1 (sub a (by simpa using z)), (d3 a (by simpa using ha)).2⟩) hk
      have fiF : ∀ a ∈ fi, ¬ F1 a := fun a ha z => by
        rcases y10 a z with q | q | q
        · exact d1 a (by simp [ha]) q
        · exact m3 a ha (by simpa using q)
        · exact (d3 a (by simpa using q)).1 (by simp [ha])
      have rp1 : Rep K F1 H d x fi := Rep.keep (W := fun _ => False) kps_self y9 d x fi rp fun _ _ z => z
      have c1 : (fi ++ fps).Nodup := List.nodup_append.mpr ⟨m2, y6, fun a ha b hb e => by subst e; exact m3 a ha (by simpa using y12 a hb)⟩
      have c2 : ∀ a ∈ fi ++ fps, a ∉ fq' ∧ ¬ F1 a := fun a ha => by
        rcases List.mem_append.mp ha with z | z
        · exact ⟨fun w => p3 a (q6 a z) (by simpa using y13 a w), fiF a z⟩
        · exact y7 a z
      have c3 : ∀ a, F1 a → F a ∨ a ∈ fp ∨ a ∈ [] ++ f2 := fun a z => by
        rcases y10 a z with q | q | q
        · exact .inl q
        · exact .inr (.inl (by rw [q1]; exact sub a (by simpa using q)))
        · exact .inr (.inr (by simpa using q))
      have c4 : ∀ a ∈ fi ++ fps, a ∈ fp := fun a ha => by
        rw [q1]
        rcases List.mem_append.mp ha with z | z
        · simp [z]
        · exact sub a (by simpa using y12 a z)
      have c5 : ∀ a ∈ fq', a ∈ fq := fun a ha => by
        rw [q2]
        have := y13 a ha
        simp only [List.nil_append, List.mem_append] at this
        rcases this with q | q <;> simp [q]
      have c6 : (ioS (true :: ms) (R.plc i :: rs)).map (fun i => σ[i]?) = (sel (true :: ms) (x :: ys)).map (fun v => some (some v)) := by
        show σ[i]? :: _ = some (some x) :: _
        rw [hx]
        exact congrArg _ y14
      exact ⟨d :: ds, ef, F1, ff, fi ++ fps, fq', y1, .cons rp1 y2, y3, y4, y5, c1, c2, y8, y9, c3, y11, c4, c5, c6⟩
    · exact hk.elim
  | false :: ms, .tmp d :: rs, xs, fpr, fp, fq, F, e, e0, k, h2, n1, n2, d1, d2, fx, rr, n3, d3, hk => by
    obtain ⟨x, ys, f1, f2, rfl, rfl, rp, rr2⟩ := rr
    have rp : Rep K F2 H d x f1 := rp
    simp only [prep, capz] at hk
    obtain ⟨m1, m2, m3⟩ := List.nodup_append.mp n3
    split at hk
    · rename_i no
      have e1 := Rep.no d no x f1 rp
      subst e1
      obtain ⟨ds, ef, F1, ff, fps, fq', y1, y2, y3, y4, y5, y6, y7, y8, y9, y10, y11, y12, y13, y14⟩ := prep_go ms rs (k := fun ds e2 => k (d :: ds) e2) h2 n1 n2 d1 d2 fx rr2 m2 (fun a ha => d3 a (by simpa using ha)) hk
      have rp1 : Rep K F1 H d x [] := Rep.keep (W := fun _ => False) kps_self (fun a z => y9 a (d2 a z)) d x [] rp fun _ _ z => z
      exact ⟨d :: ds, ef, F1, ff, [] ++ fps, fq', y1, .cons rp1 y2, y3, y4, y5, by simpa using y6, by simpa using y7, y8, y9, by simpa using y10, y11, by simpa using y12, y13, y14⟩
    · obtain ⟨ds, ef, F1, ff, fps, fq', y1, y2, y3, y4, y5, y6, y7, y8, y9, y10, y11, y12, y13, y14⟩ := prep_go ms rs (F := fun a => F a ∨ a ∈ f1) (k := fun ds e2 => k (Vd.frz d :: ds) e2) (h2.mono fun a z => .inl z) n1 n2 (fun a ha z => z.elim (d1 a ha) fun w => (d3 a (List.mem_append_left _ w)).1 ha) (fun a z => .inl (d2 a z))
        (fun a z => z.elim (fx a) fun w => by obtain ⟨o, eo, _⟩ := Rep.mks d rp a w; intro q; rw [eo] at q; cases q) rr2 m2
        (fun a ha => ⟨(d3 a (List.mem_append_right _ ha)).1, fun z => z.elim (d3 a (List.mem_append_right _ ha)).2 fun w => m3 a w a ha rfl⟩) hk
      have rp1 : Rep K F1 H (Vd.frz d) x [] := Rep.frz (fun a z => y9 a (.inl (d2 a z))) d x f1 rp fun a ha => y9 a (.inr ha)
      refine ⟨_ :: ds, ef, F1, ff, [] ++ fps, fq', y1, .cons rp1 y2, y3, y4, y5, by simpa using y6, by simpa using y7, y8, fun a z => y9 a (.inl z), fun a z => ?_, y11, by simpa using y12, y13, y14⟩
      rcases y10 a z with (q | q) | q | q
      · exact .inl q
      · exact .inr (.inr (List.mem_append_left _ q))
      · exact .inr (.inl q)
      · exact .inr (.inr (List.mem_append_right _ q))
  | false :: ms, .plc i :: rs, xs, fpr, fp, fq, F, e, e0, k, h2, n1, n2, d1, d2, fx, rr, n3, d3, hk => by
    obtain ⟨x, ys, f1, f2, rfl, rfl, ⟨hx, rfl⟩, rr2⟩ := rr
    simp only [prep, capz] at hk
    split at hk
    · rename_i d ed
      obtain ⟨fa, fi, fb, ga, gi, gb, s, q1, q2, q3, q4, q5, q6, q7, q8⟩ := h2.cut (gv_lt ed)
      rw [hx] at q3
      have es : some x = s := Option.some.inj q3
      subst es
      rw [ed] at q4
      obtain ⟨v, ev, rp⟩ := q4
      have ev' : x = v := Option.some.inj ev
      subst ev'
      split at hk
      · rename_i no
        have e1 := Rep.no d no x fi rp
        subst e1
        obtain ⟨ds, ef, F1, ff, fps, fq', y1, y2, y3, y4, y5, y6, y7, y8, y9, y10, y11, y12, y13, y14⟩ := prep_go ms rs (k := fun ds e2 => k (d :: ds) e2) h2 n1 n2 d1 d2 fx rr2 (by simpa using n3) (fun a ha => d3 a (by simpa using ha)) hk
        have rp1 : Rep K F1 H d x [] := Rep.keep (W := fun _ => False) kps_self y9 d x [] rp fun _ _ z => z
        exact ⟨d :: ds, ef, F1, ff, [] ++ fps, fq', y1, .cons rp1 y2, y3, y4, y5, by simpa using y6, by simpa using y7, y8, y9, by simpa using y10, y11, by simpa using y12, y13, y14⟩
      · have rz : Rep K (fun a => F a ∨ a ∈ fi) H (Vd.frz d) x [] := Rep.frz (fun a z => .inl z) d x fi rp fun a ha => .inr ha
        have re := q8 (F' := fun a => F a ∨ a ∈ fi) (fun a z => .inl z) (some (Vd.frz d)) (gv e0 i) [] gi ⟨x, rfl, rz⟩ q5 fun a ha => absurd ha (List.not_mem_nil)
        rw [set_gv, ← q2] at re
        have sub : ∀ a, a ∈ fa ++ fb → a ∈ fp := fun a z => by rw [q1]; rcases List.mem_append.mp z with y | y <;> simp [y]
        have fif : ∀ a ∈ fi, a ∈ fp := fun a z => by rw [q1]; simp [z]
        have n1' := n1
        rw [q1] at n1'
        obtain ⟨m1, m2, m3⟩ := perm3 n1'
        obtain ⟨ds, ef, F1, ff, fps, fq', y1, y2, y3, y4, y5, y6, y7, y8, y9, y10, y11, y12, y13, y14⟩ := prep_go ms rs (F := fun a => F a ∨ a ∈ fi) (k := fun ds e2 => k (Vd.frz d :: ds) e2) re (by simpa using m1) n2
          (fun a ha z => z.elim (d1 a (sub a (by simpa using ha))) fun w => m3 a w (by simpa using ha)) (fun a z => .inl (d2 a z))
          (fun a z => z.elim (fx a) fun w => by obtain ⟨o, eo, _⟩ := Rep.mks d rp a w; intro q; rw [eo] at q; cases q) rr2 (by simpa using n3)
          (fun a ha => ⟨fun z => (d3 a (by simpa using ha)).1 (sub a (by simpa using z)), fun z => z.elim (d3 a (by simpa using ha)).2 fun w => (d3 a (by simpa using ha)).1 (fif a w)⟩) hk
        have rp1 : Rep K F1 H (Vd.frz d) x [] := Rep.keep (W := fun _ => False) kps_self y9 _ x [] rz fun _ _ z => z
        refine ⟨_ :: ds, ef, F1, ff, [] ++ fps, fq', y1, .cons rp1 y2, y3, y4, y5, by simpa using y6, by simpa using y7, y8, fun a z => y9 a (.inl z), fun a z => ?_, y11, fun a ha => sub a (by simpa using y12 a (by simpa using ha)), y13, y14⟩
        rcases y10 a z with (q | q) | q | q
        · exact .inl q
        · exact .inr (.inl (fif a q))
        · exact .inr (.inl (sub a (by simpa using q)))
        · exact .inr (.inr (by simpa using q))
    · exact hk.elim
/-- what the changed parameters hold comes back into the slots -/
theorem putO_go : ∀ (is : List Nat) {e : Ev} {fp fpo : List Addr} {vs : List V} {os : List (Option D)}, Hold K F H e σ fp → RepE K F H os (vs.map some) fpo → fpo.Nodup → (∀ a ∈ fpo, a ∉ fp ∧ ¬ F a) → is.map (fun i => σ[i]?) = vs.map (fun v => some (some v)) →
    ∃ fp', Hold K F H (putO e is os) σ fp' ∧ ∀ a ∈ fp', a ∈ fp ∨ a ∈ fpo
  | [], e, fp, fpo, vs, os, ho, re, n, dj, eq => by
    have : putO e [] os = e := by cases os <;> rfl
    rw [this]
    exact ⟨fp, ho, fun a h => .inl h⟩
  | i :: is, e, fp, fpo, vs, [], ho, re, n, dj, eq => ⟨fp, ho, fun a h => .inl h⟩
  | i :: is, e, fp, fpo, vs, d :: os, ho, re, n, dj, eq => by
    cases vs with
    | nil => simp at eq
    | cons v r =>
      simp only [List.map_cons, List.cons.injEq] at eq
      obtain ⟨e0, e1⟩ := eq
      obtain ⟨s, rr, f1, f2, es, ef, h1, h2⟩ := re
      have es' : some v = s ∧ r.map some = rr := by simpa using es
      obtain ⟨rfl, rfl⟩ := es'
      subst ef
      obtain ⟨m1, m2, m3⟩ := List.nodup_append.mp n
      show ∃ fp', Hold K F H (putO (e.set i d) is os) σ fp' ∧ _
      by_cases hi : i < e.length
      · obtain ⟨fa, fi, fb, s, q1, q2, q3, q4⟩ := ho.rep.cut hi
        rw [e0] at q2
        have q2' : some v = s := Option.some.inj q2
        subst q2'
        have re2 := q4 (W := fun _ => False) (F' := F) (H' := H) kps_self (fun a z => z) (fun _ _ z => z) d (some v) f1 h1
        rw [setSame e0] at re2
        have nd := ho.nd
        rw [q1] at nd
        obtain ⟨p1, p2, p3⟩ := perm3 nd
        have sub : ∀ a, a ∈ fa ++ fb → a ∈ fp := fun a z => by rw [q1]; rcases List.mem_append.mp z with y | y <;> simp [y]
        have mem : ∀ a, a ∈ fa ++ (f1 ++ fb) → a ∈ f1 ∨ a ∈ fa ++ fb := fun a z => by
          simp only [List.mem_append] at z ⊢
          rcases z with y | y | y <;> simp [y]
        have ho2 : Hold K F H (e.set i d) σ (fa ++ (f1 ++ fb)) := by
          refine ⟨re2, ?_, fun a ha z => ?_, ho.fx⟩
          · obtain ⟨l1, l2, l3⟩ := List.nodup_append.mp p1
            refine List.nodup_append.mpr ⟨l1, List.nodup_append.mpr ⟨m1, l2, fun a ha b hb e => ?_⟩, fun a ha b hb e => ?_⟩
            · subst e; exact (dj a (List.mem_append_left _ ha)).1 (sub a (List.mem_append_right _ hb))
            · subst e
              rcases List.mem_append.mp hb with y | y
              · exact (dj a (List.mem_append_left _ y)).1 (sub a (List.mem_append_left _ ha))
              · exact l3 a ha a y rfl
          · rcases mem a ha with y | y
            · exact (dj a (List.mem_append_left _ y)).2 z
            · exact ho.dis a (sub a y) z
        obtain ⟨fp', k1, k2⟩ := putO_go is ho2 h2 m2 (fun a ha => ⟨fun z => by
          rcases mem a z with y | y
          · exact m3 a y a ha rfl
          · exact (dj a (List.mem_append_right _ ha)).1 (sub a y), (dj a (List.mem_append_right _ ha)).2⟩) e1
        refine ⟨fp', k1, fun a ha => ?_⟩
        rcases k2 a ha with y | y
        · rcases mem a y with z | z
          · exact .inr (List.mem_append_left _ z)
          · exact .inl (sub a z)
        · exact .inr (List.mem_append_right _ y)
      · have ee : e.set i d = e := List.set_eq_of_length_le (by omega)
        rw [ee]
        obtain ⟨fp', k1, k2⟩ := putO_go is ho h2 m2 (fun a ha => dj a (List.mem_append_right _ ha)) e1
        exact ⟨fp', k1, fun a ha => (k2 a ha).imp id fun z => List.mem_append_right _ z⟩
theorem RepE.nofz : ∀ {os : List (Option D)} {s : Sg} {f : List Addr}, os.all noFzO = true → RepE K F H os s f → RepE K F' H os s f
  | [], s, f, n, h => h
  | none :: os, s, f, n, ⟨a, b, f1, f2, e1, e2, h1, h2⟩ => ⟨a, b, f1, f2, e1, e2, h1, h2.nofz (by simpa [noFzO] using n)⟩
  | some d :: os, s, f, n, ⟨a, b, f1, f2, e1, e2, ⟨v, ev, h1⟩, h2⟩ => by
    have n' : noFz d = true ∧ os.all noFzO = true := by simpa [noFzO] using n
    exact ⟨a, b, f1, f2, e1, e2, ⟨v, ev, Rep.nofz d n'.1 v f1 h1⟩, h2.nofz n'.2⟩
end

/-! ### the call's reading -/
def backE (ms : List Bool) (rs : List R) (e2 ef : Ev) (d : D) (os : List (Option D)) : Ev := if (noFz d && os.all noFzO) = true then putO (clr e2 (ioS ms rs)) (ioS ms rs) os else putO ef (ioS ms rs) os
def wCall (ms : List Bool) (sp : SpD) (dvs : List D) (EW : EWt) (ws : WL) : W1 := fun env Φ => ws env fun rs e2 => prep ms rs e2 fun ds ef =>
  sp (ds ++ dvs) (fun d os => Φ (.tmp d) (backE ms rs e2 ef d os)) (fun c fs os => EW c fs (putO ef (ioS ms rs) os))
section
variable {X : Cx} {G : Gh} {EW : EWt} {ws : WL} {ms : List Bool} {sp : SpD} {dvs : List D} {dvv : List V}
theorem call_core {σ : Sg} {H H2 : Hp} {Q : VK} {F F2 : Addr → Prop} {fp fpr fp2 : List Addr} {Φ : R → Ev → Prop} {rs : List R} {e2 : Ev} {xs : List V} (hd : ∀ F H, RepL X.K F H dvs dvv []) (hsel : sel ms (xs ++ dvv) = sel ms xs) (en : Ent G F fp H σ)
    (r2 : ResL X.K F fp H F2 H2 e2 σ rs xs fpr fp2) (h2 : prep ms rs e2 fun ds ef => sp (ds ++ dvs) (fun d os => Φ (.tmp d) (backE ms rs e2 ef d os)) (fun c fs os => EW c fs (putO ef (ioS ms rs) os)))
    (kk : ∀ r env', Φ r env' → ∀ x H' F' fpr fp', Res X.K F fp H F' H' env' σ r x fpr fp' → Q x H') : spH X.K ms sp (xs ++ dvv) H2 Q (WE (WXof X.K G EW) σ) := by
  obtain ⟨ds, ef, F1, ff, fps, fq', y1, y2, y3, y4, y5, y6, y7, y8, y9, y10, y11, y12, y13, y14⟩ := prep_go ms rs (.of r2.ho.rep) r2.ho.nd r2.ho.nd r2.ho.dis (fun _ h => h) r2.ho.fx r2.rp r2.nd r2.dj h2
  have rall : RepL X.K F1 H2 (ds ++ dvs) (xs ++ dvv) fps := by simpa using RepL.append y2 (hd F1 H2)
  have kps : ∀ {F' : Addr → Prop} {fpx : List Addr} {H' : Hp} {F3 : Addr → Prop}, (∀ a, F' a → F1 a) → Stp F1 fps H2 F3 fpx H' → Kps (fun a => a ∈ fps) F' H2 H' := fun {F' fpx H' F3} m s =>
    ⟨fun a o e n => s.keep a o e n, fun a z => y2.mks a z, fun a z q => (y7 a q).2 (m a z)⟩
  have ffq : ∀ a ∈ ff, a ∉ fps := fun a ha z => (y7 a z).1 (y3.sub a ha)
  -- footprints behind the call stand apart from what was there
  have apart : ∀ {a : Addr} {fpx : List Addr} {H' : Hp} {F3 : Addr → Prop}, Stp F1 fps H2 F3 fpx H' → a ∈ fpx → a ∉ fq' := fun {a fpx H' F3} s ha z => by
    rcases s.nfp a ha with q | q
    · exact (y7 a q).1 z
    · obtain ⟨o, eo, _⟩ := y3.snd.mks a z
      rw [eo] at q; cases q
  have frozen : ∀ {os : List (Option D)} {H' : Hp} {F' : Addr → Prop} {fpr3 fpo : List Addr}, Stp F1 fps H2 F' (fpr3 ++ fpo) H' → RepE X.K F' H' os ((sel ms (xs ++ dvv)).map some) fpo → fpo.Nodup → (∀ a ∈ fpo, ¬ F' a) → (∀ a, F' a → H' a ≠ none) →
      ∃ fp3, Hold X.K F' H' (putO ef (ioS ms rs) os) σ fp3 ∧ (∀ a ∈ fp3, a ∈ ff ∨ a ∈ fpo) ∧ Stp F fp H F' (fpr3 ++ fp3) H' := by
    intro os H' F' fpr3 fpo s re n d fx
    have h0 : ∀ a ∈ ff, ¬ F' a := fun a ha z => by
      rcases s.nF a z with q | q | q
      · exact y8 a ha q
      · exact ffq a ha q
      · obtain ⟨o, eo, _⟩ := y3.fst.mks a ha
        rw [eo] at q
        cases q
    have h1 : Hold X.K F' H' ef σ ff := ⟨y3.fst.keep (kps (fun _ h => h) s) s.mono fun a ha => ffq a ha, y4, h0, fx⟩
    rw [hsel] at re
    obtain ⟨fp3, k1, k2⟩ := putO_go (ioS ms rs) h1 re n (fun a ha => ⟨fun z => apart s (List.mem_append_right _ ha) (y3.sub a z), d a ha⟩) y14
    refine ⟨fp3, k1, k2, ⟨fun a o e n => s.keep a o (r2.st.keep a o e n) fun z => ?_, fun a z => r2.st.live a (s.live a z), fun a z => s.mono a (y9 a (r2.st.mono a z)), fun a z => ?_, fun a z => ?_⟩⟩
    · rcases r2.st.nfp a (List.mem_append_right _ (y12 a z)) with q | q
      · exact n q
      · rw [e] at q; cases q
    · rcases s.nF a z with q | q | q
      · rcases y10 a q with w | w | w
        · exact r2.st.nF a w
        · exact .inr (r2.st.nfp a (List.mem_append_right _ w))
        · exact .inr (r2.st.nfp a (List.mem_append_left _ w))
      · exact .inr (r2.st.nfp a (List.mem_append_right _ (y12 a q)))
      · exact .inr (.inr (r2.st.live a q))
    · have h3 : a ∈ ff ∨ a ∈ fpr3 ++ fpo := by
        rcases List.mem_append.mp z with q | q
        · exact .inr (List.mem_append_left _ q)
        · exact (k2 a q).imp id fun w => List.mem_append_right _ w
      rcases h3 with q | q
      · exact r2.st.nfp a (List.mem_append_right _ (y13 a (y3.sub a q)))
      · rcases s.nfp a q with w | w
        · exact r2.st.nfp a (List.mem_append_right _ (y12 a w))
        · exact .inr (r2.st.live a w)
  refine ⟨ds ++ dvs, F1, fps, _, _, rall, y6, fun a ha => (y7 a ha).2, y11, y1, fun d os hq x H' F' fpr3 fpo s rp re n dis fx => ?_, fun c fs os hq cls dd H' F' fpo s ex re n dis fx => ?_⟩
  · obtain ⟨n1, n2, n3⟩ := List.nodup_append.mp n
    unfold backE at hq
    split at hq
    · rename_i hz
      have hz' : noFz d = true ∧ os.all noFzO = true := by simpa using hz
      have m12 : ∀ a, F2 a → F1 a := y9
      have h1 : Hold X.K F2 H' (clr e2 (ioS ms rs)) σ fq' := ⟨y3.snd.keep (kps m12 s) (fun _ h => h) fun a ha z => (y7 a z).1 ha, y5, fun a ha => r2.ho.dis a (y13 a ha), fun a z w => r2.ho.fx a z (s.live a w)⟩
      rw [hsel] at re
      have up : ∀ a, F2 a → F' a := fun a z => s.mono a (m12 a z)
      obtain ⟨fp3, k1, k2⟩ := putO_go (ioS ms rs) h1 (RepE.nofz (F' := F2) hz'.2 re) n2 (fun a ha => ⟨fun z => apart s (List.mem_append_right _ ha) z, fun z => dis a (List.mem_append_right _ ha) (up a z)⟩) y14
      refine kk _ _ hq x H' F2 fpr3 fp3 ⟨⟨fun a o e n => s.keep a o (r2.st.keep a o e n) fun z => ?_, fun a z => r2.st.live a (s.live a z), r2.st.mono, r2.st.nF, fun a z => ?_⟩, k1, Rep.nofz d hz'.1 x fpr3 rp, n1, fun a ha => ⟨fun z => ?_, fun z => dis a (List.mem_append_left _ ha) (up a z)⟩⟩
      · rcases r2.st.nfp a (List.mem_append_right _ (y12 a z)) with q | q
        · exact n q
        · rw [e] at q; cases q
      · have h3 : a ∈ fq' ∨ a ∈ fpr3 ++ fpo := by
          rcases List.mem_append.mp z with q | q
          · exact .inr (List.mem_append_left _ q)
          · exact (k2 a q).imp id fun w => List.mem_append_right _ w
        rcases h3 with q | q
        · exact r2.st.nfp a (List.mem_append_right _ (y13 a q))
        · rcases s.nfp a q with w | w
          · exact r2.st.nfp a (List.mem_append_right _ (y12 a w))
          · exact .inr (r2.st.live a w)
      · rcases k2 a z with w | w
        · exact apart s (List.mem_append_left _ ha) w
        · exact n3 a ha a w rfl
    · obtain ⟨fp3, k1, k2, k3⟩ := frozen s re n2 (fun a ha => dis a (List.mem_append_right _ ha)) fx
      refine kk _ _ hq x H' F' fpr3 fp3 ⟨k3, k1, rp, n1, fun a ha => ⟨fun z => ?_, dis a (List.mem_append_left _ ha)⟩⟩
      rcases k2 a z with w | w
      · exact apart s (List.mem_append_left _ ha) (y3.sub a w)
      · exact n3 a ha a w rfl
  · obtain ⟨fp3, k1, k2, k3⟩ := frozen (fpr3 := []) (by simpa using s) re n dis fx
    exact ⟨_, F', fp3, c, fs, k1, en.go k3 (fun a ha => by simpa using ha), ex, hq⟩
/-- the callee's promise from the caller's reading -/
theorem call_go {σ : Sg} {H : Hp} {Q : VK} (hd : ∀ F H, RepL X.K F H dvs dvv []) (hsel : ∀ xs : List V, sel ms (xs ++ dvv) = sel ms xs)
    (h : lE X.K G (wCall ms sp dvs EW ws) σ H Q) : lA X.K G ws σ H fun vs H1 => spH X.K ms sp (vs ++ dvv) H1 Q (WE (WXof X.K G EW) σ) := by
  obtain ⟨env, F, fp, Φ, ho, en, hw, kk⟩ := h
  exact ⟨env, F, fp, _, ho, en, hw, fun rs e2 h2 xs H2 F2 fpr fp2 r2 => call_core hd (hsel xs) en r2 h2 kk⟩
variable {f : Addr} {fd : FuncData} {ps : List Str} {k : Nat} {x : Str} {p pos : Pos} {e : Expr} {es : List Expr} {ds : List Value}
theorem de_call (F : FnOk X.prog X.w X.K X.mg X.base (L2N.CX X.prog X.w) k f fd ps (spH X.K ms sp)) (hr : Room k X.A) (hg : Gl X x) (hm : X.mg x = some (.ref f)) (hk : PySem.W.keepIn X.K (.ref f) = true) (hb : Binds X.K fd ps ds) (hd : Vals dvv ds) (hdd : ∀ F H, RepL X.K F H dvs dvv [])
    (hsel : ∀ xs : List V, sel ms (xs ++ dvv) = sel ms xs) (tk : Tk X G EW) (ha : DA X G (e :: es) ws) (hdb : (x == ("__debug__" : Str)) = false := by decide)
    (he : starEach (e :: es) X.env = (false, eval e X.env) :: starEach es X.env := by rfl) (hpl : (backTo pos (starEach es X.env)).any (·.1) = false := by rfl) :
    DE X G (.Call (.Name x p) (e :: es) [] pos) (wCall ms sp dvs EW ws) :=
  ⟨pe_imp (pe_callSD F hr hg hm hk hb hd (fun σ => L2N.passAt tk σ) ha.pa hdb he hpl) fun σ H Q h => call_go hdd hsel h⟩
end
end Vd

set_option Elab.async false
set_option linter.all false
set_option maxRecDepth 100000
set_option maxHeartbeats 4000000
/-! Vd, part 7: the operators on data. -/
namespace Vd
open PySem PySem.Spec PyProof.Rows L2

/-! ### of two data -/
abbrev K2 := D → D → (D → Prop) → Prop
abbrev K1 := D → (D → Prop) → Prop
def kd2 (k : K2) : KD := fun ds Φ => match ds with
  | [a, b] => k a b Φ
  | _ => False
def kd1 (k : K1) : KD := fun ds Φ => match ds with
  | [a] => k a Φ
  | _ => False
section
variable {X : Cx} {K : PySem.W.Frag}
/-- an operation's rule serves the data -/
def Ok2 (K : PySem.W.Frag) (r : R2) (k : K2) : Prop := ∀ (F : Addr → Prop) (H : Hp) (d1 d2 : D) (x y : V) (f1 f2 : List Addr) (Φ : D → Prop) (Q : VK), (∀ a, F a → H a ≠ none) → Rep K F H d1 x f1 → Rep K F H d2 y f2 → k d1 d2 Φ →
  (∀ d, Φ d → ∀ z H' fpz, New H H' fpz → Rep K F H' d z fpz → Q z H') → r x y H Q
def Ok1 (K : PySem.W.Frag) (r : V → Hp → VK → Prop) (k : K1) : Prop := ∀ (F : Addr → Prop) (H : Hp) (d1 : D) (x : V) (f1 : List Addr) (Φ : D → Prop) (Q : VK), (∀ a, F a → H a ≠ none) → Rep K F H d1 x f1 → k d1 Φ →
  (∀ d, Φ d → ∀ z H' fpz, New H H' fpz → Rep K F H' d z fpz → Q z H') → r x H Q
theorem Ok2.pure {r : R2} {k : K2} (h : Ok2 K r k) : PureR K (P2 r) (kd2 k) := by
  intro F H ds xs fp Φ Q fx rl hk kk
  match ds, hk with
  | [d1, d2], hk =>
    obtain ⟨x, ys, f1, rfl, r1, y, zs, f2, rfl, r2, e⟩ := rl
    subst e
    exact h F H d1 d2 x y f1 f2 Φ Q fx r1 r2 hk kk
theorem Ok1.pure {r : V → Hp → VK → Prop} {k : K1} (h : Ok1 K r k) : PureR K (P1 r) (kd1 k) := by
  intro F H ds xs fp Φ Q fx rl hk kk
  match ds, hk with
  | [d1], hk =>
    obtain ⟨x, ys, f1, rfl, r1, e⟩ := rl
    subst e
    exact h F H d1 x f1 Φ Q fx r1 hk kk
theorem Ok2.op {f : Value → Value → Sem Value} {r : R2} {k : K2} (o : OpR X f r) (h : Ok2 X.K r k) : OpD X f (kd2 k) := ⟨r, o, h.pure⟩
theorem OpR.or {f : Value → Value → Sem Value} {r r' : R2} (h : OpR X f r) (h' : OpR X f r') : OpR X f (fun x y H Q => r x y H Q ∨ r' x y H Q) := by
  intro pins s σ H x y v u Q I rx ry q
  rcases q with q | q
  · exact h pins s σ H x y v u Q I rx ry q
  · exact h' pins s σ H x y v u Q I rx ry q
theorem UnR.or {f : Value → Sem Value} {r r' : V → Hp → VK → Prop} (h : UnR X f r) (h' : UnR X f r') : UnR X f (fun x H Q => r x H Q ∨ r' x H Q) := by
  intro pins s σ H x v Q I rx q
  rcases q with q | q
  · exact h pins s σ H x v Q I rx q
  · exact h' pins s σ H x v Q I rx q
theorem rep_int {F : Addr → Prop} {H : Hp} {i : Int} : Rep K F H (.int i) (.int i) [] := by simp [Rep]
theorem rep_bl {F : Addr → Prop} {H : Hp} {i : Bool} : Rep K F H (.bl i) (.bl i) [] := by simp [Rep]
theorem rep_str {F : Addr → Prop} {H : Hp} {i : Str} : Rep K F H (.str i) (.str i) [] := by simp [Rep]
theorem rep_non {F : Addr → Prop} {H : Hp} : Rep K F H .non .non [] := by simp [Rep]
theorem Rep.int_v {F : Addr → Prop} {H : Hp} {i : Int} {x : V} {f : List Addr} (h : Rep K F H (.int i) x f) : x = .int i := by simp only [Rep] at h; exact h.1
theorem Rep.bl_v {F : Addr → Prop} {H : Hp} {i : Bool} {x : V} {f : List Addr} (h : Rep K F H (.bl i) x f) : x = .bl i := by simp only [Rep] at h; exact h.1
theorem Rep.str_v {F : Addr → Prop} {H : Hp} {i : Str} {x : V} {f : List Addr} (h : Rep K F H (.str i) x f) : x = .str i := by simp only [Rep] at h; exact h.1
theorem Rep.non_v {F : Addr → Prop} {H : Hp} {x : V} {f : List Addr} (h : Rep K F H .non x f) : x = .non := by simp only [Rep] at h; exact h.1
theorem Rep.tup_v {F : Addr → Prop} {H : Hp} {xs : List D} {x : V} {f : List Addr} (h : Rep K F H (.tup xs) x f) : ∃ a vs, x = .ref a ∧ SqT K H a vs ∧ RepL K F H xs vs f := by
  simp only [Rep] at h
  obtain ⟨a, vs, e, q, l⟩ := h
  exact ⟨a, vs, e, .of q, l⟩
theorem Rep.tup_h {F : Addr → Prop} {H : Hp} {xs : List D} {x : V} {f : List Addr} (h : Rep K F H (.tup xs) x f) : ∃ a vs, x = .ref a ∧ H a = some (.tup vs) ∧ RepL K F H xs vs f := by simpa only [Rep] using h
/-- a list, owned or not: it may be read -/
theorem Rep.lst_v {F : Addr → Prop} {H : Hp} {o : Bool} {xs : List D} {x : V} {f : List Addr} (h : Rep K F H (.lst o xs) x f) : ∃ a vs f', x = .ref a ∧ Rd H a (.lst vs) ∧ RepL K F H xs vs f' ∧ (∀ b ∈ f', b ∈ f) := by
  cases o with
  | true =>
    simp only [Rep] at h
    obtain ⟨a, vs, f', e, ef, h1, h2⟩ := h
    exact ⟨a, vs, f', e, .inl h1, h2, fun b hb => by rw [ef]; exact List.mem_cons_of_mem _ hb⟩
  | false =>
    simp only [Rep] at h
    obtain ⟨a, vs, e, ef, h1, h2⟩ := h
    exact ⟨a, vs, [], e, h1.2, h2, fun b hb => absurd hb (List.not_mem_nil)⟩
theorem New.repL {H H' : Hp} {F : Addr → Prop} {fpz f : List Addr} {xs : List D} {vs : List V} (n : New H H' fpz) (h : RepL K F H xs vs f) : RepL K F H' xs vs f := h.keep n.kps (fun _ z => z) fun _ _ z => z
/-- a new list of data that own nothing -/
theorem new_lst {H : Hp} {F : Addr → Prop} {f : List Addr} {xs : List D} {vs : List V} {p : Addr} (h : RepL K F H xs vs f) (n : noOwnL xs = true) (hp : H p = none) : New H (upd H p (.lst vs)) [p] ∧ Rep K F (upd H p (.lst vs)) (.lst true xs) (.ref p) [p] := by
  have e := h.no n
  subst e
  refine ⟨.one hp, ?_⟩
  simp only [Rep]
  exact ⟨p, vs, [], rfl, rfl, upd_same, (New.one (o := .lst vs) hp).repL h⟩
theorem new_tup {H : Hp} {F : Addr → Prop} {f : List Addr} {xs : List D} {vs : List V} {p : Addr} (h : RepL K F H xs vs f) (n : noOwnL xs = true) (hp : H p = none) : New H (upd H p (.tup vs)) [] ∧ Rep K F (upd H p (.tup vs)) (.tup xs) (.ref p) [] := by
  have e := h.no n
  subst e
  refine ⟨.none_ hp, ?_⟩
  simp only [Rep]
  exact ⟨p, vs, rfl, upd_same, (New.none_ (o := .tup vs) hp).repL h⟩

/-! ### rules that read lists of any kind -/
theorem Inv.lstR {pins : List (Addr × Obj)} {σ : L2.St} {H : Hp} {s : Shared} {p : Addr} {xs : List V} (I : Inv X pins σ H s) (h : Rd H p (.lst xs)) :
    xs.length ≤ sizeLine ∧ ∃ (its : List Value) (n : Nat), Vals xs its ∧ xs.length = its.length ∧ s.heap.get? p = some { cls := .type "list", data := .seq its.toArray n } := by
  have x : ObjOk X.prog X.w H s.heap p (.lst xs) := h.ok I.hok
  obtain ⟨z, its, n, r, e⟩ := x
  exact ⟨z, its, n, r, r.length, e⟩
def rCatR : R2 := fun x y H Q => ∃ l b xs zs, x = .ref l ∧ y = .ref b ∧ Rd H l (.lst xs) ∧ Rd H b (.lst zs) ∧ xs.length + zs.length ≤ sizeLine ∧ ∀ p, H p = none → Q (.ref p) (upd H p (.lst (xs ++ zs)))
theorem op_catR : OpR X (binaryOp .Add) rCatR := by
  intro pins s σ H x y v u Q I rx ry h
  obtain ⟨l, b, xs, zs, rfl, rfl, hH, hB, hz, q⟩ := h
  cases rx
  cases ry
  obtain ⟨z, its, n, r, hl, e⟩ := Inv.lstR I hH
  obtain ⟨z2, its2, n2, r2, hl2, e2⟩ := Inv.lstR I hB
  refine PySem.P.add_list e e2 ?_ (by rw [List.size_toArray, List.size_toArray]; omega)
  have ea : its.toArray ++ its2.toArray = (its ++ its2).toArray := by simp
  rw [ea]
  exact ⟨.ref _, _, I.lnew (t' := s.toks) (r.append r2) (by rw [List.length_append]; omega), rfl, q _ I.fresh⟩
def rRepR : R2 := fun x y H Q => ∃ l k xs, x = .ref l ∧ y = .int k ∧ Rd H l (.lst xs) ∧ -(2 ^ 63) ≤ k ∧ k < 2 ^ 63 ∧ xs.length * k.toNat ≤ sizeLine ∧
  ∀ p, H p = none → Q (.ref p) (upd H p (.lst (List.replicate k.toNat xs).flatten))
theorem op_repR : OpR X (binaryOp .Mult) rRepR := by
  intro pins s σ H x y v u Q I rx ry h
  obtain ⟨l, k, xs, rfl, rfl, hH, h1, h2, hz, q⟩ := h
  cases rx
  obtain ⟨t, rfl⟩ := ry
  obtain ⟨z, its, n, r, hl, e⟩ := Inv.lstR I hH
  have hlen : its.toArray.size * k.toNat ≤ sizeLine := by rw [List.size_toArray, ← hl]; exact hz
  have hcap : ¬ its.toArray.size * k.toNat > (2 ^ 63 - 1) / 8 := by
    have : (sizeLine : Nat) ≤ (2 ^ 63 - 1) / 8 := by decide
    omega
  have hfit : ¬ (!Builtin.List.listFitsIndex k) = true := by
    rw [fitsIndex_both h1 h2]
    exact Bool.false_ne_true
  have hlong : ¬ Builtin.List.listTooLong (its.toArray.size * k.toNat) = true := by
    rw [notLongL hlen]
    exact Bool.false_ne_true
  have hnew : List.foldl (fun x1 x2 => x1 ++ x2) #[] (List.replicate (if its.toArray.isEmpty = true then 0 else k.toNat) its.toArray) = (List.replicate k.toNat its).flatten.toArray := by
    have f0 : ∀ m : Nat, List.foldl (fun x1 x2 => x1 ++ x2) #[] (List.replicate m its.toArray) = (List.replicate m its).flatten.toArray := fun m => by
      have := foldl_rep its m []
      rw [List.nil_append] at this
      exact this
    rw [f0]
    cases its with
    | nil => simp
    | cons a r' => rw [if_neg (by simp)]
  refine wpAny_binaryOp_repeat_ref (T := "list") (U := "int") (by decide) ⟨_, e, rfl⟩ (fun s' => typeIs_int s' k t) noFill_list_mul F.fills_int_mul F.slot_int_rmul repeat_list F.slot_int_index.lookup
    (call_meets F.slot_int_rmul (typeIs_int s k t) F.entry_int_rmul (F.args_int_rmul_2 _ _) (int___rmul___int_list k t l its.toArray n)
      ⟨e, rfl, ⟨_, e, rfl⟩, call_meets F.slot_list_mul ⟨_, e, rfl⟩ F.entry_list_mul (F.args_list_mul_2 _ _) (AutoListH.list___mul___list_int_3 l its.toArray n k t hfit hcap hlong) ⟨e, ?_⟩⟩)
  rw [hnew]
  exact ⟨.ref _, _, I.lnew (t' := s.toks) (r.rep k.toNat) (by rw [PyProof.Rows.lm_len_rep_flat, Nat.mul_comm]; exact hz), rfl, q _ I.fresh⟩
theorem repL_rep {H : Hp} {F : Addr → Prop} {xs : List D} {vs : List V} (h : RepL K F H xs vs []) : ∀ k : Nat, RepL K F H (List.replicate k xs).flatten (List.replicate k vs).flatten []
  | 0 => by simpa using RepL.nil
  | k + 1 => by
    have q := RepL.append h (repL_rep h k)
    simpa [List.replicate_succ] using q

/-! ### arithmetic -/
def addK : K2
  | .int i, .int j, Φ => Φ (.int (i + j))
  | .str x, .str y, Φ => x.length + y.length ≤ sizeLine ∧ Φ (.str (x ++ y))
  | .lst _ xs, .lst _ ys, Φ => noOwnL xs = true ∧ noOwnL ys = true ∧ xs.length + ys.length ≤ sizeLine ∧ Φ (.lst true (xs ++ ys))
  | .tup xs, .tup ys, Φ => noOwnL xs = true ∧ noOwnL ys = true ∧ xs.length + ys.length ≤ sizeLine ∧ Φ (.tup (xs ++ ys))
  | _, _, _ => False
theorem noOwnL_app {xs ys : List D} (h1 : noOwnL xs = true) (h2 : noOwnL ys = true) : noOwnL (xs ++ ys) = true := by
  rw [noOwnL_iff] at *
  intro x hx
  rcases List.mem_append.mp hx with z | z
  · exact h1 x z
  · exact h2 x z
theorem op_addD : OpD X (binaryOp .Add) (kd2 addK) := by
  refine Ok2.op (OpR.or op_add (OpR.or op_add_str (OpR.or op_catR op_catA))) ?_
  intro F H d1 d2 x y f1 f2 Φ Q fx r1 r2 hk kk
  unfold addK at hk
  split at hk
  · rw [r1.int_v, r2.int_v]
    exact .inl ⟨_, _, rfl, rfl, kk _ hk _ H [] .refl rep_int⟩
  · rw [r1.str_v, r2.str_v]
    exact .inr (.inl ⟨_, _, rfl, rfl, hk.1, kk _ hk.2 _ H [] .refl rep_str⟩)
  · obtain ⟨n1, n2, hl, hk⟩ := hk
    obtain ⟨a, vs, g1, rfl, h1, l1, _⟩ := r1.lst_v
    obtain ⟨b, ws, g2, rfl, h2, l2, _⟩ := r2.lst_v
    have e1 := l1.no n1
    have e2 := l2.no n2
    subst e1 e2
    refine .inr (.inr (.inl ⟨a, b, vs, ws, rfl, rfl, h1, h2, by rw [← l1.len, ← l2.len]; exact hl, fun p hp => ?_⟩))
    obtain ⟨q1, q2⟩ := new_lst (l1.append l2) (noOwnL_app n1 n2) hp
    exact kk _ hk _ _ _ q1 q2
  · obtain ⟨n1, n2, hl, hk⟩ := hk
    obtain ⟨a, vs, rfl, h1, l1⟩ := r1.tup_h
    obtain ⟨b, ws, rfl, h2, l2⟩ := r2.tup_h
    have e1 := l1.no n1
    have e2 := l2.no n2
    subst e1 e2
    refine .inr (.inr (.inr ⟨a, b, vs, ws, rfl, rfl, .of h1, .of h2, by rw [← l1.len, ← l2.len]; exact hl, fun e => ?_, fun _ e => ?_, fun _ _ p hp => ?_⟩))
    · subst e
      have z := l1.len
      have z' : _ = [] := List.length_eq_zero_iff.mp (by simpa using z)
      subst z'
      refine kk _ hk _ H [] .refl ?_
      simp only [Rep, List.nil_append]
      exact ⟨b, ws, rfl, h2, l2⟩
    · subst e
      have z := l2.len
      have z' : _ = [] := List.length_eq_zero_iff.mp (by simpa using z)
      subst z'
      refine kk _ hk _ H [] .refl ?_
      simp only [Rep, List.append_nil]
      exact ⟨a, vs, rfl, h1, l1⟩
    · obtain ⟨q1, q2⟩ := new_tup (l1.append l2) (noOwnL_app n1 n2) hp
      exact kk _ hk _ _ _ q1 q2
  · exact hk.elim
def subK : K2
  | .int i, .int j, Φ => Φ (.int (i - j))
  | _, _, _ => False
theorem op_subD : OpD X (binaryOp .Sub) (kd2 subK) := by
  refine Ok2.op op_sub ?_
  intro F H d1 d2 x y f1 f2 Φ Q fx r1 r2 hk kk
  unfold subK at hk
  split at hk
  · rw [r1.int_v, r2.int_v]
    exact ⟨_, _, rfl, rfl, kk _ hk _ H [] .refl rep_int⟩
  · exact hk.elim
/-- one factor below 2^64, or both together below a million bits -/
def MulOk (i j : Int) : Prop := CMul i j ∨ CMulW i j
def mulK : K2
  | .int i, .int j, Φ => MulOk i j ∧ Φ (.int (i * j))
  | .lst _ xs, .int k, Φ => noOwnL xs = true ∧ (-(2 ^ 63) ≤ k ∧ k < 2 ^ 63) ∧ xs.length * k.toNat ≤ sizeLine ∧ Φ (.lst true (List.replicate k.toNat xs).flatten)
  | .tup xs, .int k, Φ => noOwnL xs = true ∧ xs ≠ [] ∧ 2 ≤ k ∧ k ≤ 1000 ∧ xs.length ≤ 1000 ∧ Φ (.tup (List.replicate k.toNat xs).flatten)
  | _, _, _ => False
theorem noOwnL_rep {xs : List D} (h : noOwnL xs = true) (k : Nat) : noOwnL (List.replicate k xs).flatten = true := by
  rw [noOwnL_iff] at *
  intro x hx
  obtain ⟨l, hl, hx⟩ := List.mem_flatten.mp hx
  rw [(List.mem_replicate.mp hl).2] at hx
  exact h x hx
theorem op_mulD : OpD X (binaryOp .Mult) (kd2 mulK) := by
  refine Ok2.op (OpR.or (OpR.or op_mul op_mulW) (OpR.or op_repR op_repT)) ?_
  intro F H d1 d2 x y f1 f2 Φ Q fx r1 r2 hk kk
  unfold mulK at hk
  split at hk
  · rw [r1.int_v, r2.int_v]
    exact .inl (hk.1.elim (fun z => .inl ⟨_, _, rfl, rfl, z, kk _ hk.2 _ H [] .refl rep_int⟩) fun z => .inr ⟨_, _, rfl, rfl, z, kk _ hk.2 _ H [] .refl rep_int⟩)
  · obtain ⟨n1, hb, hl, hk⟩ := hk
    obtain ⟨a, vs, g1, rfl, h1, l1, _⟩ := r1.lst_v
    rw [r2.int_v]
    have e1 := l1.no n1
    subst e1
    refine .inr (.inl ⟨a, _, vs, rfl, rfl, h1, hb.1, hb.2, by rw [← l1.len]; exact hl, fun p hp => ?_⟩)
    obtain ⟨q1, q2⟩ := new_lst (repL_rep l1 _) (noOwnL_rep n1 _) hp
    exact kk _ hk _ _ _ q1 q2
  · obtain ⟨n1, ne, h2, h3, h4, hk⟩ := hk
    obtain ⟨a, vs, rfl, h1, l1⟩ := r1.tup_v
    rw [r2.int_v]
    have e1 := l1.no n1
    subst e1
    refine .inr (.inr ⟨a, _, vs, rfl, rfl, h1, fun e => ?_, h2, h3, by rw [← l1.len]; exact h4, fun p hp => ?_⟩)
    · subst e
      exact ne (List.length_eq_zero_iff.mp (by simpa using l1.len))
    · obtain ⟨q1, q2⟩ := new_tup (repL_rep l1 _) (noOwnL_rep n1 _) hp
      exact kk _ hk _ _ _ q1 q2
  · exact hk.elim
/-- two ints under a condition -/
def intK (C : Int → Int → Prop) (g : Int → Int → D) : K2
  | .int i, .int j, Φ => C i j ∧ Φ (g i j)
  | _, _, _ => False
theorem ok_int {C : Int → Int → Prop} {g : Int → Int → Int} : Ok2 K (rI C fun i j => .int (g i j)) (intK C fun i j => .int (g i j)) := by
  intro F H d1 d2 x y f1 f2 Φ Q fx r1 r2 hk kk
  unfold intK at hk
  split at hk
  · rw [r1.int_v, r2.int_v]
    exact ⟨_, _, rfl, rfl, hk.1, kk _ hk.2 _ H [] .refl rep_int⟩
  · exact hk.elim
theorem ok_int0 {g : Int → Int → Int} : Ok2 K (rI0 fun i j => .int (g i j)) (intK (fun _ _ => True) fun i j => .int (g i j)) := by
  intro F H d1 d2 x y f1 f2 Φ Q fx r1 r2 hk kk
  unfold intK at hk
  split at hk
  · rw [r1.int_v, r2.int_v]
    exact ⟨_, _, rfl, rfl, kk _ hk.2 _ H [] .refl rep_int⟩
  · exact hk.elim
theorem ok_bl0 {g : Int → Int → Bool} : Ok2 K (rI0 fun i j => .bl (g i j)) (intK (fun _ _ => True) fun i j => .bl (g i j)) := by
  intro F H d1 d2 x y f1 f2 Φ Q fx r1 r2 hk kk
  unfold intK at hk
  split at hk
  · rw [r1.int_v, r2.int_v]
    exact ⟨_, _, rfl, rfl, kk _ hk.2 _ H [] .refl rep_bl⟩
  · exact hk.elim
def fdivK : K2 := intK CDivW fun i j => .int (i / j)
def modK : K2 := intK (fun _ j => 0 < j) fun i j => .int (i % j)
def powK : K2 := intK CPow fun i j => .int (i ^ j.toNat)
def shlK : K2 := intK CPow fun i j => .int (i * 2 ^ j.toNat)
def shrK : K2 := intK (fun _ j => 0 ≤ j) fun i j => .int (i / 2 ^ j.toNat)
def andK : K2 := intK (fun _ _ => True) fun i j => .int (Builtin.bitAnd i j)
def orK : K2 := intK (fun _ _ => True) fun i j => .int (Builtin.bitOr i j)
def xorK : K2 := intK (fun _ _ => True) fun i j => .int (Builtin.bitXor i j)
theorem op_fdivD : OpD X (binaryOp .FloorDiv) (kd2 fdivK) := Ok2.op op_fdivW ok_int
theorem op_modD : OpD X (binaryOp .Mod) (kd2 modK) := Ok2.op op_mod ok_int
theorem op_powD : OpD X (binaryOp .Pow) (kd2 powK) := Ok2.op op_pow ok_int
theorem op_shlD : OpD X (binaryOp .LShift) (kd2 shlK) := Ok2.op op_shl ok_int
theorem op_shrD : OpD X (binaryOp .RShift) (kd2 shrK) := Ok2.op op_shr ok_int
theorem op_andD : OpD X (binaryOp .BitAnd) (kd2 andK) := Ok2.op op_and ok_int0
theorem op_orD : OpD X (binaryOp .BitOr) (kd2 orK) := Ok2.op op_or ok_int0
theorem op_xorD : OpD X (binaryOp .BitXor) (kd2 xorK) := Ok2.op op_xor ok_int0
def negK : K1
  | .int i, Φ => Φ (.int (-i))
  | _, _ => False
theorem un_negD : UnD X (unaryOp .USub) (kd1 negK) := ⟨_, un_neg, Ok1.pure fun F H d1 x f1 Φ Q fx r1 hk kk => by
  unfold negK at hk
  split at hk
  · rw [r1.int_v]
    exact ⟨_, rfl, kk _ hk _ H [] .refl rep_int⟩
  · exact hk.elim⟩

/-! ### comparisons -/
def ltK : K2 := intK (fun _ _ => True) fun i j => .bl (decide (i < j))
def leK : K2 := intK (fun _ _ => True) fun i j => .bl (decide (i ≤ j))
def gtK : K2 := intK (fun _ _ => True) fun i j => .bl (decide (j < i))
def geK : K2 := intK (fun _ _ => True) fun i j => .bl (decide (j ≤ i))
theorem op_ltD : OpD X (compareOp .Lt) (kd2 ltK) := Ok2.op op_lt ok_bl0
theorem op_leD : OpD X (compareOp .LtE) (kd2 leK) := Ok2.op op_le ok_bl0
theorem op_gtD : OpD X (compareOp .Gt) (kd2 gtK) := Ok2.op op_gt ok_bl0
theorem op_geD : OpD X (compareOp .GtE) (kd2 geK) := Ok2.op op_ge ok_bl0
mutual
/-- plain data -/
def toP : D → Option PyData
  | .non => some .none
  | .bl b => some (.bool b)
  | .int i => some (.int i)
  | .str x => some (.str x)
  | .tup xs => (toPL xs).map .tuple
  | .lst _ xs => (toPL xs).map .list
  | _ => none
def toPL : List D → Option (List PyData)
  | [] => some []
  | x :: xs => match toP x, toPL xs with
    | some y, some ys => some (y :: ys)
    | _, _ => none
end
theorem dpL {F : Addr → Prop} {H : Hp} : ∀ {xs : List D} {vs : List V} {f : List Addr} {ys : List PyData}, (∀ x ∈ xs, ∀ v f p, Rep K F H x v f → toP x = some p → Dp K H v p) → RepL K F H xs vs f → toPL xs = some ys → DpAll K H vs ys
  | [], vs, f, ys, k, h, e => by
    obtain ⟨rfl, _⟩ := h.inv0
    have : ys = [] := by simpa [toPL] using e.symm
    subst this
    exact .nil
  | x :: xs, vs, f, ys, k, h, e => by
    obtain ⟨v, r, f1, f2, rfl, rfl, h1, h2⟩ := h.inv
    unfold toPL at e
    split at e
    · rename_i y zs e1 e2
      have : y :: zs = ys := Option.some.inj e
      subst this
      exact .cons (k x (List.mem_cons_self ..) v f1 y h1 e1) (dpL (fun z hz => k z (List.mem_cons_of_mem _ hz)) h2 e2)
    · cases e
theorem Rep.dp {F : Addr → Prop} {H : Hp} : ∀ (d : D) (v : V) (f : List Addr) (p : PyData), Rep K F H d v f → toP d = some p → Dp K H v p := by
  refine D.ind ?_ ?_ ?_ ?_ ?_ ?_ ?_ ?_ ?_ ?_ ?_
  · intro v f p h e; rw [h.non_v]; have : p = .none := by simpa [toP] using e.symm
    subst this; exact .non
  · intro b v f p h e; rw [h.bl_v]; have : p = .bool b := by simpa [toP] using e.symm
    subst this; exact .bl b
  · intro b v f p h e; rw [h.int_v]; have : p = .int b := by simpa [toP] using e.symm
    subst this; exact .int b
  · intro b v f p h e; rw [h.str_v]; have : p = .str b := by simpa [toP] using e.symm
    subst this; exact .str b
  · intro b v f p h e; simp [toP] at e
  · intro xs ih v f p h e
    obtain ⟨a, vs, rfl, h1, h2⟩ := h.tup_v
    simp only [toP, Option.map_eq_some_iff] at e
    obtain ⟨ys, e1, rfl⟩ := e
    exact .tup h1 (dpL ih h2 e1)
  · intro o xs ih v f p h e
    obtain ⟨a, vs, g, rfl, h1, h2, _⟩ := h.lst_v
    simp only [toP, Option.map_eq_some_iff] at e
    obtain ⟨ys, e1, rfl⟩ := e
    exact .lst (.inl h1) (dpL ih h2 e1)
  · intro o xs ih v f p h e; simp [toP] at e
  · intro o xs ih v f p h e; simp [toP] at e
  · intro o c xs ih v f p h e; simp [toP] at e
  · intro c xs ih v f p h e; simp [toP] at e
def eqK : K2 := fun a b Φ => match toP a, toP b with
  | some p, some q => SeqAt.shaped p = true ∧ SeqAt.shaped q = true ∧ Φ (.bl (PyData.eqv p q))
  | _, _ => False
def neK : K2 := fun a b Φ => match toP a, toP b with
  | some p, some q => SeqAt.shaped p = true ∧ SeqAt.shaped q = true ∧ Φ (.bl (!PyData.eqv p q))
  | _, _ => False
theorem op_eqDD (hu : X.A.units + 64 < cLine) : OpD X (compareOp .Eq) (kd2 eqK) := by
  refine Ok2.op (op_eqD hu) ?_
  intro F H d1 d2 x y f1 f2 Φ Q fx r1 r2 hk kk
  unfold eqK at hk
  split at hk
  · rename_i p q e1 e2
    exact ⟨p, q, Rep.dp d1 x f1 p r1 e1, Rep.dp d2 y f2 q r2 e2, hk.1, hk.2.1, kk _ hk.2.2 _ H [] .refl rep_bl⟩
  · exact hk.elim
theorem op_neDD (hu : X.A.units + 64 < cLine) : OpD X (compareOp .NotEq) (kd2 neK) := by
  refine Ok2.op (op_neD hu) ?_
  intro F H d1 d2 x y f1 f2 Φ Q fx r1 r2 hk kk
  unfold neK at hk
  split at hk
  · rename_i p q e1 e2
    exact ⟨p, q, Rep.dp d1 x f1 p r1 e1, Rep.dp d2 y f2 q r2 e2, hk.1, hk.2.1, kk _ hk.2.2 _ H [] .refl rep_bl⟩
  · exact hk.elim
/-! `is` of None, True, False -/
def isBl (b : Bool) : D → Bool
  | .bl c => c == b
  | _ => false
def isNon : D → Bool
  | .non => true
  | _ => false
def isK : K2
  | a, .non, Φ => Φ (.bl (isNon a))
  | a, .bl b, Φ => Φ (.bl (isBl b a))
  | _, _, _ => False
def isnK : K2
  | a, .non, Φ => Φ (.bl (!isNon a))
  | a, .bl b, Φ => Φ (.bl (!isBl b a))
  | _, _, _ => False
theorem is_bl_gen {M : Model} {A : Around} {s : Shared} {E : Value → Shared → Prop} {Q : Value → Shared → Prop} {v : Value} {b : Bool} (hv : ∀ n, v ≠ .builtin n) (h : Q (.bool (v == .bool b)) s) : wpAny M A (compareOp .Is v (.bool b)) Q E s := by
  cases v <;> first | exact wpAny_pure h | exact absurd rfl (hv _)
theorem isn_bl_gen {M : Model} {A : Around} {s : Shared} {E : Value → Shared → Prop} {Q : Value → Shared → Prop} {v : Value} {b : Bool} (hv : ∀ n, v ≠ .builtin n) (h : Q (.bool (!(v == .bool b))) s) : wpAny M A (compareOp .IsNot v (.bool b)) Q E s := by
  cases v <;> first | exact wpAny_pure h | exact absurd rfl (hv _)
theorem relV_nb {x : V} {v : Value} (r : RelV x v) (n : String) : v ≠ .builtin n := by
  cases x with
  | bl c => cases (show v = .bool c from r); simp
  | non => cases (show v = .none from r); simp
  | int _ => obtain ⟨t, rfl⟩ := r; simp
  | str _ => obtain ⟨t, rfl⟩ := r; simp
  | byt _ => obtain ⟨t, rfl⟩ := r; simp
  | flt _ => obtain ⟨t, rfl⟩ := r; simp
  | ref a => cases (show v = .ref a from r); simp
  | ty n => cases (show v = .type n from r); simp
theorem Rep.dik_v {F : Addr → Prop} {H : Hp} {o : Bool} {xs : List (Key × D)} {x : V} {f : List Addr} (h : Rep K F H (.dik o xs) x f) : ∃ a, x = .ref a := by
  cases o with
  | true => simp only [Rep] at h; obtain ⟨a, _, _, e, _⟩ := h; exact ⟨a, e⟩
  | false => simp only [Rep] at h; obtain ⟨a, _, e, _⟩ := h; exact ⟨a, e⟩
theorem Rep.dit_v {F : Addr → Prop} {H : Hp} {o : Bool} {xs : List (List Key × D)} {x : V} {f : List Addr} (h : Rep K F H (.dit o xs) x f) : ∃ a, x = .ref a := by
  cases o with
  | true => simp only [Rep] at h; obtain ⟨a, _, _, e, _⟩ := h; exact ⟨a, e⟩
  | false => simp only [Rep] at h; obtain ⟨a, _, e, _⟩ := h; exact ⟨a, e⟩
theorem Rep.ins_v {F : Addr → Prop} {H : Hp} {o : Bool} {c : Str} {xs : List (Str × D)} {x : V} {f : List Addr} (h : Rep K F H (.ins o c xs) x f) : ∃ a, x = .ref a := by
  cases o with
  | true => simp only [Rep] at h; obtain ⟨a, _, _, _, e, _⟩ := h; exact ⟨a, e⟩
  | false => simp only [Rep] at h; obtain ⟨a, _, _, e, _⟩ := h; exact ⟨a, e⟩
theorem relV_isbl {x : V} {v : Value} {b : Bool} (r : RelV x v) : (v == Value.bool b) = decide (x = .bl b) := by
  cases x with
  | bl c => cases (show v = .bool c from r); by_cases e : c = b <;> simp [e]
  | non => cases (show v = .none from r); simp
  | int _ => obtain ⟨t, rfl⟩ := r; simp
  | str _ => obtain ⟨t, rfl⟩ := r; simp
  | byt _ => obtain ⟨t, rfl⟩ := r; simp
  | flt _ => obtain ⟨t, rfl⟩ := r; simp
  | ref a => cases (show v = .ref a from r); simp
  | ty n => cases (show v = .type n from r); simp
theorem op_isBG : OpR X (compareOp .Is) (fun x y H Q => ∃ b, y = .bl b ∧ Q (.bl (decide (x = .bl b))) H) := by
  intro pins s σ H x y v u Q I rx ry h
  obtain ⟨b, rfl, q⟩ := h
  cases (show u = Value.bool b from ry)
  exact is_bl_gen (relV_nb rx) ⟨.bl _, H, I, by rw [relV_isbl rx]; rfl, q⟩
theorem op_isnBG : OpR X (compareOp .IsNot) (fun x y H Q => ∃ b, y = .bl b ∧ Q (.bl (!decide (x = .bl b))) H) := by
  intro pins s σ H x y v u Q I rx ry h
  obtain ⟨b, rfl, q⟩ := h
  cases (show u = Value.bool b from ry)
  exact isn_bl_gen (relV_nb rx) ⟨.bl _, H, I, by rw [relV_isbl rx]; rfl, q⟩
theorem rep_isbl {F : Addr → Prop} {H : Hp} {d : D} {x : V} {f : List Addr} {b : Bool} (r : Rep K F H d x f) : decide (x = .bl b) = isBl b d := by
  cases d with
  | bl c => rw [r.bl_v]; by_cases e : c = b <;> simp [isBl, e]
  | non => rw [r.non_v]; simp [isBl]
  | int c => rw [r.int_v]; simp [isBl]
  | str c => rw [r.str_v]; simp [isBl]
  | scr c => simp only [Rep] at r; obtain ⟨a, rfl, _⟩ := r; simp [isBl]
  | tup c => obtain ⟨a, _, rfl, _⟩ := r.tup_v; simp [isBl]
  | lst o c => obtain ⟨a, _, _, rfl, _⟩ := r.lst_v; simp [isBl]
  | dik o c => obtain ⟨a, rfl⟩ := r.dik_v; simp [isBl]
  | dit o c => obtain ⟨a, rfl⟩ := r.dit_v; simp [isBl]
  | ins o c fs => obtain ⟨a, rfl⟩ := r.ins_v; simp [isBl]
  | exc c fs => simp only [Rep] at r; obtain ⟨a, _, _, _, rfl, _⟩ := r; simp [isBl]
theorem rep_isnon {F : Addr → Prop} {H : Hp} {d : D} {x : V} {f : List Addr} (r : Rep K F H d x f) : decide (x = .non) = isNon d := by
  cases d with
  | bl c => rw [r.bl_v]; simp [isNon]
  | non => rw [r.non_v]; simp [isNon]
  | int c => rw [r.int_v]; simp [isNon]
  | str c => rw [r.str_v]; simp [isNon]
  | scr c => simp only [Rep] at r; obtain ⟨a, rfl, _⟩ := r; simp [isNon]
  | tup c => obtain ⟨a, _, rfl, _⟩ := r.tup_v; simp [isNon]
  | lst o c => obtain ⟨a, _, _, rfl, _⟩ := r.lst_v; simp [isNon]
  | dik o c => obtain ⟨a, rfl⟩ := r.dik_v; simp [isNon]
  | dit o c => obtain ⟨a, rfl⟩ := r.dit_v; simp [isNon]
  | ins o c fs => obtain ⟨a, rfl⟩ := r.ins_v; simp [isNon]
  | exc c fs => simp only [Rep] at r; obtain ⟨a, _, _, _, rfl, _⟩ := r; simp [isNon]
theorem op_isD : OpD X (compareOp .Is) (kd2 isK) := by
  refine Ok2.op (OpR.or op_isN op_isBG) ?_
  intro F H d1 d2 x y f1 f2 Φ Q fx r1 r2 hk kk
  unfold isK at hk
  split at hk
  · refine .inl ⟨r2.non_v, ?_⟩
    rw [rep_isnon r1]
    exact kk _ hk _ H [] .refl rep_bl
  · refine .inr ⟨_, r2.bl_v, ?_⟩
    rw [rep_isbl r1]
    exact kk _ hk _ H [] .refl rep_bl
  · exact hk.elim
theorem op_isnD : OpD X (compareOp .IsNot) (kd2 isnK) := by
  refine Ok2.op (OpR.or op_notN op_isnBG) ?_
  intro F H d1 d2 x y f1 f2 Φ Q fx r1 r2 hk kk
  unfold isnK at hk
  split at hk
  · refine .inl ⟨r2.non_v, ?_⟩
    rw [rep_isnon r1]
    exact kk _ hk _ H [] .refl rep_bl
  · refine .inr ⟨_, r2.bl_v, ?_⟩
    rw [rep_isbl r1]
    exact kk _ hk _ H [] .refl rep_bl
  · exact hk.elim
end
end Vd

set_option Elab.async false
set_option linter.all false
set_option maxRecDepth 100000
set_option maxHeartbeats 4000000
/-! Vd, part 8: displays, subscripts, slices, built-in functions. -/
namespace Vd
open PySem PySem.Spec PyProof.Rows L2

/-- data taken out of several operands -/
def capL : Ev → List R → (List D → Ev → Prop) → Prop
  | e, [], k => k [] e
  | e, r :: rs, k => cap e r fun d e1 => capL e1 rs fun ds e2 => k (d :: ds) e2
section
variable {K : PySem.W.Frag} {H : Hp} {σ : Sg}
theorem RepRs.mono {F F' : Addr → Prop} {rs : List R} {xs : List V} {f : List Addr} (h : RepRs K F H σ rs xs f) (m : ∀ a, F a → F' a) : RepRs K F' H σ rs xs f := h.keep kps_self m fun _ _ z => z
theorem capL_go : ∀ (rs : List R) {xs : List V} {fpr fp : List Addr} {F : Addr → Prop} {env : Ev} {k : List D → Ev → Prop}, Hold K F H env σ fp → RepRs K F H σ rs xs fpr → fpr.Nodup → (∀ a ∈ fpr, a ∉ fp ∧ ¬ F a) → capL env rs k →
    ∃ ds e3 F3 fd g3, k ds e3 ∧ Hold K F3 H e3 σ g3 ∧ RepL K F3 H ds xs fd ∧ fd.Nodup ∧ (∀ a ∈ fd, a ∉ g3 ∧ ¬ F3 a) ∧ (∀ a, F a → F3 a) ∧ (∀ a, F3 a → F a ∨ a ∈ fp) ∧ (∀ a ∈ g3, a ∈ fp) ∧ (∀ a ∈ fd, a ∈ fpr)
  | [], xs, fpr, fp, F, env, k, ho, rr, n, dj, hk => by
    obtain ⟨rfl, rfl⟩ : xs = [] ∧ fpr = [] := rr
    exact ⟨[], env, F, [], fp, hk, ho, .nil, List.nodup_nil, fun a ha => absurd ha (List.not_mem_nil), fun _ h => h, fun _ h => .inl h, fun _ h => h, fun _ h => h⟩
  | .tmp d :: rs, xs, fpr, fp, F, env, k, ho, rr, n, dj, hk => by
    obtain ⟨x, ys, f1, f2, rfl, rfl, rp, rr2⟩ := rr
    have rp : Rep K F H d x f1 := rp
    obtain ⟨n1, n2, n3⟩ := List.nodup_append.mp n
    obtain ⟨ds, e3, F3, fd, g3, h1, h2, h3, h4, h5, h6, h7, h8, h9⟩ := capL_go rs (k := fun ds e2 => k (d :: ds) e2) ho rr2 n2 (fun a ha => dj a (List.mem_append_right _ ha)) hk
    refine ⟨d :: ds, e3, F3, f1 ++ fd, g3, h1, h2, .cons (Rep.keep kps_self h6 d x f1 rp fun _ _ z => z) h3, List.nodup_append.mpr ⟨n1, h4, fun a ha b hb e => n3 a ha b (h9 b hb) e⟩, fun a ha => ?_, h6, h7, h8, fun a ha => ?_⟩
    · rcases List.mem_append.mp ha with z | z
      · refine ⟨fun w => (dj a (List.mem_append_left _ z)).1 (h8 a w), fun w => ?_⟩
        rcases h7 a w with y | y
        · exact (dj a (List.mem_append_left _ z)).2 y
        · exact (dj a (List.mem_append_left _ z)).1 y
      · exact h5 a z
    · rcases List.mem_append.mp ha with z | z
      · exact List.mem_append_left _ z
      · exact List.mem_append_right _ (h9 a z)
  | .plc j :: rs, xs, fpr, fp, F, env, k, ho, rr, n, dj, hk => by
    obtain ⟨x, ys, f1, f2, rfl, rfl, ⟨hx, rfl⟩, rr2⟩ := rr
    have hk' : cap env (.plc j) fun d e1 => capL e1 rs fun ds e2 => k (d :: ds) e2 := hk
    unfold cap at hk'
    simp only at hk'
    split at hk'
    · rename_i d ed
      obtain ⟨v, g, e1, rp, _⟩ := ho.rep.get ed
      rw [hx] at e1
      have ev : x = v := Option.some.inj (Option.some.inj e1)
      subst ev
      split at hk'
      · rename_i no
        have eg := Rep.no d no x g rp
        subst eg
        obtain ⟨ds, e3, F3, fd, g3, h1, h2, h3, h4, h5, h6, h7, h8, h9⟩ := capL_go rs (k := fun ds e2 => k (d :: ds) e2) ho rr2 (by simpa using n) (fun a ha => dj a (by simpa using ha)) hk'
        exact ⟨d :: ds, e3, F3, [] ++ fd, g3, h1, h2, .cons (Rep.keep kps_self h6 d x [] rp fun _ _ z => z) h3, by simpa using h4, by simpa using h5, h6, h7, h8, by simpa using h9⟩
      · obtain ⟨fa, fi, fb, s, q1, q2, q3, q4⟩ := ho.rep.cut (gv_lt ed)
        rw [hx] at q2
        have es : some x = s := Option.some.inj q2
        subst es
        rw [ed] at q3
        obtain ⟨v, ev, rp2⟩ := q3
        have ev' : x = v := Option.some.inj ev
        subst ev'
        have nd := ho.nd
        rw [q1] at nd
        obtain ⟨m1, m2, m3⟩ := perm3 nd
        have rz : Rep K (fun a => F a ∨ a ∈ fi) H (Vd.frz d) x [] := Rep.frz (fun a z => .inl z) d x fi rp2 fun a ha => .inr ha
        have re := q4 (W := fun _ => False) (F' := fun a => F a ∨ a ∈ fi) (H' := H) kps_self (fun a z => .inl z) (fun _ _ z => z) (some (Vd.frz d)) (some x) [] ⟨x, rfl, rz⟩
        rw [setSame hx] at re
        have sub : ∀ a, a ∈ fa ++ fb → a ∈ fp := fun a z => by rw [q1]; rcases List.mem_append.mp z with y | y <;> simp [y]
        have fif : ∀ a ∈ fi, a ∈ fp := fun a z => by rw [q1]; simp [z]
        have ho2 : Hold K (fun a => F a ∨ a ∈ fi) H (env.set j (some (Vd.frz d))) σ (fa ++ ([] ++ fb)) := by
          refine ⟨re, by simpa using m1, fun a ha z => ?_, fun a z => ?_⟩
          · have ha' : a ∈ fa ++ fb := by simpa using ha
            rcases z with z | z
            · exact ho.dis a (sub a ha') z
            · exact m3 a z ha'
          · rcases z with z | z
            · exact ho.fx a z
            · obtain ⟨o, eo, _⟩ := Rep.mks d rp2 a z
              intro y; rw [eo] at y; cases y
        obtain ⟨ds, e3, F3, fd, g3, h1, h2, h3, h4, h5, h6, h7, h8, h9⟩ := capL_go rs (k := fun ds e2 => k (Vd.frz d :: ds) e2) ho2 (rr2.mono fun a z => .inl z) (by simpa using n)
          (fun a ha => ⟨fun z => (dj a (by simpa using ha)).1 (sub a (by simpa using z)), fun z => z.elim (dj a (by simpa using ha)).2 fun w => (dj a (by simpa using ha)).1 (fif a w)⟩) hk'
        refine ⟨_ :: ds, e3, F3, [] ++ fd, g3, h1, h2, .cons (Rep.keep kps_self h6 _ x [] rz fun _ _ z => z) h3, by simpa using h4, by simpa using h5, fun a z => h6 a (.inl z), fun a z => ?_, fun a ha => sub a (by simpa using h8 a ha), by simpa using h9⟩
        rcases h7 a z with (y | y) | y
        · exact .inl y
        · exact .inr (fif a y)
        · exact .inr (sub a (by simpa using y))
    · exact hk'.elim
end

section
variable {X : Cx} {G : Gh} {e a b c : Expr} {es : List Expr} {w wa wb wc : W1} {ws : WL} {pos : Pos}
/-! ### displays -/
def wLst (ws : WL) : W1 := fun env Φ => ws env fun rs e2 => capL e2 rs fun ds e3 => ds.length ≤ sizeLine ∧ Φ (.tmp (.lst true ds)) e3
def wTup (ws : WL) : W1 := fun env Φ => ws env fun rs e2 => capL e2 rs fun ds e3 => ds.length ≤ sizeLine ∧ Φ (.tmp (.tup ds)) e3
theorem stp_cap {F F2 F3 : Addr → Prop} {H H2 : Hp} {fp fpr fp2 fd g3 : List Addr} (s : Stp F fp H F2 (fpr ++ fp2) H2) (h6 : ∀ a, F2 a → F3 a) (h7 : ∀ a, F3 a → F2 a ∨ a ∈ fp2) (h8 : ∀ a ∈ g3, a ∈ fp2) (h9 : ∀ a ∈ fd, a ∈ fpr) : Stp F fp H F3 (fd ++ g3) H2 where
  keep := s.keep
  live := s.live
  mono := fun a z => h6 a (s.mono a z)
  nF := fun a z => by
    rcases h7 a z with y | y
    · exact s.nF a y
    · exact .inr (s.nfp a (List.mem_append_right _ y))
  nfp := fun a z => by
    rcases List.mem_append.mp z with y | y
    · exact s.nfp a (List.mem_append_left _ (h9 a y))
    · exact s.nfp a (List.mem_append_right _ (h8 a y))
/-- a new object that holds what was taken -/
theorem disp_end {F F3 : Addr → Prop} {H H2 : Hp} {fp fd g3 : List Addr} {e3 : Ev} {σ : Sg} {p : Addr} {o : HO} (s : Stp F fp H F3 (fd ++ g3) H2) (ho : Hold X.K F3 H2 e3 σ g3) (hp : H2 p = none) : Stp F fp H F3 ((p :: fd) ++ g3) (upd H2 p o) ∧ Hold X.K F3 (upd H2 p o) e3 σ g3 := by
  have n := New.one (H := H2) (p := p) (o := o) hp
  refine ⟨⟨fun a u e h => n.keep a u (s.keep a u e h), fun a z => s.live a (n.live a z), s.mono, s.nF, fun a z => ?_⟩, ⟨ho.rep.keep n.kps (fun _ h => h) fun _ _ z => z, ho.nd, ho.dis, fun a h z => ho.fx a h (n.live a z)⟩⟩
  rcases List.mem_cons.mp (show a ∈ p :: (fd ++ g3) from z) with y | y
  · rw [y]; exact .inr (s.live p hp)
  · exact s.nfp a y
theorem de_lst (h : DA X G es ws) : DE X G (.List es pos) (wLst ws) := by
  refine ⟨pe_imp (pe_lst h.pa) fun σ H Q ⟨env, F, fp, Φ, ho, en, hw, k⟩ => ?_⟩
  refine ⟨env, F, fp, _, ho, en, hw, fun rs e2 h2 xs H2 F2 fpr fp2 r2 => ?_⟩
  obtain ⟨ds, e3, F3, fd, g3, ⟨hl, hk⟩, q2, q3, q4, q5, q6, q7, q8, q9⟩ := capL_go rs r2.ho r2.rp r2.nd r2.dj h2
  refine ⟨by rw [← q3.len]; exact hl, fun p hp => ?_⟩
  obtain ⟨s1, s2⟩ := disp_end (X := X) (o := .lst xs) (stp_cap r2.st q6 q7 q8 q9) q2 hp
  have n := New.one (H := H2) (p := p) (o := .lst xs) hp
  refine k _ _ hk (.ref p) _ F3 (p :: fd) g3 ⟨s1, s2, ?_, List.nodup_cons.mpr ⟨fun z => ?_, q4⟩, fun a ha => ?_⟩
  · show Rep X.K F3 _ (.lst true ds) (.ref p) (p :: fd)
    simp only [Rep]
    exact ⟨p, xs, fd, rfl, rfl, upd_same, n.repL q3⟩
  · obtain ⟨o, eo, _⟩ := q3.mks p z
    rw [hp] at eo; cases eo
  · rcases List.mem_cons.mp ha with y | y
    · rw [y]
      refine ⟨fun z => ?_, fun z => q2.fx p z hp⟩
      obtain ⟨o, eo, _⟩ := q2.rep.mks p z
      rw [hp] at eo; cases eo
    · exact q5 a y
theorem de_tup {x1} (h : DA X G es ws) : DE X G (.Tuple es x1 pos) (wTup ws) := by
  refine ⟨pe_imp (pe_tup h.pa) fun σ H Q ⟨env, F, fp, Φ, ho, en, hw, k⟩ => ?_⟩
  refine ⟨env, F, fp, _, ho, en, hw, fun rs e2 h2 xs H2 F2 fpr fp2 r2 => ?_⟩
  obtain ⟨ds, e3, F3, fd, g3, ⟨hl, hk⟩, q2, q3, q4, q5, q6, q7, q8, q9⟩ := capL_go rs r2.ho r2.rp r2.nd r2.dj h2
  refine ⟨by rw [← q3.len]; exact hl, fun p hp => ?_⟩
  obtain ⟨s1, s2⟩ := disp_end (X := X) (o := .tup xs) (stp_cap r2.st q6 q7 q8 q9) q2 hp
  have n := New.none_ (H := H2) (p := p) (o := .tup xs) hp
  refine k _ _ hk (.ref p) _ F3 fd g3 ⟨s1.less fun a ha => List.mem_cons_of_mem _ ha, s2, ?_, q4, q5⟩
  show Rep X.K F3 _ (.tup ds) (.ref p) fd
  simp only [Rep]
  exact ⟨p, xs, rfl, upd_same, n.repL q3⟩

/-! ### subscripts -/
def ixK : K2
  | .tup xs, .int i, Φ => match atI xs i with
    | some d => noOwn d = true ∧ Φ d
    | none => False
  | .lst _ xs, .int i, Φ => match atI xs i with
    | some d => noOwn d = true ∧ Φ d
    | none => False
  | .str z, .int i, Φ => z.length ≤ sizeLine ∧ match atI z.cps.toList i with
    | some c => Φ (.str ⟨#[c]⟩)
    | none => False
  | _, _, _ => False
theorem atI_rep {K : PySem.W.Frag} {F : Addr → Prop} {H : Hp} {xs : List D} {vs : List V} {f : List Addr} {i : Int} {d : D} (h : RepL K F H xs vs f) (e : atI xs i = some d) (n : noOwn d = true) : ∃ v, atI vs i = some v ∧ Rep K F H d v [] := by
  unfold atI at e ⊢
  rw [← h.len]
  cases q : ixN xs.length i with
  | none => rw [q] at e; cases e
  | some j =>
    rw [q] at e
    obtain ⟨v, g, e1, rp, _⟩ := h.get (i := j) (x := d) e
    have eg := Rep.no d n v g rp
    subst eg
    exact ⟨v, e1, rp⟩
theorem ixD : IxD X (kd2 ixK) := by
  refine ⟨rIx X.K, ix_seq, Ok2.pure ?_⟩
  intro F H d1 d2 x y f1 f2 Φ Q fx r1 r2 hk kk
  unfold ixK at hk
  split at hk
  · obtain ⟨a, vs, rfl, h1, l1⟩ := r1.tup_v
    rw [r2.int_v]
    split at hk
    · rename_i d ed
      obtain ⟨v, ev, rp⟩ := atI_rep l1 ed hk.1
      exact .inr (.inl ⟨a, vs, _, v, rfl, rfl, h1, ev, kk _ hk.2 _ H [] .refl rp⟩)
    · exact hk.elim
  · obtain ⟨a, vs, g, rfl, h1, l1, _⟩ := r1.lst_v
    rw [r2.int_v]
    split at hk
    · rename_i d ed
      obtain ⟨v, ev, rp⟩ := atI_rep l1 ed hk.1
      exact .inl ⟨a, vs, _, v, rfl, rfl, .inl h1, ev, kk _ hk.2 _ H [] .refl rp⟩
    · exact hk.elim
  · rw [r1.str_v, r2.int_v]
    obtain ⟨hz, hk⟩ := hk
    split at hk
    · rename_i c ec
      exact .inr (.inr ⟨_, _, c, rfl, rfl, hz, ec, kk _ hk _ H [] .refl rep_str⟩)
    · exact hk.elim
  · exact hk.elim

/-! ### slices -/
def cutD {α : Type} (xs : List α) (lo hi : Option Int) : List α := (xs.drop (HT.sIx xs.length 0 lo)).take (HT.sIx xs.length xs.length hi - HT.sIx xs.length 0 lo)
def slK (lo hi : Option Int) : K1
  | .lst _ xs, Φ => noOwnL xs = true ∧ Φ (.lst true (cutD xs lo hi))
  | .scr ns, Φ => Φ (.lst true ((cutD ns lo hi).map D.int))
  | .tup xs, Φ => noOwnL xs = true ∧ Φ (.tup (cutD xs lo hi))
  | .str z, Φ => z.length ≤ sizeLine ∧ Φ (.str (cutS z lo hi))
  | _, _ => False
theorem RepL.drop {K : PySem.W.Frag} {F : Addr → Prop} {H : Hp} : ∀ {xs : List D} {vs : List V} (n : Nat), RepL K F H xs vs [] → RepL K F H (xs.drop n) (vs.drop n) []
  | xs, vs, 0, h => by simpa using h
  | [], vs, n + 1, h => by obtain ⟨rfl, _⟩ := h.inv0; simpa using RepL.nil
  | x :: xs, vs, n + 1, h => by
    obtain ⟨v, r, f1, f2, rfl, ef, h1, h2⟩ := h.inv
    have e2 : f2 = [] := (List.append_eq_nil_iff.mp ef.symm).2
    subst e2
    simpa using RepL.drop n h2
theorem RepL.take {K : PySem.W.Frag} {F : Addr → Prop} {H : Hp} : ∀ {xs : List D} {vs : List V} (n : Nat), RepL K F H xs vs [] → RepL K F H (xs.take n) (vs.take n) []
  | xs, vs, 0, h => by simpa using RepL.nil
  | [], vs, n + 1, h => by obtain ⟨rfl, _⟩ := h.inv0; simpa using RepL.nil
  | x :: xs, vs, n + 1, h => by
    obtain ⟨v, r, f1, f2, rfl, ef, h1, h2⟩ := h.inv
    have e := List.append_eq_nil_iff.mp ef.symm
    obtain ⟨e1, e2⟩ := e
    subst e1 e2
    simpa using RepL.cons h1 (RepL.take n h2)
theorem RepL.cut {K : PySem.W.Frag} {F : Addr → Prop} {H : Hp} {xs : List D} {vs : List V} {lo hi : Option Int} (h : RepL K F H xs vs []) : RepL K F H (cutD xs lo hi) (cutV vs lo hi) [] := by
  unfold cutD cutV
  rw [h.len]
  exact RepL.take _ (RepL.drop _ h)
theorem noOwnL_cut {xs : List D} {lo hi : Option Int} (h : noOwnL xs = true) : noOwnL (cutD xs lo hi) = true := by
  rw [noOwnL_iff] at *
  intro x hx
  exact h x (List.mem_of_mem_drop (List.mem_of_mem_take hx))
theorem cut_map {lo hi : Option Int} (ns : List Int) : cutV (ns.map V.int) lo hi = (cutD ns lo hi).map V.int := by
  unfold cutV cutD
  simp
theorem rep_ints {K : PySem.W.Frag} {F : Addr → Prop} {H : Hp} : ∀ ns : List Int, RepL K F H (ns.map D.int) (ns.map V.int) []
  | [] => RepL.nil
  | n :: ns => by simpa using RepL.cons (K := K) (F := F) (H := H) rep_int (rep_ints ns)
theorem noOwn_ints : ∀ ns : List Int, noOwnL (ns.map D.int) = true
  | [] => by simp [noOwnL]
  | n :: ns => by simp [noOwnL, noOwn, noOwn_ints ns]
def rSlG (K : PySem.W.Frag) : V → Option Int → Option Int → Hp → VK → Prop := fun x lo hi H Q => rSlL K x lo hi H Q ∨ (rSlA K x lo hi H Q ∨ rSlS x lo hi H Q)
theorem sl_G : SlR X (rSlG X.K) := sl_list.or (sl_tupA.or sl_str)
theorem ok_sl {K : PySem.W.Frag} (lo hi : Option Int) : Ok1 K (fun x H Q => rSlG K x lo hi H Q) (slK lo hi) := by
  intro F H d1 x f1 Φ Q fx r1 hk kk
  unfold slK at hk
  split at hk
  · obtain ⟨a, vs, g, rfl, h1, l1, _⟩ := r1.lst_v
    obtain ⟨n1, hk⟩ := hk
    have e1 := l1.no n1
    subst e1
    refine .inl ⟨a, vs, rfl, .inl h1, fun p hp => ?_⟩
    obtain ⟨q1, q2⟩ := new_lst l1.cut (noOwnL_cut n1) hp
    exact kk _ hk _ _ _ q1 q2
  · rename_i _ _ ns
    simp only [Rep] at r1
    obtain ⟨a, rfl, _, h1⟩ := r1
    have hs : SqL K H a (List.map V.int ns) := by
      rcases h1 with ⟨o, h1⟩ | h1
      · exact .inl (.inr ⟨o, h1⟩)
      · exact .inr h1
    refine .inl ⟨a, _, rfl, hs, fun p hp => ?_⟩
    rw [cut_map]
    obtain ⟨q1, q2⟩ := new_lst (K := K) (F := F) (H := H) (rep_ints _) (noOwn_ints _) hp
    exact kk _ hk _ _ _ q1 q2
  · rename_i _ _ xs0
    obtain ⟨a, vs, rfl, h1, l1⟩ := r1.tup_h
    obtain ⟨n1, hk⟩ := hk
    have e1 := l1.no n1
    subst e1
    refine .inr (.inl ⟨a, vs, rfl, .of h1, fun ⟨w1, w2⟩ => ?_, fun _ p hp => ?_⟩)
    · refine kk _ hk _ H [] .refl ?_
      have ec : cutD xs0 lo hi = xs0 := by
        unfold cutD
        rw [l1.len, w1, w2]
        simp only [List.drop_zero, Nat.sub_zero]
        rw [← l1.len]
        exact List.take_length
      rw [ec]
      simp only [Rep]
      exact ⟨a, vs, rfl, h1, l1⟩
    · obtain ⟨q1, q2⟩ := new_tup l1.cut (noOwnL_cut n1) hp
      exact kk _ hk _ _ _ q1 q2
  · rw [r1.str_v]
    exact .inr (.inr ⟨_, rfl, hk.1, kk _ hk.2 _ H [] .refl rep_str⟩)
  · exact hk.elim
def slK00 : KD := kd1 (slK none none)
def slK10 : KD := kd2 fun d lo Φ => match lo with
  | .int i => slK (some i) none d Φ
  | _ => False
def slK01 : KD := kd2 fun d hi Φ => match hi with
  | .int i => slK none (some i) d Φ
  | _ => False
theorem seq_three {K : PySem.W.Frag} {σ : Sg} {H : Hp} {Q : List V → Hp → Prop} (h : lA K G (wCons wa (wCons wb (wCons wc wNil))) σ H Q) : lE K G wa σ H fun x H1 => lE K G wb σ H1 fun y H2 => lE K G wc σ H2 fun z H3 => Q [x, y, z] H3 := by
  obtain ⟨env, F, fp, Φ, ho, en, hw, k⟩ := seq_cons h
  refine ⟨env, F, fp, Φ, ho, en, hw, fun r e1 h1 x H1 F1 f1 g1 r1 => ?_⟩
  exact seq_two (Q := fun xs H => Q (x :: xs) H) (k r e1 h1 x H1 F1 f1 g1 r1)
theorem de_sl00 {p2 : Pos} (h : DE X G e wa) : DE X G (.Subscript e (.Slice none none none p2) pos) (wOp slK00 (wCons wa wNil)) :=
  ⟨pe_imp (pe_slice sl_G h.pe po_none po_none) fun σ H Q h => seq_one (pure_go (r := P1 fun x H Q => rSlG X.K x none none H Q) (Ok1.pure (ok_sl none none)) h)⟩
theorem de_sl10 {p2 : Pos} (h : DE X G e wa) (hl : DE X G a wb) : DE X G (.Subscript e (.Slice (some a) none none p2) pos) (wOp slK10 (wCons wa (wCons wb wNil))) := by
  refine ⟨pe_imp (pe_slice sl_G h.pe (po_some hl.pe) po_none) fun σ H Q h => ?_⟩
  refine seq_two (Q := fun xs H2 => (P2 fun x y H Q => ∃ i, y = .int i ∧ rSlG X.K x (some i) none H Q) xs H2 Q) (pure_go (Ok2.pure (fun F H d1 d2 x y f1 f2 Φ Q fx r1 r2 hk kk => ?_)) h)
  split at hk
  · exact ⟨_, r2.int_v, ok_sl _ _ F H d1 x f1 Φ Q fx r1 hk kk⟩
  · exact hk.elim
theorem de_sl01 {p2 : Pos} (h : DE X G e wa) (hl : DE X G a wb) : DE X G (.Subscript e (.Slice none (some a) none p2) pos) (wOp slK01 (wCons wa (wCons wb wNil))) := by
  refine ⟨pe_imp (pe_slice sl_G h.pe po_none (po_some hl.pe)) fun σ H Q h => ?_⟩
  refine seq_two (Q := fun xs H2 => (P2 fun x y H Q => ∃ i, y = .int i ∧ rSlG X.K x none (some i) H Q) xs H2 Q) (pure_go (Ok2.pure (fun F H d1 d2 x y f1 f2 Φ Q fx r1 r2 hk kk => ?_)) h)
  split at hk
  · exact ⟨_, r2.int_v, ok_sl _ _ F H d1 x f1 Φ Q fx r1 hk kk⟩
  · exact hk.elim
def isI (env : Ev) (r : R) (k : Int → Prop) : Prop := match gr env r with
  | some (.int i) => k i
  | _ => False
theorem isI_of {K : PySem.W.Frag} {F : Addr → Prop} {H : Hp} {env : Ev} {σ : Sg} {fp f : List Addr} {r : R} {x : V} {k : Int → Prop} (ho : Hold K F H env σ fp) (rp : RepR K F H σ r x f) (h : isI env r k) : ∃ i, x = .int i ∧ k i := by
  unfold isI at h
  split at h
  · rename_i c ec
    obtain ⟨g, q, _⟩ := rp.get ho ec
    exact ⟨c, q.int_v, h⟩
  · exact h.elim
def wSl11 (wa wb wc : W1) : W1 := fun env Φ => wa env fun r1 e1 => wb e1 fun r2 e2 => isI e2 r2 fun i => wc e2 fun r3 e3 => isI e3 r3 fun j => match gr e3 r1 with
  | some d => slK (some i) (some j) d fun d' => Φ (.tmp d') e3
  | none => False
theorem de_sl11 {p2 : Pos} (h : DE X G e wa) (hl : DE X G a wb) (hu : DE X G b wc) : DE X G (.Subscript e (.Slice (some a) (some b) none p2) pos) (wSl11 wa wb wc) := by
  refine ⟨pe_imp (pe_slice sl_G h.pe (po_some hl.pe) (po_some hu.pe)) fun σ H Q ⟨env, F, fp, Φ, ho, en, hw, kk⟩ => ?_⟩
  refine ⟨env, F, fp, _, ho, en, hw, fun r1 e1 h1 x H1 F1 f1 g1 s1 => ?_⟩
  refine ⟨e1, F1, g1, _, s1.ho, en.go (res_drop s1) fun _ h => h, h1, fun r2 e2 h2 y H2 F2 f2 g2 s2 => ?_⟩
  obtain ⟨i, ey, h3⟩ := isI_of s2.ho s2.rp h2
  refine ⟨i, ey, e2, F2, g2, _, s2.ho, (en.go (res_drop s1) fun _ h => h).go (res_drop s2) fun _ h => h, h3, fun r3 e3 h4 z H3 F3 f3 g3 s3 => ?_⟩
  obtain ⟨j, ez, h5⟩ := isI_of s3.ho s3.rp h4
  refine ⟨j, ez, ?_⟩
  have all := ResL.cons s1 (ResL.cons s2 (ResL.cons s3 (ResL.nil s3.ho)))
  split at h5
  · rename_i d ed
    obtain ⟨x', ys, q1, q2, e1', e2', rp1, _⟩ := all.rp
    obtain ⟨rfl, _⟩ := List.cons.inj e1'
    obtain ⟨g, rd, _⟩ := rp1.get s3.ho ed
    refine ok_sl (some i) (some j) F3 H3 d x g _ Q s3.ho.fx rd h5 fun d' hd z' H' fpz n rz => ?_
    have q := res_tmp s3.ho n rz
    exact kk _ _ hd z' H' F3 fpz g3 ⟨all.st.trans (fun a ha => List.mem_append_right _ ha) q.st, q.ho, q.rp, q.nd, q.dj⟩
  · exact h5.elim
/-! ### built-in functions -/
def lenK : K1
  | .lst _ xs, Φ => Φ (.int xs.length)
  | .tup xs, Φ => Φ (.int xs.length)
  | .str z, Φ => z.length ≤ sizeLine ∧ Φ (.int z.length)
  | _, _ => False
theorem ok_call1 {f : Value} {r : List V → Hp → VK → Prop} {k : K1} (h : CallR X f r) (o : Ok1 X.K (fun x H Q => r [x] H Q) k) : CallD X f (kd1 k) := by
  refine ⟨r, h, fun F H ds xs fp Φ Q fx rl hk kk => ?_⟩
  match ds, hk with
  | [d1], hk =>
    obtain ⟨x, ys, f1, rfl, r1, e⟩ := rl
    subst e
    exact o F H d1 x f1 Φ Q fx r1 hk kk
theorem ok_call2 {f : Value} {r : List V → Hp → VK → Prop} {k : K2} (h : CallR X f r) (o : Ok2 X.K (fun x y H Q => r [x, y] H Q) k) : CallD X f (kd2 k) := by
  refine ⟨r, h, fun F H ds xs fp Φ Q fx rl hk kk => ?_⟩
  match ds, hk with
  | [d1, d2], hk =>
    obtain ⟨x, ys, f1, rfl, r1, y, zs, f2, rfl, r2, e⟩ := rl
    subst e
    exact o F H d1 d2 x y f1 f2 Φ Q fx r1 r2 hk kk
theorem call_lenD : CallD X (.builtin "len") (kd1 lenK) := by
  refine ok_call1 (CallR.or call_len_seq call_len_str) ?_
  intro F H d1 x f1 Φ Q fx r1 hk kk
  unfold lenK at hk
  split at hk
  · obtain ⟨a, vs, g, rfl, h1, l1, _⟩ := r1.lst_v
    exact .inl ⟨a, vs, rfl, .inl (.inl h1), by rw [← l1.len]; exact kk _ hk _ H [] .refl rep_int⟩
  · obtain ⟨a, vs, rfl, h1, l1⟩ := r1.tup_v
    exact .inl ⟨a, vs, rfl, .inr h1, by rw [← l1.len]; exact kk _ hk _ H [] .refl rep_int⟩
  · rw [r1.str_v]
    exact .inr ⟨_, rfl, hk.1, kk _ hk.2 _ H [] .refl rep_int⟩
  · exact hk.elim
def intK1 : K1
  | .int i, Φ => Φ (.int i)
  | .bl b, Φ => Φ (.int (if b then 1 else 0))
  | _, _ => False
theorem call_intD : CallD X (.type "int") (kd1 intK1) := by
  refine ok_call1 call_int1 ?_
  intro F H d1 x f1 Φ Q fx r1 hk kk
  unfold intK1 at hk
  split at hk
  · rw [r1.int_v]; exact .inl ⟨_, rfl, kk _ hk _ H [] .refl rep_int⟩
  · rw [r1.bl_v]; exact .inr ⟨_, rfl, kk _ hk _ H [] .refl rep_int⟩
  · exact hk.elim
def listK : K1
  | .lst _ xs, Φ => noOwnL xs = true ∧ Φ (.lst true xs)
  | .tup xs, Φ => noOwnL xs = true ∧ Φ (.lst true xs)
  | _, _ => False
theorem call_listD : CallD X (.type "list") (kd1 listK) := by
  refine ok_call1 call_list_of ?_
  intro F H d1 x f1 Φ Q fx r1 hk kk
  unfold listK at hk
  split at hk
  · obtain ⟨a, vs, g, rfl, h1, l1, _⟩ := r1.lst_v
    have e1 := l1.no hk.1
    subst e1
    refine ⟨a, vs, rfl, .inl (.inl h1), fun p hp => ?_⟩
    obtain ⟨q1, q2⟩ := new_lst l1 hk.1 hp
    exact kk _ hk.2 _ _ _ q1 q2
  · obtain ⟨a, vs, rfl, h1, l1⟩ := r1.tup_v
    have e1 := l1.no hk.1
    subst e1
    refine ⟨a, vs, rfl, .inr h1, fun p hp => ?_⟩
    obtain ⟨q1, q2⟩ := new_lst l1 hk.1 hp
    exact kk _ hk.2 _ _ _ q1 q2
  · exact hk.elim
def tupleK : K1
  | .lst _ xs, Φ => noOwnL xs = true ∧ Φ (.tup xs)
  | .tup xs, Φ => noOwnL xs = true ∧ Φ (.tup xs)
  | _, _ => False
theorem call_tupleD : CallD X (.type "tuple") (kd1 tupleK) := by
  refine ok_call1 call_tuple_of ?_
  intro F H d1 x f1 Φ Q fx r1 hk kk
  unfold tupleK at hk
  split at hk
  · obtain ⟨a, vs, g, rfl, h1, l1, _⟩ := r1.lst_v
    have e1 := l1.no hk.1
    subst e1
    refine ⟨a, vs, rfl, .inl ⟨.inl h1, fun p hp => ?_⟩⟩
    obtain ⟨q1, q2⟩ := new_tup l1 hk.1 hp
    exact kk _ hk.2 _ _ _ q1 q2
  · have r1' := r1
    obtain ⟨a, vs, rfl, h1, l1⟩ := r1.tup_h
    have e1 := l1.no hk.1
    subst e1
    refine ⟨a, vs, rfl, .inr ⟨.of h1, kk _ hk.2 _ H [] .refl ?_⟩⟩
    simp only [Rep]
    exact ⟨a, vs, rfl, h1, l1⟩
  · exact hk.elim
def absK : K1
  | .int i, Φ => Φ (.int (if i < 0 then -i else i))
  | _, _ => False
theorem call_absD : CallD X (.builtin "abs") (kd1 absK) := by
  refine ok_call1 call_abs ?_
  intro F H d1 x f1 Φ Q fx r1 hk kk
  unfold absK at hk
  split at hk
  · rw [r1.int_v]; exact ⟨_, rfl, kk _ hk _ H [] .refl rep_int⟩
  · exact hk.elim
def max2K : K2 := intK (fun _ _ => True) fun i j => .int (if j > i then j else i)
def min2K : K2 := intK (fun _ _ => True) fun i j => .int (if j < i then j else i)
theorem call_max2D (hc : X.calm = true) : CallD X (.builtin "max") (kd2 max2K) := by
  refine ok_call2 (call_max2 hc) ?_
  intro F H d1 d2 x y f1 f2 Φ Q fx r1 r2 hk kk
  unfold max2K intK at hk
  split at hk
  · rw [r1.int_v, r2.int_v]; exact ⟨_, _, rfl, kk _ hk.2 _ H [] .refl rep_int⟩
  · exact hk.elim
theorem call_min2D (hc : X.calm = true) : CallD X (.builtin "min") (kd2 min2K) := by
  refine ok_call2 (call_min2 hc) ?_
  intro F H d1 d2 x y f1 f2 Φ Q fx r1 r2 hk kk
  unfold min2K intK at hk
  split at hk
  · rw [r1.int_v, r2.int_v]; exact ⟨_, _, rfl, kk _ hk.2 _ H [] .refl rep_int⟩
  · exact hk.elim
/-- the ints of a list -/
def toInts : List D → Option (List Int)
  | [] => some []
  | .int i :: r => (toInts r).map (i :: ·)
  | _ :: _ => none
def toBls : List D → Option (List Bool)
  | [] => some []
  | .bl i :: r => (toBls r).map (i :: ·)
  | _ :: _ => none
theorem toInts_v {K : PySem.W.Frag} {F : Addr → Prop} {H : Hp} : ∀ {xs : List D} {vs : List V} {f : List Addr} {ns : List Int}, RepL K F H xs vs f → toInts xs = some ns → vs = ns.map V.int
  | [], vs, f, ns, h, e => by
    obtain ⟨rfl, _⟩ := h.inv0
    have : ns = [] := by simpa [toInts] using e.symm
    subst this; rfl
  | x :: xs, vs, f, ns, h, e => by
    obtain ⟨v, r, f1, f2, rfl, ef, h1, h2⟩ := h.inv
    cases x with
    | int i =>
      simp only [toInts, Option.map_eq_some_iff] at e
      obtain ⟨ms, e1, rfl⟩ := e
      rw [h1.int_v, toInts_v h2 e1] <;> rfl
    | _ => simp [toInts] at e
theorem toBls_v {K : PySem.W.Frag} {F : Addr → Prop} {H : Hp} : ∀ {xs : List D} {vs : List V} {f : List Addr} {ns : List Bool}, RepL K F H xs vs f → toBls xs = some ns → vs = ns.map V.bl
  | [], vs, f, ns, h, e => by
    obtain ⟨rfl, _⟩ := h.inv0
    have : ns = [] := by simpa [toBls] using e.symm
    subst this; rfl
  | x :: xs, vs, f, ns, h, e => by
    obtain ⟨v, r, f1, f2, rfl, ef, h1, h2⟩ := h.inv
    cases x with
    | bl i =>
      simp only [toBls, Option.map_eq_some_iff] at e
      obtain ⟨ms, e1, rfl⟩ := e
      rw [h1.bl_v, toBls_v h2 e1] <;> rfl
    | _ => simp [toBls] at e
def sumK : K1
  | .lst _ xs, Φ => match toInts xs with
    | some ns => Φ (.int ns.sum)
    | none => False
  | .tup xs, Φ => match toInts xs with
    | some ns => Φ (.int ns.sum)
    | none => False
  | _, _ => False
def rSumT (K : PySem.W.Frag) : List V → Hp → VK → Prop := fun vs H Q => ∃ (a : Addr) (ns : List Int), vs = [V.ref a] ∧ SqT K H a (ns.map V.int) ∧ Q (.int ns.sum) H
theorem cr_sumT (hc : X.calm = true) : CallR X (.builtin "sum") (rSumT X.K) := by
  intro pins s σ H vs us Q I r h
  obtain ⟨a, ns, rfl, hs, q⟩ := h
  obtain ⟨its, rv, hl, _⟩ := I.tuple hs
  rw [Vals.ref1 r]
  have hi := rv.ints
  obtain ⟨xs, hx⟩ := hi.allInts.items
  have hn : numsOf its.toArray.toList = ns := by rw [show its.toArray.toList = its from rfl, hi.numsOf]
  rw [hx] at hl hn
  rw [nums_intItems] at hn
  refine PySem.W.ktm_sumG (I.ok.hd hc) hl fun h' tk t' hk => ?_
  rw [preSum_eq, List.take_of_length_le (by simp), hn]
  exact ⟨.int _, H, I.kept hk, ⟨_, rfl⟩, q⟩
theorem call_sumD (hc : X.calm = true) : CallD X (.builtin "sum") (kd1 sumK) := by
  refine ok_call1 (CallR.or (cr_sum hc) (cr_sumT hc)) ?_
  intro F H d1 x f1 Φ Q fx r1 hk kk
  unfold sumK at hk
  split at hk
  · obtain ⟨a, vs, g, rfl, h1, l1, _⟩ := r1.lst_v
    split at hk
    · rename_i ns en
      have e := toInts_v l1 en
      subst e
      exact .inl ⟨a, ns, rfl, .inl h1, kk _ hk _ H [] .refl rep_int⟩
    · exact hk.elim
  · obtain ⟨a, vs, rfl, h1, l1⟩ := r1.tup_v
    split at hk
    · rename_i ns en
      have e := toInts_v l1 en
      subst e
      exact .inr ⟨a, ns, rfl, h1, kk _ hk _ H [] .refl rep_int⟩
    · exact hk.elim
  · exact hk.elim
def allK : K1
  | .lst _ xs, Φ => match toBls xs with
    | some ns => Φ (.bl (ns.all id))
    | none => False
  | _, _ => False
def anyK : K1
  | .lst _ xs, Φ => match toBls xs with
    | some ns => Φ (.bl (ns.any id))
    | none => False
  | _, _ => False
theorem call_allD (hc : X.calm = true) : CallD X (.builtin "all") (kd1 allK) := by
  refine ok_call1 (cr_all hc) ?_
  intro F H d1 x f1 Φ Q fx r1 hk kk
  unfold allK at hk
  split at hk
  · obtain ⟨a, vs, g, rfl, h1, l1, _⟩ := r1.lst_v
    split at hk
    · rename_i ns en
      have e := toBls_v l1 en
      subst e
      exact ⟨a, ns, rfl, .inl h1, kk _ hk _ H [] .refl rep_bl⟩
    · exact hk.elim
  · exact hk.elim
theorem call_anyD (hc : X.calm = true) : CallD X (.builtin "any") (kd1 anyK) := by
  refine ok_call1 (cr_any hc) ?_
  intro F H d1 x f1 Φ Q fx r1 hk kk
  unfold anyK at hk
  split at hk
  · obtain ⟨a, vs, g, rfl, h1, l1, _⟩ := r1.lst_v
    split at hk
    · rename_i ns en
      have e := toBls_v l1 en
      subst e
      exact ⟨a, ns, rfl, .inl h1, kk _ hk _ H [] .refl rep_bl⟩
    · exact hk.elim
  · exact hk.elim
end
end Vd

set_option Elab.async false
set_option linter.all false
set_option maxRecDepth 100000
set_option maxHeartbeats 4000000
/-! Vd, part 9: loops and comprehensions. -/
namespace Vd
open PySem PySem.Spec PyProof.Rows L2

/-- G' starts where G has come to -/
def Sub (G G' : Gh) : Prop := Stp G.F0 G.fp0 G.H0 G'.F0 G'.fp0 G'.H0 ∧ G'.pins = G.pins
theorem Sub.refl {G : Gh} : Sub G G := ⟨.refl, rfl⟩
theorem Sub.trans {G1 G2 G3 : Gh} (a : Sub G1 G2) (b : Sub G2 G3) : Sub G1 G3 := ⟨a.1.trans (fun _ h => h) b.1, b.2.trans a.2⟩
theorem Sub.pins {G G' : Gh} (s : Sub G G') {P : Nat → Prop} (h : ∀ p ∈ G.pins, P p.1) : ∀ p ∈ G'.pins, P p.1 := by rw [s.2]; exact h
theorem Sub.ent {G G' : Gh} (s : Sub G G') {F : Addr → Prop} {fp : List Addr} {H : Hp} {σ : Sg} (e : Ent G' F fp H σ) : Ent G F fp H σ := ⟨s.1.trans (fun _ h => h) e.st, by rw [← s.2]; exact e.pin⟩
theorem Tk.sub {X : Cx} {G G' : Gh} {EW : EWt} (t : Tk X G EW) (s : Sub G G') : Tk X G' EW :=
  L2N.Takes.imp t fun cls d σ H ⟨env, F, fp, c, fs, h1, h2, h3, h4⟩ => ⟨env, F, fp, c, fs, h1, s.ent h2, h3, h4⟩
theorem pss_ex {X : Cx} {sts : List Stmt} {t : Gh → TS} {P : Gh → Prop} (h : ∀ G', P G' → PSs X sts (t G')) : PSs X sts (fun D σ H => ∃ G', P G' ∧ t G' D σ H) :=
  ⟨fun pins s σ H D I ⟨G', p, q⟩ => (h G' p).run pins s σ H D I q⟩
theorem pe_ex {X : Cx} {e : Expr} {t : Gh → TE} (h : ∀ G', PE X e (t G')) : PE X e (fun σ H Q => ∃ G', t G' σ H Q) := ⟨fun pins s σ H Q I ⟨G', q⟩ => (h G').run pins s σ H Q I q⟩

section
variable {K : PySem.W.Frag} {F F' F1 F2 : Addr → Prop} {H H' H1 H2 : Hp} {env env' : Ev} {σ : Sg} {fp fp' : List Addr}
/-- a datum frozen -/
theorem frz_go {fpr : List Addr} {d : D} {x : V} (q : Res K F fp H F' H' env σ (.tmp d) x fpr fp') : Res K F fp H (fun a => F' a ∨ a ∈ fpr) H' env σ (.tmp (Vd.frz d)) x [] fp' := by
  have rp : Rep K F' H' d x fpr := q.rp
  refine ⟨⟨q.st.keep, q.st.live, fun a z => .inl (q.st.mono a z), fun a z => ?_, fun a z => q.st.nfp a (List.mem_append_right _ z)⟩, ⟨q.ho.rep.keep (W := fun _ => False) kps_self (fun _ z => .inl z) fun _ _ z => z, q.ho.nd, fun a ha z => ?_, fun a z => ?_⟩, Rep.frz (fun a z => .inl z) d x fpr rp fun a ha => .inr ha, List.nodup_nil, fun a ha => absurd ha (List.not_mem_nil)⟩
  · rcases z with z | z
    · exact q.st.nF a z
    · exact .inr (q.st.nfp a (List.mem_append_left _ z))
  · rcases z with z | z
    · exact q.ho.dis a ha z
    · exact (q.dj a z).1 ha
  · rcases z with z | z
    · exact q.ho.fx a z
    · obtain ⟨o, eo, _⟩ := Rep.mks d rp a z
      intro y; rw [eo] at y; cases y
theorem capz_go {fpr : List Addr} {r : R} {x : V} {k : D → Ev → Prop} (q : Res K F fp H F' H' env σ r x fpr fp') (h : capz env r k) :
    ∃ d e2 F2 g2, k d e2 ∧ noOwn d = true ∧ Res K F fp H F2 H' e2 σ (.tmp d) x [] g2 := by
  cases r with
  | tmp d =>
    simp only [capz] at h
    split at h
    · rename_i n
      have rp : Rep K F' H' d x fpr := q.rp
      have e := Rep.no d n x fpr rp
      subst e
      exact ⟨d, env, F', fp', h, n, q⟩
    · exact ⟨_, env, _, fp', h, noOwn_frz d, frz_go q⟩
  | plc j =>
    have h' : cap env (.plc j) fun d e => noOwn d = true ∧ k d e := by
      unfold capz at h
      unfold cap
      split at h
      · cases ‹R.plc j = R.tmp _›
      · rename_i j' ej
        cases ej
        simp only
        split at h
        · rename_i d ed
          try rw [ed]
          try simp only
          split at h
          · rename_i n
            rw [if_pos n]
            exact ⟨n, h⟩
          · rename_i n
            rw [if_neg n]
            exact ⟨noOwn_frz d, h⟩
        · exact h.elim
    obtain ⟨d, e2, F2, f2, g2, ⟨n, hk⟩, r2⟩ := cap_go q h'
    have rp : Rep K F2 H' d x f2 := r2.rp
    have e := Rep.no d n x f2 rp
    subst e
    exact ⟨d, e2, F2, g2, hk, n, r2⟩
/-- a slot takes a datum that owns nothing -/
theorem hold_set {d : Option D} {x : Option V} {i : Nat} (ho : Hold K F H env σ fp) (r : RepO K F H d x []) (hi : i < env.length) : ∃ fp2, Hold K F H (env.set i d) (σ.set i x) fp2 ∧ ∀ a ∈ fp2, a ∈ fp := by
  obtain ⟨fa, fi, fb, s, e1, e2, h3, h4⟩ := ho.rep.cut hi
  have re := h4 (W := fun _ => False) (F' := F) (H' := H) kps_self (fun a z => z) (fun _ _ z => z) d x [] r
  have nd := ho.nd
  rw [e1] at nd
  obtain ⟨n1, n2, n3⟩ := perm3 nd
  have sub : ∀ a, a ∈ fa ++ ([] ++ fb) → a ∈ fp := fun a z => by rw [e1]; rcases List.mem_append.mp z with y | y <;> simp_all
  exact ⟨_, ⟨re, by simpa using n1, fun a ha => ho.dis a (sub a ha), ho.fx⟩, sub⟩
end

/-! ### targets -/
abbrev TgW := D → Ev → (Ev → Prop) → Prop
def TgOk (K : PySem.W.Frag) (is : List Nat) (g : TG) (T : TgW) : Prop := ∀ (F : Addr → Prop) (H : Hp) (env : Ev) (σ : Sg) (fp : List Addr) (d : D) (x : V) (k : Ev → Prop) (Q : Sg → Hp → Prop), Hold K F H env σ fp → noOwn d = true → Rep K F H d x [] → T d env k →
    (∀ env2 σ2 fp2, Hold K F H env2 σ2 fp2 → (∀ a ∈ fp2, a ∈ fp) → (∀ j, j ∉ is → σ2[j]? = σ[j]?) → σ2.length = σ.length → k env2 → Q σ2 H) → g x σ H Q
structure DG (X : Cx) (is : List Nat) (tg : Expr) (T : TgW) : Prop where
  ex : ∃ g, PG X tg g ∧ TgOk X.K is g T
def tgN (i : Nat) : TgW := fun d env k => i < env.length ∧ k (env.set i (some d))
def tgL : List Nat → List D → Ev → (Ev → Prop) → Prop
  | [], [], env, k => k env
  | i :: is, d :: ds, env, k => i < env.length ∧ tgL is ds (env.set i (some d)) k
  | _, _, _, _ => False
def tgT (is : List Nat) : TgW := fun d env k => match d with
  | .tup ds => tgL is ds env k
  | _ => False
def gNs : List Nat → TGs
  | [] => gNil
  | i :: is => gCons (gName i) (gNs is)
theorem tg_name {K : PySem.W.Frag} {i : Nat} : TgOk K [i] (gName i) (tgN i) := by
  intro F H env σ fp d v k Q ho n rp ⟨hi2, hk⟩ kk
  obtain ⟨fp2, ho2, sub⟩ := hold_set ho (d := some d) (x := some v) ⟨v, rfl, rp⟩ hi2
  exact kk _ _ fp2 ho2 sub (fun j hj => by rw [List.getElem?_set_ne (fun e => hj (by simp [e]))]) (by simp) hk
theorem tgL_len : ∀ {is : List Nat} {ds : List D} {env : Ev} {k : Ev → Prop}, tgL is ds env k → ds.length = is.length
  | [], [], env, k, h => rfl
  | i :: is, d :: ds, env, k, h => by
    have := tgL_len h.2
    simp [this]
  | [], _ :: _, env, k, h => h.elim
  | _ :: _, [], env, k, h => h.elim
theorem tg_list {K : PySem.W.Frag} : ∀ {is : List Nat} {F : Addr → Prop} {H : Hp} {env : Ev} {σ : Sg} {fp : List Addr} {ds : List D} {xs : List V} {k : Ev → Prop} {Q : Sg → Hp → Prop}, Hold K F H env σ fp → noOwnL ds = true → RepL K F H ds xs [] → tgL is ds env k →
    (∀ env2 σ2 fp2, Hold K F H env2 σ2 fp2 → (∀ a ∈ fp2, a ∈ fp) → (∀ j, j ∉ is → σ2[j]? = σ[j]?) → σ2.length = σ.length → k env2 → Q σ2 H) → gNs is xs σ H Q
  | [], F, H, env, σ, fp, ds, xs, k, Q, ho, n, rp, hk, kk => by
    cases ds with
    | nil =>
      obtain ⟨rfl, _⟩ := rp.inv0
      exact ⟨rfl, kk env σ fp ho (fun _ z => z) (fun _ _ => rfl) rfl hk⟩
    | cons a b => exact hk.elim
  | i :: is, F, H, env, σ, fp, ds, xs, k, Q, ho, n, rp, hk, kk => by
    cases ds with
    | nil => exact hk.elim
    | cons d ds =>
      obtain ⟨v, r, f1, f2, rfl, ef, r1, r2⟩ := rp.inv
      have e := List.append_eq_nil_iff.mp ef.symm
      obtain ⟨e1, e2⟩ := e
      subst e1 e2
      obtain ⟨hi2, hk⟩ := hk
      have n' : noOwn d = true ∧ noOwnL ds = true := by simpa [noOwnL] using n
      obtain ⟨fp2, ho2, sub⟩ := hold_set ho (d := some d) (x := some v) ⟨v, rfl, r1⟩ hi2
      refine ⟨v, r, rfl, tg_list ho2 n'.2 r2 hk fun env2 σ2 fp3 ho3 sub3 out len hk3 => ?_⟩
      refine kk env2 σ2 fp3 ho3 (fun a ha => sub a (sub3 a ha)) (fun j hj => ?_) (by rw [len]; simp) hk3
      rw [out j fun z => hj (List.mem_cons_of_mem _ z), List.getElem?_set_ne (fun e => hj (by simp [e]))]
theorem tg_tup {K : PySem.W.Frag} {is : List Nat} : TgOk K is (gTup K is.length (gNs is)) (tgT is) := by
  intro F H env σ fp d v k Q ho n rp hk kk
  unfold tgT at hk
  split at hk
  · rename_i ds
    obtain ⟨a, vs, rfl, hq, rl⟩ := rp.tup_v
    exact ⟨a, vs, rfl, hq, by rw [← rl.len]; exact tgL_len hk, tg_list ho (by simpa [noOwn] using n) rl hk kk⟩
  · exact hk.elim
section
variable {X : Cx} {i : Nat} {x : Str} {pos : Pos}
theorem dg_of {tg : Expr} {is : List Nat} {g : TG} {T : TgW} (t : TgOk X.K is g T) (h : PG X tg g) : DG X is tg T := ⟨g, h, t⟩
end

/-! ### what is walked -/
abbrev WI := Ev → (List D → Ev → Prop) → Prop
structure ItOk (K : PySem.W.Frag) (F' : Addr → Prop) (fp' : List Addr) (H' : Hp) (xs : List D) (J : It) : Prop where
  ex : ∃ (Gd : Hp → Prop) (Y : Nat → Hp → V → Hp → Prop), Walk J xs.length Gd Y ∧ (∀ H2, Kps (fun a => a ∈ fp') F' H' H2 → Gd H2) ∧
    ∀ i H2 x H3 F2, i < xs.length → Kps (fun a => a ∈ fp') F' H' H2 → (∀ a, F' a → F2 a) → Y i H2 x H3 → ∃ d, xs[i]? = some d ∧ noOwn d = true ∧ New H2 H3 [] ∧ Rep K F2 H3 d x []
def lI (K : PySem.W.Frag) (G : Gh) (w : WI) : TI := fun σ H R => ∃ env F fp Φ, Hold K F H env σ fp ∧ Ent G F fp H σ ∧ w env Φ ∧
  ∀ xs env', Φ xs env' → ∀ J H' F' fp', Stp F fp H F' fp' H' → Hold K F' H' env' σ fp' → ItOk K F' fp' H' xs J → R J H'
structure DI (X : Cx) (G : Gh) (tg iter : Expr) (w : WI) : Prop where
  pi : PI X tg iter (lI X.K G w)
theorem pi_imp {X : Cx} {tg e : Expr} {t t' : TI} (h : PI X tg e t) (k : ∀ σ H Q, t' σ H Q → t σ H Q) : PI X tg e t' := ⟨fun pins s σ H Q I q => h.run pins s σ H Q I (k σ H Q q)⟩
def seqD (d : D) (k : List D → Prop) : Prop := match d with
  | .lst _ xs => k xs
  | .tup xs => k xs
  | .scr ns => k (ns.map D.int)
  | _ => False
def wIt (w : W1) : WI := fun env Φ => w env fun r e1 => capz e1 r fun d e2 => seqD d fun xs => Φ xs e2
section
variable {X : Cx} {G : Gh} {tg e a b : Expr} {w wa wb : W1} {ws : WL} {K : PySem.W.Frag} {pos p : Pos}
/-- a list or a tuple -/
def iSeq (K : PySem.W.Frag) (tl : TE) : TI := fun σ H R => tl σ H fun x H1 => ∃ a, x = .ref a ∧ (((∃ xs, SqL K H1 a xs) ∧ R (Itl K a) H1) ∨ ((∃ xs, SqT K H1 a xs) ∧ R (Itt K a) H1))
theorem pi_seq {tl : TE} (hl : PE X e tl) : PI X tg e (iSeq X.K tl) := by
  refine ⟨fun pins s σ H R I h => ?_⟩
  refine thn (hl.run pins s σ H _ I h) fun v s1 ⟨x, H1, I1, r1, q1⟩ => ?_
  obtain ⟨a, e, q⟩ := q1
  subst e
  cases r1
  rcases q with ⟨⟨xs, hq⟩, q⟩ | ⟨⟨xs, hq⟩, q⟩
  · obtain ⟨its, rv, p, hz⟩ := I1.list hq
    refine wpAny_pyIter_list p.isList ?_
    refine ⟨s1.heap.objs.size, [s1.heap.objs.size], _, _, H1, rfl, I1.kept (t' := s1.toks) fun b o e => Heap.get?_push_of_some _ e, turn_list a _, ⟨_, Heap.get?_push_size _ rfl, rfl, rfl⟩, fun b hb => ?_, q⟩
    have e : b = s1.heap.objs.size := by simpa using hb
    subst e
    exact I1.fpOk (Nat.le_refl _) (I1.hok.fresh (Nat.le_refl _))
  · obtain ⟨its, rv, p, hz⟩ := I1.tuple hq
    refine wpAny_pyIter_tuple (show s1.heap.IsTuple a its.toArray from p) ?_
    refine ⟨s1.heap.objs.size, [s1.heap.objs.size], _, _, H1, rfl, I1.kept (t' := s1.toks) fun b o e => Heap.get?_push_of_some _ e, turn_tuple a _, ⟨_, Heap.get?_push_size _ rfl, rfl, rfl⟩, fun b hb => ?_, q⟩
    have e : b = s1.heap.objs.size := by simpa using hb
    subst e
    exact I1.fpOk (Nat.le_refl _) (I1.hok.fresh (Nat.le_refl _))
theorem Kps.sqF {W : Addr → Prop} {F : Addr → Prop} {H H' : Hp} (k : Kps W F H H') {a : Addr} {xs : List V} (hF : F a) (h : Rd H a (.lst xs)) : SqL K H' a xs := .inl (k.rd hF h)
theorem yat_rep {F' F2 : Addr → Prop} {fp' : List Addr} {H' H2 : Hp} {xs : List D} {vs : List V} {i : Nat} {x : V} (rl : RepL K F' H' xs vs []) (no : noOwnL xs = true) (kk : Kps (fun a => a ∈ fp') F' H' H2) (m : ∀ a, F' a → F2 a) (ex : vs[i]? = some x) :
    ∃ d, xs[i]? = some d ∧ noOwn d = true ∧ Rep K F2 H2 d x [] := by
  have hi : i < vs.length := (List.getElem?_eq_some_iff.mp ex).1
  have hi2 : i < xs.length := by rw [rl.len]; exact hi
  obtain ⟨d, ed⟩ : ∃ d, xs[i]? = some d := ⟨_, List.getElem?_eq_getElem hi2⟩
  have n := noOwnL_iff.mp no d (List.mem_of_getElem? ed)
  obtain ⟨v, f, ev, rd, _⟩ := (RepL.keep kk m rl fun _ z => absurd z (List.not_mem_nil)).get ed
  rw [ex] at ev
  cases ev
  have e := Rep.no d n x f rd
  subst e
  exact ⟨d, ed, n, rd⟩
theorem itOk_seq {F' : Addr → Prop} {fp' : List Addr} {H' : Hp} {d : D} {x : V} {xs : List D} {k : List D → Prop} (n : noOwn d = true) (rp : Rep K F' H' d x []) (h : seqD d k) :
    ∃ xs a, k xs ∧ x = .ref a ∧ (((∃ vs, SqL K H' a vs) ∧ ItOk K F' fp' H' xs (Itl K a)) ∨ ((∃ vs, SqT K H' a vs) ∧ ItOk K F' fp' H' xs (Itt K a))) := by
  unfold seqD at h
  split at h
  · rename_i o ds
    cases o with
    | true => simp [noOwn] at n
    | false =>
      simp only [Rep] at rp
      obtain ⟨a, vs, rfl, _, hq, rl⟩ := rp
      have no : noOwnL ds = true := by simpa [noOwn] using n
      refine ⟨ds, a, h, rfl, .inl ⟨⟨vs, .inl hq.2⟩, _, _, by rw [rl.len]; exact walk_list (xs := vs), fun H2 kk => kk.sqF hq.1 hq.2, fun i H2 x H3 F2 hi kk m y => ?_⟩⟩
      obtain ⟨e1, e2⟩ := y
      subst e1
      obtain ⟨d, e3, e4, e5⟩ := yat_rep rl no kk m e2
      exact ⟨d, e3, e4, .refl, e5⟩
  · rename_i ds
    obtain ⟨a, vs, rfl, hq, rl⟩ := rp.tup_v
    have no : noOwnL ds = true := by simpa [noOwn] using n
    refine ⟨ds, a, h, rfl, .inr ⟨⟨vs, hq⟩, _, _, by rw [rl.len]; exact walk_tup (xs := vs), fun H2 kk => kk.tup hq, fun i H2 x H3 F2 hi kk m y => ?_⟩⟩
    obtain ⟨e1, e2⟩ := y
    subst e1
    obtain ⟨d, e3, e4, e5⟩ := yat_rep rl no kk m e2
    exact ⟨d, e3, e4, .refl, e5⟩
  · rename_i ns
    simp only [Rep] at rp
    obtain ⟨a, rfl, _, h1⟩ := rp
    have hs : SqL K H' a (ns.map V.int) := by
      rcases h1 with ⟨o, h1⟩ | h1
      · exact .inl (.inr ⟨o, h1⟩)
      · exact .inr h1
    have el : (ns.map D.int).length = (ns.map V.int).length := by simp
    refine ⟨ns.map D.int, a, h, rfl, .inl ⟨⟨_, hs⟩, _, _, by rw [el]; exact walk_list (xs := ns.map V.int), fun H2 kk => ?_, fun i H2 x H3 F2 hi kk m y => ?_⟩⟩
    · rcases h1 with ⟨o, h1⟩ | h1
      · exact .inl (.inr ⟨o, kk.nt h1 fun z => z⟩)
      · exact .inr h1
    · obtain ⟨e1, e2⟩ := y
      subst e1
      obtain ⟨d, e3, e4, e5⟩ := yat_rep (rep_ints (K := K) (F := F') (H := H') ns) (noOwn_ints ns) kk m e2
      exact ⟨d, e3, e4, .refl, e5⟩
  · exact h.elim
theorem di_seq (h : DE X G e w) : DI X G tg e (wIt w) := by
  refine ⟨pi_imp (pi_seq h.pe) fun σ H R ⟨env, F, fp, Φ, ho, en, hw, kk⟩ => ?_⟩
  refine ⟨env, F, fp, _, ho, en, hw, fun r e1 h1 x H1 F1 f1 g1 r1 => ?_⟩
  obtain ⟨d, e2, F2, g2, h2, n, r2⟩ := capz_go r1 h1
  obtain ⟨xs, a, hk, ea, q⟩ := itOk_seq (fp' := g2) (xs := []) n r2.rp h2
  refine ⟨a, ea, ?_⟩
  rcases q with ⟨q1, q2⟩ | ⟨q1, q2⟩
  · exact .inl ⟨q1, kk xs e2 hk _ H1 F2 g2 (res_drop r2) r2.ho q2⟩
  · exact .inr ⟨q1, kk xs e2 hk _ H1 F2 g2 (res_drop r2) r2.ho q2⟩
/-! range -/
def rgD (lo : Int) (n : Nat) : List D := (List.range n).map fun i => .int (lo + (i : Nat))
theorem itOk_rg {F' : Addr → Prop} {fp' : List Addr} {H' : Hp} {lo : Int} {n : Nat} : ItOk K F' fp' H' (rgD lo n) (Itr lo n) := by
  have el : (rgD lo n).length = n := by simp [rgD]
  refine ⟨_, _, by rw [el]; exact walk_range, fun _ _ => True.intro, fun i H2 x H3 F2 hi kk m y => ?_⟩
  obtain ⟨e1, e2⟩ := y
  subst e1 e2
  rw [el] at hi
  exact ⟨.int (lo + (i : Nat)), by simp [rgD, hi], by simp [noOwn], .refl, rep_int⟩
def wRg1 (w : W1) : WI := fun env Φ => w env fun r e1 => isI e1 r fun j => (-(2 ^ 62) ≤ j ∧ j < 2 ^ 62) ∧ Φ (rgD 0 j.toNat) e1
def wRg2 (wa wb : W1) : WI := fun env Φ => wa env fun r e1 => isI e1 r fun i => wb e1 fun r2 e2 => isI e2 r2 fun j => (-(2 ^ 62) ≤ i ∧ i < 2 ^ 62 ∧ -(2 ^ 62) ≤ j ∧ j < 2 ^ 62) ∧ Φ (rgD i (j - i).toNat) e2
theorem di_rg1 (hg : Gl X "range") (hm : X.mg "range" = none) (ha : DE X G a w) (hs : starEach [a] X.env = (false, eval a X.env) :: starEach [] X.env := by rfl) (hs' : starEach [a] X.env = [(false, eval a X.env)] := by rfl) : DI X G tg (.Call (.Name "range" p) [a] [] pos) (wRg1 w) := by
  refine ⟨pi_imp (pi_range1 hg hm (pa_cons ha.pe pa_nil hs) hs') fun σ H R ⟨env, F, fp, Φ, ho, en, hw, kk⟩ => ?_⟩
  refine ⟨env, F, fp, _, ho, en, hw, fun r e1 h1 x H1 F1 f1 g1 r1 => ?_⟩
  obtain ⟨j, ej, hb, hk⟩ := isI_of r1.ho r1.rp h1
  exact ⟨j, by rw [ej], hb.1, hb.2, kk _ _ hk _ H1 F1 g1 (res_drop r1) r1.ho itOk_rg⟩
theorem di_rg2 (hg : Gl X "range") (hm : X.mg "range" = none) (ha : DE X G a wa) (hb : DE X G b wb) (hs1 : starEach [a, b] X.env = (false, eval a X.env) :: starEach [b] X.env := by rfl) (hs2 : starEach [b] X.env = (false, eval b X.env) :: starEach [] X.env := by rfl)
    (hs3 : starEach [a, b] X.env = [(false, eval a X.env), (false, eval b X.env)] := by rfl) (hs4 : starEach [b] X.env = [(false, eval b X.env)] := by rfl) : DI X G tg (.Call (.Name "range" p) [a, b] [] pos) (wRg2 wa wb) := by
  refine ⟨pi_imp (pi_range2 hg hm (pa_cons ha.pe (pa_cons hb.pe pa_nil hs2) hs1) hs3 hs4) fun σ H R ⟨env, F, fp, Φ, ho, en, hw, kk⟩ => ?_⟩
  refine ⟨env, F, fp, _, ho, en, hw, fun r e1 h1 x H1 F1 f1 g1 r1 => ?_⟩
  obtain ⟨i, ei, h2⟩ := isI_of r1.ho r1.rp h1
  have en1 := en.go (res_drop r1) fun _ h => h
  refine ⟨e1, F1, g1, _, r1.ho, en1, h2, fun r' e2 h3 y H2 F2 f2 g2 r2 => ?_⟩
  obtain ⟨j, ej, hb, hk⟩ := isI_of r2.ho r2.rp h3
  exact ⟨i, j, by rw [ei, ej], hb, kk _ _ hk _ H2 F2 g2 ((res_drop r1).trans (fun _ h => h) (res_drop r2)) r2.ho itOk_rg⟩
end

/-! ### for, while -/
def forW (T : TgW) (b : WS) : List D → WS
  | [] => fun D env => D.nx env
  | x :: xs => fun D env => T x env fun e1 => b { D with nx := forW T b xs D, ct := forW T b xs D, bk := D.nx } e1
def wFor (wi : WI) (T : TgW) (b : WS) : WS := fun D env => wi env fun xs e1 => forW T b xs D e1
def whileW (u : WB) (b : WS) : Nat → WS
  | 0 => fun _ _ => False
  | n + 1 => fun D env => u env fun k e1 => if k = true then b { D with nx := whileW u b n D, ct := whileW u b n D, bk := D.nx } e1 else D.nx e1
def wWhile (u : WB) (b : WS) : WS := fun D env => ∃ n, whileW u b n D env
section
variable {X : Cx} {G : Gh} {tg iter c : Expr} {body : List Stmt} {wi : WI} {T : TgW} {is : List Nat} {wb : WS} {u : WB} {pos : Pos}
theorem for_core {g : TG} (hg2 : ∀ F2 H3 e2 σ2 g2 d x Φ (Q : Sg → Hp → Prop), Hold X.K F2 H3 e2 σ2 g2 → noOwn d = true → Rep X.K F2 H3 d x [] → T d e2 Φ → (∀ e4 σ4 g4, Hold X.K F2 H3 e4 σ4 g4 → (∀ a ∈ g4, a ∈ g2) → (∀ j, j ∉ is → σ4[j]? = σ2[j]?) → σ4.length = σ2.length → Φ e4 → Q σ4 H3) → g x σ2 H3 Q)
    (hpin : ∀ p ∈ G.pins, p.1 ∉ is) {D : Ends} {σ : Sg} {H : Hp} (h : lS X.K G (wFor wi T wb) D σ H) : tFor (lI X.K G wi) g (fun D σ H => ∃ G', Sub G G' ∧ lS X.K G' wb D σ H) D σ H := by
  obtain ⟨env, F, fp, Dd, ho, en, hw, ad⟩ := h
  refine ⟨env, F, fp, _, ho, en, hw, fun xs e1 h1 J H1 F1 g1 st1 ho1 it => ?_⟩
  obtain ⟨Gd, Y, wk, hGd, hY⟩ := it.ex
  have en1 := en.go st1 fun _ h => h
  have kps : ∀ {F2 : Addr → Prop} {fp2 : List Addr} {H2 : Hp}, Stp F1 g1 H1 F2 fp2 H2 → Kps (fun a => a ∈ g1) F1 H1 H2 := fun s => ho1.kps s
  refine for_it wk (g := g) (tb := fun D σ H => ∃ G', Sub G G' ∧ lS X.K G' wb D σ H) (D := D) (fun i σ H => ∃ env F2 fp2, Hold X.K F2 H env σ fp2 ∧ Ent G F2 fp2 H σ ∧ Stp F1 g1 H1 F2 fp2 H ∧ forW T wb (xs.drop i) Dd env) ⟨e1, F1, g1, ho1, en1, .refl, by simpa using h1⟩ ?_ ?_ ?_
  · rintro i σ H hin ⟨e2, F2, g2, ho2, en2, st2, _⟩
    exact hGd H (kps st2)
  · rintro i x σ2 H2 H3 hin ⟨e2, F2, g2, ho2, en2, st2, hw2⟩ y
    obtain ⟨d, ed, nd, nw, rp⟩ := hY i H2 x H3 F2 hin (kps st2) st2.mono y
    have ho3 : Hold X.K F2 H3 e2 σ2 g2 := ⟨ho2.rep.keep nw.kps (fun _ z => z) fun _ _ z => z, ho2.nd, ho2.dis, fun a z q => ho2.fx a z (nw.live a q)⟩
    have st3 : Stp F1 g1 H1 F2 g2 H3 := st2.trans (fun _ h => h) (by simpa using nw.stp)
    have en3 : Ent G F2 g2 H3 σ2 := en2.go (by simpa using nw.stp) fun _ h => h
    have dr : xs.drop i = d :: xs.drop (i + 1) := by
      have hlt : i < xs.length := hin
      have e4 := List.getElem?_eq_getElem hlt
      rw [ed] at e4
      rw [Option.some.inj e4]
      exact List.drop_eq_getElem_cons hlt
    rw [dr] at hw2
    refine hg2 F2 H3 e2 σ2 g2 d x _ _ ho3 nd rp hw2 fun e4 σ4 g4 ho4 sub out len hk => ?_
    have en4 : Ent G F2 g4 H3 σ4 := ⟨en3.st.less sub, fun p hp2 => by rw [out p.1 (hpin p hp2)]; exact en3.pin p hp2⟩
    have st4 : Stp F1 g1 H1 F2 g4 H3 := st3.less sub
    refine ⟨⟨F1, g1, H1, G.pins⟩, ⟨en1.st, rfl⟩, e4, F2, g4, _, ho4, ⟨st4, en4.pin⟩, hk, ?_⟩
    have up : ∀ {F5 : Addr → Prop} {fp5 : List Addr} {H5 : Hp} {σ5 : Sg}, Ent ⟨F1, g1, H1, G.pins⟩ F5 fp5 H5 σ5 → Ent G F5 fp5 H5 σ5 := fun e => ⟨en1.st.trans (fun _ h => h) e.st, e.pin⟩
    exact ⟨fun e5 σ5 H5 F5 fp5 ho5 en5 q => ⟨e5, F5, fp5, ho5, up en5, en5.st, q⟩, fun e5 σ5 H5 F5 fp5 ho5 en5 q => ad.nx e5 σ5 H5 F5 fp5 ho5 (up en5) q,
      fun e5 σ5 H5 F5 fp5 ho5 en5 q => ⟨e5, F5, fp5, ho5, up en5, en5.st, q⟩, fun d5 e5 σ5 H5 F5 x5 fpr5 fp5 ho5 en5 rp5 nd5 dj5 q => ad.rt d5 e5 σ5 H5 F5 x5 fpr5 fp5 ho5 (up en5) rp5 nd5 dj5 q⟩
  · rintro σ2 H2 ⟨e2, F2, g2, ho2, en2, st2, hw2⟩
    rw [List.drop_length] at hw2
    exact ad.nx e2 σ2 H2 F2 g2 ho2 en2 hw2
theorem ds_for (hp : PassesOwn (model X.prog X.w) X.A X.env X.xe) (hc : X.calm = true) (hi : DI X G tg iter wi) (hg : DG X is tg T) (hb : ∀ G', Sub G G' → DSs X G' body wb) (hpin : ∀ p ∈ G.pins, p.1 ∉ is)
    (hs : ∀ x, foldedSetIterable iter X.env x = pure x := by intro _; rfl) : DS X G (.For tg iter body [] pos) (wFor wi T wb) := by
  obtain ⟨g, hg1, hg2⟩ := hg.ex
  exact ⟨ps_imp (ps_for hp hc hi.pi hg1 (pss_ex (P := Sub G) (t := fun G' => lS X.K G' wb) fun G' s => (hb G' s).ps) hs) fun D σ H h => for_core hg2 hpin h⟩
theorem ds_while (hp : PassesOwn (model X.prog X.w) X.A X.env X.xe) (hc : DT X G c u) (hb : DSs X G body wb) : DS X G (.While c body [] pos) (wWhile u wb) := by
  refine ⟨ps_imp (ps_while hp hc.pt hb.ps) fun D σ H ⟨env, F, fp, Dd, ho, en, ⟨n, hw⟩, ad⟩ => ?_⟩
  refine ⟨fun m σ H => ∃ env F fp, Hold X.K F H env σ fp ∧ Ent G F fp H σ ∧ whileW u wb m Dd env, ⟨n, env, F, fp, ho, en, hw⟩, ?_⟩
  rintro m σ2 H2 ⟨e2, F2, g2, ho2, en2, hw2⟩
  cases m with
  | zero => exact hw2.elim
  | succ m =>
    refine ⟨e2, F2, g2, _, ho2, en2, hw2, fun k e3 h3 H3 F3 g3 st3 ho3 => ?_⟩
    have en3 := en2.go st3 fun _ h => h
    cases k with
    | true =>
      simp only [if_true] at h3 ⊢
      refine ⟨_, fun σ' H' q => ⟨m, Nat.lt_succ_self m, q⟩, e3, F3, g3, _, ho3, en3, h3, ?_⟩
      exact ⟨fun e5 σ5 H5 F5 fp5 ho5 en5 q => ⟨e5, F5, fp5, ho5, en5, q⟩, ad.nx, fun e5 σ5 H5 F5 fp5 ho5 en5 q => ⟨e5, F5, fp5, ho5, en5, q⟩, ad.rt⟩
    | false =>
      simp only [Bool.false_eq_true, if_false] at h3 ⊢
      exact ad.nx e3 σ2 H3 F3 g3 ho3 en3 h3
end
end Vd

set_option Elab.async false
set_option linter.all false
set_option maxRecDepth 100000
set_option maxHeartbeats 4000000
/-! Vd, part 10: list comprehensions; name op= value; a < b < c. -/
namespace Vd
open PySem PySem.Spec PyProof.Rows L2

/-! ### the slots of a block's own names -/
def wip (e : Ev) : List Nat → Ev
  | [] => e
  | v :: vs => (wip e vs).set v none
def rst (e1 : Ev) : Ev → List Nat → Ev
  | e, [] => e
  | e, v :: vs => rst e1 (e.set v (gv e1 v)) vs
def noOwnO : Option D → Bool
  | none => true
  | some d => noOwn d
def ownOk (own : List Nat) (e : Ev) : Bool := own.all fun i => decide (i < e.length) && noOwnO (gv e i)
section
variable {K : PySem.W.Frag} {F F' F1 F2 F3 F4 : Addr → Prop} {H H' H1 H2 H3 H4 : Hp} {env env' : Ev} {σ : Sg} {fp fp' g1 g2 : List Addr}
theorem wip_length (e : Ev) : ∀ vs : List Nat, (wip e vs).length = e.length
  | [] => rfl
  | v :: vs => by unfold wip; rw [List.length_set, wip_length e vs]
theorem hold_wipe : ∀ {vs : List Nat}, Hold K F H env σ fp → ∃ fp2, Hold K F H (wip env vs) (wipe σ vs) fp2 ∧ ∀ a ∈ fp2, a ∈ fp
  | [], h => ⟨fp, h, fun _ z => z⟩
  | v :: vs, h => by
    obtain ⟨fp2, h2, s2⟩ := hold_wipe (vs := vs) h
    unfold wip wipe
    by_cases hv : v < (wip env vs).length
    · obtain ⟨fp3, h3, s3⟩ := hold_set h2 (d := none) (x := none) (show RepO K F H none none [] from rfl) hv
      exact ⟨fp3, h3, fun a ha => s2 a (s3 a ha)⟩
    · have e1 : (wip env vs).set v none = wip env vs := List.set_eq_of_length_le (by omega)
      have e2 : (wipe σ vs).set v none = wipe σ vs := List.set_eq_of_length_le (by have := h2.rep.len; omega)
      rw [e1, e2]
      exact ⟨fp2, h2, s2⟩
theorem hold_back {e1 : Ev} : ∀ {vs : List Nat} {e : Ev} {fp : List Addr}, vs.Nodup → Hold K F H e (wipe σ vs) fp → (∀ i ∈ vs, i < e.length ∧ ∃ s, σ[i]? = some s ∧ RepO K F H (gv e1 i) s []) → ∃ fp3, Hold K F H (rst e1 e vs) σ fp3 ∧ ∀ a ∈ fp3, a ∈ fp
  | [], e, fp, nd, h, k => ⟨fp, h, fun _ z => z⟩
  | v :: vs, e, fp, nd, h, k => by
    obtain ⟨hl, s, es, r⟩ := k v (List.mem_cons_self ..)
    obtain ⟨nv, nd2⟩ := List.nodup_cons.mp nd
    obtain ⟨fp2, h2, s2⟩ := hold_set h (d := gv e1 v) (x := s) r hl
    have e2 : (wipe σ (v :: vs)).set v s = wipe σ vs := by
      show ((wipe σ vs).set v none).set v s = wipe σ vs
      rw [List.set_set]
      exact setSame (by rw [wipe_out nv]; exact es)
    rw [e2] at h2
    obtain ⟨fp3, h3, s3⟩ := hold_back (vs := vs) nd2 h2 fun i hi => by
      obtain ⟨a, b⟩ := k i (List.mem_cons_of_mem _ hi)
      exact ⟨by simpa using a, b⟩
    exact ⟨fp3, h3, fun a ha => s2 a (s3 a ha)⟩
theorem wipe_in {i : Nat} : ∀ {vs : List Nat}, i ∈ vs → i < σ.length → (wipe σ vs)[i]? = some none
  | v :: vs, h, hl => by
    unfold wipe
    by_cases e : v = i
    · subst e; rw [List.getElem?_set_self (by rw [wipe_length]; exact hl)]
    · rw [List.getElem?_set_ne e]
      rcases List.mem_cons.mp h with z | z
      · exact absurd z.symm e
      · exact wipe_in z hl
theorem wipe_eq {σ2 : Sg} {vs is : List Nat} (hi : ∀ i ∈ is, i ∈ vs) (out : ∀ j, j ∉ is → σ2[j]? = (wipe σ vs)[j]?) (len : σ2.length = (wipe σ vs).length) : wipe σ2 vs = wipe σ vs := by
  rw [wipe_length] at len
  apply List.ext_getElem?
  intro j
  by_cases hj : j ∈ vs
  · by_cases hl : j < σ.length
    · rw [wipe_in hj hl, wipe_in hj (by omega)]
    · rw [List.getElem?_eq_none (by rw [wipe_length]; omega), List.getElem?_eq_none (by rw [wipe_length]; omega)]
  · rw [wipe_out hj, out j fun z => hj (hi j z)]
/-- the list at hand takes one more -/
theorem app_go {ds : List D} {d : D} {p : Addr} {y : V} {f : List Addr} {fpr : List Addr} {e3 e4 : Ev} {f4 g4 : List Addr} (A : Res K F fp H F3 H3 e3 σ (.tmp (.lst true ds)) (.ref p) fpr g1) (B : Res K F3 g1 H3 F4 H4 e4 σ (.tmp d) y f4 g4) :
    ∃ vs, H4 p = some (.lst vs) ∧ ds.length = vs.length ∧ Res K F fp H F4 (upd H4 p (.lst (vs ++ [y]))) e4 σ (.tmp (.lst true (ds ++ [d]))) (.ref p) (fpr ++ f4) g4 := by
  have C := ResL.cons A (ResL.cons B (ResL.nil B.ho))
  rw [List.append_nil] at C
  have k := A.ho.kps B.st
  have rpA : Rep K F4 H4 (.lst true ds) (.ref p) fpr := Rep.keep k B.st.mono _ _ _ A.rp fun c hc => (A.dj c hc).1
  have rpB : Rep K F4 H4 d y f4 := B.rp
  simp only [Rep] at rpA
  obtain ⟨a, vs, fp', ea, ef, hp, rl⟩ := rpA
  cases ea
  subst ef
  have nd := C.nd
  have hpn : p ∉ fp' ++ f4 := by
    have : (p :: (fp' ++ f4)).Nodup := by simpa using nd
    exact (List.nodup_cons.mp this).1
  have pC : p ∈ p :: fp' ++ f4 := by simp
  have kw : Kps (fun a => a = p) F4 H4 (upd H4 p (.lst (vs ++ [y]))) := ⟨fun a o e n => by rw [upd_ne n]; exact e, fun a z => ⟨.lst vs, by rw [z]; exact hp, True.intro⟩, fun a z q => (C.dj p pC).2 (q ▸ z)⟩
  refine ⟨vs, hp, rl.len, ⟨⟨fun a o e n => ?_, fun a z => ?_, C.st.mono, C.st.nF, C.st.nfp⟩, ⟨C.ho.rep.keep kw (fun _ z => z) fun a ha q => (C.dj p pC).1 (q ▸ ha), C.ho.nd, C.ho.dis, fun a z q => ?_⟩, ?_, nd, C.dj⟩⟩
  · have hne : a ≠ p := fun q => by
      subst q
      rcases C.st.nfp a (List.mem_append_left _ pC) with z | z
      · exact n z
      · rw [e] at z; cases z
    rw [upd_ne hne]
    exact C.st.keep a o e n
  · by_cases q : a = p
    · subst q; rw [upd_same] at z; cases z
    · rw [upd_ne q] at z; exact C.st.live a z
  · by_cases w : a = p
    · subst w; rw [upd_same] at q; cases q
    · rw [upd_ne w] at q; exact C.ho.fx a z q
  · show Rep K F4 _ (.lst true (ds ++ [d])) (.ref p) (p :: fp' ++ f4)
    simp only [Rep]
    refine ⟨p, vs ++ [y], fp' ++ f4, rfl, rfl, upd_same, ?_⟩
    have rl2 := rl.keep kw (fun _ z => z) fun a ha q => hpn (q ▸ List.mem_append_left _ ha)
    have rd2 := Rep.keep kw (fun _ z => z) d y f4 rpB fun a ha q => hpn (q ▸ List.mem_append_right _ ha)
    simpa using RepL.append rl2 (RepL.cons rd2 RepL.nil)
end

/-! ### tests of a clause -/
structure DTs (X : Cx) (G : Gh) (ifs : List Expr) (u : WB) : Prop where
  pts : PTs X ifs (lB X.K G u)
def wYes : WB := fun env Φ => Φ true env
section
variable {X : Cx} {G : Gh} {elt tg iter c : Expr} {ifs : List Expr} {wi : WI} {T : TgW} {is : List Nat} {w : W1} {u : WB} {pos : Pos} {scope : Scope} {own : List (Str × Nat)}
theorem pts_imp {t t' : TT} (h : PTs X ifs t) (k : ∀ σ H Q, t' σ H Q → t σ H Q) : PTs X ifs t' := ⟨fun pins s σ H Q I q => h.run pins s σ H Q I (k σ H Q q)⟩
theorem pts_ex {t : Gh → TT} (h : ∀ G', PTs X ifs (t G')) : PTs X ifs (fun σ H Q => ∃ G', t G' σ H Q) := ⟨fun pins s σ H Q I ⟨G', q⟩ => (h G').run pins s σ H Q I q⟩
theorem dts_nil : DTs X G [] wYes := ⟨pts_imp pts_nil fun σ H Q ⟨env, F, fp, Φ, ho, en, hw, k⟩ => k _ _ hw H F fp .refl ho⟩
theorem dts_one (h : DT X G c u) : DTs X G [c] u := ⟨pts_one h.pt⟩

/-! ### the list -/
def lcW (T : TgW) (u : WB) (w : W1) (own : List Nat) : List D → List D → Ev → (List D → Ev → Prop) → Prop
  | [], acc, e, Φ => Φ acc e
  | x :: xs, acc, e, Φ => T x e fun e1 => u e1 fun b e2 => if b = true then w e2 fun r e3 => cap e3 r fun d e4 => acc.length < sizeLine ∧ lcW T u w own xs (acc ++ [d]) (wip e4 own) Φ
    else lcW T u w own xs acc (wip e2 own) Φ
def wLc (wi : WI) (T : TgW) (u : WB) (w : W1) (own : List Nat) : W1 := fun env Φ => wi env fun xs e1 => ownOk own e1 = true ∧ lcW T u w own xs [] (wip e1 own) fun ds e2 => e2.length = e1.length ∧ Φ (.tmp (.lst true ds)) (rst e1 e2 own)
theorem Res.wiped {K : PySem.W.Frag} {F F' : Addr → Prop} {H H' : Hp} {fp fpr fp' : List Addr} {env : Ev} {σ : Sg} {d : D} {x : V} (q : Res K F fp H F' H' env σ (.tmp d) x fpr fp') (vs : List Nat) : ∃ fp2, Res K F fp H F' H' (wip env vs) (wipe σ vs) (.tmp d) x fpr fp2 := by
  obtain ⟨fp2, h2, s2⟩ := hold_wipe (vs := vs) q.ho
  refine ⟨fp2, q.st.less fun a ha => ?_, h2, q.rp, q.nd, fun a ha => ⟨fun z => (q.dj a ha).1 (s2 a z), (q.dj a ha).2⟩⟩
  rcases List.mem_append.mp ha with z | z
  · exact List.mem_append_left _ z
  · exact List.mem_append_right _ (s2 a z)
theorem lc_go {σ : Sg} {H : Hp} {Q : VK} {g : TG} (own : List Nat) (nd : own.Nodup) (hio : ∀ i ∈ is, i ∈ own)
    (hg2 : TgOk X.K is g T)
    (h : lE X.K G (wLc wi T u w own) σ H Q) : tLc (lI X.K G wi) g (fun σ H Q => ∃ G', lB X.K G' u σ H Q) (fun σ H Q => ∃ G', lE X.K G' w σ H Q) own σ H Q := by
  obtain ⟨env, F, fp, Φ, ho, en, hw, kk⟩ := h
  refine ⟨env, F, fp, _, ho, en, hw, fun xs e1 ⟨hown, h1⟩ J H1 F1 g1 st1 ho1 it => ?_⟩
  obtain ⟨Gd, Y, wk, hGd, hY⟩ := it.ex
  intro p hp
  have ownA : ∀ i ∈ own, i < e1.length ∧ noOwnO (gv e1 i) = true := fun i hi => by
    have := List.all_eq_true.mp hown i hi
    simpa using this
  have laid : Res X.K F1 g1 H1 F1 (upd H1 p (.lst [])) e1 σ (.tmp (.lst true [])) (.ref p) [p] g1 := by
    refine res_tmp ho1 (.one hp) ?_
    simp only [Rep]
    exact ⟨p, [], [], rfl, rfl, upd_same, .nil⟩
  obtain ⟨g0, laid0⟩ := laid.wiped own
  refine lc_it wk (g := g) (tt := fun σ H Q => ∃ G', lB X.K G' u σ H Q) (te := fun σ H Q => ∃ G', lE X.K G' w σ H Q) (vs := own) (σ := σ) (H1 := H1) (D := p) (Qd := fun H => Q (.ref p) H)
    (fun i H => ∃ e2 F2 fpr fp2 ds, Res X.K F1 g1 H1 F2 H e2 (wipe σ own) (.tmp (.lst true ds)) (.ref p) fpr fp2 ∧ lcW T u w own (xs.drop i) ds e2 fun ds e2 => e2.length = e1.length ∧ Φ (.tmp (.lst true ds)) (rst e1 e2 own))
    ⟨_, F1, [p], g0, [], laid0, by simpa using h1⟩ ?_ ?_ ?_
  · rintro i H2 hin ⟨e2, F2, fpr, fp2, ds, r2, _⟩
    exact hGd H2 (ho1.kps (res_drop r2))
  · rintro i x H2 H3 hin ⟨e2, F2, fpr, fp2, ds, r2, hw2⟩ y
    obtain ⟨d, ed, ndd, nw, rp⟩ := hY i H2 x H3 F2 hin (ho1.kps (res_drop r2)) r2.st.mono y
    have st23 : Stp F2 fp2 H2 F2 fp2 H3 := by simpa using nw.stp (F := F2) (fp := fp2)
    have ho3 : Hold X.K F2 H3 e2 (wipe σ own) fp2 := ⟨r2.ho.rep.keep nw.kps (fun _ z => z) fun _ _ z => z, r2.ho.nd, r2.ho.dis, fun a z q => r2.ho.fx a z (nw.live a q)⟩
    have r3 : Res X.K F1 g1 H1 F2 H3 e2 (wipe σ own) (.tmp (.lst true ds)) (.ref p) fpr fp2 :=
      ⟨r2.st.trans (fun _ h => h) (by simpa using nw.stp (F := F2) (fp := fpr ++ fp2)), ho3, Rep.keep nw.kps (fun _ z => z) _ _ _ r2.rp fun _ _ z => z, r2.nd, r2.dj⟩
    have dr : xs.drop i = d :: xs.drop (i + 1) := by
      have hlt : i < xs.length := hin
      have e4 := List.getElem?_eq_getElem hlt
      rw [ed] at e4
      rw [Option.some.inj e4]
      exact List.drop_eq_getElem_cons hlt
    rw [dr] at hw2
    refine hg2 F2 H3 e2 (wipe σ own) fp2 d x _ _ ho3 ndd rp hw2 fun e4 σ4 g4 ho4 sub out len hk => ?_
    have ew : wipe σ4 own = wipe σ own := wipe_eq hio out len
    refine ⟨ew, ?_⟩
    -- the list beside the slots of the turn
    have r4 : Res X.K F1 g1 H1 F2 H3 e4 σ4 (.tmp (.lst true ds)) (.ref p) fpr g4 :=
      ⟨r3.st.less fun a ha => (List.mem_append.mp ha).elim (fun z => List.mem_append_left _ z) fun z => List.mem_append_right _ (sub a z), ho4, r3.rp, r3.nd, fun a ha => ⟨fun z => (r3.dj a ha).1 (sub a z), (r3.dj a ha).2⟩⟩
    refine ⟨⟨F2, g4, H3, []⟩, e4, F2, g4, _, ho4, ⟨.refl, fun _ z => absurd z (List.not_mem_nil)⟩, hk, fun b e5 hb H5 F5 g5 st5 ho5 => ?_⟩
    have r5 : Res X.K F1 g1 H1 F5 H5 e5 σ4 (.tmp (.lst true ds)) (.ref p) fpr g5 := by
      have z : Res X.K F2 g4 H3 F5 H5 e5 σ4 (.tmp .non) .non [] g5 := ⟨st5, ho5, (rep_non (K := X.K) (F := F5) (H := H5) :), List.nodup_nil, fun a ha => absurd ha (List.not_mem_nil)⟩
      have C := ResL.cons r4 (ResL.cons z (ResL.nil z.ho))
      obtain ⟨x1, ys, f1, f2, ex, ef, rp1, x2, ys2, f3, f4, ex2, ef2, rp2, _, ef3⟩ := C.rp
      have e9 : f3 = [] := by
        have q : Rep X.K F5 H5 .non x2 f3 := rp2
        simp only [Rep] at q
        exact q.2
      subst e9 ef3 ef2
      have ex1 : V.ref p = x1 := (List.cons.inj ex).1
      subst ex1
      simp only [List.append_nil] at C ef
      subst ef
      exact ⟨C.st, C.ho, rp1, C.nd, C.dj⟩
    cases b with
    | true =>
      simp only [if_true] at hb ⊢
      refine ⟨⟨F5, g5, H5, []⟩, e5, F5, g5, _, ho5, ⟨.refl, fun _ z => absurd z (List.not_mem_nil)⟩, hb, fun r e6 h6 y6 H6 F6 f6 g6 r6 => ?_⟩
      obtain ⟨d7, e7, F7, f7, g7, ⟨hl7, h7⟩, r7⟩ := cap_go r6 h6
      obtain ⟨vs, hv, hvl, r8⟩ := app_go (f := []) r5 r7
      obtain ⟨g9, r9⟩ := r8.wiped own
      rw [ew] at r9
      exact ⟨vs, hv, by rw [← hvl]; exact hl7, _, F7, _, g9, ds ++ [d7], r9, h7⟩
    | false =>
      simp only [Bool.false_eq_true, if_false] at hb ⊢
      obtain ⟨g9, r9⟩ := r5.wiped own
      rw [ew] at r9
      exact ⟨_, F5, _, g9, ds, r9, hb⟩
  · rintro H2 ⟨e2, F2, fpr, fp2, ds, r2, hw2⟩
    rw [List.drop_length] at hw2
    obtain ⟨hlen, hq⟩ := hw2
    obtain ⟨fp3, ho3, s3⟩ := hold_back (e1 := e1) (σ := σ) nd r2.ho fun i hi => by
      obtain ⟨hl, hn⟩ := ownA i hi
      obtain ⟨fa, fi, fb, s, q1, q2, q3, q4⟩ := ho1.rep.cut hl
      refine ⟨by rw [hlen]; exact hl, s, q2, ?_⟩
      cases ed : gv e1 i with
      | none => exact rfl
      | some d =>
        rw [ed] at q3 hn
        obtain ⟨v, ev, rp⟩ := q3
        have e0 := Rep.no d hn v fi rp
        subst e0
        exact ⟨v, ev, Rep.keep (ho1.kps (res_drop r2)) r2.st.mono d v [] rp fun _ z => absurd z (List.not_mem_nil)⟩
    refine kk _ _ hq (.ref p) H2 F2 fpr fp3 ⟨st1.trans (fun _ h => h) (r2.st.less fun a ha => ?_), ho3, r2.rp, r2.nd, fun a ha => ⟨fun z => (r2.dj a ha).1 (s3 a z), (r2.dj a ha).2⟩⟩
    rcases List.mem_append.mp ha with z | z
    · exact List.mem_append_left _ z
    · exact List.mem_append_right _ (s3 a z)
theorem de_lc (hc : X.calm = true) (hN : X.N.Nodup) (hi : DI X G tg iter wi) (ok : BlkOk X.N X.env.scope scope own) (nd : (own.map (·.2)).Nodup) (hio : ∀ i ∈ is, i ∈ own.map (·.2)) {g : TG} (hg2 : TgOk X.K is g T)
    (hg : ∀ (s : Shared) (H : Hp) (C : Addr) (cl : List (Str × Addr)) (fp : List Addr), PG (X.blk s H scope (compEnvC scope cl C X.env) fp) tg g)
    (ht : ∀ (s : Shared) (H : Hp) (C : Addr) (cl : List (Str × Addr)) (fp : List Addr) (G' : Gh), DTs (X.blk s H scope (compEnvC scope cl C X.env) fp) G' ifs u)
    (he : ∀ (s : Shared) (H : Hp) (C : Addr) (cl : List (Str × Addr)) (fp : List Addr) (G' : Gh), DE (X.blk s H scope (compEnvC scope cl C X.env) fp) G' elt w) (hs : ∀ x, foldedSetIterable iter X.env x = pure x := by intro _; rfl) :
    DE X G (.ListComp elt [⟨tg, iter, ifs, 0⟩] scope pos) (wLc wi T u w (own.map (·.2))) :=
  ⟨pe_imp (pe_lc hc hN hi.pi ok hg (fun s H C cl fp => pts_ex fun G' => (ht s H C cl fp G').pts) (fun s H C cl fp => pe_ex fun G' => (he s H C cl fp G').pe) hs) fun σ H Q h => lc_go (own.map (·.2)) nd hio hg2 h⟩
theorem ds_setLc {i : Nat} {y : Str} {py spos : Pos} (hc : X.calm = true) (hN : X.N.Nodup) (hy : X.N[i]? = some y) (hyl : X.env.scope.names.lookup y = some .local) (hp : ∀ p ∈ G.pins, p.1 ≠ i)
    (hi : DI X G tg iter wi) (ok : BlkOk X.N X.env.scope scope own) (nd : (own.map (·.2)).Nodup) (hio : ∀ i ∈ is, i ∈ own.map (·.2)) {g : TG} (hg2 : TgOk X.K is g T)
    (hg : ∀ (s : Shared) (H : Hp) (C : Addr) (cl : List (Str × Addr)) (fp : List Addr), PG (X.blk s H scope (compEnvC scope cl C X.env) fp) tg g)
    (ht : ∀ (s : Shared) (H : Hp) (C : Addr) (cl : List (Str × Addr)) (fp : List Addr) (G' : Gh), DTs (X.blk s H scope (compEnvC scope cl C X.env) fp) G' ifs u)
    (he : ∀ (s : Shared) (H : Hp) (C : Addr) (cl : List (Str × Addr)) (fp : List Addr) (G' : Gh), DE (X.blk s H scope (compEnvC scope cl C X.env) fp) G' elt w) (hs : ∀ x, foldedSetIterable iter X.env x = pure x := by intro _; rfl)
    (hsw : swapsWith (.ListComp elt [⟨tg, iter, ifs, 0⟩] scope pos) (some (.Name y py)) spos.line X.env = pure true := by rfl) :
    DS X G (.Assign [.Name y py] (.ListComp elt [⟨tg, iter, ifs, 0⟩] scope pos) spos) (wSet i (wLc wi T u w (own.map (·.2)))) := by
  refine ⟨ps_imp (ps_setLc hc hN hy hyl hsw hi.pi ok hg (tt := fun σ H Q => ∃ G', lB X.K G' u σ H Q) (te := fun σ H Q => ∃ G', lE X.K G' w σ H Q) (fun s H C cl fp => pts_ex fun G' => (ht s H C cl fp G').pts) (fun s H C cl fp => pe_ex fun G' => (he s H C cl fp G').pe) hs) fun D σ H ⟨env, F, fp, Dd, ho, en, hw, ad⟩ => ?_⟩
  have hw2 : wLc wi T u w (own.map (·.2)) env (fun r e1 => cap e1 r fun d e2 => i < e2.length ∧ Dd.nx (e2.set i (some d))) := hw
  refine lc_go (G := G) (wi := wi) (u := u) (w := w) (own.map (·.2)) nd hio hg2 ⟨env, F, fp, _, ho, en, hw2, fun r e1 h1 x H1 F1 f1 g1 r1 => ?_⟩
  obtain ⟨d, e2, F2, f2, g2, ⟨hi2, hk⟩, r2⟩ := cap_go r1 h1
  obtain ⟨g3, ho3, en3⟩ := set_go r2 hi2 en hp
  exact ad.nx _ _ H1 F2 g3 ho3 en3 hk

/-! ### name += value -/
def wAug (i : Nat) (k : K2) (w : W1) : WS := fun D env => match gv env i with
  | some d0 => noOwn d0 = true ∧ w env fun r e1 => match gr e1 r with
    | some d1 => k d0 d1 fun d => noOwn d = true ∧ i < e1.length ∧ D.nx (e1.set i (some d))
    | none => False
  | none => False
def addIK : K2 := intK (fun _ _ => True) fun i j => .int (i + j)
def subIK : K2 := intK (fun _ _ => True) fun i j => .int (i - j)
theorem aug_go {e : Expr} {i : Nat} {k : K2} {f : Int → Int → Int} (hk : k = intK (fun _ _ => True) fun i j => .int (f i j)) {D : Ends} {σ : Sg} {H : Hp} (hp : ∀ p ∈ G.pins, p.1 ≠ i) (h : lS X.K G (wAug i k w) D σ H) : tAug i (lE X.K G w) (ipI f) D σ H := by
  obtain ⟨env, F, fp, Dd, ho, en, hw, ad⟩ := h
  unfold wAug at hw
  split at hw
  · rename_i d0 ed
    obtain ⟨v, g0, e1, rp0, _⟩ := ho.rep.get ed
    refine ⟨v, e1, env, F, fp, _, ho, en, hw.2, fun r e2 h2 y H2 F2 f2 g2 r2 => ?_⟩
    split at h2
    · rename_i d1 ed1
      obtain ⟨g1, rp1, _⟩ := r2.rp.get r2.ho ed1
      subst hk
      unfold intK at h2
      split at h2
      · obtain ⟨_, n, hl, hq⟩ := h2
        obtain ⟨fp3, ho3, s3⟩ := hold_set r2.ho (d := some (.int _)) (x := some (.int _)) ⟨_, rfl, rep_int⟩ hl
        refine ⟨_, _, rp0.int_v, rp1.int_v, ad.nx _ _ H2 F2 fp3 ho3 ⟨?_, fun p hp2 => ?_⟩ hq⟩
        · exact (en.st.trans (fun _ h => h) (res_drop r2)).less s3
        · rw [List.getElem?_set_ne (Ne.symm (hp p hp2))]
          exact en.pin p hp2
      · exact h2.elim
    · exact h2.elim
  · exact hw.elim
theorem ds_augAdd {e : Expr} {i : Nat} {x : Str} {pos' : Pos} (hN : X.N.Nodup) (hi : X.N[i]? = some x) (hx : Loc X.env.scope x) (he : DE X G e w) (hp : ∀ p ∈ G.pins, p.1 ≠ i)
    (hf : X.fn x = true ∨ X.env.scope.names.lookup x = some .local := by first | exact .inl rfl | exact .inr rfl | assumption) : DS X G (.AugAssign (.Name x pos') .Add e pos) (wAug i addIK w) :=
  ⟨ps_imp (ps_aug hN hi hx he.pe ip_add hf) fun D σ H h => aug_go (e := e) rfl hp h⟩

/-! ### a op b op' c -/
def wChain (k k' : K2) (wa wb wc : W1) : W1 := fun env Φ => wa env fun r1 e1 => wb e1 fun r2 e2 => match gr e2 r1, gr e2 r2 with
  | some d1, some d2 => k d1 d2 fun d => match d with
    | .bl true => wc e2 fun r3 e3 => match gr e3 r2, gr e3 r3 with
      | some d2', some d3 => k' d2' d3 fun d' => Φ (.tmp d') e3
      | _, _ => False
    | .bl false => Φ (.tmp (.bl false)) e2
    | _ => False
  | _, _ => False
theorem chain_go {a b c : Expr} {wa wb wc : W1} {r r' : R2} {k k' : K2} (o : Ok2 X.K r k) (o' : Ok2 X.K r' k') {σ : Sg} {H : Hp} {Q : VK} (h : lE X.K G (wChain k k' wa wb wc) σ H Q) : tChain r r' (lE X.K G wa) (lE X.K G wb) (lE X.K G wc) σ H Q := by
  obtain ⟨env, F, fp, Φ, ho, en, hw, kk⟩ := h
  refine ⟨env, F, fp, _, ho, en, hw, fun r1 e1 h1 x H1 F1 f1 g1 s1 => ?_⟩
  have en1 := en.go (res_drop s1) fun _ h => h
  refine ⟨e1, F1, g1, _, s1.ho, en1, h1, fun r2 e2 h2 y H2 F2 f2 g2 s2 => ?_⟩
  have en2 := en1.go (res_drop s2) fun _ h => h
  have all := ResL.cons s1 (ResL.cons s2 (ResL.nil s2.ho))
  split at h2
  · rename_i d1 d2 ed1 ed2
    obtain ⟨x', ys, q1, q2, e1', e2', rp1, _⟩ := all.rp
    obtain ⟨rfl, _⟩ := List.cons.inj e1'
    obtain ⟨gg, rd1, _⟩ := rp1.get s2.ho ed1
    obtain ⟨gg2, rd2, _⟩ := s2.rp.get s2.ho ed2
    refine o F2 H2 d1 d2 x y gg gg2 _ _ s2.ho.fx rd1 rd2 h2 fun d hd z H3 fpz n rz => ?_
    have ho3 : Hold X.K F2 H3 e2 σ g2 := ⟨s2.ho.rep.keep n.kps (fun _ z => z) fun _ _ z => z, s2.ho.nd, s2.ho.dis, fun a z q => s2.ho.fx a z (n.live a q)⟩
    have n0 : New H2 H3 [] := ⟨n.keep, fun a ha => absurd ha (List.not_mem_nil), List.nodup_nil⟩
    have st3 : Stp F2 g2 H2 F2 g2 H3 := by simpa using n0.stp (F := F2) (fp := g2)
    have stA : Stp F fp H F2 g2 H3 := ((res_drop s1).trans (fun _ h => h) (res_drop s2)).trans (fun _ h => h) st3
    split at hd
    · rw [rz.bl_v]
      refine ⟨true, rfl, ?_⟩
      rw [if_pos rfl]
      have s2' : Res X.K F1 g1 H1 F2 H3 e2 σ r2 y f2 g2 := ⟨s2.st.trans (fun _ h => h) (by simpa using n0.stp (F := F2) (fp := f2 ++ g2)), ho3, s2.rp.keep n.kps (fun _ z => z) fun _ _ z => z, s2.nd, s2.dj⟩
      refine ⟨e2, F2, g2, _, ho3, ⟨(en2.st.trans (fun _ h => h) st3), en2.pin⟩, hd, fun r3 e3 h3 z3 H4 F4 f4 g4 s3 => ?_⟩
      have all2 := ResL.cons s1 (ResL.cons s2' (ResL.cons s3 (ResL.nil s3.ho)))
      split at h3
      · rename_i d2' d3 ed2' ed3
        obtain ⟨x', ys, q1, q2, e1', e2', rpx, y', ys2, q3, q4, e3', e4', rpy, _⟩ := all2.rp
        obtain ⟨rfl, ee⟩ := List.cons.inj e1'
        rw [e3'] at ee
        obtain ⟨rfl, _⟩ := List.cons.inj ee
        obtain ⟨gy, rdy, _⟩ := rpy.get s3.ho ed2'
        obtain ⟨gz, rdz, _⟩ := s3.rp.get s3.ho ed3
        refine o' F4 H4 d2' d3 y z3 gy gz _ _ s3.ho.fx rdy rdz h3 fun d' hd' z' H' fpz' n' rz' => ?_
        have q := res_tmp s3.ho n' rz'
        exact kk _ _ hd' z' H' F4 fpz' g4 ⟨all2.st.trans (fun a ha => List.mem_append_right _ ha) q.st, q.ho, q.rp, q.nd, q.dj⟩
      · exact h3.elim
    · rw [rz.bl_v]
      refine ⟨false, rfl, ?_⟩
      rw [if_neg Bool.false_ne_true]
      exact kk _ _ hd _ H3 F2 [] g2 (res_bl stA ho3)
    · exact hd.elim
  · exact h2.elim
/-- a two-place operator on data, its parts -/
structure Op2 (X : Cx) (f : Value → Value → Sem Value) (k : K2) : Prop where
  ex : ∃ r : R2, OpR X f r ∧ Ok2 X.K r k
theorem de_chain {a b c : Expr} {wa wb wc : W1} {op op' : CmpOp} {k k' : K2} (o : Op2 X (compareOp op) k) (o' : Op2 X (compareOp op') k') (ha : DE X G a wa) (hb : DE X G b wb) (hc : DE X G c wc)
    (hm : lastMarks [op, op'] [b, c] = false := by with_unfolding_all rfl) : DE X G (.Compare a [op, op'] [b, c] pos) (wChain k k' wa wb wc) := by
  obtain ⟨r, h1, h2⟩ := o.ex
  obtain ⟨r', h3, h4⟩ := o'.ex
  exact ⟨pe_imp (pe_chain h1 h3 ha.pe hb.pe hc.pe hm) fun σ H Q h => chain_go (a := a) (b := b) (c := c) h2 h4 h⟩
theorem dt_chain {a b c : Expr} {wa wb wc : W1} {op op' : CmpOp} {k k' : K2} (o : Op2 X (compareOp op) k) (o' : Op2 X (compareOp op') k') (ha : DE X G a wa) (hb : DE X G b wb) (hc : DE X G c wc)
    (hm : lastMarks [op, op'] [b, c] = false := by with_unfolding_all rfl) : DT X G (.Compare a [op, op'] [b, c] pos) (wTB (wChain k k' wa wb wc)) := by
  obtain ⟨r, h1, h2⟩ := o.ex
  obtain ⟨r', h3, h4⟩ := o'.ex
  refine ⟨pt_imp (pt_chain h1 h3 ha.pe hb.pe hc.pe hm) fun σ H Q ⟨env, F, fp, Φ, ho, en, hw, kk⟩ => ?_⟩
  refine chain_go (a := a) (b := b) (c := c) (G := G) h2 h4 ⟨env, F, fp, _, ho, en, hw, fun r e1 h1 x H1 F1 f1 g1 r1 => ?_⟩
  obtain ⟨c, ec, h2⟩ := isB_of r1.ho r1.rp h1
  exact ⟨c, ec, kk _ _ h2 H1 F1 g1 (res_drop r1) r1.ho⟩
theorem op2_lt : Op2 X (compareOp .Lt) ltK := ⟨_, op_lt, ok_bl0⟩
theorem op2_le : Op2 X (compareOp .LtE) leK := ⟨_, op_le, ok_bl0⟩
end
end Vd

set_option Elab.async false
set_option linter.all false
set_option maxRecDepth 100000
set_option maxHeartbeats 4000000
/-! Vd, part 11: objects in slots that are changed: lists, dicts. -/
namespace Vd
open PySem PySem.Spec PyProof.Rows L2

def ownTop : D → Bool
  | .lst true _ => true
  | .dik true _ => true
  | .dit true _ => true
  | .ins true _ _ => true
  | _ => false
section
variable {K : PySem.W.Frag} {F F' : Addr → Prop} {H H' : Hp} {env : Ev} {σ : Sg} {fp fr g : List Addr} {d dd : D} {y : V} {i : Nat}
theorem ownTop_rep {v : V} {f : List Addr} (h : ownTop dd = true) (r : Rep K F H dd v f) : ∃ a fi o, v = .ref a ∧ f = a :: fi ∧ H a = some o ∧ Mk o := by
  cases dd with
  | lst o xs =>
    cases o with
    | true => simp only [Rep] at r; obtain ⟨a, vs, f', e, ef, q, _⟩ := r; exact ⟨a, f', _, e, ef, q, True.intro⟩
    | false => simp [ownTop] at h
  | dik o xs =>
    cases o with
    | true => simp only [Rep] at r; obtain ⟨a, vs, f', e, ef, q, _⟩ := r; exact ⟨a, f', _, e, ef, q, True.intro⟩
    | false => simp [ownTop] at h
  | dit o xs =>
    cases o with
    | true => simp only [Rep] at r; obtain ⟨a, vs, f', e, ef, q, _⟩ := r; exact ⟨a, f', _, e, ef, q, True.intro⟩
    | false => simp [ownTop] at h
  | ins o c xs =>
    cases o with
    | true => simp only [Rep] at r; obtain ⟨a, dx, vs, f', e, ef, q, _⟩ := r; exact ⟨a, f', _, e, ef, q, True.intro⟩
    | false => simp [ownTop] at h
  | _ => simp [ownTop] at h
/-- the object that the slot i owns takes another content -/
theorem wr_go (q : Res K F fp H F' H' env σ (.tmp d) y fr g) (e : gv env i = some dd) (ow : ownTop dd = true) :
    ∃ a fi, σ[i]? = some (some (.ref a)) ∧ Rep K F' H' dd (.ref a) (a :: fi) ∧ (a :: (fi ++ fr)).Nodup ∧
      ∀ (o' : HO) (d' : D) (f1 : List Addr) (dz : D) (z : V) (fz : List Addr), Mk o' → (∀ H2, Kps (fun b => b = a) F' H' H2 → H2 a = some o' → Rep K F' H2 d' (.ref a) (a :: f1)) → Rep K F' H' dz z fz →
        (f1 ++ fz).Nodup → (∀ b ∈ f1 ++ fz, b ∈ fi ++ fr) → ∃ g', Res K F fp H F' (upd H' a o') (env.set i (some d')) σ (.tmp dz) z fz g' := by
  obtain ⟨fa, fi, fb, s, e1, e2, h3, h4⟩ := q.ho.rep.cut (gv_lt e)
  rw [e] at h3
  obtain ⟨v, ev, rp⟩ := h3
  subst ev
  obtain ⟨a, f0, o, rfl, rfl, ho, mo⟩ := ownTop_rep ow rp
  have nd := q.ho.nd
  rw [e1] at nd
  obtain ⟨n1, n2, n3⟩ := perm3 nd
  have mfi : ∀ b ∈ a :: f0, b ∈ g := fun b hb => by rw [e1]; exact List.mem_append_right _ (List.mem_append_left _ hb)
  have mrest : ∀ b ∈ fa ++ fb, b ∈ g := fun b hb => by rw [e1]; rcases List.mem_append.mp hb with z | z <;> simp [z]
  have frA : ∀ b ∈ fr, b ∉ a :: f0 ∧ b ∉ fa ++ fb := fun b hb => ⟨fun z => (q.dj b hb).1 (mfi b z), fun z => (q.dj b hb).1 (mrest b z)⟩
  have nd2 : (a :: (f0 ++ fr)).Nodup := by
    have : ((a :: f0) ++ fr).Nodup := List.nodup_append.mpr ⟨n2, q.nd, fun b hb c hc z => by subst z; exact (frA b hc).1 hb⟩
    simpa using this
  refine ⟨a, f0, e2, rp, nd2, fun o' d' f1 dz z fz mk hd rz ndz sub => ?_⟩
  have hna : a ∉ f0 ++ fr := (List.nodup_cons.mp nd2).1
  have kw : Kps (fun b => b = a) F' H' (upd H' a o') := ⟨fun b u eb n => by rw [upd_ne n]; exact eb, fun b w => ⟨o, by rw [w]; exact ho, mo⟩, fun b w z => q.ho.dis a (mfi a (List.mem_cons_self ..)) (z ▸ w)⟩
  have sub2 : ∀ b ∈ f1 ++ fz, b ≠ a ∧ b ∉ fa ++ fb := fun b hb => by
    have hb2 := sub b hb
    refine ⟨fun z => hna (z ▸ hb2), fun z => ?_⟩
    rcases List.mem_append.mp hb2 with w | w
    · exact n3 b (List.mem_cons_of_mem _ w) z
    · exact (frA b w).2 z
  have re := h4 (W := fun b => b = a) (F' := F') (H' := upd H' a o') kw (fun _ z => z) (fun b hb z => n3 a (List.mem_cons_self ..) (z ▸ hb)) (some d') (some (.ref a)) (a :: f1) ⟨_, rfl, hd _ kw upd_same⟩
  rw [setSame e2] at re
  obtain ⟨nz1, nz2, nz3⟩ := List.nodup_append.mp ndz
  have inner : ∀ b ∈ a :: f1, b ∉ fa ++ fb := fun b hb z => by
    rcases List.mem_cons.mp hb with w | w
    · exact n3 a (List.mem_cons_self ..) (w ▸ z)
    · exact (sub2 b (List.mem_append_left _ w)).2 z
  have nd3 : (fa ++ (a :: f1 ++ fb)).Nodup := by
    obtain ⟨m1, m2, m3⟩ := List.nodup_append.mp n1
    refine List.nodup_append.mpr ⟨m1, List.nodup_append.mpr ⟨List.nodup_cons.mpr ⟨fun z => (sub2 a (List.mem_append_left _ z)).1 rfl, nz1⟩, m2, fun b hb c hc w => ?_⟩, fun b hb c hc w => ?_⟩
    · subst w; exact inner b hb (List.mem_append_right _ hc)
    · subst w
      rcases List.mem_append.mp hc with w | w
      · exact inner b w (List.mem_append_left _ hb)
      · exact m3 b hb b w rfl
  have mem : ∀ b ∈ fa ++ (a :: f1 ++ fb), b ∈ f1 ∨ b ∈ g := fun b hb => by
    simp only [List.mem_append, List.mem_cons] at hb
    rcases hb with w | (w | w) | w
    · exact .inr (mrest b (List.mem_append_left _ w))
    · exact .inr (w ▸ mfi a (List.mem_cons_self ..))
    · exact .inl w
    · exact .inr (mrest b (List.mem_append_right _ w))
  have src : ∀ b ∈ f1 ++ fz, b ∈ g ∨ b ∈ fr := fun b hb => (List.mem_append.mp (sub b hb)).imp (fun w => mfi b (List.mem_cons_of_mem _ w)) id
  have notF : ∀ b ∈ f1 ++ fz, ¬ F' b := fun b hb => (src b hb).elim (fun w => q.ho.dis b w) fun w => (q.dj b w).2
  refine ⟨fa ++ (a :: f1 ++ fb), ⟨⟨fun b u eb n => ?_, fun b w => ?_, q.st.mono, q.st.nF, fun b hb => ?_⟩, ⟨re, nd3, fun b hb => (mem b hb).elim (fun w => notF b (List.mem_append_left _ w)) (q.ho.dis b), fun b w z => ?_⟩, ?_, nz2, fun b hb => ⟨fun w => ?_, notF b (List.mem_append_right _ hb)⟩⟩⟩
  · have hne : b ≠ a := fun w => by
      subst w
      rcases q.st.nfp b (List.mem_append_right _ (mfi b (List.mem_cons_self ..))) with z | z
      · exact n z
      · rw [eb] at z; cases z
    rw [upd_ne hne]
    exact q.st.keep b u eb n
  · by_cases z : b = a
    · subst z; rw [upd_same] at w; cases w
    · rw [upd_ne z] at w; exact q.st.live b w
  · rcases List.mem_append.mp hb with w | w
    · rcases src b (List.mem_append_right _ w) with z | z
      · exact q.st.nfp b (List.mem_append_right _ z)
      · exact q.st.nfp b (List.mem_append_left _ z)
    · rcases mem b w with z | z
      · rcases src b (List.mem_append_left _ z) with z | z
        · exact q.st.nfp b (List.mem_append_right _ z)
        · exact q.st.nfp b (List.mem_append_left _ z)
      · exact q.st.nfp b (List.mem_append_right _ z)
  · by_cases n : b = a
    · subst n; rw [upd_same] at z; cases z
    · rw [upd_ne n] at z; exact q.ho.fx b w z
  · exact Rep.keep kw (fun _ z => z) dz z fz rz fun b hb w => (sub2 b (List.mem_append_right _ hb)).1 w
  · simp only [List.mem_append, List.mem_cons] at w
    have sb := sub2 b (List.mem_append_right _ hb)
    rcases w with w | (w | w) | w
    · exact sb.2 (List.mem_append_left _ w)
    · exact sb.1 w
    · exact nz3 b w b hb rfl
    · exact sb.2 (List.mem_append_right _ w)
/-- nothing at hand -/
theorem Hold.res (ho : Hold K F H env σ fp) : Res K F fp H F H env σ (.tmp .non) .non [] fp := ⟨.refl, ho, (rep_non (K := K) (F := F) (H := H) :), List.nodup_nil, fun a ha => absurd ha (List.not_mem_nil)⟩
end

/-! ### lists -/
def lstAt (env : Ev) (i : Nat) (k : List D → Prop) : Prop := match gv env i with
  | some (.lst true xs) => k xs
  | _ => False
theorem lstAt_of {env : Ev} {i : Nat} {k : List D → Prop} (h : lstAt env i k) : ∃ xs, gv env i = some (.lst true xs) ∧ k xs := by
  unfold lstAt at h
  split at h
  · rename_i xs e; exact ⟨xs, e, h⟩
  · exact h.elim
section
variable {K : PySem.W.Frag} {F F' : Addr → Prop} {H H' : Hp} {env : Ev} {σ : Sg} {fp fr g : List Addr} {d : D} {y : V} {i : Nat}
theorem wr_lst {xs : List D} (q : Res K F fp H F' H' env σ (.tmp d) y fr g) (e : gv env i = some (.lst true xs)) :
    ∃ a vs fi, σ[i]? = some (some (.ref a)) ∧ H' a = some (.lst vs) ∧ RepL K F' H' xs vs fi ∧ (fi ++ fr).Nodup ∧
      ∀ (xs' : List D) (vs' : List V) (f1 : List Addr) (dz : D) (z : V) (fz : List Addr), RepL K F' H' xs' vs' f1 → Rep K F' H' dz z fz → (f1 ++ fz).Nodup → (∀ b ∈ f1 ++ fz, b ∈ fi ++ fr) →
        ∃ g', Res K F fp H F' (upd H' a (.lst vs')) (env.set i (some (.lst true xs'))) σ (.tmp dz) z fz g' := by
  obtain ⟨a, fi, es, rp, nd, k⟩ := wr_go q e rfl
  simp only [Rep] at rp
  obtain ⟨a', vs, f', ea, ef, ha, rl⟩ := rp
  cases ea
  cases ef
  obtain ⟨hna, nd2⟩ := List.nodup_cons.mp nd
  refine ⟨a, vs, fi, es, ha, rl, nd2, fun xs' vs' f1 dz z fz rl' rz nz sub => k (.lst vs') (.lst true xs') f1 dz z fz True.intro (fun H2 kw e2 => ?_) rz nz sub⟩
  simp only [Rep]
  exact ⟨a, vs', f1, rfl, rfl, e2, rl'.keep kw (fun _ z => z) fun b hb w => hna (w ▸ sub b (List.mem_append_left _ hb))⟩
end
theorem RepL.set {K : PySem.W.Frag} {F : Addr → Prop} {H : Hp} : ∀ {xs : List D} {vs : List V} {f : List Addr} {d : D} {y : V} {fr : List Addr} (j : Nat), RepL K F H xs vs f → Rep K F H d y fr → j < xs.length → (f ++ fr).Nodup →
    ∃ f1, RepL K F H (xs.set j d) (vs.set j y) f1 ∧ f1.Nodup ∧ ∀ b ∈ f1, b ∈ f ++ fr
  | [], vs, f, d, y, fr, j, h, r, hj, nd => by simp at hj
  | x :: xs, vs, f, d, y, fr, 0, h, r, hj, nd => by
    obtain ⟨v, t, f1, f2, rfl, rfl, h1, h2⟩ := h.inv
    refine ⟨fr ++ f2, .cons r h2, ?_, fun b hb => ?_⟩
    · rw [List.nodup_append] at nd ⊢
      obtain ⟨n1, n2, n3⟩ := nd
      exact ⟨n2, (List.nodup_append.mp n1).2.1, fun a ha b hb e => n3 b (List.mem_append_right _ hb) a ha e.symm⟩
    · rcases List.mem_append.mp hb with z | z <;> simp [z]
  | x :: xs, vs, f, d, y, fr, j + 1, h, r, hj, nd => by
    obtain ⟨v, t, f1, f2, rfl, rfl, h1, h2⟩ := h.inv
    have nd' : (f1 ++ (f2 ++ fr)).Nodup := by simpa using nd
    obtain ⟨n1, n2, n3⟩ := List.nodup_append.mp nd'
    obtain ⟨f3, r3, n4, s3⟩ := RepL.set j h2 r (by simpa using hj) n2
    refine ⟨f1 ++ f3, by simpa using RepL.cons h1 r3, List.nodup_append.mpr ⟨n1, n4, fun a ha b hb e => n3 a ha b (s3 b hb) e⟩, fun b hb => ?_⟩
    rcases List.mem_append.mp hb with z | z
    · simp [z]
    · have := s3 b z
      simp only [List.mem_append] at this ⊢
      rcases this with w | w <;> simp [w]
theorem RepL.take_out {K : PySem.W.Frag} {F : Addr → Prop} {H : Hp} : ∀ {xs : List D} {vs : List V} {f : List Addr} {d : D} (j : Nat), RepL K F H xs vs f → xs[j]? = some d → f.Nodup →
    ∃ v f1 f2, vs[j]? = some v ∧ RepL K F H (xs.eraseIdx j) (vs.eraseIdx j) f1 ∧ Rep K F H d v f2 ∧ (f1 ++ f2).Nodup ∧ ∀ b ∈ f1 ++ f2, b ∈ f
  | [], vs, f, d, j, h, e, nd => by simp at e
  | x :: xs, vs, f, d, 0, h, e, nd => by
    obtain ⟨v, t, f1, f2, rfl, rfl, h1, h2⟩ := h.inv
    have e' : x = d := by simpa using e
    subst e'
    obtain ⟨n1, n2, n3⟩ := List.nodup_append.mp nd
    exact ⟨v, f2, f1, rfl, h2, h1, List.nodup_append.mpr ⟨n2, n1, fun a ha b hb e => n3 b hb a ha e.symm⟩, fun b hb => by rcases List.mem_append.mp hb with z | z <;> simp [z]⟩
  | x :: xs, vs, f, d, j + 1, h, e, nd => by
    obtain ⟨v, t, f1, f2, rfl, rfl, h1, h2⟩ := h.inv
    obtain ⟨n1, n2, n3⟩ := List.nodup_append.mp nd
    obtain ⟨w, g1, g2, e1, r1, r2, n4, s4⟩ := RepL.take_out j h2 (by simpa using e) n2
    refine ⟨w, f1 ++ g1, g2, by simpa using e1, by simpa using RepL.cons h1 r1, r2, ?_, fun b hb => ?_⟩
    · rw [List.append_assoc]
      exact List.nodup_append.mpr ⟨n1, n4, fun a ha b hb e => n3 a ha b (s4 b hb) e⟩
    · simp only [List.mem_append] at hb ⊢
      rcases hb with (z | z) | z
      · exact .inl z
      · exact .inr (s4 b (List.mem_append_left _ z))
      · exact .inr (s4 b (List.mem_append_right _ z))
section
variable {X : Cx} {G : Gh} {e a b : Expr} {es : List Expr} {w wa wb : W1} {i : Nat} {x : Str} {p apos cpos pos : Pos}
theorem tyV_lst {K : PySem.W.Frag} {H : Hp} {a : Addr} {vs : List V} (h : H a = some (.lst vs)) : tyV K "list" (.ref a) H := .inl ⟨rfl, vs, .of h⟩
/-- what a method of a list in a slot is: the arguments' reading, the operation on the held list -/
structure LmOk (X : Cx) (id : String) (k : List D → List D → (List D → D → Prop) → Prop) : Prop where
  ex : ∃ r, MtR X id r ∧ ∀ (F : Addr → Prop) (H : Hp) (xs ds : List D) (a : Addr) (vs ys : List V) (fi fr : List Addr) (Φ : List D → D → Prop) (Q : VK), (∀ b, F b → H b ≠ none) → H a = some (.lst vs) → RepL X.K F H xs vs fi → RepL X.K F H ds ys fr → (fi ++ fr).Nodup → k xs ds Φ →
    (∀ xs' vs' f1 dz z fz, Φ xs' dz → RepL X.K F H xs' vs' f1 → Rep X.K F H dz z fz → (f1 ++ fz).Nodup → (∀ b ∈ f1 ++ fz, b ∈ fi ++ fr) → Q z (upd H a (.lst vs'))) → r (.ref a) ys H Q
/-- no argument -/
def wM0 (i : Nat) (k : List D → List D → (List D → D → Prop) → Prop) : W1 := fun env Φ => lstAt env i fun xs => k xs [] fun xs' dz => Φ (.tmp dz) (env.set i (some (.lst true xs')))
theorem de_m0 {name : Str} {id : String} {k : List D → List D → (List D → D → Prop) → Prop} (m : LmOk X id k) (hN : X.N[i]? = some x) (hv : Vis X.env.scope x) (slot : Slot "list" name id) (pa : PlainAttrs "list" := by first | exact PySem.F.plainAttrs_list | assumption)
    (hty : typeOf (.builtin id) = pure (.type "method_descriptor") := by rfl) (hd : (x == ("__debug__" : Str)) = false := by decide) (hcd : (x == ("__classdict__" : Str)) = false := by decide)
    (hbase : attributeBase (.Name x p) name X.env (eval (.Name x p) X.env) = eval (.Name x p) X.env := by rfl) (hline : (apos.endLine == cpos.line) = true := by rfl) :
    DE X G (.Call (.Attribute (.Name x p) name apos) [] [] cpos) (wM0 i k) := by
  obtain ⟨r, h1, h2⟩ := m.ex
  refine ⟨pe_imp (pe_bm0 pa slot hty h1 (pe_var (pos := p) hN hv hd hcd) hbase hline) fun σ H Q ⟨env, F, fp, Φ, ho, en, hw, kk⟩ => ?_⟩
  obtain ⟨xs, ei, hk⟩ := lstAt_of hw
  obtain ⟨a, vs, fi, es, ha, rl, nd, k2⟩ := wr_lst ho.res ei
  refine ⟨.ref a, es, tyV_lst ha, h2 F H xs [] a vs [] fi [] _ Q ho.fx ha rl .nil nd hk fun xs' vs' f1 dz z fz hΦ r1 r2 n1 s1 => ?_⟩
  obtain ⟨g', q⟩ := k2 xs' vs' f1 dz z fz r1 r2 n1 s1
  exact kk _ _ hΦ z _ F fz g' q
/-- one argument; m: it is moved rather than frozen -/
def capM (m : Bool) (env : Ev) (r : R) (k : D → Ev → Prop) : Prop := if m = true then mov env r k else cap env r k
theorem capM_go {K : PySem.W.Frag} {F F' : Addr → Prop} {H H' : Hp} {fp fpr fp' : List Addr} {env : Ev} {σ : Sg} {r : R} {x : V} {k : D → Ev → Prop} {m : Bool} (q : Res K F fp H F' H' env σ r x fpr fp') (h : capM m env r k) :
    ∃ d e2 F2 f2 g2, k d e2 ∧ Res K F fp H F2 H' e2 σ (.tmp d) x f2 g2 := by
  unfold capM at h
  split at h
  · obtain ⟨d, e2, f2, g2, h1, h2⟩ := mov_go q h
    exact ⟨d, e2, F', f2, g2, h1, h2⟩
  · exact cap_go q h
def wM1 (m : Bool) (i : Nat) (k : List D → List D → (List D → D → Prop) → Prop) (w : W1) : W1 := fun env Φ => lstAt env i fun _ => w env fun r e1 => capM m e1 r fun d e2 => lstAt e2 i fun xs => k xs [d] fun xs' dz => Φ (.tmp dz) (e2.set i (some (.lst true xs')))
theorem de_m1 {m : Bool} {name : Str} {id : String} {k : List D → List D → (List D → D → Prop) → Prop} (mm : LmOk X id k) (hN : X.N[i]? = some x) (hv : Vis X.env.scope x) (slot : Slot "list" name id) (he : DE X G e w) (pa : PlainAttrs "list" := by first | exact PySem.F.plainAttrs_list | assumption)
    (hty : typeOf (.builtin id) = pure (.type "method_descriptor") := by rfl) (hd : (x == ("__debug__" : Str)) = false := by decide) (hcd : (x == ("__classdict__" : Str)) = false := by decide)
    (hbase : attributeBase (.Name x p) name X.env (eval (.Name x p) X.env) = eval (.Name x p) X.env := by rfl)
    (hfew : ((backTo cpos (starEach [e] X.env)).all (fun x => !x.1) && (backToKw cpos (keywordEach [] X.env)).all (fun x => x.1.isSome)
      && decide ([e].length + ([] : List Keyword).length + (if ([] : List Keyword).isEmpty then 0 else 1) < 30)) = true := by rfl)
    (hline : (apos.endLine == cpos.line) = true := by rfl) (hs : starEach [e] X.env = (false, eval e X.env) :: starEach [] X.env := by rfl) (hplain : (backTo cpos (starEach [] X.env)).any (·.1) = false := by rfl) :
    DE X G (.Call (.Attribute (.Name x p) name apos) [e] [] cpos) (wM1 m i k w) := by
  obtain ⟨r, h1, h2⟩ := mm.ex
  refine ⟨pe_imp (pe_bm pa slot hty h1 (pe_var (pos := p) hN hv hd hcd) (pa_cons he.pe pa_nil hs) hbase hfew hline hs hplain) fun σ H Q ⟨env, F, fp, Φ, ho, en, hw, kk⟩ => ?_⟩
  obtain ⟨xs0, ei0, hk0⟩ := lstAt_of hw
  obtain ⟨a0, vs0, fi0, es0, ha0, rl0, nd0, _⟩ := wr_lst ho.res ei0
  refine ⟨.ref a0, es0, tyV_lst ha0, env, F, fp, _, ho, en, hk0, fun r1 e1 h3 y H1 F1 f1 g1 q1 => ?_⟩
  obtain ⟨d, e2, F2, f2, g2, h4, q2⟩ := capM_go q1 h3
  obtain ⟨xs, ei, hk⟩ := lstAt_of h4
  obtain ⟨a, vs, fi, es, ha, rl, nd, k2⟩ := wr_lst q2 ei
  rw [es0] at es
  cases es
  have rd : RepL X.K F2 H1 [d] [y] (f2 ++ []) := .cons q2.rp .nil
  rw [List.append_nil] at rd
  refine h2 F2 H1 xs [d] a0 vs [y] fi f2 _ Q q2.ho.fx ha rl rd nd hk fun xs' vs' f1 dz z fz hΦ r1 r2 n1 s1 => ?_
  obtain ⟨g', q⟩ := k2 xs' vs' f1 dz z fz r1 r2 n1 s1
  exact kk _ _ hΦ z _ F2 fz g' q
end
/-! the methods -/
section
variable {X : Cx}
def appK : List D → List D → (List D → D → Prop) → Prop := fun xs ds Φ => match ds with
  | [d] => xs.length < sizeLine ∧ Φ (xs ++ [d]) .non
  | _ => False
theorem lm_append : LmOk X "list.append" appK := by
  refine ⟨rAppend, mt_append, fun F H xs ds a vs ys fi fr Φ Q fx ha rl rd nd hk kk => ?_⟩
  unfold appK at hk
  split at hk
  · rename_i d
    obtain ⟨y, r, f1, f2, rfl, rfl, r1, r2⟩ := rd.inv
    obtain ⟨rfl, rfl⟩ := r2.inv0
    rw [List.append_nil] at *
    exact ⟨a, vs, y, rfl, rfl, ha, by rw [← rl.len]; exact hk.1, kk _ _ (fi ++ f1) .non .non [] hk.2 (by simpa using RepL.append rl (RepL.cons r1 RepL.nil)) rep_non (by simpa using nd) (fun b hb => by simpa using hb)⟩
  · exact hk.elim
def popK : List D → List D → (List D → D → Prop) → Prop := fun xs ds Φ => match ds with
  | [] => match xs[xs.length - 1]? with
    | some d => Φ (xs.eraseIdx (xs.length - 1)) d
    | none => False
  | [.int j] => (-(2 ^ 63) ≤ j ∧ j < 2 ^ 63) ∧ match seqIndex? j xs.length with
    | some k => match xs[k]? with
      | some d => Φ (xs.eraseIdx k) d
      | none => False
    | none => False
  | _ => False
theorem erase_last {α : Type} (xs : List α) : xs.eraseIdx (xs.length - 1) = xs.dropLast := by
  cases h : xs with
  | nil => rfl
  | cons a t => rw [List.eraseIdx_length_sub_one]
theorem lm_pop : LmOk X "list.pop" popK := by
  refine ⟨_, MtR.or mt_pop mt_popAt, fun F H xs ds a vs ys fi fr Φ Q fx ha rl rd nd hk kk => ?_⟩
  unfold popK at hk
  split at hk
  · obtain ⟨rfl, rfl⟩ := rd.inv0
    split at hk
    · rename_i d ed
      obtain ⟨v, f1, f2, ev, r1, r2, n1, s1⟩ := RepL.take_out _ rl ed (by simpa using nd)
      have ev' : vs[vs.length - 1]? = some v := by rw [← rl.len]; exact ev
      refine .inl ⟨a, vs, v, rfl, rfl, ha, ev', ?_⟩
      rw [← erase_last, ← rl.len]
      exact kk _ _ f1 d v f2 hk r1 r2 n1 fun b hb => by simpa using s1 b hb
    · exact hk.elim
  · rename_i j
    obtain ⟨y, r, f1, f2, rfl, rfl, r1, r2⟩ := rd.inv
    obtain ⟨rfl, rfl⟩ := r2.inv0
    obtain ⟨hb, hk⟩ := hk
    split at hk
    · rename_i k ek
      split at hk
      · rename_i d ed
        have nd' : fi.Nodup := (List.nodup_append.mp nd).1
        obtain ⟨v, f3, f4, ev, r3, r4, n1, s1⟩ := RepL.take_out _ rl ed nd'
        refine .inr ⟨a, vs, j, k, v, rfl, by rw [r1.int_v], ha, hb.1, hb.2, by rw [← rl.len]; exact ek, ev, ?_⟩
        exact kk _ _ f3 d v f4 hk r3 r4 n1 fun b hb => List.mem_append_left _ (s1 b hb)
      · exact hk.elim
    · exact hk.elim
  · exact hk.elim
def clearK : List D → List D → (List D → D → Prop) → Prop := fun xs ds Φ => match ds with
  | [] => Φ [] .non
  | _ => False
theorem lm_clear : LmOk X "list.clear" clearK := by
  refine ⟨_, mt_clear, fun F H xs ds a vs ys fi fr Φ Q fx ha rl rd nd hk kk => ?_⟩
  unfold clearK at hk
  split at hk
  · obtain ⟨rfl, rfl⟩ := rd.inv0
    exact ⟨a, vs, rfl, rfl, ha, kk [] [] [] .non .non [] hk .nil rep_non List.nodup_nil fun b hb => by simp at hb⟩
  · exact hk.elim
end
end Vd

set_option Elab.async false
set_option linter.all false
set_option maxRecDepth 100000
set_option maxHeartbeats 4000000
/-! Vd, part 12: stores into lists; list.count. -/
namespace Vd
open PySem PySem.Spec PyProof.Rows L2

section
variable {X : Cx} {G : Gh} {e a b : Expr} {w wi : W1} {i : Nat} {x : Str} {p tpos pos : Pos}
/-- name[index] = value, the name's list -/
def wPutL (m : Bool) (i : Nat) (wi w : W1) : WS := fun D env => w env fun r e1 => lstAt e1 i fun _ => wi e1 fun ri e2 => isI e2 ri fun j => capM m e2 r fun d e3 => lstAt e3 i fun xs => match ixN xs.length j with
  | some n => D.nx (e3.set i (some (.lst true (xs.set n d))))
  | none => False
theorem ds_putL {m : Bool} (hN : X.N[i]? = some x) (hv : Vis X.env.scope x) (he : DE X G e w) (hi : DE X G b wi) (hd : (x == ("__debug__" : Str)) = false := by decide) (hcd : (x == ("__classdict__" : Str)) = false := by decide)
    (ha : ∀ v, assign (.Subscript (.Name x p) b tpos) X.env v = (do
      let ov ← holding [v] (eval (.Name x p) X.env)
      let iv ← holding [v, ov] (eval b X.env)
      standAt tpos
      holding [v, ov, iv] (setItem ov iv v)
      release [v, ov, iv] []) := by intro _; rfl)
    (hs : swapsWithSole [.Subscript (.Name x p) b tpos] e pos.line X.env = pure false := by rfl) (hw : swappedStores [.Subscript (.Name x p) b tpos] e X.env = pure none := by rfl)
    (h1 : (assignEach [.Subscript (.Name x p) b tpos] X.env).map (·.2) = [assign (.Subscript (.Name x p) b tpos) X.env] := by rfl) : DS X G (.Assign [.Subscript (.Name x p) b tpos] e pos) (wPutL m i wi w) := by
  refine ⟨ps_imp (ps_asg he.pe (pg_sub (pe_var (pos := p) hN hv hd hcd) hi.pe set_list ha) hs hw h1) fun D σ H ⟨env, F, fp, Dd, ho, en, hw, ad⟩ => ?_⟩
  refine ⟨env, F, fp, _, ho, en, hw, fun r e1 h1 y H1 F1 f1 g1 r1 => ?_⟩
  obtain ⟨xs0, ei0, h2⟩ := lstAt_of h1
  obtain ⟨v0, f0, es0, _, _⟩ := r1.ho.rep.get ei0
  have en1 := en.go (res_drop r1) fun _ h => h
  refine ⟨v0, es0, e1, F1, g1, _, r1.ho, en1, h2, fun ri e2 h3 z H2 F2 f2 g2 r2 => ?_⟩
  obtain ⟨j, ej, h4⟩ := isI_of r2.ho r2.rp h3
  -- the value beside
  have C := ResL.cons r1 (ResL.cons r2 (ResL.nil r2.ho))
  obtain ⟨x1, ys, q1, q2, ex, ef, rp1, _⟩ := C.rp
  obtain ⟨rfl, _⟩ := List.cons.inj ex
  have R1 : Res X.K F fp H F2 H2 e2 σ r y q1 g2 := ⟨C.st.less fun a ha => (List.mem_append.mp ha).elim (fun w => by rw [ef]; simp [w]) fun w => List.mem_append_right _ w, C.ho, rp1, (List.nodup_append.mp (by rw [← ef]; exact C.nd)).1, fun a ha => C.dj a (by rw [ef]; simp [ha])⟩
  obtain ⟨d, e3, F3, f3, g3, h5, R2⟩ := capM_go R1 h4
  obtain ⟨xs, ei, h6⟩ := lstAt_of h5
  obtain ⟨a, vs, fi, es, hat, rl, nd, k2⟩ := wr_lst R2 ei
  rw [es0] at es
  have ev : v0 = .ref a := Option.some.inj (Option.some.inj es)
  split at h6
  · rename_i n en2
    obtain ⟨_, hn, _⟩ := ixN_seq en2
    obtain ⟨f4, r4, n4, s4⟩ := RepL.set n rl R2.rp hn nd
    obtain ⟨g', q⟩ := k2 (xs.set n d) (vs.set n y) f4 .non .non [] r4 rep_non (by simpa using n4) (fun c hc => s4 c (by simpa using hc))
    refine ⟨a, vs, j, n, ev, ej, hat, by rw [← rl.len]; exact en2, ?_⟩
    exact ad.nx _ σ _ F3 g' q.ho (en.go (res_drop q) fun _ h => h) h6
  · exact h6.elim
end
/-! ### methods that only read -/
def tyD (T : String) : D → Bool
  | .lst _ _ => decide (T = "list")
  | .str _ => decide (T = "str")
  | .int _ => decide (T = "int")
  | .dik _ _ => decide (T = "dict")
  | .dit _ _ => decide (T = "dict")
  | _ => false
theorem tyD_of {K : PySem.W.Frag} {F : Addr → Prop} {H : Hp} {T : String} {d : D} {x : V} {f : List Addr} (r : Rep K F H d x f) (h : tyD T d = true) (hd : ∀ o k, d ≠ .dik o k) (hd2 : ∀ o k, d ≠ .dit o k) : tyV K T x H := by
  cases d with
  | lst o xs => obtain ⟨a, vs, g, rfl, h1, _⟩ := r.lst_v; exact .inl ⟨by simpa [tyD] using h, vs, .inl h1⟩
  | str z => rw [r.str_v]; show T = "str"; simpa [tyD] using h
  | int z => rw [r.int_v]; show T = "int"; simpa [tyD] using h
  | dik o k => exact absurd rfl (hd o k)
  | dit o k => exact absurd rfl (hd2 o k)
  | _ => simp [tyD] at h
abbrev KM := D → List D → (D → Prop) → Prop
structure PmOk (X : Cx) (T : String) (id : String) (k : KM) : Prop where
  ex : ∃ r, MtR X id r ∧ (∀ d, tyD T d = true → (∀ o k, d ≠ .dik o k) ∧ ∀ o k, d ≠ .dit o k) ∧ ∀ (F : Addr → Prop) (H : Hp) (d0 : D) (ds : List D) (x : V) (xs : List V) (f : List Addr) (Φ : D → Prop) (Q : VK), (∀ a, F a → H a ≠ none) → Rep X.K F H d0 x f → PureR.RepL' X.K F H ds xs → k d0 ds Φ →
    (∀ d, Φ d → ∀ z H' fpz, New H H' fpz → Rep X.K F H' d z fpz → Q z H') → r x xs H Q
def wBM (T : String) (k : KM) (wo : W1) (ws : WL) : W1 := fun env Φ => wo env fun r0 e1 => match gr e1 r0 with
  | some d0 => tyD T d0 = true ∧ ws e1 fun rs e2 => match gr e2 r0, grs e2 rs with
    | some d0', some ds => k d0' ds fun d => Φ (.tmp d) e2
    | _, _ => False
  | none => False
section
variable {X : Cx} {G : Gh} {e o : Expr} {es : List Expr} {wo : W1} {ws : WL} {T id : String} {k : KM} {name : Str} {apos cpos : Pos}
theorem de_bm (mm : PmOk X T id k) (slot : Slot T name id) (pa : PlainAttrs T) (ho : DE X G o wo) (hes : DA X G (e :: es) ws) (hty : typeOf (.builtin id) = pure (.type "method_descriptor") := by rfl)
    (hbase : attributeBase o name X.env (eval o X.env) = eval o X.env := by rfl)
    (hfew : ((backTo cpos (starEach (e :: es) X.env)).all (fun x => !x.1) && (backToKw cpos (keywordEach [] X.env)).all (fun x => x.1.isSome)
      && decide ((e :: es).length + ([] : List Keyword).length + (if ([] : List Keyword).isEmpty then 0 else 1) < 30)) = true := by rfl)
    (hline : (apos.endLine == cpos.line) = true := by rfl) (hs : starEach (e :: es) X.env = (false, eval e X.env) :: starEach es X.env := by rfl) (hplain : (backTo cpos (starEach es X.env)).any (·.1) = false := by rfl) :
    DE X G (.Call (.Attribute o name apos) (e :: es) [] cpos) (wBM T k wo ws) := by
  obtain ⟨r, h1, hnd, h2⟩ := mm.ex
  refine ⟨pe_imp (pe_bm pa slot hty h1 ho.pe hes.pa hbase hfew hline hs hplain) fun σ H Q ⟨env, F, fp, Φ, ho, en, hw, kk⟩ => ?_⟩
  refine ⟨env, F, fp, _, ho, en, hw, fun r0 e1 h3 x H1 F1 f1 g1 q1 => ?_⟩
  split at h3
  · rename_i d0 ed0
    obtain ⟨gg, rd0, _⟩ := q1.rp.get q1.ho ed0
    refine ⟨tyD_of rd0 h3.1 (hnd _ h3.1).1 (hnd _ h3.1).2, e1, F1, g1, _, q1.ho, en.go (res_drop q1) fun _ h => h, h3.2, fun rs e2 h4 xs H2 F2 f2 g2 q2 => ?_⟩
    have C := ResL.cons q1 q2
    split at h4
    · rename_i d0' ds ed0' eds
      obtain ⟨x', ys, p1, p2, ex, ef, rp1, rp2⟩ := C.rp
      obtain ⟨rfl, rfl⟩ := List.cons.inj ex
      obtain ⟨gg2, rd0', _⟩ := rp1.get q2.ho ed0'
      refine h2 F2 H2 d0' ds x xs gg2 _ Q q2.ho.fx rd0' (repRs_get q2.ho rp2 eds) h4 fun d hd z H' fpz n rz => ?_
      have q := res_tmp q2.ho n rz
      exact kk _ _ hd z H' F2 fpz g2 ⟨C.st.trans (fun a ha => List.mem_append_right _ ha) q.st, q.ho, q.rp, q.nd, q.dj⟩
    · exact h4.elim
  · exact h3.elim
theorem de_bm0 (mm : PmOk X T id k) (slot : Slot T name id) (pa : PlainAttrs T) (ho : DE X G o wo) (hty : typeOf (.builtin id) = pure (.type "method_descriptor") := by rfl)
    (hbase : attributeBase o name X.env (eval o X.env) = eval o X.env := by rfl) (hline : (apos.endLine == cpos.line) = true := by rfl) :
    DE X G (.Call (.Attribute o name apos) [] [] cpos) (wBM T k wo wNil) := by
  obtain ⟨r, h1, hnd, h2⟩ := mm.ex
  refine ⟨pe_imp (pe_bm0 pa slot hty h1 ho.pe hbase hline) fun σ H Q ⟨env, F, fp, Φ, ho, en, hw, kk⟩ => ?_⟩
  refine ⟨env, F, fp, _, ho, en, hw, fun r0 e1 h3 x H1 F1 f1 g1 q1 => ?_⟩
  split at h3
  · rename_i d0 ed0
    obtain ⟨gg, rd0, _⟩ := q1.rp.get q1.ho ed0
    refine ⟨tyD_of rd0 h3.1 (hnd _ h3.1).1 (hnd _ h3.1).2, ?_⟩
    have h4 := h3.2
    simp only [wNil, grs, ed0] at h4
    refine h2 F1 H1 d0 [] x [] gg _ Q q1.ho.fx rd0 rfl h4 fun d hd z H' fpz n rz => ?_
    have q := res_tmp q1.ho n rz
    exact kk _ _ hd z H' F1 fpz g1 ⟨q1.st.trans (fun a ha => List.mem_append_right _ ha) q.st, q.ho, q.rp, q.nd, q.dj⟩
  · exact h3.elim
theorem noD_list : ∀ d, tyD "list" d = true → (∀ o k, d ≠ .dik o k) ∧ ∀ o k, d ≠ .dit o k := by
  intro d h
  cases d <;> simp_all [tyD]
/-! xs.count(k), ints -/
def cntK : KM := fun d ds Φ => match d, ds with
  | .lst _ xs, [.int k] => match toInts xs with
    | some ns => Φ (.int (ns.count k : Nat))
    | none => False
  | _, _ => False
theorem pm_count : PmOk X "list" "list.count" cntK := by
  refine ⟨_, mt_lcount, noD_list, fun F H d0 ds x xs f Φ Q fx r0 rl hk kk => ?_⟩
  unfold cntK at hk
  split at hk
  · rename_i o xs0 k
    obtain ⟨a, vs, g, rfl, h1, l1, _⟩ := r0.lst_v
    obtain ⟨y, ys, f1, rfl, r1, e⟩ := rl
    subst e
    split at hk
    · rename_i ns en
      have e := toInts_v l1 en
      subst e
      exact ⟨a, ns, k, rfl, by rw [r1.int_v], .inl h1, kk _ hk _ H [] .refl rep_int⟩
    · exact hk.elim
  · exact hk.elim
end
end Vd

set_option Elab.async false
set_option linter.all false
set_option maxRecDepth 100000
set_option maxHeartbeats 4000000
/-! Vd, part 13: defs by name. -/
namespace Vd
open PySem PySem.Spec PyProof.Rows L2

/-- a def of the text that stands under its name -/
def DfAt (K : PySem.W.Frag) (mg : Str → Option Value) (x : Str) (st : Stmt) : Prop := ∃ f fd, FunD K x x (defArgs st) (defBody st) (defScope st) [] [] f fd ∧ mg x = some (.ref f)
/-- a def that keeps a promise on data, under its name -/
structure DOk (P : Program) (w : World) (K : PySem.W.Frag) (mg : Str → Option Value) (base : Heap) (k : Nat) (x : Str) (n : Nat) (ms : List Bool) (sp : SpD) (dvs : List D) : Prop where
  ex : ∃ f fd ps ds dvv, FnOk P w K mg base (L2N.CX P w) k f fd ps (spH K ms sp) ∧ mg x = some (.ref f) ∧ PySem.W.keepIn K (.ref f) = true ∧ Binds K fd ps ds ∧ Vals dvv ds ∧ (∀ F H, RepL K F H dvs dvv []) ∧ ms.length = n
theorem sel_app : ∀ {ms : List Bool} {xs : List V} {ys : List V}, ms.length = xs.length → sel ms (xs ++ ys) = sel ms xs
  | [], [], ys, h => by cases ys <;> rfl
  | [], _ :: _, ys, h => by simp at h
  | _ :: _, [], ys, h => by simp at h
  | true :: ms, x :: xs, ys, h => by
    show x :: sel ms (xs ++ ys) = x :: sel ms xs
    rw [sel_app (by simpa using h)]
  | false :: ms, x :: xs, ys, h => by
    show sel ms (xs ++ ys) = sel ms xs
    rw [sel_app (by simpa using h)]
section
variable {X : Cx} {G : Gh} {EW : EWt} {ws : WL} {ms : List Bool} {sp : SpD} {k n : Nat} {x : Str} {p pos : Pos} {e : Expr} {es : List Expr}
/-- x(e, ..), no defaults -/
theorem de_fn (d : DOk X.prog X.w X.K X.mg X.base k x n ms sp []) (hr : Room k X.A) (hg : Gl X x) (tk : Tk X G EW) (ha : DA X G (e :: es) ws) (hdb : (x == ("__debug__" : Str)) = false := by decide)
    (he : starEach (e :: es) X.env = (false, eval e X.env) :: starEach es X.env := by rfl) (hpl : (backTo pos (starEach es X.env)).any (·.1) = false := by rfl) :
    DE X G (.Call (.Name x p) (e :: es) [] pos) (wCall ms sp [] EW ws) := by
  obtain ⟨f, fd, ps, ds, dvv, F, hm, hk, hb, hd, hdd, _⟩ := d.ex
  have e0 : dvv = [] := by
    have := (hdd (fun _ => False) (fun _ => none)).inv0
    exact this.1
  subst e0
  exact de_call F hr hg hm hk hb hd hdd (fun xs => by rw [List.append_nil]) tk ha hdb he hpl
end
section
variable {P : Program} {w : World} {K : PySem.W.Frag} {mg : Str → Option Value} {base : Heap} {x : Str} {st : Stmt}
theorem dok_of {N ps : List Str} {k : Nat} {ms : List Bool} {sp : SpD} {wb : EWt → WS} (d : DfAt K mg x st) (S : FnScope N ps (defScope st)) (hm : ms.length = ps.length) (len : ∀ ds Q E, sp ds Q E → ds.length = ps.length)
    (hbind : ∀ (kV doc pm : Value) (an : Option Addr) (cdv ct : Value) (us : List Value), us.length = ps.length → bindArgs (PySem.W.fnOf x x (defArgs st) (defBody st) (defScope st) .none kV doc pm an cdv ct) ⟨us, []⟩ = pure (ps.zip us))
    (hb : ∀ (f : Addr) (cdv : Value) (A : Around) (outer : List Env) (s : Shared) (H : Hp) (E : XK) (G : Gh) (EW : EWt), Room k (A.deeper (envOfC x (defScope st) s.heap.objs.size f cdv)) → (∀ p ∈ G.pins, p.1 ∈ ixs ms 0) →
      Tk (cxOf (L2N.CX P w) P w K mg base N x (defScope st) f cdv A outer s H E) G EW → DSs (cxOf (L2N.CX P w) P w K mg base N x (defScope st) f cdv A outer s H E) G (defBody st) (wb EW))
    (hw : ∀ ds Q E, sp ds Q E → wb (fun c fs env => E c fs (outs ms env)) (dEnd ms Q) (startE N ds)) : DOk P w K mg base (k + 1) x ps.length ms sp [] := by
  obtain ⟨f, fd, F, hmg⟩ := d
  exact ⟨f, fd, ps, [], [], fd_ok F S hm len (hb f) hw, hmg, F.kp, F.bindsN hbind, .nil, fun _ _ => .nil, hm⟩
end
end Vd

set_option Elab.async false
set_option linter.all false
set_option maxRecDepth 100000
set_option maxHeartbeats 4000000
/-! Vd, part 14: freezing, isinstance of built-in types, list(range(..)), xs[::-1], in, sorted ints, enumerate. -/
namespace Vd
open PySem PySem.Spec
open PySem.Sem (wp)
open PySem.AutoSeq1 (wpAny_loadPart')
theorem meets_enumerate_newTu (l : Addr) (items : Array Value) (n : Nat) (dct : Option Addr) (sl : Array (Option Value)) :
    Meets (Builtin.«enumerate.__new__» ⟨[.type "enumerate", .ref l], []⟩) (fun _ R s => s.heap.get? l = some { cls := .type "tuple", dict := dct, data := .seq items n, slots := sl } ∧
      R (.ok (.ret (.ref (s.heap.push { cls := .type "tuple_iterator", data := .fields #[.ref l, .int 0 0] }).objs.size)))
        { s with heap := (s.heap.push { cls := .type "tuple_iterator", data := .fields #[.ref l, .int 0 0] }).push { cls := .type "enumerate", data := .fields #[.none, .bool false, .ref s.heap.objs.size, rawInt 0, .none, .none] } }) :=
  .of_wp fun prog w A R s h => by
    obtain ⟨hp, g, d, tk, os⟩ := s; obtain ⟨hl, h⟩ := h
    have hsub := sub_enumerate
    have hL : Heap.IsTuple (Shared.heap ⟨hp, g, d, tk, os⟩) l items := ⟨_, hl, rfl, n, rfl⟩
    wp_walk using wpAny_loadPart' hl
    refine wpAny_stack_any fun st => wpAny_pure ?_
    split
    · rename_i c _ _ _ _ _
      cases (c == Value.type "enumerate")
      · wp_walk using wpAny_loadPart' hl, wpAny_pyIter_tuple hL
        exact ⟨_, rfl, h⟩
      · wp_walk using wpAny_loadPart' hl, wpAny_pyIter_tuple hL
        exact ⟨_, rfl, h⟩
    · wp_walk using wpAny_loadPart' hl, wpAny_pyIter_tuple hL
      exact ⟨_, rfl, h⟩
section
variable {prog : Program} {w : World} {A : Around} {E : Value → Shared → Prop} {s : Shared}
theorem call_enumerate_tup {l : Addr} {items : Array Value} {Q : Value → Shared → Prop} (hL : s.heap.IsTuple l items)
    (h : ∀ h', IsEnum h' (s.heap.objs.size + 1) s.heap.objs.size 0 .none → h'.IsTupleIter s.heap.objs.size l 0 → h'.objs.size = s.heap.objs.size + 2 →
      (∀ b o, s.heap.get? b = some o → h'.get? b = some o) → Q (.ref (s.heap.objs.size + 1)) { s with heap := h' }) :
    wpAny (model prog w) A (call (.type "enumerate") [.ref l]) Q E s := by
  obtain ⟨⟨c, dct, dt, sl⟩, hl, hc, n, hd⟩ := hL
  replace hc : c = .type "tuple" := hc
  replace hd : dt = .seq items n := hd
  subst hc hd
  refine callType_new F.called_enumerate (by decide) (F.typeCall_enumerate_1 _) (F.newCall_enumerate_1 _) (fun obj => F.args_object_init_2 obj _) F.entry_enumerate_new
    (meets_enumerate_newTu l items n dct sl) ⟨hl, ?_⟩
  have hz : (s.heap.push { cls := .type "tuple_iterator", data := .fields #[.ref l, .int 0 0] }).objs.size = s.heap.objs.size + 1 := Heap.size_push ..
  show _ ∧ _
  rw [hz]
  have he : IsEnum ((s.heap.push { cls := .type "tuple_iterator", data := .fields #[.ref l, .int 0 0] }).push
      { cls := .type "enumerate", data := .fields #[.none, .bool false, .ref s.heap.objs.size, rawInt 0, .none, .none] }) (s.heap.objs.size + 1) s.heap.objs.size 0 .none := by
    have := Heap.get?_push_size (s.heap.push { cls := .type "tuple_iterator", data := .fields #[.ref l, .int 0 0] })
      (o := { cls := .type "enumerate", data := .fields #[.none, .bool false, .ref s.heap.objs.size, rawInt 0, .none, .none] }) rfl
    rw [hz] at this; exact this
  refine ⟨⟨_, he, rfl⟩, h _ he ⟨_, Heap.get?_push_of_some _ (Heap.get?_push_size _ rfl), rfl, rfl⟩ (by rw [Heap.size_push, hz]) fun b o x => Heap.get?_push_of_some _ (Heap.get?_push_of_some _ x)⟩
end
end Vd
namespace Vd
open PySem PySem.Spec PyProof.Rows L2

/-! ### a datum frozen where it comes -/
def wFz (w : W1) : W1 := fun env Φ => w env fun r e1 => capz e1 r fun d e2 => Φ (.tmp d) e2
section
variable {X : Cx} {G : Gh} {e o a b : Expr} {es : List Expr} {w wa wb : W1} {p p2 pos : Pos} {x : Str}
theorem de_fz (h : DE X G e w) : DE X G e (wFz w) := ⟨pe_imp h.pe fun σ H Q ⟨env, F, fp, Φ, ho, en, hw, k⟩ => ⟨env, F, fp, _, ho, en, hw, fun r e1 h1 y H1 F1 f1 g1 r1 => by
  obtain ⟨d, e2, F2, g2, hk, _, r2⟩ := capz_go r1 h1
  exact k _ _ hk y H1 F2 [] g2 r2⟩⟩

/-! ### isinstance of a built-in type -/
def tyN : D → Option String
  | .non => some "NoneType"
  | .bl _ => some "bool"
  | .int _ => some "int"
  | .str _ => some "str"
  | .tup _ => some "tuple"
  | .lst _ _ => some "list"
  | .scr _ => some "list"
  | _ => none
def tyB (T a : String) : Bool := decide (a = T) || (decide (T = "int") && decide (a = "bool"))
theorem tyN_of {K : PySem.W.Frag} {F : Addr → Prop} {H : Hp} {d : D} {x : V} {f : List Addr} {a : String} (r : Rep K F H d x f) (h : tyN d = some a) : TyX K H x (.type a) := by
  cases d with
  | non => rw [r.non_v]; cases (Option.some.inj h); exact .base .non
  | bl b => rw [r.bl_v]; cases (Option.some.inj h); exact .base (.bl _)
  | int b => rw [r.int_v]; cases (Option.some.inj h); exact .base (.int _)
  | str b => rw [r.str_v]; cases (Option.some.inj h); exact .base (.str _)
  | tup xs => obtain ⟨a, vs, rfl, h1, _⟩ := r.tup_h; cases (Option.some.inj h); exact .base (.tup h1)
  | lst o xs =>
    obtain ⟨a, vs, g, rfl, h1, _⟩ := r.lst_v
    cases (Option.some.inj h)
    rcases h1 with h1 | ⟨o, h1⟩
    · exact .base (.lst h1)
    · exact .base (.frz h1)
  | scr ns =>
    simp only [Rep] at r
    obtain ⟨a, rfl, _, h1⟩ := r
    cases (Option.some.inj h)
    rcases h1 with ⟨o, h1⟩ | ⟨o, its, n, h1, h2, _⟩
    · exact .base (.frz h1)
    · exact .kList h1 h2
  | _ => cases h
def isiD (T : String) (d : D) (k : Bool → Prop) : Prop := match tyN d with
  | some a => k (tyB T a)
  | none => False
def wIsi (T : String) (w : W1) : W1 := fun env Φ => w env fun r e1 => match gr e1 r with
  | some d => isiD T d fun b => Φ (.tmp (.bl b)) e1
  | none => False
def KitT (T : String) : Prop := ∀ a ∈ ["NoneType", "bool", "int", "str", "tuple", "list"], kitB a T = some (tyB T a)
theorem tyN_mem {d : D} {a : String} (h : tyN d = some a) : a ∈ ["NoneType", "bool", "int", "str", "tuple", "list"] := by
  cases d <;> first | (cases (Option.some.inj h); simp) | cases h
theorem kit_int : KitT "int" := by unfold KitT; decide +kernel
theorem kit_bool : KitT "bool" := by unfold KitT; decide +kernel
theorem kit_str : KitT "str" := by unfold KitT; decide +kernel
theorem kit_tuple : KitT "tuple" := by unfold KitT; decide +kernel
theorem kit_list : KitT "list" := by unfold KitT; decide +kernel
theorem de_isi {T : String} (kt : KitT T) (hg : Gl X "isinstance") (hm : X.mg "isinstance" = none) (hgT : Gl X x) (hmT : X.mg x = none) (hvT : bootBuiltins x = some (.type T)) (ha : DE X G e w) (hn : x ≠ "__name__" := by decide) (hd : (x == ("__debug__" : Str)) = false := by decide)
    (hs : starEach [e, .Name x p2] X.env = (false, eval e X.env) :: starEach [.Name x p2] X.env := by rfl) (hs2 : starEach [.Name x p2] X.env = (false, eval (.Name x p2) X.env) :: starEach [] X.env := by rfl) (hpl : (backTo pos (starEach [.Name x p2] X.env)).any (·.1) = false := by rfl) :
    DE X G (.Call (.Name "isinstance" p) [e, .Name x p2] [] pos) (wIsi T w) := by
  refine ⟨pe_imp (pe_callB call_isi hg hm PyProof.Rows.boot_isinstance (pa_cons ha.pe (pa_cons (pe_bltn (v := .ty T) hgT hmT hvT rfl hn hd) pa_nil hs2) hs) (he := hs) (hpl := hpl)) fun σ H Q ⟨env, F, fp, Φ, ho, en, hw, k⟩ => ?_⟩
  refine ⟨env, F, fp, _, ho, en, hw, fun r e1 h1 y H1 F1 f1 g1 r1 => ?_⟩
  split at h1
  · rename_i d ed
    obtain ⟨g, rp, _⟩ := r1.rp.get r1.ho ed
    unfold isiD at h1
    split at h1
    · rename_i a ea
      exact ⟨y, .ty T, .type a, .type T, tyB T a, rfl, .ty T, tyN_of rp ea, kit_ty (kt a (tyN_mem ea)), k _ _ h1 _ H1 F1 [] g1 (res_bl (res_drop r1) r1.ho)⟩
    · exact h1.elim
  · exact h1.elim

/-! ### list(range(..)), tuple(range(..)) -/
def wRgL (u : Bool) (lo hi : Int) (env : Ev) (Φ : R → Ev → Prop) : Prop := RgOk lo hi ∧ Φ (.tmp (if u = true then .tup (rgD lo (hi - lo).toNat) else .lst true (rgD lo (hi - lo).toNat))) env
def wRgq1 (u : Bool) (w : W1) : W1 := fun env Φ => w env fun r e1 => isI e1 r fun j => wRgL u 0 j e1 Φ
def wRgq2 (u : Bool) (wa wb : W1) : W1 := fun env Φ => wa env fun r e1 => isI e1 r fun i => wb e1 fun r2 e2 => isI e2 r2 fun j => wRgL u i j e2 Φ
theorem rep_rg {K : PySem.W.Frag} {F : Addr → Prop} {H : Hp} (lo : Int) : ∀ n : Nat, ∀ l : List Nat, RepL K F H (l.map fun i : Nat => D.int (lo + (i : Nat))) (l.map fun i : Nat => V.int (lo + (i : Nat))) []
  | n, [] => RepL.nil
  | n, a :: l => by simpa using RepL.cons (K := K) (F := F) (H := H) rep_int (rep_rg lo n l)
theorem noOwn_rg (lo : Int) (n : Nat) : noOwnL (rgD lo n) = true := by
  rw [noOwnL_iff]
  intro x hx
  simp only [rgD, List.mem_map] at hx
  obtain ⟨i, _, rfl⟩ := hx
  simp [noOwn]
theorem rgL_go {K : PySem.W.Frag} {F F1 : Addr → Prop} {H H1 : Hp} {fp g1 : List Addr} {e1 : Ev} {σ : Sg} {u : Bool} {lo hi : Int} {Φ : R → Ev → Prop} {Q : VK} (st : Stp F fp H F1 g1 H1) (ho : Hold K F1 H1 e1 σ g1) (h : wRgL u lo hi e1 Φ)
    (k : ∀ r env', Φ r env' → ∀ x H' F' fpr fp', Res K F fp H F' H' env' σ r x fpr fp' → Q x H') (q : Addr) (hq : H1 q = none) : Q (.ref q) (upd H1 q (if u = true then .tup (rgV lo hi) else .lst (rgV lo hi))) := by
  have rl : RepL K F1 H1 (rgD lo (hi - lo).toNat) (rgV lo hi) [] := rep_rg lo 0 _
  cases u with
  | true =>
    obtain ⟨n, rp⟩ := new_tup rl (noOwn_rg _ _) hq
    have z := res_tmp ho n rp
    exact k _ _ h.2 _ _ F1 [] g1 ⟨st.trans (fun _ h => h) z.st, z.ho, z.rp, z.nd, z.dj⟩
  | false =>
    obtain ⟨n, rp⟩ := new_lst rl (noOwn_rg _ _) hq
    have z := res_tmp ho n rp
    exact k _ _ h.2 _ _ F1 [q] g1 ⟨st.trans (fun _ h => h) z.st, z.ho, z.rp, z.nd, z.dj⟩
theorem trg1 {σ : Sg} {H : Hp} {u : Bool} {Q : VK} (h : lE X.K G (wRgq1 u w) σ H Q) : tRg1 (lE X.K G w) σ H fun a b H1 => RgOk a b ∧ ∀ q, H1 q = none → Q (.ref q) (upd H1 q (if u = true then .tup (rgV a b) else .lst (rgV a b))) := by
  obtain ⟨env, F, fp, Φ, ho, en, hw, k⟩ := h
  refine ⟨env, F, fp, _, ho, en, hw, fun r e1 h1 y H1 F1 f1 g1 r1 => ?_⟩
  obtain ⟨j, ej, h2⟩ := isI_of r1.ho r1.rp h1
  exact ⟨j, ej, h2.1, rgL_go (res_drop r1) r1.ho h2 k⟩
theorem trg2 {σ : Sg} {H : Hp} {u : Bool} {Q : VK} (h : lE X.K G (wRgq2 u wa wb) σ H Q) : tRg2 (lE X.K G wa) (lE X.K G wb) σ H fun a b H1 => RgOk a b ∧ ∀ q, H1 q = none → Q (.ref q) (upd H1 q (if u = true then .tup (rgV a b) else .lst (rgV a b))) := by
  obtain ⟨env, F, fp, Φ, ho, en, hw, k⟩ := h
  refine ⟨env, F, fp, _, ho, en, hw, fun r e1 h1 y H1 F1 f1 g1 r1 => ?_⟩
  obtain ⟨i, ei, h2⟩ := isI_of r1.ho r1.rp h1
  refine ⟨e1, F1, g1, _, r1.ho, en.go (res_drop r1) fun _ h => h, h2, fun r' e2 h3 z H2 F2 f2 g2 r2 => ?_⟩
  obtain ⟨j, ej, h4⟩ := isI_of r2.ho r2.rp h3
  exact ⟨i, j, ei, ej, h4.1, rgL_go ((res_drop r1).trans (fun _ h => h) (res_drop r2)) r2.ho h4 k⟩
theorem de_rgLst1 {p3 : Pos} (hc : X.calm = true) (hg : Gl X "list") (hm : X.mg "list" = none) (hg2 : Gl X "range") (hm2 : X.mg "range" = none) (ha : DE X G a w) (na : starEach [a] X.env = (false, eval a X.env) :: starEach [] X.env := by rfl)
    (nb : starEach [.Call (.Name "range" p) [a] [] p2] X.env = (false, eval (.Call (.Name "range" p) [a] [] p2) X.env) :: starEach [] X.env := by rfl) : DE X G (.Call (.Name "list" p3) [.Call (.Name "range" p) [a] [] p2] [] pos) (wRgq1 false w) :=
  ⟨pe_imp (pe_listRg hc hg hm (prg_1 hg2 hm2 ha.pe na) nb) fun σ H Q h => trg1 (u := false) h⟩
theorem de_rgTup1 {p3 : Pos} (hc : X.calm = true) (hg : Gl X "tuple") (hm : X.mg "tuple" = none) (hg2 : Gl X "range") (hm2 : X.mg "range" = none) (ha : DE X G a w) (na : starEach [a] X.env = (false, eval a X.env) :: starEach [] X.env := by rfl)
    (nb : starEach [.Call (.Name "range" p) [a] [] p2] X.env = (false, eval (.Call (.Name "range" p) [a] [] p2) X.env) :: starEach [] X.env := by rfl) : DE X G (.Call (.Name "tuple" p3) [.Call (.Name "range" p) [a] [] p2] [] pos) (wRgq1 true w) :=
  ⟨pe_imp (pe_tupRg hc hg hm (prg_1 hg2 hm2 ha.pe na) nb) fun σ H Q h => trg1 (u := true) h⟩
theorem de_rgLst2 {p3 : Pos} (hc : X.calm = true) (hg : Gl X "list") (hm : X.mg "list" = none) (hg2 : Gl X "range") (hm2 : X.mg "range" = none) (ha : DE X G a wa) (hb : DE X G b wb) (na : starEach [a, b] X.env = (false, eval a X.env) :: starEach [b] X.env := by rfl)
    (nb : starEach [b] X.env = (false, eval b X.env) :: starEach [] X.env := by rfl) (nc : starEach [.Call (.Name "range" p) [a, b] [] p2] X.env = (false, eval (.Call (.Name "range" p) [a, b] [] p2) X.env) :: starEach [] X.env := by rfl) (hp : (backTo p2 (starEach [b] X.env)).any (·.1) = false := by rfl) :
    DE X G (.Call (.Name "list" p3) [.Call (.Name "range" p) [a, b] [] p2] [] pos) (wRgq2 false wa wb) :=
  ⟨pe_imp (pe_listRg hc hg hm (prg_2 hg2 hm2 ha.pe hb.pe na nb hp) nc) fun σ H Q h => trg2 (u := false) h⟩

/-! ### xs[::-1] -/
def revK : K1
  | .lst _ xs, Φ => noOwnL xs = true ∧ Φ (.lst true xs.reverse)
  | _, _ => False
theorem RepL.rev {K : PySem.W.Frag} {F : Addr → Prop} {H : Hp} : ∀ {xs : List D} {vs : List V}, RepL K F H xs vs [] → RepL K F H xs.reverse vs.reverse []
  | [], vs, h => by obtain ⟨rfl, _⟩ := h.inv0; simpa using RepL.nil
  | x :: xs, vs, h => by
    obtain ⟨v, r, f1, f2, rfl, ef, h1, h2⟩ := h.inv
    have e := List.append_eq_nil_iff.mp ef.symm
    obtain ⟨e1, e2⟩ := e
    subst e1 e2
    simpa using RepL.append (RepL.rev h2) (RepL.cons h1 RepL.nil)
theorem noOwnL_rev {xs : List D} (h : noOwnL xs = true) : noOwnL xs.reverse = true := by
  rw [noOwnL_iff] at *
  intro x hx
  exact h x (by simpa using hx)
theorem de_rev {k : Nat} {p1 p3 : Pos} (h : DE X G e w) : DE X G (.Subscript e (.Slice none none (some (.UnaryOp .USub (.Constant (.int 1) k p1) p2)) p3) pos) (wOp (kd1 revK) (wCons w wNil)) := by
  refine ⟨pe_imp (pe_revL h.pe) fun σ H Q h => ?_⟩
  refine seq_one (Q := fun xs H2 => (P1 fun x H Q => ∃ a xs, x = .ref a ∧ SqL X.K H a xs ∧ ∀ p, H p = none → Q (.ref p) (upd H p (.lst xs.reverse))) xs H2 Q) (pure_go (Ok1.pure fun F H d1 x f1 Φ Q fx r1 hk kk => ?_) h)
  unfold revK at hk
  split at hk
  · obtain ⟨a, vs, g, rfl, h1, l1, _⟩ := r1.lst_v
    have e1 := l1.no hk.1
    subst e1
    refine ⟨a, vs, rfl, .inl h1, fun p hp => ?_⟩
    obtain ⟨n, rp⟩ := new_lst l1.rev (noOwnL_rev hk.1) hp
    exact kk _ hk.2 _ _ _ n rp
  · exact hk.elim
end
end Vd

set_option Elab.async false
set_option linter.all false
set_option maxRecDepth 100000
set_option maxHeartbeats 4000000
/-! Vd, part 15: for over enumerate(..); sorted ints; in. -/
namespace Vd
open PySem PySem.Spec PyProof.Rows L2

/-! ### enumerate(tuple) -/
def Itet (K : PySem.W.Frag) (a : Addr) : It :=
  ⟨fun i H => ∃ (xs : List V) (x : V), SqT K H a xs ∧ xs[i]? = some x, fun i H v H' => ∃ T x, v = .ref T ∧ H T = none ∧ H' = upd H T (.tup [.int (i : Nat), x]) ∧ ∀ xs, SqT K H a xs → xs[i]? = some x, fun i H => ∃ xs : List V, SqT K H a xs ∧ xs.length ≤ i⟩
theorem enum_end_tup {prog : Program} {w : World} {A : Around} {E : Value → Shared → Prop} {s : Shared} {e it l : Addr} {i : Nat} {items : Array Value} {old : Value} {Q : Option Value → Shared → Prop} (hh : A.handled = none) (hai : l ≠ it)
    (he : IsEnum s.heap e it i old) (hit : s.heap.IsTupleIter it l i) (hl : s.heap.IsTuple l items) (hx : items[i]? = none)
    (hQ : ∀ h', Heap.ExtBut it s.heap h' → Q none { s with heap := h' }) : wpAny (model prog w) A (pyNext (.ref e)) Q E s := by
  have hT : s.TypeIs (.ref e) "enumerate" := ⟨_, he, rfl⟩
  unfold pyNext
  refine wpAny_bind (wpAny_attempt (wpAny_callSpecial?_slot (name := Str.ofString "__next__") hT PySem.F.slot_enumerate_next
    (wpAny_call_entry PySem.F.slot_enumerate_next hT PySem.F.entry_enumerate_next ?_ (PySem.F.args_enumerate_next_1 _))))
  show wpAny _ _ (field (.ref e) 2 >>= _) _ _ _
  refine wpAny_bind (wpAny_field he rfl (x := .ref it) rfl ?_)
  refine wpAny_bind (wpAny_nextOf_tuple_end (A := A.in1) (show A.in1.handled = none from hh) hit hl hx fun h' x he' hx' => ?_)
  obtain ⟨o, ho, hc⟩ := hx'
  refine wpAny_bind (wpAny_isInstance (T := "StopIteration") (b := true) ⟨o, ho, hc⟩ isSubtype_stop ?_)
  exact wpAny_pure (hQ _ he')
theorem turn_enumT {P : Program} {w : World} {K : PySem.W.Frag} {elts : List Expr} {kk : Nat} {tpos : Pos} (a e it : Addr) :
    Turn P w K (.Tuple elts kk tpos) (Itet K a) [e, it] e (fun i h => (∃ old, IsEnum h e it ((i : Nat) : Int) old) ∧ h.IsTupleIter it a i ∧ e ≠ it ∧ a ≠ it ∧ e ≠ a) where
  mem := by simp
  obj := fun i h st b hb => by
    obtain ⟨⟨old, he⟩, ⟨o, ho, hc, hd⟩, _⟩ := st
    have e' : b = e ∨ b = it := by simpa using hb
    rcases e' with z | z
    · rw [z]; exact ⟨_, he, fun v q => nomatch q⟩
    · rw [z]; exact ⟨o, ho, fun v q => by rw [hd] at q; cases q⟩
  keep := fun i h h' st k => let ⟨⟨old, he⟩, hi, hne⟩ := st; ⟨⟨old, k e (by simp) _ he⟩, hi.at fun o q => k it (by simp) o q, hne⟩
  item := by
    intro X hP hw hK hc i pins s σ H E I hf st hg
    subst hP hw hK
    obtain ⟨⟨old, he⟩, hit, hne, hai, hea⟩ := st
    obtain ⟨xs, x, hq, hx⟩ := hg
    obtain ⟨its, rv, p, hz⟩ := I.tuple hq
    obtain ⟨u, hu, ru⟩ := rv.get hx
    have hel : e < s.heap.objs.size := Heap.lt_size he
    have hil : it < s.heap.objs.size := by obtain ⟨_, q, _⟩ := hit; exact Heap.lt_size q
    have hlt : i < its.toArray.size := by
      have := (List.getElem?_eq_some_iff.mp hu).1
      simpa using this
    refine wpAny_pyNext_enum_itemD (PySem.Draws.tuple (prog := X.prog) (w := X.w) (A := X.A.in1) (show X.A.in1.handled = none from I.ok.hd hc) it a hai its.toArray) he ⟨hit, p⟩ hlt hne (by simp [hne, hea]) fun v h' tk hP ho st2 hT hsz hk => ?_
    have ev : v = u := by
      have q : its.toArray[i]? = some u := by simpa using hu
      rw [hP] at q
      exact Option.some.inj q
    subst ev
    refine ⟨_, rfl, wpAny_letOwnedTupleGo_enum (s := { s with heap := h', toks := tk + 1 }) ho fun h'' he' sb => ?_⟩
    have hT2 : h''.get? s.heap.objs.size = some { cls := .type "tuple", data := .seq #[.int i tk, v] } := (sb.2 _ (Nat.ne_of_gt hel)).trans hT
    have new : ObjOk X.prog X.w (upd H s.heap.objs.size (.tup [.int (i : Nat), x])) h'' s.heap.objs.size (.tup [.int (i : Nat), x]) :=
      ⟨by show 2 ≤ sizeLine; decide, [.int i tk, v], .cons ⟨_, rfl⟩ (.cons ru .nil), ⟨_, hT2, rfl, _, rfl⟩⟩
    have I1 : Inv X pins σ (upd H s.heap.objs.size (.tup [.int (i : Nat), x])) { s with heap := h'', toks := tk + 1 } :=
      I.turnedNew (ch := [e, it]) (fun b ob hb q => (sb.2 b (fun z => hb (by simp [z]))).trans (hk b ob (fun z => hb (by simp [z])) (fun z => hb (by simp [z])) q)) hf (Nat.le_refl _) new
    refine ⟨.ref s.heap.objs.size, _, I1, rfl, ⟨_, x, rfl, I.hok.fresh (Nat.le_refl _), rfl, fun ys hy => by rw [I.tuple_inj hy hq]; exact hx⟩, ⟨⟨v, ?_⟩, st2.1.at fun o q => (sb.2 it (Ne.symm hne)).trans q, hne, hai, hea⟩, fun b hb => ?_⟩
    · have e1 : ((i + 1 : Nat) : Int) = (i : Int) + 1 := by omega
      rw [e1]; exact he'
    · have hb' : b < s.heap.objs.size := by
        have e' : b = e ∨ b = it := by simpa using hb
        rcases e' with z | z
        · rw [z]; exact hel
        · rw [z]; exact hil
      rw [upd_ne (Nat.ne_of_lt hb')]
      exact (hf b hb).1
  done := by
    intro X hP hw hK hc i pins s σ H E I hf st hg
    subst hP hw hK
    obtain ⟨⟨old, he⟩, hit, hne, hai, hea⟩ := st
    obtain ⟨xs, hq, hx⟩ := hg
    obtain ⟨its, rv, p, hz⟩ := I.tuple hq
    obtain ⟨f0, f1, f2, f3, f4, f5⟩ := hf it (by simp)
    have hl := rv.length
    exact enum_end_tup (I.ok.hd hc) hai he hit p (by simp; omega) fun h' eb => ⟨rfl, I.turned (t' := s.toks) (fun b o hb q => eb b o hb q) f0 f1 f3 f4 f5⟩
  self := fun A i s Q E st h => let ⟨⟨_, he⟩, _⟩ := st; wpAny_pyIter_enum he h
def enD : Nat → List D → List D
  | _, [] => []
  | n, x :: xs => .tup [.int (n : Nat), x] :: enD (n + 1) xs
theorem enD_len : ∀ (n : Nat) (xs : List D), (enD n xs).length = xs.length
  | _, [] => rfl
  | n, x :: xs => by simp [enD, enD_len (n + 1) xs]
theorem enD_get : ∀ {n i : Nat} {xs : List D} {d : D}, xs[i]? = some d → (enD n xs)[i]? = some (.tup [.int ((n + i : Nat) : Int), d])
  | n, 0, x :: xs, d, h => by
    have e : x = d := by simpa using h
    subst e
    simp [enD]
  | n, i + 1, x :: xs, d, h => by
    have := enD_get (n := n + 1) (i := i) (xs := xs) (d := d) (by simpa using h)
    simp only [enD, List.getElem?_cons_succ]
    rw [this]
    have e : n + 1 + i = n + (i + 1) := by omega
    rw [e]
  | n, i, [], d, h => by simp at h
def wEnum (w : W1) : WI := fun env Φ => w env fun r e1 => capz e1 r fun d e2 => seqD d fun xs => Φ (enD 0 xs) e2
section
variable {K : PySem.W.Frag}
theorem walk_enumT {a : Addr} {xs : List V} : Walk (Itet K a) xs.length (fun H => SqT K H a xs) (YPair (fun i => some (.int (i : Nat))) (fun i => xs[i]?)) := by
  refine ⟨fun i _ hi q => ⟨xs, xs[i], q, by simp [hi]⟩, fun _ q => ⟨xs, q, Nat.le_refl _⟩, fun i H v H' _ q y => ?_⟩
  obtain ⟨T, x, h1, h2, h3, h4⟩ := y
  exact ⟨T, .int (i : Nat), x, h1, h2, h3, rfl, h4 xs q⟩
theorem ypair_rep {F' F2 : Addr → Prop} {fp' : List Addr} {H' H2 H3 : Hp} {xs : List D} {vs : List V} {i : Nat} {x : V} (rl : RepL K F' H' xs vs []) (no : noOwnL xs = true) (kk : Kps (fun a => a ∈ fp') F' H' H2) (m : ∀ a, F' a → F2 a)
    (y : YPair (fun i => some (V.int (i : Nat))) (fun i => vs[i]?) i H2 x H3) : ∃ d, (enD 0 xs)[i]? = some d ∧ noOwn d = true ∧ New H2 H3 [] ∧ Rep K F2 H3 d x [] := by
  obtain ⟨T, u, v, rfl, hT, rfl, e1, e2⟩ := y
  cases e1
  obtain ⟨d, e3, e4, e5⟩ := yat_rep rl no kk m e2
  have n : New H2 (upd H2 T (.tup [.int (i : Nat), v])) [] := .none_ hT
  refine ⟨_, enD_get e3, by simp [noOwn, noOwnL, e4], n, ?_⟩
  simp only [Rep]
  refine ⟨T, [.int (i : Nat), v], rfl, upd_same, ?_⟩
  have r2 : Rep K F2 (upd H2 T (.tup [.int (i : Nat), v])) d v [] := Rep.keep n.kps (fun _ z => z) d v [] e5 fun _ z => absurd z (List.not_mem_nil)
  have := RepL.cons (K := K) (F := F2) (H := upd H2 T (.tup [.int (i : Nat), v])) (x := .int ((0 + i : Nat) : Int)) (v := .int (i : Nat)) (by simpa using rep_int) (RepL.cons r2 RepL.nil)
  simpa using this
theorem itOk_enum {F' : Addr → Prop} {fp' : List Addr} {H' : Hp} {d : D} {x : V} {k : List D → Prop} (n : noOwn d = true) (rp : Rep K F' H' d x []) (h : seqD d k) :
    ∃ xs a, k xs ∧ x = .ref a ∧ (((∃ vs, SqL K H' a vs) ∧ ItOk K F' fp' H' (enD 0 xs) (Ite K a)) ∨ ((∃ vs, SqT K H' a vs) ∧ ItOk K F' fp' H' (enD 0 xs) (Itet K a))) := by
  unfold seqD at h
  split at h
  · rename_i o ds
    cases o with
    | true => simp [noOwn] at n
    | false =>
      simp only [Rep] at rp
      obtain ⟨a, vs, rfl, _, hq, rl⟩ := rp
      have no : noOwnL ds = true := by simpa [noOwn] using n
      exact ⟨ds, a, h, rfl, .inl ⟨⟨vs, .inl hq.2⟩, _, _, by rw [enD_len, rl.len]; exact walk_enum (xs := vs), fun H2 kk => kk.sqF hq.1 hq.2, fun i H2 x H3 F2 hi kk m y => ypair_rep rl no kk m y⟩⟩
  · rename_i ds
    obtain ⟨a, vs, rfl, hq, rl⟩ := rp.tup_v
    have no : noOwnL ds = true := by simpa [noOwn] using n
    exact ⟨ds, a, h, rfl, .inr ⟨⟨vs, hq⟩, _, _, by rw [enD_len, rl.len]; exact walk_enumT (xs := vs), fun H2 kk => kk.tup hq, fun i H2 x H3 F2 hi kk m y => ypair_rep rl no kk m y⟩⟩
  · rename_i ns
    simp only [Rep] at rp
    obtain ⟨a, rfl, _, h1⟩ := rp
    have hs : SqL K H' a (ns.map V.int) := by
      rcases h1 with ⟨o, h1⟩ | h1
      · exact .inl (.inr ⟨o, h1⟩)
      · exact .inr h1
    refine ⟨ns.map D.int, a, h, rfl, .inl ⟨⟨_, hs⟩, _, _, by rw [enD_len, List.length_map, ← List.length_map (f := V.int)]; exact walk_enum (xs := ns.map V.int), fun H2 kk => ?_, fun i H2 x H3 F2 hi kk m y => ypair_rep (rep_ints (K := K) (F := F') (H := H') ns) (noOwn_ints ns) kk m y⟩⟩
    rcases h1 with ⟨o, h1⟩ | h1
    · exact .inl (.inr ⟨o, kk.nt h1 fun z => z⟩)
    · exact .inr h1
  · exact h.elim
end
def iEnumG (K : PySem.W.Frag) (te : TE) : TI := fun σ H R => te σ H fun x H1 => ∃ a, x = .ref a ∧ (((∃ xs, SqL K H1 a xs) ∧ R (Ite K a) H1) ∨ ((∃ xs, SqT K H1 a xs) ∧ R (Itet K a) H1))
section
variable {X : Cx} {G : Gh} {e : Expr} {w : W1} {p pos tpos : Pos} {elts : List Expr} {kk : Nat}
theorem pi_enumG {te : TE} (hg : Gl X "enumerate") (hm : X.mg "enumerate" = none) (ha : PE X e te) (hs : starEach [e] X.env = (false, eval e X.env) :: starEach [] X.env := by rfl) :
    PI X (.Tuple elts kk tpos) (.Call (.Name "enumerate" p) [e] [] pos) (iEnumG X.K te) := by
  refine ⟨fun pins s σ H R I h => ?_⟩
  refine Call_ (ld_blt I hg hm PyProof.Rows.boot_enumerate (PyProof.Rows.callWith_type1 (thn ((pa_cons ha pa_nil hs).run pos pins s σ H (fun vs H1 => ∃ a, vs = [.ref a] ∧ (((∃ xs, SqL X.K H1 a xs) ∧ R (Ite X.K a) H1) ∨ ((∃ xs, SqT X.K H1 a xs) ∧ R (Itet X.K a) H1))) I ?_) fun us s1 ⟨vs, H1, I1, r1, q1⟩ => ?_) hs rfl))
  · show te σ H _
    have h2 : te σ H fun x H1 => ∃ a, x = .ref a ∧ (((∃ xs, SqL X.K H1 a xs) ∧ R (Ite X.K a) H1) ∨ ((∃ xs, SqT X.K H1 a xs) ∧ R (Itet X.K a) H1)) := h
    have e2 : (fun x H1 => (tNil : TA) σ H1 fun vs H2 => ∃ a, (x :: vs) = [V.ref a] ∧ (((∃ xs, SqL X.K H2 a xs) ∧ R (Ite X.K a) H2) ∨ ((∃ xs, SqT X.K H2 a xs) ∧ R (Itet X.K a) H2))) = (fun x H1 => ∃ a, x = V.ref a ∧ (((∃ xs, SqL X.K H1 a xs) ∧ R (Ite X.K a) H1) ∨ ((∃ xs, SqT X.K H1 a xs) ∧ R (Itet X.K a) H1))) := by
      funext x H1
      simp [tNil]
    rw [e2]
    exact h2
  · obtain ⟨a, ex, q⟩ := q1
    subst ex
    cases r1 with
    | cons r rr =>
      cases rr
      cases r
      have done : ∀ {J : It} {tn : Nat → Heap → Prop} {h' : Heap}, R J H1 → Inv X pins σ H1 { s1 with heap := h' } → Turn X.prog X.w X.K (.Tuple elts kk tpos) J [s1.heap.objs.size + 1, s1.heap.objs.size] (s1.heap.objs.size + 1) tn → tn 0 h' →
          PIE X pins σ (.Tuple elts kk tpos) R (.ref (s1.heap.objs.size + 1)) { s1 with heap := h' } := fun {J tn h'} q I2 T st => by
        refine ⟨s1.heap.objs.size + 1, [s1.heap.objs.size + 1, s1.heap.objs.size], tn, J, H1, rfl, I2, T, st, fun b hb => ?_, q⟩
        have e' : b = s1.heap.objs.size + 1 ∨ b = s1.heap.objs.size := by simpa using hb
        have hle : s1.heap.objs.size ≤ b := by
          rcases e' with z | z
          · rw [z]; exact Nat.le_add_right _ _
          · rw [z]; exact Nat.le_refl _
        exact I1.fpOk hle (I1.hok.fresh hle)
      rcases q with ⟨⟨xs, hq⟩, q⟩ | ⟨⟨xs, hq⟩, q⟩
      · obtain ⟨its, rv, p', hz⟩ := I1.list hq
        exact call_enumerate_list p'.isList fun h' he hit hsz hk => wpAny_pyIter_enum he (done q (I1.kept (t' := s1.toks) hk) (turn_enum a (s1.heap.objs.size + 1) s1.heap.objs.size) ⟨⟨.none, he⟩, hit, Nat.succ_ne_self _⟩)
      · obtain ⟨its, rv, p', hz⟩ := I1.tuple hq
        have hlt : a < s1.heap.objs.size := by obtain ⟨o, ho, _⟩ := p'; exact Heap.lt_size ho
        exact call_enumerate_tup p' fun h' he hit hsz hk => wpAny_pyIter_enum he (done q (I1.kept (t' := s1.toks) hk) (turn_enumT a (s1.heap.objs.size + 1) s1.heap.objs.size) ⟨⟨.none, he⟩, hit, Nat.succ_ne_self _, Nat.ne_of_lt hlt, Nat.ne_of_gt (Nat.lt_succ_of_lt hlt)⟩)
theorem di_enum (hg : Gl X "enumerate") (hm : X.mg "enumerate" = none) (h : DE X G e w) (hs : starEach [e] X.env = (false, eval e X.env) :: starEach [] X.env := by rfl) : DI X G (.Tuple elts kk tpos) (.Call (.Name "enumerate" p) [e] [] pos) (wEnum w) := by
  refine ⟨pi_imp (pi_enumG hg hm h.pe hs) fun σ H R ⟨env, F, fp, Φ, ho, en, hw, k⟩ => ?_⟩
  refine ⟨env, F, fp, _, ho, en, hw, fun r e1 h1 x H1 F1 f1 g1 r1 => ?_⟩
  obtain ⟨d, e2, F2, g2, h2, n, r2⟩ := capz_go r1 h1
  obtain ⟨xs, a, hk, ea, q⟩ := itOk_enum (fp' := g2) n r2.rp h2
  refine ⟨a, ea, ?_⟩
  rcases q with ⟨q1, q2⟩ | ⟨q1, q2⟩
  · exact .inl ⟨q1, k _ e2 hk _ H1 F2 g2 (res_drop r2) r2.ho q2⟩
  · exact .inr ⟨q1, k _ e2 hk _ H1 F2 g2 (res_drop r2) r2.ho q2⟩
end
end Vd

set_option Elab.async false
set_option linter.all false
set_option maxRecDepth 100000
set_option maxHeartbeats 4000000
/-! Vd, part 16: sorted of ints; in; str. -/
namespace Vd
open PySem PySem.Spec PyProof.Rows L2
section
variable {prog : Program} {w : World} {A : Around} {E : Value → Shared → Prop} {s : Shared}
theorem collect_tup {l : Addr} {vs : List Value} {Q : List Value → Shared → Prop} (hl : s.heap.IsTuple l vs.toArray)
    (h : Q vs { s with heap := (s.heap.push (seqObj "list" #[] 0)).update s.heap.objs.size (Obj.mapSeq (· ++ vs.toArray)) }) (hsz : vs.length ≤ sizeLine) :
    wpAny (model prog w) A (collect (.ref l)) Q E s := by
  obtain ⟨o, ho, hc, n, hd⟩ := id hl
  unfold collect
  refine wpAny_bind (wpAny_runValue (codeAny_builtin entry_proto_collect' ?_))
  show wpAny _ _ (do again (.builtin "list.__iadd__" ⟨[← newList [], .ref l], []⟩)) _ _ s
  refine wpAny_bind (wpAny_newList (wpAny_pure ⟨Code.quiet_builtin _ (by decide +kernel), codeAny_builtin entry_list_iadd' ?_⟩))
  show wpAny _ _ (Builtin.List.listExtendWith (.ref s.heap.objs.size) (.ref l) (.ref s.heap.objs.size)) _ _ { s with heap := s.heap.push (seqObj "list" #[] 0) }
  unfold Builtin.List.listExtendWith
  have ho' : (s.heap.push (seqObj "list" #[] 0)).get? l = some o := Heap.get?_push_of_some _ ho
  refine wpAny_bind (wpAny_typeOf (T := "tuple") ⟨o, ho', hc⟩ ?_)
  have ht : (Value.type "tuple" == Value.type "tuple") = true := by rfl
  rw [if_pos (by rw [ht]; simp)]
  refine wpAny_bind (listItems_at ho' hd ?_)
  refine wpAny_bind (listItems_at (xs := #[]) (n := 0) (Heap.get?_push_size _ rfl) rfl ?_)
  rw [if_neg (by simp)]
  refine wpAny_bind (listUpdate_at (xs := #[]) (n := 0) (Heap.get?_push_size _ rfl) rfl ?_ (Nat.zero_le _) (by show (#[] ++ vs.toArray).size ≤ sizeLine + 1; simp only [Array.size_append, List.size_toArray, List.length_nil]; omega))
  refine wpAny_pure ?_
  show wpAny (model prog w) A (do
      let o ← load s.heap.objs.size
      match o.data with
      | .seq xs _ => pure xs.toList
      | _ => unsupported "internal:collect") Q E { s with heap := (s.heap.push (seqObj "list" #[] 0)).update s.heap.objs.size (Obj.mapSeq (· ++ vs.toArray)) }
  refine wpAny_bind (wpAny_load (get?_update_seq (Heap.get?_push_size _ rfl) _) ?_)
  show wpAny _ _ (pure ((#[] : Array Value) ++ vs.toArray).toList) Q E _
  rw [show ((#[] : Array Value) ++ vs.toArray).toList = vs by simp]
  exact wpAny_pure h
theorem sorted_ordT {l : Addr} {vs : List Value} {ltv : Value → Value → Bool} {Q : Value → Shared → Prop} (O : SrtO.Swo ltv) (hl : s.heap.IsTuple l vs.toArray) (hz : vs.length ≤ sizeLine)
    (hS : 2 ≤ vs.length → ∀ (h₁ : Heap) (a : Addr), h₁.get? a = some (seqObj "list" vs.toArray 0) → (∀ b o, s.heap.get? b = some o → b ≠ a ∧ h₁.get? b = some o) → SrtO.SortableO prog w A.in1.in1 { s with heap := h₁ } a vs ltv)
    (h : ∀ out : List Value, SrtO.Srtd ltv out → SrtO.Stb ltv out vs → Q (.ref (s.heap.objs.size + 1)) { s with heap := sortedAll s.heap vs out.toArray }) :
    wpAny (model prog w) A (call (.builtin "sorted") [.ref l]) Q E s := by
  refine Calls.call_function_entry kind_sorted plain_sorted entry_sorted (args_sorted1 _) ?_
  unfold Builtin.«sorted»
  refine wpAny_bind (m := checkCount "sorted" 1 1 _) (wpAny_pure ?_)
  refine wpAny_bind (collect_tup hl ?_ hz)
  refine wpAny_bind (wpAny_newList ?_ hz)
  have hsz : ((s.heap.push (seqObj "list" #[] 0)).update s.heap.objs.size (Obj.mapSeq (· ++ vs.toArray))).objs.size = s.heap.objs.size + 1 := by
    rw [Heap.size_update, size_push']
  have hoL : (((s.heap.push (seqObj "list" #[] 0)).update s.heap.objs.size (Obj.mapSeq (· ++ vs.toArray))).push (seqObj "list" vs.toArray 0)).get? (s.heap.objs.size + 1) = some (seqObj "list" vs.toArray 0) := by
    rw [← hsz]; exact Heap.get?_push_size _ rfl
  have keep : ∀ b o, s.heap.get? b = some o → b ≠ s.heap.objs.size + 1 ∧ (((s.heap.push (seqObj "list" #[] 0)).update s.heap.objs.size (Obj.mapSeq (· ++ vs.toArray))).push (seqObj "list" vs.toArray 0)).get? b = some o := fun b o q => by
    have hlt : b < s.heap.objs.size := Heap.lt_size q
    refine ⟨Nat.ne_of_lt (Nat.lt_succ_of_lt hlt), Heap.get?_push_of_some _ ?_⟩
    rw [Heap.get?_update_ne _ _ _ _ (Nat.ne_of_lt hlt)]
    exact Heap.get?_push_of_some _ q
  show wpAny _ _ _ _ _ { s with heap := ((s.heap.push (seqObj "list" #[] 0)).update s.heap.objs.size (Obj.mapSeq (· ++ vs.toArray))).push (seqObj "list" vs.toArray 0) }
  rw [hsz]
  refine wpAny_bind (wpAny_holding (wpAny_call_entry slot_list_sort ⟨_, hoL, rfl⟩ entry_list_sort (SrtO.list_sort_ord O hoL hz (fun h2 => hS h2 _ _ hoL keep) fun out hs hb => ⟨_, rfl, ?_⟩) (args_list_sort _)))
  exact wpAny_pure ⟨_, rfl, h out hs hb⟩
end
def rSortedIT (K : PySem.W.Frag) : List V → Hp → VK → Prop := fun vs H Q => ∃ (a : Addr) (ns : List Int), vs = [V.ref a] ∧ SqT K H a (ns.map V.int) ∧
  ∀ (ns' : List Int) (p : Addr), ns'.Perm ns → ns'.Pairwise (· ≤ ·) → H p = none → Q (.ref p) (upd H p (.lst (ns'.map V.int)))
section
variable {X : Cx}
theorem cr_sortedIT : CallR X (.builtin "sorted") (rSortedIT X.K) := by
  intro pins s σ H vs us Q I r h
  obtain ⟨a, ns, rfl, hs, q⟩ := h
  obtain ⟨its, rv, hl, hz⟩ := I.tuple hs
  rw [Vals.ref1 r]
  have hi := rv.ints
  refine sorted_ordT SrtO.swo_int hl (by rw [← rv.length]; exact hz) (fun h2 h₁ a' _ _ => SrtO.ints_sortable hi h2) fun out h1 h2 => ?_
  obtain ⟨k1, k2, k3⟩ := SrtO.ints_out hi h1 h2
  obtain ⟨ep, he'⟩ := PyProof.Rows.sortedAll_at s.heap its out.toArray
  have hlen : ((out.map SrtO.iv).map V.int).length ≤ sizeLine := by
    rw [List.length_map, k2.length_eq]
    rw [List.length_map] at hz
    exact hz
  exact ⟨.ref _, upd H (s.heap.objs.size + 1) (.lst ((out.map SrtO.iv).map V.int)), I.laid (t' := s.toks) (fun _ _ => PyProof.Rows.sortedAll_old) (Nat.le_succ _) ⟨hlen, out, ep, vals_of_ints k1, he'⟩, rfl, q _ _ k2 k3 (I.hok.fresh (Nat.le_succ _))⟩
/-- sorted(xs), ints: any sorted rearrangement (it is one) -/
def sortedK : K1 := fun d Φ => seqD d fun xs => match toInts xs with
  | some ns => ∀ ns' : List Int, ns'.Perm ns → ns'.Pairwise (· ≤ ·) → Φ (.lst true (ns'.map D.int))
  | none => False
theorem call_sortedD : CallD X (.builtin "sorted") (kd1 sortedK) := by
  refine ok_call1 (CallR.or cr_sortedI cr_sortedIT) ?_
  intro F H d1 x f1 Φ Q fx r1 hk kk
  have fin : ∀ {ns' : List Int} {p : Addr}, Φ (.lst true (ns'.map D.int)) → H p = none → Q (.ref p) (upd H p (.lst (ns'.map V.int))) := fun {ns' p} hΦ hp => by
    obtain ⟨n, rp⟩ := new_lst (K := X.K) (F := F) (H := H) (rep_ints ns') (noOwn_ints ns') hp
    exact kk _ hΦ _ _ _ n rp
  unfold sortedK seqD at hk
  split at hk
  · obtain ⟨a, vs, g, rfl, h1, l1, _⟩ := r1.lst_v
    split at hk
    · rename_i ns en
      have e := toInts_v l1 en
      subst e
      exact .inl ⟨a, ns, rfl, .inl h1, fun ns' p h1 h2 hp => fin (hk ns' h1 h2) hp⟩
    · exact hk.elim
  · obtain ⟨a, vs, rfl, h1, l1⟩ := r1.tup_v
    split at hk
    · rename_i ns en
      have e := toInts_v l1 en
      subst e
      exact .inr ⟨a, ns, rfl, h1, fun ns' p h1 h2 hp => fin (hk ns' h1 h2) hp⟩
    · exact hk.elim
  · rename_i ns0
    simp only [Rep] at r1
    obtain ⟨a, rfl, _, h1⟩ := r1
    have hs : SqL X.K H a (ns0.map V.int) := by
      rcases h1 with ⟨o, h1⟩ | h1
      · exact .inl (.inr ⟨o, h1⟩)
      · exact .inr h1
    split at hk
    · rename_i ns en
      have e := toInts_v (rep_ints (K := X.K) (F := F) (H := H) ns0) en
      rw [e] at hs
      exact .inl ⟨a, ns, rfl, hs, fun ns' p h1 h2 hp => fin (hk ns' h1 h2) hp⟩
    · exact hk.elim
  · exact hk.elim
/-! x in xs, flat items -/
def flatD : D → Bool
  | .non => true
  | .bl _ => true
  | .int _ => true
  | .str _ => true
  | _ => false
def eqFD : D → D → Bool
  | .non, .non => true
  | .bl a, .bl b => a == b
  | .bl a, .int b => (if a then 1 else 0) == b
  | .int a, .bl b => a == (if b then 1 else 0)
  | .int a, .int b => a == b
  | .str a, .str b => a == b
  | _, _ => false
theorem flat_v {K : PySem.W.Frag} {F : Addr → Prop} {H : Hp} {d : D} {x : V} {f : List Addr} (r : Rep K F H d x f) (h : flatD d = true) : flatV x = true := by
  cases d with
  | non => rw [r.non_v]; rfl
  | bl b => rw [r.bl_v]; rfl
  | int b => rw [r.int_v]; rfl
  | str b => rw [r.str_v]; rfl
  | _ => simp [flatD] at h
theorem eqF_v {K : PySem.W.Frag} {F : Addr → Prop} {H : Hp} {d e : D} {x y : V} {f g : List Addr} (r : Rep K F H d x f) (q : Rep K F H e y g) (h : flatD d = true) (h2 : flatD e = true) : eqV x y = eqFD d e := by
  cases d <;> cases e <;> first | (simp [flatD] at h; done) | (simp [flatD] at h2; done) | (simp only [Rep] at r q; obtain ⟨rfl, _⟩ := r; obtain ⟨rfl, _⟩ := q; rfl)
theorem inF_v {K : PySem.W.Frag} {F : Addr → Prop} {H : Hp} {d : D} {x : V} {f : List Addr} (r : Rep K F H d x f) (h : flatD d = true) : ∀ {xs : List D} {vs : List V} {g : List Addr}, RepL K F H xs vs g → xs.all flatD = true → vs.all flatV = true ∧ inV x vs = xs.any fun y => eqFD y d
  | [], vs, g, rl, ha => by obtain ⟨rfl, _⟩ := rl.inv0; exact ⟨rfl, rfl⟩
  | y :: xs, vs, g, rl, ha => by
    obtain ⟨v, t, f1, f2, rfl, _, h1, h2⟩ := rl.inv
    have ha' : flatD y = true ∧ xs.all flatD = true := by simpa using ha
    obtain ⟨i1, i2⟩ := inF_v r h h2 ha'.2
    refine ⟨by rw [List.all_cons, flat_v h1 ha'.1, i1] <;> rfl, ?_⟩
    unfold inV at i2 ⊢
    rw [List.any_cons, List.any_cons, eqF_v h1 r ha'.1 h, i2]
def inK0 (neg : Bool) : K2 := fun d ds Φ => flatD d = true ∧ seqD ds fun xs => xs.all flatD = true ∧ Φ (.bl (if neg = true then !(xs.any fun y => eqFD y d) else xs.any fun y => eqFD y d))
def inK : K2 := inK0 false
def ninK : K2 := inK0 true
theorem ok_in (neg : Bool) : Ok2 X.K (rIn X.K neg) (inK0 neg) := by
  intro F H d1 d2 x y f1 f2 Φ Q fx r1 r2 hk kk
  unfold inK0 seqD at hk
  obtain ⟨hf, hk⟩ := hk
  split at hk
  · obtain ⟨a, vs, g, rfl, h1, l1, _⟩ := r2.lst_v
    obtain ⟨i1, i2⟩ := inF_v r1 hf l1 hk.1
    exact ⟨a, vs, rfl, .inl (.inl h1), flat_v r1 hf, i1, by rw [i2]; exact kk _ hk.2 _ H [] .refl rep_bl⟩
  · obtain ⟨a, vs, rfl, h1, l1⟩ := r2.tup_v
    obtain ⟨i1, i2⟩ := inF_v r1 hf l1 hk.1
    exact ⟨a, vs, rfl, .inr h1, flat_v r1 hf, i1, by rw [i2]; exact kk _ hk.2 _ H [] .refl rep_bl⟩
  · rename_i ns
    simp only [Rep] at r2
    obtain ⟨a, rfl, _, h1⟩ := r2
    have hs : SqL X.K H a (ns.map V.int) := by
      rcases h1 with ⟨o, h1⟩ | h1
      · exact .inl (.inr ⟨o, h1⟩)
      · exact .inr h1
    obtain ⟨i1, i2⟩ := inF_v r1 hf (rep_ints (K := X.K) (F := F) (H := H) ns) hk.1
    exact ⟨a, _, rfl, .inl hs, flat_v r1 hf, i1, by rw [i2]; exact kk _ hk.2 _ H [] .refl rep_bl⟩
  · exact hk.elim
theorem op_inD : OpD X (compareOp .In) (kd2 inK) := Ok2.op op_in_seq (ok_in false)
theorem op_ninD : OpD X (compareOp .NotIn) (kd2 ninK) := Ok2.op op_notIn_seq (ok_in true)
/-! str of an int, of a bool -/
theorem str_of_bool {b : Bool} {Q : Value → Shared → Prop} (h : Q (.str (if b then "True" else "False") s.toks) { s with toks := s.toks + 1 }) : wpAny (model prog w) A (call (.type "str") [.bool b]) Q E s :=
  callType_new F.called_str (by decide) (F.typeCall_str_1 _) (F.newCall_str_1 _) (fun obj => F.args_object_init_2 obj _) F.entry_str_new
    (meets_str_new (S := fun _ R s => R (.ok (.ret (.str (if b then "True" else "False") s.toks))) { s with toks := s.toks + 1 }) fun _ _ _ _ s hq =>
      wpAny_strOf_gives rfl (PySem.typeIs_bool s b) F.slot_bool_str F.slot_bool_repr F.entry_bool_repr (F.args_bool_repr_1 _) (gives_bool_repr b) hq (hsz := by cases b <;> decide)) ⟨typeIs_str _ _ _, h⟩
theorem call_str_bool : CallR X (.type "str") (fun xs H Q => ∃ b : Bool, xs = [.bl b] ∧ Q (.str (if b then "True" else "False")) H) := by
  intro pins s σ H xs us Q I r h
  obtain ⟨b, rfl, q⟩ := h
  obtain ⟨u, rfl, r1⟩ := vals1 r
  cases r1
  exact str_of_bool ⟨.str _, H, I.tok _, ⟨_, rfl⟩, q⟩
def strK1 : K1
  | .int i, Φ => i.natAbs.log2 < 1920 ∧ Φ (.str (toString i))
  | .bl b, Φ => Φ (.str (if b then "True" else "False"))
  | _, _ => False
theorem call_strD : CallD X (.type "str") (kd1 strK1) := by
  refine ok_call1 (CallR.or call_str_int call_str_bool) ?_
  intro F H d1 x f1 Φ Q fx r1 hk kk
  unfold strK1 at hk
  split at hk
  · rw [r1.int_v]; exact .inl ⟨_, rfl, hk.1, kk _ hk.2 _ H [] .refl rep_str⟩
  · rw [r1.bl_v]; exact .inr ⟨_, rfl, kk _ hk _ H [] .refl rep_str⟩
  · exact hk.elim
end
end Vd

set_option Elab.async false
set_option linter.all false
set_option maxRecDepth 100000
set_option maxHeartbeats 4000000
/-! Vd, part 17: small things for the printed texts. -/
namespace Vd
open PySem PySem.Spec PyProof.Rows L2
theorem dv {X : Cx} {G : Gh} (i : Nat) {x : Str} {pos : Pos} (hN : X.N[i]? = some x := by rfl) (hv : Vis X.env.scope x := by first | exact Or.inl rfl | exact Or.inr (Or.inl rfl) | exact Or.inr (Or.inr rfl)) (hd : (x == ("__debug__" : Str)) = false := by decide) (hcd : (x == ("__classdict__" : Str)) = false := by decide) : DE X G (.Name x pos) (wVar i) := de_var hN hv hd hcd
theorem pins_ne {G : Gh} {l : List Nat} {i : Nat} (h : ∀ p ∈ G.pins, p.1 ∈ l) (n : i ∉ l) : ∀ p ∈ G.pins, p.1 ≠ i := fun p hp e => n (e ▸ h p hp)
theorem pins_out {G : Gh} {l is : List Nat} (h : ∀ p ∈ G.pins, p.1 ∈ l) (n : ∀ i ∈ is, i ∉ l) : ∀ p ∈ G.pins, p.1 ∉ is := fun p hp z => n p.1 z (h p hp)
theorem sub_pins {G G' : Gh} {l : List Nat} (s : Sub G G') (h : ∀ p ∈ G.pins, p.1 ∈ l) : ∀ p ∈ G'.pins, p.1 ∈ l := Sub.pins (P := fun n => n ∈ l) s h
end Vd

set_option Elab.async false
set_option linter.all false
set_option maxRecDepth 100000
set_option maxHeartbeats 4000000
/-! Vd, part 18: objects of own classes: fields, properties, methods, making them. -/
namespace Vd
open PySem PySem.Spec PyProof.Rows L2

/-! ### fields -/
section
variable {K : PySem.W.Frag} {F : Addr → Prop} {H : Hp}
theorem repF_look : ∀ {fs : List (Str × D)} {vs : List V} {fp : List Addr} {f : Str} {d : D}, RepF K F H fs vs fp → fs.lookup f = some d → noOwn d = true → ∃ v, ((fs.map (·.1)).zip vs).lookup f = some v ∧ Rep K F H d v []
  | [], vs, fp, f, d, h, e, n => by simp at e
  | (g, x) :: fs, vs, fp, f, d, h, e, n => by
    simp only [RepF] at h
    obtain ⟨v, r, f1, f2, rfl, rfl, h1, h2⟩ := h
    by_cases q : f = g
    · subst q
      have e' : x = d := by simpa using e
      subst e'
      have e1 := Rep.no x n v f1 h1
      subst e1
      exact ⟨v, by simp, h1⟩
    · have q' : (f == g) = false := by simpa using q
      simp only [List.lookup_cons, q'] at e
      obtain ⟨w, e1, e2⟩ := repF_look h2 e n
      exact ⟨w, by simp only [List.map_cons, List.zip_cons_cons, List.lookup_cons, q']; exact e1, e2⟩
theorem repF_none : ∀ {fs : List (Str × D)} {vs : List V} {fp : List Addr} {f : Str}, RepF K F H fs vs fp → fs.lookup f = none → ((fs.map (·.1)).zip vs).lookup f = none
  | [], vs, fp, f, h, e => by simp
  | (g, x) :: fs, vs, fp, f, h, e => by
    simp only [RepF] at h
    obtain ⟨v, r, f1, f2, rfl, rfl, h1, h2⟩ := h
    by_cases q : f = g
    · subst q; simp at e
    · have q' : (f == g) = false := by simpa using q
      simp only [List.lookup_cons, q'] at e
      simp only [List.map_cons, List.zip_cons_cons, List.lookup_cons, q']
      exact repF_none h2 e
theorem repF_len {fs : List (Str × D)} {vs : List V} {fp : List Addr} (h : RepF K F H fs vs fp) : fs.length = vs.length := by
  have := (repF_L.mp h).len
  simpa using this
def putFD (f : Str) (v : D) : List (Str × D) → List (Str × D)
  | [] => [(f, v)]
  | (g, x) :: r => if g = f then (g, v) :: r else (g, x) :: putFD f v r
theorem repF_put : ∀ {fs : List (Str × D)} {vs : List V} {fi fr : List Addr} {f : Str} {d : D} {y : V}, RepF K F H fs vs fi → Rep K F H d y fr → (fi ++ fr).Nodup →
    ∃ vs' f1, putF f y ((fs.map (·.1)).zip vs) = ((putFD f d fs).map (·.1)).zip vs' ∧ RepF K F H (putFD f d fs) vs' f1 ∧ f1.Nodup ∧ ∀ b ∈ f1, b ∈ fi ++ fr
  | [], vs, fi, fr, f, d, y, h, r, nd => by
    simp only [RepF] at h
    obtain ⟨rfl, rfl⟩ := h
    refine ⟨[y], fr, rfl, ?_, by simpa using nd, fun b hb => by simpa using hb⟩
    simp only [putFD, RepF]
    exact ⟨y, [], fr, [], rfl, by simp, r, rfl, rfl⟩
  | (g, x) :: fs, vs, fi, fr, f, d, y, h, r, nd => by
    simp only [RepF] at h
    obtain ⟨v, t, f1, f2, rfl, rfl, h1, h2⟩ := h
    have nd' : (f1 ++ (f2 ++ fr)).Nodup := by simpa using nd
    obtain ⟨n1, n2, n3⟩ := List.nodup_append.mp nd'
    by_cases q : g = f
    · subst q
      refine ⟨y :: t, fr ++ f2, by simp [putF, putFD], ?_, ?_, fun b hb => ?_⟩
      · simp only [putFD, if_true, RepF]
        exact ⟨y, t, fr, f2, rfl, rfl, r, h2⟩
      · rw [List.nodup_append] at n2 ⊢
        exact ⟨n2.2.1, n2.1, fun a ha b hb e => n2.2.2 b hb a ha e.symm⟩
      · rcases List.mem_append.mp hb with z | z <;> simp [z]
    · obtain ⟨vs', f3, e1, r3, n4, s3⟩ := repF_put (f := f) h2 r n2
      refine ⟨v :: vs', f1 ++ f3, by simp only [putF, putFD, q, if_false, List.map_cons, List.zip_cons_cons, e1], ?_, List.nodup_append.mpr ⟨n1, n4, fun a ha b hb e => n3 a ha b (s3 b hb) e⟩, fun b hb => ?_⟩
      · simp only [putFD, q, if_false, RepF]
        exact ⟨v, vs', f1, f3, rfl, rfl, h1, r3⟩
      · rcases List.mem_append.mp hb with z | z
        · simp [z]
        · have := s3 b z
          simp only [List.mem_append] at this ⊢
          rcases this with w | w <;> simp [w]
theorem Rep.ins_h {o : Bool} {c : Str} {fs : List (Str × D)} {x : V} {f : List Addr} (h : Rep K F H (.ins o c fs) x f) : ∃ a dx vs f', x = .ref a ∧ H a = some (.ins (He.ga K c) dx ((fs.map (·.1)).zip vs)) ∧ RepF K F H fs vs f' := by
  cases o with
  | true =>
    simp only [Rep] at h
    obtain ⟨a, dx, vs, f', e, _, h1, h2⟩ := h
    exact ⟨a, dx, vs, f', e, h1, h2⟩
  | false =>
    simp only [Rep] at h
    obtain ⟨a, dx, vs, e, _, _, h1, h2⟩ := h
    exact ⟨a, dx, vs, [], e, h1, h2⟩
end
def insAt (c : Str) (env : Ev) (r : R) (k : List (Str × D) → Prop) : Prop := match gr env r with
  | some (.ins _ c' fs) => c' = c ∧ k fs
  | _ => False
theorem insAt_of {K : PySem.W.Frag} {F : Addr → Prop} {H : Hp} {env : Ev} {σ : Sg} {fp f : List Addr} {r : R} {x : V} {c : Str} {k : List (Str × D) → Prop} (ho : Hold K F H env σ fp) (rp : RepR K F H σ r x f) (h : insAt c env r k) :
    ∃ a dx fs vs f', x = .ref a ∧ H a = some (.ins (He.ga K c) dx ((fs.map (·.1)).zip vs)) ∧ RepF K F H fs vs f' ∧ k fs := by
  unfold insAt at h
  split at h
  · rename_i o c' fs ed
    obtain ⟨rfl, h⟩ := h
    obtain ⟨g, rd, _⟩ := rp.get ho ed
    obtain ⟨a, dx, vs, f', e, h1, h2⟩ := rd.ins_h
    exact ⟨a, dx, fs, vs, f', e, h1, h2, h⟩
  · exact h.elim
def wFld (c f : Str) (w : W1) : W1 := fun env Φ => w env fun r e1 => insAt c e1 r fun fs => match fs.lookup f with
  | some d => noOwn d = true ∧ Φ (.tmp d) e1
  | none => False
section
variable {X : Cx} {G : Gh} {EW : EWt} {e o : Expr} {es : List Expr} {w wo : W1} {ws : WL} {ms : List Bool} {sp : SpD} {k : Nat} {c f m : Str} {p pos apos tpos : Pos} {x : Str}
theorem de_fld (hc : Cls X.K (He.ga X.K c)) (hn : NoAttr X.K (He.ga X.K c) f) (h : DE X G e w) (hb : attributeBase e f X.env (eval e X.env) = eval e X.env := by rfl) : DE X G (.Attribute e f pos) (wFld c f w) := by
  refine ⟨pe_imp (pe_fld h.pe hb) fun σ H Q ⟨env, F, fp, Φ, ho, en, hw, kk⟩ => ?_⟩
  refine ⟨env, F, fp, _, ho, en, hw, fun r e1 h1 y H1 F1 f1 g1 r1 => ?_⟩
  obtain ⟨a, dx, fs, vs, f', ey, ha, rf, h2⟩ := insAt_of r1.ho r1.rp h1
  split at h2
  · rename_i d ed
    obtain ⟨v, ev, rd⟩ := repF_look rf ed h2.1
    refine ⟨a, _, dx, _, v, ey, ha, hc, hn, ev, kk _ _ h2.2 v H1 F1 [] g1 ⟨res_drop r1, r1.ho, rd, List.nodup_nil, fun a ha => absurd ha (List.not_mem_nil)⟩⟩
  · exact h2.elim
/-- name.f = value -/
def insSl (c : Str) (env : Ev) (i : Nat) (k : List (Str × D) → Prop) : Prop := match gv env i with
  | some (.ins true c' fs) => c' = c ∧ k fs
  | _ => False
def wFldPut (mv : Bool) (c f : Str) (i : Nat) (w : W1) : WS := fun D env => w env fun r e1 => capM mv e1 r fun d e2 => insSl c e2 i fun fs => fs.length < 1000 ∧ D.nx (e2.set i (some (.ins true c (putFD f d fs))))
theorem ds_fldPut {mv : Bool} {i : Nat} (hc : Cls X.K (He.ga X.K c)) (hn : NoAttr X.K (He.ga X.K c) f) (hN : X.N[i]? = some x) (hv : Vis X.env.scope x) (h : DE X G e w) (hs : swapsWith e (some (.Attribute (.Name x p) f tpos)) pos.line X.env = pure false := by rfl)
    (hd : (x == ("__debug__" : Str)) = false := by decide) (hcd : (x == ("__classdict__" : Str)) = false := by decide) : DS X G (.Assign [.Attribute (.Name x p) f tpos] e pos) (wFldPut mv c f i w) := by
  refine ⟨ps_imp (ps_fld (pe_var (pos := p) hN hv hd hcd) h.pe hs) fun D σ H ⟨env, F, fp, Dd, ho, en, hw, ad⟩ => ?_⟩
  refine ⟨env, F, fp, _, ho, en, hw, fun r e1 h1 y H1 F1 f1 g1 r1 => ?_⟩
  obtain ⟨d, e2, F2, f2, g2, h2, r2⟩ := capM_go r1 h1
  unfold insSl at h2
  split at h2
  · rename_i c' fs ed
    obtain ⟨rfl, hl, hq⟩ := h2
    obtain ⟨a, fi, es, rp, nd, kw⟩ := wr_go r2 ed rfl
    simp only [Rep] at rp
    obtain ⟨a', dx, vs, f', ea, ef, ha, rf⟩ := rp
    cases ea
    cases ef
    obtain ⟨hna, nd2⟩ := List.nodup_cons.mp nd
    obtain ⟨vs', f3, e3, r3, n3, s3⟩ := repF_put (f := f) (d := d) rf r2.rp nd2
    obtain ⟨g', q⟩ := kw (.ins (He.ga X.K c') dx (((putFD f d fs).map (·.1)).zip vs')) (.ins true c' (putFD f d fs)) f3 .non .non [] True.intro (fun H2 kp e4 => by
      simp only [Rep]
      exact ⟨a, dx, vs', f3, rfl, rfl, e4, repF_L.mpr ((repF_L.mp r3).keep kp (fun _ z => z) fun b hb w => hna (w ▸ s3 b hb))⟩) rep_non (by simpa using n3) (fun b hb => s3 b (by simpa using hb))
    refine ⟨.ref a, es, a, _, dx, _, rfl, ha, hc, hn, ?_, ?_⟩
    · rw [List.length_zip, List.length_map]; omega
    · rw [e3]
      exact ad.nx _ σ _ F2 g' q.ho (en.go (res_drop q) fun _ h => h) hq
  · exact h2.elim
end
theorem spH_mono {K : PySem.W.Frag} {ms : List Bool} {sp : SpD} {vs : List V} {H : Hp} {Q : VK} {E E' : XK} (h : spH K ms sp vs H Q E) (k : ∀ c d H, E c d H → E' c d H) : spH K ms sp vs H Q E' := by
  obtain ⟨ds, F, fps, Q0, E0, h1, h2, h3, h4, h5, h6, h7⟩ := h
  exact ⟨ds, F, fps, Q0, E0, h1, h2, h3, h4, h5, h6, fun c fs outs he cls dd H' F' fpo a b c' d e f => k _ _ _ (h7 c fs outs he cls dd H' F' fpo a b c' d e f)⟩
/-! ### properties -/
def wProp (c : Str) (sp : SpD) (w : W1) : W1 := fun env Φ => w env fun r e1 => insAt c e1 r fun _ => prep [false] [r] e1 fun ds ef => sp ds (fun d os => Φ (.tmp d) (backE [false] [r] e1 ef d os)) (fun _ _ _ => False)
/-! ### methods -/
def wMeth (c m : Str) (ms : List Bool) (sp : SpD) (EW : EWt) (wo : W1) (ws : WL) : W1 := fun env Φ => wo env fun r0 e1 => (insAt c e1 r0 fun fs => fs.lookup m = none) ∧ ws e1 fun rs e2 => prep ms (r0 :: rs) e2 fun ds ef =>
  sp ds (fun d os => Φ (.tmp d) (backE ms (r0 :: rs) e2 ef d os)) (fun c fs os => EW c fs (putO ef (ioS ms (r0 :: rs)) os))
section
variable {X : Cx} {CX : CXT} {k : Nat} {f C : Addr} {fd : FuncData} {ps : List Str} {sp : Sp} {dvs : List V} {ds : List Value} {E : L2.St → XK} {m : Str} {p pos apos : Pos} {e o : Expr} {es : List Expr} {ta : TE} {t : TA}
def tMethSD (C : Addr) (m : Str) (sp : Sp) (E : L2.St → XK) (ta : TE) (t : TA) : TE := fun σ H Q => ta σ H fun x H1 => ∃ a dx fs, x = .ref a ∧ H1 a = some (.ins C dx fs) ∧ fs.lookup m = none ∧
  t σ H1 fun vs H2 => sp (x :: vs) H2 Q (E σ)
theorem pe_methSD {pl : Sem Bool} (he : PE X o ta) (c : Cls X.K C) (hm : Meth X.K C m f) (F : FnOk X.prog X.w X.K X.mg X.base CX k f fd ps sp) (hr : Room k X.A) (hb : Binds X.K fd ps []) (hx : ∀ σ, PassesAt CX X σ (E σ)) (ha : PA X (e :: es) t)
    (hst : starEach (e :: es) X.env = (false, eval e X.env) :: starEach es X.env := by rfl) (hpl : (backTo pos (starEach es X.env)).any (·.1) = false := by rfl)
    (ht : eval (.Call (.Attribute o m apos) (e :: es) [] pos) X.env = (do
      let ov ← eval o X.env
      standAt apos.atName
      let (f, first) ← holding [ov] (getMethod ov m pl)
      callWith pos f first (backTo pos (starEach (e :: es) X.env)) (backToKw pos (keywordEach [] X.env))) := by rfl) :
    PE X (.Call (.Attribute o m apos) (e :: es) [] pos) (tMethSD C m sp E ta t) := by
  refine ⟨fun pins s σ H Q I h => ?_⟩
  refine PySem.W.methodCall_KW (pl := pl) (thn (he.run pins s σ H _ I h) fun u s1 ⟨x, H1, I1, rx, a, dx, fs, ex, ea, l, q⟩ => ?_) ht
  subst ex
  obtain rfl : u = Value.ref a := rx
  refine getmeth_ok I1 ea c hm l ?_
  refine PySem.W.callWith_K (first := [.ref a]) (h₀ := X.base) I.ok.mod.kin hm.kp (thn (ha.run pos pins s1 σ H1 _ I1 q) fun us s2 ⟨vs, H2, I2, r, q2⟩ => ⟨I2.kIn, ?_⟩) hst hpl
  exact run_fnS (us := .ref a :: us) (vs := .ref a :: vs) F hr hb (hx σ) I2 (.cons rfl r) q2
theorem pe_methSD0 {pl : Sem Bool} (he : PE X o ta) (c : Cls X.K C) (hm : Meth X.K C m f) (F : FnOk X.prog X.w X.K X.mg X.base CX k f fd ps sp) (hr : Room k X.A) (hb : Binds X.K fd ps []) (hx : ∀ σ, PassesAt CX X σ (E σ))
    (ht : eval (.Call (.Attribute o m apos) [] [] pos) X.env = (do
      let ov ← eval o X.env
      standAt apos.atName
      let (f, first) ← holding [ov] (getMethod ov m pl)
      callWith pos f first (backTo pos (starEach [] X.env)) (backToKw pos (keywordEach [] X.env))) := by rfl) :
    PE X (.Call (.Attribute o m apos) [] [] pos) (tMethSD C m sp E ta tNil) := by
  refine ⟨fun pins s σ H Q I h => ?_⟩
  refine PySem.W.methodCall_KW (pl := pl) (thn (he.run pins s σ H _ I h) fun u s1 ⟨x, H1, I1, rx, a, dx, fs, ex, ea, l, q⟩ => ?_) ht
  subst ex
  obtain rfl : u = Value.ref a := rx
  refine getmeth_ok I1 ea c hm l ?_
  exact PySem.W.callWith_K0 (first := [.ref a]) I1.kIn hm.kp (run_fnS (us := [.ref a]) (vs := [.ref a]) F hr hb (hx σ) I1 (.cons rfl .nil) q)
end
/-- a method of a class of the text that keeps a promise on data -/
structure MOk (P : Program) (w : World) (K : PySem.W.Frag) (mg : Str → Option Value) (base : Heap) (k : Nat) (c m : Str) (n : Nat) (ms : List Bool) (sp : SpD) : Prop where
  ex : ∃ f fd ps, FnOk P w K mg base (L2N.CX P w) k f fd ps (spH K ms sp) ∧ Meth K (He.ga K c) m f ∧ Binds K fd ps [] ∧ ms.length = n
structure POk (P : Program) (w : World) (K : PySem.W.Frag) (mg : Str → Option Value) (base : Heap) (k : Nat) (c m : Str) (sp : SpD) : Prop where
  ex : ∃ pa g fd ps, FnOk P w K mg base (L2N.CX P w) k g fd ps (spH K [false] sp) ∧ PropOf K (He.ga K c) m pa g ∧ Binds K fd ps []
section
variable {X : Cx} {G : Gh} {EW : EWt} {e o : Expr} {es : List Expr} {w wo : W1} {ws : WL} {ms : List Bool} {sp : SpD} {k n : Nat} {c m : Str} {p pos apos : Pos}
theorem passN : Passes (L2N.CX X.prog X.w) X.nox (fun _ _ _ => False) := fun pins σ H s e s' I h => L2N.passAt (X := X.nox) (W := fun _ _ _ _ => False) takes0N σ pins H s e s' I h
theorem de_prop (d : POk X.prog X.w X.K X.mg X.base k c m sp) (hc : Cls X.K (He.ga X.K c)) (hr : Room (k + 1) X.A) (h : DE X G e w) (hb : attributeBase e m X.env (eval e X.env) = eval e X.env := by rfl) : DE X G (.Attribute e m pos) (wProp c sp w) := by
  obtain ⟨pa, g, fd, ps, F, hp, hbd⟩ := d.ex
  refine ⟨pe_imp (pe_prop (dvs := []) h.pe hc hp F hr hbd .nil passN hb) fun σ H Q ⟨env, F, fp, Φ, ho, en, hw, kk⟩ => ?_⟩
  refine ⟨env, F, fp, _, ho, en, hw, fun r e1 h1 y H1 F1 f1 g1 r1 => ?_⟩
  obtain ⟨a, dx, fs, vs, f', ey, ha, rf, h2⟩ := insAt_of r1.ho r1.rp h1
  refine ⟨a, dx, _, ey, ha, ?_⟩
  have C := ResL.cons r1 (ResL.nil r1.ho)
  rw [ey] at C
  have q := call_core (EW := fun _ _ _ => False) (dvs := []) (dvv := []) (fun _ _ => .nil) (by simp) en C (by simpa using h2) kk
  refine spH_mono (E := WE (WXof X.K G fun _ _ _ => False) σ) (by simpa using q) fun c d H z => ?_
  obtain ⟨_, _, _, _, _, _, _, _, z⟩ := z
  exact z
theorem meth_core {σ : Sg} {H : Hp} {Q : VK} (h : lE X.K G (wMeth c m ms sp EW wo ws) σ H Q) : lE X.K G wo σ H fun x H1 => ∃ a dx fs, x = .ref a ∧ H1 a = some (.ins (He.ga X.K c) dx fs) ∧ fs.lookup m = none ∧
    lA X.K G ws σ H1 fun vs H2 => spH X.K ms sp (x :: vs) H2 Q (WE (WXof X.K G EW) σ) := by
  obtain ⟨env, F, fp, Φ, ho, en, hw, kk⟩ := h
  refine ⟨env, F, fp, _, ho, en, hw, fun r e1 ⟨h0, h1⟩ y H1 F1 f1 g1 r1 => ?_⟩
  obtain ⟨a, dx, fs, vs, f', ey, ha, rf, h2⟩ := insAt_of r1.ho r1.rp h0
  refine ⟨a, dx, _, ey, ha, repF_none rf h2, ?_⟩
  have en1 := en.go (res_drop r1) fun _ h => h
  refine ⟨e1, F1, g1, _, r1.ho, en1, h1, fun rs e2 h3 xs H2 F2 f2 g2 r2 => ?_⟩
  have C := ResL.cons r1 r2
  have q := call_core (EW := EW) (dvs := []) (dvv := []) (fun _ _ => .nil) (by simp) en C (by simpa using h3) kk
  simpa using q
theorem de_meth {pl : Sem Bool} (d : MOk X.prog X.w X.K X.mg X.base k c m n ms sp) (hc : Cls X.K (He.ga X.K c)) (hr : Room k X.A) (tk : Tk X G EW) (ho : DE X G o wo) (ha : DA X G (e :: es) ws)
    (hst : starEach (e :: es) X.env = (false, eval e X.env) :: starEach es X.env := by rfl) (hpl : (backTo pos (starEach es X.env)).any (·.1) = false := by rfl)
    (ht : eval (.Call (.Attribute o m apos) (e :: es) [] pos) X.env = (do
      let ov ← eval o X.env
      standAt apos.atName
      let (f, first) ← holding [ov] (getMethod ov m pl)
      callWith pos f first (backTo pos (starEach (e :: es) X.env)) (backToKw pos (keywordEach [] X.env))) := by rfl) :
    DE X G (.Call (.Attribute o m apos) (e :: es) [] pos) (wMeth c m ms sp EW wo ws) := by
  obtain ⟨f, fd, ps, F, hm, hb, _⟩ := d.ex
  exact ⟨pe_imp (pe_methSD ho.pe hc hm F hr hb (fun σ => L2N.passAt tk σ) ha.pa hst hpl ht) fun σ H Q h => meth_core h⟩
theorem de_meth0 {pl : Sem Bool} (d : MOk X.prog X.w X.K X.mg X.base k c m n ms sp) (hc : Cls X.K (He.ga X.K c)) (hr : Room k X.A) (tk : Tk X G EW) (ho : DE X G o wo)
    (ht : eval (.Call (.Attribute o m apos) [] [] pos) X.env = (do
      let ov ← eval o X.env
      standAt apos.atName
      let (f, first) ← holding [ov] (getMethod ov m pl)
      callWith pos f first (backTo pos (starEach [] X.env)) (backToKw pos (keywordEach [] X.env))) := by rfl) :
    DE X G (.Call (.Attribute o m apos) [] [] pos) (wMeth c m ms sp EW wo wNil) := by
  obtain ⟨f, fd, ps, F, hm, hb, _⟩ := d.ex
  refine ⟨pe_imp (pe_methSD0 ho.pe hc hm F hr hb (fun σ => L2N.passAt tk σ) ht) fun σ H Q h => ?_⟩
  have key : lE X.K G wo σ H fun x H1 => ∃ a dx fs, x = .ref a ∧ H1 a = some (.ins (He.ga X.K c) dx fs) ∧ fs.lookup m = none ∧ spH X.K ms sp [x] H1 Q (WE (WXof X.K G EW) σ) := by
    obtain ⟨env, F, fp, Φ, ho, en, hw, kk⟩ := meth_core h
    refine ⟨env, F, fp, Φ, ho, en, hw, fun r env' hr x H' F' fpr fp' q => ?_⟩
    obtain ⟨a, dx, fs, e1, e2, e3, e4⟩ := kk r env' hr x H' F' fpr fp' q
    exact ⟨a, dx, fs, e1, e2, e3, lA_nil e4⟩
  exact key
end
end Vd

set_option Elab.async false
set_option linter.all false
set_option maxRecDepth 100000
set_option maxHeartbeats 4000000
/-! Vd, part 19: making objects; methods, getters, makers by their bodies; isinstance of own classes. -/
namespace Vd
open PySem PySem.Spec PyProof.Rows L2

section
variable {K : PySem.W.Frag} {F F' : Addr → Prop} {H H' : Hp}
theorem repE_app : ∀ {e : Ev} {σ : Sg} {f g : List Addr} {o : Option D} {s : Option V}, RepE K F H e σ f → RepO K F H o s g → RepE K F H (e ++ [o]) (σ ++ [s]) (f ++ g)
  | [], σ, f, g, o, s, h, r => by
    obtain ⟨rfl, rfl⟩ := h
    exact ⟨s, [], g, [], rfl, by simp, r, rfl, rfl⟩
  | d :: e, σ, f, g, o, s, h, r => by
    obtain ⟨s1, t, f1, f2, rfl, rfl, h1, h2⟩ := h
    exact ⟨s1, t ++ [s], f1, f2 ++ g, rfl, by simp, h1, repE_app h2 r⟩
theorem repE_split : ∀ {σ : Sg} {s : Option V} {env : Ev} {f : List Addr}, RepE K F H env (σ ++ [s]) f → ∃ ea o f1 f2, env = ea ++ [o] ∧ ea.length = σ.length ∧ f = f1 ++ f2 ∧ RepE K F H ea σ f1 ∧ RepO K F H o s f2
  | [], s, [], f, h => by have := h.1; simp at this
  | [], s, d :: e, f, h => by
    obtain ⟨s1, t, f1, f2, e1, rfl, h1, h2⟩ := h
    simp only [List.nil_append, List.cons.injEq] at e1
    obtain ⟨rfl, rfl⟩ := e1
    cases e with
    | nil =>
      obtain ⟨_, rfl⟩ := h2
      exact ⟨[], d, [], f1, rfl, rfl, by simp, ⟨rfl, rfl⟩, h1⟩
    | cons a b => obtain ⟨_, _, _, _, e2, _⟩ := h2; cases e2
  | x :: σ, s, [], f, h => by have := h.1; simp at this
  | x :: σ, s, d :: e, f, h => by
    obtain ⟨s1, t, f1, f2, e1, rfl, h1, h2⟩ := h
    simp only [List.cons_append, List.cons.injEq] at e1
    obtain ⟨rfl, rfl⟩ := e1
    obtain ⟨ea, o, g1, g2, rfl, hl, rfl, h3, h4⟩ := repE_split h2
    exact ⟨d :: ea, o, f1 ++ g1, g2, rfl, by simp [hl], by simp, ⟨x, σ, f1, g1, rfl, rfl, h1, h3⟩, h4⟩
theorem repRs_app {σ : Sg} {s : Option V} : ∀ {rs : List R} {xs : List V} {f : List Addr}, RepRs K F H σ rs xs f → RepRs K F H (σ ++ [s]) rs xs f
  | [], xs, f, h => h
  | .tmp d :: rs, xs, f, ⟨x, ys, f1, f2, e1, e2, h1, h2⟩ => ⟨x, ys, f1, f2, e1, e2, h1, repRs_app h2⟩
  | .plc i :: rs, xs, f, ⟨x, ys, f1, f2, e1, e2, ⟨h1, h1'⟩, h2⟩ => ⟨x, ys, f1, f2, e1, e2, ⟨by
      have hi : i < σ.length := (List.getElem?_eq_some_iff.mp h1).1
      rw [List.getElem?_append_left hi]; exact h1, h1'⟩, repRs_app h2⟩
theorem gv_app : ∀ {e : Ev} {o : Option D}, gv (e ++ [o]) e.length = o
  | [], o => rfl
  | d :: e, o => by simpa [gv] using gv_app (e := e)
end
/-! ### making -/
def wMake (c : Str) (ms : List Bool) (sp : SpD) (dvs : List D) (EW : EWt) (ws : WL) : W1 := fun env Φ => ws env fun rs e2 => prep (true :: ms) (.plc e2.length :: rs) (e2 ++ [some (.ins true c [])]) fun ds ef =>
  sp (ds ++ dvs) (fun d os => d = .non ∧ (fun e3 => match gv e3 e2.length with
    | some di => Φ (.tmp di) (e3.take e2.length)
    | none => False) (backE (true :: ms) (.plc e2.length :: rs) (e2 ++ [some (.ins true c [])]) ef d os)) (fun c fs os => EW c fs ((putO ef (ioS (true :: ms) (.plc e2.length :: rs)) os).take e2.length))
section
variable {X : Cx} {G : Gh} {EW : EWt} {ws : WL} {ms : List Bool} {sp : SpD} {dvs : List D} {dvv : List V} {c : Str}
theorem make_core {σ : Sg} {H : Hp} {Q : VK} (hd : ∀ F H, RepL X.K F H dvs dvv []) (hsel : ∀ xs : List V, sel ms (xs ++ dvv) = sel ms xs) (h : lE X.K G (wMake c ms sp dvs EW ws) σ H Q) :
    lA X.K G ws σ H fun vs H1 => ∀ x dx, H1 x = none → H1 dx = none → dx ≠ x → spH X.K (true :: ms) sp (.ref x :: (vs ++ dvv)) (upd (upd H1 dx (.own x)) x (.ins (He.ga X.K c) dx [])) (fun v H2 => v = .non ∧ Q (.ref x) H2) (WE (WXof X.K G EW) σ) := by
  obtain ⟨env, F, fp, Φ, ho, en, hw, kk⟩ := h
  refine ⟨env, F, fp, _, ho, en, hw, fun rs e2 h2 xs H2 F2 fpr fp2 r2 => ?_⟩
  intro x dx hx hdx hne
  have hlen := r2.ho.rep.len
  have nw : New H2 (upd (upd H2 dx (.own x)) x (.ins (He.ga X.K c) dx [])) [x] := ⟨fun a u e => by rw [upd_ne (ne_of_none e hx), upd_ne (ne_of_none e hdx)]; exact e, fun a ha => by rw [List.mem_singleton.mp ha]; exact hx, by simp⟩
  have rin : Rep X.K F2 (upd (upd H2 dx (.own x)) x (.ins (He.ga X.K c) dx [])) (.ins true c []) (.ref x) [x] := by
    simp only [Rep]
    exact ⟨x, dx, [], [], rfl, rfl, upd_same, by simp [RepF]⟩
  have ho2 : Hold X.K F2 (upd (upd H2 dx (.own x)) x (.ins (He.ga X.K c) dx [])) (e2 ++ [some (.ins true c [])]) (σ ++ [some (.ref x)]) (fp2 ++ [x]) := by
    refine ⟨repE_app (r2.ho.rep.keep nw.kps (fun _ z => z) fun _ _ z => z) ⟨_, rfl, rin⟩, List.nodup_append.mpr ⟨r2.ho.nd, by simp, fun a ha b hb e => ?_⟩, fun a ha z => ?_, fun a z q => r2.ho.fx a z (nw.live a q)⟩
    · rw [List.mem_singleton.mp hb] at e
      obtain ⟨o, eo, _⟩ := r2.ho.rep.mks a ha
      rw [e, hx] at eo; cases eo
    · rcases List.mem_append.mp ha with w | w
      · exact r2.ho.dis a w z
      · rw [List.mem_singleton.mp w] at z
        exact r2.ho.fx x z hx
  have C : ResL X.K F fp H F2 (upd (upd H2 dx (.own x)) x (.ins (He.ga X.K c) dx [])) (e2 ++ [some (.ins true c [])]) (σ ++ [some (.ref x)]) (.plc e2.length :: rs) (.ref x :: xs) fpr (fp2 ++ [x]) := by
    refine ⟨⟨fun a o e n => nw.keep a o (r2.st.keep a o e n), fun a z => r2.st.live a (nw.live a z), r2.st.mono, r2.st.nF, fun a z => ?_⟩, ho2, ?_, r2.nd, fun a ha => ⟨fun z => ?_, (r2.dj a ha).2⟩⟩
    · simp only [List.mem_append, List.mem_singleton] at z
      rcases z with z | z | z
      · exact r2.st.nfp a (List.mem_append_left _ z)
      · exact r2.st.nfp a (List.mem_append_right _ z)
      · rw [z]; exact .inr (r2.st.live x hx)
    · refine ⟨.ref x, xs, [], fpr, rfl, rfl, ⟨?_, rfl⟩, repRs_app (r2.rp.keep nw.kps (fun _ z => z) fun _ _ z => z)⟩
      rw [← hlen]
      simp
    · rcases List.mem_append.mp z with w | w
      · exact (r2.dj a ha).1 w
      · rw [List.mem_singleton.mp w] at ha
        have : ∀ {rs : List R} {xs : List V} {f : List Addr}, RepRs X.K F2 H2 σ rs xs f → Mks H2 f := by
          intro rs
          induction rs with
          | nil => intro xs f h; rw [h.2]; intro a ha; cases ha
          | cons r rs ih =>
            intro xs f h
            obtain ⟨v, ys, f1, f2, e1, e2, h1, h2⟩ := h
            subst e2
            intro a ha
            rcases List.mem_append.mp ha with z | z
            · exact h1.mks a z
            · exact ih h2 a z
        obtain ⟨o, eo, _⟩ := this r2.rp x ha
        rw [hx] at eo; cases eo
  have en2 : Ent G F fp H (σ ++ [some (.ref x)]) := ⟨en.st, fun p hp => by
    have e := en.pin p hp
    have hi : p.1 < σ.length := (List.getElem?_eq_some_iff.mp e).1
    rw [List.getElem?_append_left hi]; exact e⟩
  have q := call_core (X := X) (G := G) (EW := fun c fs env => EW c fs (env.take e2.length)) (ms := true :: ms) (sp := sp) (dvs := dvs) (dvv := dvv) (Q := fun v H2 => v = .non ∧ Q (.ref x) H2)
    (Φ := fun r e3 => r = .tmp .non ∧ match gv e3 e2.length with | some di => Φ (.tmp di) (e3.take e2.length) | none => False) hd
    (by show sel (true :: ms) (V.ref x :: (xs ++ dvv)) = sel (true :: ms) (V.ref x :: xs); show V.ref x :: sel ms (xs ++ dvv) = V.ref x :: sel ms xs; rw [hsel]) en2 C ?_ ?_
  · refine spH_mono (E := WE (WXof X.K G fun c fs env => EW c fs (env.take e2.length)) (σ ++ [some (.ref x)])) (by simpa only [List.cons_append] using q) fun cls dd H' z => ?_
    obtain ⟨env', F', fp', c', fs, z1, z2, z3, z4⟩ := z
    obtain ⟨ea, o, f1, f2, rfl, hl, rfl, h3, h4⟩ := repE_split z1.rep
    have ht : (ea ++ [o]).take e2.length = ea := by
      rw [← hlen, ← hl]; simp
    rw [ht] at z4
    exact ⟨ea, F', f1, c', fs, ⟨h3, (List.nodup_append.mp z1.nd).1, fun a ha => z1.dis a (List.mem_append_left _ ha), z1.fx⟩, ⟨z2.st.less fun a ha => List.mem_append_left _ ha, fun p hp => by
      have e := z2.pin p hp
      have hi : p.1 < σ.length := (List.getElem?_eq_some_iff.mp (en.pin p hp)).1
      rwa [List.getElem?_append_left hi] at e⟩, z3, z4⟩
  · -- the reading
    have mono : ∀ {ms : List Bool} {rs : List R} {e : Ev} {k k' : List D → Ev → Prop}, prep ms rs e k → (∀ ds e, k ds e → k' ds e) → prep ms rs e k' := by
      intro ms rs
      induction rs generalizing ms with
      | nil => intro e k k' h m; cases ms <;> exact m _ _ h
      | cons r rs ih =>
        intro e k k' h m
        cases ms with
        | nil => exact h
        | cons b ms =>
          cases b with
          | true =>
            cases r with
            | tmp d => exact h
            | plc j =>
              simp only [prep, take1] at h ⊢
              split at h
              · exact ih h fun ds e2 z => m _ _ z
              · exact h
          | false =>
            cases r with
            | tmp d =>
              simp only [prep, capz] at h ⊢
              split at h
              · rename_i n; simp only [n]; exact ih h fun ds e2 z => m _ _ z
              · rename_i n; simp only [n]; exact ih h fun ds e2 z => m _ _ z
            | plc j =>
              simp only [prep, capz] at h ⊢
              split at h
              · split at h
                · rename_i n; simp only [n]; exact ih h fun ds e2 z => m _ _ z
                · rename_i n; simp only [n]; exact ih h fun ds e2 z => m _ _ z
              · exact h
    refine mono h2 fun ds ef z => ?_
    have e : (fun (d : D) (os : List (Option D)) => d = .non ∧ (fun e3 => match gv e3 e2.length with | some di => Φ (.tmp di) (e3.take e2.length) | none => False) (backE (true :: ms) (.plc e2.length :: rs) (e2 ++ [some (.ins true c [])]) ef d os)) =
        (fun (d : D) (os : List (Option D)) => R.tmp d = .tmp .non ∧ match gv (backE (true :: ms) (.plc e2.length :: rs) (e2 ++ [some (.ins true c [])]) ef d os) e2.length with | some di => Φ (.tmp di) ((backE (true :: ms) (.plc e2.length :: rs) (e2 ++ [some (.ins true c [])]) ef d os).take e2.length) | none => False) := by
      funext d os
      simp only [R.tmp.injEq]
    rw [← e]
    exact z
  · rintro r env' ⟨rfl, h3⟩ x' H' F' fpr' fp' q'
    obtain ⟨ea, o, f1, f2, rfl, hl, rfl, h4, h5⟩ := repE_split q'.ho.rep
    have hn : ea.length = e2.length := by rw [hl, hlen]
    have ht : (ea ++ [o]).take e2.length = ea := by rw [← hn]; simp
    have hg : gv (ea ++ [o]) e2.length = o := by rw [← hn]; exact gv_app
    rw [hg, ht] at h3
    have rn : Rep X.K F' H' .non x' fpr' := q'.rp
    have ex : x' = .non := rn.non_v
    have ef : fpr' = [] := Rep.no .non (by simp [noOwn]) x' fpr' rn
    subst ef
    cases o with
    | none => exact h3.elim
    | some di =>
      obtain ⟨v, ev, rd⟩ := h5
      cases ev
      obtain ⟨m1, m2, m3⟩ := List.nodup_append.mp q'.ho.nd
      refine ⟨ex, kk _ _ h3 (.ref x) H' F' f2 f1 ⟨q'.st.less fun a ha => ?_, ⟨h4, m1, fun a ha => q'.ho.dis a (List.mem_append_left _ ha), q'.ho.fx⟩, rd, m2, fun a ha => ⟨fun z => m3 a z a ha rfl, q'.ho.dis a (List.mem_append_right _ ha)⟩⟩⟩
      simp only [List.nil_append, List.mem_append] at ha ⊢
      exact ha.symm
end
end Vd

set_option Elab.async false
set_option linter.all false
set_option maxRecDepth 100000
set_option maxHeartbeats 4000000
/-! Vd, part 20: makers called; methods, getters, makers by their bodies. -/
namespace Vd
open PySem PySem.Spec PyProof.Rows L2

section
variable {X : Cx} {CX : CXT} {k : Nat} {f C : Addr} {fd : FuncData} {ps : List Str} {sp : Sp} {dvs : List V} {ds : List Value} {E : L2.St → XK} {x : Str} {p pos : Pos} {e : Expr} {es : List Expr} {t : TA}
theorem run_makeSD {pins : List (Addr × Obj)} {σ : L2.St} {H : Hp} {s : Shared} {Q : VK} {us : List Value} {vs : List V} (M : L2.Mk X.K C f) (F : FnOk X.prog X.w X.K X.mg X.base CX k f fd ps sp) (hr : Room (k + 1) X.A) (hb : Binds X.K fd ps ds) (hd : Vals dvs ds)
    (hx : PassesAt CX X σ (E σ)) (I : Inv X pins σ H s) (r : Vals vs us)
    (h : ∀ x dx, H x = none → H dx = none → dx ≠ x → sp (.ref x :: (vs ++ dvs)) (upd (upd H dx (.own x)) x (.ins C dx [])) (fun v H2 => v = .non ∧ Q (.ref x) H2) (E σ)) :
    wpAny (model X.prog X.w) X.A (call (.ref C) us) (EP X pins σ Q) X.xe s := by
  have hq := h (s.heap.objs.size + 1) s.heap.objs.size (I.hok.fresh (Nat.le_succ _)) (I.hok.fresh (Nat.le_refl _)) (Nat.ne_of_lt (Nat.lt_succ_self _))
  have I2 := Inv.made (C := C) I
  have r2 : Vals (V.ref (s.heap.objs.size + 1) :: (vs ++ dvs)) (Value.ref (s.heap.objs.size + 1) :: (us ++ ds)) := .cons rfl (r.append hd)
  have hl : (Value.ref (s.heap.objs.size + 1) :: us ++ ds).length = ps.length := by
    have e := r2.length
    rw [F.len _ _ _ _ hq] at e
    exact e.symm
  refine wpAny_call (make_map (f := f) I.kIn M.makes M.init (beq_iff_eq.mp M.fn) (codeAny_mono (F.run _ X.stack _ _ ⟨Value.ref (s.heap.objs.size + 1) :: us, []⟩ (Value.ref (s.heap.objs.size + 1) :: (us ++ ds)) _ _ (E σ) (hr.make C us [])
    (I2.env0.make C us []) (hb _ (Value.ref (s.heap.objs.size + 1) :: us) I2.kIn hl) r2 hq) fun r s' hq' => ?_))
  cases r with
  | error e => exact hx pins _ _ e s' I2 hq'
  | ok fl =>
    cases fl with
    | ret u =>
      obtain ⟨v, H', I3, rv, ev, q3⟩ := I2.after hq'
      subst ev
      exact ⟨rv, ⟨V.ref (s.heap.objs.size + 1), H', I3, rfl, q3⟩⟩
    | next => exact False.elim hq'
    | brk => exact False.elim hq'
    | cont => exact False.elim hq'
def tMakeSD (C : Addr) (sp : Sp) (dvs : List V) (E : L2.St → XK) (t : TA) : TE := fun σ H Q => t σ H fun vs H1 => ∀ x dx, H1 x = none → H1 dx = none → dx ≠ x →
  sp (.ref x :: (vs ++ dvs)) (upd (upd H1 dx (.own x)) x (.ins C dx [])) (fun v H2 => v = .non ∧ Q (.ref x) H2) (E σ)
theorem pe_makeSD (M : L2.Mk X.K C f) (F : FnOk X.prog X.w X.K X.mg X.base CX k f fd ps sp) (hr : Room (k + 1) X.A) (hg : Gl X x) (hm : X.mg x = some (.ref C)) (hb : Binds X.K fd ps ds) (hd : Vals dvs ds) (hx : ∀ σ, PassesAt CX X σ (E σ))
    (ha : PA X (e :: es) t) (hdb : (x == ("__debug__" : Str)) = false := by decide) (he : starEach (e :: es) X.env = (false, eval e X.env) :: starEach es X.env := by rfl) (hpl : (backTo pos (starEach es X.env)).any (·.1) = false := by rfl) :
    PE X (.Call (.Name x p) (e :: es) [] pos) (tMakeSD C sp dvs E t) := by
  refine ⟨fun pins s σ H Q I h => ?_⟩
  refine wpAny_Call_Name_kw (ld_glob I hg hm ?_ hdb)
  refine PySem.W.callWith_K (h₀ := X.base) I.ok.mod.kin M.kp (thn (ha.run pos pins s σ H _ I h) fun us s1 ⟨vs, H1, I1, r, q⟩ => ⟨I1.kIn, ?_⟩) he hpl
  exact run_makeSD M F hr hb hd (hx σ) I1 r q
end
/-- a class whose __init__ keeps a promise on data -/
structure IOk (P : Program) (w : World) (K : PySem.W.Frag) (mg : Str → Option Value) (base : Heap) (k : Nat) (c : Str) (ms : List Bool) (sp : SpD) (dvs : List D) : Prop where
  ex : ∃ f fd ps ds dvv, FnOk P w K mg base (L2N.CX P w) k f fd ps (spH K (true :: ms) sp) ∧ L2.Mk K (He.ga K c) f ∧ Binds K fd ps ds ∧ Vals dvv ds ∧ (∀ F H, RepL K F H dvs dvv []) ∧ mg c = some (.ref (He.ga K c)) ∧ (∀ xs : List V, sel ms (xs ++ dvv) = sel ms xs)
section
variable {X : Cx} {G : Gh} {EW : EWt} {ws : WL} {ms : List Bool} {sp : SpD} {dvs : List D} {k : Nat} {c : Str} {p pos : Pos} {e : Expr} {es : List Expr}
theorem de_make (d : IOk X.prog X.w X.K X.mg X.base k c ms sp dvs) (hr : Room (k + 1) X.A) (hg : Gl X c) (tk : Tk X G EW) (ha : DA X G (e :: es) ws) (hdb : (c == ("__debug__" : Str)) = false := by decide)
    (he : starEach (e :: es) X.env = (false, eval e X.env) :: starEach es X.env := by rfl) (hpl : (backTo pos (starEach es X.env)).any (·.1) = false := by rfl) : DE X G (.Call (.Name c p) (e :: es) [] pos) (wMake c ms sp dvs EW ws) := by
  obtain ⟨f, fd, ps, ds, dvv, F, M, hb, hd, hdd, hm, hsel⟩ := d.ex
  exact ⟨pe_imp (pe_makeSD M F hr hg hm hb hd (fun σ => L2N.passAt tk σ) ha.pa hdb he hpl) fun σ H Q h => make_core hdd hsel h⟩
end
/-! ### by their bodies -/
/-- a method of the text -/
def MAt (K : PySem.W.Frag) (c m q : Str) (st : Stmt) : Prop := ∃ f fd, FunD K m q (defArgs st) (defBody st) (defScope st) [] [] f fd ∧ Meth K (He.ga K c) m f
def PAt (K : PySem.W.Frag) (c m q : Str) (st : Stmt) : Prop := ∃ pa f fd, FunD K m q (defArgs st) (defBody st) (defScope st) [] [] f fd ∧ PropOf K (He.ga K c) m pa f
def IAt (K : PySem.W.Frag) (mg : Str → Option Value) (c q : Str) (st : Stmt) : Prop := ∃ f fd, FunD K "__init__" q (defArgs st) (defBody st) (defScope st) [] [] f fd ∧ L2.Mk K (He.ga K c) f ∧ mg c = some (.ref (He.ga K c))
section
variable {P : Program} {w : World} {K : PySem.W.Frag} {mg : Str → Option Value} {base : Heap} {c m q : Str} {st : Stmt} {N ps : List Str} {k : Nat} {ms : List Bool} {sp : SpD} {wb : EWt → WS}
theorem mok_of (d : MAt K c m q st) (S : FnScope N ps (defScope st)) (hm : ms.length = ps.length) (len : ∀ ds Q E, sp ds Q E → ds.length = ps.length)
    (hbind : ∀ (kV doc pm : Value) (an : Option Addr) (cdv ct : Value) (us : List Value), us.length = ps.length → bindArgs (PySem.W.fnOf m q (defArgs st) (defBody st) (defScope st) .none kV doc pm an cdv ct) ⟨us, []⟩ = pure (ps.zip us))
    (hb : ∀ (f : Addr) (cdv : Value) (A : Around) (outer : List Env) (s : Shared) (H : Hp) (E : XK) (G : Gh) (EW : EWt), Room k (A.deeper (envOfC q (defScope st) s.heap.objs.size f cdv)) → (∀ p ∈ G.pins, p.1 ∈ ixs ms 0) →
      Tk (cxOf (L2N.CX P w) P w K mg base N q (defScope st) f cdv A outer s H E) G EW → DSs (cxOf (L2N.CX P w) P w K mg base N q (defScope st) f cdv A outer s H E) G (defBody st) (wb EW))
    (hw : ∀ ds Q E, sp ds Q E → wb (fun c fs env => E c fs (outs ms env)) (dEnd ms Q) (startE N ds)) : MOk P w K mg base (k + 1) c m ps.length ms sp := by
  obtain ⟨f, fd, F, M⟩ := d
  exact ⟨f, fd, ps, fd_ok F S hm len (hb f) hw, M, F.bindsN hbind, hm⟩
theorem pok_of (d : PAt K c m q st) (S : FnScope N ["self"] (defScope st)) (len : ∀ ds Q E, sp ds Q E → ds.length = 1)
    (hbind : ∀ (kV doc pm : Value) (an : Option Addr) (cdv ct : Value) (us : List Value), us.length = 1 → bindArgs (PySem.W.fnOf m q (defArgs st) (defBody st) (defScope st) .none kV doc pm an cdv ct) ⟨us, []⟩ = pure (((["self"] : List Str)).zip us))
    (hb : ∀ (f : Addr) (cdv : Value) (A : Around) (outer : List Env) (s : Shared) (H : Hp) (E : XK) (G : Gh) (EW : EWt), Room k (A.deeper (envOfC q (defScope st) s.heap.objs.size f cdv)) → (∀ p ∈ G.pins, p.1 ∈ ixs [false] 0) →
      Tk (cxOf (L2N.CX P w) P w K mg base N q (defScope st) f cdv A outer s H E) G EW → DSs (cxOf (L2N.CX P w) P w K mg base N q (defScope st) f cdv A outer s H E) G (defBody st) (wb EW))
    (hw : ∀ ds Q E, sp ds Q E → wb (fun c fs env => E c fs (outs [false] env)) (dEnd [false] Q) (startE N ds)) : POk P w K mg base (k + 1) c m sp := by
  obtain ⟨pa, f, fd, F, M⟩ := d
  exact ⟨pa, f, fd, ["self"], fd_ok F S rfl len (hb f) hw, M, F.bindsN hbind⟩
theorem iok_of (d : IAt K mg c q st) (S : FnScope N ps (defScope st)) (hm : (true :: ms).length = ps.length) (len : ∀ ds Q E, sp ds Q E → ds.length = ps.length)
    (hbind : ∀ (kV doc pm : Value) (an : Option Addr) (cdv ct : Value) (us : List Value), us.length = ps.length → bindArgs (PySem.W.fnOf "__init__" q (defArgs st) (defBody st) (defScope st) .none kV doc pm an cdv ct) ⟨us, []⟩ = pure (ps.zip us))
    (hb : ∀ (f : Addr) (cdv : Value) (A : Around) (outer : List Env) (s : Shared) (H : Hp) (E : XK) (G : Gh) (EW : EWt), Room k (A.deeper (envOfC q (defScope st) s.heap.objs.size f cdv)) → (∀ p ∈ G.pins, p.1 ∈ ixs (true :: ms) 0) →
      Tk (cxOf (L2N.CX P w) P w K mg base N q (defScope st) f cdv A outer s H E) G EW → DSs (cxOf (L2N.CX P w) P w K mg base N q (defScope st) f cdv A outer s H E) G (defBody st) (wb EW))
    (hw : ∀ ds Q E, sp ds Q E → wb (fun c fs env => E c fs (outs (true :: ms) env)) (dEnd (true :: ms) Q) (startE N ds)) : IOk P w K mg base (k + 1) c ms sp [] := by
  obtain ⟨f, fd, F, M, hmg⟩ := d
  exact ⟨f, fd, ps, [], [], fd_ok F S hm len (hb f) hw, M, F.bindsN hbind, .nil, fun _ _ => .nil, hmg, fun xs => by rw [List.append_nil]⟩
end
/-! ### isinstance of an own class -/
/-- what is asked of the class's place among the types -/
structure ClsT (K : PySem.W.Frag) (c : Str) : Prop where
  cl : Cls K (He.ga K c)
  ha : PySem.W.findIn K (.ref (He.ga K c)) "__class__" = some (some (.builtin "object.__class__"))
  hn : PySem.W.specialIn K (.builtin "object.__class__") "__get__" = some (some (.builtin "getset_descriptor.__get__"))
  htk : PySem.W.takesIn K (.builtin "object.__class__") = some true
  self : PySem.W.kitOne K (.ref (He.ga K c)) (.ref (He.ga K c)) = some true
  base : ∀ a ∈ ["NoneType", "bool", "int", "str", "tuple", "list"], PySem.W.kitOne K (.type a) (.ref (He.ga K c)) = some false
  mro : PySem.W.mroIn K (He.ga K c) (Value.type "object") = some true
def isCD (c : Str) (d : D) (k : Bool → Prop) : Prop := match d with
  | .ins _ c' _ => c' = c ∧ k true
  | d => match tyN d with
    | some _ => k false
    | none => False
def wIsC (c : Str) (w : W1) : W1 := fun env Φ => w env fun r e1 => match gr e1 r with
  | some d => isCD c d fun b => Φ (.tmp (.bl b)) e1
  | none => False
section
variable {X : Cx} {G : Gh} {e : Expr} {w : W1} {c : Str} {p p2 pos : Pos}
theorem de_isC (ct : ClsT X.K c) (hg : Gl X "isinstance") (hm : X.mg "isinstance" = none) (hgT : Gl X c) (hmT : X.mg c = some (.ref (He.ga X.K c))) (ha : DE X G e w) (hd : (c == ("__debug__" : Str)) = false := by decide)
    (hs : starEach [e, .Name c p2] X.env = (false, eval e X.env) :: starEach [.Name c p2] X.env := by rfl) (hs2 : starEach [.Name c p2] X.env = (false, eval (.Name c p2) X.env) :: starEach [] X.env := by rfl) (hpl : (backTo pos (starEach [.Name c p2] X.env)).any (·.1) = false := by rfl) :
    DE X G (.Call (.Name "isinstance" p) [e, .Name c p2] [] pos) (wIsC c w) := by
  refine ⟨pe_imp (pe_callB call_isi hg hm PyProof.Rows.boot_isinstance (pa_cons ha.pe (pa_cons (pe_glob (v := .ref (He.ga X.K c)) hgT hmT rfl hd) pa_nil hs2) hs) (he := hs) (hpl := hpl)) fun σ H Q ⟨env, F, fp, Φ, ho, en, hw, k⟩ => ?_⟩
  refine ⟨env, F, fp, _, ho, en, hw, fun r e1 h1 y H1 F1 f1 g1 r1 => ?_⟩
  split at h1
  · rename_i d ed
    obtain ⟨g, rp, _⟩ := r1.rp.get r1.ho ed
    unfold isCD at h1
    split at h1
    · rename_i o c' fs
      obtain ⟨rfl, h1⟩ := h1
      obtain ⟨a, dx, vs, f', ey, hax, _⟩ := rp.ins_h
      subst ey
      exact ⟨.ref a, .ref (He.ga X.K c'), .ref (He.ga X.K c'), .ref (He.ga X.K c'), true, rfl, .own _, .base (.ins hax ct.cl ct.ha ct.hn ct.htk ct.mro), ct.self, k _ _ h1 _ H1 F1 [] g1 (res_bl (res_drop r1) r1.ho)⟩
    · split at h1
      · rename_i a ea
        exact ⟨y, .ref (He.ga X.K c), .type a, .ref (He.ga X.K c), false, rfl, .own _, tyN_of rp ea, ct.base a (tyN_mem ea), k _ _ h1 _ H1 F1 [] g1 (res_bl (res_drop r1) r1.ho)⟩
      · exact h1.elim
  · exact h1.elim
end
end Vd

set_option Elab.async false
set_option linter.all false
set_option maxRecDepth 100000
set_option maxHeartbeats 4000000
/-! Vd, part 21: an own exception class under ValueError whose __init__ begins with super().__init__(e). -/
namespace Vd
open PySem PySem.Spec PyProof.Rows L2 PySem.W
/-- what super() asks of the def's frame and class -/
structure SupOk (X : Cx) (C : Addr) : Prop where
  hks : X.env.kindOf "super" = some .globalImplicit
  hkc : X.env.kindOf "__class__" = some .free
  hka : X.env.scope.names.lookup ("self" : Str) = some .local
  hN : X.N[0]? = some ("self" : Str)
  fn : ∃ (f : Addr) (oc : Value) (od : Option Addr) (fd : FuncData) (osl : Array (Option Value)) (ar : Arg), X.env.func = some f ∧ X.K.lookup f = some ⟨oc, od, .func fd, osl⟩ ∧ (fd.params.posonlyargs ++ fd.params.args).head? = some ar ∧ ar.arg = "self"
  code : ∃ (c : Addr) (oc : Value) (od : Option Addr) (vs : Array Value) (osl : Array (Option Value)) (file : Str) (tf : Tok), X.env.code = .ref c ∧ X.K.lookup c = some ⟨oc, od, .fields vs, osl⟩ ∧ vs[2]? = some (.str file tf) ∧ ((X.prog.main.file : Str) == file) = true
  cell : ∃ (cc : Addr) (oc : Value) (od : Option Addr) (osl : Array (Option Value)), X.env.cells.lookup ("__class__" : Str) = some cc ∧ X.K.lookup cc = some ⟨oc, od, .cell (some (.ref C)), osl⟩
  mg : X.mg "super" = none
  top : (X.prog.main.scope.names.lookup ("super" : Str)).isSome = false
  opq : PySem.W.nsIn X.K PySem.cStatics "thirdparty.any" = some none
  sup : PySem.W.ks_superIn X.K C C "__init__" = some (some (.builtin "ValueError.__init__"))
  sub : PySem.W.subIn X.K (.ref C) (.type "ValueError") = some true
  mro : PySem.W.mroIn X.K C (.ref C) = some true
theorem boot_superD : bootBuiltins "super" = some (.type "super") := by decide +kernel
section
variable {X : Cx} {σ : L2.St} {H : Hp} {s : Shared} {a C : Addr}
/-- super(), to the object that stands for it -/
theorem sup_base {body : List Stmt} {p0 p1 : Pos} {whole : Sem Value} {Q : Value → Shared → Prop} {E : Value → Shared → Prop} (S : SupOk X C) (T : OexC X.K C) (I : Inv X [] σ H s) (hs : σ[0]? = some (some (.ref a))) (ea : H a = some (exo a C none))
    (h : ∀ so s', Inv X [] σ H s' → s'.heap.get? so = some (ks_superObj C a C) → Q (.ref so) s') :
    _root_.PySem.wpAt (model X.prog X.w) X.A (.func body X.env) (attributeBase (.Call (.Name "super" p0) [] [] p1) "__init__" X.env whole) Q E s := by
  obtain ⟨f, oc, od, fd, osl, ar, e1, e2, e3, e4⟩ := S.fn
  obtain ⟨c, oc2, od2, vs, osl2, file, tf, c1, c2, c3, c4⟩ := S.code
  obtain ⟨cc, oc3, od3, osl3, d1, d2⟩ := S.cell
  obtain ⟨nm, q, N, bs, bm, sn, sub, ab, col, dd, k0, k1, k2, k3, k5, hC, hbm⟩ := T.cls
  have hCc := I.kIn _ _ hC
  obtain ⟨t1, ho⟩ := exo_at I.hok ea
  obtain ⟨m, hn, hl⟩ := I.loc
  obtain ⟨u, ru, lk⟩ := hl 0 "self" (.ref a) S.hN hs (.inl S.hka)
  obtain rfl : u = Value.ref a := ru
  have hm : m "self" = some (.ref a) := by
    rcases lk with ⟨_, hm⟩ | ⟨hk, _⟩
    · exact hm
    · have hka : X.env.kindOf "self" = some .local := S.hka
      rw [hka] at hk
      rcases hk with hk | hk <;> cases hk
  obtain ⟨mb, h1, h2⟩ := I.mod.blt
  have X2 : X.K.In s.heap := I.kIn
  obtain ⟨hh, g, d, t, os⟩ := s
  refine ks_wpAt_super_base (env := X.env) S.hks S.hkc rfl e1 (I.kIn _ _ e2) rfl e3 c1 (I.kIn _ _ c2) rfl c3 c4 S.top ?_
  refine ks_loadName_global I.ok.kind S.hks (Calls.loadGlobal_builtin (by rw [I.ok.glob]; exact I.mod.glob.keeps I.bk) S.mg (by rw [I.ok.blt]; exact h1.keeps I.bk) ((h2 "super" (by decide)).trans boot_superD) ⟨rfl, ?_⟩)
  refine wpAny_loadName_free I.ok.kind S.hkc d1 ⟨_, I.kIn _ _ d2, rfl⟩ ?_
  rw [e4]
  refine wpAny_loadName_local I.ok.kind S.hka hn hm ?_
  refine ks_wpAny_isType_cls hCc rfl ⟨rfl, ?_⟩
  refine ks_wpAny_call_super hCc rfl ho rfl (fun c e => by cases e) (looks_mroIn X2 S.mro) (fun h' e k => ?_)
  exact h _ _ (I.kept (t' := t) k) e
/-- the bound __init__ called -/
theorem mw_call {pins : List (Addr × Obj)} {u : Addr} {us : List Value} {Q : Value → Shared → Prop} {E : Value → Shared → Prop} {A : Around} (T : OexC X.K C) (I : Inv X pins σ H s) (e : H a = some (exo a C none)) (hu : s.heap.get? u = some (kxs_mw "ValueError.__init__" a)) (hl : us.length ≤ sizeLine)
    (h : ∀ s', Inv X pins σ H s' → Q .none s') : wpAny (model X.prog X.w) A (call (.ref u) us) Q E s := by
  obtain ⟨nm, q, N, bs, bm, sn, sub, ab, col, dd, k0, k1, k2, k3, k5, hC, hbm⟩ := T.cls
  obtain ⟨t1, ho⟩ := exo_at I.hok e
  have hCc := I.kIn _ _ hC
  obtain ⟨hp, g, d, t, os⟩ := s
  refine wpAny_call (codeAny_of_tree ?_)
  show wpAny _ A.in1 (callAny (.ref u) ⟨us, []⟩) _ _ _
  simp only [callAny]
  refine wpAny_bind (wpAny_load hu ?_)
  simp only [kxs_mw, show (Value.type "method-wrapper" == Value.type "method" || Value.type "method-wrapper" == Value.type "builtin_function_or_method" || Value.type "method-wrapper" == Value.type "method-wrapper") = true by decide, if_true]
  refine KFB.if_so (by decide) ?_
  refine wpAny_bind (check_bound_init F.excBase_ValueError.toExcCallFacts hCc ho rfl ?_)
  refine wpAny_bind (wpAny_pure (wpAny_pure ?_))
  refine ⟨plainId_quiet F.excBase_ValueError.init.plain _, codeAny_builtin F.excBase_ValueError.initEntry ?_⟩
  refine exc_init_tree (cls := .ref C) (t0 := t1) (dv := none) (c2 := .none) (c3 := .none) (b4 := .bool false) ho hl (fun h' k hx _ => ?_)
  have J := I.write (t' := t) (x := a) (e := a) (o := exo a C none) (by rw [e]; exact True.intro) (.inl rfl) k ⟨_, hx⟩ (exo_ok hx)
  have eu : upd H a (exo a C none) = H := by
    funext b
    by_cases hb : b = a
    · rw [hb, upd_same, e]
    · rw [upd_ne hb]
  rw [eu] at J
  exact h _ J
theorem exo_inst (T : OexC X.K C) {pins : List (Addr × Obj)} (I : Inv X pins σ H s) (e : H a = some (exo a C none)) : ∃ o, InstAt s.heap a o C none := by
  obtain ⟨t1, ho⟩ := exo_at I.hok e
  exact ⟨_, ho, rfl, rfl, trivial⟩
/-- super().__init__(e) -/
theorem sup_stmt {body : List Stmt} {e : Expr} {p0 p1 p2 p3 p4 : Pos} {te : TE} {Qn : Hp → Prop} {E : Value → Shared → Prop} {pl : Sem Bool} (S : SupOk X C) (T : OexC X.K C) (I : Inv X [] σ H s) (hs : σ[0]? = some (some (.ref a))) (ea : H a = some (exo a C none)) (hE : ∀ e s, X.xe e s → E e s) (he : PE X e te)
    (h : te σ H fun _ H1 => H1 a = some (exo a C none) ∧ Qn H1)
    (hi : interactive X.env = false := by rfl)
    (hc : eval (.Call (.Attribute (.Call (.Name "super" p0) [] [] p1) "__init__" p2) [e] [] p3) X.env = (do
      let ov ← attributeBase (.Call (.Name "super" p0) [] [] p1) "__init__" X.env (eval (.Call (.Name "super" p0) [] [] p1) X.env)
      standAt p2.atName
      let (f, first) ← holding [ov] (getMethod ov "__init__" pl)
      callWith p3 f first (backTo p3 (starEach [e] X.env)) []) := by rfl)
    (hst : starEach [e] X.env = (false, eval e X.env) :: starEach [] X.env := by rfl) (hpl : (backTo p3 (starEach [] X.env)).any (·.1) = false := by rfl) :
    _root_.PySem.wpAt (model X.prog X.w) X.A (.func body X.env) (exec (.Expr (.Call (.Attribute (.Call (.Name "super" p0) [] [] p1) "__init__" p2) [e] [] p3) p4) X.env) (fun f s' => f = .next ∧ ∃ H1, Inv X [] σ H1 s' ∧ Qn H1) E s := by
  refine ks_wpAt_Expr_any (ks_wpAt_MethodCall (pl := pl) (sup_base S T I hs ea fun so s1 I1 hso => ?_) hc) hi rfl
  obtain ⟨o, hI⟩ := exo_inst T I1 ea
  obtain ⟨nm, q, N, bs, bm, sn, sub, ab, col, dd, k0, k1, k2, k3, k5, hC, hbm⟩ := T.cls
  have hcl : PySem.W.clsIn X.K C = some { name := nm, bases := bs, mro := .ref C :: bm, ns := N, qualname := q, hasDict := true, slotNames := sn, subclasses := sub, abstract := ab, collection := col, hasDel := false } := by unfold PySem.W.clsIn; rw [hC] <;> rfl
  have X1 : X.K.In s1.heap := I1.kIn
  have hne : a ≠ C := ks_ne X1 hI hcl
  have hVE : Looks (model X.prog X.w) s1.heap (isInstance (.ref a) (.type "ValueError")) true := hI.type.andThen (looks_subIn X1 S.sub)
  have hsup := S.sup
  unfold ks_superIn at hsup
  rw [hcl] at hsup
  obtain ⟨hh, g, d, t, os⟩ := s1
  refine kxs_getMethod kxs_ValueError hso (looks_opaque X1 S.opq) (l₀ := .ref C :: bm) (fun A Q E s k q => wpAny_bind ((looks_clsIn X1 hcl) A _ E s k (wpAny_pure q))) rfl X1 hsup hVE hne rfl ?_
  -- the wrapper stands through the argument
  have I2 : Inv X [] σ H { heap := hh.push (kxs_mw "ValueError.__init__" a), gens := g, drawn := d, toks := t + 1, os := os } := I1.kept (fun b o e => Heap.get?_push_of_some _ e)
  have hu : (hh.push (kxs_mw "ValueError.__init__" a)).get? hh.objs.size = some (kxs_mw "ValueError.__init__" a) := Heap.get?_push_size _ rfl
  have I3 := I2.pinned (fp := [hh.objs.size]) (fun b hb => by
    have e : b = hh.objs.size := by simpa using hb
    subst e
    exact I1.fpOk (Nat.le_refl _) (I1.hok.fresh (Nat.le_refl _))) (fun b hb => by
    have e : b = hh.objs.size := by simpa using hb
    subst e
    exact ⟨_, hu, fun v z => nomatch z⟩)
  have hsp : wpAny (model X.prog X.w) X.A (spliced (backTo p3 (starEach [e] X.env))) (fun us s2 => ∃ x H1, Inv X ([] ++ pinsAt [hh.objs.size] (hh.push (kxs_mw "ValueError.__init__" a))) σ H1 s2 ∧ us.length ≤ 1 ∧ H1 a = some (exo a C none) ∧ Qn H1 ∧ (x : Unit) = ()) E { heap := hh.push (kxs_mw "ValueError.__init__" a), gens := g, drawn := d, toks := t + 1, os := os } := by
    have q := (pa_cons he pa_nil hst).run p3 _ _ σ H (fun vs H1 => vs.length = 1 ∧ H1 a = some (exo a C none) ∧ Qn H1) I3 (by
      have e2 : (fun x H1 => (tNil : TA) σ H1 fun vs H2 => (x :: vs).length = 1 ∧ H2 a = some (exo a C none) ∧ Qn H2) = (fun (_ : V) H1 => H1 a = some (exo a C none) ∧ Qn H1) := by
        funext x H1
        simp [tNil]
      show te σ H _
      rw [e2]
      exact h)
    refine wpAny_mono q (fun us s2 ⟨vs, H1, I4, r, hl, e5, e6⟩ => ⟨(), H1, I4, by rw [← r.length, hl]; exact Nat.le_refl _, e5, e6, rfl⟩) fun e s2 z => hE e s2 z
  rw [hst] at hsp ⊢
  refine kxs_callWith (i := "ValueError.__init__") (x := a) (by show (false || (backTo p3 (starEach [] X.env)).any (·.1)) = false; rw [hpl]; rfl) (PySem.Calls.evalArgs_plain (wpAny_mono hsp (fun us s2 ⟨_, H1, I4, hl, e5, e6, _⟩ => ?_) fun _ _ z => z))
  have hu2 : s2.heap.get? hh.objs.size = some (kxs_mw "ValueError.__init__" a) := (I4.pin (hh.objs.size, kxs_mw "ValueError.__init__" a) (List.mem_append_right _ (List.mem_append_right _ (mem_pinsAt (by simp) hu)))).1
  refine ⟨hu2, ?_⟩
  exact mw_call T I4.unpinned e5 hu2 (Nat.le_trans hl (by decide)) fun s' J => ⟨rfl, H1, J, e6⟩
end
end Vd

set_option Elab.async false
set_option linter.all false
set_option maxRecDepth 100000
set_option maxHeartbeats 4000000
/-! Vd, part 22: the __init__ of such a class, as a def that keeps a promise. -/
namespace Vd
open PySem PySem.Spec PyProof.Rows L2 NdefX
section
variable {CX : CXT} {P : Program} {w : World} {K : PySem.W.Frag} {mg : Str → Option Value} {base : Heap} {N ps : List Str} {F : NF} {f cc C : Addr} {k : Nat} {sp : Sp} {oc doc pm ctv ocl : Value} {od ocd : Option Addr} {osl ocs : Array (Option Value)}
theorem exi_fn {e : Expr} {p0 p1 p2 p3 p4 : Pos} {rest : List Stmt} (lk : K.lookup f = some ⟨oc, od, .func (F.fd doc pm ctv), osl⟩) (hcd : PySem.W.codeIn K (.ref F.c) F.qual = true) (S : NScope N ps ["__class__"] F.scope) (hcl : F.cl = [(("__class__" : Str), cc)])
    (hcc : K.lookup cc = some ⟨ocl, ocd, .cell (some (.ref C)), ocs⟩) (hbd : F.body = .Expr (.Call (.Attribute (.Call (.Name "super" p0) [] [] p1) "__init__" p2) [e] [] p3) p4 :: rest) (len : ∀ vs H Q E, sp vs H Q E → vs.length = ps.length)
    (hloc : ∀ x ∈ ps, F.scope.names.lookup x = some .local)
    (hbody : ∀ (A : Around) (outer : List Env) (s : Shared) (H : Hp) (vs : List V) (Q : VK) (E : XK), Room k (A.deeper (envF F f s.heap.objs.size)) → sp vs H Q E →
      ∃ (a : Addr) (te : TE) (tr : TS), vs.head? = some (.ref a) ∧ H a = some (exo a C none) ∧ SupOk (ncx CX P w K mg base N F f A outer s H E) C ∧ OexC K C ∧ PE (ncx CX P w K mg base N F f A outer s H E) e te ∧ PSs (ncx CX P w K mg base N F f A outer s H E) rest tr ∧
        te (startF N vs [some (.ref C)]) H fun _ H1 => H1 a = some (exo a C none) ∧ tr { nx := fun _ H' => Q .non H', rt := Q } (startF N vs [some (.ref C)]) H1)
    (hi : ∀ L, interactive (envF F f L) = false := by intro _; rfl)
    (hc : ∀ L, eval (.Call (.Attribute (.Call (.Name "super" p0) [] [] p1) "__init__" p2) [e] [] p3) (envF F f L) = (do
      let ov ← attributeBase (.Call (.Name "super" p0) [] [] p1) "__init__" (envF F f L) (eval (.Call (.Name "super" p0) [] [] p1) (envF F f L))
      standAt p2.atName
      let (f', first) ← holding [ov] (getMethod ov "__init__" (pure false))
      callWith p3 f' first (backTo p3 (starEach [e] (envF F f L))) []) := by intro _; rfl)
    (hst : ∀ L, starEach [e] (envF F f L) = (false, eval e (envF F f L)) :: starEach [] (envF F f L) := by intro _; rfl) (hpl : ∀ L, (backTo p3 (starEach [] (envF F f L))).any (·.1) = false := by intro _; rfl) :
    FnOk P w K mg base CX (k + 1) f (F.fd doc pm ctv) ps sp := by
  refine ⟨len, fun A outer s H args us vs Q E hr e0 hb r hsp => ?_⟩
  have hl := len _ _ _ _ hsp
  have KX : K.In s.heap := e0.mod.kin.keeps fun b o e => (e0.bs b o e).1
  have lim : s.heap.NoLimit := e0.mod.nolimit.keeps fun b o e => (e0.bs b o e).1
  refine ks_codeAny_call_defAt hr.depth (KX _ _ lk) rfl lim (PySem.W.codeRec_of KX hcd) rfl hb S.nocell (fun ⟨n, _⟩ hy => hloc n (List.of_mem_zip hy).1) (fun h₁ hns kp => ?_) S.co S.gen S.kind
  obtain ⟨a, te, tr, ehd, ea, so, T, pe, pr, hq⟩ := hbody A outer s H vs Q E (hr.deeper _) hsp
  have hcell : CellsAt F.cl ["__class__"] [some (V.ref C)] s.heap H := by
    rw [hcl]
    refine ⟨rfl, fun y c h => ?_, fun x y c h1 h2 => ?_, fun i y h => ?_⟩
    · by_cases e : y = ("__class__" : Str)
      · subst e
        have ec : cc = c := by simpa using h
        subst ec
        exact ⟨(e0.bs cc _ (e0.mod.kin _ _ hcc)).2, _, ⟨_, KX _ _ hcc, rfl⟩⟩
      · have e' : (y == ("__class__" : Str)) = false := by simpa using e
        simp [List.lookup_cons, e'] at h
    · by_cases e : x = ("__class__" : Str)
      · by_cases e2 : y = ("__class__" : Str)
        · rw [e, e2]
        · have e' : (y == ("__class__" : Str)) = false := by simpa using e2
          simp [List.lookup_cons, e'] at h2
      · have e' : (x == ("__class__" : Str)) = false := by simpa using e
        simp [List.lookup_cons, e'] at h1
    · cases i with
      | zero =>
        have ey : ("__class__" : Str) = y := by simpa using h
        subst ey
        refine ⟨cc, by simp, fun v hv => ?_⟩
        have ev : V.ref C = v := by simpa using hv
        subst ev
        exact ⟨.ref C, rfl, _, KX _ _ hcc, rfl⟩
      | succ i => simp at h
  have I : Inv (ncx CX P w K mg base N F f A outer s H E) [] (startF N vs [some (.ref C)]) H { s with heap := h₁, toks := s.toks + (ps.zip us).length } := inv_startN S hr.hd e0 hl r hcell hns kp
  have hs0 : (startF N vs [some (V.ref C)])[0]? = some (some (.ref a)) := by
    cases vs with
    | nil => simp at ehd
    | cons v vs =>
      have ev : v = .ref a := by simpa using ehd
      subst ev
      rfl
  have fin : ∀ {σ' : L2.St} {H' : Hp} {v : V} {u : Value} {s' : Shared}, Inv (ncx CX P w K mg base N F f A outer s H E) [] σ' H' s' → L2.RelV v u → Q v H' → CE outer P w H s Q u s' :=
    fun {σ' H' v u s'} J rv q => ⟨v, H', J.os, J.bare, J.base, J.hok, rv, q⟩
  show _root_.PySem.wpAt (model P w) _ (.func F.body (envF F f s.heap.objs.size)) (execs F.body (envF F f s.heap.objs.size)) _ _ _
  have go : ∀ body : List Stmt, _root_.PySem.wpAt (model P w) (A.deeper (envF F f s.heap.objs.size)) (.func body (envF F f s.heap.objs.size)) (execs (.Expr (.Call (.Attribute (.Call (.Name "super" p0) [] [] p1) "__init__" p2) [e] [] p3) p4 :: rest) (envF F f s.heap.objs.size))
      (fun fl s' => CR CX outer P w H s Q E (.ok (.ret (match fl with | .ret v => v | _ => .none))) s')
      (fun er s' => wpAny (model P w) (A.deeper (envF F f s.heap.objs.size)) (leaving (envF F f s.heap.objs.size) er) (fun _ s'' => CR CX outer P w H s Q E (.error er) s'') (fun e' s'' => CR CX outer P w H s Q E (.error e') s'') s')
      { s with heap := h₁, toks := s.toks + (ps.zip us).length } := fun body => by
    refine ks_wpAt_execs_cons (ks_wpAt_mono (sup_stmt (X := ncx CX P w K mg base N F f A outer s H E) (body := body) (pl := pure false) so T I hs0 ea (fun e s z => z) pe hq (hi _) (hc _) (hst _) (hpl _)) (fun fl s2 h2 => ?_) fun _ _ z => z)
    obtain ⟨rfl, H1, J, q⟩ := h2
    refine wpAt_of_wpAny (wpAny_mono (pr.run [] _ _ H1 _ J q) (fun fl s' hs => ?_) fun e s' hs => hs)
    cases fl with
    | ret u =>
      obtain ⟨v, σ', H', J, rv, q⟩ := hs
      exact fin J rv q
    | next =>
      obtain ⟨σ', H', J, q⟩ := hs
      exact fin (v := V.non) (u := Value.none) J rfl q
    | brk =>
      obtain ⟨_, _, _, q⟩ := hs
      exact False.elim q
    | cont =>
      obtain ⟨_, _, _, q⟩ := hs
      exact False.elim q
  rw [hbd]
  exact go _
end
end Vd

set_option Elab.async false
set_option linter.all false
set_option maxRecDepth 100000
set_option maxHeartbeats 4000000
/-! Vd, part 23: raise C(..). -/
namespace Vd
open PySem PySem.Spec PyProof.Rows L2 NdefX

theorem frzL_id_of : ∀ {xs : List D}, (∀ x ∈ xs, noOwn x = true → frz x = x) → noOwnL xs = true → frzL xs = xs
  | [], h, n => by simp [frzL]
  | x :: xs, h, n => by
    have n' : noOwn x = true ∧ noOwnL xs = true := by simpa [noOwnL] using n
    simp only [frzL]
    rw [h x (List.mem_cons_self ..) n'.1, frzL_id_of (fun y hy => h y (List.mem_cons_of_mem _ hy)) n'.2]
theorem frz_keys {α : Type} : ∀ {l l' : List (α × D)}, l.map (·.1) = l'.map (·.1) → l.map (·.2) = l'.map (·.2) → l = l'
  | [], [], _, _ => rfl
  | [], _ :: _, h, _ => by simp at h
  | _ :: _, [], h, _ => by simp at h
  | (a, b) :: l, (c, d) :: l', h1, h2 => by
    simp only [List.map_cons, List.cons.injEq] at h1 h2
    rw [h1.1, h2.1, frz_keys h1.2 h2.2]
theorem frz_id : ∀ d : D, noOwn d = true → frz d = d := by
  refine D.ind (by simp [frz]) (by simp [frz]) (by simp [frz]) (by simp [frz]) (by simp [frz]) ?_ ?_ ?_ ?_ ?_ ?_
  · intro xs ih n; simp only [frz, noOwn] at n ⊢; rw [frzL_id_of ih n]
  · intro o xs ih n
    cases o with
    | true => simp [noOwn] at n
    | false => simp only [frz]; rw [frzL_id_of ih (by simpa [noOwn] using n)]
  · intro o xs ih n
    cases o with
    | true => simp [noOwn] at n
    | false =>
      simp only [frz]
      have e : frzK xs = xs := frz_keys frzK_L.2 (by rw [frzK_L.1, frzL_id_of ih (by simpa [noOwn, noOwnK_L] using n)])
      rw [e]
  · intro o xs ih n
    cases o with
    | true => simp [noOwn] at n
    | false =>
      simp only [frz]
      have e : frzT xs = xs := frz_keys frzT_L.2 (by rw [frzT_L.1, frzL_id_of ih (by simpa [noOwn, noOwnT_L] using n)])
      rw [e]
  · intro o c xs ih n
    cases o with
    | true => simp [noOwn] at n
    | false =>
      simp only [frz]
      have e : frzF xs = xs := frz_keys frzF_L.2 (by rw [frzF_L.1, frzL_id_of ih (by simpa [noOwn, noOwnF_L] using n)])
      rw [e]
  · intro c xs ih n
    simp only [frz]
    have e : frzF xs = xs := frz_keys frzF_L.2 (by rw [frzF_L.1, frzL_id_of ih (by simpa [noOwn, noOwnF_L] using n)])
    rw [e]

/-! ### the fields behind the stores: the last one first -/
def fldsV (fl : List (Str × Nat)) (ys : List V) : List (Str × V) := (fl.map fun p => (p.1, ys.getD p.2 .non)).reverse
def fldsD (fl : List (Str × Nat)) (ds : List D) : List (Str × D) := (fl.map fun p => (p.1, ds.getD p.2 .non)).reverse
/-- what the __init__ of the class at C promises; ok: what the message asks of the arguments -/
def spX (K : PySem.W.Frag) (C : Addr) (n : Nat) (fl : List (Str × Nat)) (ok : List D → Prop) : Sp := fun vs H Q _ => ∃ (a : Addr) (ys : List V) (ds : List D) (F : Addr → Prop), vs = .ref a :: ys ∧ ds.length = n ∧ H a = some (exo a C none) ∧ RepL K F H ds ys [] ∧ (∀ b, F b → H b ≠ none) ∧ ¬ F a ∧ ok ds ∧
  ∀ H1 dx, (∀ b o, H b = some o → H1 b = some o) → H1 dx = none → dx ≠ a → Q .non (upd (upd H1 dx (exd dx (fldsV fl ys))) a (exo a C (some dx)))
def tOsts (K : PySem.W.Frag) : List (Str × Nat) → TS
  | [] => tNext
  | (f, i) :: r => tSeq (tOst K f (tVar 0) (tVar (i + 1))) (tOsts K r)
/-- the stores from a state with a dict -/
theorem tOsts_go {K : PySem.W.Frag} {C a dx : Addr} {σ : L2.St} {ys : List V} {D : Ends} (T : OexC K C) (h0 : σ[0]? = some (some (.ref a))) (hy : ∀ i y, ys[i]? = some y → σ[i + 1]? = some (some y)) (hne : dx ≠ a) :
    ∀ (fl done : List (Str × Nat)) (H : Hp), (∀ p ∈ fl, PySem.W.findIn K (.ref C) p.1 = some none ∧ p.2 < ys.length) → H a = some (exo a C (some dx)) → H dx = some (exd dx (fldsV done ys)) → done.length + fl.length ≤ 900 →
      D.nx σ (upd H dx (exd dx (fldsV (done ++ fl) ys))) → tOsts K fl D σ H
  | [], done, H, hf, ha, hd, hl, k => by
    have e : upd H dx (exd dx (fldsV (done ++ []) ys)) = H := by
      funext b
      by_cases hb : b = dx
      · rw [hb, upd_same, List.append_nil, hd]
      · rw [upd_ne hb]
    rw [e] at k
    exact k
  | (f, i) :: r, done, H, hf, ha, hd, hl, k => by
    obtain ⟨hno, hi⟩ := hf (f, i) (List.mem_cons_self ..)
    have hyi : ys[i]? = some ys[i] := List.getElem?_eq_getElem hi
    refine ⟨ys[i], hy i _ hyi, .ref a, h0, a, C, rfl, T, hno, .inr ⟨dx, fldsV done ys, ha, hd, by simp [fldsV]; simp at hl; omega, ?_⟩⟩
    have e1 : (f, ys[i]) :: fldsV done ys = fldsV (done ++ [(f, i)]) ys := by
      simp only [fldsV, List.map_append, List.map_cons, List.map_nil, List.reverse_append, List.reverse_cons, List.reverse_nil, List.nil_append, List.cons_append, List.getD_eq_getElem?_getD, hyi, Option.getD_some]
    rw [e1]
    refine tOsts_go T h0 hy hne r (done ++ [(f, i)]) _ (fun p hp => hf p (List.mem_cons_of_mem _ hp)) (by rw [upd_ne (Ne.symm hne)]; exact ha) upd_same (by simp at hl ⊢; omega) ?_
    have e2 : upd (upd H dx (exd dx (fldsV (done ++ [(f, i)]) ys))) dx (exd dx (fldsV (done ++ [(f, i)] ++ r) ys)) = upd H dx (exd dx (fldsV (done ++ (f, i) :: r) ys)) := by
      funext b
      by_cases hb : b = dx
      · rw [hb, upd_same, upd_same]; simp
      · rw [upd_ne hb, upd_ne hb, upd_ne hb]
    rw [e2]
    exact k
theorem tOsts_first {K : PySem.W.Frag} {C a : Addr} {σ : L2.St} {ys : List V} {D : Ends} {f : Str} {i : Nat} {fl : List (Str × Nat)} {H : Hp} (T : OexC K C) (h0 : σ[0]? = some (some (.ref a))) (hy : ∀ i y, ys[i]? = some y → σ[i + 1]? = some (some y))
    (hf : ∀ p ∈ (f, i) :: fl, PySem.W.findIn K (.ref C) p.1 = some none ∧ p.2 < ys.length) (ha : H a = some (exo a C none)) (hl : fl.length < 900)
    (k : ∀ dx, H dx = none → dx ≠ a → D.nx σ (upd (upd H dx (exd dx (fldsV ((f, i) :: fl) ys))) a (exo a C (some dx)))) : tOsts K ((f, i) :: fl) D σ H := by
  obtain ⟨hno, hi⟩ := hf (f, i) (List.mem_cons_self ..)
  have hyi : ys[i]? = some ys[i] := List.getElem?_eq_getElem hi
  refine ⟨ys[i], hy i _ hyi, .ref a, h0, a, C, rfl, T, hno, .inl ⟨ha, fun dx hn hne => ?_⟩⟩
  have e1 : [(f, ys[i])] = fldsV [(f, i)] ys := by simp [fldsV, List.getD_eq_getElem?_getD, hyi]
  rw [e1]
  refine tOsts_go T h0 hy hne fl [(f, i)] _ (fun p hp => hf p (List.mem_cons_of_mem _ hp)) upd_same (by rw [upd_ne hne, upd_same]) (by simp; omega) ?_
  have e2 : upd (upd (upd H dx (exd dx (fldsV [(f, i)] ys))) a (exo a C (some dx))) dx (exd dx (fldsV ([(f, i)] ++ fl) ys)) = upd (upd H dx (exd dx (fldsV ((f, i) :: fl) ys))) a (exo a C (some dx)) := by
    funext b
    by_cases hb : b = dx
    · subst hb; rw [upd_same, upd_ne hne, upd_same]; rfl
    · rw [upd_ne hb]
      by_cases hb2 : b = a
      · subst hb2; rw [upd_same, upd_same]
      · rw [upd_ne hb2, upd_ne hb2, upd_ne hb, upd_ne hb]
  rw [e2]
  exact k dx hn hne
/-- a class of errors of the text, its __init__ keeping its promise -/
structure XOk (P : Program) (w : World) (K : PySem.W.Frag) (mg : Str → Option Value) (base : Heap) (k : Nat) (c : Str) (n : Nat) (fl : List (Str × Nat)) (ok : List D → Prop) : Prop where
  ex : ∃ f fd ps, FnOk P w K mg base (L2N.CX P w) k f fd ps (spX K (He.ga K c) n fl ok) ∧ OexC K (He.ga K c) ∧ PySem.W.findIn K (.ref (He.ga K c)) "__init__" = some (some (.ref f)) ∧ PySem.W.typeIn K (.ref f) = some (.type "function") ∧ Binds K fd ps [] ∧ mg c = some (.ref (He.ga K c))
def wRaise (EW : EWt) (c : Str) (n : Nat) (fl : List (Str × Nat)) (ok : List D → Prop) (ws : WL) : WS := fun _ env => ws env fun rs e2 => capL e2 rs fun ds e3 => ds.length = n ∧ ok (frzL ds) ∧ EW c (fldsD fl (frzL ds)) e3
theorem zip_rev {ds : List D} {ys : List V} : ∀ fl : List (Str × Nat), (fl.map ((fun x => x.1) ∘ fun p : Str × Nat => (p.1, ds.getD p.2 D.non))).reverse.zip (fl.map fun p => ys.getD p.2 V.non).reverse = (fl.map fun p => (p.1, ys.getD p.2 V.non)).reverse
  | [] => rfl
  | p :: fl => by
    simp only [List.map_cons, List.reverse_cons]
    rw [List.zip_append (by simp), zip_rev fl]
    rfl
theorem repF_flds {K : PySem.W.Frag} {F : Addr → Prop} {H : Hp} {ds : List D} {ys : List V} (h : RepL K F H ds ys []) : ∀ {fl : List (Str × Nat)}, (∀ p ∈ fl, p.2 < ds.length) → ∃ vs, fldsV fl ys = ((fldsD fl ds).map (·.1)).zip vs ∧ RepF K F H (fldsD fl ds) vs [] := by
  intro fl hf
  refine ⟨(fl.map fun p => ys.getD p.2 .non).reverse, ?_, ?_⟩
  · unfold fldsV fldsD
    rw [List.map_reverse, List.map_map]
    exact (zip_rev fl).symm
  · refine repF_L.mpr ?_
    have e : (fldsD fl ds).map (·.2) = (fl.map fun p => ds.getD p.2 .non).reverse := by
      unfold fldsD
      rw [List.map_reverse, List.map_map]
      rfl
    rw [e]
    clear e
    refine RepL.rev ?_
    induction fl with
    | nil => exact RepL.nil
    | cons p fl ih =>
      have hp := hf p (List.mem_cons_self ..)
      have ed : ds[p.2]? = some ds[p.2] := List.getElem?_eq_getElem hp
      obtain ⟨v, g, ev, rd, sub⟩ := h.get ed
      have eg : g = [] := List.eq_nil_iff_forall_not_mem.mpr fun a ha => absurd (sub a ha) (List.not_mem_nil)
      subst eg
      have := RepL.cons (K := K) (F := F) (H := H) (x := ds.getD p.2 .non) (v := ys.getD p.2 .non) (by simpa [List.getD_eq_getElem?_getD, ed, ev] using rd) (ih fun q hq => hf q (List.mem_cons_of_mem _ hq))
      simpa using this
/-- C(e, ..), the context of the made error None -/
theorem pmk_oexN {X : Cx} {CX : CXT} {x : Str} {e : Expr} {es : List Expr} {ta : TA} {p pos : Pos} {C fI : Addr} {k : Nat} {fd : FuncData} {ps : List Str} {sp : Sp} (T : OexC X.K C) (iC : PySem.W.findIn X.K (.ref C) "__init__" = some (some (.ref fI))) (tI : PySem.W.typeIn X.K (.ref fI) = some (.type "function"))
    (F1 : FnOk X.prog X.w X.K X.mg X.base CX k fI fd ps sp) (hr : Room (k + 1) X.A) (hb : Binds X.K fd ps []) (hx : Passes CX X (fun _ _ _ => False)) (hg : Gl X x) (hm : X.mg x = some (.ref C)) (ha : PA X (e :: es) ta)
    (hdb : (x == ("__debug__" : Str)) = false := by decide) (he : starEach (e :: es) X.env = (false, eval e X.env) :: starEach es X.env := by rfl) (hpl : (backTo pos (starEach es X.env)).any (·.1) = false := by rfl) :
    L2N.PMk X (.Call (.Name x p) (e :: es) [] pos) (tMkO C sp [] ta) := by
  intro pins s σ H Q I h
  obtain ⟨nm, q, N, bs, bm, sn, sub, ab, col, dd, k0, k1, k2, k3, k5, hC, hbm⟩ := T.cls
  refine wpAny_Call_Name_kw (ld_glob I hg hm ?_ hdb)
  refine PySem.W.callWith_K (h₀ := X.base) I.ok.mod.kin T.kC (thn (ha.run pos pins s σ H _ I h) fun us s1 ⟨vs, H1, I1, r1, hz, q1⟩ => ⟨I1.kIn, ?_⟩) he hpl
  show wpAny _ _ (call (.ref C) us) _ _ _
  obtain ⟨hp, g, dr, tk, os⟩ := s1
  have up : hp.objs.size ≤ hp.objs.size + 1 := Nat.le_succ _
  have q0 := q1 (hp.objs.size + 1) (I1.hok.fresh up)
  rw [List.append_nil] at q0
  have kk : ∀ b o, hp.get? b = some o → ((hp.push (PySem.W.kdv_tup us)).push (PySem.HandSPX.excO C hp.objs.size)).get? b = some o := fun b o e => Heap.get?_push_of_some _ (Heap.get?_push_of_some _ e)
  have I2 : Inv X pins σ (upd H1 (hp.objs.size + 1) (exo (hp.objs.size + 1) C none)) ⟨(hp.push (PySem.W.kdv_tup us)).push (PySem.HandSPX.excO C hp.objs.size), g, dr, tk, os⟩ := I1.laid (t' := tk) (o := exo (hp.objs.size + 1) C none) kk up (exo_ok (by heap_get))
  have r2 : Vals (V.ref (hp.objs.size + 1) :: vs) (Value.ref (hp.objs.size + 1) :: us) := .cons rfl r1
  have hl : (Value.ref (hp.objs.size + 1) :: us ++ []).length = ps.length := by
    rw [List.append_nil, ← r2.length]
    exact F1.len _ _ _ _ q0
  have hus : us.length ≤ sizeLine := by
    rw [← Paired.length r1, sizeLine_eq]
    omega
  have b2 := hb _ (Value.ref (hp.objs.size + 1) :: us) I2.kIn hl
  rw [List.append_nil] at b2
  refine wpAny_call (PySem.HandSPX.call_own F.excBase_ValueError (fun Y => PySem.HandSPX.refsVE_contains Y bm hbm) (I1.kIn _ _ hC) (PySem.W.looks_findIn I1.kIn iC) (fun self => PySem.W.bind_fn I1.kIn self tI) hus
    (codeAny_mono (F1.run _ X.stack _ _ ⟨Value.ref (hp.objs.size + 1) :: us, []⟩ (Value.ref (hp.objs.size + 1) :: us) _ _ (fun _ _ _ => False) (hr.make C us []) (I2.env0.make C us []) b2 r2 q0) fun r s' z => ?_))
  cases r with
  | error er => exact hx pins σ _ _ er s' I2 z
  | ok fl =>
    cases fl with
    | ret u =>
      obtain ⟨v, H2, os2, bare2, un2, hok2, rv, ev, d, fs, ea, ed, hd1, q2⟩ := z
      subst ev
      obtain ⟨h2, g2, d2, t2, os'⟩ := s'
      obtain ⟨t0, G, J, kG, ge, hoe, na⟩ := mk_end0 (d2 := d2) (t2 := t2) I1 up kk un2 hok2 os2 bare2 ea ed hd1
      exact ⟨rv, hp.objs.size + 1, _, _, ⟨G, g2, d2, t2, os'⟩, _, .ref C, some d, rfl, J, kG, ge, hoe, ⟨rfl, rfl, fun vs hv => by cases hv; rfl⟩, rfl, rfl, na, rfl, bare2, raises_own T.exC T.tyC, q2⟩
    | next => exact False.elim z
    | brk => exact False.elim z
    | cont => exact False.elim z
section
variable {X : Cx} {G : Gh} {EW : EWt} {c : Str} {n k : Nat} {fl : List (Str × Nat)} {ok : List D → Prop} {e : Expr} {es : List Expr} {ws : WL} {p pos cpos : Pos}
theorem ds_raise (d : XOk X.prog X.w X.K X.mg X.base k c n fl ok) (hcalm : X.calm = true) (hr : Room (k + 1) X.A) (hg : Gl X c) (tk : Tk X G EW) (hn : n ≤ 1000) (hfl : ∀ p ∈ fl, p.2 < n) (ha : DA X G (e :: es) ws) (hdb : (c == ("__debug__" : Str)) = false := by decide)
    (he : starEach (e :: es) X.env = (false, eval e X.env) :: starEach es X.env := by rfl) (hpl : (backTo cpos (starEach es X.env)).any (·.1) = false := by rfl) :
    DS X G (.Raise (some (.Call (.Name c p) (e :: es) [] cpos)) none pos) (wRaise EW c n fl ok ws) := by
  obtain ⟨f, fd, ps, F, T, hi, ht, hb, hm⟩ := d.ex
  refine ⟨ps_imp (L2N.ps_raise hcalm tk (pmk_oexN T hi ht F hr hb (fun pins σ H s e s' I h => L2N.passAt (X := X) (W := fun _ _ _ _ => False) takes0N σ pins H s e s' I h) hg hm ha.pa hdb he hpl)) fun D σ H ⟨env, F, fp, Dd, ho, en, hw, ad⟩ => ?_⟩
  refine ⟨env, F, fp, _, ho, en, hw, fun rs e2 h2 xs H2 F2 fpr fp2 r2 => ?_⟩
  obtain ⟨ds, e3, F3, fd', g3, ⟨hl, hok, hE⟩, q2, q3, q4, q5, q6, q7, q8, q9⟩ := capL_go rs r2.ho r2.rp r2.nd r2.dj h2
  refine ⟨by rw [← q3.len, hl]; exact hn, fun a hna => ?_⟩
  -- everything frozen
  have rz : RepL X.K (fun b => F3 b ∨ b ∈ fd') H2 (frzL ds) xs [] := q3.frz (fun b z => .inl z) fun b hb => .inr hb
  have fx : ∀ b, (F3 b ∨ b ∈ fd') → H2 b ≠ none := fun b z => z.elim (q2.fx b) fun w q => by
    obtain ⟨o, eo, _⟩ := q3.mks b w
    rw [eo] at q; cases q
  have nw : ∀ o : HO, Kps (fun _ => False) (fun b => F3 b ∨ b ∈ fd') H2 (upd H2 a o) := fun o => ⟨fun b u eb _ => by rw [upd_ne (ne_of_none eb hna)]; exact eb, fun _ z => z.elim, fun _ _ z => z⟩
  refine ⟨a, xs, frzL ds, fun b => F3 b ∨ b ∈ fd', by simp, by rw [frzL_map, List.length_map]; exact hl, upd_same, rz.keep (nw _) (fun _ z => z) (fun _ _ z => z), fun b z => ?_, fun z => fx a z hna, hok, fun H1 dx kp hdx hne => ?_⟩
  · by_cases hb : b = a
    · rw [hb, upd_same]; exact fun q => by cases q
    · rw [upd_ne hb]; exact fx b z
  · have kp2 : ∀ b o, H2 b = some o → H1 b = some o := fun b o eb => kp b o (by rw [upd_ne (ne_of_none eb hna)]; exact eb)
    have hdx2 : H2 dx = none := by
      cases q : H2 dx with
      | none => rfl
      | some o => rw [kp2 dx o q] at hdx; cases hdx
    refine ⟨rfl, dx, fldsV fl xs, upd_same, by rw [upd_ne hne, upd_same], hdx2, ?_⟩
    -- the heap behind
    have hn3 : ∀ b o, H2 b = some o → (upd (del (upd (upd H1 dx (exd dx (fldsV fl xs))) a (exo a (He.ga X.K c) (some dx))) a) dx (.xd (fldsV fl xs))) b = some o := fun b o eb => by
      have hb1 : b ≠ dx := fun z => by rw [z, hdx2] at eb; cases eb
      have hb2 : b ≠ a := fun z => by rw [z, hna] at eb; cases eb
      rw [upd_ne hb1, del_ne hb2, upd_ne hb2, upd_ne hb1]
      exact kp2 b o eb
    have live : ∀ b, (upd (del (upd (upd H1 dx (exd dx (fldsV fl xs))) a (exo a (He.ga X.K c) (some dx))) a) dx (.xd (fldsV fl xs))) b = none → H2 b = none := fun b z => by
      cases q : H2 b with
      | none => rfl
      | some o => rw [hn3 b o q] at z; cases z
    have ks : Kps (fun _ => False) (fun b => F3 b ∨ b ∈ fd') H2 (upd (del (upd (upd H1 dx (exd dx (fldsV fl xs))) a (exo a (He.ga X.K c) (some dx))) a) dx (.xd (fldsV fl xs))) := ⟨fun b o eb _ => hn3 b o eb, fun _ z => z.elim, fun _ _ z => z⟩
    have ks3 : Kps (fun _ => False) F3 H2 (upd (del (upd (upd H1 dx (exd dx (fldsV fl xs))) a (exo a (He.ga X.K c) (some dx))) a) dx (.xd (fldsV fl xs))) := ⟨fun b o eb _ => hn3 b o eb, fun _ z => z.elim, fun _ _ z => z⟩
    have rz2 := rz.keep ks (fun _ z => z) (fun _ _ z => z)
    obtain ⟨vs, ev, rf⟩ := repF_flds rz2 (fl := fl) (fun q hq => by rw [frzL_map, List.length_map, hl]; exact hfl q hq)
    have stp := stp_cap r2.st q6 q7 q8 q9
    refine ⟨e3, fun b => F3 b ∨ b ∈ fd', g3, c, fldsD fl (frzL ds), ⟨q2.rep.keep ks3 (fun _ z => .inl z) (fun _ _ z => z), q2.nd, fun b hb z => z.elim (q2.dis b hb) fun w => (q5 b w).1 hb, fun b z q => fx b z (live b q)⟩, ⟨en.st.trans (fun _ h => h) ⟨fun b o eb nb => hn3 b o (stp.keep b o eb nb), fun b z => stp.live b (live b z), fun b z => .inl (stp.mono b z), fun b z => ?_, fun b hb => ?_⟩, en.pin⟩, ⟨rfl, .inr ⟨dx, vs, rfl, by rw [upd_same, ev], rf⟩⟩, hE⟩
    · rcases z with z | z
      · exact stp.nF b z
      · exact .inr (stp.nfp b (List.mem_append_left _ z))
    · exact stp.nfp b (List.mem_append_right _ hb)
end
end Vd

set_option Elab.async false
set_option linter.all false
set_option maxRecDepth 100000
set_option maxHeartbeats 4000000
/-! Vd, part 24: an error class by its __init__'s body. -/
namespace Vd
open PySem PySem.Spec PyProof.Rows L2 NdefX

def nfOf (q : Str) (st : Stmt) (cc cd : Addr) : NF := ⟨"__init__", q, defArgs st, defBody st, defScope st, [(("__class__" : Str), cc)], cd⟩
/-- an error class of the text -/
structure XAt (P : Program) (K : PySem.W.Frag) (mg : Str → Option Value) (c q : Str) (st : Stmt) (fl : List (Str × Nat)) : Prop where
  ex : ∃ (f cc cd : Addr) (oc doc pm ctv ocl occ : Value) (od ocd odc : Option Addr) (osl ocs oss : Array (Option Value)) (vs : Array Value) (file : Str) (tf : Tok),
    K.lookup f = some ⟨oc, od, .func ((nfOf q st cc cd).fd doc pm ctv), osl⟩ ∧ PySem.W.codeIn K (.ref cd) q = true ∧ K.lookup cc = some ⟨ocl, ocd, .cell (some (.ref (He.ga K c))), ocs⟩ ∧
      K.lookup cd = some ⟨occ, odc, .fields vs, oss⟩ ∧ vs[2]? = some (.str file tf) ∧ ((P.main.file : Str) == file) = true ∧ PySem.W.findIn K (.ref (He.ga K c)) "__init__" = some (some (.ref f)) ∧ PySem.W.typeIn K (.ref f) = some (.type "function")
  cls : OexC K (He.ga K c)
  mgc : mg c = some (.ref (He.ga K c))
  mgs : mg "super" = none
  top : (P.main.scope.names.lookup ("super" : Str)).isSome = false
  opq : PySem.W.nsIn K PySem.cStatics "thirdparty.any" = some none
  sup : PySem.W.ks_superIn K (He.ga K c) (He.ga K c) "__init__" = some (some (.builtin "ValueError.__init__"))
  sub : PySem.W.subIn K (.ref (He.ga K c)) (.type "ValueError") = some true
  mro : PySem.W.mroIn K (He.ga K c) (.ref (He.ga K c)) = some true
  nof : ∀ p ∈ fl, PySem.W.findIn K (.ref (He.ga K c)) p.1 = some none
def envX (ds : List D) : Ev := none :: (ds.map some ++ [none])
theorem repE_some {K : PySem.W.Frag} {F : Addr → Prop} {H : Hp} : ∀ {ds : List D} {vs : List V} {s : Option V}, RepL K F H ds vs [] → RepE K F H (ds.map some ++ [none]) (vs.map some ++ [s]) []
  | [], vs, s, h => by
    obtain ⟨rfl, _⟩ := h.inv0
    exact ⟨s, [], [], [], rfl, rfl, rfl, rfl, rfl⟩
  | d :: ds, vs, s, h => by
    obtain ⟨v, r, f1, f2, rfl, ef, h1, h2⟩ := h.inv
    have e := List.append_eq_nil_iff.mp ef.symm
    obtain ⟨e1, e2⟩ := e
    subst e1 e2
    exact ⟨some v, _, [], [], rfl, rfl, ⟨v, rfl, h1⟩, repE_some h2⟩
theorem xok_of {P : Program} {w : World} {K : PySem.W.Frag} {mg : Str → Option Value} {base : Heap} {c q : Str} {st : Stmt} {N ps : List Str} {k n : Nat} {f1 : Str} {i1 : Nat} {fl : List (Str × Nat)} {ok : List D → Prop} {e : Expr} {p0 p1 p2 p3 p4 : Pos} {rest : List Stmt} {we : W1}
    (d : XAt P K mg c q st ((f1, i1) :: fl)) (S : NScope N ps ["__class__"] (defScope st)) (hbd : defBody st = .Expr (.Call (.Attribute (.Call (.Name "super" p0) [] [] p1) "__init__" p2) [e] [] p3) p4 :: rest) (hps : ps.length = n + 1) (hNl : N.length = n + 2) (hN0 : N[0]? = some ("self" : Str))
    (hself : (defScope st).names.lookup ("self" : Str) = some .local) (hsup : (defScope st).names.lookup ("super" : Str) = some .globalImplicit) (hcl : (defScope st).names.lookup ("__class__" : Str) = some .free)
    (har : ∃ ar, ((defArgs st).posonlyargs ++ (defArgs st).args).head? = some ar ∧ ar.arg = "self") (hloc : ∀ x ∈ ps, (defScope st).names.lookup x = some .local) (hfl : ∀ p ∈ (f1, i1) :: fl, p.2 < n) (hfll : fl.length < 900)
    (hbind : ∀ (F : NF) (doc pm ctv : Value) (us : List Value), F.params = defArgs st → F.name = "__init__" → us.length = ps.length → bindArgs (F.fd doc pm ctv) ⟨us, []⟩ = pure (ps.zip us))
    (he : ∀ (f cc cd : Addr) (A : Around) (outer : List Env) (s : Shared) (H : Hp) (E : XK) (G : Gh), Room k (A.deeper (envF (nfOf q st cc cd) f s.heap.objs.size)) → DE (ncx (L2N.CX P w) P w K mg base N (nfOf q st cc cd) f A outer s H E) G e we)
    (hr : ∀ (f cc cd : Addr) (A : Around) (outer : List Env) (s : Shared) (H : Hp) (E : XK), PSs (ncx (L2N.CX P w) P w K mg base N (nfOf q st cc cd) f A outer s H E) rest (tOsts K ((f1, i1) :: fl)))
    (hw : ∀ ds, ds.length = n → ok ds → we (envX ds) fun _ _ => True)
    (hi : ∀ cc cd f L, interactive (envF (nfOf q st cc cd) f L) = false := by intro _ _ _ _; rfl)
    (hc : ∀ cc cd f L, eval (.Call (.Attribute (.Call (.Name "super" p0) [] [] p1) "__init__" p2) [e] [] p3) (envF (nfOf q st cc cd) f L) = (do
      let ov ← attributeBase (.Call (.Name "super" p0) [] [] p1) "__init__" (envF (nfOf q st cc cd) f L) (eval (.Call (.Name "super" p0) [] [] p1) (envF (nfOf q st cc cd) f L))
      standAt p2.atName
      let (f', first) ← holding [ov] (getMethod ov "__init__" (pure false))
      callWith p3 f' first (backTo p3 (starEach [e] (envF (nfOf q st cc cd) f L))) []) := by intro _ _ _ _; rfl)
    (hst : ∀ cc cd f L, starEach [e] (envF (nfOf q st cc cd) f L) = (false, eval e (envF (nfOf q st cc cd) f L)) :: starEach [] (envF (nfOf q st cc cd) f L) := by intro _ _ _ _; rfl) :
    XOk P w K mg base (k + 1) c n ((f1, i1) :: fl) ok := by
  obtain ⟨f, cc, cd, oc, doc, pm, ctv, ocl, occ, od, ocd, odc, osl, ocs, oss, vs, file, tf, l1, l2, l3, l4, l5, l6, l7, l8⟩ := d.ex
  have bnd : Binds K ((nfOf q st cc cd).fd doc pm ctv) ps [] := .all fun us hl => hbind (nfOf q st cc cd) doc pm ctv us rfl rfl hl
  refine ⟨f, _, ps, exi_fn (N := N) (cc := cc) (C := He.ga K c) l1 l2 S rfl l3 hbd (fun vs H Q E ⟨a, ys, ds, F, e1, e2, _, h4, _⟩ => by rw [e1, List.length_cons, ← h4.len, e2, hps]) hloc (fun A outer s H vs' Q E hrm hsp => ?_) (hi cc cd f) (hc cc cd f) (hst cc cd f) (fun _ => rfl), d.cls, l7, l8, bnd, d.mgc⟩
  obtain ⟨a, ys, ds, F, rfl, e2, ea, rl, fx, hna, hok, kq⟩ := hsp
  have hyl : ys.length = n := by rw [← rl.len]; exact e2
  have hst0 : startF N (V.ref a :: ys) [some (V.ref (He.ga K c))] = some (.ref a) :: (ys.map some ++ [some (.ref (He.ga K c))]) := by
    unfold startF
    have : N.length - (V.ref a :: ys).length - [some (V.ref (He.ga K c))].length = 0 := by rw [hNl, List.length_cons, hyl]; simp
    rw [this]
    simp
  have h0 : (startF N (V.ref a :: ys) [some (V.ref (He.ga K c))])[0]? = some (some (.ref a)) := by rw [hst0]; rfl
  have hy : ∀ i y, ys[i]? = some y → (startF N (V.ref a :: ys) [some (V.ref (He.ga K c))])[i + 1]? = some (some y) := fun i y hyi => by
    have hi : i < ys.length := (List.getElem?_eq_some_iff.mp hyi).1
    rw [hst0, List.getElem?_cons_succ, List.getElem?_append_left (by simpa using hi), List.getElem?_map, hyi]
    rfl
  let G : Gh := ⟨F, [], H, []⟩
  have so : SupOk (ncx (L2N.CX P w) P w K mg base N (nfOf q st cc cd) f A outer s H E) (He.ga K c) := by
    obtain ⟨ar, a1, a2⟩ := har
    refine ⟨hsup, hcl, hself, hN0, ⟨f, oc, od, _, osl, ar, rfl, l1, a1, a2⟩, ⟨cd, occ, odc, vs, oss, file, tf, rfl, l4, l5, l6⟩, ⟨cc, ocl, ocd, ocs, ?_, l3⟩, d.mgs, d.top, d.opq, d.sup, d.sub, d.mro⟩
    show List.lookup ("__class__" : Str) [(("__class__" : Str), cc)] = some cc
    simp
  refine ⟨a, lE K G we, tOsts K ((f1, i1) :: fl), rfl, ea, so, d.cls, (he f cc cd A outer s H E G hrm).pe, hr f cc cd A outer s H E, ?_⟩
  refine ⟨envX ds, F, [], _, ⟨?_, List.nodup_nil, fun b hb => absurd hb (List.not_mem_nil), fx⟩, ⟨.refl, fun p hp => absurd hp (List.not_mem_nil)⟩, hw ds e2 hok, fun r env' _ x H' F' fpr fp' res => ?_⟩
  · rw [hst0]
    exact ⟨some (.ref a), _, [], [], rfl, rfl, rfl, repE_some rl⟩
  · have kp : ∀ b o, H b = some o → H' b = some o := fun b o eb => res.st.keep b o eb (List.not_mem_nil)
    refine ⟨kp a _ ea, tOsts_first d.cls h0 hy (fun p hp => ⟨d.nof p hp, by rw [hyl]; exact hfl p hp⟩) (kp a _ ea) hfll fun dx hn hne => ?_⟩
    exact kq H' dx kp hn hne
end Vd

set_option Elab.async false
set_option linter.all false
set_option maxRecDepth 100000
set_option maxHeartbeats 4000000
/-! Vd, part 25: f-strings. -/
namespace Vd
open PySem PySem.Spec PyProof.Rows L2
section
variable {X : Cx} {G : Gh} {e : Expr} {es : List Expr} {w : W1} {pos : Pos}
def strR (env : Ev) (r : R) (k : Str → Prop) : Prop := match gr env r with
  | some (.str y) => k y
  | _ => False
theorem strR_of {K : PySem.W.Frag} {F : Addr → Prop} {H : Hp} {env : Ev} {σ : Sg} {fp f : List Addr} {r : R} {x : V} {k : Str → Prop} (ho : Hold K F H env σ fp) (rp : RepR K F H σ r x f) (h : strR env r k) : ∃ c, x = .str c ∧ k c := by
  unfold strR at h
  split at h
  · rename_i c ec
    obtain ⟨g, q, _⟩ := rp.get ho ec
    exact ⟨c, q.str_v, h⟩
  · exact h.elim
theorem res_str {K : PySem.W.Frag} {F F1 : Addr → Prop} {H H1 : Hp} {e1 : Ev} {σ : Sg} {fp g1 : List Addr} {y : Str} (s : Stp F fp H F1 g1 H1) (ho : Hold K F1 H1 e1 σ g1) : Res K F fp H F1 H1 e1 σ (.tmp (.str y)) (.str y) [] g1 :=
  ⟨s, ho, (show Rep K F1 H1 (.str y) (.str y) [] from rep_str), List.nodup_nil, fun a ha => absurd ha (List.not_mem_nil)⟩
/-- {x} of a text -/
def wFmt (w : W1) : W1 := fun env Φ => w env fun r e1 => strR e1 r fun y => y.length ≤ sizeLine ∧ Φ (.tmp (.str y)) e1
theorem de_fmt (h : DE X G e w) : DE X G (.FormattedValue e (-1) none pos) (wFmt w) := by
  refine ⟨pe_imp (pe_fmt h.pe) fun σ H Q ⟨env, F, fp, Φ, ho, en, hw, k⟩ => ?_⟩
  refine ⟨env, F, fp, _, ho, en, hw, fun r e1 h1 x H1 F1 f1 g1 r1 => ?_⟩
  obtain ⟨c, ec, h2, h3⟩ := strR_of r1.ho r1.rp h1
  exact .inl ⟨c, ec, h2, k _ _ h3 _ H1 F1 [] g1 (res_str (res_drop r1) r1.ho)⟩
inductive DJ (X : Cx) (G : Gh) : List Expr → List W1 → Prop where
  | nil : DJ X G [] []
  | cons {e : Expr} {w : W1} {es : List Expr} {ws : List W1} (h : DE X G e w) (r : DJ X G es ws) : DJ X G (e :: es) (w :: ws)
def wJs : List W1 → Str → W1
  | [], acc => fun env Φ => Φ (.tmp (.str acc)) env
  | w :: ws, acc => fun env Φ => w env fun r e1 => strR e1 r fun y => (acc ++ y).length ≤ sizeLine ∧ wJs ws (acc ++ y) e1 Φ
theorem DJ.pj {ws : List W1} (h : DJ X G es ws) : PJ X es (ws.map (lE X.K G)) := by
  induction h with
  | nil => exact .nil
  | cons h _ ih => exact .cons h.pe ih
theorem js_go {K : PySem.W.Frag} {Φ : R → Ev → Prop} {Q : VK} {σ : Sg} {F : Addr → Prop} {fp : List Addr} {H : Hp} (k : ∀ r env', Φ r env' → ∀ x H' F' fpr fp', Res K F fp H F' H' env' σ r x fpr fp' → Q x H') :
    ∀ (ws : List W1) (acc : Str) {env : Ev} {F1 : Addr → Prop} {fp1 : List Addr} {H1 : Hp}, Ent G F fp H σ → Stp F fp H F1 fp1 H1 → Hold K F1 H1 env σ fp1 → wJs ws acc env Φ → tJs (ws.map (lE K G)) acc σ H1 fun out H2 => Q (.str out) H2
  | [], acc, env, F1, fp1, H1, en, st, ho, h => k _ _ h _ H1 F1 [] fp1 (res_str st ho)
  | w :: ws, acc, env, F1, fp1, H1, en, st, ho, h => by
    refine ⟨env, F1, fp1, _, ho, en.go st fun _ h => h, h, fun r e1 h1 x H2 F2 f2 g2 r2 => ?_⟩
    obtain ⟨c, ec, h2, h3⟩ := strR_of r2.ho r2.rp h1
    exact ⟨c, ec, h2, js_go k ws (acc ++ c) en (st.trans (fun _ h => h) (res_drop r2)) r2.ho h3⟩
theorem de_joined {v1 v2 : Expr} {rest : List Expr} {ws : List W1} (h : DJ X G (v1 :: v2 :: rest) ws) : DE X G (.JoinedStr (v1 :: v2 :: rest) pos) (wJs ws Str.empty) :=
  ⟨pe_imp (pe_joined h.pj) fun σ H Q ⟨env, F, fp, Φ, ho, en, hw, k⟩ => js_go k ws Str.empty en .refl ho hw⟩
theorem de_joined1 (h : DE X G e w) : DE X G (.JoinedStr [e] pos) w := ⟨pe_joined1 h.pe⟩
end
end Vd

set_option Elab.async false
set_option linter.all false
set_option maxRecDepth 100000
set_option maxHeartbeats 4000000
/-! Vd, part 26: defs that run while an error is handled. -/
namespace Vd
open PySem PySem.Spec PyProof.Rows L2 L2H

/-- what a def promises while the error at p is handled -/
structure FnP (P : Program) (w : World) (K : PySem.W.Frag) (mg : Str → Option Value) (base : Heap) (CX : CXT) (k : Nat) (f : Addr) (fd : FuncData) (ps : List Str) (sp : Addr × Obj → Sp) : Prop where
  len : ∀ p vs H Q E, sp p vs H Q E → vs.length = ps.length
  run : ∀ (A : Around) (outer : List Env) (s : Shared) (H : Hp) (args : Args) (us : List Value) (vs : List V) (Q : VK) (E : XK) (p : Addr × Obj), RoomH k A → Hot1 A p → PinOk outer H s p → Env0 P w K mg base A outer s H → BindsTo s fd args (ps.zip us) → Vals vs us → sp p vs H Q E →
    codeAny (model P w) A (.call (.ref f) args) (CR CX outer P w H s Q E) s
section
variable {P : Program} {w : World} {K : PySem.W.Frag} {mg : Str → Option Value} {base : Heap} {x qual : Str} {params : Arguments} {body : List Stmt} {scope : Scope} {f : Addr} {fd : FuncData}
theorem fnP_of {CX : CXT} {N ps : List Str} {k : Nat} {sp : Addr × Obj → Sp} {dvs : List V} {kws : List (Str × V)} (F : FunD K x qual params body scope dvs kws f fd) (S : FnScope N ps scope) (len : ∀ p vs H Q E, sp p vs H Q E → vs.length = ps.length)
    (hbody : ∀ (cdv : Value) (A : Around) (outer : List Env) (s : Shared) (H : Hp) (vs : List V) (Q : VK) (E : XK) (p : Addr × Obj), Hot1 A p → RoomH k (A.deeper (envOfC qual scope s.heap.objs.size f cdv)) → sp p vs H Q E →
      ∃ t, PSs (cxH CX P w K mg base N qual scope f cdv A outer s H E p) body t ∧ t { nx := fun _ H' => Q .non H', rt := Q } (L2.start N vs) H) : FnP P w K mg base CX (k + 1) f fd ps sp := by
  obtain ⟨oc, od, dV, kV, doc, pm, an, cdv, ct, osl, rfl, lk, hcd, _, _⟩ := F.ex
  refine ⟨len, fun A outer s H args us vs Q E p hr hot hpin e0 hb r hsp => ?_⟩
  have hl := len _ _ _ _ _ hsp
  have KX : K.In s.heap := e0.mod.kin.keeps fun b o e => (e0.bs b o e).1
  have hkind : ∀ y ∈ ps.zip us, scope.names.lookup y.1 = some .local ∨ (scope.names.lookup y.1 = some .cell ∧ ((cellsFrom (s.heap.objs.size + 1) scope.names []).lookup y.1).isSome = true) := fun ⟨n, v⟩ hy =>
    (S.par n (List.of_mem_zip hy).1).imp id fun q => ⟨q, PySem.W.cellsFrom_some _ _ _ (.inl q)⟩
  refine codeAny_call_function hr.depth (KX _ _ lk) rfl S.co S.gen rfl (PySem.W.codeRec_of KX hcd) (hb _ _ _ _ ?_)
  refine wpAny_newFunctionEnv_cells S.kind hkind fun env he s1 z => ?_
  subst he
  refine ⟨(e0.mod.nolimit.keeps fun b o e => (e0.bs b o e).1).keeps z.toInCall.keep, codeAny_func ?_⟩
  obtain ⟨t, ht, hq⟩ := hbody cdv A outer s H vs Q E p hot (hr.deeper _) hsp
  have I : Inv (cxH CX P w K mg base N qual scope f cdv A outer s H E p) [] (L2.start N vs) H s1 := inv_startH S hpin e0 hl r z
  refine wpAny_mono (ht.run [] s1 (L2.start N vs) H _ I hq) (fun fl s' hs => ?_) fun e s' hs => hs
  cases fl with
  | ret u =>
    obtain ⟨v, σ', H', J, rv, q⟩ := hs
    exact ⟨v, H', J.os, J.bare, J.base, J.hok, rv, q⟩
  | next =>
    obtain ⟨σ', H', J, q⟩ := hs
    exact ⟨.non, H', J.os, J.bare, J.base, J.hok, rfl, q⟩
  | brk => exact hs.elim fun _ h => h.elim fun _ h => h.2.elim
  | cont => exact hs.elim fun _ h => h.elim fun _ h => h.2.elim
end
section
variable {X : Cx} {CX : CXT} {k : Nat} {f : Addr} {fd : FuncData} {ps : List Str} {sp : Addr × Obj → Sp} {E : L2.St → XK} {x : Str} {q pos : Pos} {e : Expr} {es : List Expr} {t : TA}
theorem run_fnP {pins : List (Addr × Obj)} {σ : Sg} {H : Hp} {s : Shared} {Q : VK} {us : List Value} {vs : List V} {p : Addr × Obj} (F : FnP X.prog X.w X.K X.mg X.base CX k f fd ps sp) (hr : RoomH k X.A) (hot : Hot1 X.A p) (hp : p ∈ X.pn) (hb : Binds X.K fd ps []) (hx : PassesAt CX X σ (E σ))
    (I : Inv X pins σ H s) (r : Vals vs us) (h : sp p vs H Q (E σ)) : wpAny (model X.prog X.w) X.A (call (.ref f) us) (EP X pins σ Q) X.xe s := by
  have b := hb s us I.kIn (by rw [List.append_nil, ← r.length]; exact F.len _ _ _ _ _ h)
  rw [List.append_nil] at b
  have P1 := I.pin p (List.mem_append_left _ hp)
  refine wpAny_call (codeAny_mono (F.run X.A X.stack s H ⟨us, []⟩ us vs Q (E σ) p hr hot ⟨P1.1, P1.2.1, fun hm => (List.mem_cons.mp (I.stkSub p.1 hm)).elim P1.2.2.1 P1.2.2.2.1, P1.2.2.2.2⟩ I.env0 b r h) fun r s' z => ?_)
  cases r with
  | error e => exact hx pins H s e s' I z
  | ok fl =>
    cases fl with
    | ret u => exact I.after z
    | next => exact z.elim
    | brk => exact z.elim
    | cont => exact z.elim
theorem pe_callP {p : Addr × Obj} (F : FnP X.prog X.w X.K X.mg X.base CX k f fd ps sp) (hr : RoomH k X.A) (hot : Hot1 X.A p) (hp : p ∈ X.pn) (hg : Gl X x) (hm : X.mg x = some (.ref f)) (hk : PySem.W.keepIn X.K (.ref f) = true) (hb : Binds X.K fd ps []) (hx : ∀ σ, PassesAt CX X σ (E σ))
    (ha : PA X (e :: es) t) (hdb : (x == ("__debug__" : Str)) = false := by decide) (he : starEach (e :: es) X.env = (false, eval e X.env) :: starEach es X.env := by rfl) (hpl : (backTo pos (starEach es X.env)).any (·.1) = false := by rfl) :
    PE X (.Call (.Name x q) (e :: es) [] pos) (tCallS (sp p) E t) := by
  refine ⟨fun pins s σ H Q I h => ?_⟩
  refine wpAny_Call_Name_kw (ld_glob I hg hm ?_ hdb)
  exact PySem.W.callWith_K (h₀ := X.base) I.ok.mod.kin hk (thn (ha.run pos pins s σ H _ I h) fun us s1 ⟨vs, H1, I1, r, z⟩ => ⟨I1.kIn, run_fnP F hr hot hp hb (hx σ) I1 r z⟩) he hpl
end

/-! ### such a def on data -/
theorem fd_core {X : Cx} {body : List Stmt} {N : List Str} {ms : List Bool} {wb : WS} {ds : List D} {vs : List V} {F : Addr → Prop} {fps : List Addr} {H : Hp} {Q : VK} {Q0 : D → List (Option D) → Prop} (hr1 : RepL X.K F H ds vs fps) (nd : fps.Nodup) (dis : ∀ a ∈ fps, ¬ F a) (fx : ∀ a, F a → H a ≠ none)
    (hm : ms.length = vs.length) (hb : DSs X ⟨F, fps, H, pinsOf ms vs 0⟩ body wb) (hw : wb (dEnd ms Q0) (startE N ds))
    (kq : ∀ d outs, Q0 d outs → ∀ x H' F' fpr fpo, Stp F fps H F' (fpr ++ fpo) H' → Rep X.K F' H' d x fpr → RepE X.K F' H' outs ((sel ms vs).map some) fpo → (fpr ++ fpo).Nodup → (∀ a ∈ fpr ++ fpo, ¬ F' a) → (∀ a, F' a → H' a ≠ none) → Q x H') :
    ∃ t, PSs X body t ∧ t { nx := fun _ H' => Q .non H', rt := Q } (L2.start N vs) H := by
  let G : Gh := ⟨F, fps, H, pinsOf ms vs 0⟩
  have st0 : Hold X.K F H (startE N ds) (L2.start N vs) fps := by
    refine ⟨?_, nd, dis, fx⟩
    have q := repE_start (K := X.K) (F := F) (H := H) (N.length - ds.length) hr1
    have e : List.map some vs ++ List.replicate (N.length - ds.length) none = L2.start N vs := by unfold L2.start; rw [hr1.len]
    rw [← e]
    exact q
  have en0 : Ent G F fps H (L2.start N vs) := ⟨.refl, pins_start fun i v hv2 => by
    rw [Nat.zero_add]
    unfold L2.start
    have hi : i < vs.length := (List.getElem?_eq_some_iff.mp hv2).1
    rw [List.getElem?_append_left (by simpa using hi), List.getElem?_map, hv2]
    rfl⟩
  have out : ∀ {env : Ev} {σ : Sg} {H' : Hp} {F' : Addr → Prop} {fp : List Addr}, RepE X.K F' H' env σ fp → fp.Nodup → (∀ p ∈ G.pins, σ[p.1]? = some (some p.2)) → ∃ fpo, RepE X.K F' H' (outs ms env) ((sel ms vs).map some) fpo ∧ fpo.Nodup ∧ ∀ a ∈ fpo, a ∈ fp :=
    fun re n pin => outs_of (ixs ms 0) ixs_nd re n (pins_sel hm pin)
  refine ⟨_, hb.ps, ⟨_, F, fps, _, st0, en0, hw, ?_⟩⟩
  refine ⟨fun env σ H' F' fp ho en hq => ?_, fun _ _ _ _ _ _ _ z => z.elim, fun _ _ _ _ _ _ _ z => z.elim, fun d env σ H' F' x fpr fp ho en rp n dj hq => ?_⟩
  · obtain ⟨fpo, q1, q2, q3⟩ := out ho.rep ho.nd en.pin
    exact kq .non _ hq .non H' F' [] fpo (en.st.less q3) (by simp [Rep]) q1 (by simpa using q2) (fun a ha => ho.dis a (q3 a (by simpa using ha))) ho.fx
  · obtain ⟨fpo, q1, q2, q3⟩ := out ho.rep ho.nd en.pin
    refine kq d _ hq x H' F' fpr fpo (en.st.less fun a ha => ?_) rp q1 (List.nodup_append.mpr ⟨n, q2, fun a ha b hb e => ?_⟩) (fun a ha => ?_) ho.fx
    · rcases List.mem_append.mp ha with z | z
      · exact List.mem_append_left _ z
      · exact List.mem_append_right _ (q3 a z)
    · subst e; exact (dj a ha).1 (q3 a hb)
    · rcases List.mem_append.mp ha with z | z
      · exact (dj a z).2
      · exact ho.dis a (q3 a z)
/-- the error that is handled, known in a context -/
def HotP (X : Cx) (p : Addr × Obj) : Prop := Hot1 X.A p ∧ p ∈ X.pn
/-- a def that keeps a promise on data while an error is handled -/
structure HOk (P : Program) (w : World) (K : PySem.W.Frag) (mg : Str → Option Value) (base : Heap) (k : Nat) (x : Str) (n : Nat) (ms : List Bool) (sp : SpD) : Prop where
  ex : ∃ f fd ps, FnP P w K mg base (L2N.CX P w) k f fd ps (fun _ => spH K ms sp) ∧ mg x = some (.ref f) ∧ PySem.W.keepIn K (.ref f) = true ∧ Binds K fd ps [] ∧ ms.length = n
theorem hok_of {P : Program} {w : World} {K : PySem.W.Frag} {mg : Str → Option Value} {base : Heap} {x : Str} {st : Stmt} {N ps : List Str} {k : Nat} {ms : List Bool} {sp : SpD} {wb : WS} (d : DfAt K mg x st) (S : FnScope N ps (defScope st)) (hm : ms.length = ps.length) (len : ∀ ds Q E, sp ds Q E → ds.length = ps.length)
    (hbind : ∀ (kV doc pm : Value) (an : Option Addr) (cdv ct : Value) (us : List Value), us.length = ps.length → bindArgs (PySem.W.fnOf x x (defArgs st) (defBody st) (defScope st) .none kV doc pm an cdv ct) ⟨us, []⟩ = pure (ps.zip us))
    (hb : ∀ (f : Addr) (cdv : Value) (A : Around) (outer : List Env) (s : Shared) (H : Hp) (E : XK) (G : Gh) (p : Addr × Obj), Hot1 A p → RoomH k (A.deeper (envOfC x (defScope st) s.heap.objs.size f cdv)) → (∀ p ∈ G.pins, p.1 ∈ ixs ms 0) → DSs (cxH (L2N.CX P w) P w K mg base N x (defScope st) f cdv A outer s H E p) G (defBody st) wb)
    (hw : ∀ ds Q E, sp ds Q E → wb (dEnd ms Q) (startE N ds)) : HOk P w K mg base (k + 1) x ps.length ms sp := by
  obtain ⟨f, fd, F, hmg⟩ := d
  have ln : ∀ (p : Addr × Obj) (vs : List V) (H : Hp) (Q : VK) (E : XK), spH K ms sp vs H Q E → vs.length = ps.length := fun p vs H Q E ⟨ds, F, fps, Q0, E0, h1, _, _, _, h2, _⟩ => by rw [← h1.len]; exact len _ _ _ h2
  refine ⟨f, fd, ps, fnP_of F S ln fun cdv A outer s H vs Q E p hot hr h => ?_, hmg, F.kp, F.bindsN hbind, hm⟩
  have hv := ln p _ _ _ _ h
  obtain ⟨ds, F1, fps, Q0, E0, hr1, nd, dis, fx, hsp, kq, ke⟩ := h
  exact fd_core (X := cxH (L2N.CX P w) P w K mg base N x (defScope st) f cdv A outer s H E p) hr1 nd dis fx (by rw [hm, hv]) (hb f cdv A outer s H E _ p hot hr fun q hq => pins_ixs q hq) (hw _ _ _ hsp) kq
section
variable {X : Cx} {G : Gh} {EW : EWt} {ws : WL} {ms : List Bool} {sp : SpD} {k n : Nat} {x : Str} {p pos : Pos} {e : Expr} {es : List Expr} {pe : Addr × Obj}
theorem de_fnH (d : HOk X.prog X.w X.K X.mg X.base k x n ms sp) (hr : RoomH k X.A) (hp : HotP X pe) (hg : Gl X x) (tk : Tk X G EW) (ha : DA X G (e :: es) ws) (hdb : (x == ("__debug__" : Str)) = false := by decide)
    (he : starEach (e :: es) X.env = (false, eval e X.env) :: starEach es X.env := by rfl) (hpl : (backTo pos (starEach es X.env)).any (·.1) = false := by rfl) :
    DE X G (.Call (.Name x p) (e :: es) [] pos) (wCall ms sp [] EW ws) := by
  obtain ⟨f, fd, ps, F, hm, hk, hb, _⟩ := d.ex
  refine ⟨pe_imp (pe_callP F hr hp.1 hp.2 hg hm hk hb (fun σ => L2N.passAt tk σ) ha.pa hdb he hpl) fun σ H Q h => ?_⟩
  have z := call_go (X := X) (G := G) (EW := EW) (ws := ws) (ms := ms) (sp := sp) (dvs := []) (dvv := []) (fun _ _ => .nil) (fun xs => by rw [List.append_nil]) h
  simp only [List.append_nil] at z
  exact z
end

/-! ### for k in range(n), there -/
structure DIH (X : Cx) (G : Gh) (tg iter : Expr) (w : WI) : Prop where
  pi : PIH X tg iter (lI X.K G w)
section
variable {X : Cx} {G : Gh} {tg iter a : Expr} {body : List Stmt} {w : W1} {wi : WI} {T : TgW} {is : List Nat} {wb : WS} {p pos : Pos} {pe : Addr × Obj}
theorem pih_imp {t t' : TI} {e : Expr} (h : PIH X tg e t) (k : ∀ σ H Q, t' σ H Q → t σ H Q) : PIH X tg e t' := ⟨fun pins s σ H Q I q => h.run pins s σ H Q I (k σ H Q q)⟩
theorem di_rg1H (hg : Gl X "range") (hm : X.mg "range" = none) (ha : DE X G a w) (hs : starEach [a] X.env = (false, eval a X.env) :: starEach [] X.env := by rfl) (hs' : starEach [a] X.env = [(false, eval a X.env)] := by rfl) : DIH X G tg (.Call (.Name "range" p) [a] [] pos) (wRg1 w) := by
  refine ⟨pih_imp (pi_range1H hg hm (pa_cons ha.pe pa_nil hs) hs') fun σ H R ⟨env, F, fp, Φ, ho, en, hw, kk⟩ => ?_⟩
  refine ⟨env, F, fp, _, ho, en, hw, fun r e1 h1 x H1 F1 f1 g1 r1 => ?_⟩
  obtain ⟨j, ej, hb, hk⟩ := isI_of r1.ho r1.rp h1
  exact ⟨j, by rw [ej], hb.1, hb.2, kk _ _ hk _ H1 F1 g1 (res_drop r1) r1.ho itOk_rg⟩
theorem ds_forH (hp : PassesOwn (model X.prog X.w) X.A X.env X.xe) (hc : HotP X pe) (hi : DIH X G tg iter wi) (hg : DG X is tg T) (hb : ∀ G', Sub G G' → DSs X G' body wb) (hpin : ∀ p ∈ G.pins, p.1 ∉ is)
    (hs : ∀ x, foldedSetIterable iter X.env x = pure x := by intro _; rfl) : DS X G (.For tg iter body [] pos) (wFor wi T wb) := by
  obtain ⟨g, hg1, hg2⟩ := hg.ex
  exact ⟨ps_imp (ps_forH hp ⟨pe, hc.1, hc.2⟩ hi.pi hg1 (pss_ex (P := Sub G) (t := fun G' => lS X.K G' wb) fun G' s => (hb G' s).ps) hs) fun D σ H h => for_core hg2 hpin h⟩
end
end Vd

set_option Elab.async false
set_option linter.all false
set_option maxRecDepth 100000
set_option maxHeartbeats 4000000
/-! Vd, part 27: the caught error: its class, its fields. -/
namespace PySem.W
open PySem PySem.Spec PySem.Calls PyProof.Rows
section
variable {prog : Program} {w : World} {A : Around} {E : Value → Shared → Prop} {s : Shared} {K : Frag} {x D : Addr} {ox : Obj} {od : Option Obj}
theorem vd_findD {C : Addr} {name : Str} {a g : Value} (hc : (clsIn K C).isSome = true) (ha : findIn K (.ref C) name = some (some a)) (hg : specialIn K a "__get__" = some (some g)) (ht : takesIn K a = some true) : findObj K C od name = some (.bind g a) := by
  obtain ⟨cd, hc⟩ := Option.isSome_iff_exists.mp hc
  unfold findObj
  rw [hc, Option.bind_some, ha, Option.bind_some]
  simp [hg, ht]
/-- x.__class__ of an error that may bear a dict -/
theorem vd_class {Q : Option Value → Shared → Prop} (T : L2.ExcC K D) (X : K.In s.heap) (I : InstAt s.heap x ox D od) (h : Q (some (.ref D)) { s with toks := s.toks + 1 }) : wpAny (model prog w) A (getAttr? (.ref x) "__class__") Q E s := by
  have hf : findObj K D od "__class__" = some (.bind (.builtin "getset_descriptor.__get__") (.builtin "object.__class__")) := vd_findD (by obtain ⟨cd, hc, _⟩ := any_some T.hd; rw [hc]; rfl) T.ha T.hn T.ht
  obtain ⟨hp, g, d, t, os⟩ := s
  have L0 := I.type (M := model prog w)
  have L1 := looks_findIn (M := model prog w) X T.hg
  have L2 := looks_findIn (M := model prog w) X T.hk
  have L3 := looks_find (M := model prog w) X I hf
  have sub : Looks (model prog w) hp (isInstance (.ref x) (.type "BaseException")) true := L0.andThen (looks_subIn X T.hs)
  have hx2 : (Value.builtin "BaseException.__getattribute__" == Value.builtin "object.__getattribute__") = false := by decide +kernel
  have hx1 : (onTheHeap (Value.ref D) && Value.builtin "BaseException.__getattribute__" == Value.builtin "object.__getattribute__") = false := by rw [hx2]; rfl
  unfold getAttr? getAttrBy? getAttrBy
  refine wpAny_bind (wpAny_mkText (wpAny_bind (wpAny_attempt (wpAny_holding (wpAny_bind (L0.at (wpAny_bind (L1.at ?_))))))))
  show wpAny _ _ (if (onTheHeap (Value.ref D) && Value.builtin "BaseException.__getattribute__" == Value.builtin "object.__getattribute__") = true then _ else _) _ _ _
  rw [hx1, if_neg Bool.false_ne_true]
  unfold getAttrByItsOwn hookBefore
  refine wpAny_bind ?_
  rw [if_pos (show onTheHeap (Value.ref D) = true from rfl)]
  refine L2.at ?_
  refine wpAny_bind (wpAny_attempt (wpAny_holding ?_))
  unfold callGetattribute
  rw [show (false && onTheHeap (Value.builtin "BaseException.__getattribute__")) = false from rfl, if_neg Bool.false_ne_true]
  unfold boundAndCalled
  rw [PySem.F.excAttr_ValueError.ga.bind (.ref x)]
  refine wpAny_bind (wpAny_pure ?_)
  show wpAny _ _ (call (.builtin "BaseException.__getattribute__") [.ref x, .str "__class__" t]) _ _ _
  refine wpAny_call (codeAny_call_builtin PySem.F.excAttr_ValueError.ga.plain PySem.F.entry_bexc_ga ?_)
  refine @check_slot (model prog w) _ _ ⟨hp, g, d, t + 1, os⟩ "BaseException.__getattribute__" "BaseException" "__getattribute__" (.ref x) [.str "__class__" t] [] _ (by decide +kernel) (by decide +kernel) sub (PySem.F.args_bexc_ga (.ref x) (.str "__class__" t)) ?_
  unfold Builtin.«object.__getattribute__»
  refine wpAny_bind (wpAny_of_eq (a := ((Value.ref x : Value), [Value.str "__class__" t])) (by first | rfl | (simp only [slotArgs]; rfl)) ?_)
  refine wpAny_bind (wpAny_pure (wpAny_bind (L0.at (wpAny_bind (L3.at ?_)))))
  show wpAny _ _ (holding [Value.builtin "object.__class__"] (call (.builtin "getset_descriptor.__get__") [.builtin "object.__class__", .ref x, .ref D]) >>= ret) _ _ _
  refine wpAny_bind (wpAny_holding (wpAny_call (class_get (s := ⟨hp, g, d, t + 1, os⟩) (ox := ox) (od := od) X I T.hm ?_)))
  refine wpAny_pure ?_
  show wpAny _ _ (handedOut (.ref D)) _ _ _
  rw [handedOut_of (v := .ref D) rfl]
  first
    | exact wpAny_pure (wpAny_pure h)
    | exact wpAny_pure h
    | exact wpAny_pure (wpAny_bind (wpAny_pure (wpAny_pure h)))
theorem vd_kit (T : L2.ExcC K D) : KitX K (.ref x) (.ref D) (fun h => ∃ ox od, InstAt h x ox D od) where
  ty := fun _ _ _ ⟨_, _, I⟩ => I.type
  it := fun _ _ X _ => by
    obtain ⟨cdD, hcD, _⟩ := any_some T.hd
    unfold clsIn at hcD
    split at hcD
    · rename_i c' d' cd' sl' ho
      intro A' Q' E' s' k q
      unfold isType loadHead
      exact wpAny_bind (wpAny_loadPart (k _ _ (X _ _ ho)) (wpAny_pure q))
    · cases hcD
  ne := fun h tp dd its n sl X htp => by
    obtain ⟨cdD, hcD, _⟩ := any_some T.hd
    refine Bool.eq_false_iff.mpr fun q => ?_
    have e : D = tp := Value.ref.inj (beq_iff_eq.mp q)
    subst e
    unfold clsIn at hcD
    split at hcD
    · rename_i c' d' cd' sl' ho
      have z := (X _ _ ho).symm.trans htp
      cases z
    · cases hcD
  ca := fun X ⟨_, _, I⟩ k => vd_class T X I k
end
end PySem.W
namespace Vd
open PySem PySem.Spec PyProof.Rows L2 L2H
/-- the error pe, as it stands at an entry: its class and its fields -/
def ErrAt (K : PySem.W.Frag) (F : Addr → Prop) (H : Hp) (oe : Obj) (c : Str) (fs : List (Str × D)) : Prop :=
  ∃ d, L2N.Zn (.ref (He.ga K c)) d oe ∧ (∃ vs, oe.data = .fields vs) ∧ ((fs = [] ∧ d = none) ∨ ∃ dx vs, d = some dx ∧ H dx = some (.xd ((fs.map (·.1)).zip vs)) ∧ RepF K F H fs vs [])
structure ErrG (X : Cx) (G : Gh) (i : Nat) (pe : Addr × Obj) (c : Str) (fs : List (Str × D)) : Prop where
  pin : pe ∈ X.pn
  slot : (i, V.ref pe.1) ∈ G.pins
  mks : Mks G.H0 G.fp0
  dis : ∀ a ∈ G.fp0, ¬ G.F0 a
  at_ : ErrAt X.K G.F0 G.H0 pe.2 c fs
theorem zip_look {K : PySem.W.Frag} {F : Addr → Prop} {H : Hp} {n : Str} {d : D} : ∀ {fs : List (Str × D)} {vs : List V}, RepF K F H fs vs [] → fs.lookup n = some d → ∃ v, ((fs.map (·.1)).zip vs).lookup n = some v ∧ Rep K F H d v []
  | [], vs, h, e => by cases e
  | (m, x) :: fs, vs, h, e => by
    obtain ⟨v, r, f1, f2, ev, ef, h1, h2⟩ := (repF_L.mp h : RepL K F H (x :: fs.map (·.2)) vs []).inv
    obtain ⟨e1, e2⟩ := List.append_eq_nil_iff.mp ef.symm
    subst ev e1 e2
    show ∃ w, List.lookup n ((m, v) :: (fs.map (·.1)).zip r) = some w ∧ _
    rw [List.lookup_cons] at e ⊢
    cases q : n == m with
    | true =>
      rw [q] at e
      cases e
      exact ⟨v, rfl, h1⟩
    | false =>
      rw [q] at e
      exact zip_look (repF_L.mpr h2) e
section
variable {X : Cx} {G : Gh} {i : Nat} {pe : Addr × Obj} {c : Str} {fs : List (Str × D)} {F : Addr → Prop} {fp : List Addr} {H : Hp} {σ : Sg}
theorem ErrG.inst (g : ErrG X G i pe c fs) (en : Ent G F fp H σ) {pins : List (Addr × Obj)} {s : Shared} {σ' : Sg} (I : Inv X pins σ' H s) :
    ∃ od, PySem.W.InstAt s.heap pe.1 pe.2 (He.ga X.K c) od ∧ ∀ n d, fs.lookup n = some d → ∃ o v u, od = some o ∧ PySem.W.lookIn n o = some (some u) ∧ RelV v u ∧ Rep X.K F H d v [] := by
  obtain ⟨d, ⟨hc, hd, _⟩, ⟨vs0, hv⟩, q⟩ := g.at_
  have h0 := (I.pin pe (List.mem_append_left _ g.pin)).1
  have nc : PySem.W.notCls pe.2 = true := by unfold PySem.W.notCls; rw [hv]
  rcases q with ⟨rfl, rfl⟩ | ⟨dx, vs, rfl, hx, rf⟩
  · exact ⟨none, ⟨h0, hc, nc, by rw [hd]; trivial⟩, fun n d e => by cases e⟩
  · have nfp : dx ∉ G.fp0 := fun z => by
      obtain ⟨o, eo, m⟩ := g.mks dx z
      rw [hx] at eo
      cases eo
      exact m.elim
    have hx2 : H dx = some (.xd ((fs.map (·.1)).zip vs)) := en.st.keep dx _ hx nfp
    have ks : Kps (fun a => a ∈ G.fp0) G.F0 G.H0 H := ⟨fun a o e n => en.st.keep a o e n, fun a z => g.mks a z, fun a z q => g.dis a q z⟩
    have rf2 : RepF X.K F H fs vs [] := repF_L.mpr ((repF_L.mp rf).keep ks en.st.mono fun a ha => absurd ha (List.not_mem_nil))
    obtain ⟨mA, hns, hr⟩ := (I.hok dx _ hx2 : ObjOk X.prog X.w H s.heap dx (.xd ((fs.map (·.1)).zip vs)))
    obtain ⟨od, ho, hl⟩ := lookIn_ns hns
    refine ⟨some od, ⟨h0, hc, nc, by rw [hd]; exact ho⟩, fun n d e => ?_⟩
    obtain ⟨v, e1, e2⟩ := zip_look rf2 e
    obtain ⟨u, hu, ru⟩ := RelO.some_of (v := v) (o := mA n) (by rw [← e1]; exact hr n)
    exact ⟨od, v, u, rfl, by rw [hl, hu], ru, e2⟩
/-! error.f -/
def wErrF (fs : List (Str × D)) (n : Str) : W1 := fun env Φ => match fs.lookup n with
  | some d => Φ (.tmp d) env
  | none => False
theorem de_errF {x n : Str} {p pos : Pos} (g : ErrG X G i pe c fs) (T : XfC X.K (He.ga X.K c)) (hno : (fs.lookup n).isSome = true → PySem.W.findIn X.K (.ref (He.ga X.K c)) n = some none) (hN : X.N[i]? = some x) (hv : Vis X.env.scope x) (hd : (x == ("__debug__" : Str)) = false := by decide) (hcd : (x == ("__classdict__" : Str)) = false := by decide)
    (hb : attributeBase (.Name x p) n X.env (eval (.Name x p) X.env) = eval (.Name x p) X.env := by rfl) : DE X G (.Attribute (.Name x p) n pos) (wErrF fs n) := by
  refine ⟨⟨fun pins s σ H Q I h => ?_⟩⟩
  obtain ⟨env, F, fp, Φ, ho, en, hw, k⟩ := h
  unfold wErrF at hw
  split at hw
  · rename_i d ed
    refine attr_of hb (thn ((pe_var (X := X) (i := i) hN hv hd hcd).run pins s σ H (fun v H1 => v = .ref pe.1 ∧ H1 = H) I ⟨_, en.pin _ g.slot, rfl, rfl⟩) fun u s1 hh => ?_)
    obtain ⟨v0, H1, I1, rx, rfl, rfl⟩ := hh
    obtain rfl : u = Value.ref pe.1 := rx
    obtain ⟨od, ia, look⟩ := g.inst en I1
    obtain ⟨o, v, u, rfl, hl, ru, rp⟩ := look n d ed
    exact HandSPX.exc_get I1.kIn ia T.ga T.gg T.exC (PySem.W.findObj_own T.hdC (hno (by rw [ed]; rfl)) rfl hl) (handed_of ru) ⟨v, _, I1.tok _, ru, k _ _ hw v _ F [] fp ⟨.refl, ho, rp, .nil, fun a ha => absurd ha (List.not_mem_nil)⟩⟩
  · exact hw.elim
/-! isinstance(error, C) -/
def rErr (X : Cx) (G : Gh) (pe : Addr × Obj) (c : Str) : List V → Hp → VK → Prop := fun xs H Q => ∃ F fp σ' y b, Ent G F fp H σ' ∧ xs = [.ref pe.1, y] ∧ Q (.bl b) H ∧
  ((∃ cv, (∀ u, RelV y u → u = cv) ∧ PySem.W.kitOne X.K (.ref (He.ga X.K c)) cv = some b) ∨ ∃ (tp : Addr) (cs : List Addr), y = .ref tp ∧ H tp = some (.tup (cs.map V.ref)) ∧ PySem.W.kitAny X.K (.ref (He.ga X.K c)) (cs.map Value.ref) = some b)
theorem vals_refs : ∀ {cs : List Addr} {us : List Value}, Vals (cs.map V.ref) us → us = cs.map Value.ref
  | [], us, h => by cases h; rfl
  | a :: cs, us, h => by
    cases h with
    | cons r rr => cases (show _ = Value.ref a from r); rw [vals_refs rr]; rfl
theorem call_err (g : ErrG X G i pe c fs) (T : ExcC X.K (He.ga X.K c)) : CallR X (.builtin "isinstance") (rErr X G pe c) := by
  intro pins s σ H xs us Q I r h
  obtain ⟨F, fp, σ', y, b, en, rfl, q, e⟩ := h
  cases r with
  | cons rx rr =>
    cases rr with
    | cons rt rr =>
      cases rr
      cases (show _ = Value.ref pe.1 from rx)
      obtain ⟨od, ia, _⟩ := g.inst en I
      rcases e with ⟨cv, hcv, e⟩ | ⟨tp, cs, rfl, ht, e⟩
      · rw [hcv _ rt]
        exact PySem.W.kia_one (PySem.W.vd_kit T) I.kIn ⟨_, _, ia⟩ e (fun z => nomatch z) fun tk => ⟨.bl b, H, I.kept (t' := tk) fun _ _ z => z, rfl, q⟩
      · cases (show _ = Value.ref tp from rt)
        obtain ⟨z, its, rv, ob, e1, e2, n, e3⟩ := (I.hok tp _ ht : ObjOk X.prog X.w H s.heap tp (.tup (cs.map V.ref)))
        obtain ⟨oc, od2, dt, sl⟩ := ob
        cases e2
        cases e3
        rw [vals_refs rv] at e1
        exact PySem.W.kia_tup (PySem.W.vd_kit T) I.kIn ⟨_, _, ia⟩ e1 e (fun z => nomatch z) fun tk => ⟨.bl b, H, I.kept (t' := tk) fun _ _ z => z, rfl, q⟩
end
end Vd

set_option Elab.async false
set_option linter.all false
set_option maxRecDepth 100000
set_option maxHeartbeats 4000000
/-! Vd, part 28: isinstance of the caught error in source; try .. except C as n. -/
namespace Vd
open PySem PySem.Spec PyProof.Rows L2 L2H
def wErrIs (b : Option Bool) : W1 := fun env Φ => ∃ k, b = some k ∧ Φ (.tmp (.bl k)) env
inductive CN (X : Cx) : List Expr → List Addr → Prop where
  | nil : CN X [] []
  | cons {c : Str} {a : Addr} {p : Pos} {es : List Expr} {as : List Addr} (hg : Gl X c) (hm : X.mg c = some (.ref a)) (hd : (c == ("__debug__" : Str)) = false) (hs : starEach (.Name c p :: es) X.env = (false, eval (.Name c p) X.env) :: starEach es X.env) (r : CN X es as) : CN X (.Name c p :: es) (a :: as)
theorem CN.pa {X : Cx} {es : List Expr} {as : List Addr} (h : CN X es as) : PA X es (fun _ H Q => Q (as.map V.ref) H) := by
  induction h with
  | nil => exact pa_nil
  | @cons c a p es as hg hm hd hs _ ih => exact pa_imp (pa_cons (pe_glob (v := .ref a) hg hm rfl hd) ih hs) fun σ H Q q => q
section
variable {X : Cx} {G : Gh} {i : Nat} {pe : Addr × Obj} {c : Str} {fs : List (Str × D)} {x y : Str} {p p2 p3 pos : Pos} {b : Option Bool}
theorem err_go {F : Addr → Prop} {fp : List Addr} {H : Hp} {σ : Sg} {env : Ev} {k : Bool} {Q : VK} {Φ : R → Ev → Prop} (ho : Hold X.K F H env σ fp) (hw : Φ (.tmp (.bl k)) env) (kk : ∀ r env', Φ r env' → ∀ x H' F' fpr fp', Res X.K F fp H F' H' env' σ r x fpr fp' → Q x H') : Q (.bl k) H :=
  kk _ _ hw _ H F [] fp (res_bl .refl ho)
/-- isinstance(error, C), C of the text -/
theorem de_errIs (g : ErrG X G i pe c fs) (T : ExcC X.K (He.ga X.K c)) {a2 : Addr} (hk : ∀ k, b = some k → PySem.W.kitOne X.K (.ref (He.ga X.K c)) (.ref a2) = some k) (hg : Gl X "isinstance") (hm : X.mg "isinstance" = none) (hN : X.N[i]? = some x) (hv : Vis X.env.scope x) (hgT : Gl X y) (hmT : X.mg y = some (.ref a2))
    (hd : (x == ("__debug__" : Str)) = false := by decide) (hcd : (x == ("__classdict__" : Str)) = false := by decide) (hdy : (y == ("__debug__" : Str)) = false := by decide) (hs : starEach [.Name x p3, .Name y p2] X.env = (false, eval (.Name x p3) X.env) :: starEach [.Name y p2] X.env := by rfl)
    (hs2 : starEach [.Name y p2] X.env = (false, eval (.Name y p2) X.env) :: starEach [] X.env := by rfl) (hpl : (backTo pos (starEach [.Name y p2] X.env)).any (·.1) = false := by rfl) : DE X G (.Call (.Name "isinstance" p) [.Name x p3, .Name y p2] [] pos) (wErrIs b) := by
  refine ⟨pe_imp (pe_callB (call_err g T) hg hm PyProof.Rows.boot_isinstance (pa_cons (pe_var hN hv hd hcd) (pa_cons (pe_glob (v := .ref a2) hgT hmT rfl hdy) pa_nil hs2) hs) (he := hs) (hpl := hpl)) fun σ H Q ⟨env, F, fp, Φ, ho, en, ⟨k, eb, hw⟩, kk⟩ => ?_⟩
  exact ⟨.ref pe.1, en.pin _ g.slot, F, fp, σ, .ref a2, k, en, rfl, err_go ho hw kk, .inl ⟨_, fun u r => r, hk k eb⟩⟩
/-- isinstance(error, T), T built in -/
theorem de_errIsT {T : String} (g : ErrG X G i pe c fs) (tc : ExcC X.K (He.ga X.K c)) (hk : ∀ k, b = some k → PySem.W.kitOne X.K (.ref (He.ga X.K c)) (.type T) = some k) (hg : Gl X "isinstance") (hm : X.mg "isinstance" = none) (hN : X.N[i]? = some x) (hv : Vis X.env.scope x) (hgT : Gl X y) (hmT : X.mg y = none) (hvT : bootBuiltins y = some (.type T))
    (hn : y ≠ "__name__" := by decide) (hd : (x == ("__debug__" : Str)) = false := by decide) (hcd : (x == ("__classdict__" : Str)) = false := by decide) (hdy : (y == ("__debug__" : Str)) = false := by decide) (hs : starEach [.Name x p3, .Name y p2] X.env = (false, eval (.Name x p3) X.env) :: starEach [.Name y p2] X.env := by rfl)
    (hs2 : starEach [.Name y p2] X.env = (false, eval (.Name y p2) X.env) :: starEach [] X.env := by rfl) (hpl : (backTo pos (starEach [.Name y p2] X.env)).any (·.1) = false := by rfl) : DE X G (.Call (.Name "isinstance" p) [.Name x p3, .Name y p2] [] pos) (wErrIs b) := by
  refine ⟨pe_imp (pe_callB (call_err g tc) hg hm PyProof.Rows.boot_isinstance (pa_cons (pe_var hN hv hd hcd) (pa_cons (pe_bltn (v := .ty T) hgT hmT hvT rfl hn hdy) pa_nil hs2) hs) (he := hs) (hpl := hpl)) fun σ H Q ⟨env, F, fp, Φ, ho, en, ⟨k, eb, hw⟩, kk⟩ => ?_⟩
  exact ⟨.ref pe.1, en.pin _ g.slot, F, fp, σ, .ty T, k, en, rfl, err_go ho hw kk, .inl ⟨_, fun u r => r, hk k eb⟩⟩
/-- isinstance(error, (C, ..)) -/
theorem de_errIsL {es : List Expr} {as : List Addr} {x1} (g : ErrG X G i pe c fs) (tc : ExcC X.K (He.ga X.K c)) (hk : ∀ k, b = some k → PySem.W.kitAny X.K (.ref (He.ga X.K c)) (as.map Value.ref) = some k) (hg : Gl X "isinstance") (hm : X.mg "isinstance" = none) (hN : X.N[i]? = some x) (hv : Vis X.env.scope x) (hl : CN X es as) (hn : as.length ≤ 1000)
    (hd : (x == ("__debug__" : Str)) = false := by decide) (hcd : (x == ("__classdict__" : Str)) = false := by decide) (hs : starEach [.Name x p3, .Tuple es x1 p2] X.env = (false, eval (.Name x p3) X.env) :: starEach [.Tuple es x1 p2] X.env := by rfl)
    (hs2 : starEach [.Tuple es x1 p2] X.env = (false, eval (.Tuple es x1 p2) X.env) :: starEach [] X.env := by rfl) (hpl : (backTo pos (starEach [.Tuple es x1 p2] X.env)).any (·.1) = false := by rfl) : DE X G (.Call (.Name "isinstance" p) [.Name x p3, .Tuple es x1 p2] [] pos) (wErrIs b) := by
  refine ⟨pe_imp (pe_callB (call_err g tc) hg hm PyProof.Rows.boot_isinstance (pa_cons (pe_var hN hv hd hcd) (pa_cons (pe_tup hl.pa) pa_nil hs2) hs) (he := hs) (hpl := hpl)) fun σ H Q ⟨env, F, fp, Φ, ho, en, ⟨k, eb, hw⟩, kk⟩ => ?_⟩
  refine ⟨.ref pe.1, en.pin _ g.slot, by rw [List.length_map, sizeLine_eq]; omega, fun q hq => ?_⟩
  have nw : New H (upd H q (.tup (as.map V.ref))) [] := New.none_ hq
  refine ⟨F, fp, σ, .ref q, k, en.go (by simpa using nw.stp) fun _ h => h, rfl, ?_, .inr ⟨q, as, rfl, upd_same, hk k eb⟩⟩
  exact kk _ _ hw _ _ F [] fp (res_bl (by simpa using nw.stp) ⟨ho.rep.keep nw.kps (fun _ z => z) fun _ _ z => z, ho.nd, ho.dis, fun a z q2 => ho.fx a z (nw.live a q2)⟩)
end

/-! ### try -/
def wTry (sub : Str → Option Bool) (EWo : EWt) (i : Nat) (wb : EWt → WS) (hs : Str → List (Str × D) → WS) : WS := fun Dd env =>
  wb (fun c fs e1 => i < e1.length ∧ ∃ b, sub c = some b ∧ (b = true → hs c fs ⟨fun e => Dd.nx (e.set i none), Dd.rt, fun e => Dd.bk (e.set i none), fun e => Dd.ct (e.set i none)⟩ (e1.set i none)) ∧ (b = false → EWo c fs e1)) Dd env
section
variable {K : PySem.W.Frag} {F : Addr → Prop} {H : Hp} {env : Ev} {σ : Sg} {fp : List Addr} {i : Nat}
theorem Hold.unset (h : Hold K F H env σ fp) (i : Nat) (s : Option V) (hi : i < env.length) : ∃ fp2, Hold K F H (env.set i none) (σ.set i s) fp2 ∧ ∀ a ∈ fp2, a ∈ fp := by
  obtain ⟨fa, fi, fb, s0, ef, es, h3, h4⟩ := h.rep.cut hi
  have re := h4 (W := fun _ => False) (F' := F) (H' := H) kps_self (fun a z => z) (fun _ _ z => z) none s [] rfl
  have nd := h.nd
  rw [ef] at nd
  obtain ⟨n1, n2, n3⟩ := perm3 nd
  refine ⟨fa ++ ([] ++ fb), ⟨re, by simpa using n1, fun a ha => h.dis a ?_, h.fx⟩, fun a ha => ?_⟩
  · rw [ef]; simp at ha ⊢; rcases ha with z | z <;> simp [z]
  · rw [ef]; simp at ha ⊢; rcases ha with z | z <;> simp [z]
theorem set_out {α : Type} {l : List α} {i : Nat} {a : α} (h : ¬ i < l.length) : l.set i a = l := List.set_eq_of_length_le (Nat.le_of_not_lt h)
theorem Hold.unset0 (h : Hold K F H env σ fp) (i : Nat) : ∃ fp2, Hold K F H (env.set i none) (σ.set i none) fp2 ∧ ∀ a ∈ fp2, a ∈ fp := by
  by_cases hi : i < env.length
  · exact h.unset i none hi
  · rw [set_out hi, set_out (by rw [h.rep.len]; exact hi)]
    exact ⟨fp, h, fun _ z => z⟩
end
section
variable {X : Cx} {G : Gh} {EWo : EWt} {i : Nat} {x n : Str} {CB : Addr} {body suite : List Stmt} {b₀ : Stmt} {np pos pos' : Pos} {wb : EWt → WS} {hs : Str → List (Str × D) → WS} {sub : Str → Option Bool}
theorem ds_try (hst : X.stack = X.env :: X.outer) (hf : X.env.frame = some X.env.locals) (hN : X.N.Nodup) (hi : X.N[i]? = some n) (hln : X.env.kindOf n = some .local) (hc : Names X x (.ref CB)) (tk : Tk X G EWo) (hpin : ∀ p ∈ G.pins, p.1 ≠ i) (hsub : ∀ c b, sub c = some b → PySem.W.exmOne X.K (.ref (He.ga X.K c)) (.ref CB) = some b)
    (hb : ∀ (EW : EWt) (pn : List (Addr × Obj)) (xe : Value → Shared → Prop), Tk (X.tr pn xe) G EW → PassesOwn (model X.prog X.w) X.A X.env xe → DSs (X.tr pn xe) G body (wb EW))
    (hsu : ∀ (a : Addr) (oe : Obj) (pn : List (Addr × Obj)) (G' : Gh) (c : Str) (fs : List (Str × D)), ErrG (X.suite a ((a, oe) :: pn)) G' i (a, oe) c fs → HotP (X.suite a ((a, oe) :: pn)) (a, oe) → G'.pins = (i, .ref a) :: G.pins → sub c = some true → DSs (X.suite a ((a, oe) :: pn)) G' (b₀ :: suite) (hs c fs)) :
    DS X G (.Try body [.ExceptHandler (some (.Name x np)) (some n) (b₀ :: suite) pos'] [] [] pos) (wTry sub EWo i wb hs) := by
  refine ⟨ps_imp (L2N.ps_try_as (tb := fun W D σ H => ∃ EW, (∀ cls d σ H, WXof X.K G EW cls d σ H → W cls d σ H) ∧ lS X.K G (wb EW) D σ H)
    (ts := fun a cls d D σ H => ∃ G' c fs, cls = .ref (He.ga X.K c) ∧ sub c = some true ∧ G'.pins = (i, .ref a) :: G.pins ∧ Mks G'.H0 G'.fp0 ∧ (∀ a ∈ G'.fp0, ¬ G'.F0 a) ∧ ((fs = [] ∧ d = none) ∨ ∃ dx vs, d = some dx ∧ G'.H0 dx = some (.xd ((fs.map (·.1)).zip vs)) ∧ RepF X.K G'.F0 G'.H0 fs vs []) ∧ lS X.K G' (hs c fs) D σ H)
    hst hf hN hi hln hc tk (fun W pn xe tkW hp => ⟨fun pins s σ H D I ⟨EW, hE, q⟩ => (hb EW pn xe (L2N.Takes.imp tkW hE) hp).ps.run pins s σ H D I q⟩)
    (fun a oe cls d pn hz hd => ⟨fun pins s σ H D I ⟨G', c, fs, ec, es, ep, hm, hdis, hfl, q⟩ => ?_⟩)) fun D σ H ⟨env, F, fp, Dd, ho, en, hw, ad⟩ => ?_⟩
  · subst ec
    obtain ⟨vs, hv⟩ := hd
    exact (hsu a oe pn G' c fs ⟨List.mem_cons_self .., by rw [ep]; exact List.mem_cons_self .., hm, hdis, d, hz, ⟨vs, hv⟩, hfl⟩ ⟨⟨rfl, vs, hv, hz.2.2 vs hv⟩, List.mem_cons_self ..⟩ ep es).ps.run pins s σ H D I q
  · refine ⟨fun c fs e1 => i < e1.length ∧ ∃ b, sub c = some b ∧ (b = true → hs c fs ⟨fun e => Dd.nx (e.set i none), Dd.rt, fun e => Dd.bk (e.set i none), fun e => Dd.ct (e.set i none)⟩ (e1.set i none)) ∧ (b = false → EWo c fs e1), fun cls d σ1 H1 ⟨e1, F1, fp1, c, fs, ho1, en1, ⟨ec, ex⟩, hi1, b, eb, ht, hfa⟩ => ?_, env, F, fp, Dd, ho, en, hw, ad⟩
    subst ec
    refine ⟨b, hsub c b eb, fun hbt a na => ?_, fun hbf => ⟨e1, F1, fp1, c, fs, ho1, en1, ⟨rfl, ex⟩, hfa hbf⟩⟩
    subst hbt
    obtain ⟨fp2, ho2, sb⟩ := ho1.unset i (some (V.ref a)) hi1
    refine ⟨⟨F1, fp2, H1, (i, .ref a) :: G.pins⟩, c, fs, rfl, eb, rfl, ho2.rep.mks, ho2.dis, ex, e1.set i none, F1, fp2, _, ho2, ⟨.refl, fun p hp => ?_⟩, ht rfl, ?_⟩
    · rcases List.mem_cons.mp hp with z | z
      · rw [z]; exact List.getElem?_set_self (by rw [ho1.rep.len]; exact hi1)
      · rw [List.getElem?_set_ne (Ne.symm (hpin p z))]
        exact en1.pin p z
    · have up : ∀ {F5 : Addr → Prop} {fp5 fp6 : List Addr} {H5 : Hp} {σ5 : Sg}, Ent ⟨F1, fp2, H1, (i, .ref a) :: G.pins⟩ F5 fp5 H5 σ5 → (∀ a ∈ fp6, a ∈ fp5) → Ent G F5 fp6 H5 (σ5.set i none) := fun {F5 fp5 fp6 H5 σ5} e sb6 =>
        ⟨(en1.st.trans sb e.st).less sb6, fun p hp => by rw [List.getElem?_set_ne (Ne.symm (hpin p hp))]; exact e.pin p (List.mem_cons_of_mem _ hp)⟩
      refine ⟨fun e5 σ5 H5 F5 fp5 ho5 en5 q => ?_, fun e5 σ5 H5 F5 fp5 ho5 en5 q => ?_, fun e5 σ5 H5 F5 fp5 ho5 en5 q => ?_, fun d5 e5 σ5 H5 F5 x5 fpr5 fp5 ho5 en5 rp5 nd5 dj5 q => ?_⟩
      · obtain ⟨f6, h6, s6⟩ := ho5.unset0 i
        exact ad.nx _ _ _ _ _ h6 (up en5 s6) q
      · obtain ⟨f6, h6, s6⟩ := ho5.unset0 i
        exact ad.bk _ _ _ _ _ h6 (up en5 s6) q
      · obtain ⟨f6, h6, s6⟩ := ho5.unset0 i
        exact ad.ct _ _ _ _ _ h6 (up en5 s6) q
      · exact ad.rt d5 e5 σ5 H5 F5 x5 fpr5 fp5 ho5 ⟨en1.st.trans sb en5.st, fun p hp => en5.pin p (List.mem_cons_of_mem _ hp)⟩ rp5 nd5 dj5 q
end
end Vd

set_option Elab.async false
set_option linter.all false
set_option maxRecDepth 100000
set_option maxHeartbeats 4000000
/-! Vd, part 29: defs that are given the caught error. -/
namespace Vd
open PySem PySem.Spec PyProof.Rows L2 L2H
/-- a promise on a caught error (its class, its fields) and data -/
abbrev SpX := Str → List (Str × D) → List D → (D → Prop) → Prop
def spErr (K : PySem.W.Frag) (n : Nat) (sp : SpX) : Addr × Obj → Sp := fun p vs H Q _ => ∃ c fs vr ds F fps Q0, vs = .ref p.1 :: vr ∧ ErrAt K F H p.2 c fs ∧ RepL K F H ds vr fps ∧ fps.Nodup ∧ (∀ a ∈ fps, ¬ F a) ∧ (∀ a, F a → H a ≠ none) ∧ ds.length = n ∧ sp c fs ds Q0 ∧
  ∀ d, Q0 d → ∀ x H' F' fpr, Stp F fps H F' fpr H' → Rep K F' H' d x fpr → fpr.Nodup → (∀ a ∈ fpr, ¬ F' a) → (∀ a, F' a → H' a ≠ none) → Q x H'
structure XHOk (P : Program) (w : World) (K : PySem.W.Frag) (mg : Str → Option Value) (base : Heap) (k : Nat) (x : Str) (n : Nat) (sp : SpX) : Prop where
  ex : ∃ f fd ps, FnP P w K mg base (L2N.CX P w) k f fd ps (spErr K n sp) ∧ mg x = some (.ref f) ∧ PySem.W.keepIn K (.ref f) = true ∧ Binds K fd ps []
def envE (N : List Str) (ds : List D) : Ev := none :: (ds.map some ++ List.replicate (N.length - (ds.length + 1)) none)
def xEnd (Q : D → Prop) : Dn := ⟨fun _ => Q .non, fun d _ => Q d, fun _ => False, fun _ => False⟩
theorem ErrG.move {X : Cx} {G : Gh} {i : Nat} {pe : Addr × Obj} {c : Str} {fs : List (Str × D)} {F : Addr → Prop} {fp : List Addr} {H : Hp} (g : ErrG X G i pe c fs) (st : Stp G.F0 G.fp0 G.H0 F fp H) : ErrAt X.K F H pe.2 c fs := by
  obtain ⟨d, hz, hv, q⟩ := g.at_
  refine ⟨d, hz, hv, ?_⟩
  rcases q with q | ⟨dx, vs, rfl, hx, rf⟩
  · exact .inl q
  · have nfp : dx ∉ G.fp0 := fun z => by
      obtain ⟨o, eo, m⟩ := g.mks dx z
      rw [hx] at eo
      cases eo
      exact m.elim
    exact .inr ⟨dx, vs, rfl, st.keep dx _ hx nfp, repF_L.mpr ((repF_L.mp rf).keep ⟨fun a o e n => st.keep a o e n, fun a z => g.mks a z, fun a z q => g.dis a q z⟩ st.mono fun a ha => absurd ha (List.not_mem_nil))⟩
theorem xhok_of {P : Program} {w : World} {K : PySem.W.Frag} {mg : Str → Option Value} {base : Heap} {x : Str} {st : Stmt} {N ps : List Str} {k n : Nat} {sp : SpX} {ok : Str → Prop} {wb : Str → List (Str × D) → WS} (d : DfAt K mg x st) (S : FnScope N ps (defScope st)) (hps : ps.length = n + 1)
    (hbind : ∀ (kV doc pm : Value) (an : Option Addr) (cdv ct : Value) (us : List Value), us.length = ps.length → bindArgs (PySem.W.fnOf x x (defArgs st) (defBody st) (defScope st) .none kV doc pm an cdv ct) ⟨us, []⟩ = pure (ps.zip us))
    (hok : ∀ c fs ds Q, sp c fs ds Q → ok c)
    (hb : ∀ (f : Addr) (cdv : Value) (A : Around) (outer : List Env) (s : Shared) (H : Hp) (E : XK) (G : Gh) (p : Addr × Obj) (c : Str) (fs : List (Str × D)), Hot1 A p → RoomH k (A.deeper (envOfC x (defScope st) s.heap.objs.size f cdv)) → (∀ p ∈ G.pins, p.1 = 0) → ok c →
      ErrG (cxH (L2N.CX P w) P w K mg base N x (defScope st) f cdv A outer s H E p) G 0 p c fs → DSs (cxH (L2N.CX P w) P w K mg base N x (defScope st) f cdv A outer s H E p) G (defBody st) (wb c fs))
    (hw : ∀ c fs ds Q, ds.length = n → sp c fs ds Q → wb c fs (xEnd Q) (envE N ds)) : XHOk P w K mg base (k + 1) x n sp := by
  obtain ⟨f, fd, F, hmg⟩ := d
  refine ⟨f, fd, ps, fnP_of F S (fun p vs H Q E ⟨c, fs, vr, ds, F, fps, Q0, e, _, h1, _, _, _, h2, _⟩ => by rw [e, List.length_cons, ← h1.len, h2, hps]) fun cdv A outer s H vs Q E p hot hr h => ?_, hmg, F.kp, F.bindsN hbind⟩
  obtain ⟨c, fs, vr, ds, F1, fps, Q0, rfl, her, hr1, nd, dis, fx, hl, hsp, kq⟩ := h
  let G : Gh := ⟨F1, fps, H, [(0, .ref p.1)]⟩
  have e0 : L2.start N (V.ref p.1 :: vr) = some (.ref p.1) :: (vr.map some ++ List.replicate (N.length - (ds.length + 1)) none) := by unfold L2.start; rw [List.length_cons, ← hr1.len]; rfl
  have g : ErrG (cxH (L2N.CX P w) P w K mg base N x (defScope st) f cdv A outer s H E p) G 0 p c fs := ⟨List.mem_singleton.mpr rfl, List.mem_singleton.mpr rfl, hr1.mks, dis, her⟩
  refine ⟨_, (hb f cdv A outer s H E G p c fs hot hr (fun q hq => by rw [List.mem_singleton.mp hq]) (hok _ _ _ _ hsp) g).ps, ⟨envE N ds, F1, fps, xEnd Q0, ⟨?_, nd, dis, fx⟩, ⟨.refl, fun q hq => ?_⟩, hw c fs ds Q0 hl hsp, ?_⟩⟩
  · rw [e0]
    exact ⟨some (.ref p.1), _, [], fps, rfl, rfl, rfl, repE_start _ hr1⟩
  · rw [List.mem_singleton.mp hq, e0]; rfl
  · exact ⟨fun env σ H' F' fp ho en hq => kq .non hq .non H' F' [] (en.st.less fun a ha => absurd ha (List.not_mem_nil)) (by simp [Rep]) List.nodup_nil (fun a ha => absurd ha (List.not_mem_nil)) ho.fx, fun _ _ _ _ _ _ _ z => z.elim, fun _ _ _ _ _ _ _ z => z.elim,
      fun d env σ H' F' x fpr fp ho en rp n dj hq => kq d hq x H' F' fpr (en.st.less fun a ha => List.mem_append_left _ ha) rp n (fun a ha => (dj a ha).2) ho.fx⟩
/-- x(error, e, ..) -/
def wErrCall (sp : SpX) (c : Str) (fs : List (Str × D)) (n : Nat) (ws : WL) : W1 := fun env Φ => ws env fun rs e2 => capL e2 rs fun ds e3 => ds.length = n ∧ sp c fs ds fun d => Φ (.tmp d) e3
section
variable {X : Cx} {G : Gh} {i n k : Nat} {pe : Addr × Obj} {c x y : Str} {fs : List (Str × D)} {sp : SpX} {ws : WL} {p p2 pos : Pos} {e : Expr} {es : List Expr}
theorem de_errCall (d : XHOk X.prog X.w X.K X.mg X.base k x n sp) (g : ErrG X G i pe c fs) (hr : RoomH k X.A) (hp : HotP X pe) (hg : Gl X x) (hN : X.N[i]? = some y) (hv : Vis X.env.scope y) (ha : DA X G es ws) (hdb : (x == ("__debug__" : Str)) = false := by decide) (hd : (y == ("__debug__" : Str)) = false := by decide) (hcd : (y == ("__classdict__" : Str)) = false := by decide)
    (he : starEach (.Name y p2 :: es) X.env = (false, eval (.Name y p2) X.env) :: starEach es X.env := by rfl) (hpl : (backTo pos (starEach es X.env)).any (·.1) = false := by rfl) : DE X G (.Call (.Name x p) (.Name y p2 :: es) [] pos) (wErrCall sp c fs n ws) := by
  obtain ⟨f, fd, ps, F, hm, hk, hb⟩ := d.ex
  refine ⟨pe_imp (pe_callP F hr hp.1 hp.2 hg hm hk hb (fun σ => L2N.passAt takes0N σ) (pa_cons (pe_var hN hv hd hcd) ha.pa he) hdb he hpl) fun σ H Q ⟨env, F0, fp, Φ, ho, en, hw, kk⟩ => ?_⟩
  refine ⟨.ref pe.1, en.pin _ g.slot, env, F0, fp, _, ho, en, hw, fun rs e2 h2 xs H2 F2 fpr fp2 r2 => ?_⟩
  obtain ⟨ds, e3, F3, fd', g3, ⟨hl, hsp⟩, q2, q3, q4, q5, q6, q7, q8, q9⟩ := capL_go rs r2.ho r2.rp r2.nd r2.dj h2
  have stp := stp_cap r2.st q6 q7 q8 q9
  refine ⟨c, fs, xs, ds, F3, fd', _, rfl, g.move (en.st.trans (fun _ h => h) stp), q3, q4, fun a ha => (q5 a ha).2, q2.fx, hl, hsp, fun d hq v H' F' fpr' s rp nd dis fx => ?_⟩
  have ks : Kps (fun a => a ∈ fd') F3 H2 H' := ⟨fun a o e n => s.keep a o e n, fun a z => q3.mks a z, fun a z q => (q5 a q).2 z⟩
  have out : ∀ a ∈ g3, a ∉ fpr' ∧ ¬ F' a := fun a ha => by
    obtain ⟨o, eo, _⟩ := q2.rep.mks a ha
    refine ⟨fun z => ?_, fun z => ?_⟩
    · rcases s.nfp a z with w | w
      · exact (q5 a w).1 ha
      · rw [eo] at w; cases w
    · rcases s.nF a z with w | w | w
      · exact q2.dis a ha w
      · exact (q5 a w).1 ha
      · rw [eo] at w; cases w
  refine kk _ _ hq v H' F' fpr' g3 ⟨⟨fun a o e n => s.keep a o (stp.keep a o e n) fun z => ?_, fun a z => stp.live a (s.live a z), fun a z => s.mono a (stp.mono a z), fun a z => ?_, fun a z => ?_⟩, ⟨q2.rep.keep ks s.mono fun a ha z => (q5 a z).1 ha, q2.nd, fun a ha => (out a ha).2, fx⟩, rp, nd, fun a ha => ⟨fun z => (out a z).1 ha, dis a ha⟩⟩
  · rcases stp.nfp a (List.mem_append_left _ z) with w | w
    · exact n w
    · rw [e] at w; cases w
  · rcases s.nF a z with w | w | w
    · exact stp.nF a w
    · exact .inr (stp.nfp a (List.mem_append_left _ w))
    · exact .inr (.inr (stp.live a w))
  · rcases List.mem_append.mp z with w | w
    · rcases s.nfp a w with y | y
      · exact stp.nfp a (List.mem_append_left _ y)
      · exact .inr (stp.live a y)
    · exact stp.nfp a (List.mem_append_right _ w)
end
end Vd

set_option Elab.async false
set_option linter.all false
set_option maxRecDepth 100000
set_option maxHeartbeats 4000000
/-! Vd, part 30: own operators. -/
namespace Vd
open PySem PySem.Spec PyProof.Rows L2
theorem cmpBack_of {x : V} {u : Value} {s : Shared} {Q : Value → Shared → Prop} (r : RelV x u) (q : Q u s) : PySem.W.CmpBack Q u s := by
  cases x with
  | non => cases (show u = Value.none from r); exact q
  | bl b => cases (show u = Value.bool b from r); exact q
  | int i => obtain ⟨t, rfl⟩ := (show ∃ t, u = Value.int i t from r); exact q
  | str i => obtain ⟨t, rfl⟩ := (show ∃ t, u = Value.str i t from r); exact q
  | byt i => obtain ⟨t, rfl⟩ := (show ∃ t, u = Value.bytes i t from r); exact q
  | flt i => obtain ⟨t, rfl⟩ := (show ∃ t, u = Value.float i t from r); exact q
  | ref a => cases (show u = Value.ref a from r); exact q
  | ty n => cases (show u = Value.type n from r); exact q
/-- an own operator's method -/
structure OpOk (P : Program) (w : World) (K : PySem.W.Frag) (mg : Str → Option Value) (base : Heap) (k : Nat) (c m : Str) (sp : SpD) : Prop where
  ex : ∃ f fd ps, FnOk P w K mg base (L2N.CX P w) k f fd ps (spH K [false, false] sp) ∧ PySem.W.findIn K (.ref (He.ga K c)) m = some (some (.ref f)) ∧ PySem.W.isFn K (.ref f) = true ∧ Binds K fd ps [] ∧ PySem.W.selfFirst K (He.ga K c) = true
section
variable {X : Cx} {CX : CXT} {k : Nat} {C f : Addr} {fd : FuncData} {ps : List Str} {sp : Sp} {E : L2.St → XK} {a b : Expr} {ta tb : TE} {pos : Pos}
theorem pe_binOwn {op : Operator} (F : FnOk X.prog X.w X.K X.mg X.base CX k f fd ps sp) (hr : Room k X.A) (hb0 : Binds X.K fd ps []) (hx : ∀ σ, PassesAt CX X σ (E σ)) (hc : PySem.W.selfFirst X.K C = true)
    (hs : PySem.W.findIn X.K (.ref C) (PySem.dunder op.info.2) = some (some (.ref f))) (hf : PySem.W.isFn X.K (.ref f) = true) (ha : PE X a ta) (hb : PE X b tb) :
    PE X (.BinOp a op b pos) (fun σ H Q => ta σ H fun x H1 => tb σ H1 fun y H2 => (∃ p q dx dy fs gs, x = .ref p ∧ y = .ref q ∧ H2 p = some (.ins C dx fs) ∧ H2 q = some (.ins C dy gs)) ∧ sp [x, y] H2 Q (E σ)) := by
  refine ⟨fun pins s σ H Q I h => ?_⟩
  refine wpAny_BinOp (binT ha hb I h fun v u s2 x y H2 I2 rx ry q => ?_)
  obtain ⟨⟨p, q, dx, dy, fs, gs, rfl, rfl, h1, h2⟩, h3⟩ := q
  cases rx
  cases ry
  obtain ⟨mA, J, _⟩ := ins_get I2.hok h1
  obtain ⟨mB, J', _⟩ := ins_get I2.hok h2
  obtain ⟨od, J, _⟩ := J.look
  obtain ⟨od', J', _⟩ := J'.look
  obtain ⟨m, hF⟩ := I2.fr
  refine PySem.W.binop_K hF I2.ok.mod.kin J J'.type hc hs hf (wpAny_mono (run_fnS F hr hb0 (hx σ) I2 (us := [.ref p, .ref q]) (vs := [.ref p, .ref q]) (.cons rfl (.cons rfl .nil)) h3) (fun v s' z => ?_) fun _ _ z => z)
  obtain ⟨x, H', I', r, z⟩ := z
  exact cmpBack_of r ⟨x, H', I', r, z⟩
end
def spOwn (c : Str) (sp : SpD) : SpD := fun ds Q E => (∃ o1 f1 o2 f2, ds = [.ins o1 c f1, .ins o2 c f2]) ∧ sp ds Q E
section
variable {X : Cx} {G : Gh} {EW : EWt} {k : Nat} {c m : Str} {sp : SpD} {a b : Expr} {wa wb : W1} {pos : Pos}
theorem lE_imp {K : PySem.W.Frag} {w : W1} {σ : Sg} {H : Hp} {Q Q' : VK} (h : lE K G w σ H Q) (i : ∀ x H1, Q x H1 → Q' x H1) : lE K G w σ H Q' := by
  obtain ⟨env, F, fp, Φ, ho, en, hw, k⟩ := h
  exact ⟨env, F, fp, Φ, ho, en, hw, fun r e1 h1 x H1 F1 f1 g1 r1 => i _ _ (k r e1 h1 x H1 F1 f1 g1 r1)⟩
theorem spH_own {K : PySem.W.Frag} {x y : V} {H : Hp} {Q : VK} {E : XK} (h : spH K [false, false] (spOwn c sp) [x, y] H Q E) : (∃ p q dx dy fs gs, x = .ref p ∧ y = .ref q ∧ H p = some (.ins (He.ga K c) dx fs) ∧ H q = some (.ins (He.ga K c) dy gs)) ∧ spH K [false, false] sp [x, y] H Q E := by
  obtain ⟨ds, F, fps, Q0, E0, h1, h2, h3, h4, ⟨⟨o1, f1, o2, f2, rfl⟩, h5⟩, h6, h7⟩ := h
  refine ⟨?_, _, F, fps, Q0, E0, h1, h2, h3, h4, h5, h6, h7⟩
  obtain ⟨v, r, g1, g2, e1, e2, r1, r2⟩ := h1.inv
  obtain ⟨v', r', g3, g4, e3, e4, r3, r4⟩ := r2.inv
  obtain ⟨p, dx, vs, f', ey, hp, _⟩ := r1.ins_h
  obtain ⟨q, dy, vs', f'', ey', hq, _⟩ := r3.ins_h
  cases e1
  cases e3
  exact ⟨p, q, dx, dy, _, _, ey, ey', hp, hq⟩
theorem de_binOwn {op : Operator} (d : OpOk X.prog X.w X.K X.mg X.base k c m sp) (hm : m = PySem.dunder op.info.2) (hr : Room k X.A) (tk : Tk X G EW) (ha : DE X G a wa) (hb : DE X G b wb) : DE X G (.BinOp a op b pos) (wCall [false, false] (spOwn c sp) [] EW (wCons wa (wCons wb wNil))) := by
  obtain ⟨f, fd, ps, F, h1, h2, h3, h4⟩ := d.ex
  rw [hm] at h1
  refine ⟨pe_imp (pe_binOwn (E := WE (WXof X.K G EW)) F hr h3 (fun σ => L2N.passAt tk σ) h4 h1 h2 ha.pe hb.pe) fun σ H Q h => ?_⟩
  have z := call_go (X := X) (G := G) (EW := EW) (dvs := []) (dvv := []) (fun _ _ => .nil) (fun xs => by rw [List.append_nil]) h
  simp only [List.append_nil] at z
  exact lE_imp (seq_two z) fun x H1 h1 => lE_imp h1 fun y H2 h2 => spH_own h2
end

/-! ### == -/
section
variable {X : Cx} {CX : CXT} {k : Nat} {C f : Addr} {fd : FuncData} {ps : List Str} {sp : Sp} {E : L2.St → XK} {a b : Expr} {ta tb : TE} {pos : Pos}
theorem pe_eqOwn (F : FnOk X.prog X.w X.K X.mg X.base CX k f fd ps sp) (hr : Room k X.A) (hb0 : Binds X.K fd ps []) (hx : ∀ σ, PassesAt CX X σ (E σ))
    (hs : PySem.W.findIn X.K (.ref C) "__eq__" = some (some (.ref f))) (hf : PySem.W.isFn X.K (.ref f) = true) (ha : PE X a ta) (hb : PE X b tb) (hm : behindInMarks .Eq b = false) :
    PE X (.Compare a [.Eq] [b] pos) (fun σ H Q => ta σ H fun x H1 => tb σ H1 fun y H2 => (∃ p dx fs t, x = .ref p ∧ H2 p = some (.ins C dx fs) ∧ TyX X.K H2 y t ∧ PySem.W.notFirst X.K C t = true) ∧ sp [x, y] H2 Q (E σ)) := by
  refine ⟨fun pins s σ H Q I h => ?_⟩
  refine wpAny_Compare1 (binT ha hb I h fun v u s2 x y H2 I2 rx ry q => ?_) hm
  obtain ⟨⟨p, dx, fs, t, rfl, h1, h2, nf⟩, h3⟩ := q
  cases rx
  obtain ⟨mA, J, _⟩ := ins_get I2.hok h1
  obtain ⟨od, J, _⟩ := J.look
  obtain ⟨m, hF⟩ := I2.fr
  obtain ⟨P, Z, hp, _⟩ := kit_of I2 ry h2
  show wpAny (model X.prog X.w) X.A (richCompare .Eq (.ref p) u) (EP X pins σ Q) X.xe s2
  refine PySem.W.cmp_K (op := .Eq) hr.units0 hF I2.ok.mod.kin J (Z.ty _ _ I2.kIn hp) nf hs hf (wpAny_mono (run_fnS F hr hb0 (hx σ) I2 (us := [.ref p, u]) (vs := [.ref p, y]) (.cons rfl (.cons ry .nil)) h3) (fun v s' z => ?_) fun _ _ z => z)
  obtain ⟨x, H', I', r, z⟩ := z
  exact cmpBack_of r ⟨x, H', I', r, z⟩
end
def spOwnE (c : Str) (sp : SpD) : SpD := fun ds Q E => (∃ o1 f1 d, ds = [.ins o1 c f1, d] ∧ ((∃ o2 f2, d = .ins o2 c f2) ∨ (tyN d).isSome = true)) ∧ sp ds Q E
/-- the own ==, and what is asked of the class's place among the types -/
structure EqOk (P : Program) (w : World) (K : PySem.W.Frag) (mg : Str → Option Value) (base : Heap) (k : Nat) (c : Str) (sp : SpD) : Prop where
  ex : ∃ f fd ps, FnOk P w K mg base (L2N.CX P w) k f fd ps (spH K [false, false] sp) ∧ PySem.W.findIn K (.ref (He.ga K c)) "__eq__" = some (some (.ref f)) ∧ PySem.W.isFn K (.ref f) = true ∧ Binds K fd ps []
  ct : ClsT K c
  nf : ∀ a ∈ ["NoneType", "bool", "int", "str", "tuple", "list"], PySem.W.notFirst K (He.ga K c) (.type a) = true
section
variable {X : Cx} {G : Gh} {EW : EWt} {k : Nat} {c : Str} {sp : SpD} {a b : Expr} {wa wb : W1} {pos : Pos}
theorem spH_ownE {K : PySem.W.Frag} {x y : V} {H : Hp} {Q : VK} {E : XK} (ct : ClsT K c) (nf : ∀ a ∈ ["NoneType", "bool", "int", "str", "tuple", "list"], PySem.W.notFirst K (He.ga K c) (.type a) = true) (h : spH K [false, false] (spOwnE c sp) [x, y] H Q E) :
    (∃ p dx fs t, x = .ref p ∧ H p = some (.ins (He.ga K c) dx fs) ∧ TyX K H y t ∧ PySem.W.notFirst K (He.ga K c) t = true) ∧ spH K [false, false] sp [x, y] H Q E := by
  obtain ⟨ds, F, fps, Q0, E0, h1, h2, h3, h4, ⟨⟨o1, f1, d, rfl, hd⟩, h5⟩, h6, h7⟩ := h
  refine ⟨?_, _, F, fps, Q0, E0, h1, h2, h3, h4, h5, h6, h7⟩
  obtain ⟨v, r, g1, g2, e1, e2, r1, r2⟩ := h1.inv
  obtain ⟨v', r', g3, g4, e3, e4, r3, r4⟩ := r2.inv
  obtain ⟨p, dx, vs, f', ey, hp, _⟩ := r1.ins_h
  cases e1
  cases e3
  rcases hd with ⟨o2, f2, rfl⟩ | hd
  · obtain ⟨q, dy, vs', f'', ey', hq, _⟩ := r3.ins_h
    rw [ey']
    exact ⟨p, dx, _, _, ey, hp, .base (.ins hq ct.cl ct.ha ct.hn ct.htk ct.mro), by simp [PySem.W.notFirst]⟩
  · obtain ⟨t, et⟩ := Option.isSome_iff_exists.mp hd
    exact ⟨p, dx, _, _, ey, hp, tyN_of r3 et, nf t (tyN_mem et)⟩
theorem de_eqOwn (d : EqOk X.prog X.w X.K X.mg X.base k c sp) (hr : Room k X.A) (tk : Tk X G EW) (ha : DE X G a wa) (hb : DE X G b wb) (hm : behindInMarks .Eq b = false) : DE X G (.Compare a [.Eq] [b] pos) (wCall [false, false] (spOwnE c sp) [] EW (wCons wa (wCons wb wNil))) := by
  obtain ⟨f, fd, ps, F, h1, h2, h3⟩ := d.ex
  refine ⟨pe_imp (pe_eqOwn (E := WE (WXof X.K G EW)) F hr h3 (fun σ => L2N.passAt tk σ) h1 h2 ha.pe hb.pe hm) fun σ H Q h => ?_⟩
  have z := call_go (X := X) (G := G) (EW := EW) (dvs := []) (dvv := []) (fun _ _ => .nil) (fun xs => by rw [List.append_nil]) h
  simp only [List.append_nil] at z
  exact lE_imp (seq_two z) fun x H1 h1 => lE_imp h1 fun y H2 h2 => spH_ownE d.ct d.nf h2
end
end Vd

set_option Elab.async false
set_option linter.all false
set_option maxRecDepth 100000
set_option maxHeartbeats 4000000
/-! Vd, part 31: != by the own ==. -/
namespace PySem.W
open PySem PySem.Spec PySem.Calls PyProof.Rows
section
variable {prog : Program} {w : World} {A : Around} {E : Value → Shared → Prop} {s : Shared} {K : Frag} {x C L f : Addr} {h₀ : Heap} {m : Str → Option Value} {ox : Obj} {od : Option Obj} {name : Str} {b tb : Value}
theorem vd_ifBoundB {M : Model} {T id : String} {args : List Value} {Q : Option Value → Shared → Prop} (X : K.In s.heap) (I : InstAt s.heap x ox C od) (S : Slot T name id) (hs : findIn K (.ref C) name = some (some (.builtin id)))
    (h : wpAny M A (call (.builtin id) (.ref x :: args)) (fun v => Q (some v)) E s) : wpAny M A (callSpecialIfBound? (.ref x) name args) Q E s := by
  simp only [callSpecialIfBound?, bindSpecialIfBound?]
  refine wpAny_holding (wpAny_bind (wpAny_bind (wpAny_bind (I.type.here ((looks_findIn X hs).here ?_)))))
  simp only [S.bind]
  refine wpAny_bind (wpAny_askSetting (wpAny_ite ?_))
  have fin : wpAny M A (call (.builtin id) ([.ref x] ++ args) >>= fun v => pure (some v)) Q E s := wpAny_bind (wpAny_mono h (fun v s' h' => wpAny_pure h') fun _ _ h' => h')
  split
  · exact wpAny_bind (wpAny_pure (wpAny_pure fin))
  · exact wpAny_tryCatch (wpAny_bind (wpAny_pure (wpAny_pure fin)))
/-- a comparison by what its first attempt gives -/
theorem vd_cmp {op : CmpOp} {Q : Value → Shared → Prop} (hu : A.units < cLine) (X : K.In s.heap) (I : InstAt s.heap x ox C od) (hb : Looks (model prog w) s.heap (typeOf b) tb) (hn : notFirst K C tb = true)
    (one : wpAny (model prog w) A (tryCompare (.ref x) (cmpInfo op).2.1 b) (fun r s' => ∃ v, r = some v ∧ Q v s') E s) : wpAny (model prog w) A (richCompare op (.ref x) b) Q E s := by
  unfold richCompare
  simp only [oneThing_ref]
  refine wpAny_holding (wpAny_bind (wpAny_cRoomFor hu ?_))
  refine wpAny_bind (I.type.here (wpAny_bind (hb.here ?_)))
  split
  · rename_i q
    have e : subIn K tb (.ref C) = some false := by
      rcases Bool.or_eq_true_iff.mp hn with e | e
      · rw [beq_iff_eq.mp e] at q; simp at q
      · exact beq_iff_eq.mp e
    refine wpAny_bind ((looks_subIn X e).here ?_)
    simp only [Bool.false_eq_true, if_false]
    refine wpAny_bind (wpAny_mono one (fun r s' z => ?_) fun _ _ e => e)
    obtain ⟨v, rfl, hq⟩ := z
    exact wpAny_pure hq
  · refine wpAny_bind (wpAny_pure ?_)
    simp only [Bool.false_eq_true, if_false]
    refine wpAny_bind (wpAny_mono one (fun r s' z => ?_) fun _ _ e => e)
    obtain ⟨v, rfl, hq⟩ := z
    exact wpAny_pure hq
/-- object.__ne__ of an instance with an own == that gives a truth value -/
theorem vd_ne {Q : Value → Shared → Prop} (hu : A.units + 1 < cLine) (X : K.In s.heap) (I : InstAt s.heap x ox C od) (hb : Looks (model prog w) s.heap (typeOf b) tb) (hn : notFirst K C tb = true) (hob : subIn K (.ref C) (.type "object") = some true)
    (hne : findIn K (.ref C) "__ne__" = some (some (.builtin "object.__ne__"))) (heq : findIn K (.ref C) "__eq__" = some (some (.ref f))) (hf : isFn K (.ref f) = true)
    (h : wpAny (model prog w) A.in1 (call (.ref f) [.ref x, b]) (fun v s' => ∃ k, v = .bool k ∧ Q (.bool (!k)) s') E s) : wpAny (model prog w) A (richCompare .NotEq (.ref x) b) Q E s := by
  refine vd_cmp (Nat.lt_of_succ_lt hu) X I hb hn ?_
  unfold tryCompare
  refine wpAny_bind (vd_ifBoundB X I PySem.F.slot_object_ne hne ?_)
  refine wpAny_call (codeAny_call_builtin PySem.F.slot_object_ne.plain PySem.F.entry_object_ne (check_slot (owner := "object") (n := "__ne__") (by decide +kernel) (by decide +kernel) (I.type.andThen (looks_subIn X hob)) (PySem.F.args_object_ne_2 _ _) ?_))
  unfold Builtin.«object.__ne__»
  refine wpAny_bind (wpAny_of_eq (a := ((Value.ref x : Value), [b])) (by first | rfl | (simp only [slotArgs]; rfl)) ?_)
  refine wpAny_bind (wpAny_cRoomFor (by show A.units + 1 < cLine; exact hu) ?_)
  refine wpAny_bind (ifBound_K X I heq hf (wpAny_mono h (fun v s' hv => ?_) fun _ _ e => e))
  obtain ⟨k, rfl, q⟩ := hv
  refine wpAny_bind (wpAny_truthy_bool ?_)
  exact wpAny_pure (wpAny_pure ⟨_, rfl, q⟩)
end
end PySem.W
namespace Vd
open PySem PySem.Spec PyProof.Rows L2
section
variable {X : Cx} {CX : CXT} {k : Nat} {C f : Addr} {fd : FuncData} {ps : List Str} {sp : Sp} {E : L2.St → XK} {a b : Expr} {ta tb : TE} {pos : Pos}
theorem pe_neOwn (F : FnOk X.prog X.w X.K X.mg X.base CX k f fd ps sp) (hr : Room (k + 1) X.A) (hb0 : Binds X.K fd ps []) (hx : ∀ σ, PassesAt CX X σ (E σ)) (hob : PySem.W.subIn X.K (.ref C) (.type "object") = some true) (hne : PySem.W.findIn X.K (.ref C) "__ne__" = some (some (.builtin "object.__ne__")))
    (hs : PySem.W.findIn X.K (.ref C) "__eq__" = some (some (.ref f))) (hf : PySem.W.isFn X.K (.ref f) = true) (ha : PE X a ta) (hb : PE X b tb) (hm : behindInMarks .NotEq b = false) :
    PE X (.Compare a [.NotEq] [b] pos) (fun σ H Q => ta σ H fun x H1 => tb σ H1 fun y H2 => (∃ p dx fs t, x = .ref p ∧ H2 p = some (.ins C dx fs) ∧ TyX X.K H2 y t ∧ PySem.W.notFirst X.K C t = true) ∧ sp [x, y] H2 (fun v H3 => ∃ k, v = .bl k ∧ Q (.bl (!k)) H3) (E σ)) := by
  refine ⟨fun pins s σ H Q I h => ?_⟩
  refine wpAny_Compare1 (binT ha hb I h fun v u s2 x y H2 I2 rx ry q => ?_) hm
  obtain ⟨⟨p, dx, fs, t, rfl, h1, h2, nf⟩, h3⟩ := q
  cases rx
  obtain ⟨mA, J, _⟩ := ins_get I2.hok h1
  obtain ⟨od, J, _⟩ := J.look
  obtain ⟨P, Z, hp, _⟩ := kit_of I2 ry h2
  show wpAny (model X.prog X.w) X.A (richCompare .NotEq (.ref p) u) (EP X pins σ Q) X.xe s2
  have r1 : Room k X.A.in1 := hr.in1
  refine PySem.W.vd_ne r1.units0 I2.kIn J (Z.ty _ _ I2.kIn hp) nf hob hne hs hf ?_
  have e0 : Env0 X.prog X.w X.K X.mg X.base X.A.in1 X.stack s2 H2 := by
    have e := I2.env0
    exact ⟨e.frames, e.mod, e.bs, e.bsz, e.funs, e.frf, e.hok, e.bare⟩
  have hl := F.len _ _ _ _ h3
  have b0 := hb0 s2 [.ref p, u] I2.kIn (by simpa using hl)
  refine wpAny_call (codeAny_mono (F.run X.A.in1 X.stack s2 H2 ⟨[.ref p, u], []⟩ [.ref p, u] [.ref p, y] _ (E σ) r1 e0 (by simpa using b0) (.cons rfl (.cons ry .nil)) h3) fun r s' hq => ?_)
  cases r with
  | error e => exact hx σ pins H2 s2 e s' I2 hq
  | ok fl =>
    cases fl with
    | ret w =>
      obtain ⟨z, H', I', rz, kk, ez, q⟩ := I2.after hq
      subst ez
      cases (show w = Value.bool kk from rz)
      exact ⟨kk, rfl, .bl (!kk), H', I', rfl, q⟩
    | next => exact False.elim hq
    | brk => exact False.elim hq
    | cont => exact False.elim hq
end
/-- what the own == says, turned about -/
def spNot (sp : SpD) : SpD := fun ds Q E => sp ds (fun d os => ∃ k, d = .bl k ∧ Q (.bl (!k)) os) E
section
variable {X : Cx} {G : Gh} {EW : EWt} {k : Nat} {c : Str} {sp : SpD} {a b : Expr} {wa wb : W1} {pos : Pos}
theorem spH_not {K : PySem.W.Frag} {x y : V} {H : Hp} {Q : VK} {E : XK} (h : spH K [false, false] (spNot sp) [x, y] H Q E) : spH K [false, false] sp [x, y] H (fun v H3 => ∃ k, v = .bl k ∧ Q (.bl (!k)) H3) E := by
  obtain ⟨ds, F, fps, Q0, E0, h1, h2, h3, h4, h5, h6, h7⟩ := h
  refine ⟨ds, F, fps, _, E0, h1, h2, h3, h4, h5, fun d os ⟨k, e, q⟩ x H' F' fpr fpo s rp re n dis fx => ?_, h7⟩
  subst e
  simp only [Rep] at rp
  obtain ⟨rfl, rfl⟩ := rp
  exact ⟨k, rfl, h6 _ _ q _ H' F' [] fpo s (by simp [Rep]) re n dis fx⟩
theorem de_neOwn (d : EqOk X.prog X.w X.K X.mg X.base k c sp) (hob : PySem.W.subIn X.K (.ref (He.ga X.K c)) (.type "object") = some true) (hne : PySem.W.findIn X.K (.ref (He.ga X.K c)) "__ne__" = some (some (.builtin "object.__ne__"))) (hr : Room (k + 1) X.A) (tk : Tk X G EW) (ha : DE X G a wa) (hb : DE X G b wb) (hm : behindInMarks .NotEq b = false) :
    DE X G (.Compare a [.NotEq] [b] pos) (wCall [false, false] (spOwnE c (spNot sp)) [] EW (wCons wa (wCons wb wNil))) := by
  obtain ⟨f, fd, ps, F, h1, h2, h3⟩ := d.ex
  refine ⟨pe_imp (pe_neOwn (E := WE (WXof X.K G EW)) F hr h3 (fun σ => L2N.passAt tk σ) hob hne h1 h2 ha.pe hb.pe hm) fun σ H Q h => ?_⟩
  have z := call_go (X := X) (G := G) (EW := EW) (dvs := []) (dvv := []) (fun _ _ => .nil) (fun xs => by rw [List.append_nil]) h
  simp only [List.append_nil] at z
  exact lE_imp (seq_two z) fun x H1 h1 => lE_imp h1 fun y H2 h2 => ⟨(spH_ownE d.ct d.nf h2).1, spH_not (spH_ownE d.ct d.nf h2).2⟩
end
end Vd

set_option Elab.async false
set_option linter.all false
set_option maxRecDepth 100000
set_option maxHeartbeats 4000000
/-! Vd, part 32: C.m(..), m a staticmethod. -/
namespace Vd
open PySem PySem.Spec PyProof.Rows L2
/-- C.m is a staticmethod: its record at p, its def at g -/
structure SMet (K : PySem.W.Frag) (C : Addr) (mc : Value) (m : Str) (p g : Addr) : Prop where
  rd : PySem.W.readsIn K C mc = true
  ga : PySem.W.specialIn K (.ref C) "__getattribute__" = some (some (.builtin "type.__getattribute__"))
  at_ : PySem.W.findCls K (.ref C) mc m = some (.get (.builtin "staticmethod.__get__") (.ref p) .none (.ref C))
  rc : ∃ rest, PySem.W.recIn K p "staticmethod" = some (.ref g :: rest)
  kp : PySem.W.keepIn K (.ref g) = true
section
variable {X : Cx} {CX : CXT} {k : Nat} {C p g : Addr} {fd : FuncData} {ps : List Str} {mc : Value} {sp : Sp} {E : L2.St → XK} {c m : Str} {e : Expr} {es : List Expr} {cp pos apos : Pos} {t : TA} {pl : Sem Bool}
theorem pe_smeth (hg : Gl X c) (hmc : X.mg c = some (.ref C)) (d : SMet X.K C mc m p g) (F : FnOk X.prog X.w X.K X.mg X.base CX k g fd ps sp) (hr : Room k X.A) (hb : Binds X.K fd ps []) (hx : ∀ σ, PassesAt CX X σ (E σ)) (ha : PA X (e :: es) t) (hdb : (c == ("__debug__" : Str)) = false := by decide)
    (hst : starEach (e :: es) X.env = (false, eval e X.env) :: starEach es X.env := by rfl) (hpl : (backTo pos (starEach es X.env)).any (·.1) = false := by rfl)
    (ht : eval (.Call (.Attribute (.Name c cp) m apos) (e :: es) [] pos) X.env = (do
      let ov ← eval (.Name c cp) X.env
      standAt apos.atName
      let (f, first) ← holding [ov] (getMethod ov m pl)
      callWith pos f first (backTo pos (starEach (e :: es) X.env)) (backToKw pos (keywordEach [] X.env))) := by rfl) :
    PE X (.Call (.Attribute (.Name c cp) m apos) (e :: es) [] pos) (tCallS sp E t) := by
  refine ⟨fun pins s σ H Q I h => ?_⟩
  refine PySem.W.methodCall_KW (pl := pl) (thn ((pe_glob (X := X) (v := .ref C) hg hmc rfl hdb).run pins s σ H (fun v H1 => v = .ref C ∧ H1 = H) I ⟨rfl, rfl⟩) fun u s1 hh => ?_) ht
  obtain ⟨v0, H1, I1, rx, rfl, rfl⟩ := hh
  obtain rfl : u = Value.ref C := rx
  obtain ⟨rest, hp⟩ := d.rc
  refine PySem.W.method_cls I1.kIn d.ga (PySem.W.cls_bind I1.kIn d.rd d.at_ ?_)
  refine wpAny_call (PySem.W.sm_get (s := { s1 with toks := s1.toks + 1 }) I1.kIn hp (PySem.W.handed_on rfl ?_))
  exact PySem.W.callWith_K (h₀ := X.base) I1.ok.mod.kin d.kp (thn (ha.run pos pins _ σ H1 _ (I1.tok _) h) fun us s2 ⟨vs, H2, I2, r, q2⟩ => ⟨I2.kIn, run_fnS F hr hb (hx σ) I2 r q2⟩) hst hpl
end
/-- a staticmethod that keeps a promise on data -/
structure SOk (P : Program) (w : World) (K : PySem.W.Frag) (mg : Str → Option Value) (base : Heap) (k : Nat) (c m : Str) (ms : List Bool) (sp : SpD) : Prop where
  ex : ∃ mc p g fd ps, FnOk P w K mg base (L2N.CX P w) k g fd ps (spH K ms sp) ∧ SMet K (He.ga K c) mc m p g ∧ Binds K fd ps [] ∧ mg c = some (.ref (He.ga K c))
section
variable {X : Cx} {G : Gh} {EW : EWt} {ws : WL} {ms : List Bool} {sp : SpD} {k : Nat} {c m : Str} {e : Expr} {es : List Expr} {cp pos apos : Pos} {pl : Sem Bool}
theorem de_smeth (d : SOk X.prog X.w X.K X.mg X.base k c m ms sp) (hg : Gl X c) (hr : Room k X.A) (tk : Tk X G EW) (ha : DA X G (e :: es) ws) (hdb : (c == ("__debug__" : Str)) = false := by decide)
    (hst : starEach (e :: es) X.env = (false, eval e X.env) :: starEach es X.env := by rfl) (hpl : (backTo pos (starEach es X.env)).any (·.1) = false := by rfl)
    (ht : eval (.Call (.Attribute (.Name c cp) m apos) (e :: es) [] pos) X.env = (do
      let ov ← eval (.Name c cp) X.env
      standAt apos.atName
      let (f, first) ← holding [ov] (getMethod ov m pl)
      callWith pos f first (backTo pos (starEach (e :: es) X.env)) (backToKw pos (keywordEach [] X.env))) := by rfl) :
    DE X G (.Call (.Attribute (.Name c cp) m apos) (e :: es) [] pos) (wCall ms sp [] EW ws) := by
  obtain ⟨mc, p, g, fd, ps, F, sm, hb, hm⟩ := d.ex
  refine ⟨pe_imp (pe_smeth (E := WE (WXof X.K G EW)) hg hm sm F hr hb (fun σ => L2N.passAt tk σ) ha.pa hdb hst hpl ht) fun σ H Q h => ?_⟩
  have z := call_go (X := X) (G := G) (EW := EW) (ws := ws) (ms := ms) (sp := sp) (dvs := []) (dvv := []) (fun _ _ => .nil) (fun xs => by rw [List.append_nil]) h
  simp only [List.append_nil] at z
  exact z
end
end Vd

set_option Elab.async false
set_option linter.all false
set_option maxRecDepth 100000
set_option maxHeartbeats 4000000
/-! Vd, part 33: own operators and staticmethods by their bodies; what is never run. -/
namespace Vd
open PySem PySem.Spec PyProof.Rows L2
/-- an operator's method, a staticmethod of the text -/
def OAt (K : PySem.W.Frag) (c m q : Str) (st : Stmt) : Prop := ∃ f fd, FunD K m q (defArgs st) (defBody st) (defScope st) [] [] f fd ∧ PySem.W.findIn K (.ref (He.ga K c)) m = some (some (.ref f)) ∧ PySem.W.isFn K (.ref f) = true ∧ PySem.W.selfFirst K (He.ga K c) = true
def SAt (K : PySem.W.Frag) (mg : Str → Option Value) (c m q : Str) (st : Stmt) : Prop := ∃ mc p g fd, FunD K m q (defArgs st) (defBody st) (defScope st) [] [] g fd ∧ SMet K (He.ga K c) mc m p g ∧ mg c = some (.ref (He.ga K c))
section
variable {P : Program} {w : World} {K : PySem.W.Frag} {mg : Str → Option Value} {base : Heap} {c m q : Str} {st : Stmt} {N ps : List Str} {k : Nat} {ms : List Bool} {sp : SpD} {wb : EWt → WS}
theorem opok_of (d : OAt K c m q st) (S : FnScope N ps (defScope st)) (hps : ps.length = 2) (len : ∀ ds Q E, sp ds Q E → ds.length = ps.length)
    (hbind : ∀ (kV doc pm : Value) (an : Option Addr) (cdv ct : Value) (us : List Value), us.length = ps.length → bindArgs (PySem.W.fnOf m q (defArgs st) (defBody st) (defScope st) .none kV doc pm an cdv ct) ⟨us, []⟩ = pure (ps.zip us))
    (hb : ∀ (f : Addr) (cdv : Value) (A : Around) (outer : List Env) (s : Shared) (H : Hp) (E : XK) (G : Gh) (EW : EWt), Room k (A.deeper (envOfC q (defScope st) s.heap.objs.size f cdv)) → (∀ p ∈ G.pins, p.1 ∈ ixs [false, false] 0) →
      Tk (cxOf (L2N.CX P w) P w K mg base N q (defScope st) f cdv A outer s H E) G EW → DSs (cxOf (L2N.CX P w) P w K mg base N q (defScope st) f cdv A outer s H E) G (defBody st) (wb EW))
    (hw : ∀ ds Q E, sp ds Q E → wb (fun c fs env => E c fs (outs [false, false] env)) (dEnd [false, false] Q) (startE N ds)) : OpOk P w K mg base (k + 1) c m sp := by
  obtain ⟨f, fd, F, h1, h2, h3⟩ := d
  exact ⟨f, fd, ps, fd_ok F S (by rw [hps]; rfl) len (hb f) hw, h1, h2, F.bindsN hbind, h3⟩
theorem OpOk.eq {k : Nat} (d : OpOk P w K mg base k c "__eq__" sp) (ct : ClsT K c) (nf : ∀ a ∈ ["NoneType", "bool", "int", "str", "tuple", "list"], PySem.W.notFirst K (He.ga K c) (.type a) = true) : EqOk P w K mg base k c sp := by
  obtain ⟨f, fd, ps, F, h1, h2, h3, _⟩ := d.ex
  exact ⟨⟨f, fd, ps, F, h1, h2, h3⟩, ct, nf⟩
theorem sok_of (d : SAt K mg c m q st) (S : FnScope N ps (defScope st)) (hm : ms.length = ps.length) (len : ∀ ds Q E, sp ds Q E → ds.length = ps.length)
    (hbind : ∀ (kV doc pm : Value) (an : Option Addr) (cdv ct : Value) (us : List Value), us.length = ps.length → bindArgs (PySem.W.fnOf m q (defArgs st) (defBody st) (defScope st) .none kV doc pm an cdv ct) ⟨us, []⟩ = pure (ps.zip us))
    (hb : ∀ (f : Addr) (cdv : Value) (A : Around) (outer : List Env) (s : Shared) (H : Hp) (E : XK) (G : Gh) (EW : EWt), Room k (A.deeper (envOfC q (defScope st) s.heap.objs.size f cdv)) → (∀ p ∈ G.pins, p.1 ∈ ixs ms 0) →
      Tk (cxOf (L2N.CX P w) P w K mg base N q (defScope st) f cdv A outer s H E) G EW → DSs (cxOf (L2N.CX P w) P w K mg base N q (defScope st) f cdv A outer s H E) G (defBody st) (wb EW))
    (hw : ∀ ds Q E, sp ds Q E → wb (fun c fs env => E c fs (outs ms env)) (dEnd ms Q) (startE N ds)) : SOk P w K mg base (k + 1) c m ms sp := by
  obtain ⟨mc, p, g, fd, F, sm, h⟩ := d
  exact ⟨mc, p, g, fd, ps, fd_ok F S hm len (hb g) hw, sm, F.bindsN hbind, h⟩
end
/-! what is never run -/
def wNevE : W1 := fun _ _ => False
theorem de_never {X : Cx} {G : Gh} {e : Expr} : DE X G e wNevE := ⟨⟨fun pins s σ H Q I ⟨_, _, _, _, _, _, h, _⟩ => h.elim⟩⟩
end Vd

set_option Elab.async false
set_option linter.all false
set_option maxRecDepth 100000
set_option maxHeartbeats 4000000
/-! Vd, part 34: small things for the printed texts. -/
namespace Vd
open PySem PySem.Spec PyProof.Rows L2 L2H
theorem _root_.L2H.RoomH.units {k : Nat} {A : Around} (r : RoomH k A) : A.units + 64 < cLine := by have := r.un; omega
end Vd

set_option Elab.async false
set_option linter.all false
set_option maxRecDepth 100000
set_option maxHeartbeats 4000000
/-! Vd, part 35: what the head's end is asked: facts of the written part, by the heap as the top left it. -/
namespace Vd
open PySem PySem.Spec PyProof.Rows L2 L2H He

/-! ### functions by where they stand -/
inductive At where
  | glo (x : Str)
  | met (c m : Str)
  | pro (c m : Str)
  | sta (c m : Str)
def recA (K : PySem.W.Frag) (p : Addr) (T : String) : Addr := match PySem.W.recIn K p T with
  | some (.ref g :: _) => g
  | _ => 0
def recB (K : PySem.W.Frag) (p : Addr) (T : String) : Bool := match PySem.W.recIn K p T with
  | some (.ref _ :: _) => true
  | _ => false
theorem recB_ok {K : PySem.W.Frag} {p : Addr} {T : String} (h : recB K p T = true) : ∃ rest, PySem.W.recIn K p T = some (.ref (recA K p T) :: rest) := by
  unfold recB at h
  unfold recA
  split at h
  · rename_i g r e
    exact ⟨r, by rw [e]⟩
  · cases h
def At.ad (K : PySem.W.Frag) : At → Addr
  | .glo x => ga K x
  | .met c m => ma K (ga K c) m
  | .pro c m => recA K (ma K (ga K c) m) "property"
  | .sta c m => recA K (ma K (ga K c) m) "staticmethod"
abbrev FnT : Type := Option (Str × Str × Arguments × FuncBody × Scope × Addr × List Str × Addr)
def fnT (K : PySem.W.Frag) (a : Addr) : FnT := match K.lookup a with
  | some ⟨_, _, .func fd, _⟩ => some (fd.name, fd.qualname, fd.params, fd.body, fd.scope, fd.globals, fd.closure.map (·.1), fd.builtins)
  | _ => none
structure FnE where
  at_ : At
  name : Str
  qual : Str
  st : Stmt
  cl : List Str := []
def FnE.val (d : FnE) : FnT := some (d.name, d.qual, defArgs d.st, .stmts (defBody d.st), defScope d.st, mainGlobals, d.cl, builtinsNs)
def isNoneV : Value → Bool
  | .none => true
  | _ => false
theorem isNoneV_ok {v : Value} (h : isNoneV v = true) : v = .none := by cases v <;> first | rfl | cases h
def fnB (K : PySem.W.Frag) (a : Addr) (q : Str) : Bool := PySem.W.keepIn K (.ref a) && (match K.lookup a with
  | some ⟨_, _, .func fd, _⟩ => PySem.W.codeIn K fd.code q && (isNoneV fd.defaults && isNoneV fd.kwdefaults)
  | _ => false)
def FnE.ok (K : PySem.W.Frag) (d : FnE) : Bool := fnB K (d.at_.ad K) d.qual
theorem FnE.funD {K : PySem.W.Frag} {d : FnE} (hcl : d.cl = []) (e : fnT K (d.at_.ad K) = d.val) (c : d.ok K = true) : ∃ fd, FunD K d.name d.qual (defArgs d.st) (defBody d.st) (defScope d.st) [] [] (d.at_.ad K) fd := by
  obtain ⟨kp, c2⟩ := ba c
  unfold fnT at e
  cases q : K.lookup (d.at_.ad K) with
  | none => rw [q] at c2; cases c2
  | some o =>
    obtain ⟨oc, od, dt, osl⟩ := o
    rw [q] at c2 e
    cases dt with
    | func fd =>
      obtain ⟨n1, n2, n3, n4, n5, n6, n7, n8, n9, n10, n11, n12, n13, n14, n15⟩ := fd
      have e2 : (some (n1, n2, n3, n4, n5, n6, n7.map (·.1), n15) : FnT) = some (d.name, d.qual, defArgs d.st, .stmts (defBody d.st), defScope d.st, mainGlobals, d.cl, builtinsNs) := e
      simp only [Option.some.injEq, Prod.mk.injEq] at e2
      obtain ⟨h1, h2, h3, h4, h5, h6, h7, h8⟩ := e2
      rw [hcl] at h7
      have h7' : n7 = [] := List.map_eq_nil_iff.mp h7
      obtain ⟨k1, k2⟩ := ba (show (PySem.W.codeIn K n13 d.qual && (isNoneV n8 && isNoneV n9)) = true from c2)
      obtain ⟨k3, k4⟩ := ba k2
      subst h1 h3 h4 h5 h6 h7' h8
      rw [isNoneV_ok k3, isNoneV_ok k4, h2] at q
      exact ⟨_, ⟨oc, od, .none, .none, n10, n11, n12, n13, n14, osl, rfl, q, k1, .inl ⟨rfl, rfl⟩, .inl rfl⟩, kp⟩
    | _ => cases c2

/-! ### facts -/
inductive Fc where
  | free (x : Str)
  | int (x : Str) (i : Int)
  | glo (x : Str)
  | cls (c : Str)
  | clsT (c : Str)
  | noat (c f : Str)
  | eqc (c : Str)
  | met (c m : Str)
  | ini (c : Str)
  | pro (c m : Str)
  | ops (c m : Str)
  | sta (c m : Str)
  | exc (c : Str)
  | xin (c q file : Str)
  | xno (c f : Str)
  | kit (c y : Str) (b : Bool)
  | kitT (c : Str) (T : String) (b : Bool)
  | kitL (c : Str) (ys : List Str) (b : Bool)
  | exm (c y : Str) (b : Bool)
  | stat
abbrev tys6 : List String := ["NoneType", "bool", "int", "str", "tuple", "list"]
def clsTB (K : PySem.W.Frag) (c : Str) : Bool := (Fa.cls c).ok K && (eqO (PySem.W.findIn K (.ref (ga K c)) "__class__") (some (some (.builtin "object.__class__"))) && (eqO (PySem.W.specialIn K (.builtin "object.__class__") "__get__") (some (some (.builtin "getset_descriptor.__get__"))) &&
  (decide (PySem.W.takesIn K (.builtin "object.__class__") = some true) && (decide (PySem.W.kitOne K (.ref (ga K c)) (.ref (ga K c)) = some true) && (tys6.all (fun a => decide (PySem.W.kitOne K (.type a) (.ref (ga K c)) = some false)) && decide (PySem.W.mroIn K (ga K c) (Value.type "object") = some true))))))
def eqcB (K : PySem.W.Frag) (c : Str) : Bool := tys6.all (fun a => PySem.W.notFirst K (ga K c) (.type a)) && (decide (PySem.W.subIn K (.ref (ga K c)) (.type "object") = some true) && eqO (PySem.W.findIn K (.ref (ga K c)) "__ne__") (some (some (.builtin "object.__ne__"))))
def refAt (K : PySem.W.Frag) (c m : Str) : Bool := eqO (PySem.W.findIn K (.ref (ga K c)) m) (some (some (.ref (ma K (ga K c) m))))
def metB (K : PySem.W.Frag) (c m : Str) : Bool := refAt K c m && (PySem.W.isFn K (.ref (ma K (ga K c) m)) && PySem.W.keepIn K (.ref (ma K (ga K c) m)))
def iniB (K : PySem.W.Frag) (c : Str) : Bool := (Fa.mkr c).ok K
def proB (K : PySem.W.Frag) (c m : Str) : Bool := refAt K c m && (eqO (PySem.W.specialIn K (.ref (ma K (ga K c) m)) "__get__") (some (some (.builtin "property.__get__"))) && (decide (PySem.W.takesIn K (.ref (ma K (ga K c) m)) = some true) && recB K (ma K (ga K c) m) "property"))
def opsB (K : PySem.W.Frag) (c m : Str) : Bool := refAt K c m && (PySem.W.isFn K (.ref (ma K (ga K c) m)) && PySem.W.selfFirst K (ga K c))
def staB (K : PySem.W.Frag) (c m : Str) : Bool := PySem.W.readsIn K (ga K c) (.type "type") && (eqO (PySem.W.specialIn K (.ref (ga K c)) "__getattribute__") (some (some (.builtin "type.__getattribute__"))) && ((match PySem.W.findCls K (.ref (ga K c)) (.type "type") m with
  | some (.get (.builtin n) (.ref p) .none (.ref C)) => decide (n = "staticmethod.__get__") && (decide (p = ma K (ga K c) m) && decide (C = ga K c))
  | _ => false) && (recB K (ma K (ga K c) m) "staticmethod" && PySem.W.keepIn K (.ref (recA K (ma K (ga K c) m) "staticmethod")))))
def oexB (K : PySem.W.Frag) (C : Addr) : Bool := (match K.lookup C with
  | some ⟨.type "type", _, .cls cd, sl⟩ => (match cd.mro, sl.toList with
    | .ref C' :: bm, [_, _, _, _, some (.builtin n), _] => decide (C' = C) && (decide (n = "ValueError.__new__") && (!cd.hasDel && (cd.hasDict && PySem.HandSPX.refsVE bm)))
    | _, _ => false)
  | _ => false) && (eqO (PySem.W.findIn K (.ref C) "__setattr__") (some (some (.builtin "object.__setattr__"))) && (decide (PySem.W.subIn K (.ref C) (.type "BaseException") = some true) && (decide (PySem.W.typeIn K (.ref C) = some (.type "type")) && PySem.W.keepIn K (.ref C))))
def excCB (K : PySem.W.Frag) (D : Addr) : Bool := eqO (PySem.W.findIn K (.ref D) "__getattribute__") (some (some (.builtin "BaseException.__getattribute__"))) && (eqO (PySem.W.findIn K (.ref D) "__getattr__") (some none) && (decide (PySem.W.subIn K (.ref D) (.type "BaseException") = some true) && (PySem.W.hasDictIn K D &&
  (eqO (PySem.W.findIn K (.ref D) "__class__") (some (some (.builtin "object.__class__"))) && (eqO (PySem.W.specialIn K (.builtin "object.__class__") "__get__") (some (some (.builtin "getset_descriptor.__get__"))) && (decide (PySem.W.takesIn K (.builtin "object.__class__") = some true) && decide (PySem.W.mroIn K D (.type "object") = some true)))))))
def excB (K : PySem.W.Frag) (c : Str) : Bool := oexB K (ga K c) && (excCB K (ga K c) && (eqO (PySem.W.ks_superIn K (ga K c) (ga K c) "__init__") (some (some (.builtin "ValueError.__init__"))) && (decide (PySem.W.subIn K (.ref (ga K c)) (.type "ValueError") = some true) && decide (PySem.W.mroIn K (ga K c) (.ref (ga K c)) = some true))))
def xinB (K : PySem.W.Frag) (c q file : Str) : Bool := (match K.lookup (ma K (ga K c) "__init__") with
  | some ⟨_, _, .func fd, _⟩ => isNoneV fd.defaults && (isNoneV fd.kwdefaults && (fd.annotations.isNone && ((match fd.closure with
    | [(_, cc)] => (match K.lookup cc with
      | some ⟨_, _, .cell (some (.ref C)), _⟩ => decide (C = ga K c)
      | _ => false)
    | _ => false) && (match fd.code with
    | .ref cd => PySem.W.codeIn K (.ref cd) q && (match K.lookup cd with
      | some ⟨_, _, .fields vs, _⟩ => (match (vs[2]? : Option Value) with
        | some (.str f _) => decide (f = file)
        | _ => false)
      | _ => false)
    | _ => false))))
  | _ => false) && (refAt K c "__init__" && decide (PySem.W.typeIn K (.ref (ma K (ga K c) "__init__")) = some (.type "function")))
def Fc.ok (K : PySem.W.Frag) : Fc → Bool
  | .free x => (Fa.free x).ok K
  | .int x i => (Fa.int x i).ok K
  | .glo x => (Fa.glo x).ok K
  | .cls c => (Fa.cls c).ok K
  | .clsT c => clsTB K c
  | .noat c f => (Fa.noat c f).ok K
  | .eqc c => eqcB K c
  | .met c m => metB K c m
  | .ini c => iniB K c
  | .pro c m => proB K c m
  | .ops c m => opsB K c m
  | .sta c m => staB K c m
  | .exc c => excB K c
  | .xin c q file => xinB K c q file
  | .xno c f => eqO (PySem.W.findIn K (.ref (ga K c)) f) (some none)
  | .kit c y b => decide (PySem.W.kitOne K (.ref (ga K c)) (.ref (ga K y)) = some b)
  | .kitT c T b => decide (PySem.W.kitOne K (.ref (ga K c)) (.type T) = some b)
  | .kitL c ys b => decide (PySem.W.kitAny K (.ref (ga K c)) ((ys.map (ga K)).map Value.ref) = some b)
  | .exm c y b => (Fa.exm c y b).ok K
  | .stat => eqO (PySem.W.nsIn K PySem.cStatics "thirdparty.any") (some none)
section
variable {K : PySem.W.Frag} {c m f q file y : Str} {b : Bool}
theorem fc_clsT (h : (Fc.clsT c).ok K = true) : ClsT K c := by
  obtain ⟨h1, h⟩ := ba h
  obtain ⟨h2, h⟩ := ba h
  obtain ⟨h3, h⟩ := ba h
  obtain ⟨h4, h⟩ := ba h
  obtain ⟨h5, h⟩ := ba h
  obtain ⟨h6, h7⟩ := ba h
  exact ⟨cls_ok h1, eqO_ok h2, eqO_ok h3, of_decide_eq_true h4, of_decide_eq_true h5, fun a ha => of_decide_eq_true (List.all_eq_true.mp h6 a ha), of_decide_eq_true h7⟩
theorem fc_eqc (h : (Fc.eqc c).ok K = true) : (∀ a ∈ tys6, PySem.W.notFirst K (ga K c) (.type a) = true) ∧ PySem.W.subIn K (.ref (ga K c)) (.type "object") = some true ∧ PySem.W.findIn K (.ref (ga K c)) "__ne__" = some (some (.builtin "object.__ne__")) := by
  have h' : eqcB K c = true := h
  unfold eqcB at h'
  rw [Bool.and_eq_true, Bool.and_eq_true] at h'
  exact ⟨fun a ha => List.all_eq_true.mp h'.1 a ha, of_decide_eq_true h'.2.1, eqO_ok h'.2.2⟩
theorem fc_nf (h : (Fc.eqc c).ok K = true) : ∀ a ∈ tys6, PySem.W.notFirst K (ga K c) (.type a) = true := (fc_eqc h).1
theorem fc_ob (h : (Fc.eqc c).ok K = true) : PySem.W.subIn K (.ref (ga K c)) (.type "object") = some true := (fc_eqc h).2.1
theorem fc_ne (h : (Fc.eqc c).ok K = true) : PySem.W.findIn K (.ref (ga K c)) "__ne__" = some (some (.builtin "object.__ne__")) := (fc_eqc h).2.2
theorem fc_met (h : (Fc.met c m).ok K = true) : Meth K (ga K c) m (ma K (ga K c) m) := ⟨eqO_ok (ba h).1, (ba (ba h).2).1, (ba (ba h).2).2⟩
theorem fc_ini (h : (Fc.ini c).ok K = true) : L2.Mk K (ga K c) (ma K (ga K c) "__init__") := mkr_ok h
theorem fc_pro (h : (Fc.pro c m).ok K = true) : PropOf K (ga K c) m (ma K (ga K c) m) (recA K (ma K (ga K c) m) "property") := by
  obtain ⟨h1, h⟩ := ba h
  obtain ⟨h2, h⟩ := ba h
  obtain ⟨h3, h4⟩ := ba h
  exact ⟨eqO_ok h1, eqO_ok h2, of_decide_eq_true h3, recB_ok h4⟩
theorem fc_ops (h : (Fc.ops c m).ok K = true) : PySem.W.findIn K (.ref (ga K c)) m = some (some (.ref (ma K (ga K c) m))) ∧ PySem.W.isFn K (.ref (ma K (ga K c) m)) = true ∧ PySem.W.selfFirst K (ga K c) = true := ⟨eqO_ok (ba h).1, (ba (ba h).2).1, (ba (ba h).2).2⟩
theorem fc_sta (h : (Fc.sta c m).ok K = true) : SMet K (ga K c) (.type "type") m (ma K (ga K c) m) (recA K (ma K (ga K c) m) "staticmethod") := by
  obtain ⟨h1, h⟩ := ba h
  obtain ⟨h2, h⟩ := ba h
  obtain ⟨h3, h⟩ := ba h
  obtain ⟨h4, h5⟩ := ba h
  refine ⟨h1, eqO_ok h2, ?_, recB_ok h4, h5⟩
  split at h3
  · rename_i n p C e
    obtain ⟨k1, k⟩ := ba h3
    obtain ⟨k2, k3⟩ := ba k
    rw [e, of_decide_eq_true k1, of_decide_eq_true k2, of_decide_eq_true k3]
  · cases h3
theorem fc_oex {C : Addr} (h : oexB K C = true) : OexC K C := by
  obtain ⟨h1, h⟩ := ba h
  obtain ⟨h2, h⟩ := ba h
  obtain ⟨h3, h⟩ := ba h
  obtain ⟨h4, h5⟩ := ba h
  refine ⟨?_, eqO_ok h2, of_decide_eq_true h3, of_decide_eq_true h4, h5⟩
  split at h1
  · rename_i dd cd sl ho
    split at h1
    · rename_i C' bm k0 k1 k2 k3 n k5 hm hs
      obtain ⟨q1, q⟩ := ba h1
      obtain ⟨q2, q⟩ := ba q
      obtain ⟨q3, q⟩ := ba q
      obtain ⟨q4, q5⟩ := ba q
      have e1 := of_decide_eq_true q1
      have e2 := of_decide_eq_true q2
      subst e1 e2
      obtain ⟨nm, bs, mro, ns, qn, hd, sn, sub, ab, col, del⟩ := cd
      dsimp only at hm q3 q4
      have hdel : del = false := by simpa using q3
      subst hm hdel q4
      have hsl : sl = #[k0, k1, k2, k3, some (.builtin "ValueError.__new__"), k5] := by
        obtain ⟨l⟩ := sl
        simp only at hs
        rw [hs]
      subst hsl
      exact ⟨nm, qn, ns, bs, bm, sn, sub, ab, col, dd, k0, k1, k2, k3, k5, ho, q5⟩
    · cases h1
  · cases h1
theorem fc_excC {D : Addr} (h : excCB K D = true) : ExcC K D := by
  obtain ⟨h1, h⟩ := ba h
  obtain ⟨h2, h⟩ := ba h
  obtain ⟨h3, h⟩ := ba h
  obtain ⟨h4, h⟩ := ba h
  obtain ⟨h5, h⟩ := ba h
  obtain ⟨h6, h⟩ := ba h
  obtain ⟨h7, h8⟩ := ba h
  exact ⟨eqO_ok h1, eqO_ok h2, of_decide_eq_true h3, h4, eqO_ok h5, eqO_ok h6, of_decide_eq_true h7, of_decide_eq_true h8⟩
theorem fc_ex (h : (Fc.exc c).ok K = true) : ExcC K (ga K c) := fc_excC (ba (ba h).2).1
theorem fc_xf (h : (Fc.exc c).ok K = true) : XfC K (ga K c) := by
  have e := fc_ex h
  exact ⟨e.hg, e.hk, e.hs, e.hd⟩
theorem fc_xat {P : Program} {mg : Str → Option Value} {st : Stmt} {fl : List (Str × Nat)} (h : (Fc.exc c).ok K = true) (hx : (Fc.xin c q file).ok K = true) (e : fnT K ((At.met c "__init__").ad K) = (FnE.mk (.met c "__init__") "__init__" q st ["__class__"]).val)
    (hf : P.main.file = file) (mgc : mg c = some (.ref (ga K c))) (mgs : mg "super" = none) (top : (P.main.scope.names.lookup ("super" : Str)).isSome = false) (opq : Fc.stat.ok K = true) (nof : ∀ p ∈ fl, (Fc.xno c p.1).ok K = true) : XAt P K mg c q st fl := by
  obtain ⟨h1, h2⟩ := ba h
  obtain ⟨_, h2⟩ := ba h2
  obtain ⟨h3, h2⟩ := ba h2
  obtain ⟨h4, h5⟩ := ba h2
  obtain ⟨x1, x2⟩ := ba hx
  obtain ⟨x2, x3⟩ := ba x2
  refine ⟨?_, fc_oex h1, mgc, mgs, top, eqO_ok opq, eqO_ok h3, of_decide_eq_true h4, of_decide_eq_true h5, fun p hp => eqO_ok (nof p hp)⟩
  unfold fnT At.ad at e
  split at x1
  · rename_i oc od fd osl lk
    rw [lk] at e
    obtain ⟨n1, n2, n3, n4, n5, n6, n7, n8, n9, n10, n11, n12, n13, n14, n15⟩ := fd
    have e2 : (some (n1, n2, n3, n4, n5, n6, n7.map (·.1), n15) : FnT) = some (("__init__" : Str), q, defArgs st, .stmts (defBody st), defScope st, mainGlobals, [("__class__" : Str)], builtinsNs) := e
    simp only [Option.some.injEq, Prod.mk.injEq] at e2
    obtain ⟨g1, g2, g3, g4, g5, g6, g7, g8⟩ := e2
    obtain ⟨y1, ya⟩ := ba x1
    clear x1
    obtain ⟨y2, yb⟩ := ba ya
    clear ya
    obtain ⟨y3, yc⟩ := ba yb
    clear yb
    obtain ⟨y4, y5⟩ := ba yc
    clear yc
    dsimp only at y1 y2 y3 y4 y5
    have z3 : n12 = none := Option.isNone_iff_eq_none.mp y3
    split at y4
    · rename_i xx cc
      split at y4
      · rename_i ocl ocd C ocs lc
        split at y5
        · rename_i cd
          obtain ⟨y6, y7⟩ := ba y5
          clear y5
          split at y7
          · rename_i occ odc vs oss ld
            split at y7
            · rename_i f tf ev
              have gx : xx = "__class__" := by simpa using g7
              have eC := of_decide_eq_true y4
              have ef := of_decide_eq_true y7
              subst g1 g2 g3 g4 g5 g6 g8 z3 gx eC ef
              rw [isNoneV_ok y1, isNoneV_ok y2] at lk
              exact ⟨_, cc, cd, oc, n10, n11, n14, ocl, occ, od, ocd, odc, osl, ocs, oss, vs, _, tf, lk, y6, lc, ld, ev, by rw [hf]; exact beq_self_eq_true _, eqO_ok x2, of_decide_eq_true x3⟩
            · cases y7
          · cases y7
        · cases y5
      · cases y4
    · cases y4
  · cases x1
end

/-! ### the part of the heap that is looked at: the named defs and classes, their methods, code objects, cells -/
def refsV (o : Obj) : List Addr := match o.data with
  | .dict es _ => es.toList.flatMap fun e => refV e.val
  | .func fd => refV fd.code ++ fd.closure.map (·.2)
  | .cls cd => [cd.ns]
  | .fields vs => (match o.cls with
    | .type t => if t = "property" ∨ t = "staticmethod" then vs.toList.flatMap refV else []
    | _ => [])
  | _ => []
def refsG (g : Addr → Option Obj) (as : List Addr) : List Addr := as.flatMap fun a => match g a with
  | some o => refsV o
  | none => []
def lvG (g : Addr → Option Obj) : Nat → List Addr → List Addr
  | 0, as => as
  | n + 1, as => as ++ lvG g n (refsG g as)
def asV (g : Addr → Option Obj) (deep flat : List Str) : List Addr :=
  mainGlobals :: (lvG g 4 (deep.map (ga (frG g [mainGlobals]))) ++ (flat.map (ga (frG g [mainGlobals])) ++ [PySem.cStatics]))

/-! ### the Hook -/
abbrev AlV : Type := Bool × List FnT
def obsV (fa : List Fc) (fn : List FnE) (K : PySem.W.Frag) : AlV := ((fa.all fun f => f.ok K) && fn.all fun d => d.ok K, fn.map fun d => fnT K (d.at_.ad K))
def valV (fn : List FnE) : AlV := (true, fn.map FnE.val)
def SaysV (fa : List Fc) (fn : List FnE) (K : PySem.W.Frag) : Prop := obsV fa fn K = valV fn
def obsVG (dp fl : List Str) (fa : List Fc) (fn : List FnE) (g : Addr → Option Obj) : AlV := obsV fa fn (frG g (asV g dp fl))
def hookV (dp fl : List Str) (fa : List Fc) (fn : List FnE) : PySem.W.Hook where
  α := AlV
  obs := fun s => obsVG dp fl fa fn s.heap.get?
  val := fun _ => valV fn
  says := fun _ h => ∃ K : PySem.W.Frag, K.In h ∧ SaysV fa fn K
  of := fun _ _ e => ⟨_, frG_in, e⟩
  keeps := fun _ _ _ ⟨K, hK, c⟩ k => ⟨K, PySem.W.Frag.In.keeps hK k, c⟩
theorem obsVG_eq {dp fl : List Str} {fa : List Fc} {fn : List FnE} {g : Addr → Option Obj} {s : Shared} (h : ∀ a, g a = s.heap.get? a) : obsVG dp fl fa fn g = (hookV dp fl fa fn).obs s := by
  have e : g = s.heap.get? := funext h
  rw [e] <;> rfl
section
variable {fa : List Fc} {fn : List FnE} {K : PySem.W.Frag}
theorem SaysV.fact (c : SaysV fa fn K) (i : Nat) {f : Fc} (h : fa[i]? = some f := by rfl) : f.ok K = true :=
  List.all_eq_true.mp (ba (show ((fa.all fun f => f.ok K) && fn.all fun d => d.ok K) = true from congrArg (fun z : AlV => z.1) c)).1 f (List.mem_of_getElem? h)
theorem SaysV.fnE (c : SaysV fa fn K) (i : Nat) {d : FnE} (h : fn[i]? = some d := by rfl) : fnT K (d.at_.ad K) = d.val := by
  have e : fn.map (fun d => fnT K (d.at_.ad K)) = fn.map FnE.val := congrArg (fun z : AlV => z.2) c
  have e2 : (fn.map fun d => fnT K (d.at_.ad K))[i]? = (fn.map FnE.val)[i]? := by rw [e]
  rw [List.getElem?_map, List.getElem?_map, h] at e2
  exact Option.some.inj e2
theorem SaysV.def_ (c : SaysV fa fn K) (i : Nat) {d : FnE} (h : fn[i]? = some d := by rfl) (hcl : d.cl = [] := by rfl) : ∃ fd, FunD K d.name d.qual (defArgs d.st) (defBody d.st) (defScope d.st) [] [] (d.at_.ad K) fd :=
  FnE.funD hcl (c.fnE i h) (List.all_eq_true.mp (ba (show ((fa.all fun f => f.ok K) && fn.all fun d => d.ok K) = true from congrArg (fun z : AlV => z.1) c)).2 d (List.mem_of_getElem? h))
end
/-! ### the run's equation in three parts -/
section
open HandSHeadRun PySem.W PySem.Calls
theorem run_split {r : OpenRow} {q : Program} {H : PySem.W.Hook} {ob : SharedT → H.α} {M : Nat} {loose : List Str} {w : World}
    (h1 : ∀ os, (endF (stepQ (denQ tabQ) r.prog w) M r.prog w os).map (fun s => looksF r.prog (boot_heap w.params) s.abs) = some true)
    (h2 : ∀ os, (endF (stepQ (denQ tabQ) r.prog w) M r.prog w os).map (fun s => seenQ q loose (importedModules r.prog.main.body) (fun s => xlAt q [] s && recOk r.toRowW.records s) s.abs) = some (openGood q loose))
    (h3 : ∀ os, (endF (stepQ (denQ tabQ) r.prog w) M r.prog w os).map ob = some (H.val w)) : RunEq r q H ob M loose w := by
  intro os
  have a1 := h1 os
  have a2 := h2 os
  have a3 := h3 os
  cases e : endF (stepQ (denQ tabQ) r.prog w) M r.prog w os with
  | none => rw [e] at a1; cases a1
  | some s =>
    rw [e] at a1 a2 a3
    have b1 := Option.some.inj a1
    have b2 := Option.some.inj a2
    have b3 := Option.some.inj a3
    exact congrArg some (Prod.ext b1 (Prod.ext b2 b3))
end
end Vd

set_option maxHeartbeats 0
set_option Elab.async false
set_option linter.all false
set_option maxRecDepth 100000
set_option maxHeartbeats 4000000
namespace T
open PySem PySem.Spec PyProof.Rows L2 L2H NdefX Vd
def kl0 : List Str := ["NotAPoint", "UnlikeSizes", "RepeatedPoint", "BadText", "NotMade", "NotTight", "NotFull", "NotAFailing", "NotNeighbours", "NotShorter", "SameLength", "NoSuchLength", "NotAnOrder", "NotAChain", "NotABase", "NotInside", "OrderMatters", "FullLot", "NotAWord", "NotAColumn", "GameOver", "NotAllowed", "NothingToUndo", "NothingToRedo", "NothingKept", "BadEdit", "UnknownName", "NotAPaper"]
abbrev NE : EWt := fun _ _ _ => False
def raised : List Str := ["BadNumber", "NotACount", "NotAMove", "TooMany"]
def kt (c y : Str) : Option Bool := if c ∈ raised then some (decide (c = y) || decide (y ∈ (["HeldorderError", "ValueError"] : List Str))) else none
def ktL (c : Str) (ys : List Str) : Option Bool := if c ∈ raised then some (ys.any fun y => decide (c = y)) else none
def exmB (cb : Str) (c : Str) : Option Bool := if c ∈ raised then some (decide (c = cb) || decide (cb = "HeldorderError")) else none
theorem exm_mem {cb c : Str} (h : exmB cb c = some true) : c ∈ raised := by
  unfold exmB at h
  split at h
  · assumption
  · cases h
def top (i : Nat) : Stmt := PySem.Challenge.pw_heldorder_k75_tally.main.body.getD i (.Pass ⟨0, 0, 0, 0⟩)
def inTop (i j : Nat) : Stmt := match top i with
  | .ClassDef _ _ _ body _ _ _ _ _ _ _ => body.getD j (.Pass ⟨0, 0, 0, 0⟩)
  | _ => .Pass ⟨0, 0, 0, 0⟩

def fa0 : List Fc := [.free "int", .free "len", .free "range", .free "abs", .free "list", .free "min", .free "tuple", .free "isinstance", .free "str", .free "bool", .free "enumerate", .int "MOST_TALLIED" 24, .free "sum", .free "all", .free "max", .free "sorted", .int "MOST_POINTS" 12, .int "MOST_LIST" 400, .free "ValueError", .kitT "Tally" "list" false, .glo "Tally", .glo "BadNumber", .glo "HeldorderError", .glo "NotACount", .glo "NotAMove", .glo "TooMany", .glo "NotAPoint", .glo "UnlikeSizes", .glo "RepeatedPoint", .glo "BadText"]
def fa1 : List Fc := [.glo "NotMade", .glo "NotTight", .glo "NotFull", .glo "NotAFailing", .glo "NotNeighbours", .glo "NotShorter", .glo "SameLength", .glo "NoSuchLength", .glo "NotAnOrder", .glo "NotAChain", .glo "NotABase", .glo "NotInside", .glo "OrderMatters", .glo "FullLot", .glo "NotAWord", .glo "NotAColumn", .glo "GameOver", .glo "NotAllowed", .glo "NothingToUndo", .glo "NothingToRedo", .glo "NothingKept", .glo "BadEdit", .glo "UnknownName", .glo "NotAPaper", .cls "Tally", .clsT "Tally", .noat "Tally" "entries", .eqc "Tally", .glo "_law_store", .glo "_law_mixed"]
def fa2 : List Fc := [.glo "_law_take", .glo "_law_place", .glo "_law_pick", .glo "_law_whole", .glo "_law_counts", .glo "_law_beside", .glo "_law_either", .glo "shown", .xno "BadNumber" "value", .xno "BadNumber" "low", .xno "BadNumber" "high", .exc "BadNumber", .xin "BadNumber" "BadNumber.__init__" "/claim/cut.py", .free "super", .stat, .glo "is_count", .xno "NotACount" "index", .exc "NotACount", .xin "NotACount" "NotACount.__init__" "/claim/cut.py", .ini "Tally", .glo "_law_made_of", .pro "Tally" "counts", .glo "_law_is_whole", .glo "_law_same", .pro "Tally" "total", .pro "Tally" "points", .glo "check_number", .glo "entry_at", .met "Tally" "at", .glo "_law_tells"]
def fa3 : List Fc := [.glo "_law_packed", .glo "_law_unpacked", .ops "Tally" "__add__", .xno "TooMany" "what", .xno "TooMany" "limit", .exc "TooMany", .xin "TooMany" "TooMany.__init__" "/claim/cut.py", .glo "product_counts", .ops "Tally" "__mul__", .glo "is_whole", .glo "is_move", .xno "NotAMove" "index", .exc "NotAMove", .xin "NotAMove" "NotAMove.__init__" "/claim/cut.py", .glo "held_number", .glo "held_counts", .sta "Tally" "of_moves", .glo "_law_due_error", .glo "_law_refuses", .ops "Tally" "__eq__", .glo "_law_pair_right", .glo "_law_equal_right", .glo "_law_three_right", .glo "_law_bad_counts", .glo "_law_drawn", .glo "_law_move", .glo "_law_wrong_moves", .glo "_law_moves_right", .glo "_law_limit_right", .glo "law"]
def fa4 : List Fc := [.xno "BadNumber" "index", .xno "BadNumber" "limit", .xno "BadNumber" "what", .xno "NotACount" "high", .xno "NotACount" "limit", .xno "NotACount" "low", .xno "NotACount" "value", .xno "NotACount" "what", .xno "NotAMove" "high", .xno "NotAMove" "limit", .xno "NotAMove" "low", .xno "NotAMove" "value", .xno "NotAMove" "what", .xno "TooMany" "high", .xno "TooMany" "index", .xno "TooMany" "low", .xno "TooMany" "value", .kit "BadNumber" "BadNumber" true, .kit "BadNumber" "HeldorderError" true, .kit "BadNumber" "NotACount" false, .kit "BadNumber" "NotAMove" false, .kit "BadNumber" "TooMany" false, .kit "NotACount" "BadNumber" false, .kit "NotACount" "HeldorderError" true, .kit "NotACount" "NotACount" true, .kit "NotACount" "NotAMove" false, .kit "NotACount" "TooMany" false, .kit "NotAMove" "BadNumber" false, .kit "NotAMove" "HeldorderError" true, .kit "NotAMove" "NotACount" false]
def fa5 : List Fc := [.kit "NotAMove" "NotAMove" true, .kit "NotAMove" "TooMany" false, .kit "TooMany" "BadNumber" false, .kit "TooMany" "HeldorderError" true, .kit "TooMany" "NotACount" false, .kit "TooMany" "NotAMove" false, .kit "TooMany" "TooMany" true, .kitT "BadNumber" "ValueError" true, .kitT "NotACount" "ValueError" true, .kitT "NotAMove" "ValueError" true, .kitT "TooMany" "ValueError" true, .kitL "BadNumber" kl0 false, .kitL "NotACount" kl0 false, .kitL "NotAMove" kl0 false, .kitL "TooMany" kl0 false, .exm "BadNumber" "HeldorderError" true, .exm "NotACount" "HeldorderError" true, .exm "NotAMove" "HeldorderError" true, .exm "TooMany" "HeldorderError" true]
def fa : List Fc := fa0 ++ (fa1 ++ (fa2 ++ (fa3 ++ (fa4 ++ (fa5)))))
def fn0 : List FnE := [⟨.glo "_law_store", "_law_store", "_law_store", (top 50), []⟩, ⟨.glo "_law_mixed", "_law_mixed", "_law_mixed", (top 51), []⟩, ⟨.glo "_law_take", "_law_take", "_law_take", (top 52), []⟩, ⟨.glo "_law_place", "_law_place", "_law_place", (top 54), []⟩, ⟨.glo "_law_pick", "_law_pick", "_law_pick", (top 53), []⟩, ⟨.glo "_law_whole", "_law_whole", "_law_whole", (top 57), []⟩, ⟨.glo "_law_counts", "_law_counts", "_law_counts", (top 61), []⟩, ⟨.glo "_law_beside", "_law_beside", "_law_beside", (top 70), []⟩, ⟨.glo "_law_either", "_law_either", "_law_either", (top 56), []⟩, ⟨.glo "shown", "shown", "shown", (top 3), []⟩, ⟨.met "BadNumber" "__init__", "__init__", "BadNumber.__init__", (inTop 5 0), ["__class__"]⟩, ⟨.glo "is_count", "is_count", "is_count", (top 43), []⟩, ⟨.met "NotACount" "__init__", "__init__", "NotACount.__init__", (inTop 28 0), ["__class__"]⟩, ⟨.met "Tally" "__init__", "__init__", "Tally.__init__", (inTop 48 0), []⟩, ⟨.glo "_law_made_of", "_law_made_of", "_law_made_of", (top 69), []⟩, ⟨.pro "Tally" "counts", "counts", "Tally.counts", (inTop 48 1), []⟩, ⟨.glo "_law_is_whole", "_law_is_whole", "_law_is_whole", (top 58), []⟩, ⟨.glo "_law_same", "_law_same", "_law_same", (top 59), []⟩, ⟨.pro "Tally" "total", "total", "Tally.total", (inTop 48 3), []⟩, ⟨.pro "Tally" "points", "points", "Tally.points", (inTop 48 2), []⟩]
def fn1 : List FnE := [⟨.glo "check_number", "check_number", "check_number", (top 42), []⟩, ⟨.glo "entry_at", "entry_at", "entry_at", (top 46), []⟩, ⟨.met "Tally" "at", "at", "Tally.at", (inTop 48 4), []⟩, ⟨.glo "_law_tells", "_law_tells", "_law_tells", (top 66), []⟩, ⟨.glo "_law_packed", "_law_packed", "_law_packed", (top 64), []⟩, ⟨.glo "_law_unpacked", "_law_unpacked", "_law_unpacked", (top 65), []⟩, ⟨.met "Tally" "__add__", "__add__", "Tally.__add__", (inTop 48 6), []⟩, ⟨.met "TooMany" "__init__", "__init__", "TooMany.__init__", (inTop 8 0), ["__class__"]⟩, ⟨.glo "product_counts", "product_counts", "product_counts", (top 47), []⟩, ⟨.met "Tally" "__mul__", "__mul__", "Tally.__mul__", (inTop 48 5), []⟩, ⟨.glo "is_whole", "is_whole", "is_whole", (top 38), []⟩, ⟨.glo "is_move", "is_move", "is_move", (top 39), []⟩, ⟨.met "NotAMove" "__init__", "__init__", "NotAMove.__init__", (inTop 7 0), ["__class__"]⟩, ⟨.glo "held_number", "held_number", "held_number", (top 45), []⟩, ⟨.glo "held_counts", "held_counts", "held_counts", (top 44), []⟩, ⟨.sta "Tally" "of_moves", "of_moves", "Tally.of_moves", (inTop 48 8), []⟩, ⟨.glo "_law_due_error", "_law_due_error", "_law_due_error", (top 63), []⟩, ⟨.glo "_law_refuses", "_law_refuses", "_law_refuses", (top 67), []⟩, ⟨.met "Tally" "__eq__", "__eq__", "Tally.__eq__", (inTop 48 7), []⟩, ⟨.glo "_law_pair_right", "_law_pair_right", "_law_pair_right", (top 71), []⟩]
def fn2 : List FnE := [⟨.glo "_law_equal_right", "_law_equal_right", "_law_equal_right", (top 73), []⟩, ⟨.glo "_law_three_right", "_law_three_right", "_law_three_right", (top 72), []⟩, ⟨.glo "_law_bad_counts", "_law_bad_counts", "_law_bad_counts", (top 62), []⟩, ⟨.glo "_law_drawn", "_law_drawn", "_law_drawn", (top 55), []⟩, ⟨.glo "_law_move", "_law_move", "_law_move", (top 60), []⟩, ⟨.glo "_law_wrong_moves", "_law_wrong_moves", "_law_wrong_moves", (top 68), []⟩, ⟨.glo "_law_moves_right", "_law_moves_right", "_law_moves_right", (top 75), []⟩, ⟨.glo "_law_limit_right", "_law_limit_right", "_law_limit_right", (top 74), []⟩, ⟨.glo "law", "law", "law", (top 76), []⟩]
def fn : List FnE := fn0 ++ (fn1 ++ (fn2))
def nm0 : List PySem.Str := [("MOST_POINTS" : PySem.Str), ("MOST_LIST" : PySem.Str), ("shown" : PySem.Str), ("HeldorderError" : PySem.Str), ("BadNumber" : PySem.Str), ("NotAPoint" : PySem.Str), ("NotAMove" : PySem.Str), ("TooMany" : PySem.Str), ("UnlikeSizes" : PySem.Str), ("RepeatedPoint" : PySem.Str), ("BadText" : PySem.Str), ("NotMade" : PySem.Str), ("NotTight" : PySem.Str), ("NotFull" : PySem.Str), ("NotAFailing" : PySem.Str), ("NotNeighbours" : PySem.Str), ("NotShorter" : PySem.Str), ("SameLength" : PySem.Str), ("NoSuchLength" : PySem.Str), ("NotAnOrder" : PySem.Str), ("NotAChain" : PySem.Str), ("NotABase" : PySem.Str), ("NotInside" : PySem.Str), ("OrderMatters" : PySem.Str), ("FullLot" : PySem.Str)]
def nm1 : List PySem.Str := [("NotAWord" : PySem.Str), ("NotAColumn" : PySem.Str), ("NotACount" : PySem.Str), ("GameOver" : PySem.Str), ("NotAllowed" : PySem.Str), ("NothingToUndo" : PySem.Str), ("NothingToRedo" : PySem.Str), ("NothingKept" : PySem.Str), ("BadEdit" : PySem.Str), ("UnknownName" : PySem.Str), ("NotAPaper" : PySem.Str), ("is_whole" : PySem.Str), ("is_move" : PySem.Str), ("MOST_TALLIED" : PySem.Str), ("check_number" : PySem.Str), ("is_count" : PySem.Str), ("held_counts" : PySem.Str), ("held_number" : PySem.Str), ("entry_at" : PySem.Str), ("product_counts" : PySem.Str), ("Tally" : PySem.Str), ("_law_store" : PySem.Str), ("_law_mixed" : PySem.Str), ("_law_take" : PySem.Str), ("_law_pick" : PySem.Str)]
def nm2 : List PySem.Str := [("_law_place" : PySem.Str), ("_law_drawn" : PySem.Str), ("_law_either" : PySem.Str), ("_law_whole" : PySem.Str), ("_law_is_whole" : PySem.Str), ("_law_same" : PySem.Str), ("_law_move" : PySem.Str), ("_law_counts" : PySem.Str), ("_law_bad_counts" : PySem.Str), ("_law_due_error" : PySem.Str), ("_law_packed" : PySem.Str), ("_law_unpacked" : PySem.Str), ("_law_tells" : PySem.Str), ("_law_refuses" : PySem.Str), ("_law_wrong_moves" : PySem.Str), ("_law_made_of" : PySem.Str), ("_law_beside" : PySem.Str), ("_law_pair_right" : PySem.Str), ("_law_three_right" : PySem.Str), ("_law_equal_right" : PySem.Str), ("_law_limit_right" : PySem.Str), ("_law_moves_right" : PySem.Str)]
def names : List PySem.Str := nm0 ++ nm1 ++ nm2
abbrev Rr : PySem.W.OpenRow := PySem.W.OpenLaw.row PySem.Challenge.rw_heldorder_k75_tally
abbrev qv : Program := PySem.W.view Rr.prog [76]
def dp0 : List Str := ["BadNumber", "HeldorderError", "NotACount", "Tally", "TooMany", "NotAMove", "_law_store", "_law_mixed", "_law_take", "_law_place", "_law_pick", "_law_whole", "_law_counts", "_law_beside", "_law_either", "shown", "is_count", "_law_made_of", "_law_is_whole", "_law_same"]
def dp1 : List Str := ["check_number", "entry_at", "_law_tells", "_law_packed", "_law_unpacked", "product_counts", "is_whole", "is_move", "held_number", "held_counts", "_law_due_error", "_law_refuses", "_law_pair_right", "_law_equal_right", "_law_three_right", "_law_bad_counts", "_law_drawn", "_law_move", "_law_wrong_moves", "_law_moves_right"]
def dp2 : List Str := ["_law_limit_right", "law"]
def dp : List Str := dp0 ++ (dp1 ++ (dp2))
def fl0 : List Str := ["NotAPoint", "UnlikeSizes", "RepeatedPoint", "BadText", "NotMade", "NotTight", "NotFull", "NotAFailing", "NotNeighbours", "NotShorter", "SameLength", "NoSuchLength", "NotAnOrder", "NotAChain", "NotABase", "NotInside", "OrderMatters", "FullLot", "NotAWord", "NotAColumn"]
def fl1 : List Str := ["GameOver", "NotAllowed", "NothingToUndo", "NothingToRedo", "NothingKept", "BadEdit", "UnknownName", "NotAPaper"]
def fl : List Str := fl0 ++ (fl1)
abbrev hk : PySem.W.Hook := hookV dp fl fa fn
def ob (s : PySem.W.SharedT) : AlV := obsVG dp fl fa fn (HandSHeadRun.getT s)
theorem ob_eq (s : PySem.W.SharedT) : ob s = hk.obs s.abs := obsVG_eq (HandSHeadRun.getT_eq s)
open PySem.W PySem.Calls HandSHeadRun in
theorem run1 (w : World) : ∀ os, (endF (stepQ (denQ tabQ) Rr.prog w) 60000 Rr.prog w os).map (fun s => looksF Rr.prog (boot_heap w.params) s.abs) = some true := by
  intro os
  kernel_rfl

open PySem.W PySem.Calls HandSHeadRun in
theorem run2 (w : World) : ∀ os, (endF (stepQ (denQ tabQ) Rr.prog w) 60000 Rr.prog w os).map (fun s => seenQ qv names (importedModules Rr.prog.main.body) (fun s => xlAt qv [] s && recOk Rr.toRowW.records s) s.abs) = some (openGood qv names) := by
  intro os
  kernel_rfl

open PySem.W PySem.Calls HandSHeadRun in
theorem run3 (w : World) : ∀ os, (endF (stepQ (denQ tabQ) Rr.prog w) 60000 Rr.prog w os).map ob = some (hk.val w) := by
  intro os
  kernel_rfl

end T

set_option Elab.async false
set_option linter.all false
set_option maxRecDepth 100000
set_option maxHeartbeats 4000000
/-! Vd, part 36: readings worked out step by step: each construct by an equation whose right side is its parts', in the order in which they run; what is stuck stands behind a name (BR, AT, CALL, ..) that is not looked into. -/
namespace Vd
open PySem PySem.Spec PyProof.Rows L2

/-! ### the names -/
/-- a size that is no more than the machine's -/
def SZ (n : Nat) : Prop := n ≤ sizeLine
theorem SZ_of {n : Nat} (h : n ≤ 1000000) : SZ n := by unfold SZ; rw [sizeLine_eq]; omega
theorem atI_nth {α : Type} {xs : List α} {i : Nat} {x : α} (h : xs[i]? = some x) : atI xs (i : Int) = some x := by
  have hi : i < xs.length := (List.getElem?_eq_some_iff.mp h).1
  unfold atI ixN
  rw [if_pos (by omega), if_pos (by omega)]
  simpa using h
theorem ixN_nth {n i : Nat} (h : i < n) : ixN n (i : Int) = some i := by
  unfold ixN
  rw [if_pos (by omega), if_pos (by omega)]
  simp

/-- a mark: what it marks is not looked into -/
structure TG {α : Type} (x : α) : Type where
  mk ::

/-- two ways -/
def BR (k : Bool) (a b : Unit → Prop) (_ : TG a) (_ : TG b) : Prop := if k = true then a () else b ()
def GV (env : Ev) (i : Nat) (K : D → Prop) : Prop := match gv env i with
  | some d => K d
  | none => False
def GR (env : Ev) (r : R) (K : D → Prop) : Prop := match gr env r with
  | some d => K d
  | none => False
def GRS (env : Ev) (rs : List R) (K : List D → Prop) : Prop := match grs env rs with
  | some d => K d
  | none => False
/-- a slot takes what is given -/
def SETK (env : Ev) (i : Nat) (d : Option D) (K : Ev → Prop) : Prop := K (env.set i d)
def STO (env : Ev) (i : Nat) (d : Option D) (K : Ev → Prop) : Prop := i < env.length ∧ K (env.set i d)
def AT (xs : List D) (i : Int) (K : D → Prop) (_ : TG K) : Prop := match atI xs i with
  | some d => noOwn d = true ∧ K d
  | none => False
def IXN (n : Nat) (i : Int) (K : Nat → Prop) (_ : TG K) : Prop := match ixN n i with
  | some j => K j
  | none => False
def OPT {α : Type} (o : Option α) (K : α → Prop) (_ : TG K) : Prop := match o with
  | some a => K a
  | none => False
def CALL (sp : SpD) (ds : List D) (Q : D → List (Option D) → Prop) (E : Str → List (Str × D) → List (Option D) → Prop) (_ : TG Q) (_ : TG E) : Prop := sp ds Q E
def CALLX (sp : SpX) (c : Str) (fs : List (Str × D)) (ds : List D) (Q : D → Prop) (_ : TG Q) : Prop := sp c fs ds Q
section
variable {env e : Ev} {i j n m : Nat} {d : D} {x : Option D} {K : D → Prop} {KE : Ev → Prop} {a b : Unit → Prop} {k k' : Bool} {p : Prop}
theorem BR_t : BR true a b ⟨⟩ ⟨⟩ = a () := if_pos rfl
theorem BR_f : BR false a b ⟨⟩ ⟨⟩ = b () := if_neg (by simp)
theorem BR_n : BR (!k) a b ⟨⟩ ⟨⟩ = BR k b a ⟨⟩ ⟨⟩ := by cases k <;> rfl
theorem BR_of (h1 : k = true → a ()) (h2 : k = false → b ()) : BR k a b ⟨⟩ ⟨⟩ := by
  cases k with
  | true => exact h1 rfl
  | false => exact h2 rfl
theorem BR_no (h : k = false) (q : b ()) : BR k a b ⟨⟩ ⟨⟩ := by rw [h]; exact q
theorem BR_yes (h : k = true) (q : a ()) : BR k a b ⟨⟩ ⟨⟩ := by rw [h]; exact q
theorem BR_dec {_ : Decidable p} (h1 : p → a ()) (h2 : ¬ p → b ()) : BR (decide p) a b ⟨⟩ ⟨⟩ := by
  by_cases q : p
  · rw [decide_eq_true q]; exact h1 q
  · rw [decide_eq_false q]; exact h2 q
theorem BR_pos {_ : Decidable p} (h : p) : BR (decide p) a b ⟨⟩ ⟨⟩ = a () := by rw [decide_eq_true h]; rfl
theorem BR_neg {_ : Decidable p} (h : ¬ p) : BR (decide p) a b ⟨⟩ ⟨⟩ = b () := by rw [decide_eq_false h]; rfl
theorem GV_0 : GV (some d :: e) 0 K = K d := rfl
theorem GV_0n : GV (none :: e) 0 K = False := rfl
theorem GV_s : GV (x :: e) (n + 1) K = GV e n K := rfl
theorem GV_nil : GV [] n K = False := by unfold GV; simp [gv]
theorem GR_t : GR env (.tmp d) K = K d := rfl
theorem GR_p : GR env (.plc i) K = GV env i K := rfl
theorem GRS_nil {K : List D → Prop} : GRS env [] K = K [] := rfl
theorem GRS_cons {K : List D → Prop} {r : R} {rs : List R} : GRS env (r :: rs) K = GR env r fun d => GRS env rs fun ds => K (d :: ds) := by
  unfold GRS GR
  rw [show grs env (r :: rs) = (match gr env r, grs env rs with
    | some d, some ds => some (d :: ds)
    | _, _ => none) from rfl]
  cases gr env r with
  | none => rfl
  | some d => cases grs env rs <;> rfl
theorem SETK_0 : SETK (x :: e) 0 y KE = KE (y :: e) := rfl
theorem SETK_s : SETK (x :: e) (n + 1) y KE = SETK e n y fun e' => KE (x :: e') := rfl
theorem SETK_nil : SETK [] n y KE = KE [] := rfl
theorem STO_0 : STO (x :: e) 0 y KE = KE (y :: e) := by unfold STO; simp
theorem STO_s : STO (x :: e) (n + 1) y KE = STO e n y fun e' => KE (x :: e') := by unfold STO; simp
theorem AT_of {xs : List D} {i : Int} {d : D} (h : atI xs i = some d) (n : noOwn d = true) (k : K d) : AT xs i K ⟨⟩ := by unfold AT; rw [h]; exact ⟨n, k⟩
/-- xs[i] = d -/
def LSET (xs : List D) (i : Int) (d : D) (K : List D → Prop) (_ : TG K) : Prop := IXN xs.length i (fun k => K (xs.set k d)) ⟨⟩
theorem IXN_of {K : Nat → Prop} {n j : Nat} {i : Int} (h : ixN n i = some j) (k : K j) : IXN n i K ⟨⟩ := by unfold IXN; rw [h]; exact k
theorem LSET_of {xs : List D} {i : Int} {k : Nat} {d : D} {KL : List D → Prop} (h : ixN xs.length i = some k) (q : KL (xs.set k d)) : LSET xs i d KL ⟨⟩ := by unfold LSET IXN; rw [h]; exact q
theorem AT_0 {x0 : D} {xs : List D} : AT (x0 :: xs) 0 K ⟨⟩ = (noOwn x0 = true ∧ K x0) := by
  unfold AT
  rw [show atI (x0 :: xs) (0 : Int) = some x0 from atI_nth (i := 0) rfl]
theorem LSET_0 {x0 d : D} {xs : List D} {KL : List D → Prop} : LSET (x0 :: xs) 0 d KL ⟨⟩ = KL (d :: xs) := by
  unfold LSET IXN
  rw [show ixN (x0 :: xs).length (0 : Int) = some 0 from ixN_nth (i := 0) (by simp only [List.length_cons]; omega)]
  rfl
theorem AT_1 {x0 x1 : D} {xs : List D} : AT (x0 :: x1 :: xs) 1 K ⟨⟩ = (noOwn x1 = true ∧ K x1) := by
  unfold AT
  rw [show atI (x0 :: x1 :: xs) (1 : Int) = some x1 from atI_nth (i := 1) rfl]
theorem LSET_1 {x0 x1 d : D} {xs : List D} {KL : List D → Prop} : LSET (x0 :: x1 :: xs) 1 d KL ⟨⟩ = KL (x0 :: d :: xs) := by
  unfold LSET IXN
  rw [show ixN (x0 :: x1 :: xs).length (1 : Int) = some 1 from ixN_nth (i := 1) (by simp only [List.length_cons]; omega)]
  rfl
theorem AT_2 {x0 x1 x2 : D} {xs : List D} : AT (x0 :: x1 :: x2 :: xs) 2 K ⟨⟩ = (noOwn x2 = true ∧ K x2) := by
  unfold AT
  rw [show atI (x0 :: x1 :: x2 :: xs) (2 : Int) = some x2 from atI_nth (i := 2) rfl]
theorem LSET_2 {x0 x1 x2 d : D} {xs : List D} {KL : List D → Prop} : LSET (x0 :: x1 :: x2 :: xs) 2 d KL ⟨⟩ = KL (x0 :: x1 :: d :: xs) := by
  unfold LSET IXN
  rw [show ixN (x0 :: x1 :: x2 :: xs).length (2 : Int) = some 2 from ixN_nth (i := 2) (by simp only [List.length_cons]; omega)]
  rfl
theorem AT_3 {x0 x1 x2 x3 : D} {xs : List D} : AT (x0 :: x1 :: x2 :: x3 :: xs) 3 K ⟨⟩ = (noOwn x3 = true ∧ K x3) := by
  unfold AT
  rw [show atI (x0 :: x1 :: x2 :: x3 :: xs) (3 : Int) = some x3 from atI_nth (i := 3) rfl]
theorem LSET_3 {x0 x1 x2 x3 d : D} {xs : List D} {KL : List D → Prop} : LSET (x0 :: x1 :: x2 :: x3 :: xs) 3 d KL ⟨⟩ = KL (x0 :: x1 :: x2 :: d :: xs) := by
  unfold LSET IXN
  rw [show ixN (x0 :: x1 :: x2 :: x3 :: xs).length (3 : Int) = some 3 from ixN_nth (i := 3) (by simp only [List.length_cons]; omega)]
  rfl
theorem AT_4 {x0 x1 x2 x3 x4 : D} {xs : List D} : AT (x0 :: x1 :: x2 :: x3 :: x4 :: xs) 4 K ⟨⟩ = (noOwn x4 = true ∧ K x4) := by
  unfold AT
  rw [show atI (x0 :: x1 :: x2 :: x3 :: x4 :: xs) (4 : Int) = some x4 from atI_nth (i := 4) rfl]
theorem LSET_4 {x0 x1 x2 x3 x4 d : D} {xs : List D} {KL : List D → Prop} : LSET (x0 :: x1 :: x2 :: x3 :: x4 :: xs) 4 d KL ⟨⟩ = KL (x0 :: x1 :: x2 :: x3 :: d :: xs) := by
  unfold LSET IXN
  rw [show ixN (x0 :: x1 :: x2 :: x3 :: x4 :: xs).length (4 : Int) = some 4 from ixN_nth (i := 4) (by simp only [List.length_cons]; omega)]
  rfl
theorem AT_5 {x0 x1 x2 x3 x4 x5 : D} {xs : List D} : AT (x0 :: x1 :: x2 :: x3 :: x4 :: x5 :: xs) 5 K ⟨⟩ = (noOwn x5 = true ∧ K x5) := by
  unfold AT
  rw [show atI (x0 :: x1 :: x2 :: x3 :: x4 :: x5 :: xs) (5 : Int) = some x5 from atI_nth (i := 5) rfl]
theorem LSET_5 {x0 x1 x2 x3 x4 x5 d : D} {xs : List D} {KL : List D → Prop} : LSET (x0 :: x1 :: x2 :: x3 :: x4 :: x5 :: xs) 5 d KL ⟨⟩ = KL (x0 :: x1 :: x2 :: x3 :: x4 :: d :: xs) := by
  unfold LSET IXN
  rw [show ixN (x0 :: x1 :: x2 :: x3 :: x4 :: x5 :: xs).length (5 : Int) = some 5 from ixN_nth (i := 5) (by simp only [List.length_cons]; omega)]
  rfl
theorem AT_6 {x0 x1 x2 x3 x4 x5 x6 : D} {xs : List D} : AT (x0 :: x1 :: x2 :: x3 :: x4 :: x5 :: x6 :: xs) 6 K ⟨⟩ = (noOwn x6 = true ∧ K x6) := by
  unfold AT
  rw [show atI (x0 :: x1 :: x2 :: x3 :: x4 :: x5 :: x6 :: xs) (6 : Int) = some x6 from atI_nth (i := 6) rfl]
theorem LSET_6 {x0 x1 x2 x3 x4 x5 x6 d : D} {xs : List D} {KL : List D → Prop} : LSET (x0 :: x1 :: x2 :: x3 :: x4 :: x5 :: x6 :: xs) 6 d KL ⟨⟩ = KL (x0 :: x1 :: x2 :: x3 :: x4 :: x5 :: d :: xs) := by
  unfold LSET IXN
  rw [show ixN (x0 :: x1 :: x2 :: x3 :: x4 :: x5 :: x6 :: xs).length (6 : Int) = some 6 from ixN_nth (i := 6) (by simp only [List.length_cons]; omega)]
  rfl
theorem AT_7 {x0 x1 x2 x3 x4 x5 x6 x7 : D} {xs : List D} : AT (x0 :: x1 :: x2 :: x3 :: x4 :: x5 :: x6 :: x7 :: xs) 7 K ⟨⟩ = (noOwn x7 = true ∧ K x7) := by
  unfold AT
  rw [show atI (x0 :: x1 :: x2 :: x3 :: x4 :: x5 :: x6 :: x7 :: xs) (7 : Int) = some x7 from atI_nth (i := 7) rfl]
theorem LSET_7 {x0 x1 x2 x3 x4 x5 x6 x7 d : D} {xs : List D} {KL : List D → Prop} : LSET (x0 :: x1 :: x2 :: x3 :: x4 :: x5 :: x6 :: x7 :: xs) 7 d KL ⟨⟩ = KL (x0 :: x1 :: x2 :: x3 :: x4 :: x5 :: x6 :: d :: xs) := by
  unfold LSET IXN
  rw [show ixN (x0 :: x1 :: x2 :: x3 :: x4 :: x5 :: x6 :: x7 :: xs).length (7 : Int) = some 7 from ixN_nth (i := 7) (by simp only [List.length_cons]; omega)]
  rfl
theorem AT_8 {x0 x1 x2 x3 x4 x5 x6 x7 x8 : D} {xs : List D} : AT (x0 :: x1 :: x2 :: x3 :: x4 :: x5 :: x6 :: x7 :: x8 :: xs) 8 K ⟨⟩ = (noOwn x8 = true ∧ K x8) := by
  unfold AT
  rw [show atI (x0 :: x1 :: x2 :: x3 :: x4 :: x5 :: x6 :: x7 :: x8 :: xs) (8 : Int) = some x8 from atI_nth (i := 8) rfl]
theorem LSET_8 {x0 x1 x2 x3 x4 x5 x6 x7 x8 d : D} {xs : List D} {KL : List D → Prop} : LSET (x0 :: x1 :: x2 :: x3 :: x4 :: x5 :: x6 :: x7 :: x8 :: xs) 8 d KL ⟨⟩ = KL (x0 :: x1 :: x2 :: x3 :: x4 :: x5 :: x6 :: x7 :: d :: xs) := by
  unfold LSET IXN
  rw [show ixN (x0 :: x1 :: x2 :: x3 :: x4 :: x5 :: x6 :: x7 :: x8 :: xs).length (8 : Int) = some 8 from ixN_nth (i := 8) (by simp only [List.length_cons]; omega)]
  rfl
theorem OPT_some {α : Type} {a : α} {K : α → Prop} : OPT (some a) K ⟨⟩ = K a := rfl
theorem OPT_none {α : Type} {K : α → Prop} : OPT (none : Option α) K ⟨⟩ = False := rfl
theorem OPT_of {α : Type} {o : Option α} {a : α} {K : α → Prop} (h : o = some a) (k : K a) : OPT o K ⟨⟩ := by rw [h]; exact k
end

/-! ### operands -/
section
variable {env e : Ev} {i j n m : Nat} {d : D} {x : Option D} {K : D → Ev → Prop} {KL : List D → Ev → Prop} {r : R} {rs : List R}
theorem cap_t : cap env (.tmp d) K = K d env := rfl
theorem cap_p : cap env (.plc i) K = GV env i fun d => BR (noOwn d) (fun _ => K d env) (fun _ => SETK env i (some (frz d)) fun e' => K (frz d) e') ⟨⟩ ⟨⟩ := by unfold cap GV; rfl
theorem mov_t : mov env (.tmp d) K = K d env := rfl
theorem mov_p : mov env (.plc i) K = GV env i fun d => BR (noOwn d) (fun _ => K d env) (fun _ => SETK env i none fun e' => K d e') ⟨⟩ ⟨⟩ := by unfold mov GV; rfl
theorem capM_t : capM true env r K = mov env r K := rfl
theorem capM_f : capM false env r K = cap env r K := rfl
theorem capz_t : capz env (.tmp d) K = BR (noOwn d) (fun _ => K d env) (fun _ => K (frz d) env) ⟨⟩ ⟨⟩ := rfl
theorem capz_p : capz env (.plc i) K = GV env i fun d => BR (noOwn d) (fun _ => K d env) (fun _ => SETK env i (some (frz d)) fun e' => K (frz d) e') ⟨⟩ ⟨⟩ := by unfold capz GV; rfl
theorem capL_nil : capL env [] KL = KL [] env := rfl
theorem capL_cons : capL env (r :: rs) KL = cap env r fun d e1 => capL e1 rs fun ds e2 => KL (d :: ds) e2 := rfl
theorem prep_nil {ms : List Bool} : prep ms [] env KL = KL [] env := by cases ms <;> rfl
theorem prep_t {ms : List Bool} : prep (true :: ms) (.plc i :: rs) env KL = GV env i fun d => SETK env i none fun e1 => prep ms rs e1 fun ds e2 => KL (d :: ds) e2 := by
  show (match gv env i with
    | some d => (fun d e1 => prep ms rs e1 fun ds e2 => KL (d :: ds) e2) d (env.set i none)
    | none => False) = _
  unfold GV SETK
  cases gv env i <;> rfl
theorem prep_tt {ms : List Bool} : prep (true :: ms) (.tmp d :: rs) env KL = False := rfl
theorem prep_f {ms : List Bool} : prep (false :: ms) (r :: rs) env KL = capz env r fun d e1 => prep ms rs e1 fun ds e2 => KL (d :: ds) e2 := rfl
/-- the changed parameters' slots, cleared | filled -/
def CLRM (ms : List Bool) (rs : List R) (e : Ev) (K : Ev → Prop) : Prop := K (clr e (ioS ms rs))
def PUTM (ms : List Bool) (rs : List R) (os : List (Option D)) (e : Ev) (K : Ev → Prop) : Prop := K (putO e (ioS ms rs) os)
variable {KE : Ev → Prop} {ms : List Bool} {os : List (Option D)}
theorem CLRM_nil : CLRM ms [] e KE = KE e := by unfold CLRM; cases ms with | nil => rfl | cons b t => cases b <;> rfl
theorem CLRM_t : CLRM (true :: ms) (.plc i :: rs) e KE = SETK e i none fun e' => CLRM ms rs e' KE := rfl
theorem CLRM_f : CLRM (false :: ms) (r :: rs) e KE = CLRM ms rs e KE := rfl
theorem PUTM_nil : PUTM ms [] os e KE = KE e := by
  unfold PUTM
  have h : ioS ms [] = [] := by cases ms with | nil => rfl | cons b t => cases b <;> rfl
  rw [h]; cases os <;> rfl
theorem PUTM_t : PUTM (true :: ms) (.plc i :: rs) (x :: os) e KE = SETK e i x fun e' => PUTM ms rs os e' KE := rfl
theorem PUTM_f : PUTM (false :: ms) (r :: rs) os e KE = PUTM ms rs os e KE := rfl
/-- back in the caller -/
def BACK (ms : List Bool) (rs : List R) (e2 ef : Ev) (d : D) (os : List (Option D)) (K : Ev → Prop) : Prop := K (backE ms rs e2 ef d os)
theorem BACK_eq {e2 ef : Ev} : BACK ms rs e2 ef d os KE = BR (noFz d && os.all noFzO) (fun _ => CLRM ms rs e2 fun e' => PUTM ms rs os e' KE) (fun _ => PUTM ms rs os ef KE) ⟨⟩ ⟨⟩ := by
  unfold BACK backE BR CLRM PUTM
  cases noFz d && os.all noFzO <;> rfl
end

/-! ### expressions -/
section
variable {env : Ev} {i j n : Nat} {d : D} {Φ : R → Ev → Prop} {ΦL : List R → Ev → Prop} {ΦB : Bool → Ev → Prop} {w wa wb wc wo : W1} {ws : WL} {u v : WB} {k : KD} {r : R}
theorem q_tmp : wTmp d env Φ = Φ (.tmp d) env := rfl
theorem q_var : wVar i env Φ = GV env i fun _ => Φ (.plc i) env := by
  unfold wVar GV
  cases gv env i with
  | none => exact propext ⟨fun h => (Bool.noConfusion h.1), fun h => False.elim h⟩
  | some d => exact propext ⟨fun h => h.2, fun h => ⟨rfl, h⟩⟩
theorem q_nil : wNil env ΦL = ΦL [] env := rfl
theorem q_cons : wCons w ws env ΦL = w env fun r e1 => ws e1 fun rs e2 => ΦL (r :: rs) e2 := rfl
theorem q_op : wOp k ws env Φ = ws env fun rs e2 => GRS e2 rs fun ds => k ds fun d => Φ (.tmp d) e2 := by unfold wOp GRS; rfl
def ISB (d : D) (K : Bool → Prop) : Prop := match d with
  | .bl b => K b
  | _ => False
theorem ISB_bl {b : Bool} {K : Bool → Prop} : ISB (.bl b) K = K b := rfl
theorem isB_eq {K : Bool → Prop} : isB env r K = GR env r fun d => ISB d K := by
  unfold isB GR ISB
  cases h : gr env r with
  | none => rfl
  | some d => cases d <;> rfl
def ISI (d : D) (K : Int → Prop) : Prop := match d with
  | .int b => K b
  | _ => False
theorem ISI_int {b : Int} {K : Int → Prop} : ISI (.int b) K = K b := rfl
theorem isI_eq {K : Int → Prop} : isI env r K = GR env r fun d => ISI d K := by
  unfold isI GR ISI
  cases h : gr env r with
  | none => rfl
  | some d => cases d <;> rfl
def ISS (d : D) (K : Str → Prop) : Prop := match d with
  | .str b => K b
  | _ => False
theorem ISS_str {b : Str} {K : Str → Prop} : ISS (.str b) K = K b := rfl
theorem strR_eq {K : Str → Prop} : strR env r K = GR env r fun d => ISS d K := by
  unfold strR GR ISS
  cases h : gr env r with
  | none => rfl
  | some d => cases d <;> rfl
theorem q_andV : wAndV wa wb env Φ = wa env fun r e1 => isB e1 r fun k => BR k (fun _ => wb e1 Φ) (fun _ => Φ (.tmp (.bl false)) e1) ⟨⟩ ⟨⟩ := rfl
theorem q_orV : wOrV wa wb env Φ = wa env fun r e1 => isB e1 r fun k => BR k (fun _ => Φ (.tmp (.bl true)) e1) (fun _ => wb e1 Φ) ⟨⟩ ⟨⟩ := rfl
theorem q_notV : wNotV u env Φ = u env fun k e1 => Φ (.tmp (.bl (!k))) e1 := rfl
theorem q_notE : wNotE wa env Φ = wa env fun r e1 => isB e1 r fun k => Φ (.tmp (.bl (!k))) e1 := rfl
theorem q_ifE : wIfE u wa wb env Φ = u env fun k e1 => BR k (fun _ => wa e1 Φ) (fun _ => wb e1 Φ) ⟨⟩ ⟨⟩ := rfl
theorem q_test : wTest w env ΦB = w env fun r e1 => GR e1 r fun d => truD d fun k => ΦB k e1 := by unfold wTest GR; rfl
theorem q_TB : wTB w env ΦB = w env fun r e1 => isB e1 r fun k => ΦB k e1 := rfl
theorem q_and : wAnd u v env ΦB = u env fun k e1 => BR k (fun _ => v e1 ΦB) (fun _ => ΦB false e1) ⟨⟩ ⟨⟩ := rfl
theorem q_or : wOr u v env ΦB = u env fun k e1 => BR k (fun _ => ΦB true e1) (fun _ => v e1 ΦB) ⟨⟩ ⟨⟩ := rfl
theorem q_not : wNot u env ΦB = u env fun k e1 => ΦB (!k) e1 := rfl
theorem q_yes : wYes env ΦB = ΦB true env := rfl
theorem q_lst : wLst ws env Φ = ws env fun rs e2 => capL e2 rs fun ds e3 => SZ ds.length ∧ Φ (.tmp (.lst true ds)) e3 := rfl
theorem q_tup : wTup ws env Φ = ws env fun rs e2 => capL e2 rs fun ds e3 => SZ ds.length ∧ Φ (.tmp (.tup ds)) e3 := rfl
theorem q_sl11 : wSl11 wa wb wc env Φ = wa env fun r1 e1 => wb e1 fun r2 e2 => isI e2 r2 fun i => wc e2 fun r3 e3 => isI e3 r3 fun j => GR e3 r1 fun d => slK (some i) (some j) d fun dz => Φ (.tmp dz) e3 := by
  unfold wSl11 GR; rfl
theorem q_rgq1 {b : Bool} : wRgq1 b w env Φ = w env fun r e1 => isI e1 r fun j => RgOk 0 j ∧ BR b (fun _ => Φ (.tmp (.tup (rgD 0 j.toNat))) e1) (fun _ => Φ (.tmp (.lst true (rgD 0 j.toNat))) e1) ⟨⟩ ⟨⟩ := by
  unfold wRgq1 wRgL BR
  cases b <;> simp
theorem q_rgq2 {b : Bool} : wRgq2 b wa wb env Φ = wa env fun r e1 => isI e1 r fun i => wb e1 fun r2 e2 => isI e2 r2 fun j => RgOk i j ∧ BR b (fun _ => Φ (.tmp (.tup (rgD i (j - i).toNat))) e2) (fun _ => Φ (.tmp (.lst true (rgD i (j - i).toNat))) e2) ⟨⟩ ⟨⟩ := by
  unfold wRgq2 wRgL BR
  cases b <;> simp
theorem q_fz : wFz w env Φ = w env fun r e1 => capz e1 r fun d e2 => Φ (.tmp d) e2 := rfl
theorem q_isi {T : String} : wIsi T w env Φ = w env fun r e1 => GR e1 r fun d => isiD T d fun b => Φ (.tmp (.bl b)) e1 := by unfold wIsi GR; rfl
theorem q_isC {c : Str} : wIsC c w env Φ = w env fun r e1 => GR e1 r fun d => isCD c d fun b => Φ (.tmp (.bl b)) e1 := by unfold wIsC GR; rfl
def INS (c : Str) (d : D) (K : List (Str × D) → Prop) : Prop := match d with
  | .ins _ c' fs => c' = c ∧ K fs
  | _ => False
theorem INS_ins {o : Bool} {c : Str} {fs : List (Str × D)} {K : List (Str × D) → Prop} : INS c (.ins o c fs) K = K fs := by unfold INS; simp
theorem insAt_eq {c : Str} {K : List (Str × D) → Prop} : insAt c env r K = GR env r fun d => INS c d K := by
  unfold insAt GR INS
  cases h : gr env r with
  | none => rfl
  | some d => cases d <;> rfl
def INSO (c : Str) (d : D) (K : List (Str × D) → Prop) : Prop := match d with
  | .ins true c' fs => c' = c ∧ K fs
  | _ => False
theorem INSO_ins {c : Str} {fs : List (Str × D)} {K : List (Str × D) → Prop} : INSO c (.ins true c fs) K = K fs := by unfold INSO; simp
theorem insSl_eq {c : Str} {K : List (Str × D) → Prop} : insSl c env i K = GV env i fun d => INSO c d K := by
  unfold insSl GV INSO
  cases h : gv env i with
  | none => rfl
  | some d =>
    cases d with
    | ins o c' fs => cases o <;> rfl
    | _ => rfl
theorem opt_m {o : Option D} {K : D → Prop} : (match o with
    | some d => K d
    | none => False) = OPT o K ⟨⟩ := by cases o <;> rfl
theorem q_fld {c f : Str} : wFld c f w env Φ = w env fun r e1 => insAt c e1 r fun fs => OPT (fs.lookup f) (fun d => noOwn d = true ∧ Φ (.tmp d) e1) ⟨⟩ := by
  unfold wFld
  congr 1
  funext r e1
  congr 1
  funext fs
  exact opt_m (K := fun d => noOwn d = true ∧ Φ (.tmp d) e1)
theorem q_prop {c : Str} {sp : SpD} : wProp c sp w env Φ = w env fun r e1 => insAt c e1 r fun _ => prep [false] [r] e1 fun ds ef => CALL sp ds (fun d os => BACK [false] [r] e1 ef d os (Φ (.tmp d))) (fun _ _ _ => False) ⟨⟩ ⟨⟩ := rfl
theorem q_meth {c m : Str} {ms : List Bool} {sp : SpD} {EW : EWt} : wMeth c m ms sp EW wo ws env Φ = wo env fun r0 e1 => (insAt c e1 r0 fun fs => fs.lookup m = none) ∧ ws e1 fun rs e2 => prep ms (r0 :: rs) e2 fun ds ef =>
  CALL sp ds (fun d os => BACK ms (r0 :: rs) e2 ef d os (Φ (.tmp d))) (fun c fs os => PUTM ms (r0 :: rs) os ef (EW c fs)) ⟨⟩ ⟨⟩ := rfl
theorem q_call {ms : List Bool} {sp : SpD} {dvs : List D} {EW : EWt} : wCall ms sp dvs EW ws env Φ = ws env fun rs e2 => prep ms rs e2 fun ds ef => CALL sp (ds ++ dvs) (fun d os => BACK ms rs e2 ef d os (Φ (.tmp d))) (fun c fs os => PUTM ms rs os ef (EW c fs)) ⟨⟩ ⟨⟩ := rfl
def TAKEK (n : Nat) (e : Ev) (K : Ev → Prop) : Prop := K (e.take n)
theorem TAKEK_0 {e : Ev} {K : Ev → Prop} : TAKEK 0 e K = K [] := by unfold TAKEK; simp
theorem TAKEK_s {x : Option D} {e : Ev} {n : Nat} {K : Ev → Prop} : TAKEK (n + 1) (x :: e) K = TAKEK n e fun e' => K (x :: e') := rfl
def LENK (e : Ev) (K : Nat → Prop) : Prop := K e.length
theorem LENK_nil {K : Nat → Prop} : LENK [] K = K 0 := rfl
theorem LENK_cons {x : Option D} {e : Ev} {K : Nat → Prop} : LENK (x :: e) K = LENK e fun n => K (n + 1) := rfl
def PUSHK (e : Ev) (x : Option D) (K : Ev → Prop) : Prop := K (e ++ [x])
theorem PUSHK_nil {x : Option D} {K : Ev → Prop} : PUSHK [] x K = K [x] := rfl
theorem PUSHK_cons {x y : Option D} {e : Ev} {K : Ev → Prop} : PUSHK (y :: e) x K = PUSHK e x fun e' => K (y :: e') := rfl
theorem q_make {c : Str} {ms : List Bool} {sp : SpD} {dvs : List D} {EW : EWt} : wMake c ms sp dvs EW ws env Φ = ws env fun rs e2 => LENK e2 fun n => PUSHK e2 (some (.ins true c [])) fun e3 => prep (true :: ms) (.plc n :: rs) e3 fun ds ef =>
    CALL sp (ds ++ dvs) (fun d os => d = .non ∧ BACK (true :: ms) (.plc n :: rs) e3 ef d os fun e4 => GV e4 n fun di => TAKEK n e4 (Φ (.tmp di))) (fun c fs os => PUTM (true :: ms) (.plc n :: rs) os ef fun e4 => TAKEK n e4 (EW c fs)) ⟨⟩ ⟨⟩ := by
  unfold wMake LENK PUSHK CALL BACK GV TAKEK PUTM
  rfl
theorem q_fmt : wFmt w env Φ = w env fun r e1 => strR e1 r fun y => SZ y.length ∧ Φ (.tmp (.str y)) e1 := rfl
theorem q_js_nil {acc : Str} : wJs [] acc env Φ = Φ (.tmp (.str acc)) env := rfl
theorem q_js_cons {acc : Str} {l : List W1} : wJs (w :: l) acc env Φ = w env fun r e1 => strR e1 r fun y => SZ (acc ++ y).length ∧ wJs l (acc ++ y) e1 Φ := rfl
theorem q_errF {fs : List (Str × D)} {n : Str} : wErrF fs n env Φ = OPT (fs.lookup n) (fun d => Φ (.tmp d) env) ⟨⟩ := opt_m (K := fun d => Φ (.tmp d) env)
theorem q_errIs {b : Option Bool} : wErrIs b env Φ = OPT b (fun k => Φ (.tmp (.bl k)) env) ⟨⟩ := by
  unfold wErrIs OPT
  cases b with
  | none => exact propext ⟨fun ⟨_, h, _⟩ => (nomatch h), fun h => False.elim h⟩
  | some k => exact propext ⟨fun ⟨_, h, q⟩ => (Option.some.inj h) ▸ q, fun h => ⟨k, rfl, h⟩⟩
theorem q_errCall {sp : SpX} {c : Str} {fs : List (Str × D)} {n : Nat} : wErrCall sp c fs n ws env Φ = ws env fun rs e2 => capL e2 rs fun ds e3 => ds.length = n ∧ CALLX sp c fs ds (fun d => Φ (.tmp d) e3) ⟨⟩ := rfl
theorem q_nev : wNevE env Φ = False := rfl
/-- a list that the slot owns -/
def LST (d : D) (K : List D → Prop) : Prop := match d with
  | .lst true xs => K xs
  | _ => False
theorem LST_l {xs : List D} {K : List D → Prop} : LST (.lst true xs) K = K xs := rfl
theorem lstAt_eq {K : List D → Prop} : lstAt env i K = GV env i fun d => LST d K := by
  unfold lstAt GV LST
  cases h : gv env i with
  | none => rfl
  | some d =>
    cases d with
    | lst o xs => cases o <;> rfl
    | _ => rfl
variable {kl : List D → List D → (List D → D → Prop) → Prop}
theorem q_m0 : wM0 i kl env Φ = lstAt env i fun xs => kl xs [] fun xs' dz => SETK env i (some (.lst true xs')) fun e' => Φ (.tmp dz) e' := rfl
theorem q_m1 {m : Bool} : wM1 m i kl w env Φ = lstAt env i fun _ => w env fun r e1 => capM m e1 r fun d e2 => lstAt e2 i fun xs => kl xs [d] fun xs' dz => SETK e2 i (some (.lst true xs')) fun e' => Φ (.tmp dz) e' := rfl
theorem q_app {xs : List D} {K : List D → D → Prop} : appK xs [d] K = (SZ (xs.length + 1) ∧ K (xs ++ [d]) .non) := rfl
theorem q_clear {xs : List D} {K : List D → D → Prop} : clearK xs [] K = K [] .non := rfl
theorem q_lc {wi : WI} {T : TgW} {own : List Nat} : wLc wi T u w own env Φ = wi env fun xs e1 => ownOk own e1 = true ∧ lcW T u w own xs [] (wip e1 own) fun ds e2 => e2.length = e1.length ∧ Φ (.tmp (.lst true ds)) (rst e1 e2 own) := rfl
end

/-! ### operators -/
section
variable {i j : Int} {a b : D} {x y : Str} {o o' : Bool} {xs ys : List D} {K : D → Prop}
theorem q_kd1 {k : K1} : kd1 k [a] K = k a K := rfl
theorem q_kd2 {k : K2} : kd2 k [a, b] K = k a b K := rfl
theorem q_add_i : addK (.int i) (.int j) K = K (.int (i + j)) := rfl
theorem q_add_s : addK (.str x) (.str y) K = (SZ (x.length + y.length) ∧ K (.str (x ++ y))) := rfl
theorem q_add_l : addK (.lst o xs) (.lst o' ys) K = (noOwnL xs = true ∧ noOwnL ys = true ∧ SZ (xs.length + ys.length) ∧ K (.lst true (xs ++ ys))) := rfl
theorem q_add_t : addK (.tup xs) (.tup ys) K = (noOwnL xs = true ∧ noOwnL ys = true ∧ SZ (xs.length + ys.length) ∧ K (.tup (xs ++ ys))) := rfl
theorem q_sub : subK (.int i) (.int j) K = K (.int (i - j)) := rfl
theorem q_mul_i : mulK (.int i) (.int j) K = (Vd.MulOk i j ∧ K (.int (i * j))) := rfl
theorem q_mul_l : mulK (.lst o xs) (.int j) K = (noOwnL xs = true ∧ (-(2 ^ 63) ≤ j ∧ j < 2 ^ 63) ∧ SZ (xs.length * j.toNat) ∧ K (.lst true (List.replicate j.toNat xs).flatten)) := rfl
theorem q_int {C : Int → Int → Prop} {g : Int → Int → D} : intK C g (.int i) (.int j) K = (C i j ∧ K (g i j)) := rfl
theorem q_neg : negK (.int i) K = K (.int (-i)) := rfl
theorem q_is_n : isK a .non K = K (.bl (isNon a)) := by cases a <;> rfl
theorem q_is_b {c : Bool} : isK a (.bl c) K = K (.bl (isBl c a)) := by cases a <;> rfl
theorem q_isn_n : isnK a .non K = K (.bl (!isNon a)) := by cases a <;> rfl
theorem q_isn_b {c : Bool} : isnK a (.bl c) K = K (.bl (!isBl c a)) := by cases a <;> rfl
/-- == of plain data -/
def EQ (a b : D) (K : Bool → Prop) (_ : TG K) : Prop := eqK a b fun d => ISB d K
theorem q_len_l : lenK (.lst o xs) K = K (.int xs.length) := rfl
theorem q_len_t : lenK (.tup xs) K = K (.int xs.length) := rfl
theorem q_len_s : lenK (.str x) K = (SZ x.length ∧ K (.int x.length)) := rfl
theorem q_int1 : intK1 (.int i) K = K (.int i) := rfl
theorem q_int1b {c : Bool} : intK1 (.bl c) K = K (.int (if c then 1 else 0)) := rfl
theorem q_list_l : listK (.lst o xs) K = (noOwnL xs = true ∧ K (.lst true xs)) := rfl
theorem q_list_t : listK (.tup xs) K = (noOwnL xs = true ∧ K (.lst true xs)) := rfl
theorem q_tuple_l : tupleK (.lst o xs) K = (noOwnL xs = true ∧ K (.tup xs)) := rfl
theorem q_tuple_t : tupleK (.tup xs) K = (noOwnL xs = true ∧ K (.tup xs)) := rfl
theorem q_abs : absK (.int i) K = K (.int (if i < 0 then -i else i)) := rfl
theorem q_sum : sumK (.lst o xs) K = OPT (toInts xs) (fun ns => K (.int ns.sum)) ⟨⟩ := by
  show (match toInts xs with
    | some ns => K (.int ns.sum)
    | none => False) = _
  unfold OPT
  cases toInts xs <;> rfl
theorem q_sum_t : sumK (.tup xs) K = OPT (toInts xs) (fun ns => K (.int ns.sum)) ⟨⟩ := by
  show (match toInts xs with
    | some ns => K (.int ns.sum)
    | none => False) = _
  unfold OPT
  cases toInts xs <;> rfl
theorem q_all : allK (.lst o xs) K = OPT (toBls xs) (fun ns => K (.bl (ns.all id))) ⟨⟩ := by
  show (match toBls xs with
    | some ns => K (.bl (ns.all id))
    | none => False) = _
  unfold OPT
  cases toBls xs <;> rfl
theorem q_any : anyK (.lst o xs) K = OPT (toBls xs) (fun ns => K (.bl (ns.any id))) ⟨⟩ := by
  show (match toBls xs with
    | some ns => K (.bl (ns.any id))
    | none => False) = _
  unfold OPT
  cases toBls xs <;> rfl
theorem q_rev : revK (.lst o xs) K = (noOwnL xs = true ∧ K (.lst true xs.reverse)) := rfl
theorem q_sorted : sortedK a K = seqD a fun xs => OPT (toInts xs) (fun ns => ∀ ns' : List Int, ns'.Perm ns → ns'.Pairwise (· ≤ ·) → K (.lst true (ns'.map D.int))) ⟨⟩ := by
  unfold sortedK OPT
  congr 1
  funext xs
  cases toInts xs <;> rfl
theorem q_seq_l {K : List D → Prop} : seqD (.lst o xs) K = K xs := rfl
theorem q_seq_t {K : List D → Prop} : seqD (.tup xs) K = K xs := rfl
theorem q_seq_s {ns : List Int} {K : List D → Prop} : seqD (.scr ns) K = K (ns.map D.int) := rfl
theorem q_ix_l : ixK (.lst o xs) (.int i) K = AT xs i K ⟨⟩ := by unfold ixK AT; rfl
theorem q_ix_t : ixK (.tup xs) (.int i) K = AT xs i K ⟨⟩ := by unfold ixK AT; rfl
theorem q_sl_l {lo hi : Option Int} : slK lo hi (.lst o xs) K = (noOwnL xs = true ∧ K (.lst true (cutD xs lo hi))) := rfl
theorem q_sl_t {lo hi : Option Int} : slK lo hi (.tup xs) K = (noOwnL xs = true ∧ K (.tup (cutD xs lo hi))) := rfl
theorem q_sl_s {lo hi : Option Int} {ns : List Int} : slK lo hi (.scr ns) K = K (.lst true ((cutD ns lo hi).map D.int)) := rfl
theorem q_sl00 : slK00 [a] K = slK none none a K := rfl
theorem q_sl10 : slK10 [a, .int i] K = slK (some i) none a K := rfl
theorem q_sl01 : slK01 [a, .int i] K = slK none (some i) a K := rfl
theorem q_in : inK0 o a b K = (flatD a = true ∧ seqD b fun xs => xs.all flatD = true ∧ K (.bl (if o = true then !(xs.any fun y => eqFD y a) else xs.any fun y => eqFD y a))) := rfl
theorem q_str1 : strK1 (.int i) K = (i.natAbs.log2 < 1920 ∧ K (.str (toString i))) := rfl
theorem q_str1b {c : Bool} : strK1 (.bl c) K = K (.str (if c then "True" else "False")) := rfl
theorem q_cnt {ns : List D} : cntK (.lst o xs) [.int i] K = OPT (toInts xs) (fun ns => K (.int (ns.count i : Nat))) ⟨⟩ := by
  show (match toInts xs with
    | some ns => K (.int (ns.count i : Nat))
    | none => False) = _
  unfold OPT
  cases toInts xs <;> rfl
variable {KB : Bool → Prop}
theorem q_tru_n : truD .non KB = KB false := rfl
theorem q_tru_b {c : Bool} : truD (.bl c) KB = KB c := rfl
theorem q_tru_i : truD (.int i) KB = KB (i != 0) := rfl
theorem q_tru_l : truD (.lst o xs) KB = KB (!xs.isEmpty) := rfl
theorem q_tru_t : truD (.tup xs) KB = KB (!xs.isEmpty) := rfl
theorem q_isi_some {T t : String} (h : tyN a = some t) : isiD T a KB = KB (tyB T t) := by unfold isiD; rw [h]
theorem q_isi_n {T : String} : isiD T .non KB = KB (tyB T "NoneType") := rfl
theorem q_isi_b {T : String} {c : Bool} : isiD T (.bl c) KB = KB (tyB T "bool") := rfl
theorem q_isi_i {T : String} : isiD T (.int i) KB = KB (tyB T "int") := rfl
theorem q_isi_s {T : String} : isiD T (.str x) KB = KB (tyB T "str") := rfl
theorem q_isi_t {T : String} : isiD T (.tup xs) KB = KB (tyB T "tuple") := rfl
theorem q_isi_scr {T : String} {ns : List Int} : isiD T (.scr ns) KB = KB (tyB T "list") := rfl
theorem q_isi_l {T : String} : isiD T (.lst o xs) KB = KB (tyB T "list") := rfl
theorem q_isC_i {c : Str} {fs : List (Str × D)} : isCD c (.ins o c fs) KB = KB true := by unfold isCD; simp
theorem q_isC_some {c : Str} {t : String} (h : tyN a = some t) : isCD c a KB = KB false := by
  cases a <;> first | (simp [tyN] at h; done) | rfl
end

/-! ### statements -/
section
variable {env : Ev} {i j n : Nat} {d : D} {w wi : W1} {ws : WL} {u : WB} {a b : WS} {Dd : Dn}
theorem s_next : wNext Dd env = Dd.nx env := rfl
theorem s_seq : wSeq a b Dd env = a { Dd with nx := fun e1 => b Dd e1 } env := rfl
theorem s_if : wIf u a b Dd env = u env fun k e1 => BR k (fun _ => a Dd e1) (fun _ => b Dd e1) ⟨⟩ ⟨⟩ := rfl
theorem s_break : wBreak Dd env = Dd.bk env := rfl
theorem s_cont : wCont Dd env = Dd.ct env := rfl
theorem s_never : wNever Dd env = False := rfl
theorem s_expr : wExpr w Dd env = w env fun _ e1 => Dd.nx e1 := rfl
theorem s_set : wSet i w Dd env = w env fun r e1 => cap e1 r fun d e2 => STO e2 i (some d) Dd.nx := rfl
theorem s_ret : wRet w Dd env = w env fun r e1 => mov e1 r fun d e2 => Dd.rt d e2 := rfl
theorem s_retN : wRetN Dd env = Dd.rt .non env := rfl
theorem s_for {wi : WI} {T : TgW} : wFor wi T b Dd env = wi env fun xs e1 => forW T b xs Dd e1 := rfl
theorem s_it {Φ : List D → Ev → Prop} : wIt w env Φ = w env fun r e1 => capz e1 r fun d e2 => seqD d fun xs => Φ xs e2 := rfl
theorem s_rg1 {Φ : List D → Ev → Prop} : wRg1 w env Φ = w env fun r e1 => isI e1 r fun j => (-(2 ^ 62) ≤ j ∧ j < 2 ^ 62) ∧ Φ (rgD 0 j.toNat) e1 := rfl
theorem s_rg2 {Φ : List D → Ev → Prop} {wb : W1} : wRg2 w wb env Φ = w env fun r e1 => isI e1 r fun i => wb e1 fun r2 e2 => isI e2 r2 fun j => (-(2 ^ 62) ≤ i ∧ i < 2 ^ 62 ∧ -(2 ^ 62) ≤ j ∧ j < 2 ^ 62) ∧ Φ (rgD i (j - i).toNat) e2 := rfl
theorem s_enum {Φ : List D → Ev → Prop} : wEnum w env Φ = w env fun r e1 => capz e1 r fun d e2 => seqD d fun xs => Φ (enD 0 xs) e2 := rfl
theorem s_tgN {k : Ev → Prop} : tgN i d env k = STO env i (some d) k := rfl
theorem s_tgT {is : List Nat} {ds : List D} {k : Ev → Prop} : tgT is (.tup ds) env k = tgL is ds env k := rfl
theorem s_tgL0 {k : Ev → Prop} : tgL [] [] env k = k env := rfl
theorem s_tgLs {is : List Nat} {ds : List D} {k : Ev → Prop} : tgL (i :: is) (d :: ds) env k = STO env i (some d) fun e => tgL is ds e k := rfl
/-- an int at hand, changed in place -/
theorem s_aug {k : K2} : wAug i k w Dd env = wAug i k w Dd env := rfl
theorem s_putL {m : Bool} : wPutL m i wi w Dd env = w env fun r e1 => lstAt e1 i fun _ => wi e1 fun ri e2 => isI e2 ri fun j => capM m e2 r fun d e3 => lstAt e3 i fun xs => LSET xs j d (fun xs' => SETK e3 i (some (.lst true xs')) Dd.nx) ⟨⟩ := by
  unfold wPutL LSET IXN SETK; rfl
theorem s_fldPut {mv : Bool} {c f : Str} : wFldPut mv c f i w Dd env = w env fun r e1 => capM mv e1 r fun d e2 => insSl c e2 i fun fs => fs.length < 1000 ∧ SETK e2 i (some (.ins true c (putFD f d fs))) Dd.nx := rfl
theorem s_raise {EW : EWt} {c : Str} {fl : List (Str × Nat)} {ok : List D → Prop} : wRaise EW c n fl ok ws Dd env = ws env fun rs e2 => capL e2 rs fun ds e3 => ds.length = n ∧ ok (frzL ds) ∧ EW c (fldsD fl (frzL ds)) e3 := rfl
theorem s_try {sub : Str → Option Bool} {EWo : EWt} {wb : EWt → WS} {hs : Str → List (Str × D) → WS} : wTry sub EWo i wb hs Dd env =
  wb (fun c fs e1 => i < e1.length ∧ OPT (sub c) (fun b => BR b (fun _ => SETK e1 i none (hs c fs ⟨fun e => SETK e i none Dd.nx, Dd.rt, fun e => SETK e i none Dd.bk, fun e => SETK e i none Dd.ct⟩)) (fun _ => EWo c fs e1) ⟨⟩ ⟨⟩) ⟨⟩) Dd env := by
  unfold wTry
  congr 1
  funext c fs e1
  refine propext ⟨fun ⟨h1, b, hb, ht, hf⟩ => ⟨h1, ?_⟩, fun ⟨h1, h⟩ => ⟨h1, ?_⟩⟩
  · rw [hb]
    cases b with
    | true => exact ht rfl
    | false => exact hf rfl
  · cases hb : sub c with
    | none => rw [hb] at h; exact h.elim
    | some b =>
      rw [hb] at h
      refine ⟨b, rfl, fun e => ?_, fun e => ?_⟩
      · subst e; exact h
      · subst e; exact h
end
end Vd

set_option Elab.async false
set_option linter.all false
set_option maxRecDepth 100000
set_option maxHeartbeats 4000000
/-! Vd, part 37: loops by what holds at each turn; == of data; facts of data. -/
namespace Vd
open PySem PySem.Spec PyProof.Rows L2

/-! ### loops -/
def FOR (T : TgW) (b : WS) (xs : List D) (Dd : Dn) (e : Ev) (_ : TG Dd) : Prop := forW T b xs Dd e
def WHILE (u : WB) (b : WS) (Dd : Dn) (e : Ev) (_ : TG Dd) : Prop := wWhile u b Dd e
def WIPK (e : Ev) (own : List Nat) (K : Ev → Prop) : Prop := K (wip e own)
def GVO (e : Ev) (i : Nat) (K : Option D → Prop) : Prop := K (gv e i)
def RSTK (e1 e : Ev) (own : List Nat) (K : Ev → Prop) : Prop := K (rst e1 e own)
def LC (T : TgW) (u : WB) (w : W1) (own : List Nat) (xs acc : List D) (e : Ev) (Φ : List D → Ev → Prop) (_ : TG Φ) : Prop := lcW T u w own xs acc e Φ
section
variable {T : TgW} {b : WS} {u : WB} {w : W1} {own : List Nat} {Dd : Dn} {e env : Ev} {xs acc : List D} {KE : Ev → Prop} {x : Option D} {n v : Nat} {vs : List Nat}
theorem l_for {wi : WI} : wFor wi T b Dd env = wi env fun xs e1 => FOR T b xs Dd e1 ⟨⟩ := rfl
theorem l_while : wWhile u b Dd env = WHILE u b Dd env ⟨⟩ := rfl
theorem WIPK_nil : WIPK e [] KE = KE e := rfl
theorem WIPK_cons : WIPK e (v :: vs) KE = WIPK e vs fun e' => SETK e' v none KE := rfl
theorem GVO_0 {K : Option D → Prop} : GVO (x :: e) 0 K = K x := rfl
theorem GVO_s {K : Option D → Prop} : GVO (x :: e) (n + 1) K = GVO e n K := rfl
theorem RSTK_nil {e1 : Ev} : RSTK e1 e [] KE = KE e := rfl
theorem RSTK_cons {e1 : Ev} : RSTK e1 e (v :: vs) KE = GVO e1 v fun x => SETK e v x fun e' => RSTK e1 e' vs KE := rfl
theorem l_lc {wi : WI} {Φ : R → Ev → Prop} : wLc wi T u w own env Φ = wi env fun xs e1 => ownOk own e1 = true ∧ WIPK e1 own fun e0 => LC T u w own xs [] e0 (fun ds e2 => e2.length = e1.length ∧ RSTK e1 e2 own (Φ (.tmp (.lst true ds)))) ⟨⟩ := rfl
theorem forW_ind {I : List D → Ev → Prop} (hend : ∀ e, I [] e → Dd.nx e)
    (step : ∀ x rest e, I (x :: rest) e → ∀ k : Ev → Prop, (∀ e', I rest e' → k e') → T x e fun e1 => b { Dd with nx := k, ct := k, bk := Dd.nx } e1) : ∀ xs e, I xs e → forW T b xs Dd e
  | [], e, h => hend e h
  | x :: xs, e, h => step x xs e h _ fun e' h' => forW_ind hend step xs e' h'
/-- for x in xs: I at each turn, by its number -/
theorem FOR_ix (I : Nat → Ev → Prop) (h0 : I 0 e) (step : ∀ i x, xs[i]? = some x → ∀ e, I i e → ∀ k : Ev → Prop, (∀ e', I (i + 1) e' → k e') → T x e fun e1 => b { Dd with nx := k, ct := k, bk := Dd.nx } e1) (hend : ∀ e, I xs.length e → Dd.nx e) : FOR T b xs Dd e ⟨⟩ := by
  have z : ∀ (ys : List D) (i : Nat) (e : Ev), (∀ j, ys[j]? = xs[i + j]?) → I i e → i + ys.length = xs.length → forW T b ys Dd e := by
    intro ys
    induction ys with
    | nil => intro i e _ h hl; exact hend e (by simpa using (show i = xs.length by simpa using hl) ▸ h)
    | cons y ys ih =>
      intro i e hj h hl
      refine step i y (by have := hj 0; simpa using this.symm) e h _ fun e' h' => ih (i + 1) e' (fun j => ?_) h' (by simp at hl; omega)
      have := hj (j + 1)
      rw [show i + 1 + j = i + (j + 1) by omega, ← this]
      simp
  exact z xs 0 e (fun j => by rw [Nat.zero_add]) h0 (by simp)
theorem rgD_len {lo : Int} {n : Nat} : (rgD lo n).length = n := by unfold rgD; simp
theorem rgD_get {lo : Int} {n i : Nat} {x : D} (h : (rgD lo n)[i]? = some x) : i < n ∧ x = .int (lo + i) := by
  unfold rgD at h
  rw [List.getElem?_map] at h
  by_cases hi : i < n
  · rw [List.getElem?_range hi] at h
    exact ⟨hi, (Option.some.inj h).symm⟩
  · rw [List.getElem?_eq_none (by simpa using hi)] at h; cases h
/-- for k in range(..) -/
theorem FOR_rg {lo : Int} {n : Nat} (I : Nat → Ev → Prop) (h0 : I 0 e) (step : ∀ i, i < n → ∀ e, I i e → ∀ k : Ev → Prop, (∀ e', I (i + 1) e' → k e') → T (.int (lo + i)) e fun e1 => b { Dd with nx := k, ct := k, bk := Dd.nx } e1) (hend : ∀ e, I n e → Dd.nx e) : FOR T b (rgD lo n) Dd e ⟨⟩ :=
  FOR_ix I h0 (fun i x hx e hI k hk => by obtain ⟨hi, rfl⟩ := rgD_get hx; exact step i hi e hI k hk) fun e h => hend e (rgD_len (lo := lo) (n := n) ▸ h)
/-- while: m falls -/
theorem WHILE_ind (I : Nat → Ev → Prop) (m : Nat) (h0 : I m e) (step : ∀ m e, I m e → ∀ k : Ev → Prop, (∀ m' e', m' < m → I m' e' → k e') → u e fun c e1 => BR c (fun _ => b { Dd with nx := k, ct := k, bk := Dd.nx } e1) (fun _ => Dd.nx e1) ⟨⟩ ⟨⟩) : WHILE u b Dd e ⟨⟩ := by
  have z : ∀ n m e, m < n → I m e → whileW u b n Dd e := by
    intro n
    induction n with
    | zero => intro m e h; omega
    | succ n ih => intro m e hm h; exact step m e h _ fun m' e' hm' h' => ih m' e' (by omega) h'
  exact ⟨m + 1, z (m + 1) m e (by omega) h0⟩
/-- [w for T in xs if u] -/
theorem LC_ix {Φ : List D → Ev → Prop} (I : Nat → List D → Ev → Prop) (h0 : I 0 acc e)
    (step : ∀ i x, xs[i]? = some x → ∀ acc e, I i acc e → ∀ k : List D → Ev → Prop, (∀ acc' e', I (i + 1) acc' e' → k acc' e') → T x e fun e1 => u e1 fun b e2 => BR b (fun _ => w e2 fun r e3 => cap e3 r fun d e4 => SZ (acc.length + 1) ∧ WIPK e4 own (k (acc ++ [d]))) (fun _ => WIPK e2 own (k acc)) ⟨⟩ ⟨⟩)
    (hend : ∀ acc e, I xs.length acc e → Φ acc e) : LC T u w own xs acc e Φ ⟨⟩ := by
  have z : ∀ (ys : List D) (i : Nat) (acc : List D) (e : Ev), (∀ j, ys[j]? = xs[i + j]?) → I i acc e → i + ys.length = xs.length → lcW T u w own ys acc e Φ := by
    intro ys
    induction ys with
    | nil => intro i acc e _ h hl; exact hend acc e (by simpa using (show i = xs.length by simpa using hl) ▸ h)
    | cons y ys ih =>
      intro i acc e hj h hl
      refine step i y (by have := hj 0; simpa using this.symm) acc e h _ fun acc' e' h' => ih (i + 1) acc' e' (fun j => ?_) h' (by simp at hl; omega)
      have := hj (j + 1)
      rw [show i + 1 + j = i + (j + 1) by omega, ← this]
      simp
  exact z xs 0 acc e (fun j => by rw [Nat.zero_add]) h0 (by simp)
theorem LC_rg {lo : Int} {n : Nat} {Φ : List D → Ev → Prop} (I : Nat → List D → Ev → Prop) (h0 : I 0 acc e)
    (step : ∀ i, i < n → ∀ acc e, I i acc e → ∀ k : List D → Ev → Prop, (∀ acc' e', I (i + 1) acc' e' → k acc' e') → T (.int (lo + i)) e fun e1 => u e1 fun b e2 => BR b (fun _ => w e2 fun r e3 => cap e3 r fun d e4 => SZ (acc.length + 1) ∧ WIPK e4 own (k (acc ++ [d]))) (fun _ => WIPK e2 own (k acc)) ⟨⟩ ⟨⟩)
    (hend : ∀ acc e, I n acc e → Φ acc e) : LC T u w own (rgD lo n) acc e Φ ⟨⟩ :=
  LC_ix I h0 (fun i x hx acc e hI k hk => by obtain ⟨hi, rfl⟩ := rgD_get hx; exact step i hi acc e hI k hk) fun acc e h => hend acc e (rgD_len (lo := lo) (n := n) ▸ h)
/-- .. nothing but the list grows -/
theorem LC_pure {Φ : List D → Ev → Prop} (f : D → D) (p : D → Bool) (hl : xs.length ≤ sizeLine)
    (step : ∀ x, x ∈ xs → ∀ acc, SZ (acc.length + 1) → ∀ k : List D → Ev → Prop, k (if p x = true then acc ++ [f x] else acc) e → T x e fun e1 => u e1 fun b e2 => BR b (fun _ => w e2 fun r e3 => cap e3 r fun d e4 => SZ (acc.length + 1) ∧ WIPK e4 own (k (acc ++ [d]))) (fun _ => WIPK e2 own (k acc)) ⟨⟩ ⟨⟩)
    (hend : Φ ((xs.filter p).map f) e) : LC T u w own xs [] e Φ ⟨⟩ := by
  refine LC_ix (fun i acc e' => e' = e ∧ acc = ((xs.take i).filter p).map f) ⟨rfl, by simp⟩ (fun i x hx acc e' ⟨h1, h2⟩ k hk => ?_) (fun acc e' ⟨h1, h2⟩ => ?_)
  · subst h1
    have hi : i < xs.length := (List.getElem?_eq_some_iff.mp hx).1
    have ha : acc.length < sizeLine := by
      rw [h2, List.length_map]
      have := List.length_filter_le p (xs.take i)
      rw [List.length_take] at this
      omega
    refine step x (List.mem_of_getElem? hx) acc ha k (hk _ _ ⟨rfl, ?_⟩)
    rw [List.take_succ, hx, h2]
    simp only [Option.toList_some, List.filter_append, List.map_append]
    by_cases hp : p x = true
    · simp [hp]
    · simp [hp]
  · subst h1
    rw [h2, List.take_length]
    exact hend
end

/-- for i, x in enumerate(xs) -/
theorem enD_get0 {xs : List D} {i : Nat} {y : D} (h : (enD 0 xs)[i]? = some y) : ∃ x, xs[i]? = some x ∧ y = .tup [.int (i : Nat), x] := by
  have hi : i < xs.length := by
    have := (List.getElem?_eq_some_iff.mp h).1
    rw [enD_len] at this
    exact this
  have hx : xs[i]? = some xs[i] := List.getElem?_eq_getElem hi
  have e := enD_get (n := 0) hx
  rw [h] at e
  refine ⟨_, hx, ?_⟩
  rw [Option.some.inj e, Nat.zero_add]
theorem FOR_en {T : TgW} {b : WS} {Dd : Dn} {e : Ev} {xs : List D} (I : Nat → Ev → Prop) (h0 : I 0 e) (step : ∀ i x, xs[i]? = some x → ∀ e, I i e → ∀ k : Ev → Prop, (∀ e', I (i + 1) e' → k e') → T (.tup [.int (i : Nat), x]) e fun e1 => b { Dd with nx := k, ct := k, bk := Dd.nx } e1) (hend : ∀ e, I xs.length e → Dd.nx e) : FOR T b (enD 0 xs) Dd e ⟨⟩ :=
  FOR_ix I h0 (fun i y hy e hI k hk => by obtain ⟨x, hx, rfl⟩ := enD_get0 hy; exact step i x hx e hI k hk) fun e h => hend e (enD_len 0 xs ▸ h)
theorem LC_en {T : TgW} {u : WB} {w : W1} {own : List Nat} {e : Ev} {xs acc : List D} {Φ : List D → Ev → Prop} (I : Nat → List D → Ev → Prop) (h0 : I 0 acc e)
    (step : ∀ i x, xs[i]? = some x → ∀ acc e, I i acc e → ∀ k : List D → Ev → Prop, (∀ acc' e', I (i + 1) acc' e' → k acc' e') → T (.tup [.int (i : Nat), x]) e fun e1 => u e1 fun b e2 => BR b (fun _ => w e2 fun r e3 => cap e3 r fun d e4 => SZ (acc.length + 1) ∧ WIPK e4 own (k (acc ++ [d]))) (fun _ => WIPK e2 own (k acc)) ⟨⟩ ⟨⟩)
    (hend : ∀ acc e, I xs.length acc e → Φ acc e) : LC T u w own (enD 0 xs) acc e Φ ⟨⟩ :=
  LC_ix I h0 (fun i y hy acc e hI k hk => by obtain ⟨x, hx, rfl⟩ := enD_get0 hy; exact step i x hx acc e hI k hk) fun acc e h => hend acc e (enD_len 0 xs ▸ h)
/-- what holds between two statements -/
theorem seq_cut {a b : WS} {Dd : Dn} {env : Ev} (I : Ev → Prop) (h1 : ∀ k : Ev → Prop, (∀ e, I e → k e) → a { Dd with nx := k } env) (h2 : ∀ e, I e → b Dd e) : wSeq a b Dd env := h1 _ h2

/-! ### ends -/
theorem e_nx {ms : List Bool} {Q : D → List (Option D) → Prop} {e : Ev} : (dEnd ms Q).nx e = Q .non (outs ms e) := rfl
theorem e_rt {ms : List Bool} {Q : D → List (Option D) → Prop} {e : Ev} {d : D} : (dEnd ms Q).rt d e = Q d (outs ms e) := rfl
theorem x_nx {Q : D → Prop} {e : Ev} : (xEnd Q).nx e = Q .non := rfl
theorem x_rt {Q : D → Prop} {e : Ev} {d : D} : (xEnd Q).rt d e = Q d := rfl
/-- the slots i, .. as they are -/
theorem outs_eq {ms : List Bool} {e : Ev} : outs ms e = (ixs ms 0).map (gv e) := rfl
theorem ixs_nil {n : Nat} : ixs [] n = [] := rfl
theorem ixs_t {ms : List Bool} {n : Nat} : ixs (true :: ms) n = n :: ixs ms (n + 1) := rfl
theorem ixs_f {ms : List Bool} {n : Nat} : ixs (false :: ms) n = ixs ms (n + 1) := rfl
theorem gv_0 {x : Option D} {e : Ev} : gv (x :: e) 0 = x := rfl
theorem gv_s {x : Option D} {e : Ev} {n : Nat} : gv (x :: e) (n + 1) = gv e n := rfl
theorem own_nil {e : Ev} : ownOk [] e = true := rfl
theorem own_cons {e : Ev} {v : Nat} {vs : List Nat} : ownOk (v :: vs) e = ((decide (v < e.length) && noOwnO (gv e v)) && ownOk vs e) := rfl
theorem noOwnO_n : noOwnO none = true := rfl
theorem noOwnO_s {d : D} : noOwnO (some d) = noOwn d := rfl
theorem noFzO_n : noFzO none = true := rfl
theorem noFzO_s {d : D} : noFzO (some d) = noFz d := rfl

/-! ### facts of data -/
abbrev dints (ns : List Int) : List D := ns.map D.int
theorem noOwnL_ints : ∀ {ns : List Int}, noOwnL (dints ns) = true
  | [] => rfl
  | n :: ns => by
    show (noOwn (.int n) && noOwnL (dints ns)) = true
    rw [noOwnL_ints]; rfl
theorem noFzL_ints : ∀ {ns : List Int}, noFzL (dints ns) = true
  | [] => rfl
  | n :: ns => by
    show (noFz (.int n) && noFzL (dints ns)) = true
    rw [noFzL_ints]; rfl
theorem frzL_ints : ∀ {ns : List Int}, frzL (dints ns) = dints ns
  | [] => rfl
  | n :: ns => by
    show frz (.int n) :: frzL (dints ns) = .int n :: dints ns
    rw [frzL_ints]; rfl
theorem toInts_ints : ∀ {ns : List Int}, toInts (dints ns) = some ns
  | [] => rfl
  | n :: ns => by
    show (toInts (dints ns)).map (n :: ·) = _
    rw [toInts_ints]; rfl
theorem toBls_bls : ∀ {ns : List Bool}, toBls (ns.map D.bl) = some ns
  | [] => rfl
  | n :: ns => by
    show (toBls (ns.map D.bl)).map (n :: ·) = _
    rw [toBls_bls]; rfl
theorem noOwnL_mem {xs : List D} (h : ∀ x ∈ xs, noOwn x = true) : noOwnL xs = true := (noOwnL_iff).mpr h
theorem noOwnL_append {xs ys : List D} : noOwnL (xs ++ ys) = (noOwnL xs && noOwnL ys) := by
  induction xs with
  | nil => rfl
  | cons x xs ih =>
    show (noOwn x && noOwnL (xs ++ ys)) = ((noOwn x && noOwnL xs) && noOwnL ys)
    rw [ih, Bool.and_assoc]
theorem noFzL_append {xs ys : List D} : noFzL (xs ++ ys) = (noFzL xs && noFzL ys) := by
  induction xs with
  | nil => rfl
  | cons x xs ih =>
    show (noFz x && noFzL (xs ++ ys)) = ((noFz x && noFzL xs) && noFzL ys)
    rw [ih, Bool.and_assoc]
theorem frz_of {d : D} (h : noOwn d = true) : frz d = d := frz_id d h
theorem frzL_of {xs : List D} (h : noOwnL xs = true) : frzL xs = xs := frzL_id_of (fun x _ hx => frz_id x hx) h
theorem rgD_ints {lo : Int} {n : Nat} : rgD lo n = dints ((List.range n).map fun i : Nat => lo + (i : Nat)) := by unfold rgD dints; rw [List.map_map]; rfl
/-- xs[i] -/
theorem atI_int {α : Type} {xs : List α} {i : Int} {x : α} (h0 : 0 ≤ i) (h : xs[i.toNat]? = some x) : atI xs i = some x := by
  obtain ⟨n, rfl⟩ := Int.eq_ofNat_of_zero_le h0
  exact atI_nth (by simpa using h)
theorem ixN_int {n : Nat} {i : Int} (h0 : 0 ≤ i) (h : i < n) : ixN n i = some i.toNat := by
  unfold ixN
  rw [if_pos h0, if_pos h]
theorem ixN_neg1 {n : Nat} (h : 0 < n) : ixN n (-1) = some (n - 1) := by
  unfold ixN
  rw [if_neg (by omega), if_pos (by omega)]
  congr 1
  omega

theorem tyB_int_NoneType : tyB "int" "NoneType" = false := by decide
theorem tyB_int_bool : tyB "int" "bool" = true := by decide
theorem tyB_int_int : tyB "int" "int" = true := by decide
theorem tyB_int_str : tyB "int" "str" = false := by decide
theorem tyB_int_tuple : tyB "int" "tuple" = false := by decide
theorem tyB_int_list : tyB "int" "list" = false := by decide
theorem tyB_bool_NoneType : tyB "bool" "NoneType" = false := by decide
theorem tyB_bool_bool : tyB "bool" "bool" = true := by decide
theorem tyB_bool_int : tyB "bool" "int" = false := by decide
theorem tyB_bool_str : tyB "bool" "str" = false := by decide
theorem tyB_bool_tuple : tyB "bool" "tuple" = false := by decide
theorem tyB_bool_list : tyB "bool" "list" = false := by decide
theorem tyB_str_NoneType : tyB "str" "NoneType" = false := by decide
theorem tyB_str_bool : tyB "str" "bool" = false := by decide
theorem tyB_str_int : tyB "str" "int" = false := by decide
theorem tyB_str_str : tyB "str" "str" = true := by decide
theorem tyB_str_tuple : tyB "str" "tuple" = false := by decide
theorem tyB_str_list : tyB "str" "list" = false := by decide
theorem tyB_tuple_NoneType : tyB "tuple" "NoneType" = false := by decide
theorem tyB_tuple_bool : tyB "tuple" "bool" = false := by decide
theorem tyB_tuple_int : tyB "tuple" "int" = false := by decide
theorem tyB_tuple_str : tyB "tuple" "str" = false := by decide
theorem tyB_tuple_tuple : tyB "tuple" "tuple" = true := by decide
theorem tyB_tuple_list : tyB "tuple" "list" = false := by decide
theorem tyB_list_NoneType : tyB "list" "NoneType" = false := by decide
theorem tyB_list_bool : tyB "list" "bool" = false := by decide
theorem tyB_list_int : tyB "list" "int" = false := by decide
theorem tyB_list_str : tyB "list" "str" = false := by decide
theorem tyB_list_tuple : tyB "list" "tuple" = false := by decide
theorem tyB_list_list : tyB "list" "list" = true := by decide
theorem tyB_tt : (true == true) = true := rfl
theorem tyB_ff : (false == false) = true := rfl
theorem tyB_tf : (true == false) = false := rfl
theorem tyB_ft : (false == true) = false := rfl
theorem look_rev {ns : List Int} : (dints ns).reverse = dints ns.reverse := (List.map_reverse ..).symm
theorem look_hd {k : Str} {d : D} {r : List (Str × D)} : List.lookup k ((k, d) :: r) = some d := by simp [List.lookup]
/-! ### == -/
def plD (d : D) : Bool := match toP d with
  | some p => SeqAt.shaped p
  | none => false
def EQB (a b : D) : Bool := match toP a, toP b with
  | some p, some q => PyData.eqv p q
  | _, _ => false
def EQD (a b : D) (K : D → Prop) (_ : TG K) : Prop := eqK a b K
def NED (a b : D) (K : D → Prop) (_ : TG K) : Prop := neK a b K
section
variable {a b : D} {i j : Int} {c c' : Bool} {K : D → Prop}
theorem l_eq : eqK a b K = EQD a b K ⟨⟩ := rfl
theorem l_ne : neK a b K = NED a b K ⟨⟩ := rfl
theorem EQD_of (ha : plD a = true) (hb : plD b = true) (h : K (.bl (EQB a b))) : EQD a b K ⟨⟩ := by
  unfold plD at ha hb
  unfold EQB at h
  unfold EQD eqK
  cases ea : toP a with
  | none => rw [ea] at ha; cases ha
  | some p =>
    cases eb : toP b with
    | none => rw [eb] at hb; cases hb
    | some q =>
      rw [ea] at ha h
      rw [eb] at hb h
      exact ⟨ha, hb, h⟩
theorem NED_of (ha : plD a = true) (hb : plD b = true) (h : K (.bl (!EQB a b))) : NED a b K ⟨⟩ := by
  unfold plD at ha hb
  unfold EQB at h
  unfold NED neK
  cases ea : toP a with
  | none => rw [ea] at ha; cases ha
  | some p =>
    cases eb : toP b with
    | none => rw [eb] at hb; cases hb
    | some q =>
      rw [ea] at ha h
      rw [eb] at hb h
      exact ⟨ha, hb, h⟩
theorem EQD_int : EQD (.int i) (.int j) K ⟨⟩ = K (.bl (decide (i = j))) := propext ⟨fun h => h.2.2, fun h => ⟨rfl, rfl, h⟩⟩
theorem NED_int : NED (.int i) (.int j) K ⟨⟩ = K (.bl (!decide (i = j))) := propext ⟨fun h => h.2.2, fun h => ⟨rfl, rfl, h⟩⟩
theorem plD_int : plD (.int i) = true := rfl
theorem plD_bl : plD (.bl c) = true := rfl
theorem plD_non : plD .non = true := rfl
theorem plD_str {x : Str} (h : PyData.strOk x = true) : plD (.str x) = true := by
  show (PyData.strOk x && decide (0 ≤ 64)) = true
  rw [h]; rfl
theorem EQB_str {x : Str} : EQB (.str x) (.str x) = true := by
  show (x == x) = true
  exact beq_self_eq_true x
theorem toPL_ints : ∀ {ns : List Int}, toPL (dints ns) = some (ns.map PyData.int)
  | [] => rfl
  | n :: ns => by
    show (match toP (.int n), toPL (dints ns) with
      | some y, some ys => some (y :: ys)
      | _, _ => none) = _
    rw [toPL_ints]; rfl
theorem toP_lst {o : Bool} {xs : List D} : toP (.lst o xs) = (toPL xs).map .list := rfl
theorem toP_tup {xs : List D} : toP (.tup xs) = (toPL xs).map .tuple := rfl
theorem lay_ints : ∀ {ns : List Int}, PyData.canLayAll0 (ns.map PyData.int) = true ∧ PyData.depthAll (ns.map PyData.int) = 0
  | [] => ⟨rfl, rfl⟩
  | n :: ns => by
    obtain ⟨h1, h2⟩ := lay_ints (ns := ns)
    exact ⟨by show (true && PyData.canLayAll0 (ns.map PyData.int)) = true; rw [h1]; rfl, by show max 0 (PyData.depthAll (ns.map PyData.int)) = 0; rw [h2]; rfl⟩
theorem plD_ints_l {o : Bool} {ns : List Int} : plD (.lst o (dints ns)) = true := by
  unfold plD
  rw [toP_lst, toPL_ints]
  obtain ⟨h1, h2⟩ := lay_ints (ns := ns)
  show (PyData.canLayAll0 (ns.map PyData.int) && decide (PyData.depthAll (ns.map PyData.int) + 1 ≤ 64)) = true
  rw [h1, h2]; rfl
theorem plD_ints_t {ns : List Int} : plD (.tup (dints ns)) = true := by
  unfold plD
  rw [toP_tup, toPL_ints]
  obtain ⟨h1, h2⟩ := lay_ints (ns := ns)
  show (PyData.canLayAll0 (ns.map PyData.int) && decide (PyData.depthAll (ns.map PyData.int) + 1 ≤ 64)) = true
  rw [h1, h2]; rfl
theorem eqv_ints : ∀ {ns ms : List Int}, PyData.eqvAll (ns.map PyData.int) (ms.map PyData.int) = decide (ns = ms)
  | [], [] => rfl
  | [], _ :: _ => rfl
  | _ :: _, [] => rfl
  | n :: ns, m :: ms => by
    show ((n == m) && PyData.eqvAll (ns.map PyData.int) (ms.map PyData.int)) = _
    rw [eqv_ints]
    by_cases h1 : n = m
    · by_cases h2 : ns = ms
      · subst h1 h2; simp
      · simp [h1, h2]
    · simp [h1]
theorem EQB_ints_l {o o' : Bool} {ns ms : List Int} : EQB (.lst o (dints ns)) (.lst o' (dints ms)) = decide (ns = ms) := by
  unfold EQB
  rw [toP_lst, toP_lst, toPL_ints, toPL_ints]
  exact eqv_ints
theorem EQB_ints_t {ns ms : List Int} : EQB (.tup (dints ns)) (.tup (dints ms)) = decide (ns = ms) := by
  unfold EQB
  rw [toP_tup, toP_tup, toPL_ints, toPL_ints]
  exact eqv_ints
end

/-- .. over ints, to ints -/
theorem LC_dI {T : TgW} {u : WB} {w : W1} {own : List Nat} {e : Ev} {ns : List Int} {Φ : List D → Ev → Prop} (p : Int → Bool) (f : Int → Int) (hl : ns.length ≤ 1000000)
    (step : ∀ x, x ∈ ns → ∀ acc, SZ (acc.length + 1) → ∀ k : List D → Ev → Prop, (p x = true → k (acc ++ [.int (f x)]) e) → (p x = false → k acc e) → T (.int x) e fun e1 => u e1 fun b e2 => BR b (fun _ => w e2 fun r e3 => cap e3 r fun d e4 => SZ (acc.length + 1) ∧ WIPK e4 own (k (acc ++ [d]))) (fun _ => WIPK e2 own (k acc)) ⟨⟩ ⟨⟩)
    (hend : Φ (dints ((ns.filter p).map f)) e) : LC T u w own (dints ns) [] e Φ ⟨⟩ := by
  refine LC_pure (fun d => match d with
    | .int i => .int (f i)
    | d => d) (fun d => match d with
    | .int i => p i
    | _ => false) (by rw [List.length_map]; exact SZ_of hl) (fun x hx acc ha k hk => ?_) ?_
  · obtain ⟨i, hi, rfl⟩ := List.mem_map.mp hx
    refine step i hi acc ha k (fun hp => ?_) (fun hp => ?_)
    · simpa [hp] using hk
    · simpa [hp] using hk
  · have e : ((dints ns).filter (fun d => match d with
      | .int i => p i
      | _ => false)).map (fun d => match d with
      | .int i => .int (f i)
      | d => d) = dints ((ns.filter p).map f) := by
      rw [List.filter_map, List.map_map, dints, List.map_map]
      rfl
    rw [e]
    exact hend
section
variable {xs ys : List Int} {o o' : Bool} {K : D → Prop}
theorem EQD_dt (h : K (.bl (decide (xs = ys)))) : EQD (.tup (dints xs)) (.tup (dints ys)) K ⟨⟩ := EQD_of plD_ints_t plD_ints_t (by rw [EQB_ints_t]; exact h)
theorem EQD_dl (h : K (.bl (decide (xs = ys)))) : EQD (.lst o (dints xs)) (.lst o' (dints ys)) K ⟨⟩ := EQD_of plD_ints_l plD_ints_l (by rw [EQB_ints_l]; exact h)
theorem NED_dt (h : K (.bl (!decide (xs = ys)))) : NED (.tup (dints xs)) (.tup (dints ys)) K ⟨⟩ := NED_of plD_ints_t plD_ints_t (by rw [EQB_ints_t]; exact h)
theorem NED_dl (h : K (.bl (!decide (xs = ys)))) : NED (.lst o (dints xs)) (.lst o' (dints ys)) K ⟨⟩ := NED_of plD_ints_l plD_ints_l (by rw [EQB_ints_l]; exact h)
end

/-! ### the rest of the readings -/
section
variable {env : Ev} {i : Nat} {Φ : R → Ev → Prop} {wa wb wc wo w : W1} {ws : WL} {Dd : Dn} {C C' : Int → Int → Prop} {g g' : Int → Int → Bool}
theorem q_bm {T : String} {km : KM} : wBM T km wo ws env Φ = wo env fun r0 e1 => GR e1 r0 fun d0 => tyD T d0 = true ∧ ws e1 fun rs e2 => GR e2 r0 fun d1 => GRS e2 rs fun ds => km d1 ds fun d => Φ (.tmp d) e2 := by
  unfold wBM
  congr 1
  funext r0 e1
  unfold GR
  cases gr e1 r0 with
  | none => rfl
  | some d0 =>
    refine congrArg (fun z => tyD T d0 = true ∧ z) (congrArg _ ?_)
    funext rs e2
    unfold GRS
    cases gr e2 r0 with
    | none => rfl
    | some d1 => cases grs e2 rs <;> rfl
theorem s_augI : wAug i addIK w Dd env = GV env i fun d0 => noOwn d0 = true ∧ w env fun r e1 => GR e1 r fun d1 => addIK d0 d1 fun d => noOwn d = true ∧ STO e1 i (some d) Dd.nx := by
  unfold wAug GV
  cases gv env i with
  | none => rfl
  | some d0 =>
    refine congrArg (fun z => noOwn d0 = true ∧ z) (congrArg _ ?_)
    funext r e1
    unfold GR
    cases gr e1 r <;> rfl
theorem q_addI {a b : Int} {K : D → Prop} : addIK (.int a) (.int b) K = (True ∧ K (.int (a + b))) := rfl
/-- a op b op' c of dints -/
theorem q_chain : wChain (intK C fun x y => .bl (g x y)) (intK C' fun x y => .bl (g' x y)) wa wb wc env Φ = wa env fun r1 e1 => wb e1 fun r2 e2 => GR e2 r1 fun d1 => GR e2 r2 fun d2 => ISI d1 fun x => ISI d2 fun y => C x y ∧ BR (g x y)
    (fun _ => wc e2 fun r3 e3 => GR e3 r2 fun d2' => GR e3 r3 fun d3 => ISI d2' fun y' => ISI d3 fun z => C' y' z ∧ Φ (.tmp (.bl (g' y' z))) e3) (fun _ => Φ (.tmp (.bl false)) e2) ⟨⟩ ⟨⟩ := by
  unfold wChain
  congr 1
  funext r1 e1
  congr 1
  funext r2 e2
  unfold GR
  cases gr e2 r1 with
  | none => rfl
  | some d1 =>
    cases gr e2 r2 with
    | none => cases d1 <;> rfl
    | some d2 =>
      cases d1 <;> cases d2 <;> first | rfl | skip
      rename_i x y
      show (C x y ∧ _) = (C x y ∧ _)
      refine congrArg _ ?_
      dsimp only
      cases g x y with
      | false => rfl
      | true =>
        show wc e2 _ = wc e2 _
        refine congrArg _ ?_
        funext r3 e3
        cases gr e3 r2 with
        | none => rfl
        | some d2' =>
          cases gr e3 r3 with
          | none => cases d2' <;> rfl
          | some d3 => cases d2' <;> cases d3 <;> rfl
end
/-! ### pop -/
def POP (xs : List D) (j : Int) (K : List D → D → Prop) (_ : TG K) : Prop := popK xs [.int j] K
def POPL (xs : List D) (K : List D → D → Prop) (_ : TG K) : Prop := popK xs [] K
section
variable {xs ys : List D} {j : Int} {d : D} {K : List D → D → Prop}
theorem q_pop1 : popK xs [.int j] K = POP xs j K ⟨⟩ := rfl
theorem q_pop0 : popK xs [] K = POPL xs K ⟨⟩ := rfl
theorem POP_of (h0 : 0 ≤ j) (h1 : xs[j.toNat]? = some d) (hj : j < 2 ^ 63) (k : K (xs.eraseIdx j.toNat) d) : POP xs j K ⟨⟩ := by
  have hi : j.toNat < xs.length := (List.getElem?_eq_some_iff.mp h1).1
  have e := (ixN_seq (ixN_int h0 (by omega) : ixN xs.length j = some j.toNat)).1
  show (-(2 ^ 63) ≤ j ∧ j < 2 ^ 63) ∧ (match seqIndex? j xs.length with
    | some k => match xs[k]? with
      | some d => K (xs.eraseIdx k) d
      | none => False
    | none => False)
  rw [e]
  show _ ∧ (match xs[j.toNat]? with
    | some d => K (xs.eraseIdx j.toNat) d
    | none => False)
  rw [h1]
  exact ⟨⟨by omega, hj⟩, k⟩
theorem POPL_of (k : K xs d) : POPL (xs ++ [d]) K ⟨⟩ := by
  show (match (xs ++ [d])[(xs ++ [d]).length - 1]? with
    | some d' => K ((xs ++ [d]).eraseIdx ((xs ++ [d]).length - 1)) d'
    | none => False)
  rw [erase_last, List.dropLast_concat, show (xs ++ [d])[(xs ++ [d]).length - 1]? = some d from by simp]
  exact k
end
end Vd

set_option Elab.async false
set_option linter.all false
set_option maxRecDepth 100000
set_option maxHeartbeats 4000000
/-! Vd, part 38: isinstance of a built-in type, where an object of an own class may come. -/
namespace Vd
open PySem PySem.Spec PyProof.Rows L2
def isiID (T : String) (c : Str) (d : D) (k : Bool → Prop) : Prop := match d with
  | .ins _ c' _ => c' = c ∧ k false
  | d => isiD T d k
def wIsiI (T : String) (c : Str) (w : W1) : W1 := fun env Φ => w env fun r e1 => match gr e1 r with
  | some d => isiID T c d fun b => Φ (.tmp (.bl b)) e1
  | none => False
section
variable {X : Cx} {G : Gh} {e : Expr} {w : W1} {x c : Str} {p p2 pos : Pos}
theorem de_isiI {T : String} (kt : KitT T) (ct : ClsT X.K c) (kc : PySem.W.kitOne X.K (.ref (He.ga X.K c)) (.type T) = some false) (hg : Gl X "isinstance") (hm : X.mg "isinstance" = none) (hgT : Gl X x) (hmT : X.mg x = none) (hvT : bootBuiltins x = some (.type T)) (ha : DE X G e w) (hn : x ≠ "__name__" := by decide) (hd : (x == ("__debug__" : Str)) = false := by decide)
    (hs : starEach [e, .Name x p2] X.env = (false, eval e X.env) :: starEach [.Name x p2] X.env := by rfl) (hs2 : starEach [.Name x p2] X.env = (false, eval (.Name x p2) X.env) :: starEach [] X.env := by rfl) (hpl : (backTo pos (starEach [.Name x p2] X.env)).any (·.1) = false := by rfl) :
    DE X G (.Call (.Name "isinstance" p) [e, .Name x p2] [] pos) (wIsiI T c w) := by
  refine ⟨pe_imp (pe_callB call_isi hg hm PyProof.Rows.boot_isinstance (pa_cons ha.pe (pa_cons (pe_bltn (v := .ty T) hgT hmT hvT rfl hn hd) pa_nil hs2) hs) (he := hs) (hpl := hpl)) fun σ H Q ⟨env, F, fp, Φ, ho, en, hw, k⟩ => ?_⟩
  refine ⟨env, F, fp, _, ho, en, hw, fun r e1 h1 y H1 F1 f1 g1 r1 => ?_⟩
  split at h1
  · rename_i d ed
    obtain ⟨g, rp, _⟩ := r1.rp.get r1.ho ed
    unfold isiID at h1
    split at h1
    · rename_i o c' fs
      obtain ⟨rfl, h1⟩ := h1
      obtain ⟨a, dx, vs, f', ey, hax, _⟩ := rp.ins_h
      subst ey
      exact ⟨.ref a, .ty T, .ref (He.ga X.K c'), .type T, false, rfl, .ty T, .base (.ins hax ct.cl ct.ha ct.hn ct.htk ct.mro), kc, k _ _ h1 _ H1 F1 [] g1 (res_bl (res_drop r1) r1.ho)⟩
    · unfold isiD at h1
      split at h1
      · rename_i a ea
        exact ⟨y, .ty T, .type a, .type T, tyB T a, rfl, .ty T, tyN_of rp ea, kit_ty (kt a (tyN_mem ea)), k _ _ h1 _ H1 F1 [] g1 (res_bl (res_drop r1) r1.ho)⟩
      · exact h1.elim
  · exact h1.elim
end
section
variable {env : Ev} {Φ : R → Ev → Prop} {w : W1} {T : String} {c : Str} {o b : Bool} {i : Int} {z : Str} {xs : List D} {ns : List Int} {fs : List (Str × D)} {KB : Bool → Prop}
theorem q_isiI : wIsiI T c w env Φ = w env fun r e1 => GR e1 r fun d => isiID T c d fun b => Φ (.tmp (.bl b)) e1 := by unfold wIsiI GR; rfl
theorem q_isiI_c : isiID T c (.ins o c fs) KB = KB false := by unfold isiID; simp
theorem q_isiI_n : isiID T c .non KB = isiD T .non KB := rfl
theorem q_isiI_b : isiID T c (.bl b) KB = isiD T (.bl b) KB := rfl
theorem q_isiI_i : isiID T c (.int i) KB = isiD T (.int i) KB := rfl
theorem q_isiI_s : isiID T c (.str z) KB = isiD T (.str z) KB := rfl
theorem q_isiI_t : isiID T c (.tup xs) KB = isiD T (.tup xs) KB := rfl
theorem q_isiI_l : isiID T c (.lst o xs) KB = isiD T (.lst o xs) KB := rfl
theorem q_isiI_scr : isiID T c (.scr ns) KB = isiD T (.scr ns) KB := rfl
end
/-! ### nothing comes back -/
theorem PUTM_0 {ms : List Bool} {rs : List R} {e : Ev} {KE : Ev → Prop} : PUTM ms rs [] e KE = KE e := by
  unfold PUTM
  cases ioS ms rs <;> rfl
end Vd

set_option Elab.async false
set_option linter.all false
set_option maxRecDepth 100000
set_option maxHeartbeats 4000000
/-! Vd, part 39: a law's end over a promise on data. -/
namespace Vd
open PySem PySem.Spec PyProof.Rows L2
theorem sp_scr {K : PySem.W.Frag} {sp : SpD} {H : Hp} {a : Addr} {ns : List Int} (hO : Only H) (hS : SqL K H a (ns.map V.int)) (h : sp [.scr ns] (fun d _ => d = .bl true) (fun _ _ _ => False)) : spH K [false] sp [.ref a] H (fun v _ => v = .bl true) fun _ _ _ => False := by
  refine ⟨[.scr ns], fun _ => False, [], _, _, ?_, List.nodup_nil, fun _ h => (by cases h), fun _ h => h.elim, h, fun d outs e x H' F' fpr fpo _ r _ _ _ _ => ?_, fun c fs outs e => e.elim⟩
  · refine RepL.cons (f1 := []) (f2 := []) ?_ RepL.nil
    refine ⟨a, rfl, rfl, ?_⟩
    rcases hS with hR | hK
    · rcases hO a with e | ⟨o, xs, e⟩
      · rcases hR with q | ⟨o, q⟩
        · rw [e] at q; cases q
        · rw [e] at q; cases q
      · rcases hR with q | ⟨o2, q⟩
        · rw [e] at q; cases q
        · exact .inl ⟨o2, q⟩
    · exact .inr hK
  · subst e
    exact r.1
/-- a law by its promise: F gives the written part, the function object, the promise over every base -/
theorem walk_ofV {l : PySem.W.OpenLaw} {n k : Nat} {q : Program} {loose : List Str} {XP : (Str → Option Value) → Heap → Prop} {YP : World → Heap → Prop} {d : DefRec} {x : Str} {sp : SpD}
    (hn : l.most = some n) (hn2 : n ≤ sizeLine) (hdf : d.params.defaults = []) (hr : Room k callerA)
    (hsp : ∀ ns : List Int, ns.length ≤ n → sp [.scr ns] (fun d _ => d = .bl true) (fun _ _ _ => False))
    (F : ∀ (w : World) (mg : Str → Option Value) (fa : Addr) (h : Heap), YP w h → h.Ns mainGlobals mg → mg d.name = some (.ref fa) →
      ∃ (K : PySem.W.Frag) (fd : FuncData), K.In h ∧ (∀ (s : Shared) (u : Value), BindsTo s fd ⟨[u], []⟩ [(x, u)]) ∧
        ∀ base : Heap, K.In base → base.Ns mainGlobals mg → FnOk l.prog w K mg base (L2N.CX l.prog w) k fa fd [x] (spH K [false] sp)) :
    PySem.W.WalkO q loose XP YP l.row.toRowW d [] (fun f vs => PySem.call f vs) := by
  refine Att.attach_call hn hdf fun w s₀ s₁ mg mb fa o pm cd doc a vs ns G Y ho hd hcd hmg hobj hints hlen hg => ?_
  obtain ⟨K, fd, KX, hb, hF⟩ := F w mg fa _ Y G.T.g hmg
  refine law_call KX G.T.g G.T.b G.T.builtins G.T.nolimit hg hobj hints (Nat.le_trans hlen hn2) hr hF hb (fun H hO hS => sp_scr hO hS (hsp ns hlen)) fun H e s' c => ?_
  obtain ⟨_, _, _, _, _, _, _, _, _, _, _, _, z⟩ := c
  exact z
end Vd

set_option maxHeartbeats 4000000
namespace T
open PySem PySem.Spec PyProof.Rows L2 L2H NdefX Vd

/-! ### what the laws' drawing leans on -/
theorem moR {i j : Int} (h : -(2 ^ 64) < j ∧ j < 2 ^ 64) : Vd.MulOk i j := .inl (.inr h)
theorem moL {i j : Int} (h : -(2 ^ 64) < i ∧ i < 2 ^ 64) : Vd.MulOk i j := .inl (.inl h)
def cells (ns : List Int) : D := .lst false (dints ns)
/-- the store of draws -/
def stoD (ns : List Int) (p a b c e f : Int) : D := .lst true [cells ns, .int p, .int a, .int b, .int c, .int e, .int f]
def Sto (d : D) : Prop := ∃ ns p a b c e f, d = stoD ns p a b c e f ∧ 0 ≤ p
theorem Sto.fz {d : D} (h : Sto d) : noFz d = false := by
  obtain ⟨ns, p, a, b, c, e, f, rfl, _⟩ := h
  rfl
theorem Sto.own {d : D} (h : Sto d) : noOwn d = false := by
  obtain ⟨ns, p, a, b, c, e, f, rfl, _⟩ := h
  rfl
/-- what is drawn below many -/
def Dr (many r : Int) : Prop := 0 ≤ r ∧ (r < many ∨ many < 2 ∧ r = 0)
theorem szl {n : Nat} (h : n ≤ 100000) : n ≤ sizeLine := by rw [sizeLine_eq]; omega
theorem szl' {n : Nat} (h : n < 100000) : n < sizeLine := by rw [sizeLine_eq]; omega
theorem perm_erase {α : Type} {xs : List α} {i : Nat} (h : i < xs.length) : (xs[i] :: xs.eraseIdx i).Perm xs := by
  have e : xs = xs.take i ++ xs[i] :: xs.drop (i + 1) := by
    rw [← List.drop_eq_getElem_cons h, List.take_append_drop]
  have e2 : xs.eraseIdx i = xs.take i ++ xs.drop (i + 1) := List.eraseIdx_eq_take_drop_succ ..
  rw [e2]
  refine List.Perm.trans List.perm_middle.symm ?_
  exact .of_eq e.symm

/-- texts by a bound of their length -/
abbrev LeS (x : Str) (n : Nat) : Prop := x.length ≤ n
/-- a list or a tuple of these -/
def SeqOf (d : D) (xs : List D) : Prop := d = .lst false xs ∨ d = .tup xs
abbrev TL (o : Bool) (xs : List Int) : D := .ins o "Tally" [("entries", .tup (dints xs))]
theorem perm_sorted_eq : ∀ {l1 l2 : List Int}, l1.Perm l2 → l1.Pairwise (· ≤ ·) → l2.Pairwise (· ≤ ·) → l1 = l2
  | [], l2, h, _, _ => (List.nil_perm.mp h).symm
  | a :: l1, [], h, _, _ => by have := h.length_eq; simp at this
  | a :: l1, b :: l2, h, h1, h2 => by
    have p1 := List.pairwise_cons.mp h1
    have p2 := List.pairwise_cons.mp h2
    have ab : a = b := by
      have ha : a ∈ b :: l2 := h.subset (List.mem_cons_self ..)
      have hb : b ∈ a :: l1 := h.symm.subset (List.mem_cons_self ..)
      rcases List.mem_cons.mp ha with e | e
      · exact e
      · rcases List.mem_cons.mp hb with e2 | e2
        · exact e2.symm
        · have x1 := p2.1 a e
          have x2 := p1.1 b e2
          omega
    subst ab
    rw [perm_sorted_eq (List.Perm.cons_inv h) p1.2 p2.2]
/-- 0, .., n - 1 -/
def upto (n : Nat) : List Int := (List.range n).map fun i : Nat => (i : Int)
theorem upto_sorted (n : Nat) : (upto n).Pairwise (· ≤ ·) := by
  unfold upto
  rw [List.pairwise_map]
  refine List.Pairwise.imp (fun h => ?_) (List.pairwise_lt_range (n := n))
  omega
theorem rgD_upto {n : Nat} : rgD 0 n = dints (upto n) := by
  rw [rgD_ints]
  unfold upto
  congr 1
  refine List.map_congr_left fun i _ => ?_
  omega
theorem upto_len (n : Nat) : (upto n).length = n := by unfold upto; simp
/-! the same datum on both sides -/
mutual
def sz : D → Nat
  | .tup xs => 1 + szL xs
  | .lst _ xs => 1 + szL xs
  | _ => 1
def szL : List D → Nat
  | [] => 0
  | x :: xs => sz x + szL xs
end
mutual
def Pl : D → Bool
  | .non => true
  | .bl _ => true
  | .int _ => true
  | .str x => PyData.strOk x
  | .tup xs => PlL xs
  | .lst _ xs => PlL xs
  | _ => false
def PlL : List D → Bool
  | [] => true
  | x :: xs => Pl x && PlL xs
end
theorem PlL_mem : ∀ {xs : List D}, PlL xs = true → ∀ x ∈ xs, Pl x = true
  | [], _, x, h => by cases h
  | y :: ys, h, x, hx => by
    have h' : (Pl y && PlL ys) = true := h
    rw [Bool.and_eq_true] at h'
    rcases List.mem_cons.mp hx with rfl | hx
    · exact h'.1
    · exact PlL_mem h'.2 x hx
theorem szL_app : ∀ {xs ys : List D}, szL (xs ++ ys) = szL xs + szL ys
  | [], ys => by show szL ys = 0 + szL ys; omega
  | x :: xs, ys => by
    show sz x + szL (xs ++ ys) = sz x + szL xs + szL ys
    rw [szL_app]; omega
theorem sz_pos : ∀ d : D, 1 ≤ sz d := fun d => by
  cases d <;> first | (show 1 ≤ 1; omega) | (show 1 ≤ 1 + _; omega)
theorem szL_len : ∀ {xs : List D}, xs.length ≤ szL xs
  | [] => Nat.le_refl _
  | x :: xs => by
    show xs.length + 1 ≤ sz x + szL xs
    have := szL_len (xs := xs)
    have := sz_pos x
    omega
theorem noOwn_dints (xs : List Int) : noOwnL (dints xs) = true := by
  induction xs with
  | nil => rfl
  | cons x xs ih => exact ih
theorem Pl_dints (xs : List Int) : PlL (dints xs) = true := by
  induction xs with
  | nil => rfl
  | cons x xs ih => exact ih
theorem sz_dints (xs : List Int) : szL (dints xs) = xs.length := by
  induction xs with
  | nil => rfl
  | cons x xs ih => show 1 + szL (dints xs) = xs.length + 1; omega
theorem Pl_of_mem : ∀ {xs : List D}, (∀ x ∈ xs, Pl x = true) → PlL xs = true
  | [], _ => rfl
  | x :: xs, h => by
    show (Pl x && PlL xs) = true
    rw [h x (List.mem_cons_self ..), Pl_of_mem fun y hy => h y (List.mem_cons_of_mem _ hy)]
    rfl
theorem szL_le {c : Nat} : ∀ {xs : List D}, (∀ x ∈ xs, sz x ≤ c) → szL xs ≤ c * xs.length
  | [], _ => Nat.zero_le _
  | x :: xs, h => by
    show sz x + szL xs ≤ c * (xs.length + 1)
    have h1 := h x (List.mem_cons_self ..)
    have h2 := szL_le fun y hy => h y (List.mem_cons_of_mem _ hy)
    rw [Nat.mul_add]; omega
/-- what is compared by _law_same: at hand, plain, not too large -/
def Tame (n : Nat) (d : D) : Prop := noOwn d = true ∧ (tyN d).isSome = true ∧ Pl d = true ∧ sz d ≤ n
theorem upto_nodup (n : Nat) : (upto n).Nodup := by
  unfold upto
  exact List.pairwise_map.mpr ((List.nodup_range (n := n)).imp fun h e => h (by omega))
theorem upto_get {n i : Nat} (h : i < n) : (upto n)[i]? = some (i : Int) := by
  unfold upto
  rw [List.getElem?_map, List.getElem?_range h]; rfl
theorem upto_mem {n : Nat} {x : Int} (h : x ∈ upto n) : 0 ≤ x ∧ x < n := by
  unfold upto at h
  obtain ⟨i, hi, rfl⟩ := List.mem_map.mp h
  have := List.mem_range.mp hi
  omega
theorem perm_dints {l : List D} {xs : List Int} (h : l.Perm (dints xs)) : ∃ ys : List Int, l = dints ys ∧ ys.Perm xs := by
  let f : D → Int := fun d => match d with
    | .int i => i
    | _ => 0
  have hf : ∀ zs : List Int, (dints zs).map f = zs := fun zs => by
    induction zs with
    | nil => rfl
    | cons z zs ih => show z :: (dints zs).map f = z :: zs; rw [ih]
  refine ⟨l.map f, ?_, by have := h.map f; rwa [hf] at this⟩
  have e : ∀ d ∈ l, D.int (f d) = d := fun d hd => by
    obtain ⟨i, _, rfl⟩ := List.mem_map.mp (h.subset hd)
    rfl
  show l = (l.map f).map D.int
  rw [List.map_map]
  conv => lhs; rw [← List.map_id l]
  exact List.map_congr_left fun d hd => (e d hd).symm
theorem perm_dints2 {l m : List D} {xs : List Int} (h : (l ++ m).Perm (dints xs)) : ∃ ys zs : List Int, l = dints ys ∧ m = dints zs ∧ (ys ++ zs).Perm xs := by
  obtain ⟨ws, e, hp⟩ := perm_dints h
  obtain ⟨ys, zs, e1, e2, e3⟩ := List.map_eq_append_iff.mp e.symm
  exact ⟨ys, zs, e2.symm, e3.symm, e1 ▸ hp⟩
theorem cut_from {α : Type} {xs : List α} {i : Int} (h : 0 ≤ i) : Vd.cutD xs (some i) none = xs.drop i.toNat := by
  unfold Vd.cutD
  rw [HT.sIx_none]
  unfold HT.sIx
  dsimp only
  rw [if_neg (by omega)]
  by_cases q : i.toNat ≤ xs.length
  · rw [Nat.min_eq_left q, List.take_of_length_le (by rw [List.length_drop]; exact Nat.le_refl _)]
  · rw [Nat.min_eq_right (by omega), Nat.sub_self, List.take_zero, List.drop_eq_nil_of_le (by omega)]
theorem cut_to {α : Type} {xs : List α} {i : Int} (h : 0 ≤ i) : Vd.cutD xs none (some i) = xs.take i.toNat := by
  unfold Vd.cutD
  rw [HT.sIx_none]
  unfold HT.sIx
  dsimp only
  rw [if_neg (by omega), List.drop_zero, Nat.sub_zero]
  by_cases q : i.toNat ≤ xs.length
  · rw [Nat.min_eq_left q]
  · rw [Nat.min_eq_right (by omega), List.take_of_length_le (Nat.le_refl _), List.take_of_length_le (by omega)]

/-! ### entries as the digits of one number -/
def BB : Int := 10 ^ 64 * 10 ^ 64
theorem BB_pos : 0 < BB := by decide
def pk : List Int → Int
  | [] => 0
  | x :: xs => x + BB * pk xs
/-- entries from 0 to below B -/
def Bd (B : Int) (xs : List Int) : Prop := ∀ x ∈ xs, 0 ≤ x ∧ x < B
theorem pk_nonneg : ∀ {xs : List Int}, (∀ x ∈ xs, 0 ≤ x) → 0 ≤ pk xs
  | [], _ => Int.le_refl _
  | x :: xs, h => by
    have h1 := h x (List.mem_cons_self ..)
    have h2 := pk_nonneg fun y hy => h y (List.mem_cons_of_mem _ hy)
    have h3 := Int.mul_nonneg (Int.le_of_lt BB_pos) h2
    show 0 ≤ x + BB * pk xs
    omega
theorem pk_lt : ∀ {xs : List Int}, Bd BB xs → pk xs < BB ^ xs.length
  | [], _ => by show (0 : Int) < 1; decide
  | x :: xs, h => by
    have h1 := h x (List.mem_cons_self ..)
    have h2 := pk_lt (xs := xs) fun y hy => h y (List.mem_cons_of_mem _ hy)
    show x + BB * pk xs < BB ^ (xs.length + 1)
    have h4 : BB * (pk xs + 1) ≤ BB * BB ^ xs.length := Int.mul_le_mul_of_nonneg_left (by omega) (Int.le_of_lt BB_pos)
    rw [Int.mul_add, Int.mul_one] at h4
    rw [Int.pow_succ, Int.mul_comm (BB ^ xs.length) BB]
    omega
theorem sum_nonneg : ∀ {l : List Int}, (∀ x ∈ l, 0 ≤ x) → 0 ≤ l.sum
  | [], _ => by simp
  | x :: l, h => by
    rw [List.sum_cons]
    have h1 := h x (List.mem_cons_self ..)
    have h2 := sum_nonneg fun y hy => h y (List.mem_cons_of_mem _ hy)
    omega
theorem getD_nonneg {xs : List Int} (h : ∀ x ∈ xs, 0 ≤ x) (i : Nat) : 0 ≤ xs.getD i 0 := by
  rw [List.getD_eq_getElem?_getD]
  cases e : xs[i]? with
  | none => simp
  | some v => exact h v (List.mem_of_getElem? e)
theorem pow_mono {a : Int} (h : 1 ≤ a) : ∀ {n m : Nat}, n ≤ m → a ^ n ≤ a ^ m := fun {n m} hn => by
  obtain ⟨d, rfl⟩ := Nat.exists_eq_add_of_le hn
  induction d with
  | zero => exact Int.le_refl _
  | succ d ih =>
    refine Int.le_trans (ih (by omega)) ?_
    rw [← Nat.add_assoc, Int.pow_succ]
    have h0 : 0 ≤ a ^ (n + d) := Int.pow_nonneg (by omega)
    have := Int.mul_le_mul_of_nonneg_left h h0
    omega
theorem pk_small {xs : List Int} (h : Bd BB xs) (hl : xs.length ≤ 25) : 0 ≤ pk xs ∧ (pk xs).natAbs < 2 ^ 11000 := by
  have h0 := pk_nonneg fun x q => (h x q).1
  have h1 := pk_lt h
  have h2 : BB ^ xs.length ≤ BB ^ 25 := pow_mono (by decide) hl
  have h3 : BB ^ 25 < 2 ^ 11000 := by decide
  refine ⟨h0, ?_⟩
  have h4 : pk xs < 2 ^ 11000 := by omega
  have h5 : ((pk xs).natAbs : Int) < ((2 ^ 11000 : Nat) : Int) := by
    rw [Int.natAbs_of_nonneg h0]
    exact h4
  exact Int.ofNat_lt.mp h5
/-! ### lists of moves -/
abbrev dmoves (ms : List (List Int)) : List D := ms.map fun m => D.tup (dints m)
theorem dmoves_own (ms : List (List Int)) : noOwnL (dmoves ms) = true := noOwnL_mem fun x hx => by
  obtain ⟨m, _, rfl⟩ := List.mem_map.mp hx
  exact noOwnL_ints
theorem dmoves_get {ms : List (List Int)} {i : Nat} {x : D} (h : (dmoves ms)[i]? = some x) : ∃ m, ms[i]? = some m ∧ x = .tup (dints m) := by
  rw [List.getElem?_map] at h
  cases e : ms[i]? with
  | none => rw [e] at h; cases h
  | some m => rw [e] at h; exact ⟨m, rfl, (Option.some.inj h).symm⟩

local macro_rules | `(tactic| walk_at "rd") => `(tactic| simp (config := { dsimp := false, implicitDefEqProofs := false }) only [↓Vd.BR_t, ↓Vd.BR_f, ↓Vd.BR_n, ↓Vd.GV_0, ↓Vd.GV_0n, ↓Vd.GV_s, ↓Vd.GV_nil, ↓Vd.GR_t, ↓Vd.GR_p, ↓Vd.GRS_nil, ↓Vd.GRS_cons, ↓Vd.SETK_0, ↓Vd.SETK_s, ↓Vd.SETK_nil, ↓Vd.STO_0, ↓Vd.STO_s, ↓Vd.AT_0, ↓Vd.LSET_0, ↓Vd.AT_1, ↓Vd.LSET_1, ↓Vd.AT_2, ↓Vd.LSET_2, ↓Vd.AT_3, ↓Vd.LSET_3, ↓Vd.AT_4, ↓Vd.LSET_4, ↓Vd.AT_5, ↓Vd.LSET_5, ↓Vd.AT_6, ↓Vd.LSET_6, ↓Vd.AT_7, ↓Vd.LSET_7, ↓Vd.AT_8, ↓Vd.LSET_8, ↓Vd.OPT_some, ↓Vd.OPT_none, ↓Vd.cap_t, ↓Vd.cap_p, ↓Vd.mov_t, ↓Vd.mov_p, ↓Vd.capM_t, ↓Vd.capM_f, ↓Vd.capz_t, ↓Vd.capz_p, ↓Vd.capL_nil, ↓Vd.capL_cons, ↓Vd.prep_nil, ↓Vd.prep_t, ↓Vd.prep_tt, ↓Vd.prep_f, ↓Vd.CLRM_nil, ↓Vd.CLRM_t, ↓Vd.CLRM_f, ↓Vd.PUTM_nil, ↓Vd.PUTM_t, ↓Vd.PUTM_f, ↓Vd.BACK_eq, ↓Vd.q_tmp, ↓Vd.q_var, ↓Vd.q_nil, ↓Vd.q_cons, ↓Vd.q_op, ↓Vd.ISB_bl, ↓Vd.isB_eq, ↓Vd.ISI_int, ↓Vd.isI_eq, ↓Vd.ISS_str, ↓Vd.strR_eq, ↓Vd.q_andV, ↓Vd.q_orV, ↓Vd.q_notV, ↓Vd.q_notE, ↓Vd.q_ifE, ↓Vd.q_test, ↓Vd.q_TB, ↓Vd.q_and, ↓Vd.q_or, ↓Vd.q_not, ↓Vd.q_yes, ↓Vd.q_lst, ↓Vd.q_tup, ↓Vd.q_sl11, ↓Vd.q_rgq1, ↓Vd.q_rgq2, ↓Vd.q_fz, ↓Vd.q_isi, ↓Vd.q_isC, ↓Vd.INS_ins, ↓Vd.insAt_eq, ↓Vd.INSO_ins, ↓Vd.insSl_eq, ↓Vd.q_fld, ↓Vd.q_prop, ↓Vd.q_meth, ↓Vd.q_call, ↓Vd.TAKEK_0, ↓Vd.TAKEK_s, ↓Vd.LENK_nil, ↓Vd.LENK_cons, ↓Vd.PUSHK_nil, ↓Vd.PUSHK_cons, ↓Vd.q_make, ↓Vd.q_fmt, ↓Vd.q_js_nil, ↓Vd.q_js_cons, ↓Vd.q_errF, ↓Vd.q_errIs, ↓Vd.q_errCall, ↓Vd.q_nev, ↓Vd.LST_l, ↓Vd.lstAt_eq, ↓Vd.q_m0, ↓Vd.q_m1, ↓Vd.q_app, ↓Vd.q_clear, ↓Vd.q_kd1, ↓Vd.q_kd2, ↓Vd.q_add_i, ↓Vd.q_add_s, ↓Vd.q_add_l, ↓Vd.q_add_t, ↓Vd.q_sub, ↓Vd.q_mul_i, ↓Vd.q_mul_l, ↓Vd.q_int, ↓Vd.q_neg, ↓Vd.q_is_n, ↓Vd.q_is_b, ↓Vd.q_isn_n, ↓Vd.q_isn_b, ↓Vd.q_len_l, ↓Vd.q_len_t, ↓Vd.q_len_s, ↓Vd.q_int1, ↓Vd.q_int1b, ↓Vd.q_list_l, ↓Vd.q_list_t, ↓Vd.q_tuple_l, ↓Vd.q_tuple_t, ↓Vd.q_abs, ↓Vd.q_sum, ↓Vd.q_sum_t, ↓Vd.q_all, ↓Vd.q_any, ↓Vd.q_rev, ↓Vd.q_sorted, ↓Vd.q_seq_l, ↓Vd.q_seq_t, ↓Vd.q_seq_s, ↓Vd.q_ix_l, ↓Vd.q_ix_t, ↓Vd.q_sl_l, ↓Vd.q_sl_t, ↓Vd.q_sl_s, ↓Vd.q_sl00, ↓Vd.q_sl10, ↓Vd.q_sl01, ↓Vd.q_in, ↓Vd.q_str1, ↓Vd.q_str1b, ↓Vd.q_cnt, ↓Vd.q_tru_n, ↓Vd.q_tru_b, ↓Vd.q_tru_i, ↓Vd.q_tru_l, ↓Vd.q_tru_t, ↓Vd.q_isi_n, ↓Vd.q_isi_b, ↓Vd.q_isi_i, ↓Vd.q_isi_s, ↓Vd.q_isi_t, ↓Vd.q_isi_scr, ↓Vd.q_isi_l, ↓Vd.q_isC_i, ↓Vd.s_next, ↓Vd.s_seq, ↓Vd.s_if, ↓Vd.s_break, ↓Vd.s_cont, ↓Vd.s_never, ↓Vd.s_expr, ↓Vd.s_set, ↓Vd.s_ret, ↓Vd.s_retN, ↓Vd.s_it, ↓Vd.s_rg1, ↓Vd.s_rg2, ↓Vd.s_enum, ↓Vd.s_tgN, ↓Vd.s_tgT, ↓Vd.s_tgL0, ↓Vd.s_tgLs, ↓Vd.s_putL, ↓Vd.s_fldPut, ↓Vd.s_raise, ↓Vd.s_try, ↓Vd.l_for, ↓Vd.l_while, ↓Vd.WIPK_nil, ↓Vd.WIPK_cons, ↓Vd.GVO_0, ↓Vd.GVO_s, ↓Vd.RSTK_nil, ↓Vd.RSTK_cons, ↓Vd.l_lc, ↓Vd.e_nx, ↓Vd.e_rt, ↓Vd.x_nx, ↓Vd.x_rt, Vd.outs_eq, Vd.ixs_nil, Vd.ixs_t, Vd.ixs_f, Vd.gv_0, Vd.gv_s, Vd.own_nil, Vd.own_cons, Vd.noOwnO_n, Vd.noOwnO_s, Vd.noFzO_n, Vd.noFzO_s, Vd.noOwnL_ints, Vd.noFzL_ints, Vd.frzL_ints, Vd.toInts_ints, Vd.toBls_bls, Vd.noOwnL_append, Vd.noFzL_append, Vd.tyB_int_NoneType, Vd.tyB_int_bool, Vd.tyB_int_int, Vd.tyB_int_str, Vd.tyB_int_tuple, Vd.tyB_int_list, Vd.tyB_bool_NoneType, Vd.tyB_bool_bool, Vd.tyB_bool_int, Vd.tyB_bool_str, Vd.tyB_bool_tuple, Vd.tyB_bool_list, Vd.tyB_str_NoneType, Vd.tyB_str_bool, Vd.tyB_str_int, Vd.tyB_str_str, Vd.tyB_str_tuple, Vd.tyB_str_list, Vd.tyB_tuple_NoneType, Vd.tyB_tuple_bool, Vd.tyB_tuple_int, Vd.tyB_tuple_str, Vd.tyB_tuple_tuple, Vd.tyB_tuple_list, Vd.tyB_list_NoneType, Vd.tyB_list_bool, Vd.tyB_list_int, Vd.tyB_list_str, Vd.tyB_list_tuple, Vd.tyB_list_list, Vd.tyB_tt, Vd.tyB_ff, Vd.tyB_tf, Vd.tyB_ft, Vd.look_rev, Vd.look_hd, ↓Vd.l_eq, ↓Vd.l_ne, ↓Vd.EQD_int, ↓Vd.NED_int, Vd.plD_int, Vd.plD_bl, Vd.plD_non, Vd.plD_ints_l, Vd.plD_ints_t, Vd.EQB_ints_l, Vd.EQB_ints_t, ↓Vd.q_bm, ↓Vd.s_augI, ↓Vd.q_addI, ↓Vd.q_chain, ↓Vd.q_pop1, ↓Vd.q_pop0, ↓Vd.de_isiI, ↓Vd.q_isiI, ↓Vd.q_isiI_c, ↓Vd.q_isiI_n, ↓Vd.q_isiI_b, ↓Vd.q_isiI_i, ↓Vd.q_isiI_s, ↓Vd.q_isiI_t, ↓Vd.q_isiI_l, ↓Vd.q_isiI_scr, ↓Vd.PUTM_0, Vd.ltK, Vd.leK, Vd.gtK, Vd.geK, Vd.fdivK, Vd.modK, Vd.powK, Vd.shlK, Vd.shrK, Vd.andK, Vd.orK, Vd.xorK, Vd.max2K, Vd.min2K, Vd.inK, Vd.ninK, Vd.noOwn, Vd.noOwnL, Vd.noFz, Vd.noFzL, Vd.frz, Vd.frzL, Vd.frzF, Vd.noOwnF, Vd.noFzF, Vd.isNon, Vd.isBl, List.cons_append, List.nil_append, List.append_nil, List.map_cons, List.map_nil, List.all_cons, List.all_nil, Bool.and_true, Bool.true_and, Bool.and_false, Bool.false_and, Bool.or_true, Bool.or_false, Bool.true_or, Bool.false_or, Bool.not_true, Bool.not_false, Bool.not_not, Bool.and_self, Bool.or_self, true_and, and_true, and_self, eq_self, List.length_cons, List.length_nil, Int.reduceAdd, Int.reduceSub, Int.reduceMul, Int.reduceNeg, Int.reducePow, Int.reduceToNat, Nat.reduceAdd, Nat.reduceLT, Nat.reduceLeDiff, decide_true, decide_false, decide_not, reduceIte, Bool.false_eq_true, Nat.zero_add, Int.toNat_natCast, List.length_map, List.replicate_zero, List.replicate_succ, Nat.reduceSub, List.isEmpty_cons, List.isEmpty_nil])
local macro_rules | `(tactic| walk_at "st") => `(tactic| simp (config := { dsimp := false, implicitDefEqProofs := false }) only [Vd.startE, Vd.envE, List.map_cons, List.map_nil, List.cons_append, List.nil_append, List.append_nil, List.length_cons, List.length_nil, Nat.reduceAdd, Nat.reduceSub, Nat.zero_add, List.replicate_zero, List.replicate_succ, Nat.reduceLeDiff])
local macro_rules | `(tactic| walk_at "go") => `(tactic| repeat' (first | (with_reducible trivial) | (with_reducible refine Vd.SZ_of (by decide)) | (with_reducible refine And.intro ?_ ?_) | (with_reducible refine Vd.EQD_dt ?_) | (with_reducible refine Vd.EQD_dl ?_) | (with_reducible refine Vd.NED_dt ?_) | (with_reducible refine Vd.NED_dl ?_) | (with_reducible refine Vd.BR_no (by first | assumption | exact Sto.fz (by assumption)) ?_) | (with_reducible refine Vd.BR_yes (by first | assumption) ?_) | (with_reducible refine Vd.BR_dec (fun _ => ?_) (fun _ => ?_)) | walk_at "rd"))
local macro_rules | `(tactic| walk_at "nx") => `(tactic| simp (config := { dsimp := false, implicitDefEqProofs := false }) only [Vd.s_next])
local macro_rules | `(tactic| walk_at "sz") => `(tactic| (refine Vd.SZ_of ?_; (try simp only [PySem.Str.length_append]); omega))

abbrev N__law_store : List Str := ["script", "cell"]
def w__law_store (EW : EWt) : WS :=
  (wRet (wLst (wCons (wFz (wLc (wIt (wOp slK01 (wCons (wVar 0) (wCons (wTmp (.int 63)) wNil)))) (tgN 1) wYes (wOp (kd1 intK1) (wCons (wVar 1) wNil)) [1])) (wCons (wTmp (.int 0)) (wCons (wTmp (.int 0)) (wCons (wTmp (.int 0)) (wCons (wTmp (.int 0)) (wCons (wTmp (.int 0)) (wCons (wTmp (.int 0)) wNil)))))))))
def sp__law_store : SpD := fun ds Q E => ∃ ns : List Int, ds = [.scr ns] ∧ ∀ st, Sto st → Q st []
theorem len__law_store : ∀ ds Q E, sp__law_store ds Q E → ds.length = 1 := fun ds Q E ⟨_, h, _⟩ => by rw [h]; rfl
theorem pf__law_store : ∀ ds Q E, sp__law_store ds Q E → w__law_store (fun c fs env => E c fs (outs [false] env)) (dEnd [false] Q) (startE N__law_store ds) := by
  rintro _ Q E ⟨ns, rfl, h⟩
  walk_at "st"
  unfold w__law_store
  walk_at "rd"
  have hl : (dints (Vd.cutD ns none (some 63))).length ≤ sizeLine := by
    rw [List.length_map]
    refine szl ?_
    unfold Vd.cutD
    rw [List.length_take]
    refine Nat.le_trans (Nat.min_le_left _ _) ?_
    unfold HT.sIx
    simp
    omega
  refine LC_pure (fun d => d) (fun _ => true) hl (fun x hx acc ha k hk => ?_) ?_
  · obtain ⟨i, _, rfl⟩ := List.mem_map.mp hx
    walk_at "rd"
    exact ⟨ha, by simpa using hk⟩
  · rw [List.filter_eq_self.mpr (by simp), List.map_id']
    walk_at "go"
    exact h _ ⟨_, _, _, _, _, _, _, rfl, by decide⟩


abbrev N__law_mixed : List Str := ["seed", "turn", "first", "second"]
def w__law_mixed (EW : EWt) : WS :=
  (wSeq (wSet 2 (wBin (kd2 modK) (wOp (kd1 intK1) (wCons (wBin (kd2 addK) (wBin (kd2 addK) (wBin (kd2 mulK) (wVar 0) (wTmp (.int 48271))) (wBin (kd2 mulK) (wVar 1) (wTmp (.int 69621)))) (wTmp (.int 1013904223))) wNil)) (wTmp (.int 2147483647)))) <|
  (wSeq (wSet 3 (wBin (kd2 modK) (wOp (kd1 intK1) (wCons (wBin (kd2 addK) (wBin (kd2 addK) (wBin (kd2 mulK) (wVar 2) (wVar 2)) (wBin (kd2 mulK) (wVar 0) (wTmp (.int 7)))) (wVar 1)) wNil)) (wTmp (.int 2147483563)))) <|
  (wRet (wBin (kd2 modK) (wOp (kd1 intK1) (wCons (wBin (kd2 addK) (wBin (kd2 mulK) (wVar 3) (wVar 3)) (wVar 2)) wNil)) (wTmp (.int 2147483399))))))
def sp__law_mixed : SpD := fun ds Q E => ∃ a b, ds = [.int a, .int b] ∧ ∀ r, 0 ≤ r → Q (.int r) []
theorem len__law_mixed : ∀ ds Q E, sp__law_mixed ds Q E → ds.length = 2 := fun ds Q E ⟨_, _, h, _⟩ => by rw [h]; rfl
theorem pf__law_mixed : ∀ ds Q E, sp__law_mixed ds Q E → w__law_mixed (fun c fs env => E c fs (outs [false, false] env)) (dEnd [false, false] Q) (startE N__law_mixed ds) := by
  rintro _ Q E ⟨a, b, rfl, h⟩
  walk_at "st"
  unfold w__law_mixed
  walk_at "rd"
  exact ⟨moR (by decide), moR (by decide), by decide, moL (by omega), moR (by decide), by decide, moL (by omega), by decide, h _ (by omega)⟩


abbrev N__law_take : List Str := ["store", "many", "cell", "digit"]
def w__law_take (EW : EWt) : WS :=
  (wSeq (wIf (wTB (wBin (kd2 ltK) (wVar 1) (wTmp (.int 2))))
  (wRet (wTmp (.int 0)))
  wNext) <|
  (wSeq (wIf (wAnd (wTB (wBin (kd2 ltK) (wBin (kd2 ixK) (wVar 0) (wTmp (.int 2))) (wTmp (.int 2)))) (wAnd (wTB (wBin (kd2 eqK) (wBin (kd2 ixK) (wVar 0) (wTmp (.int 3))) (wTmp (.int 0)))) (wTB (wBin (kd2 ltK) (wBin (kd2 ixK) (wVar 0) (wTmp (.int 1))) (wOp (kd1 lenK) (wCons (wBin (kd2 ixK) (wVar 0) (wTmp (.int 0))) wNil))))))
  (wSeq (wSet 2 (wBin (kd2 ixK) (wBin (kd2 ixK) (wVar 0) (wTmp (.int 0))) (wBin (kd2 ixK) (wVar 0) (wTmp (.int 1))))) <|
  (wSeq (wPutL false 0 (wTmp (.int 1)) (wBin (kd2 addK) (wBin (kd2 ixK) (wVar 0) (wTmp (.int 1))) (wTmp (.int 1)))) <|
  (wSeq (wPutL false 0 (wTmp (.int 5)) (wBin (kd2 modK) (wOp (kd1 intK1) (wCons (wBin (kd2 addK) (wBin (kd2 addK) (wBin (kd2 mulK) (wBin (kd2 ixK) (wVar 0) (wTmp (.int 5))) (wTmp (.int 31))) (wBin (kd2 modK) (wOp (kd1 intK1) (wCons (wVar 2) wNil)) (wTmp (.int 2147483647)))) (wTmp (.int 1))) wNil)) (wTmp (.int 2147483647)))) <|
  (wIf (wTB (wBin (kd2 geK) (wVar 2) (wBin (kd2 powK) (wTmp (.int 10)) (wTmp (.int 18)))))
  (wPutL false 0 (wTmp (.int 2)) (wVar 2))
  (wSeq (wPutL false 0 (wTmp (.int 3)) (wTmp (.int 2))) <|
  (wPutL false 0 (wTmp (.int 6)) (wBin (kd2 modK) (wOp (kd1 intK1) (wCons (wVar 2) wNil)) (wTmp (.int 2147483647)))))))))
  wNext) <|
  (wSeq (wIf (wTB (wBin (kd2 geK) (wBin (kd2 ixK) (wVar 0) (wTmp (.int 2))) (wTmp (.int 2))))
  (wSeq (wSet 3 (wBin (kd2 modK) (wOp (kd1 intK1) (wCons (wBin (kd2 ixK) (wVar 0) (wTmp (.int 2))) wNil)) (wVar 1))) <|
  (wSeq (wPutL false 0 (wTmp (.int 2)) (wBin (kd2 fdivK) (wBin (kd2 ixK) (wVar 0) (wTmp (.int 2))) (wVar 1))) <|
  (wRet (wVar 3))))
  wNext) <|
  (wSeq (wPutL false 0 (wTmp (.int 4)) (wBin (kd2 addK) (wBin (kd2 ixK) (wVar 0) (wTmp (.int 4))) (wTmp (.int 1)))) <|
  (wSeq (wIf (wTB (wBin (kd2 gtK) (wBin (kd2 ixK) (wVar 0) (wTmp (.int 3))) (wTmp (.int 0))))
  (wSeq (wPutL false 0 (wTmp (.int 3)) (wBin (kd2 subK) (wBin (kd2 ixK) (wVar 0) (wTmp (.int 3))) (wTmp (.int 1)))) <|
  (wRet (wBin (kd2 modK) (wOp (kd1 intK1) (wCons (wCall [false, false] sp__law_mixed [] EW (wCons (wBin (kd2 ixK) (wVar 0) (wTmp (.int 6))) (wCons (wBin (kd2 ixK) (wVar 0) (wTmp (.int 4))) wNil))) wNil)) (wVar 1))))
  wNext) <|
  (wRet (wBin (kd2 modK) (wOp (kd1 intK1) (wCons (wCall [false, false] sp__law_mixed [] EW (wCons (wBin (kd2 ixK) (wVar 0) (wTmp (.int 5))) (wCons (wBin (kd2 ixK) (wVar 0) (wTmp (.int 4))) wNil))) wNil)) (wVar 1))))))))
def sp__law_take : SpD := fun ds Q E => ∃ st many, ds = [st, .int many] ∧ Sto st ∧ many ≤ 2 ^ 64 ∧ ∀ r st', Dr many r → Sto st' → Q (.int r) [some st']
theorem len__law_take : ∀ ds Q E, sp__law_take ds Q E → ds.length = 2 := fun ds Q E ⟨_, _, h, _⟩ => by rw [h]; rfl
theorem pf__law_take : ∀ ds Q E, sp__law_take ds Q E → w__law_take (fun c fs env => E c fs (outs [true, false] env)) (dEnd [true, false] Q) (startE N__law_take ds) := by
  rintro _ Q E ⟨_, many, rfl, ⟨ns, p, a, b, c, e, f, rfl, hp⟩, hm, h⟩
  walk_at "st"
  unfold w__law_take stoD cells
  walk_at "rd"
  refine BR_dec (fun h1 => ?_) (fun h1 => ?_)
  · walk_at "rd"
    exact h 0 _ ⟨by omega, .inr ⟨h1, rfl⟩⟩ ⟨ns, p, a, b, c, e, f, rfl, hp⟩
  have hd : ∀ x : Int, Dr many (x % many) := fun x => ⟨Int.emod_nonneg _ (by omega), .inl (Int.emod_lt_of_pos _ (by omega))⟩
  have hl : ∀ a, CDivW a many := fun a => ⟨by omega, by
    have : many.natAbs.log2 < 65 := (Nat.log2_lt (by omega)).mpr (by omega)
    omega⟩
  have h0 : 0 < many := by omega
  walk_at "nx"
  refine seq_cut (fun e => ∃ p a b c e' f x, e = [some (stoD ns p a b c e' f), some (.int many), x, none] ∧ 0 ≤ p) (fun k hk => ?_) ?_
  · have hk' : ∀ p a b c e f x, 0 ≤ p → k [some (.lst true [.lst false (dints ns), .int p, .int a, .int b, .int c, .int e, .int f]), some (.int many), x, none] := fun p a b c e f x h => hk _ ⟨p, a, b, c, e, f, x, rfl, h⟩
    walk_at "go"
    all_goals first
      | exact hk' _ _ _ _ _ _ _ hp
      | skip
    have hq : p.toNat < ns.length := by
      try simp only [List.length_map] at *
      omega
    refine AT_of (d := .int ns[p.toNat]) (atI_int hp (by rw [List.getElem?_map, List.getElem?_eq_getElem hq]; rfl)) rfl ?_
    walk_at "go"
    all_goals first
      | exact hk' _ _ _ _ _ _ _ (by omega)
      | exact moR (by decide)
      | exact ⟨by decide, by decide, by decide⟩
      | decide
  · rintro _ ⟨p, a, b, c, e, f, x, rfl, hp⟩
    unfold stoD cells
    walk_at "go"
    all_goals first
      | exact h0
      | exact hl _
      | exact h _ _ (hd _) ⟨ns, _, _, _, _, _, _, rfl, hp⟩
      | skip
    all_goals
      refine ⟨_, _, rfl, fun r hr => ?_⟩
      walk_at "go"
      first | exact h0 | exact h _ _ (hd _) ⟨ns, _, _, _, _, _, _, rfl, hp⟩


abbrev N__law_place : List Str := ["store", "size", "pick"]
def w__law_place (EW : EWt) : WS :=
  (wSeq (wSet 2 (wCall [true, false] sp__law_take [] EW (wCons (wVar 0) (wCons (wTmp (.int 6)) wNil)))) <|
  (wSeq (wIf (wTB (wBin (kd2 eqK) (wVar 2) (wTmp (.int 0))))
  (wRet (wTmp (.int 0)))
  wNext) <|
  (wSeq (wIf (wTB (wBin (kd2 eqK) (wVar 2) (wTmp (.int 1))))
  (wRet (wBin (kd2 subK) (wVar 1) (wTmp (.int 1))))
  wNext) <|
  (wRet (wCall [true, false] sp__law_take [] EW (wCons (wVar 0) (wCons (wVar 1) wNil)))))))
def sp__law_place : SpD := fun ds Q E => ∃ st size, ds = [st, .int size] ∧ Sto st ∧ 1 ≤ size ∧ size ≤ 2 ^ 64 ∧ ∀ r, 0 ≤ r → r < size → ∀ st', Sto st' → Q (.int r) [some st']
theorem len__law_place : ∀ ds Q E, sp__law_place ds Q E → ds.length = 2 := fun ds Q E ⟨_, _, h, _⟩ => by rw [h]; rfl
theorem pf__law_place : ∀ ds Q E, sp__law_place ds Q E → w__law_place (fun c fs env => E c fs (outs [true, false] env)) (dEnd [true, false] Q) (startE N__law_place ds) := by
  rintro _ Q E ⟨st, size, rfl, hs, h1, h2, h⟩
  walk_at "st"
  unfold w__law_place
  walk_at "rd"
  refine ⟨st, _, rfl, hs, by decide, fun r st' hr hst => ?_⟩
  walk_at "go"
  · exact h 0 (by omega) (by omega) _ hst
  · exact h _ (by omega) (by omega) _ hst
  · refine ⟨st', _, rfl, hst, h2, fun r st' hr hst => ?_⟩
    walk_at "go"
    obtain ⟨a1, a2⟩ := hr
    exact h r a1 (by omega) _ hst


abbrev N__law_pick : List Str := ["store", "things"]
def w__law_pick (EW : EWt) : WS :=
  (wRet (wBin (kd2 ixK) (wVar 1) (wCall [true, false] sp__law_take [] EW (wCons (wVar 0) (wCons (wOp (kd1 lenK) (wCons (wVar 1) wNil)) wNil)))))
def sp__law_pick : SpD := fun ds Q E => ∃ st xs d, ds = [st, d] ∧ Sto st ∧ ((∃ o, d = .lst o xs) ∨ d = .tup xs) ∧ noOwnL xs = true ∧ xs ≠ [] ∧ xs.length ≤ 100000 ∧ ∀ x, x ∈ xs → ∀ st', Sto st' → Q x [some st']
theorem len__law_pick : ∀ ds Q E, sp__law_pick ds Q E → ds.length = 2 := fun ds Q E ⟨_, _, _, h, _⟩ => by rw [h]; rfl
theorem pf__law_pick : ∀ ds Q E, sp__law_pick ds Q E → w__law_pick (fun c fs env => E c fs (outs [true, false] env)) (dEnd [true, false] Q) (startE N__law_pick ds) := by
  rintro _ Q E ⟨st, xs, d, rfl, hs, hd, hn, hne, hl, h⟩
  have hl' : 0 < xs.length := List.length_pos_iff.mpr hne
  have key : ∀ r st', Dr xs.length r → Sto st' → AT xs r (fun d => Q d [some st']) ⟨⟩ := fun r st' hr hst => by
    have hi : r.toNat < xs.length := by obtain ⟨h1, h2⟩ := hr; omega
    have hm : xs[r.toNat] ∈ xs := List.getElem_mem hi
    exact AT_of (atI_int hr.1 (List.getElem?_eq_getElem hi)) ((noOwnL_iff.mp hn) _ hm) (h _ hm _ hst)
  rcases hd with ⟨o, rfl⟩ | rfl
  all_goals
    walk_at "st"
    unfold w__law_pick
    walk_at "rd"
    refine ⟨st, _, rfl, hs, by omega, fun r st' hr hst => ?_⟩
    walk_at "go"
    exact key r st' hr hst


abbrev N__law_whole : List Str := ["store", "pick", "edges", "number", "k"]
def w__law_whole (EW : EWt) : WS :=
  (wSeq (wSet 1 (wCall [true, false] sp__law_take [] EW (wCons (wVar 0) (wCons (wTmp (.int 6)) wNil)))) <|
  (wSeq (wIf (wTB (wBin (kd2 ltK) (wVar 1) (wTmp (.int 2))))
  (wRet (wBin (kd2 subK) (wCall [true, false] sp__law_take [] EW (wCons (wVar 0) (wCons (wTmp (.int 16)) wNil))) (wTmp (.int 3))))
  wNext) <|
  (wSeq (wIf (wTB (wBin (kd2 eqK) (wVar 1) (wTmp (.int 2))))
  (wSeq (wSet 2 (wLst (wCons (wUn (kd1 negK) (wTmp (.int 1))) (wCons (wTmp (.int 0)) (wCons (wTmp (.int 1)) (wCons (wTmp (.int 7)) (wCons (wTmp (.int 8)) (wCons (wTmp (.int 9)) (wCons (wTmp (.int 11)) (wCons (wTmp (.int 12)) (wCons (wTmp (.int 13)) (wCons (wTmp (.int 24)) (wCons (wTmp (.int 25)) (wCons (wTmp (.int 26)) (wCons (wTmp (.int 40)) (wCons (wTmp (.int 41)) (wCons (wTmp (.int 60)) (wCons (wTmp (.int 61)) (wCons (wTmp (.int 400)) (wCons (wTmp (.int 401)) (wCons (wTmp (.int 1000)) (wCons (wTmp (.int 1001)) wNil)))))))))))))))))))))) <|
  (wSeq (wSet 2 (wBin (kd2 addK) (wVar 2) (wLst (wCons (wUn (kd1 negK) (wTmp (.int 1000))) (wCons (wUn (kd1 negK) (wTmp (.int 1001))) (wCons (wTmp (.int 2000)) (wCons (wTmp (.int 2001)) (wCons (wTmp (.int 4096)) (wCons (wTmp (.int 4097)) wNil))))))))) <|
  (wRet (wCall [true, false] sp__law_pick [] EW (wCons (wVar 0) (wCons (wVar 2) wNil))))))
  wNext) <|
  (wSeq (wIf (wTB (wBin (kd2 eqK) (wVar 1) (wTmp (.int 3))))
  (wRet (wBin (kd2 subK) (wCall [true, false] sp__law_take [] EW (wCons (wVar 0) (wCons (wTmp (.int 5000)) wNil))) (wTmp (.int 1500))))
  wNext) <|
  (wSeq (wSet 3 (wTmp (.int 0))) <|
  (wSeq (wFor (wRg1 (wTmp (.int 5))) (tgN 4)
  (wSet 3 (wBin (kd2 addK) (wBin (kd2 mulK) (wVar 3) (wTmp (.int 1000000))) (wCall [true, false] sp__law_take [] EW (wCons (wVar 0) (wCons (wTmp (.int 1000000)) wNil)))))) <|
  (wSeq (wIf (wTB (wBin (kd2 eqK) (wVar 1) (wTmp (.int 4))))
  (wRet (wUn (kd1 negK) (wVar 3)))
  wNext) <|
  (wRet (wVar 3)))))))))
def sp__law_whole : SpD := fun ds Q E => ∃ st, ds = [st] ∧ Sto st ∧ ∀ r, -(10 ^ 30) < r → r < 10 ^ 30 → ∀ st', Sto st' → Q (.int r) [some st']
theorem len__law_whole : ∀ ds Q E, sp__law_whole ds Q E → ds.length = 1 := fun ds Q E ⟨_, h, _⟩ => by rw [h]; rfl
theorem pf__law_whole : ∀ ds Q E, sp__law_whole ds Q E → w__law_whole (fun c fs env => E c fs (outs [true] env)) (dEnd [true] Q) (startE N__law_whole ds) := by
  rintro _ Q E ⟨st, rfl, hs, h⟩
  walk_at "st"
  unfold w__law_whole
  walk_at "rd"
  refine ⟨st, _, rfl, hs, by decide, fun r st' hr hst => ?_⟩
  walk_at "go"
  · refine ⟨st', _, rfl, hst, by decide, fun r st' hr hst => ?_⟩
    walk_at "go"
    obtain ⟨a1, a2⟩ := hr
    exact h _ (by omega) (by omega) _ hst
  · refine ⟨st', _, _, rfl, hst, .inl ⟨_, rfl⟩, by decide, by simp, by decide, fun x hx st' hst => ?_⟩
    walk_at "go"
    simp only [List.mem_cons, List.not_mem_nil, or_false] at hx
    rcases hx with rfl | rfl | rfl | rfl | rfl | rfl | rfl | rfl | rfl | rfl | rfl | rfl | rfl | rfl | rfl | rfl | rfl | rfl | rfl | rfl | rfl | rfl | rfl | rfl | rfl | rfl
    all_goals
      walk_at "go"
      exact h _ (by decide) (by decide) _ hst
  · refine ⟨st', _, rfl, hst, by decide, fun r st' hr hst => ?_⟩
    walk_at "go"
    obtain ⟨a1, a2⟩ := hr
    exact h _ (by omega) (by omega) _ hst
  · refine FOR_rg (fun i e => ∃ st num x4, e = [some st, some (.int r), none, some (.int num), x4] ∧ Sto st ∧ 0 ≤ num ∧ num < 10 ^ (6 * i)) ⟨st', 0, none, rfl, hst, by decide, by decide⟩ (fun i hi e ⟨st, num, x4, he, hst, h0, h1⟩ k hk => ?_) (fun e ⟨st, num, x4, he, hst, h0, h1⟩ => ?_)
    · subst he
      walk_at "go"
      · exact moR (by decide)
      refine ⟨st, _, rfl, hst, by decide, fun q st' hq hst => ?_⟩
      walk_at "go"
      refine hk _ ⟨_, _, _, rfl, hst, ?_, ?_⟩
      · obtain ⟨a1, a2⟩ := hq; omega
      · obtain ⟨a1, a2⟩ := hq
        have e : (10 : Int) ^ (6 * (i + 1)) = 10 ^ (6 * i) * 1000000 := by rw [Nat.mul_add, Int.pow_add]; rfl
        omega
    · subst he
      have h1' : num < 10 ^ 30 := h1
      walk_at "go"
      · exact h _ (by omega) (by omega) _ hst
      · exact h _ (by omega) (by omega) _ hst


abbrev N__law_counts : List Str := ["store", "size", "counts", "k", "pick"]
def w__law_counts (EW : EWt) : WS :=
  (wSeq (wSet 1 (wBin (kd2 addK) (wTmp (.int 1)) (wCall [true, false] sp__law_take [] EW (wCons (wVar 0) (wCons (wTmp (.int 6)) wNil))))) <|
  (wSeq (wIf (wTB (wBin (kd2 eqK) (wCall [true, false] sp__law_take [] EW (wCons (wVar 0) (wCons (wTmp (.int 8)) wNil))) (wTmp (.int 0))))
  (wSet 1 (wBin (kd2 addK) (wTmp (.int 1)) (wCall [true, false] sp__law_place [] EW (wCons (wVar 0) (wCons (wTmp (.int 25)) wNil)))))
  wNext) <|
  (wSeq (wSet 2 (wLst wNil)) <|
  (wSeq (wFor (wRg1 (wVar 1)) (tgN 3)
  (wSeq (wSet 4 (wCall [true, false] sp__law_take [] EW (wCons (wVar 0) (wCons (wTmp (.int 8)) wNil)))) <|
  (wIf (wTB (wBin (kd2 eqK) (wVar 4) (wTmp (.int 0))))
  (wExpr (wM1 false 2 appK (wOp (kd1 absK) (wCons (wCall [true] sp__law_whole [] EW (wCons (wVar 0) wNil)) wNil))))
  (wIf (wTB (wBin (kd2 ltK) (wVar 4) (wTmp (.int 3))))
  (wExpr (wM1 false 2 appK (wTmp (.int 0))))
  (wExpr (wM1 false 2 appK (wCall [true, false] sp__law_take [] EW (wCons (wVar 0) (wCons (wTmp (.int 10)) wNil))))))))) <|
  (wRet (wVar 2))))))
def sp__law_counts : SpD := fun ds Q E => ∃ st, ds = [st] ∧ Sto st ∧ ∀ xs : List Int, 1 ≤ xs.length → xs.length ≤ 25 → Bd (10 ^ 30) xs → ∀ st', Sto st' → Q (.lst true (dints xs)) [some st']
theorem len__law_counts : ∀ ds Q E, sp__law_counts ds Q E → ds.length = 1 := fun ds Q E h => by
  unfold sp__law_counts at h
  obtain ⟨_, h, _⟩ := h
  rw [h]; rfl
theorem pf__law_counts : ∀ ds Q E, sp__law_counts ds Q E → w__law_counts (fun c fs env => E c fs (outs [true] env)) (dEnd [true] Q) (startE N__law_counts ds) := by
  rintro _ Q E ⟨st, rfl, hs, h⟩
  walk_at "st"
  unfold w__law_counts
  walk_at "go"
  refine ⟨st, _, rfl, hs, by decide, fun r st' hr hst => ?_⟩
  walk_at "go"
  refine ⟨st', _, rfl, hst, by decide, fun r2 st' hr2 hst => ?_⟩
  walk_at "rd"
  refine BR_no hst.fz ?_
  walk_at "rd"
  have cut : ∀ st (size : Int) x3 x4 (Dd : Dn), Sto st → 1 ≤ size → size ≤ 25 → (∀ e, wRet (wVar 2) (dEnd [true] Q) e → Dd.nx e) → FOR (tgN 3)
      (wSeq (wSet 4 (wCall [true, false] sp__law_take [] (fun c fs env => E c fs (outs [true] env)) (wCons (wVar 0) (wCons (wTmp (.int 8)) wNil)))) <|
      (wIf (wTB (wBin (kd2 eqK) (wVar 4) (wTmp (.int 0))))
      (wExpr (wM1 false 2 appK (wOp (kd1 absK) (wCons (wCall [true] sp__law_whole [] (fun c fs env => E c fs (outs [true] env)) (wCons (wVar 0) wNil)) wNil))))
      (wIf (wTB (wBin (kd2 ltK) (wVar 4) (wTmp (.int 3))))
      (wExpr (wM1 false 2 appK (wTmp (.int 0))))
      (wExpr (wM1 false 2 appK (wCall [true, false] sp__law_take [] (fun c fs env => E c fs (outs [true] env)) (wCons (wVar 0) (wCons (wTmp (.int 10)) wNil))))))))
      (rgD 0 size.toNat) Dd [some st, some (.int size), some (.lst true []), x3, x4] ⟨⟩ := by
    intro st size x3 x4 Dd hst hs1 hs2 hDd
    refine FOR_rg (fun i e => ∃ st xs x3 x4, e = [some st, some (.int size), some (.lst true (dints xs)), x3, x4] ∧ Sto st ∧ xs.length = i ∧ Bd (10 ^ 30) xs) ⟨st, [], x3, x4, rfl, hst, rfl, fun x hx => by cases hx⟩ (fun i hi e ⟨st, xs, x3, x4, he, hst, hl, hb⟩ k hk => ?_) (fun e ⟨st, xs, x3, x4, he, hst, hl, hb⟩ => ?_)
    · subst he
      have put : ∀ v st' x3 x4, Sto st' → 0 ≤ v → v < 10 ^ 30 → k [some st', some (.int size), some (.lst true (dints xs ++ [.int v])), x3, x4] := fun v st' x3 x4 h1 h2 h3 =>
        hk _ ⟨st', xs ++ [v], x3, x4, by rw [show dints (xs ++ [v]) = dints xs ++ [D.int v] from List.map_append ..], h1, by simp [hl], fun x hx => by
          rcases List.mem_append.mp hx with q | q
          · exact hb x q
          · rw [List.mem_singleton.mp q]; exact ⟨h2, h3⟩⟩
      walk_at "go"
      refine ⟨st, _, rfl, hst, by decide, fun r st' hr hst => ?_⟩
      walk_at "go"
      · refine ⟨st', rfl, hst, fun r h1 h2 st' hst => ?_⟩
        walk_at "go"
        · walk_at "sz"
        · exact put _ _ _ _ hst (by split <;> omega) (by split <;> omega)
      · walk_at "sz"
      · exact put _ _ _ _ hst (by decide) (by decide)
      · refine ⟨st', _, rfl, hst, by decide, fun r st' hr hst => ?_⟩
        obtain ⟨a1, a2⟩ := hr
        walk_at "go"
        · walk_at "sz"
        · exact put _ _ _ _ hst (by omega) (by omega)
    · subst he
      refine hDd _ ?_
      walk_at "go"
      exact h xs (by omega) (by omega) hb _ hst
  obtain ⟨a1, a2⟩ := hr
  refine BR_dec (fun h1 => ?_) (fun h1 => ?_)
  · walk_at "go"
    refine ⟨_, _, rfl, hst, by decide, by decide, fun q h0 h1 st' hst => ?_⟩
    walk_at "go"
    all_goals first
      | omega
      | exact cut _ _ _ _ _ hst (by omega) (by omega) (fun e h => h)
  · walk_at "go"
    all_goals first
      | omega
      | exact cut _ _ _ _ _ hst (by omega) (by omega) (fun e h => h)


abbrev N__law_beside : List Str := ["store", "entries", "pick", "near", "at"]
def w__law_beside (EW : EWt) : WS :=
  (wSeq (wSet 2 (wCall [true, false] sp__law_take [] EW (wCons (wVar 0) (wCons (wTmp (.int 6)) wNil)))) <|
  (wSeq (wSet 3 (wOp (kd1 listK) (wCons (wVar 1) wNil))) <|
  (wSeq (wIf (wTB (wBin (kd2 eqK) (wVar 2) (wTmp (.int 0))))
  (wRet (wVar 3))
  wNext) <|
  (wSeq (wIf (wTB (wBin (kd2 eqK) (wVar 2) (wTmp (.int 1))))
  (wSeq (wSet 4 (wCall [true, false] sp__law_place [] EW (wCons (wVar 0) (wCons (wOp (kd1 lenK) (wCons (wVar 3) wNil)) wNil)))) <|
  (wSeq (wPutL false 3 (wVar 4) (wOp (kd2 min2K) (wCons (wBin (kd2 addK) (wBin (kd2 ixK) (wVar 3) (wVar 4)) (wTmp (.int 1))) (wCons (wBin (kd2 subK) (wBin (kd2 powK) (wTmp (.int 10)) (wTmp (.int 30))) (wTmp (.int 1))) wNil)))) <|
  (wRet (wVar 3))))
  wNext) <|
  (wSeq (wIf (wAnd (wTB (wBin (kd2 eqK) (wVar 2) (wTmp (.int 2)))) (wTB (wBin (kd2 ltK) (wOp (kd1 lenK) (wCons (wVar 3) wNil)) (wTmp (.int 25)))))
  (wRet (wBin (kd2 addK) (wVar 3) (wLst (wCons (wTmp (.int 0)) wNil))))
  wNext) <|
  (wSeq (wIf (wAnd (wTB (wBin (kd2 eqK) (wVar 2) (wTmp (.int 3)))) (wTB (wBin (kd2 gtK) (wOp (kd1 lenK) (wCons (wVar 3) wNil)) (wTmp (.int 1)))))
  (wRet (wOp slK01 (wCons (wVar 3) (wCons (wUn (kd1 negK) (wTmp (.int 1))) wNil))))
  wNext) <|
  (wRet (wCall [true] sp__law_counts [] EW (wCons (wVar 0) wNil)))))))))
theorem cut_last {xs : List Int} (h : 1 ≤ xs.length) : Vd.cutD (dints xs) none (some (-1)) = dints xs.dropLast := by
  unfold Vd.cutD HT.sIx
  rw [List.length_map]
  simp only [List.drop_zero]
  rw [List.dropLast_eq_take, ← List.map_take]
  refine congrArg (fun n => dints (xs.take n)) ?_
  simp
  omega
def sp__law_beside : SpD := fun ds Q E => ∃ st xs, ds = [st, .lst false (dints xs)] ∧ Sto st ∧ 1 ≤ xs.length ∧ xs.length ≤ 25 ∧ Bd (10 ^ 30) xs ∧ ∀ ys : List Int, 1 ≤ ys.length → ys.length ≤ 25 → Bd (10 ^ 30) ys → ∀ st', Sto st' → Q (.lst true (dints ys)) [some st']
theorem len__law_beside : ∀ ds Q E, sp__law_beside ds Q E → ds.length = 2 := fun ds Q E h => by
  unfold sp__law_beside at h
  obtain ⟨_, _, h, _⟩ := h
  rw [h]; rfl
theorem pf__law_beside : ∀ ds Q E, sp__law_beside ds Q E → w__law_beside (fun c fs env => E c fs (outs [true, false] env)) (dEnd [true, false] Q) (startE N__law_beside ds) := by
  rintro _ Q E ⟨st, xs, rfl, hs, h1, h2, hb, h⟩
  have hdl : (dints xs).length = xs.length := List.length_map ..
  walk_at "st"
  unfold w__law_beside
  walk_at "go"
  refine ⟨st, _, rfl, hs, by decide, fun r st' hr hst => ?_⟩
  walk_at "go"
  all_goals first
    | exact h xs h1 h2 hb _ hst
    | omega
    | (walk_at "sz"; done)
    | skip
  all_goals first
    | (refine ⟨_, rfl, hst, fun ys a b c st' hst => ?_⟩
       walk_at "go"
       exact h ys a b c _ hst)
    | (rw [show dints xs ++ [D.int 0] = dints (xs ++ [0]) from (List.map_append ..).symm]
       refine h (xs ++ [0]) (by simp) (by simp; omega) (fun x hx => ?_) _ hst
       rcases List.mem_append.mp hx with q | q
       · exact hb x q
       · rw [List.mem_singleton.mp q]; decide)
    | (rw [cut_last (by omega)]
       exact h xs.dropLast (by rw [List.length_dropLast]; omega) (by rw [List.length_dropLast]; omega) (fun x hx => hb x (List.dropLast_subset _ hx)) _ hst)
    | skip
  all_goals first
    | (refine ⟨_, _, rfl, hst, by omega, by omega, fun q h0 h1' st' hst => ?_⟩
       have hq : q.toNat < xs.length := by omega
       have hx := hb _ (List.getElem_mem hq)
       walk_at "go"
       refine AT_of (d := .int xs[q.toNat]) (atI_int h0 (by rw [List.getElem?_map, List.getElem?_eq_getElem hq]; rfl)) rfl ?_
       walk_at "go"
       · exact ⟨by decide, by decide, by decide⟩
       refine LSET_of (k := q.toNat) (ixN_int h0 (by rw [hdl]; omega)) ?_
       walk_at "go"
       rw [show (dints xs).set q.toNat (.int (if 999999999999999999999999999999 < xs[q.toNat] + 1 then 999999999999999999999999999999 else xs[q.toNat] + 1)) = dints (xs.set q.toNat (if 999999999999999999999999999999 < xs[q.toNat] + 1 then 999999999999999999999999999999 else xs[q.toNat] + 1)) from List.map_set.symm]
       refine h _ (by rw [List.length_set]; exact h1) (by rw [List.length_set]; exact h2) (fun x hx2 => ?_) _ hst
       rcases List.mem_or_eq_of_mem_set hx2 with e | e
       · exact hb x e
       · rw [e]; split <;> omega)
    | skip
  have ea : dints (xs ++ [0]) = dints xs ++ [D.int 0] := by
    show List.map _ _ = _
    rw [List.map_append]; rfl
  rw [← ea]
  refine h (xs ++ [0]) (by rw [List.length_append]; exact Nat.le_add_left ..) (by rw [List.length_append]; show xs.length + 1 ≤ 25; omega) (fun x hx => ?_) _ hst
  rcases List.mem_append.mp hx with q | q
  · exact hb x q
  · rw [List.mem_singleton.mp q]; decide


abbrev N__law_either : List Str := ["store", "entries"]
def w__law_either (EW : EWt) : WS :=
  (wSeq (wIf (wTB (wBin (kd2 eqK) (wCall [true, false] sp__law_take [] EW (wCons (wVar 0) (wCons (wTmp (.int 2)) wNil))) (wTmp (.int 0))))
  (wRet (wOp (kd1 tupleK) (wCons (wVar 1) wNil)))
  wNext) <|
  (wRet (wOp (kd1 listK) (wCons (wVar 1) wNil))))
def sp__law_either : SpD := fun ds Q E => ∃ st xs d, ds = [st, d] ∧ Sto st ∧ ((∃ o, d = .lst o xs) ∨ d = .tup xs) ∧ noOwnL xs = true ∧ ∀ st', Sto st' → Q (.tup xs) [some st'] ∧ Q (.lst true xs) [some st']
theorem len__law_either : ∀ ds Q E, sp__law_either ds Q E → ds.length = 2 := fun ds Q E ⟨_, _, _, h, _⟩ => by rw [h]; rfl
theorem pf__law_either : ∀ ds Q E, sp__law_either ds Q E → w__law_either (fun c fs env => E c fs (outs [true, false] env)) (dEnd [true, false] Q) (startE N__law_either ds) := by
  rintro _ Q E ⟨st, xs, d, rfl, hs, hd, hn, h⟩
  rcases hd with ⟨o, rfl⟩ | rfl
  all_goals
    walk_at "st"
    unfold w__law_either
    walk_at "rd"
    refine ⟨st, _, rfl, hs, by decide, fun r st' hr hst => ?_⟩
    walk_at "go"
    · exact (h _ hst).1
    · exact (h _ hst).2


abbrev N_shown : List Str := ["value"]
def w_shown (EW : EWt) : WS :=
  (wRet (wIfE (wTest (wIsi "int" (wVar 0))) (wOp (kd1 strK1) (wCons (wVar 0) wNil)) (wTmp (.str "(not an integer)"))))
/-- what shown takes: an integer that is not too long, True, False, or what is none -/
def ShOk (d : D) : Prop := (∃ i, d = .int i ∧ i.natAbs.log2 < 1920) ∨ (∃ b, d = .bl b) ∨ ((∃ t, tyN d = some t ∧ t ≠ "int" ∧ t ≠ "bool") ∧ noOwn d = true)
theorem ShOk.own {d : D} (h : ShOk d) : noOwn d = true := by
  rcases h with ⟨i, rfl, _⟩ | ⟨b, rfl⟩ | ⟨_, h⟩
  · rfl
  · rfl
  · exact h
theorem ShOk_int {i : Int} (h : i.natAbs < 2 ^ 1000) : ShOk (.int i) := .inl ⟨i, rfl, by
  have : i.natAbs.log2 < 1920 := by
    by_cases h0 : i.natAbs = 0
    · rw [h0]; decide
    · exact Nat.lt_of_lt_of_le ((Nat.log2_lt h0).mpr h) (by decide)
  exact this⟩
def sp_shown : SpD := fun ds Q E => ∃ d, ds = [d] ∧ ShOk d ∧ ∀ s : Str, LeS s 5000 → Q (.str s) []
theorem len_shown : ∀ ds Q E, sp_shown ds Q E → ds.length = 1 := fun ds Q E ⟨_, h, _⟩ => by rw [h]; rfl
theorem pf_shown : ∀ ds Q E, sp_shown ds Q E → w_shown (fun c fs env => E c fs (outs [false] env)) (dEnd [false] Q) (startE N_shown ds) := by
  rintro _ Q E ⟨d, rfl, hd, h⟩
  walk_at "st"
  unfold w_shown
  rcases hd with ⟨i, rfl, hi⟩ | ⟨b, rfl⟩ | ⟨⟨t, ht, h1, h2⟩, _⟩
  · walk_at "go"
    all_goals first
      | exact hi
      | exact h _ (show Str.length _ ≤ 5000 from Nat.le_trans (PyProof.Rows.int_text_len_1921 hi) (by decide))
  · walk_at "go"
    exact h _ (show Str.length _ ≤ 5000 by cases b <;> decide)
  · cases d with
    | int i => simp [tyN] at ht; exact absurd ht.symm h1
    | bl i => simp [tyN] at ht; exact absurd ht.symm h2
    | dik o k => simp [tyN] at ht
    | dit o k => simp [tyN] at ht
    | ins o c f => simp [tyN] at ht
    | exc c f => simp [tyN] at ht
    | _ =>
      walk_at "go"
      exact h _ (show Str.length _ ≤ 5000 by decide)


def w_BadNumber___init__ : W1 := (wJs [(wFmt (wCall [false] sp_shown [] NE (wCons (wVar 1) wNil))), (wTmp (.str " is not a whole number from ")), (wFmt (wCall [false] sp_shown [] NE (wCons (wVar 2) wNil))), (wTmp (.str " to ")), (wFmt (wCall [false] sp_shown [] NE (wCons (wVar 3) wNil)))] Str.empty)
def fl_BadNumber : List (Str × Nat) := [("value", 0), ("low", 1), ("high", 2)]
abbrev N_BadNumber___init__ : List Str := ["self", "value", "low", "high", "__class__"]
def ok_BadNumber (ds : List D) : Prop := ∃ d0 d1 d2, ds = [d0, d1, d2] ∧ ShOk d0 ∧ ShOk d1 ∧ ShOk d2
theorem pfx_BadNumber : ∀ ds, ds.length = 3 → ok_BadNumber ds → w_BadNumber___init__ (envX ds) fun _ _ => True := by
  rintro _ _ ⟨d0, d1, d2, rfl, h0, h1, h2⟩
  have l0 : Str.empty.length ≤ 0 := by decide
  have l1 : (Str.ofString " is not a whole number from ").length ≤ 200 := by decide
  have l2 : (Str.ofString " to ").length ≤ 200 := by decide
  unfold envX w_BadNumber___init__
  walk_at "rd"
  repeat (first | (with_reducible refine And.intro (by walk_at "sz") ?_))
  refine BR_yes h0.own ?_
  walk_at "rd"
  refine ⟨_, rfl, h0, fun s0 q0 => ?_⟩
  walk_at "rd"
  repeat (first | (with_reducible refine And.intro (by walk_at "sz") ?_))
  refine BR_yes h1.own ?_
  walk_at "rd"
  refine ⟨_, rfl, h1, fun s1 q1 => ?_⟩
  walk_at "rd"
  repeat (first | (with_reducible refine And.intro (by walk_at "sz") ?_))
  refine BR_yes h2.own ?_
  walk_at "rd"
  refine ⟨_, rfl, h2, fun s2 q2 => ?_⟩
  walk_at "rd"
  repeat' (with_reducible refine And.intro ?_ ?_)
  all_goals walk_at "sz"


abbrev N_is_count : List Str := ["value"]
def w_is_count (EW : EWt) : WS :=
  (wRet (wAndV (wIsi "int" (wVar 0)) (wAndV (wNotE (wIsi "bool" (wVar 0))) (wBin (kd2 geK) (wVar 0) (wTmp (.int 0))))))
/-- a count, or what is none -/
def isCnt : D → Bool
  | .int i => decide (0 ≤ i)
  | _ => false
def sp_is_count : SpD := fun ds Q E => ∃ d, ds = [d] ∧ (tyN d).isSome = true ∧ Q (.bl (isCnt d)) []
theorem len_is_count : ∀ ds Q E, sp_is_count ds Q E → ds.length = 1 := fun ds Q E ⟨_, h, _⟩ => by rw [h]; rfl
theorem pf_is_count : ∀ ds Q E, sp_is_count ds Q E → w_is_count (fun c fs env => E c fs (outs [false] env)) (dEnd [false] Q) (startE N_is_count ds) := by
  rintro _ Q E ⟨d, rfl, hd, h⟩
  walk_at "st"
  unfold w_is_count
  cases d with
  | dik o k => cases hd
  | dit o k => cases hd
  | ins o c f => cases hd
  | exc c f => cases hd
  | _ => walk_at "go"; all_goals first | exact h | skip


def w_NotACount___init__ : W1 := (wJs [(wTmp (.str "the entry at index ")), (wFmt (wCall [false] sp_shown [] NE (wCons (wVar 1) wNil))), (wTmp (.str " is not a count"))] Str.empty)
def fl_NotACount : List (Str × Nat) := [("index", 0)]
abbrev N_NotACount___init__ : List Str := ["self", "index", "__class__"]
def ok_NotACount (ds : List D) : Prop := ∃ d0, ds = [d0] ∧ ShOk d0
theorem pfx_NotACount : ∀ ds, ds.length = 1 → ok_NotACount ds → w_NotACount___init__ (envX ds) fun _ _ => True := by
  rintro _ _ ⟨d0, rfl, h0⟩
  have l0 : Str.empty.length ≤ 0 := by decide
  have l1 : (Str.ofString "the entry at index ").length ≤ 200 := by decide
  have l2 : (Str.ofString " is not a count").length ≤ 200 := by decide
  unfold envX w_NotACount___init__
  walk_at "rd"
  repeat (first | (with_reducible refine And.intro (by walk_at "sz") ?_))
  refine BR_yes h0.own ?_
  walk_at "rd"
  refine ⟨_, rfl, h0, fun s0 q0 => ?_⟩
  walk_at "rd"
  repeat' (with_reducible refine And.intro ?_ ?_)
  all_goals walk_at "sz"


abbrev N_Tally___init__ : List Str := ["self", "counts", "index", "value"]
def w_Tally___init__ (EW : EWt) : WS :=
  (wSeq (wIf (wOr (wTB (wBin (kd2 ltK) (wOp (kd1 lenK) (wCons (wVar 1) wNil)) (wTmp (.int 1)))) (wTB (wBin (kd2 gtK) (wOp (kd1 lenK) (wCons (wVar 1) wNil)) (wBin (kd2 addK) (wTmp (.int 24)) (wTmp (.int 1))))))
  (wRaise EW "BadNumber" 3 fl_BadNumber ok_BadNumber (wCons (wOp (kd1 lenK) (wCons (wVar 1) wNil)) (wCons (wTmp (.int 1)) (wCons (wBin (kd2 addK) (wTmp (.int 24)) (wTmp (.int 1))) wNil))))
  wNext) <|
  (wSeq (wFor (wEnum (wVar 1)) (tgT [2, 3])
  (wIf (wNot (wTest (wCall [false] sp_is_count [] EW (wCons (wVar 3) wNil))))
  (wRaise EW "NotACount" 1 fl_NotACount ok_NotACount (wCons (wVar 2) wNil))
  wNext)) <|
  (wFldPut false "Tally" "entries" 0 (wOp (kd1 tupleK) (wCons (wVar 1) wNil)))))
def sp_Tally___init__ : SpD := fun ds Q E => ∃ c ys, ds = [.ins true "Tally" [], c] ∧ SeqOf c ys ∧ noOwnL ys = true ∧ ys.length ≤ 100000 ∧ (∀ y ∈ ys, (tyN y).isSome = true) ∧
  (((ys.length < 1 ∨ 25 < ys.length) ∧ ∀ os, E "BadNumber" (fldsD fl_BadNumber [.int ys.length, .int 1, .int 25]) os) ∨
    ((1 ≤ ys.length ∧ ys.length ≤ 25) ∧ ((∃ (i : Nat) (y : D), ys[i]? = some y ∧ isCnt y = false ∧ (∀ j < i, ∀ y, ys[j]? = some y → isCnt y = true) ∧ ∀ os, E "NotACount" (fldsD fl_NotACount [.int i]) os) ∨
      ∃ xs : List Int, ys = dints xs ∧ (∀ x ∈ xs, 0 ≤ x) ∧ Q .non [some (TL true xs)])))
theorem len_Tally___init__ : ∀ ds Q E, sp_Tally___init__ ds Q E → ds.length = 2 := fun ds Q E ⟨_, _, h, _⟩ => by rw [h]; rfl
theorem pf_Tally___init__ : ∀ ds Q E, sp_Tally___init__ ds Q E → w_Tally___init__ (fun c fs env => E c fs (outs [true, false] env)) (dEnd [true, false] Q) (startE N_Tally___init__ ds) := by
  rintro _ Q E ⟨c, ys, rfl, hc, hn, hl, ht, h⟩
  have okb : ok_BadNumber [.int ys.length, .int 1, .int 25] := ⟨_, _, _, rfl, ShOk_int (by
    have : ((ys.length : Nat) : Int).natAbs = ys.length := by omega
    rw [this]
    exact Nat.lt_of_le_of_lt hl (by decide)), ShOk_int (by decide), ShOk_int (by decide)⟩
  rcases hc with rfl | rfl
  all_goals
    walk_at "st"
    unfold w_Tally___init__
    walk_at "go"
    all_goals first
      | exact okb
      | (rcases h with ⟨_, h⟩ | ⟨h, _⟩
         · exact h _
         · omega)
      | skip
    have hle : 1 ≤ ys.length ∧ ys.length ≤ 25 := by omega
    rcases h with ⟨h, _⟩ | ⟨_, h⟩
    · omega
    refine FOR_en (fun i e => ∃ x2 x3, e = [some (.ins true "Tally" []), _, x2, x3] ∧ ∀ j < i, ∀ y, ys[j]? = some y → isCnt y = true) ⟨none, none, rfl, fun j hj => by omega⟩ (fun i x hx e ⟨x2, x3, he, hI⟩ k hk => ?_) (fun e ⟨x2, x3, he, hI⟩ => ?_)
    · subst he
      have hm := List.mem_of_getElem? hx
      have hi : i < ys.length := (List.getElem?_eq_some_iff.mp hx).1
      have hox : noOwn x = true := (noOwnL_iff.mp hn) _ hm
      walk_at "go"
      refine ⟨x, rfl, ht x hm, ?_⟩
      walk_at "go"
      refine BR_of (fun hq => ?_) (fun hq => ?_)
      · walk_at "go"
        refine hk _ ⟨_, _, rfl, fun j hj y hy => ?_⟩
        by_cases e : j = i
        · subst e
          rw [hx] at hy
          cases hy
          exact hq
        · exact hI j (by omega) y hy
      · walk_at "go"
        · exact ⟨_, rfl, ShOk_int (by omega)⟩
        · rcases h with ⟨i', y', hy', hc', hj', h⟩ | ⟨xs, rfl, hxs, h⟩
          · have : i' = i := by
              rcases Nat.lt_trichotomy i' i with q | q | q
              · rw [hI i' q y' hy'] at hc'; cases hc'
              · exact q
              · rw [hj' i q x hx] at hq; cases hq
            subst this
            exact h _
          · rw [List.getElem?_map] at hx
            cases e : xs[i]? with
            | none => rw [e] at hx; cases hx
            | some v =>
              rw [e] at hx
              cases hx
              have := hxs v (List.mem_of_getElem? e)
              simp [isCnt] at hq
              omega
    · subst he
      rcases h with ⟨i', y', hy', hc', hj', h⟩ | ⟨xs, rfl, hxs, h⟩
      · have hi : i' < ys.length := (List.getElem?_eq_some_iff.mp hy').1
        rw [hI i' hi y' hy'] at hc'
        cases hc'
      · walk_at "go"
        exact h


abbrev N__law_made_of : List Str := ["store", "entries", "handed", "tally"]
def w__law_made_of (EW : EWt) : WS :=
  (wSeq (wSet 2 (wCall [true, false] sp__law_either [] EW (wCons (wVar 0) (wCons (wVar 1) wNil)))) <|
  (wSeq (wSet 3 (wMake "Tally" [false] sp_Tally___init__ [] EW (wCons (wVar 2) wNil))) <|
  (wSeq (wIf (wTest (wIsi "list" (wVar 2)))
  (wSeq (wExpr (wM1 false 2 appK (wTmp (.int 1)))) <|
  (wPutL false 2 (wTmp (.int 0)) (wTmp (.int 7))))
  wNext) <|
  (wRet (wVar 3)))))
def sp__law_made_of : SpD := fun ds Q E => ∃ st xs, ds = [st, .lst false (dints xs)] ∧ Sto st ∧ 1 ≤ xs.length ∧ xs.length ≤ 25 ∧ (∀ x ∈ xs, 0 ≤ x) ∧ ∀ st', Sto st' → Q (TL true xs) [some st']
theorem len__law_made_of : ∀ ds Q E, sp__law_made_of ds Q E → ds.length = 2 := fun ds Q E h => by
  unfold sp__law_made_of at h
  obtain ⟨_, _, h, _⟩ := h
  rw [h]; rfl
theorem pf__law_made_of : ∀ ds Q E, sp__law_made_of ds Q E → w__law_made_of (fun c fs env => E c fs (outs [true, false] env)) (dEnd [true, false] Q) (startE N__law_made_of ds) := by
  rintro _ Q E ⟨st, xs, rfl, hs, h1, h2, hx, h⟩
  walk_at "st"
  unfold w__law_made_of
  walk_at "go"
  refine ⟨st, dints xs, _, rfl, hs, .inl ⟨_, rfl⟩, noOwnL_ints, fun st' hst => ⟨?_, ?_⟩⟩
  · walk_at "go"
    refine ⟨.tup (dints xs), dints xs, rfl, .inr rfl, noOwnL_ints, by rw [List.length_map]; omega, fun y hy => by obtain ⟨i, _, rfl⟩ := List.mem_map.mp hy; rfl, .inr ⟨by rw [List.length_map]; omega, .inr ⟨xs, rfl, hx, ?_⟩⟩⟩
    walk_at "go"
    exact h _ hst
  · walk_at "go"
    refine ⟨.lst false (dints xs), dints xs, rfl, .inl rfl, noOwnL_ints, by rw [List.length_map]; omega, fun y hy => by obtain ⟨i, _, rfl⟩ := List.mem_map.mp hy; rfl, .inr ⟨by rw [List.length_map]; omega, .inr ⟨xs, rfl, hx, ?_⟩⟩⟩
    walk_at "go"
    · walk_at "sz"
    refine LSET_of (k := 0) (ixN_nth (i := 0) (by simp)) ?_
    walk_at "go"
    exact h _ hst


abbrev N_Tally_counts : List Str := ["self"]
def w_Tally_counts (EW : EWt) : WS :=
  (wRet (wFld "Tally" "entries" (wVar 0)))
def sp_Tally_counts : SpD := fun ds Q E => ∃ xs : List Int, ds = [TL false xs] ∧ Q (.tup (dints xs)) []
theorem len_Tally_counts : ∀ ds Q E, sp_Tally_counts ds Q E → ds.length = 1 := fun ds Q E h => by
  unfold sp_Tally_counts at h
  obtain ⟨_, h, _⟩ := h
  rw [h]; rfl
theorem pf_Tally_counts : ∀ ds Q E, sp_Tally_counts ds Q E → w_Tally_counts (fun c fs env => E c fs (outs [false] env)) (dEnd [false] Q) (startE N_Tally_counts ds) := by
  rintro _ Q E ⟨xs, rfl, h⟩
  walk_at "st"
  unfold w_Tally_counts
  walk_at "go"
  all_goals first | exact h | (rw [List.length_map]; exact h)


abbrev N__law_is_whole : List Str := ["value"]
def w__law_is_whole (EW : EWt) : WS :=
  (wRet (wAndV (wIsi "int" (wVar 0)) (wNotE (wIsi "bool" (wVar 0)))))
/-- a whole number | any other datum of a built-in type -/
def sp__law_is_whole : SpD := fun ds Q E => ∃ d, ds = [d] ∧ (((∃ i, d = .int i) ∧ Q (.bl true) []) ∨ ((∃ t, tyN d = some t ∧ t ≠ "int") ∧ Q (.bl false) []))
theorem len__law_is_whole : ∀ ds Q E, sp__law_is_whole ds Q E → ds.length = 1 := fun ds Q E ⟨_, h, _⟩ => by rw [h]; rfl
theorem pf__law_is_whole : ∀ ds Q E, sp__law_is_whole ds Q E → w__law_is_whole (fun c fs env => E c fs (outs [false] env)) (dEnd [false] Q) (startE N__law_is_whole ds) := by
  rintro _ Q E ⟨d, rfl, ⟨⟨i, rfl⟩, h⟩ | ⟨⟨t, ht, hn⟩, h⟩⟩
  · walk_at "st"
    unfold w__law_is_whole
    walk_at "go"
    try exact h
  · walk_at "st"
    unfold w__law_is_whole
    cases d with
    | int i => simp [tyN] at ht; exact absurd ht.symm hn
    | dik o k => simp [tyN] at ht
    | dit o k => simp [tyN] at ht
    | ins o c f => simp [tyN] at ht
    | exc c f => simp [tyN] at ht
    | _ => walk_at "go"; try exact h


abbrev N__law_same : List Str := ["actual", "due", "left", "pair", "one", "two", "k"]
def w__law_same (EW : EWt) : WS :=
  (wSeq (wSet 2 (wLst (wCons (wTup (wCons (wVar 0) (wCons (wVar 1) wNil))) wNil))) <|
  (wSeq (wWhile (wTB (wBin (kd2 gtK) (wOp (kd1 lenK) (wCons (wVar 2) wNil)) (wTmp (.int 0))))
  (wSeq (wSet 3 (wM0 2 popK)) <|
  (wSeq (wSet 4 (wBin (kd2 ixK) (wVar 3) (wTmp (.int 0)))) <|
  (wSeq (wSet 5 (wBin (kd2 ixK) (wVar 3) (wTmp (.int 1)))) <|
  (wIf (wOr (wTB (wBin (kd2 isK) (wVar 5) (wTmp .non))) (wOr (wTB (wBin (kd2 isK) (wVar 5) (wTmp (.bl true)))) (wTB (wBin (kd2 isK) (wVar 5) (wTmp (.bl false))))))
  (wIf (wNot (wOr (wAnd (wTB (wBin (kd2 isK) (wVar 5) (wTmp .non))) (wTB (wBin (kd2 isK) (wVar 4) (wTmp .non)))) (wOr (wAnd (wTB (wBin (kd2 isK) (wVar 5) (wTmp (.bl true)))) (wTB (wBin (kd2 isK) (wVar 4) (wTmp (.bl true))))) (wAnd (wTB (wBin (kd2 isK) (wVar 5) (wTmp (.bl false)))) (wTB (wBin (kd2 isK) (wVar 4) (wTmp (.bl false))))))))
  (wRet (wTmp (.bl false)))
  wNext)
  (wIf (wTest (wIsi "int" (wVar 5)))
  (wIf (wOr (wNot (wTest (wCall [false] sp__law_is_whole [] EW (wCons (wVar 4) wNil)))) (wTB (wBin (kd2 neK) (wVar 4) (wVar 5))))
  (wRet (wTmp (.bl false)))
  wNext)
  (wIf (wTest (wIsi "str" (wVar 5)))
  (wIf (wOr (wNot (wTest (wIsi "str" (wVar 4)))) (wTB (wBin (kd2 neK) (wVar 4) (wVar 5))))
  (wRet (wTmp (.bl false)))
  wNext)
  (wSeq (wIf (wAnd (wTest (wIsi "tuple" (wVar 5))) (wNot (wTest (wIsi "tuple" (wVar 4)))))
  (wRet (wTmp (.bl false)))
  wNext) <|
  (wSeq (wIf (wAnd (wTest (wIsi "list" (wVar 5))) (wNot (wTest (wIsi "list" (wVar 4)))))
  (wRet (wTmp (.bl false)))
  wNext) <|
  (wSeq (wIf (wTB (wBin (kd2 neK) (wOp (kd1 lenK) (wCons (wVar 4) wNil)) (wOp (kd1 lenK) (wCons (wVar 5) wNil))))
  (wRet (wTmp (.bl false)))
  wNext) <|
  (wFor (wRg1 (wOp (kd1 lenK) (wCons (wVar 5) wNil))) (tgN 6)
  (wExpr (wM1 false 2 appK (wTup (wCons (wBin (kd2 ixK) (wVar 4) (wVar 6)) (wCons (wBin (kd2 ixK) (wVar 5) (wVar 6)) wNil)))))))))))))))) <|
  (wRet (wTmp (.bl true)))))
def sp__law_same : SpD := fun ds Q E => ∃ a, ds = [a, a] ∧ noOwn a = true ∧ Pl a = true ∧ sz a ≤ 100000 ∧ Q (.bl true) []
theorem len__law_same : ∀ ds Q E, sp__law_same ds Q E → ds.length = 2 := fun ds Q E ⟨_, h, _⟩ => by rw [h]; rfl
abbrev two (x : D) : D := .tup [x, x]
theorem noOwn_two {x : D} (h : noOwn x = true) : noOwn (two x) = true := by
  show (noOwn x && (noOwn x && true)) = true
  rw [h]; rfl
theorem pfs__law_same {EW : EWt} {a : D} {Q : D → List (Option D) → Prop} (hn : noOwn a = true) (hp : Pl a = true) (hs : sz a ≤ 100000) (h : Q (.bl true) []) : w__law_same EW (dEnd [false, false] Q) (startE N__law_same [a, a]) := by
  walk_at "st"
  unfold w__law_same
  walk_at "go"
  refine WHILE_ind (fun m e => ∃ xs x3 x4 x5 x6, e = [some a, some a, some (.lst true (xs.map two)), x3, x4, x5, x6] ∧ (∀ x ∈ xs, noOwn x = true ∧ Pl x = true) ∧ szL xs = m ∧ m ≤ 100000) (sz a)
    ⟨[a], none, none, none, none, rfl, fun x hx => by rw [List.mem_singleton.mp hx]; exact ⟨hn, hp⟩, by show sz a + 0 = sz a; omega, hs⟩ ?_
  rintro m _ ⟨xs, x3, x4, x5, x6, rfl, hx, rfl, hm⟩ k hk
  walk_at "rd"
  refine BR_dec (fun h1 => ?_) (fun h1 => ?_)
  · obtain ⟨ys, y, rfl⟩ : ∃ ys y, xs = ys ++ [y] := by
      rcases List.eq_nil_or_concat xs with e | ⟨ys, y, e⟩
      · subst e; simp at h1
      · exact ⟨ys, y, by simpa using e⟩
    have hy := hx y (by simp)
    have hsz : szL (ys ++ [y]) = szL ys + sz y := by rw [szL_app]; show szL ys + (sz y + 0) = _; omega
    have hk' : ∀ zs x3 x4 x5 x6, (∀ x ∈ zs, noOwn x = true ∧ Pl x = true) → szL zs < sz y → k [some a, some a, some (.lst true (ys.map two ++ zs.map two)), x3, x4, x5, x6] := fun zs x3 x4 x5 x6 hz hl =>
      hk (szL (ys ++ zs)) _ (by rw [szL_app, hsz]; omega) ⟨ys ++ zs, x3, x4, x5, x6, by rw [List.map_append], fun x hx2 => by
        rcases List.mem_append.mp hx2 with q | q
        · exact hx x (List.mem_append_left _ q)
        · exact hz x q, rfl, by rw [szL_app]; omega⟩
    have hk0 : ∀ x3 x4 x5 x6, k [some a, some a, some (.lst true (ys.map two)), x3, x4, x5, x6] := fun x3 x4 x5 x6 => by
      have := hk' [] x3 x4 x5 x6 (fun _ h => by cases h) (by show 0 < _; have := sz_pos y; omega)
      simpa using this
    rw [show (ys ++ [y]).map two = ys.map two ++ [two y] from by simp]
    walk_at "rd"
    refine POPL_of ?_
    have seq : ∀ (d : D) (zs : List D), y = d → sz d = 1 + szL zs → noOwnL zs = true → PlL zs = true → ((∃ o, d = .lst o zs) ∨ d = .tup zs) → noOwn d = true → noOwn (two d) = true → ∀ (Dd : Dn) (x6 : Option D), Dd.nx = k →
        FOR (tgN 6) (wExpr (wM1 false 2 appK (wTup (wCons (wBin (kd2 ixK) (wVar 4) (wVar 6)) (wCons (wBin (kd2 ixK) (wVar 5) (wVar 6)) wNil))))) (rgD 0 zs.length) Dd [some a, some a, some (.lst true (ys.map two)), some (two d), some d, some d, x6] ⟨⟩ := by
      intro d zs hd hsd hno hpl hform hod ho2 Dd x6 hDd
      refine FOR_rg (fun i e => ∃ x6, e = [some a, some a, some (.lst true (ys.map two ++ (zs.take i).map two)), some (two d), some d, some d, x6]) ⟨x6, by simp⟩ (fun i hi e ⟨x6, he⟩ k2 hk2 => ?_) (fun e ⟨x6, he⟩ => ?_)
      · subst he
        have hz : zs[i]? = some zs[i] := List.getElem?_eq_getElem hi
        have hon : noOwn zs[i] = true := (noOwnL_iff.mp hno) _ (List.getElem_mem hi)
        have hat : ∀ K : D → Prop, K zs[i] → AT zs ((0 : Int) + (i : Nat)) K ⟨⟩ := fun K hK => by
          rw [Int.zero_add]
          exact AT_of (atI_nth hz) hon hK
        have hlz := szL_len (xs := zs)
        have hly := szL_len (xs := ys)
        have fin : k2 [some a, some a, some (.lst true (ys.map two ++ (zs.take i).map two ++ [two zs[i]])), some (two d), some d, some d, some (.int (0 + (i : Nat)))] := by
          refine hk2 _ ⟨some (.int (0 + (i : Nat))), ?_⟩
          have et : (zs.take (i + 1)).map two = (zs.take i).map two ++ [two zs[i]] := by
            rw [List.take_succ, hz, List.map_append]; rfl
          rw [et, List.append_assoc]
        have szc : SZ ((ys.map two ++ (zs.take i).map two).length + 1) := SZ_of (by
          rw [List.length_append, List.length_map, List.length_map, List.length_take]
          subst hd
          omega)
        rcases hform with ⟨o, rfl⟩ | rfl
        all_goals
          walk_at "rd"
          refine hat _ ?_
          walk_at "rd"
          refine hat _ ?_
          walk_at "go"
          all_goals first | exact szc | exact fin
      · subst he
        rw [hDd]
        subst hd
        exact hk' zs _ _ _ _ (fun x hx2 => ⟨(noOwnL_iff.mp hno) x hx2, PlL_mem hpl x hx2⟩) (by omega) |> fun q => by simpa [List.take_length] using q
    cases y with
    | non => walk_at "go"; exact hk0 _ _ _ _
    | bl b => cases b <;> (walk_at "go"; exact hk0 _ _ _ _)
    | int i =>
      walk_at "go"
      refine ⟨_, rfl, .inl ⟨⟨i, rfl⟩, ?_⟩⟩
      walk_at "go"
      exact hk0 _ _ _ _
    | str x =>
      walk_at "go"
      refine NED_of ?_ ?_ ?_
      · exact plD_str hy.2
      · exact plD_str hy.2
      · rw [EQB_str]
        walk_at "go"
        exact hk0 _ _ _ _
    | tup zs =>
      have hno : noOwnL zs = true := hy.1
      have hb : szL (ys ++ [.tup zs]) ≤ 100000 := hm
      have hb2 : sz (.tup zs) = 1 + szL zs := rfl
      have hb3 := szL_len (xs := zs)
      have ho2 := noOwn_two hy.1
      walk_at "go"
      all_goals first
        | omega
        | exact seq (.tup zs) zs rfl rfl hno hy.2 (.inr rfl) hy.1 ho2 _ _ rfl
    | lst o zs =>
      have hno : (!o && noOwnL zs) = true := hy.1
      rw [Bool.and_eq_true] at hno
      obtain ⟨ho, hno⟩ := hno
      have ho' : o = false := by simpa using ho
      subst ho'
      have hb : szL (ys ++ [.lst false zs]) ≤ 100000 := hm
      have hb2 : sz (.lst false zs) = 1 + szL zs := rfl
      have hb3 := szL_len (xs := zs)
      have ho2 := noOwn_two hy.1
      walk_at "go"
      all_goals first
        | omega
        | exact seq (.lst false zs) zs rfl rfl hno hy.2 (.inl ⟨_, rfl⟩) hy.1 ho2 _ _ rfl
    | _ => cases hy.2
  · walk_at "go"
theorem pf__law_same : ∀ ds Q E, sp__law_same ds Q E → w__law_same (fun c fs env => E c fs (outs [false, false] env)) (dEnd [false, false] Q) (startE N__law_same ds) := by
  rintro _ Q E ⟨a, rfl, hn, hp, hs, h⟩
  exact pfs__law_same hn hp hs h


abbrev N_Tally_total : List Str := ["self"]
def w_Tally_total (EW : EWt) : WS :=
  (wRet (wOp (kd1 sumK) (wCons (wFld "Tally" "entries" (wVar 0)) wNil)))
def sp_Tally_total : SpD := fun ds Q E => ∃ xs : List Int, ds = [TL false xs] ∧ Q (.int xs.sum) []
theorem len_Tally_total : ∀ ds Q E, sp_Tally_total ds Q E → ds.length = 1 := fun ds Q E h => by
  unfold sp_Tally_total at h
  obtain ⟨_, h, _⟩ := h
  rw [h]; rfl
theorem pf_Tally_total : ∀ ds Q E, sp_Tally_total ds Q E → w_Tally_total (fun c fs env => E c fs (outs [false] env)) (dEnd [false] Q) (startE N_Tally_total ds) := by
  rintro _ Q E ⟨xs, rfl, h⟩
  walk_at "st"
  unfold w_Tally_total
  walk_at "go"
  all_goals first | exact h | (rw [List.length_map]; exact h)


abbrev N_Tally_points : List Str := ["self"]
def w_Tally_points (EW : EWt) : WS :=
  (wRet (wBin (kd2 subK) (wOp (kd1 lenK) (wCons (wFld "Tally" "entries" (wVar 0)) wNil)) (wTmp (.int 1))))
def sp_Tally_points : SpD := fun ds Q E => ∃ xs : List Int, ds = [TL false xs] ∧ Q (.int ((xs.length : Int) - 1)) []
theorem len_Tally_points : ∀ ds Q E, sp_Tally_points ds Q E → ds.length = 1 := fun ds Q E h => by
  unfold sp_Tally_points at h
  obtain ⟨_, h, _⟩ := h
  rw [h]; rfl
theorem pf_Tally_points : ∀ ds Q E, sp_Tally_points ds Q E → w_Tally_points (fun c fs env => E c fs (outs [false] env)) (dEnd [false] Q) (startE N_Tally_points ds) := by
  rintro _ Q E ⟨xs, rfl, h⟩
  walk_at "st"
  unfold w_Tally_points
  walk_at "go"
  all_goals first | exact h | (rw [List.length_map]; exact h)


abbrev N_check_number : List Str := ["value", "low", "high"]
def w_check_number (EW : EWt) : WS :=
  (wSeq (wIf (wOr (wNot (wTest (wIsi "int" (wVar 0)))) (wTest (wIsi "bool" (wVar 0))))
  (wRaise EW "BadNumber" 3 fl_BadNumber ok_BadNumber (wCons (wVar 0) (wCons (wVar 1) (wCons (wVar 2) wNil))))
  wNext) <|
  (wIf (wOr (wTB (wBin (kd2 ltK) (wVar 0) (wVar 1))) (wTB (wBin (kd2 gtK) (wVar 0) (wVar 2))))
  (wRaise EW "BadNumber" 3 fl_BadNumber ok_BadNumber (wCons (wVar 0) (wCons (wVar 1) (wCons (wVar 2) wNil))))
  wNext))
/-- a whole number from lo to hi -/
def inR (lo hi : Int) : D → Bool
  | .int i => decide (lo ≤ i) && decide (i ≤ hi)
  | _ => false
def sp_check_number : SpD := fun ds Q E => ∃ v lo hi, ds = [v, .int lo, .int hi] ∧ noOwn v = true ∧ (tyN v).isSome = true ∧ lo.natAbs < 2 ^ 1000 ∧ hi.natAbs < 2 ^ 1000 ∧
  ((inR lo hi v = true ∧ Q .non []) ∨ (inR lo hi v = false ∧ ShOk v ∧ ∀ os, E "BadNumber" (fldsD fl_BadNumber [v, .int lo, .int hi]) os))
theorem len_check_number : ∀ ds Q E, sp_check_number ds Q E → ds.length = 3 := fun ds Q E h => by
  unfold sp_check_number at h
  obtain ⟨_, _, _, h, _⟩ := h
  rw [h]; rfl
theorem pf_check_number : ∀ ds Q E, sp_check_number ds Q E → w_check_number (fun c fs env => E c fs (outs [false, false, false] env)) (dEnd [false, false, false] Q) (startE N_check_number ds) := by
  rintro _ Q E ⟨v, lo, hi, rfl, hn, ht, hl, hh, h⟩
  have bad : inR lo hi v = false → ok_BadNumber [v, .int lo, .int hi] ∧ E "BadNumber" (fldsD fl_BadNumber [v, .int lo, .int hi]) [] := fun q => by
    rcases h with ⟨h1, _⟩ | ⟨_, h2, h3⟩
    · rw [q] at h1; cases h1
    · exact ⟨⟨_, _, _, rfl, h2, ShOk_int hl, ShOk_int hh⟩, h3 _⟩
  walk_at "st"
  unfold w_check_number
  cases v with
  | int i =>
    walk_at "go"
    all_goals first
      | exact (bad (by simp [inR]; omega)).1
      | exact (bad (by simp [inR]; omega)).2
      | skip
    rcases h with ⟨_, h⟩ | ⟨h, _⟩
    · exact h
    · simp [inR] at h
      omega
  | dik o k => cases ht
  | dit o k => cases ht
  | ins o c f => cases ht
  | exc c f => cases ht
  | bl b =>
    walk_at "go"
    all_goals first
      | exact (bad rfl).1
      | exact (bad rfl).2
  | tup zs =>
    have hz : noOwnL zs = true := hn
    walk_at "go"
    all_goals first
      | (rw [frzL_of hz]; exact (bad rfl).1)
      | (rw [frzL_of hz]; exact (bad rfl).2)
  | lst o zs =>
    have hz : (!o && noOwnL zs) = true := hn
    rw [Bool.and_eq_true] at hz
    obtain ⟨ho, hz⟩ := hz
    have ho' : o = false := by simpa using ho
    subst ho'
    walk_at "go"
    all_goals first
      | (rw [frzL_of hz]; exact (bad rfl).1)
      | (rw [frzL_of hz]; exact (bad rfl).2)
  | _ =>
    walk_at "go"
    all_goals first
      | exact (bad rfl).1
      | exact (bad rfl).2


abbrev N_entry_at : List Str := ["entries", "k"]
def w_entry_at (EW : EWt) : WS :=
  (wSeq (wIf (wTB (wBin (kd2 ltK) (wVar 1) (wOp (kd1 lenK) (wCons (wVar 0) wNil))))
  (wRet (wBin (kd2 ixK) (wVar 0) (wVar 1)))
  wNext) <|
  (wRet (wTmp (.int 0))))
def sp_entry_at : SpD := fun ds Q E => ∃ (xs : List Int) (k : Nat), ds = [.tup (dints xs), .int k] ∧ Q (.int (xs.getD k 0)) []
theorem len_entry_at : ∀ ds Q E, sp_entry_at ds Q E → ds.length = 2 := fun ds Q E ⟨_, _, h, _⟩ => by rw [h]; rfl
theorem pf_entry_at : ∀ ds Q E, sp_entry_at ds Q E → w_entry_at (fun c fs env => E c fs (outs [false, false] env)) (dEnd [false, false] Q) (startE N_entry_at ds) := by
  rintro _ Q E ⟨xs, k, rfl, h⟩
  walk_at "st"
  unfold w_entry_at
  walk_at "go"
  · rename_i h1
    try rw [List.length_map] at h1
    have h2 : k < xs.length := by omega
    refine AT_of (d := .int xs[k]) (atI_nth (by rw [List.getElem?_map, List.getElem?_eq_getElem h2]; rfl)) rfl ?_
    walk_at "go"
    rw [List.getD_eq_getElem?_getD, List.getElem?_eq_getElem h2] at h
    exact h
  · rename_i h1
    try rw [List.length_map] at h1
    rw [List.getD_eq_getElem?_getD, List.getElem?_eq_none (by omega)] at h
    exact h


abbrev N_Tally_at : List Str := ["self", "k"]
def w_Tally_at (EW : EWt) : WS :=
  (wSeq (wExpr (wCall [false, false, false] sp_check_number [] EW (wCons (wVar 1) (wCons (wTmp (.int 0)) (wCons (wTmp (.int 24)) wNil))))) <|
  (wRet (wCall [false, false] sp_entry_at [] EW (wCons (wFld "Tally" "entries" (wVar 0)) (wCons (wVar 1) wNil)))))
def sp_Tally_at : SpD := fun ds Q E => ∃ xs k, ds = [TL false xs, k] ∧ noOwn k = true ∧ (tyN k).isSome = true ∧
  ((∃ n : Nat, k = .int n ∧ n ≤ 24 ∧ Q (.int (xs.getD n 0)) []) ∨ (inR 0 24 k = false ∧ ShOk k ∧ ∀ os, E "BadNumber" (fldsD fl_BadNumber [k, .int 0, .int 24]) os))
theorem len_Tally_at : ∀ ds Q E, sp_Tally_at ds Q E → ds.length = 2 := fun ds Q E h => by
  unfold sp_Tally_at at h
  obtain ⟨_, _, h, _⟩ := h
  rw [h]; rfl
theorem pf_Tally_at : ∀ ds Q E, sp_Tally_at ds Q E → w_Tally_at (fun c fs env => E c fs (outs [false, false] env)) (dEnd [false, false] Q) (startE N_Tally_at ds) := by
  rintro _ Q E ⟨xs, k, rfl, hn, ht, h⟩
  walk_at "st"
  unfold w_Tally_at
  walk_at "go"
  refine ⟨_, _, _, rfl, hn, ht, by decide, by decide, ?_⟩
  rcases h with ⟨n, rfl, hk, h⟩ | ⟨h1, h2, h3⟩
  · refine .inl ⟨by simp [inR]; omega, ?_⟩
    walk_at "go"
    refine ⟨xs, n, rfl, ?_⟩
    walk_at "go"
    try exact h
  · refine .inr ⟨h1, h2, fun os => ?_⟩
    walk_at "go"
    try exact h3 _


abbrev N__law_tells : List Str := ["tally", "due", "wide", "again", "k"]
def w__law_tells (EW : EWt) : WS :=
  (wSeq (wSet 2 (wBin (kd2 addK) (wOp (kd1 listK) (wCons (wVar 1) wNil)) (wBin (kd2 mulK) (wLst (wCons (wTmp (.int 0)) wNil)) (wTmp (.int 25))))) <|
  (wSeq (wFor (wRg1 (wTmp (.int 2))) (tgN 3)
  (wSeq (wIf (wOr (wNot (wTest (wIsC "Tally" (wVar 0)))) (wNot (wTest (wCall [false, false] sp__law_same [] EW (wCons (wProp "Tally" sp_Tally_counts (wVar 0)) (wCons (wOp (kd1 tupleK) (wCons (wVar 1) wNil)) wNil))))))
  (wRet (wTmp (.bl false)))
  wNext) <|
  (wSeq (wIf (wOr (wNot (wTest (wCall [false, false] sp__law_same [] EW (wCons (wProp "Tally" sp_Tally_points (wVar 0)) (wCons (wBin (kd2 subK) (wOp (kd1 lenK) (wCons (wVar 1) wNil)) (wTmp (.int 1))) wNil))))) (wNot (wTest (wCall [false, false] sp__law_same [] EW (wCons (wProp "Tally" sp_Tally_total (wVar 0)) (wCons (wOp (kd1 sumK) (wCons (wVar 1) wNil)) wNil))))))
  (wRet (wTmp (.bl false)))
  wNext) <|
  (wIf (wNot (wTest (wOp (kd1 allK) (wCons (wLc (wRg1 (wTmp (.int 25))) (tgN 4) wYes (wCall [false, false] sp__law_same [] NE (wCons (wMeth "Tally" "at" [false, false] sp_Tally_at NE (wVar 0) (wCons (wVar 4) wNil)) (wCons (wBin (kd2 ixK) (wVar 2) (wVar 4)) wNil))) [4]) wNil))))
  (wRet (wTmp (.bl false)))
  wNext)))) <|
  (wRet (wTmp (.bl true)))))
def sp__law_tells : SpD := fun ds Q E => ∃ xs : List Int, ds = [TL false xs, .lst false (dints xs)] ∧ 1 ≤ xs.length ∧ xs.length ≤ 25 ∧ Q (.bl true) []
theorem len__law_tells : ∀ ds Q E, sp__law_tells ds Q E → ds.length = 2 := fun ds Q E h => by
  unfold sp__law_tells at h
  obtain ⟨_, h, _⟩ := h
  rw [h]; rfl
theorem pf__law_tells : ∀ ds Q E, sp__law_tells ds Q E → w__law_tells (fun c fs env => E c fs (outs [false, false] env)) (dEnd [false, false] Q) (startE N__law_tells ds) := by
  rintro _ Q E ⟨xs, rfl, h1, h2, h⟩
  have hdl : (dints xs).length = xs.length := List.length_map ..
  walk_at "st"
  unfold w__law_tells
  walk_at "go"
  · refine SZ_of ?_
    simp
    omega
  generalize hz : [[D.int 0], [D.int 0], [D.int 0], [D.int 0], [D.int 0], [D.int 0], [D.int 0], [D.int 0], [D.int 0], [D.int 0], [D.int 0], [D.int 0], [D.int 0], [D.int 0], [D.int 0], [D.int 0], [D.int 0], [D.int 0], [D.int 0], [D.int 0], [D.int 0], [D.int 0], [D.int 0], [D.int 0], [D.int 0]].flatten = z
  have hz' : z = dints (List.replicate 25 0) := by rw [← hz]; rfl
  clear hz
  subst hz'
  have hW : dints xs ++ dints (List.replicate 25 0) = dints (xs ++ List.replicate 25 0) := by
    show _ = List.map _ _
    rw [List.map_append]
  rw [hW]
  have hWk : ∀ j : Nat, j < 25 → (xs ++ List.replicate 25 (0 : Int))[j]? = some (xs.getD j 0) := by
    intro j hj
    rw [List.getElem?_append, List.getD_eq_getElem?_getD]
    split
    · rename_i q
      rw [List.getElem?_eq_getElem q]; rfl
    · rename_i q
      rw [List.getElem?_eq_none (Nat.le_of_not_lt q), List.getElem?_replicate, if_pos (by omega)]; rfl
  have hWl : (xs ++ List.replicate 25 (0 : Int)).length = xs.length + 25 := by rw [List.length_append, List.length_replicate]
  clear hW
  generalize xs ++ List.replicate 25 (0 : Int) = W at hWk hWl ⊢
  refine FOR_rg (lo := 0) (n := 2) (fun _ e => ∃ a : Option D, e = [some (TL false xs), some (.lst false (dints xs)), some (.lst true (dints W)), a, none]) ⟨_, rfl⟩ (fun i hi e he k hk => ?_) (fun e he => ?_)
  · obtain ⟨a, rfl⟩ := he
    walk_at "go"
    refine ⟨xs, rfl, ?_⟩
    walk_at "go"
    refine ⟨_, rfl, noOwn_dints xs, Pl_dints xs, by show 1 + szL (dints xs) ≤ _; rw [sz_dints]; omega, ?_⟩
    walk_at "go"
    refine ⟨xs, rfl, ?_⟩
    walk_at "go"
    refine ⟨_, rfl, rfl, rfl, by show 1 ≤ 100000; decide, ?_⟩
    walk_at "go"
    refine ⟨xs, rfl, ?_⟩
    walk_at "go"
    refine ⟨_, rfl, rfl, rfl, by show 1 ≤ 100000; decide, ?_⟩
    walk_at "go"
    refine LC_rg (lo := 0) (n := 25) (fun j acc e => acc = List.replicate j (D.bl true) ∧ ∃ c : Option D, noOwnO c = true ∧ e = [some (TL false xs), some (.lst false (dints xs)), some (.lst true (dints W)), some (D.int (0 + (i : Int))), c]) ⟨rfl, _, rfl, rfl⟩ (fun j hj acc e he k' hk' => ?_) (fun acc e he => ?_)
    · obtain ⟨rfl, c, hc, rfl⟩ := he
      walk_at "go"
      all_goals first
        | exact hc
        | rfl
        | skip
      refine ⟨xs, .int (0 + (j : Int)), rfl, rfl, rfl, Or.inl ⟨j, by rw [Int.zero_add], by omega, ?_⟩⟩
      walk_at "go"
      refine AT_of (d := .int (xs.getD j 0)) (atI_int (show (0 : Int) ≤ 0 + (j : Int) by omega) (by rw [Int.zero_add, Int.toNat_natCast, List.getElem?_map, hWk j hj]; rfl)) rfl ?_
      walk_at "go"
      refine ⟨_, rfl, rfl, rfl, by show 1 ≤ 100000; decide, ?_⟩
      walk_at "go"
      · refine SZ_of ?_
        rw [List.length_replicate]
        omega
      · exact hk' _ _ ⟨by rw [List.replicate_succ'], _, rfl, rfl⟩
    · obtain ⟨rfl, c, hc, rfl⟩ := he
      walk_at "go"
      all_goals first
        | exact hc
        | skip
      refine OPT_of (a := List.replicate 25 true) rfl ?_
      walk_at "go"
      simp only [id_eq]
      walk_at "go"
      all_goals exact hk _ ⟨_, rfl⟩
  · obtain ⟨a, rfl⟩ := he
    walk_at "go"
    all_goals exact h


abbrev N__law_packed : List Str := ["entries", "base", "number", "entry"]
def w__law_packed (EW : EWt) : WS :=
  (wSeq (wSet 1 (wBin (kd2 mulK) (wBin (kd2 powK) (wTmp (.int 10)) (wTmp (.int 64))) (wBin (kd2 powK) (wTmp (.int 10)) (wTmp (.int 64))))) <|
  (wSeq (wSet 2 (wTmp (.int 0))) <|
  (wSeq (wFor (wIt (wOp (kd1 revK) (wCons (wVar 0) wNil))) (tgN 3)
  (wSet 2 (wBin (kd2 addK) (wBin (kd2 mulK) (wVar 2) (wVar 1)) (wVar 3)))) <|
  (wRet (wVar 2)))))
def sp__law_packed : SpD := fun ds Q E => ∃ xs : List Int, ds = [.lst false (dints xs)] ∧ xs.length ≤ 25 ∧ Bd BB xs ∧ Q (.int (pk xs)) []
theorem len__law_packed : ∀ ds Q E, sp__law_packed ds Q E → ds.length = 1 := fun ds Q E h => by
  unfold sp__law_packed at h
  obtain ⟨_, h, _⟩ := h
  rw [h]; rfl
theorem pf__law_packed : ∀ ds Q E, sp__law_packed ds Q E → w__law_packed (fun c fs env => E c fs (outs [false] env)) (dEnd [false] Q) (startE N__law_packed ds) := by
  rintro _ Q E ⟨xs, rfl, hl, hb, h⟩
  walk_at "st"
  unfold w__law_packed
  walk_at "go"
  · exact ⟨by decide, by decide, by decide⟩
  · exact ⟨by decide, by decide, by decide⟩
  · exact .inr (show _ + _ < 1000000 by decide)
  refine FOR_ix (fun i e => ∃ x3, e = [some (.lst false (dints xs)), some (.int BB), some (.int (pk (xs.drop (xs.length - i)))), x3]) ⟨none, by rw [Nat.sub_zero, List.drop_length]; rfl⟩ (fun i x hx e ⟨x3, he⟩ k hk => ?_) (fun e ⟨x3, he⟩ => ?_)
  · subst he
    have hi : i < xs.length := by
      have := (List.getElem?_eq_some_iff.mp hx).1
      rw [List.length_map, List.length_reverse] at this
      exact this
    have hj : xs.length - 1 - i < xs.length := by omega
    have hx2 : x = .int xs[xs.length - 1 - i] := by
      rw [List.getElem?_map, List.getElem?_reverse hi, List.getElem?_eq_getElem hj] at hx
      exact (Option.some.inj hx).symm
    subst hx2
    have hb2 : Bd BB (xs.drop (xs.length - i)) := fun y hy => hb y (List.mem_of_mem_drop hy)
    obtain ⟨_, hs⟩ := pk_small hb2 (by rw [List.length_drop]; omega)
    walk_at "go"
    · exact .inr (wide_mul (b := 1000) hs (by decide) (by decide) (by decide) (by decide))
    have e1 : xs.drop (xs.length - (i + 1)) = xs[xs.length - 1 - i] :: xs.drop (xs.length - i) := by
      rw [show xs.length - (i + 1) = xs.length - 1 - i by omega, List.drop_eq_getElem_cons hj, show xs.length - 1 - i + 1 = xs.length - i by omega]
    refine hk _ ⟨some (.int xs[xs.length - 1 - i]), ?_⟩
    rw [e1]
    show _ = [_, _, some (D.int (xs[xs.length - 1 - i] + BB * pk (xs.drop (xs.length - i)))), _]
    rw [Int.add_comm, Int.mul_comm]
  · subst he
    walk_at "go"
    try rw [List.length_map]
    rw [List.length_reverse, Nat.sub_self, List.drop_zero]
    exact h


abbrev N__law_unpacked : List Str := ["number", "size", "base", "found", "k"]
def w__law_unpacked (EW : EWt) : WS :=
  (wSeq (wSet 2 (wBin (kd2 mulK) (wBin (kd2 powK) (wTmp (.int 10)) (wTmp (.int 64))) (wBin (kd2 powK) (wTmp (.int 10)) (wTmp (.int 64))))) <|
  (wSeq (wSet 3 (wLst wNil)) <|
  (wSeq (wFor (wRg1 (wVar 1)) (tgN 4)
  (wSeq (wExpr (wM1 false 3 appK (wBin (kd2 modK) (wOp (kd1 intK1) (wCons (wVar 0) wNil)) (wVar 2)))) <|
  (wSet 0 (wBin (kd2 fdivK) (wVar 0) (wVar 2))))) <|
  (wRet (wVar 3)))))
def sp__law_unpacked : SpD := fun ds Q E => ∃ xs : List Int, ds = [.int (pk xs), .int xs.length] ∧ xs.length ≤ 25 ∧ Bd BB xs ∧ Q (.lst true (dints xs)) []
theorem len__law_unpacked : ∀ ds Q E, sp__law_unpacked ds Q E → ds.length = 2 := fun ds Q E h => by
  unfold sp__law_unpacked at h
  obtain ⟨_, h, _⟩ := h
  rw [h]; rfl
theorem pf__law_unpacked : ∀ ds Q E, sp__law_unpacked ds Q E → w__law_unpacked (fun c fs env => E c fs (outs [false, false] env)) (dEnd [false, false] Q) (startE N__law_unpacked ds) := by
  rintro _ Q E ⟨xs, rfl, hl, hb, h⟩
  walk_at "st"
  unfold w__law_unpacked
  walk_at "go"
  · exact ⟨by decide, by decide, by decide⟩
  · exact ⟨by decide, by decide, by decide⟩
  · exact .inr (show _ + _ < 1000000 by decide)
  · omega
  · omega
  refine FOR_rg (fun i e => ∃ x4, e = [some (.int (pk (xs.drop i))), some (.int xs.length), some (.int BB), some (.lst true (dints (xs.take i))), x4]) ⟨none, rfl⟩ (fun i hi e ⟨x4, he⟩ k hk => ?_) (fun e ⟨x4, he⟩ => ?_)
  · subst he
    have ed : xs.drop i = xs[i] :: xs.drop (i + 1) := List.drop_eq_getElem_cons hi
    have hx := hb _ (List.getElem_mem hi)
    have e1 : pk (xs.drop i) % BB = xs[i] := by
      rw [ed]
      show (xs[i] + BB * pk (xs.drop (i + 1))) % BB = _
      rw [Int.add_mul_emod_self_left]
      exact Int.emod_eq_of_lt hx.1 hx.2
    have e2 : pk (xs.drop i) / BB = pk (xs.drop (i + 1)) := by
      rw [ed]
      show (xs[i] + BB * pk (xs.drop (i + 1))) / BB = _
      rw [Int.add_mul_ediv_left _ _ (by decide), Int.ediv_eq_zero_of_lt hx.1 hx.2, Int.zero_add]
    walk_at "go"
    all_goals first
      | exact BB_pos
      | exact SZ_of (by rw [List.length_take]; omega)
      | exact ⟨BB_pos, by decide⟩
      | skip
    rw [e1, e2]
    have e3 : dints (xs.take i) ++ [D.int xs[i]] = dints (xs.take (i + 1)) := by
      rw [List.take_succ, List.getElem?_eq_getElem hi, dints, dints, List.map_append]
      rfl
    rw [e3]
    exact hk _ ⟨_, rfl⟩
  · subst he
    walk_at "go"
    rw [List.take_length]
    exact h


abbrev N_Tally___add__ : List Str := ["self", "other", "most", "k"]
def w_Tally___add__ (EW : EWt) : WS :=
  (wSeq (wIf (wNot (wTest (wIsC "Tally" (wVar 1))))
  wNever
  wNext) <|
  (wSeq (wSet 2 (wOp (kd2 max2K) (wCons (wOp (kd1 lenK) (wCons (wFld "Tally" "entries" (wVar 0)) wNil)) (wCons (wOp (kd1 lenK) (wCons (wFld "Tally" "entries" (wVar 1)) wNil)) wNil)))) <|
  (wRet (wMake "Tally" [false] sp_Tally___init__ [] EW (wCons (wLc (wRg1 (wVar 2)) (tgN 3) wYes (wBin (kd2 addK) (wCall [false, false] sp_entry_at [] NE (wCons (wFld "Tally" "entries" (wVar 0)) (wCons (wVar 3) wNil))) (wCall [false, false] sp_entry_at [] NE (wCons (wFld "Tally" "entries" (wVar 1)) (wCons (wVar 3) wNil)))) [3]) wNil)))))
/-- the entries of a sum -/
def addT (xs ys : List Int) : List Int := (List.range (max xs.length ys.length)).map fun k => xs.getD k 0 + ys.getD k 0
def sp_Tally___add__ : SpD := fun ds Q E => ∃ xs ys : List Int, ds = [TL false xs, TL false ys] ∧ 1 ≤ xs.length ∧ 1 ≤ ys.length ∧ xs.length ≤ 25 ∧ ys.length ≤ 25 ∧ (∀ x ∈ xs, 0 ≤ x) ∧ (∀ y ∈ ys, 0 ≤ y) ∧ Q (TL true (addT xs ys)) []
theorem len_Tally___add__ : ∀ ds Q E, sp_Tally___add__ ds Q E → ds.length = 2 := fun ds Q E h => by
  unfold sp_Tally___add__ at h
  obtain ⟨_, _, h, _⟩ := h
  rw [h]; rfl
theorem pf_Tally___add__ : ∀ ds Q E, sp_Tally___add__ ds Q E → w_Tally___add__ (fun c fs env => E c fs (outs [false, false] env)) (dEnd [false, false] Q) (startE N_Tally___add__ ds) := by
  rintro _ Q E ⟨xs, ys, rfl, h1, h2, h3, h4, hx, hy, h⟩
  walk_at "st"
  unfold w_Tally___add__
  have hm : (if (ys.length : Int) > (xs.length : Int) then (ys.length : Int) else (xs.length : Int)) = ((max xs.length ys.length : Nat) : Int) := by split <;> omega
  walk_at "go"
  · rw [hm]; omega
  · rw [hm]; omega
  try simp only [List.length_map]
  rw [hm, Int.toNat_natCast, rgD_ints]
  refine LC_dI (fun _ => true) (fun x => xs.getD x.toNat 0 + ys.getD x.toNat 0) (by simp; omega) (fun x hx acc ha kk2 hk1 hk2 => ?_) ?_
  · obtain ⟨i, hi, rfl⟩ := List.mem_map.mp hx
    walk_at "go"
    refine ⟨xs, i, by rw [Int.zero_add], ?_⟩
    walk_at "go"
    refine ⟨ys, i, by rw [Int.zero_add], ?_⟩
    walk_at "go"
    have := hk1 rfl
    rw [show ((0 : Int) + (i : Nat)).toNat = i by omega] at this
    exact this
  · have ef : ∀ l : List Int, l.filter (fun _ => true) = l := fun l => List.filter_eq_self.mpr fun _ _ => rfl
    rw [ef, List.map_map]
    have e2 : List.map ((fun x : Int => xs.getD x.toNat 0 + ys.getD x.toNat 0) ∘ fun i : Nat => (0 : Int) + (i : Nat)) (List.range (max xs.length ys.length)) = addT xs ys := by
      unfold addT
      refine List.map_congr_left fun i hi => ?_
      show xs.getD ((0 : Int) + (i : Nat)).toNat 0 + ys.getD ((0 : Int) + (i : Nat)).toNat 0 = _
      rw [show ((0 : Int) + (i : Nat)).toNat = i by omega]
    rw [e2]
    have hlen : (addT xs ys).length = max xs.length ys.length := by unfold addT; simp
    walk_at "go"
    refine ⟨.lst false (dints (addT xs ys)), dints (addT xs ys), rfl, .inl rfl, noOwnL_ints, by rw [List.length_map]; omega, fun y hy => by obtain ⟨i, _, rfl⟩ := List.mem_map.mp hy; rfl, .inr ⟨by rw [List.length_map]; omega, .inr ⟨addT xs ys, rfl, fun z hz => ?_, ?_⟩⟩⟩
    · obtain ⟨k, _, rfl⟩ := List.mem_map.mp hz
      exact Int.add_nonneg (getD_nonneg hx k) (getD_nonneg hy k)
    · walk_at "go"
      try exact h


def w_TooMany___init__ : W1 := (wJs [(wTmp (.str "too many: ")), (wFmt (wVar 1)), (wTmp (.str ", the limit is ")), (wFmt (wCall [false] sp_shown [] NE (wCons (wVar 2) wNil)))] Str.empty)
def fl_TooMany : List (Str × Nat) := [("what", 0), ("limit", 1)]
abbrev N_TooMany___init__ : List Str := ["self", "what", "limit", "__class__"]
def ok_TooMany (ds : List D) : Prop := ∃ d0 d1, ds = [d0, d1] ∧ (∃ s : Str, d0 = .str s ∧ LeS s 5000) ∧ ShOk d1
theorem pfx_TooMany : ∀ ds, ds.length = 2 → ok_TooMany ds → w_TooMany___init__ (envX ds) fun _ _ => True := by
  rintro _ _ ⟨d0, d1, rfl, ⟨t0, rfl, h0⟩, h1⟩
  have l0 : Str.empty.length ≤ 0 := by decide
  have l1 : (Str.ofString "too many: ").length ≤ 200 := by decide
  have l2 : (Str.ofString ", the limit is ").length ≤ 200 := by decide
  unfold envX w_TooMany___init__
  walk_at "rd"
  repeat (first | (with_reducible refine And.intro (by walk_at "sz") ?_))
  refine BR_yes h1.own ?_
  walk_at "rd"
  refine ⟨_, rfl, h1, fun s1 q1 => ?_⟩
  walk_at "rd"
  repeat' (with_reducible refine And.intro ?_ ?_)
  all_goals walk_at "sz"


abbrev N_product_counts : List Str := ["first", "second", "counts", "k", "places", "i"]
def w_product_counts (EW : EWt) : WS :=
  (wSeq (wSet 2 (wLst wNil)) <|
  (wSeq (wFor (wRg1 (wBin (kd2 subK) (wBin (kd2 addK) (wOp (kd1 lenK) (wCons (wVar 0) wNil)) (wOp (kd1 lenK) (wCons (wVar 1) wNil))) (wTmp (.int 1)))) (tgN 3)
  (wSeq (wSet 4 (wLc (wRg1 (wOp (kd1 lenK) (wCons (wVar 0) wNil))) (tgN 5) (wTB (wChain leK ltK (wTmp (.int 0)) (wBin (kd2 subK) (wVar 3) (wVar 5)) (wOp (kd1 lenK) (wCons (wVar 1) wNil)))) (wVar 5) [5])) <|
  (wExpr (wM1 false 2 appK (wOp (kd1 sumK) (wCons (wLc (wIt (wVar 4)) (tgN 5) wYes (wBin (kd2 mulK) (wBin (kd2 ixK) (wVar 0) (wVar 5)) (wBin (kd2 ixK) (wVar 1) (wBin (kd2 subK) (wVar 3) (wVar 5)))) [5]) wNil)))))) <|
  (wRet (wVar 2))))
/-- the entries of a product -/
def convAt (xs ys : List Int) (k : Nat) : Int := (((List.range xs.length).filter fun i => decide (i ≤ k) && decide (k - i < ys.length)).map fun i => xs.getD i 0 * ys.getD (k - i) 0).sum
def conv (xs ys : List Int) : List Int := (List.range (xs.length + ys.length - 1)).map (convAt xs ys)
def sp_product_counts : SpD := fun ds Q E => ∃ xs ys : List Int, ds = [.tup (dints xs), .tup (dints ys)] ∧ 1 ≤ xs.length ∧ 1 ≤ ys.length ∧ xs.length ≤ 1000 ∧ ys.length ≤ 1000 ∧ (∀ x ∈ xs, x.natAbs < 2 ^ 1000) ∧ (∀ y ∈ ys, y.natAbs < 2 ^ 1000) ∧ Q (.lst true (dints (conv xs ys))) []
theorem len_product_counts : ∀ ds Q E, sp_product_counts ds Q E → ds.length = 2 := fun ds Q E h => by
  unfold sp_product_counts at h
  obtain ⟨_, _, h, _⟩ := h
  rw [h]; rfl
theorem pf_product_counts : ∀ ds Q E, sp_product_counts ds Q E → w_product_counts (fun c fs env => E c fs (outs [false, false] env)) (dEnd [false, false] Q) (startE N_product_counts ds) := by
  rintro _ Q E ⟨xs, ys, rfl, h1, h2, h3, h4, hxs, hys, h⟩
  walk_at "st"
  unfold w_product_counts
  walk_at "go"
  · omega
  · omega
  have hN : ((xs.length : Int) + (ys.length : Int) - 1).toNat = xs.length + ys.length - 1 := by omega
  rw [hN]
  refine FOR_rg (fun k e => ∃ x3 x4 x5, e = [some (.tup (dints xs)), some (.tup (dints ys)), some (.lst true (dints ((List.range k).map (convAt xs ys)))), x3, x4, x5] ∧ noOwnO x5 = true) ⟨none, none, none, rfl, rfl⟩ (fun k hk e ⟨x3, x4, x5, he, h5⟩ kk hkk => ?_) (fun e ⟨x3, x4, x5, he, h5⟩ => ?_)
  · subst he
    walk_at "go"
    · omega
    · omega
    rw [rgD_ints]
    refine LC_dI (fun i => decide (0 ≤ (0 + (k : Nat) : Int) - i) && decide ((0 + (k : Nat) : Int) - i < ys.length)) (fun i => i) (by simp; omega) (fun x hx acc ha kk2 hk1 hk2 => ?_) ?_
    · obtain ⟨i, hi, rfl⟩ := List.mem_map.mp hx
      have hi' := List.mem_range.mp hi
      walk_at "go"
      all_goals first
        | exact hk1 (by rw [Bool.and_eq_true]; exact ⟨decide_eq_true (by assumption), decide_eq_true (by assumption)⟩)
        | (refine hk2 ?_; rw [Bool.and_eq_false_iff]; simp only [decide_eq_false_iff_not]; omega)
        | skip
      all_goals trace_state
    · rw [List.map_id']
      walk_at "go"
      have mem : ∀ x, x ∈ List.filter (fun i : Int => decide (0 ≤ (0 + (k : Nat) : Int) - i) && decide ((0 + (k : Nat) : Int) - i < ys.length)) ((List.range xs.length).map fun i : Nat => (0 : Int) + (i : Nat)) → 0 ≤ x ∧ x.toNat < xs.length ∧ 0 ≤ (0 + (k : Nat) : Int) - x ∧ ((0 + (k : Nat) : Int) - x).toNat < ys.length := fun x hx => by
        obtain ⟨hm, hp⟩ := List.mem_filter.mp hx
        obtain ⟨i, hi, rfl⟩ := List.mem_map.mp hm
        have := List.mem_range.mp hi
        rw [Bool.and_eq_true, decide_eq_true_eq, decide_eq_true_eq] at hp
        omega
      refine LC_dI (fun _ => true) (fun i => xs.getD i.toNat 0 * ys.getD ((0 + (k : Nat) : Int) - i).toNat 0) ?_ (fun x hx acc ha kk2 hk1 hk2 => ?_) ?_
      · refine Nat.le_trans (List.length_filter_le _ _) ?_
        rw [List.length_map, List.length_range]
        omega
      · obtain ⟨m1, m2, m3, m4⟩ := mem x hx
        walk_at "rd"
        refine AT_of (d := .int (xs.getD x.toNat 0)) (atI_int m1 (by rw [List.getElem?_map, List.getElem?_eq_getElem m2, List.getD_eq_getElem?_getD, List.getElem?_eq_getElem m2]; rfl)) rfl ?_
        walk_at "rd"
        refine AT_of (d := .int (ys.getD ((0 + (k : Nat) : Int) - x).toNat 0)) (atI_int m3 (by rw [List.getElem?_map, List.getElem?_eq_getElem m4, List.getD_eq_getElem?_getD, List.getElem?_eq_getElem m4]; rfl)) rfl ?_
        walk_at "go"
        · refine .inr (wide_mul (a := 1000) (b := 1000) ?_ ?_ (by decide) (by decide) (by decide))
          · rw [List.getD_eq_getElem?_getD, List.getElem?_eq_getElem m2]
            exact hxs _ (List.getElem_mem m2)
          · rw [List.getD_eq_getElem?_getD, List.getElem?_eq_getElem m4]
            exact hys _ (List.getElem_mem m4)
        · exact hk1 rfl
      · have ef : ∀ l : List Int, l.filter (fun _ => true) = l := fun l => List.filter_eq_self.mpr fun _ _ => rfl
        rw [ef]
        walk_at "go"
        · exact SZ_of (by simp; omega)
        have es : (List.map (fun i => xs.getD i.toNat 0 * ys.getD ((0 + (k : Nat) : Int) - i).toNat 0) (List.filter (fun i : Int => decide (0 ≤ (0 + (k : Nat) : Int) - i) && decide ((0 + (k : Nat) : Int) - i < ys.length)) ((List.range xs.length).map fun i : Nat => (0 : Int) + (i : Nat)))).sum = convAt xs ys k := by
          unfold convAt
          rw [List.filter_map, List.map_map]
          have e1 : List.filter ((fun i : Int => decide (0 ≤ (0 + (k : Nat) : Int) - i) && decide ((0 + (k : Nat) : Int) - i < ys.length)) ∘ fun i : Nat => (0 : Int) + (i : Nat)) (List.range xs.length) = List.filter (fun i => decide (i ≤ k) && decide (k - i < ys.length)) (List.range xs.length) := by
            refine List.filter_congr fun i hi => ?_
            simp only [Function.comp]
            rw [Bool.eq_iff_iff, Bool.and_eq_true, Bool.and_eq_true]
            simp only [decide_eq_true_eq]
            omega
          rw [e1]
          congr 1
          refine List.map_congr_left fun i hi => ?_
          have hi2 := (List.mem_filter.mp hi).2
          rw [Bool.and_eq_true, decide_eq_true_eq] at hi2
          show xs.getD ((0 : Int) + (i : Nat)).toNat 0 * ys.getD ((0 + (k : Nat) : Int) - (0 + (i : Nat))).toNat 0 = _
          rw [show ((0 : Int) + (i : Nat)).toNat = i by omega, show ((0 + (k : Nat) : Int) - (0 + (i : Nat))).toNat = k - i by omega]
        rw [es]
        have hfin : dints (List.map (convAt xs ys) (List.range k)) ++ [D.int (convAt xs ys k)] = dints (List.map (convAt xs ys) (List.range (k + 1))) := by
          rw [List.range_succ, List.map_append, dints, dints, List.map_append]
          rfl
        rw [hfin]
        exact hkk _ ⟨_, _, _, rfl, h5⟩
  · subst he
    walk_at "go"
    exact h


abbrev N_Tally___mul__ : List Str := ["self", "other"]
def w_Tally___mul__ (EW : EWt) : WS :=
  (wSeq (wIf (wNot (wTest (wIsC "Tally" (wVar 1))))
  wNever
  wNext) <|
  (wSeq (wIf (wTB (wBin (kd2 gtK) (wBin (kd2 subK) (wBin (kd2 addK) (wOp (kd1 lenK) (wCons (wFld "Tally" "entries" (wVar 0)) wNil)) (wOp (kd1 lenK) (wCons (wFld "Tally" "entries" (wVar 1)) wNil))) (wTmp (.int 2))) (wTmp (.int 24))))
  (wRaise EW "TooMany" 2 fl_TooMany ok_TooMany (wCons (wTmp (.str "points")) (wCons (wTmp (.int 24)) wNil)))
  wNext) <|
  (wRet (wMake "Tally" [false] sp_Tally___init__ [] EW (wCons (wCall [false, false] sp_product_counts [] EW (wCons (wFld "Tally" "entries" (wVar 0)) (wCons (wFld "Tally" "entries" (wVar 1)) wNil))) wNil)))))
theorem conv_nonneg {xs ys : List Int} (hx : ∀ x ∈ xs, 0 ≤ x) (hy : ∀ y ∈ ys, 0 ≤ y) : ∀ z ∈ conv xs ys, 0 ≤ z := fun z hz => by
  obtain ⟨k, _, rfl⟩ := List.mem_map.mp hz
  refine sum_nonneg fun v hv => ?_
  obtain ⟨i, _, rfl⟩ := List.mem_map.mp hv
  exact Int.mul_nonneg (getD_nonneg hx i) (getD_nonneg hy _)
def sp_Tally___mul__ : SpD := fun ds Q E => ∃ xs ys : List Int, ds = [TL false xs, TL false ys] ∧ 1 ≤ xs.length ∧ 1 ≤ ys.length ∧ xs.length ≤ 25 ∧ ys.length ≤ 25 ∧ (∀ x ∈ xs, 0 ≤ x ∧ x < 2 ^ 1000) ∧ (∀ y ∈ ys, 0 ≤ y ∧ y < 2 ^ 1000) ∧
  ((26 < xs.length + ys.length ∧ ∀ os, E "TooMany" (fldsD fl_TooMany [.str "points", .int 24]) os) ∨ (xs.length + ys.length ≤ 26 ∧ Q (TL true (conv xs ys)) []))
theorem len_Tally___mul__ : ∀ ds Q E, sp_Tally___mul__ ds Q E → ds.length = 2 := fun ds Q E h => by
  unfold sp_Tally___mul__ at h
  obtain ⟨_, _, h, _⟩ := h
  rw [h]; rfl
theorem pf_Tally___mul__ : ∀ ds Q E, sp_Tally___mul__ ds Q E → w_Tally___mul__ (fun c fs env => E c fs (outs [false, false] env)) (dEnd [false, false] Q) (startE N_Tally___mul__ ds) := by
  rintro _ Q E ⟨xs, ys, rfl, h1, h2, h3, h4, hx, hy, h⟩
  walk_at "st"
  unfold w_Tally___mul__
  walk_at "go"
  · exact ⟨_, _, rfl, ⟨_, rfl, by decide⟩, ShOk_int (by decide)⟩
  · rcases h with ⟨_, h⟩ | ⟨h, _⟩
    · exact h _
    · omega
  · rcases h with ⟨h, _⟩ | ⟨_, h⟩
    · omega
    refine ⟨xs, ys, rfl, h1, h2, by omega, by omega, fun x q => by have := hx x q; omega, fun x q => by have := hy x q; omega, ?_⟩
    walk_at "go"
    have hlen : (conv xs ys).length = xs.length + ys.length - 1 := by unfold conv; simp
    refine ⟨.lst false (dints (conv xs ys)), dints (conv xs ys), rfl, .inl rfl, noOwnL_ints, by rw [List.length_map]; omega, fun y hy => by obtain ⟨i, _, rfl⟩ := List.mem_map.mp hy; rfl, .inr ⟨by rw [List.length_map]; omega, .inr ⟨conv xs ys, rfl, fun z hz => conv_nonneg (fun x q => (hx x q).1) (fun x q => (hy x q).1) z hz, ?_⟩⟩⟩
    walk_at "go"
    try exact h


abbrev N_is_whole : List Str := ["value"]
def w_is_whole (EW : EWt) : WS :=
  (wRet (wAndV (wIsi "int" (wVar 0)) (wNotE (wIsi "bool" (wVar 0)))))
def sp_is_whole : SpD := fun ds Q E => ∃ d, ds = [d] ∧ (((∃ i, d = .int i) ∧ Q (.bl true) []) ∨ ((∃ t, tyN d = some t ∧ t ≠ "int") ∧ Q (.bl false) []))
theorem len_is_whole : ∀ ds Q E, sp_is_whole ds Q E → ds.length = 1 := fun ds Q E ⟨_, h, _⟩ => by rw [h]; rfl
theorem pf_is_whole : ∀ ds Q E, sp_is_whole ds Q E → w_is_whole (fun c fs env => E c fs (outs [false] env)) (dEnd [false] Q) (startE N_is_whole ds) := by
  rintro _ Q E ⟨d, rfl, ⟨⟨i, rfl⟩, h⟩ | ⟨⟨t, ht, hn⟩, h⟩⟩
  · walk_at "st"
    unfold w_is_whole
    walk_at "go"
    try exact h
  · walk_at "st"
    unfold w_is_whole
    cases d with
    | int i => simp [tyN] at ht; exact absurd ht.symm hn
    | dik o k => simp [tyN] at ht
    | dit o k => simp [tyN] at ht
    | ins o c f => simp [tyN] at ht
    | exc c f => simp [tyN] at ht
    | _ => walk_at "go"; try exact h


abbrev N_is_move : List Str := ["value", "entry"]
def w_is_move (EW : EWt) : WS :=
  (wSeq (wIf (wOr (wNot (wTest (wIsi "tuple" (wVar 0)))) (wTB (wBin (kd2 gtK) (wOp (kd1 lenK) (wCons (wVar 0) wNil)) (wTmp (.int 12)))))
  (wRet (wTmp (.bl false)))
  wNext) <|
  (wSeq (wFor (wIt (wVar 0)) (tgN 1)
  (wIf (wNot (wTest (wCall [false] sp_is_whole [] EW (wCons (wVar 1) wNil))))
  (wRet (wTmp (.bl false)))
  wNext)) <|
  (wRet (wBin (kd2 eqK) (wOp (kd1 sortedK) (wCons (wVar 0) wNil)) (wRgq1 false (wOp (kd1 lenK) (wCons (wVar 0) wNil)))))))
/-- a move: a rearrangement of 0, .., n - 1 -/
def MvD (d : D) : Prop := ∃ xs : List Int, d = .tup (dints xs) ∧ xs.length ≤ 12 ∧ xs.Perm (upto xs.length)
def sp_is_move : SpD := fun ds Q E => ∃ (d : D) (b : Bool), ds = [d] ∧ noOwn d = true ∧ (tyN d).isSome = true ∧ (∀ ys, d = .tup ys → ys.length ≤ 1000 ∧ ∀ y ∈ ys, (tyN y).isSome = true) ∧ (b = true ↔ MvD d) ∧ Q (.bl b) []
theorem len_is_move : ∀ ds Q E, sp_is_move ds Q E → ds.length = 1 := fun ds Q E h => by
  unfold sp_is_move at h
  obtain ⟨_, _, h, _⟩ := h
  rw [h]; rfl
theorem pf_is_move : ∀ ds Q E, sp_is_move ds Q E → w_is_move (fun c fs env => E c fs (outs [false] env)) (dEnd [false] Q) (startE N_is_move ds) := by
  rintro _ Q E ⟨d, b, rfl, hn, ht, hy, hb, h⟩
  have no : ¬ MvD d → Q (.bl false) [] := fun q => by
    have : b = false := by cases b with
      | true => exact absurd (hb.mp rfl) q
      | false => rfl
    rw [← this]; exact h
  have yes : MvD d → Q (.bl true) [] := fun q => by
    rw [← hb.mpr q]; exact h
  walk_at "st"
  unfold w_is_move
  cases d with
  | tup ys =>
    obtain ⟨hl, hty⟩ := hy ys rfl
    have hno : noOwnL ys = true := hn
    walk_at "go"
    · refine no fun ⟨xs, e, h12, _⟩ => ?_
      cases e
      rw [List.length_map] at *
      omega
    refine FOR_ix (fun i e => ∃ x1, e = [some (.tup ys), x1] ∧ ∀ j < i, ∀ y, ys[j]? = some y → ∃ v, y = .int v) ⟨none, rfl, fun j hj => by omega⟩ (fun i x hx e ⟨x1, he, hI⟩ k hk => ?_) (fun e ⟨x1, he, hI⟩ => ?_)
    · subst he
      have hmem := List.mem_of_getElem? hx
      have hox : noOwn x = true := (noOwnL_iff.mp hno) _ hmem
      obtain ⟨t, htx⟩ := Option.isSome_iff_exists.mp (hty x hmem)
      walk_at "go"
      by_cases hq : ∃ v, x = .int v
      · refine ⟨x, rfl, .inl ⟨hq, ?_⟩⟩
        walk_at "go"
        refine hk _ ⟨_, rfl, fun j hj y hy => ?_⟩
        by_cases e : j = i
        · subst e
          rw [hx] at hy
          cases hy
          exact hq
        · exact hI j (by omega) y hy
      · refine ⟨x, rfl, .inr ⟨⟨t, htx, fun e => hq ?_⟩, ?_⟩⟩
        · subst e
          cases x <;> first | exact ⟨_, rfl⟩ | (simp [tyN] at htx)
        · walk_at "go"
          refine no fun ⟨xs, e, _⟩ => hq ?_
          cases e
          obtain ⟨v, _, rfl⟩ := List.mem_map.mp hmem
          exact ⟨v, rfl⟩
    · subst he
      obtain ⟨xs, rfl⟩ : ∃ xs : List Int, ys = dints xs := by
        have z : ∀ l : List D, (∀ y ∈ l, ∃ v, y = .int v) → ∃ xs : List Int, l = dints xs := by
          intro l
          induction l with
          | nil => intro _; exact ⟨[], rfl⟩
          | cons y l ih =>
            intro q
            obtain ⟨v, rfl⟩ := q y (List.mem_cons_self ..)
            obtain ⟨xs, e⟩ := ih fun z hz => q z (List.mem_cons_of_mem _ hz)
            exact ⟨v :: xs, by rw [e]; rfl⟩
        refine z ys fun y hy => ?_
        obtain ⟨j, hj, e⟩ := List.mem_iff_getElem.mp hy
        exact hI j hj y (by rw [List.getElem?_eq_getElem hj, e])
      walk_at "rd"
      intro ns hp hs
      have hlen : xs.length ≤ 12 := by
        have hdl : (dints xs).length = xs.length := List.length_map ..
        omega
      refine And.intro (RgOk.of_le (by decide) (by omega) (by decide) (by omega)) ?_
      rw [rgD_upto]
      walk_at "go"
      by_cases hq : xs.Perm (upto xs.length)
      · have e : ns = upto xs.length := perm_sorted_eq (hp.trans hq) hs (upto_sorted _)
        rw [decide_eq_true e]
        exact yes ⟨xs, rfl, hlen, hq⟩
      · have e : ns ≠ upto xs.length := fun e => hq (e ▸ hp.symm)
        rw [decide_eq_false e]
        refine no fun ⟨xs', e', _, q⟩ => hq ?_
        have : xs' = xs := by
          have := D.tup.inj e'
          exact (List.map_inj_right (fun _ _ h => D.int.inj h)).mp this.symm
        subst this
        exact q
  | dik o k => cases ht
  | dit o k => cases ht
  | ins o c f => cases ht
  | exc c f => cases ht
  | _ =>
    walk_at "go"
    all_goals exact no fun ⟨xs, e, _⟩ => nomatch e
/-- a move on n points -/
def GoodMv (n : Nat) (y : D) : Prop := ∃ xs : List Int, y = .tup (dints xs) ∧ xs.length = n ∧ MvD y


def w_NotAMove___init__ : W1 := (wJs [(wTmp (.str "the value at index ")), (wFmt (wCall [false] sp_shown [] NE (wCons (wVar 1) wNil))), (wTmp (.str " is not a move on these points"))] Str.empty)
def fl_NotAMove : List (Str × Nat) := [("index", 0)]
abbrev N_NotAMove___init__ : List Str := ["self", "index", "__class__"]
def ok_NotAMove (ds : List D) : Prop := ∃ d0, ds = [d0] ∧ ShOk d0
theorem pfx_NotAMove : ∀ ds, ds.length = 1 → ok_NotAMove ds → w_NotAMove___init__ (envX ds) fun _ _ => True := by
  rintro _ _ ⟨d0, rfl, h0⟩
  have l0 : Str.empty.length ≤ 0 := by decide
  have l1 : (Str.ofString "the value at index ").length ≤ 200 := by decide
  have l2 : (Str.ofString " is not a move on these points").length ≤ 200 := by decide
  unfold envX w_NotAMove___init__
  walk_at "rd"
  repeat (first | (with_reducible refine And.intro (by walk_at "sz") ?_))
  refine BR_yes h0.own ?_
  walk_at "rd"
  refine ⟨_, rfl, h0, fun s0 q0 => ?_⟩
  walk_at "rd"
  repeat' (with_reducible refine And.intro ?_ ?_)
  all_goals walk_at "sz"


abbrev N_held_number : List Str := ["move", "point", "image"]
def w_held_number (EW : EWt) : WS :=
  (wRet (wOp (kd1 lenK) (wCons (wLc (wEnum (wVar 0)) (tgT [1, 2]) (wTB (wBin (kd2 eqK) (wVar 1) (wVar 2))) (wVar 1) [1, 2]) wNil)))
/-- the number of points that a move holds -/
def heldN (xs : List Int) : Nat := ((List.range xs.length).filter fun j : Nat => decide (xs[j]? = some (j : Int))).length
def sp_held_number : SpD := fun ds Q E => ∃ xs : List Int, ds = [.tup (dints xs)] ∧ xs.length ≤ 100000 ∧ Q (.int (heldN xs : Nat)) []
theorem len_held_number : ∀ ds Q E, sp_held_number ds Q E → ds.length = 1 := fun ds Q E h => by
  unfold sp_held_number at h
  obtain ⟨_, h, _⟩ := h
  rw [h]; rfl
theorem pf_held_number : ∀ ds Q E, sp_held_number ds Q E → w_held_number (fun c fs env => E c fs (outs [false] env)) (dEnd [false] Q) (startE N_held_number ds) := by
  rintro _ Q E ⟨xs, rfl, hl, h⟩
  walk_at "st"
  unfold w_held_number
  walk_at "go"
  refine LC_en (fun i acc e => e = [some (.tup (dints xs)), none, none] ∧ acc.length = ((List.range i).filter fun j : Nat => decide (xs[j]? = some (j : Int))).length ∧ i ≤ xs.length) ⟨rfl, rfl, by omega⟩ (fun i x hx acc e ⟨he, ha, hi⟩ k hk => ?_) (fun acc e ⟨he, ha, hi⟩ => ?_)
  · subst he
    have hi2 : i < xs.length := by
      have := (List.getElem?_eq_some_iff.mp hx).1
      rw [List.length_map] at this
      exact this
    have hx2 : x = .int xs[i] := by
      rw [List.getElem?_map, List.getElem?_eq_getElem hi2] at hx
      exact (Option.some.inj hx).symm
    subst hx2
    have hf := List.length_filter_le (fun j : Nat => decide (xs[j]? = some (j : Int))) (List.range i)
    rw [List.length_range] at hf
    walk_at "go"
    · walk_at "sz"
    · rename_i hq
      refine hk _ _ ⟨rfl, ?_, by omega⟩
      rw [List.range_succ, List.filter_append, List.length_append, List.length_append, ha]
      congr 1
      rw [List.filter_cons_of_pos (by rw [List.getElem?_eq_getElem hi2, ← hq]; simp)]
      rfl
    · rename_i hq
      refine hk _ _ ⟨rfl, ?_, by omega⟩
      rw [List.range_succ, List.filter_append, List.length_append, ha]
      rw [List.filter_cons_of_neg (by rw [List.getElem?_eq_getElem hi2]; simp; omega)]
      rfl
  · subst he
    walk_at "go"
    rw [ha]
    try rw [List.length_map]
    exact h


abbrev N_held_counts : List Str := ["points", "moves", "counts", "move", "held"]
def w_held_counts (EW : EWt) : WS :=
  (wSeq (wSet 2 (wBin (kd2 mulK) (wLst (wCons (wTmp (.int 0)) wNil)) (wBin (kd2 addK) (wVar 0) (wTmp (.int 1))))) <|
  (wSeq (wFor (wIt (wVar 1)) (tgN 3)
  (wSeq (wSet 4 (wCall [false] sp_held_number [] EW (wCons (wVar 3) wNil))) <|
  (wPutL false 2 (wVar 4) (wBin (kd2 addK) (wBin (kd2 ixK) (wVar 2) (wVar 4)) (wTmp (.int 1)))))) <|
  (wRet (wVar 2))))
/-- how many of the moves hold k points, for each k -/
def heldC (points : Nat) (ms : List (List Int)) : List Int := (List.range (points + 1)).map fun k => (((ms.filter fun m => decide (heldN m = k)).length : Nat) : Int)
def sp_held_counts : SpD := fun ds Q E => ∃ (points : Nat) (c : D) (ms : List (List Int)), ds = [.int points, c] ∧ SeqOf c (ms.map fun m => .tup (dints m)) ∧ points ≤ 12 ∧ ms.length ≤ 1000 ∧ (∀ m ∈ ms, m.length = points) ∧ Q (.lst true (dints (heldC points ms))) []
theorem len_held_counts : ∀ ds Q E, sp_held_counts ds Q E → ds.length = 2 := fun ds Q E h => by
  unfold sp_held_counts at h
  obtain ⟨_, _, _, h, _⟩ := h
  rw [h]; rfl
theorem pf_held_counts : ∀ ds Q E, sp_held_counts ds Q E → w_held_counts (fun c fs env => E c fs (outs [false, false] env)) (dEnd [false, false] Q) (startE N_held_counts ds) := by
  rintro _ Q E ⟨points, c, ms, rfl, hc, hp, hl, hm, h⟩
  have hno := dmoves_own ms
  have h00 : ∀ n : Nat, (List.replicate n [D.int 0]).flatten = dints (List.replicate n 0) := by
    intro n
    induction n with
    | zero => rfl
    | succ n ih => rw [List.replicate_succ, List.replicate_succ, List.flatten_cons, ih]; rfl
  have h0 : (List.replicate ((points : Int) + 1).toNat [D.int 0]).flatten = dints (heldC points []) := by
    rw [h00, show ((points : Int) + 1).toNat = points + 1 by omega]
    unfold heldC
    refine congrArg dints (List.eq_replicate_iff.mpr ⟨by simp, fun b hb => ?_⟩).symm
    obtain ⟨k, _, rfl⟩ := List.mem_map.mp hb
    rfl
  rcases hc with hc | hc
  all_goals
    subst hc
    walk_at "st"
    unfold w_held_counts
    walk_at "go"
    all_goals first | omega | exact SZ_of (by omega) | skip
    refine FOR_ix (fun i e => ∃ c x3 x4, e = [some (.int points), c, some (.lst true (dints (heldC points (ms.take i)))), x3, x4]) ⟨_, none, none, by rw [h0]; rfl⟩ (fun i x hx e ⟨c, x3, x4, he⟩ k hk => ?_) (fun e ⟨c, x3, x4, he⟩ => ?_)
    · subst he
      obtain ⟨m, hmi, rfl⟩ := dmoves_get hx
      have hml := hm m (List.mem_of_getElem? hmi)
      have hh : heldN m ≤ points := by
        unfold heldN
        refine Nat.le_trans (List.length_filter_le _ _) ?_
        rw [List.length_range]
        omega
      have hlen : ∀ l, (heldC points l).length = points + 1 := fun l => by unfold heldC; simp
      have hi2 : heldN m < (heldC points (ms.take i)).length := by rw [hlen]; omega
      walk_at "go"
      refine ⟨m, rfl, by omega, ?_⟩
      walk_at "go"
      refine AT_of (d := .int (heldC points (ms.take i))[heldN m]) (atI_nth (by rw [List.getElem?_map, List.getElem?_eq_getElem hi2]; rfl)) rfl ?_
      walk_at "go"
      refine LSET_of (k := heldN m) (ixN_nth (by rw [List.length_map]; exact hi2)) ?_
      walk_at "go"
      have e1 : (dints (heldC points (ms.take i))).set (heldN m) (.int ((heldC points (ms.take i))[heldN m] + 1)) = dints (heldC points (ms.take (i + 1))) := by
        rw [← List.map_set]
        refine congrArg dints ?_
        refine List.ext_getElem (by rw [List.length_set, hlen, hlen]) fun j h1 h2 => ?_
        rw [List.getElem_set]
        have hj : j < points + 1 := by rw [hlen] at h2; exact h2
        have val : ∀ l (q : j < (heldC points l).length), (heldC points l)[j] = (((l.filter fun m => decide (heldN m = j)).length : Nat) : Int) := fun l q => by
          have z : (heldC points l)[j]? = some (((l.filter fun m => decide (heldN m = j)).length : Nat) : Int) := by
            unfold heldC
            rw [List.getElem?_map, List.getElem?_range hj]
            rfl
          exact (List.getElem?_eq_some_iff.mp z).2
        rw [val _ h2, List.take_succ, hmi]
        simp only [Option.toList_some, List.filter_append, List.length_append]
        by_cases e : heldN m = j
        · subst e
          rw [if_pos rfl, List.filter_cons_of_pos (by simp)]
          have := val (ms.take i) hi2
          rw [this]
          simp
        · rw [if_neg e, List.filter_cons_of_neg (by simpa using e), val]
          simp
      rw [e1]
      exact hk _ ⟨_, _, _, rfl⟩
    · subst he
      walk_at "go"
      rw [List.take_length]
      exact h


abbrev N_Tally_of_moves : List Str := ["points", "moves", "index", "move"]
def w_Tally_of_moves (EW : EWt) : WS :=
  (wSeq (wExpr (wCall [false, false, false] sp_check_number [] EW (wCons (wVar 0) (wCons (wTmp (.int 0)) (wCons (wTmp (.int 12)) wNil))))) <|
  (wSeq (wIf (wTB (wBin (kd2 gtK) (wOp (kd1 lenK) (wCons (wVar 1) wNil)) (wTmp (.int 400))))
  (wRaise EW "TooMany" 2 fl_TooMany ok_TooMany (wCons (wTmp (.str "list")) (wCons (wTmp (.int 400)) wNil)))
  wNext) <|
  (wSeq (wFor (wEnum (wVar 1)) (tgT [2, 3])
  (wIf (wOr (wNot (wTest (wCall [false] sp_is_move [] EW (wCons (wVar 3) wNil)))) (wTB (wBin (kd2 neK) (wOp (kd1 lenK) (wCons (wVar 3) wNil)) (wVar 0))))
  (wRaise EW "NotAMove" 1 fl_NotAMove ok_NotAMove (wCons (wVar 2) wNil))
  wNext)) <|
  (wRet (wMake "Tally" [false] sp_Tally___init__ [] EW (wCons (wCall [false, false] sp_held_counts [] EW (wCons (wVar 0) (wCons (wVar 1) wNil))) wNil))))))
def sp_Tally_of_moves : SpD := fun ds Q E => ∃ p c ys, ds = [p, c] ∧ noOwn p = true ∧ (tyN p).isSome = true ∧ SeqOf c ys ∧ noOwnL ys = true ∧ ys.length ≤ 1000 ∧ (∀ y ∈ ys, (tyN y).isSome = true ∧ ∀ zs, y = .tup zs → zs.length ≤ 1000 ∧ ∀ z ∈ zs, (tyN z).isSome = true) ∧
  ((inR 0 12 p = false ∧ ShOk p ∧ ∀ os, E "BadNumber" (fldsD fl_BadNumber [p, .int 0, .int 12]) os) ∨
   (∃ n : Nat, p = .int n ∧ n ≤ 12 ∧
     ((400 < ys.length ∧ ∀ os, E "TooMany" (fldsD fl_TooMany [.str (Str.ofString "list"), .int 400]) os) ∨
      (ys.length ≤ 400 ∧
        ((∃ (i : Nat) (y : D), ys[i]? = some y ∧ ¬ GoodMv n y ∧ (∀ j < i, ∀ y, ys[j]? = some y → GoodMv n y) ∧ ∀ os, E "NotAMove" (fldsD fl_NotAMove [.int i]) os) ∨
         ∃ ms : List (List Int), ys = dmoves ms ∧ (∀ m ∈ ms, m.Perm (upto n)) ∧ Q (TL true (heldC n ms)) [])))))
theorem len_Tally_of_moves : ∀ ds Q E, sp_Tally_of_moves ds Q E → ds.length = 2 := fun ds Q E h => by
  unfold sp_Tally_of_moves at h
  obtain ⟨_, _, _, h, _⟩ := h
  rw [h]; rfl
theorem heldC_nonneg (n : Nat) (ms : List (List Int)) : ∀ x ∈ heldC n ms, 0 ≤ x := fun x hx => by
  obtain ⟨k, _, rfl⟩ := List.mem_map.mp hx
  omega
theorem heldC_len (n : Nat) (ms : List (List Int)) : (heldC n ms).length = n + 1 := by unfold heldC; simp
theorem pf_Tally_of_moves : ∀ ds Q E, sp_Tally_of_moves ds Q E → w_Tally_of_moves (fun c fs env => E c fs (outs [false, false] env)) (dEnd [false, false] Q) (startE N_Tally_of_moves ds) := by
  rintro _ Q E ⟨p, c, ys, rfl, hp, hpt, hc, hno, hl, hty, h⟩
  have hco : noOwn c = true := by rcases hc with rfl | rfl <;> exact hno
  rcases h with ⟨a, b, h⟩ | ⟨n, rfl, hn, h⟩
  · walk_at "st"
    unfold w_Tally_of_moves
    walk_at "go"
    refine ⟨p, 0, 12, rfl, hp, hpt, by decide, by decide, ?_⟩
    exact .inr ⟨a, b, fun os => h _⟩
  rcases h with ⟨hb, h⟩ | ⟨hl4, h⟩
  · rcases hc with rfl | rfl
    all_goals
      walk_at "st"
      unfold w_Tally_of_moves
      walk_at "go"
      refine ⟨_, 0, 12, rfl, hp, hpt, by decide, by decide, ?_⟩
      refine .inl ⟨by simp [inR]; omega, ?_⟩
      walk_at "go"
      · exact ⟨_, _, rfl, ⟨_, rfl, by decide⟩, ShOk_int (by decide)⟩
      · exact h _
      · omega
  have bad : ∀ (i : Nat) (y : D), ys[i]? = some y → ¬ GoodMv n y → (∀ j < i, ∀ y, ys[j]? = some y → GoodMv n y) → ∀ os, E "NotAMove" (fldsD fl_NotAMove [.int i]) os := by
    intro i y hy hg hj
    rcases h with ⟨i2, y2, hy2, hg2, hj2, h⟩ | ⟨ms, rfl, hm, _⟩
    · have e : i = i2 := by
        rcases Nat.lt_trichotomy i i2 with q | q | q
        · exact absurd (hj2 i q y hy) hg
        · exact q
        · exact absurd (hj i2 q y2 hy2) hg2
      rw [e]; exact h
    · obtain ⟨m, hmi, rfl⟩ := dmoves_get hy
      have hp := hm m (List.mem_of_getElem? hmi)
      have hl : m.length = n := by rw [hp.length_eq, upto_len]
      exact absurd ⟨m, rfl, hl, m, rfl, by omega, by rw [hl]; exact hp⟩ hg
  have good : (∀ j < ys.length, ∀ y, ys[j]? = some y → GoodMv n y) → ∃ ms : List (List Int), ys = dmoves ms ∧ (∀ m ∈ ms, m.Perm (upto n)) ∧ Q (TL true (heldC n ms)) [] := by
    intro hj
    rcases h with ⟨i2, y2, hy2, hg2, hj2, h⟩ | h
    · exact absurd (hj i2 (List.getElem?_eq_some_iff.mp hy2).1 y2 hy2) hg2
    · exact h
  rcases hc with rfl | rfl
  all_goals
    walk_at "st"
    unfold w_Tally_of_moves
    walk_at "go"
    refine ⟨_, 0, 12, rfl, hp, hpt, by decide, by decide, ?_⟩
    refine .inl ⟨by simp [inR]; omega, ?_⟩
    walk_at "go"
    · omega
    · omega
    refine FOR_en (fun i e => (∃ a b : Option D, e = [some (D.int n), some _, a, b]) ∧ ∀ j < i, ∀ y, ys[j]? = some y → GoodMv n y) ⟨⟨_, _, rfl⟩, fun j hj => absurd hj (Nat.not_lt_zero j)⟩ (fun i x hx e hI k hk => ?_) (fun e hI => ?_)
    · obtain ⟨⟨a, b, rfl⟩, hI⟩ := hI
      have hxm := List.mem_of_getElem? hx
      have hil : i < ys.length := (List.getElem?_eq_some_iff.mp hx).1
      walk_at "go"
      rw [noOwnL_iff.mp hno x hxm]
      walk_at "go"
      by_cases hm : MvD x
      · refine ⟨x, true, rfl, noOwnL_iff.mp hno x hxm, (hty x hxm).1, (hty x hxm).2, ⟨fun _ => hm, fun _ => rfl⟩, ?_⟩
        have hm2 := hm
        obtain ⟨xs, rfl, x12, xp⟩ := hm
        walk_at "go"
        · refine hk _ ⟨⟨_, _, rfl⟩, fun j hj y hy => ?_⟩
          by_cases e : j = i
          · subst e
            rw [hx] at hy
            cases hy
            exact ⟨xs, rfl, by omega, hm2⟩
          · exact hI j (by omega) y hy
        · exact ⟨_, rfl, ShOk_int (by omega)⟩
        · refine bad i _ hx (fun ⟨ys, e, hl, _⟩ => ?_) hI _
          have := congrArg List.length (D.tup.inj e)
          rw [List.length_map, List.length_map] at this
          omega
      · refine ⟨x, false, rfl, noOwnL_iff.mp hno x hxm, (hty x hxm).1, (hty x hxm).2, ⟨fun e => (by cases e), fun e => absurd e hm⟩, ?_⟩
        walk_at "go"
        · exact ⟨_, rfl, ShOk_int (by omega)⟩
        · exact bad i _ hx (fun ⟨_, _, _, q⟩ => hm q) hI _
    · obtain ⟨⟨a, b, rfl⟩, hI⟩ := hI
      obtain ⟨ms, rfl, hm, hq⟩ := good hI
      walk_at "go"
      refine ⟨n, _, ms, rfl, by first | exact .inl rfl | exact .inr rfl, hn, by rw [List.length_map] at hl; exact hl, fun m q => by rw [(hm m q).length_eq, upto_len], ?_⟩
      walk_at "go"
      refine ⟨.lst false (dints (heldC n ms)), dints (heldC n ms), rfl, .inl rfl, noOwnL_ints, by rw [List.length_map, heldC_len]; omega, fun y hy => by obtain ⟨i, _, rfl⟩ := List.mem_map.mp hy; rfl, .inr ⟨by rw [List.length_map, heldC_len]; omega, .inr ⟨heldC n ms, rfl, heldC_nonneg n ms, ?_⟩⟩⟩
      walk_at "go"
      try exact hq


theorem pf__law_is_whole_h : ∀ ds Q (E : Str → List (Str × D) → List (Option D) → Prop), sp__law_is_whole ds Q E → w__law_is_whole NE (dEnd [false] Q) (startE N__law_is_whole ds) := by
  rintro _ Q E ⟨d, rfl, ⟨⟨i, rfl⟩, h⟩ | ⟨⟨t, ht, hn⟩, h⟩⟩
  · walk_at "st"
    unfold w__law_is_whole
    walk_at "go"
    try exact h
  · walk_at "st"
    unfold w__law_is_whole
    cases d with
    | int i => simp [tyN] at ht; exact absurd ht.symm hn
    | dik o k => simp [tyN] at ht
    | dit o k => simp [tyN] at ht
    | ins o c f => simp [tyN] at ht
    | exc c f => simp [tyN] at ht
    | _ => walk_at "go"; try exact h


theorem pf__law_same_h : ∀ ds Q (E : Str → List (Str × D) → List (Option D) → Prop), sp__law_same ds Q E → w__law_same NE (dEnd [false, false] Q) (startE N__law_same ds) := by
  rintro _ Q E ⟨a, rfl, hn, hp, hs, h⟩
  exact pfs__law_same hn hp hs h


abbrev N__law_due_error : List Str := ["error", "due", "told_of"]
def w__law_due_error (c : Str) (fs : List (Str × D)) : WS :=
  (wSeq (wSet 2 (wLst wNil)) <|
  (wSeq (wIf (wTest (wErrIs (kt c "BadNumber")))
  (wExpr (wM1 false 2 appK (wTup (wCons (wTmp (.str "BadNumber")) (wCons (wErrF fs "value") (wCons (wErrF fs "low") (wCons (wErrF fs "high") wNil)))))))
  wNext) <|
  (wSeq (wIf (wTest (wErrIs (kt c "NotAMove")))
  (wExpr (wM1 false 2 appK (wTup (wCons (wTmp (.str "NotAMove")) (wCons (wErrF fs "index") wNil)))))
  wNext) <|
  (wSeq (wIf (wTest (wErrIs (kt c "TooMany")))
  (wExpr (wM1 false 2 appK (wTup (wCons (wTmp (.str "TooMany")) (wCons (wErrF fs "what") (wCons (wErrF fs "limit") wNil))))))
  wNext) <|
  (wSeq (wIf (wTest (wErrIs (kt c "NotACount")))
  (wExpr (wM1 false 2 appK (wTup (wCons (wTmp (.str "NotACount")) (wCons (wErrF fs "index") wNil)))))
  wNext) <|
  (wSeq (wIf (wTest (wErrIs (ktL c kl0)))
  (wRet (wTmp (.bl false)))
  wNext) <|
  (wSeq (wIf (wOr (wNot (wTest (wErrIs (kt c "HeldorderError")))) (wNot (wTest (wErrIs (kt c "ValueError")))))
  (wRet (wTmp (.bl false)))
  wNext) <|
  (wRet (wCall [false, false] sp__law_same [] NE (wCons (wVar 2) (wCons (wLst (wCons (wVar 1) wNil)) wNil)))))))))))
/-- the error and the tuple that tells of it -/
def DueE (c : Str) (fs : List (Str × D)) (due : D) : Prop :=
  (∃ a b d, c = Str.ofString "BadNumber" ∧ fs = fldsD fl_BadNumber [a, b, d] ∧ due = .tup [.str (Str.ofString "BadNumber"), a, b, d]) ∨
  (∃ a, c = Str.ofString "NotAMove" ∧ fs = fldsD fl_NotAMove [a] ∧ due = .tup [.str (Str.ofString "NotAMove"), a]) ∨
  (∃ a b, c = Str.ofString "TooMany" ∧ fs = fldsD fl_TooMany [a, b] ∧ due = .tup [.str (Str.ofString "TooMany"), a, b]) ∨
  (∃ a, c = Str.ofString "NotACount" ∧ fs = fldsD fl_NotACount [a] ∧ due = .tup [.str (Str.ofString "NotACount"), a])
def sp__law_due_error : SpX := fun c fs ds Q => c ∈ raised ∧ ∃ due, ds = [due] ∧ DueE c fs due ∧ Tame 10000 due ∧ Q (.bl true)
theorem lst1 {due : D} (t : Tame 10000 due) : noOwn (.lst false [frz due]) = true ∧ Pl (.lst false [frz due]) = true ∧ sz (.lst false [frz due]) ≤ 100000 := by
  obtain ⟨t1, t2, t3, t4⟩ := t
  rw [frz_of t1]
  refine ⟨?_, ?_, ?_⟩
  · show (noOwn due && true) = true
    rw [t1]; rfl
  · show (Pl due && true) = true
    rw [t3]; rfl
  · show 1 + (sz due + 0) ≤ 100000
    omega
theorem pf__law_due_error : ∀ c fs ds Q, ds.length = 1 → sp__law_due_error c fs ds Q → w__law_due_error c fs (xEnd Q) (envE N__law_due_error ds) := by
  rintro c fs _ Q _ ⟨hc, due, rfl, hd, ⟨t1, t2, t3, t4⟩, h⟩
  have tt := lst1 (due := due) ⟨t1, t2, t3, t4⟩
  rcases hd with ⟨a, b, d, rfl, rfl, rfl⟩ | ⟨a, rfl, rfl, rfl⟩ | ⟨a, b, rfl, rfl, rfl⟩ | ⟨a, rfl, rfl, rfl⟩
  all_goals
    walk_at "st"
    unfold w__law_due_error
    walk_at "go"
    repeat' (first
      | (refine OPT_of (a := true) (by decide) ?_; walk_at "go")
      | (refine OPT_of (a := false) (by decide) ?_; walk_at "go")
      | (refine OPT_of (a := a) rfl ?_; walk_at "go")
      | (refine OPT_of (a := b) rfl ?_; walk_at "go")
      | (refine OPT_of (a := d) rfl ?_; walk_at "go"))
    all_goals refine BR_yes (by simpa [noOwn, noOwnL, Bool.and_assoc] using t1) ?_
    all_goals walk_at "go"
    all_goals
      refine ⟨_, rfl, tt.1, tt.2.1, tt.2.2, ?_⟩
      walk_at "go"
    all_goals first | exact h | trace_state


abbrev N__law_refuses : List Str := ["which", "one", "two", "due", "kept", "error"]
def w__law_refuses (EW : EWt) : WS :=
  (wSeq (wSet 4 (wIfE (wTest (wIsiI "list" "Tally" (wVar 2))) (wOp (kd1 listK) (wCons (wVar 2) wNil)) (wTmp .non))) <|
  (wSeq (wTry (exmB "HeldorderError") EW 5 (fun EW => (wIf (wTB (wBin (kd2 eqK) (wVar 0) (wTmp (.int 0))))
  (wExpr (wMake "Tally" [false] sp_Tally___init__ [] EW (wCons (wVar 2) wNil)))
  (wIf (wTB (wBin (kd2 eqK) (wVar 0) (wTmp (.int 1))))
  (wExpr (wMeth "Tally" "at" [false, false] sp_Tally_at EW (wVar 1) (wCons (wVar 2) wNil)))
  (wIf (wTB (wBin (kd2 eqK) (wVar 0) (wTmp (.int 2))))
  (wExpr (wCall [false, false] (spOwn "Tally" sp_Tally___mul__) [] EW (wCons (wVar 1) (wCons (wVar 2) wNil))))
  (wExpr (wCall [false, false] sp_Tally_of_moves [] EW (wCons (wVar 1) (wCons (wVar 2) wNil)))))))) (fun c fs => (wRet (wAndV (wErrCall sp__law_due_error c fs 1 (wCons (wVar 3) wNil)) (wOrV (wBin (kd2 isK) (wVar 4) (wTmp .non)) (wCall [false, false] sp__law_same [] NE (wCons (wVar 2) (wCons (wVar 4) wNil)))))))) <|
  (wRet (wTmp (.bl false)))))
/-- what _law_bad_counts returns: entries, and the error that is due -/
def BadC (ys : List D) (due : D) : Prop := noOwnL ys = true ∧ ys.length ≤ 28 ∧ (∀ y ∈ ys, Tame 3 y) ∧
  (((ys.length < 1 ∨ 25 < ys.length) ∧ due = .tup [.str "BadNumber", .int ys.length, .int 1, .int 25]) ∨
   (1 ≤ ys.length ∧ ys.length ≤ 25 ∧ ∃ i : Nat, due = .tup [.str "NotACount", .int i] ∧ (∀ j < i, ∀ y, ys[j]? = some y → isCnt y = true) ∧ ∃ y, ys[i]? = some y ∧ isCnt y = false))
/-- an entry of a list of moves -/
def TmM (y : D) : Prop := Tame 20 y ∧ ∀ zs, y = .tup zs → zs.length ≤ 1000 ∧ ∀ z ∈ zs, (tyN z).isSome = true
/-- what _law_wrong_moves returns -/
def BadM (n : Nat) (ys : List D) (due : D) : Prop := noOwnL ys = true ∧ ys.length ≤ 403 ∧ (∀ y ∈ ys, TmM y) ∧
  ((400 < ys.length ∧ due = .tup [.str (Str.ofString "TooMany"), .str (Str.ofString "list"), .int 400]) ∨
   (ys.length ≤ 400 ∧ ∃ (i : Nat) (y : D), ys[i]? = some y ∧ ¬ GoodMv n y ∧ (∀ j < i, ∀ y, ys[j]? = some y → GoodMv n y) ∧ due = .tup [.str (Str.ofString "NotAMove"), .int i]))
def sp__law_refuses : SpD := fun ds Q E => ∃ (w : Int) (one two due : D), ds = [.int w, one, two, due] ∧ noOwn one = true ∧ noOwn two = true ∧ Tame 10000 due ∧
  ((w = 0 ∧ one = .non ∧ ∃ ys, SeqOf two ys ∧ BadC ys due) ∨
   (w = 1 ∧ (∃ xs, one = TL false xs) ∧ inR 0 24 two = false ∧ ShOk two ∧ Tame 100 two ∧ due = .tup [.str (Str.ofString "BadNumber"), two, .int 0, .int 24]) ∨
   (w = 2 ∧ due = .tup [.str (Str.ofString "TooMany"), .str (Str.ofString "points"), .int 24] ∧ ∃ xs ys : List Int, one = TL false xs ∧ two = TL false ys ∧ 1 ≤ xs.length ∧ 1 ≤ ys.length ∧ xs.length ≤ 25 ∧ ys.length ≤ 25 ∧ (∀ x ∈ xs, 0 ≤ x ∧ x < 2 ^ 1000) ∧ (∀ y ∈ ys, 0 ≤ y ∧ y < 2 ^ 1000) ∧ 26 < xs.length + ys.length) ∨
   (w = 3 ∧ ∃ ys, SeqOf two ys ∧ ∃ n d2, n ≤ 12 ∧ BadM n ys d2 ∧ ((inR 0 12 one = false ∧ ShOk one ∧ Tame 100 one ∧ due = .tup [.str (Str.ofString "BadNumber"), one, .int 0, .int 12]) ∨ (one = .int (n : Nat) ∧ due = d2)))) ∧ Q (.bl true) []
theorem len__law_refuses : ∀ ds Q E, sp__law_refuses ds Q E → ds.length = 4 := fun ds Q E h => by
  unfold sp__law_refuses at h
  obtain ⟨_, _, _, _, h, _⟩ := h
  rw [h]; rfl
theorem pf__law_refuses : ∀ ds Q E, sp__law_refuses ds Q E → w__law_refuses (fun c fs env => E c fs (outs [false, false, false, false] env)) (dEnd [false, false, false, false] Q) (startE N__law_refuses ds) := by
  rintro _ Q E ⟨w, one, two, due, rfl, ho, ht, hd, h, hQ⟩
  rcases h with ⟨rfl, rfl, ys, hs, hb⟩ | ⟨rfl, ⟨xs, rfl⟩, h1, h2, h3, rfl⟩ | ⟨rfl, rfl, xs, ys, rfl, rfl, h1, h2, h3, h4, hx, hy, h5⟩ | ⟨rfl, ys, hs, n, d2, hn, hb, h⟩
  · obtain ⟨hno, hl, hta, hb⟩ := hb
    have hpl : PlL ys = true := Pl_of_mem fun y hy => (hta y hy).2.2.1
    have hsz : szL ys ≤ 3 * ys.length := szL_le fun y hy => (hta y hy).2.2.2
    rcases hs with rfl | rfl
    all_goals
      walk_at "st"
      unfold w__law_refuses
      walk_at "go"
      refine ⟨_, ys, rfl, by first | exact .inl rfl | exact .inr rfl, hno, by omega, fun y hy => (hta y hy).2.1, ?_⟩
      rcases hb with ⟨hb, rfl⟩ | ⟨hb1, hb2, i, rfl, hj, y, hy, hyc⟩
      · refine .inl ⟨hb, fun os => ?_⟩
        rcases os with _ | ⟨o1, os⟩
        all_goals walk_at "go"
        all_goals refine OPT_of (a := true) (by decide) ?_
        all_goals walk_at "go"
        all_goals refine ⟨by decide, _, rfl, .inl ⟨_, _, _, rfl, rfl, rfl⟩, hd, ?_⟩
        all_goals walk_at "go"
        all_goals first | exact hQ | (refine ⟨.lst false ys, by rw [frzL_of hno], hno, hpl, by show 1 + szL ys ≤ _; omega, ?_⟩; walk_at "go"; try exact hQ)
      · refine .inr ⟨⟨hb1, hb2⟩, .inl ⟨i, y, hy, hyc, hj, fun os => ?_⟩⟩
        rcases os with _ | ⟨o1, os⟩
        all_goals walk_at "go"
        all_goals refine OPT_of (a := true) (by decide) ?_
        all_goals walk_at "go"
        all_goals refine ⟨by decide, _, rfl, .inr (.inr (.inr ⟨_, rfl, rfl, rfl⟩)), hd, ?_⟩
        all_goals walk_at "go"
        all_goals first | exact hQ | (refine ⟨.lst false ys, by rw [frzL_of hno], hno, hpl, by show 1 + szL ys ≤ _; omega, ?_⟩; walk_at "go"; try exact hQ)
  · obtain ⟨t1, t2, t3, t4⟩ := h3
    cases two with
    | scr ns => cases t3
    | dik o k => cases t3
    | dit o k => cases t3
    | ins o k f => cases t3
    | exc c f => cases t3
    | lst o zs =>
      have ho : o = false := by cases o with
        | true => cases t1
        | false => rfl
      subst ho
      have hno : noOwnL zs = true := t1
      walk_at "st"
      unfold w__law_refuses
      walk_at "go"
      · rfl
      refine ⟨xs, _, rfl, t1, t2, .inr ⟨h1, h2, fun os => ?_⟩⟩
      walk_at "go"
      refine OPT_of (a := true) (by decide) ?_
      walk_at "go"
      refine ⟨by decide, _, rfl, .inl ⟨_, _, _, rfl, rfl, rfl⟩, hd, ?_⟩
      walk_at "go"
      refine ⟨.lst false zs, by rw [frzL_of hno], t1, t3, by omega, ?_⟩
      walk_at "go"
      try exact hQ
    | tup zs =>
      have hno : noOwnL zs = true := t1
      walk_at "st"
      unfold w__law_refuses
      walk_at "go"
      · rfl
      refine ⟨xs, _, rfl, t1, t2, .inr ⟨h1, h2, fun os => ?_⟩⟩
      walk_at "go"
      refine OPT_of (a := true) (by decide) ?_
      walk_at "go"
      refine ⟨by decide, _, rfl, .inl ⟨_, _, _, rfl, rfl, rfl⟩, hd, ?_⟩
      walk_at "go"
      try exact hQ
    | _ =>
      walk_at "st"
      unfold w__law_refuses
      walk_at "go"
      · rfl
      refine ⟨xs, _, rfl, t1, t2, .inr ⟨h1, h2, fun os => ?_⟩⟩
      walk_at "go"
      refine OPT_of (a := true) (by decide) ?_
      walk_at "go"
      refine ⟨by decide, _, rfl, .inl ⟨_, _, _, rfl, rfl, rfl⟩, hd, ?_⟩
      walk_at "go"
      try exact hQ
  · walk_at "st"
    unfold w__law_refuses
    walk_at "go"
    refine ⟨⟨_, _, _, _, rfl⟩, xs, ys, rfl, h1, h2, h3, h4, hx, hy, .inl ⟨h5, fun os => ?_⟩⟩
    walk_at "go"
    refine OPT_of (a := true) (by decide) ?_
    walk_at "go"
    refine ⟨by decide, _, rfl, .inr (.inr (.inl ⟨_, _, rfl, rfl, rfl⟩)), hd, ?_⟩
    walk_at "go"
    try exact hQ
  · obtain ⟨hno, hl, hta, hb⟩ := hb
    have hpl : PlL ys = true := Pl_of_mem fun y hy => (hta y hy).1.2.2.1
    have hsz : szL ys ≤ 20 * ys.length := szL_le fun y hy => (hta y hy).1.2.2.2
    have hty : ∀ y ∈ ys, (tyN y).isSome = true ∧ ∀ zs, y = .tup zs → zs.length ≤ 1000 ∧ ∀ z ∈ zs, (tyN z).isSome = true := fun y hy => ⟨(hta y hy).1.2.1, (hta y hy).2⟩
    rcases hs with rfl | rfl
    all_goals
      walk_at "st"
      unfold w__law_refuses
      walk_at "go"
      rcases h with ⟨o1, o2, o3, rfl⟩ | ⟨rfl, rfl⟩
      · refine ⟨one, _, ys, rfl, ho, o3.2.1, by first | exact .inl rfl | exact .inr rfl, hno, by omega, hty, .inl ⟨o1, o2, fun os => ?_⟩⟩
        walk_at "go"
        refine OPT_of (a := true) (by decide) ?_
        walk_at "go"
        refine ⟨by decide, _, rfl, .inl ⟨_, _, _, rfl, rfl, rfl⟩, hd, ?_⟩
        walk_at "go"
        all_goals first | exact hQ | (refine ⟨.lst false ys, by rw [frzL_of hno], hno, hpl, by show 1 + szL ys ≤ _; omega, ?_⟩; walk_at "go"; try exact hQ)
      · refine ⟨_, _, ys, rfl, ho, rfl, by first | exact .inl rfl | exact .inr rfl, hno, by omega, hty, .inr ⟨n, rfl, hn, ?_⟩⟩
        rcases hb with ⟨hb, rfl⟩ | ⟨hb, i, y, hy, hg, hj, rfl⟩
        · refine .inl ⟨hb, fun os => ?_⟩
          walk_at "go"
          refine OPT_of (a := true) (by decide) ?_
          walk_at "go"
          refine ⟨by decide, _, rfl, .inr (.inr (.inl ⟨_, _, rfl, rfl, rfl⟩)), hd, ?_⟩
          walk_at "go"
          all_goals first | exact hQ | (refine ⟨.lst false ys, by rw [frzL_of hno], hno, hpl, by show 1 + szL ys ≤ _; omega, ?_⟩; walk_at "go"; try exact hQ)
        · refine .inr ⟨hb, .inl ⟨i, y, hy, hg, hj, fun os => ?_⟩⟩
          walk_at "go"
          refine OPT_of (a := true) (by decide) ?_
          walk_at "go"
          refine ⟨by decide, _, rfl, .inr (.inl ⟨_, rfl, rfl, rfl⟩), hd, ?_⟩
          walk_at "go"
          all_goals first | exact hQ | (refine ⟨.lst false ys, by rw [frzL_of hno], hno, hpl, by show 1 + szL ys ≤ _; omega, ?_⟩; walk_at "go"; try exact hQ)


abbrev N_Tally___eq__ : List Str := ["self", "other"]
def w_Tally___eq__ (EW : EWt) : WS :=
  (wRet (wAndV (wIsC "Tally" (wVar 1)) (wBin (kd2 eqK) (wFld "Tally" "entries" (wVar 0)) (wFld "Tally" "entries" (wVar 1)))))
theorem TL_own {xs : List Int} : noOwn (TL false xs) = true := by
  show (!false && ((noOwnL (dints xs)) && true)) = true
  rw [noOwnL_ints]; rfl
def sp_Tally___eq__ : SpD := fun ds Q E => ∃ xs d, ds = [TL false xs, d] ∧ ((∃ o ys, d = TL o ys ∧ noOwn d = true ∧ Q (.bl (decide (xs = ys))) []) ∨ ((tyN d).isSome = true ∧ noOwn d = true ∧ Q (.bl false) []))
theorem len_Tally___eq__ : ∀ ds Q E, sp_Tally___eq__ ds Q E → ds.length = 2 := fun ds Q E h => by
  unfold sp_Tally___eq__ at h
  obtain ⟨_, _, h, _⟩ := h
  rw [h]; rfl
theorem pf_Tally___eq__ : ∀ ds Q E, sp_Tally___eq__ ds Q E → w_Tally___eq__ (fun c fs env => E c fs (outs [false, false] env)) (dEnd [false, false] Q) (startE N_Tally___eq__ ds) := by
  rintro _ Q E ⟨xs, d, rfl, h⟩
  walk_at "st"
  unfold w_Tally___eq__
  rcases h with ⟨o, ys, rfl, hn, h⟩ | ⟨ht, hn, h⟩
  · walk_at "go"
    try exact h
  · obtain ⟨t, ht⟩ := Option.isSome_iff_exists.mp ht
    walk_at "rd"
    rw [q_isC_some ht]
    walk_at "go"
    try exact h


abbrev N__law_pair_right : List Str := ["one", "two", "first", "second", "total", "size", "due", "product"]
def w__law_pair_right (EW : EWt) : WS :=
  (wSeq (wSet 4 (wCall [false, false] sp__law_unpacked [] EW (wCons (wBin (kd2 addK) (wCall [false] sp__law_packed [] EW (wCons (wVar 2) wNil)) (wCall [false] sp__law_packed [] EW (wCons (wVar 3) wNil))) (wCons (wOp (kd2 max2K) (wCons (wOp (kd1 lenK) (wCons (wVar 2) wNil)) (wCons (wOp (kd1 lenK) (wCons (wVar 3) wNil)) wNil))) wNil)))) <|
  (wSeq (wIf (wOr (wNot (wTest (wCall [false, false] sp__law_tells [] EW (wCons (wCall [false, false] (spOwn "Tally" sp_Tally___add__) [] EW (wCons (wVar 0) (wCons (wVar 1) wNil))) (wCons (wVar 4) wNil))))) (wNot (wTest (wCall [false, false] sp__law_tells [] EW (wCons (wCall [false, false] (spOwn "Tally" sp_Tally___add__) [] EW (wCons (wVar 1) (wCons (wVar 0) wNil))) (wCons (wVar 4) wNil))))))
  (wRet (wTmp (.bl false)))
  wNext) <|
  (wSeq (wSet 5 (wBin (kd2 subK) (wBin (kd2 addK) (wOp (kd1 lenK) (wCons (wVar 2) wNil)) (wOp (kd1 lenK) (wCons (wVar 3) wNil))) (wTmp (.int 1)))) <|
  (wSeq (wIf (wTB (wBin (kd2 gtK) (wVar 5) (wTmp (.int 25))))
  (wSeq (wSet 6 (wTup (wCons (wTmp (.str "TooMany")) (wCons (wTmp (.str "points")) (wCons (wTmp (.int 24)) wNil))))) <|
  (wRet (wAndV (wCall [false, false, false, false] sp__law_refuses [] EW (wCons (wTmp (.int 2)) (wCons (wVar 0) (wCons (wVar 1) (wCons (wVar 6) wNil))))) (wCall [false, false, false, false] sp__law_refuses [] EW (wCons (wTmp (.int 2)) (wCons (wVar 1) (wCons (wVar 0) (wCons (wVar 6) wNil))))))))
  wNext) <|
  (wSeq (wSet 7 (wCall [false, false] sp__law_unpacked [] EW (wCons (wBin (kd2 mulK) (wCall [false] sp__law_packed [] EW (wCons (wVar 2) wNil)) (wCall [false] sp__law_packed [] EW (wCons (wVar 3) wNil))) (wCons (wVar 5) wNil)))) <|
  (wSeq (wIf (wOr (wNot (wTest (wCall [false, false] sp__law_tells [] EW (wCons (wCall [false, false] (spOwn "Tally" sp_Tally___mul__) [] EW (wCons (wVar 0) (wCons (wVar 1) wNil))) (wCons (wVar 7) wNil))))) (wNot (wTest (wCall [false, false] sp__law_tells [] EW (wCons (wCall [false, false] (spOwn "Tally" sp_Tally___mul__) [] EW (wCons (wVar 1) (wCons (wVar 0) wNil))) (wCons (wVar 7) wNil))))))
  (wRet (wTmp (.bl false)))
  wNext) <|
  (wSeq (wIf (wOr (wTB (wBin (kd2 isnK) (wCall [false, false] (spOwnE "Tally" sp_Tally___eq__) [] EW (wCons (wCall [false, false] (spOwn "Tally" sp_Tally___mul__) [] EW (wCons (wVar 0) (wCons (wVar 1) wNil))) (wCons (wCall [false, false] (spOwn "Tally" sp_Tally___mul__) [] EW (wCons (wVar 1) (wCons (wVar 0) wNil))) wNil))) (wTmp (.bl true)))) (wTB (wBin (kd2 isnK) (wCall [false, false] (spNot (spOwnE "Tally" sp_Tally___eq__)) [] EW (wCons (wCall [false, false] (spOwn "Tally" sp_Tally___mul__) [] EW (wCons (wVar 0) (wCons (wVar 1) wNil))) (wCons (wCall [false, false] (spOwn "Tally" sp_Tally___mul__) [] EW (wCons (wVar 1) (wCons (wVar 0) wNil))) wNil))) (wTmp (.bl false)))))
  (wRet (wTmp (.bl false)))
  wNext) <|
  (wRet (wAndV (wCall [false, false] sp__law_tells [] EW (wCons (wVar 0) (wCons (wVar 2) wNil))) (wCall [false, false] sp__law_tells [] EW (wCons (wVar 1) (wCons (wVar 3) wNil))))))))))))
/-! ### packed sums and products -/
def pkf : Nat → (Nat → Int) → Int
  | 0, _ => 0
  | n + 1, f => f 0 + BB * pkf n fun k => f (k + 1)
theorem pkf_map : ∀ {n : Nat} {f : Nat → Int}, pk ((List.range n).map f) = pkf n f
  | 0, _ => rfl
  | n + 1, f => by
    rw [List.range_succ_eq_map, List.map_cons, List.map_map]
    show f 0 + BB * pk ((List.range n).map (f ∘ Nat.succ)) = f 0 + BB * pkf n fun k => f (k + 1)
    rw [pkf_map]; rfl
theorem pkf_add : ∀ {n : Nat} {f g : Nat → Int}, pkf n (fun k => f k + g k) = pkf n f + pkf n g
  | 0, _, _ => rfl
  | n + 1, f, g => by
    show f 0 + g 0 + BB * pkf n (fun k => f (k + 1) + g (k + 1)) = (f 0 + BB * pkf n fun k => f (k + 1)) + (g 0 + BB * pkf n fun k => g (k + 1))
    rw [pkf_add, Int.mul_add]; omega
theorem pkf_mul : ∀ {n : Nat} {c : Int} {f : Nat → Int}, pkf n (fun k => c * f k) = c * pkf n f
  | 0, c, _ => (Int.mul_zero c).symm
  | n + 1, c, f => by
    show c * f 0 + BB * pkf n (fun k => c * f (k + 1)) = c * (f 0 + BB * pkf n fun k => f (k + 1))
    rw [pkf_mul, Int.mul_add, ← Int.mul_assoc, ← Int.mul_assoc, Int.mul_comm BB c]
theorem pkf_zero : ∀ {n : Nat}, pkf n (fun _ => 0) = 0
  | 0 => rfl
  | n + 1 => by
    show 0 + BB * pkf n (fun _ => 0) = 0
    rw [pkf_zero]; rfl
theorem pkf_getD : ∀ {xs : List Int} {n : Nat}, xs.length ≤ n → pkf n (fun k => xs.getD k 0) = pk xs
  | [], n, _ => pkf_zero
  | x :: xs, 0, h => by simp at h
  | x :: xs, n + 1, h => by
    show x + BB * pkf n (fun k => xs.getD k 0) = x + BB * pk xs
    rw [pkf_getD (by simpa using h)]
theorem pk_addT {xs ys : List Int} : pk (addT xs ys) = pk xs + pk ys := by
  unfold addT
  rw [pkf_map, pkf_add, pkf_getD (by omega), pkf_getD (by omega)]
theorem sum_ite {α : Type} (f : α → Int) (p : α → Bool) : ∀ l : List α, ((l.filter p).map f).sum = (l.map fun i => if p i then f i else 0).sum
  | [] => rfl
  | x :: l => by
    by_cases h : p x = true
    · rw [List.filter_cons_of_pos h, List.map_cons, List.map_cons, List.sum_cons, List.sum_cons, sum_ite, if_pos h]
    · rw [List.filter_cons_of_neg h, List.map_cons, List.sum_cons, sum_ite, if_neg h]; omega
theorem sum_zero {α : Type} : ∀ l : List α, (l.map fun _ => (0 : Int)).sum = 0
  | [] => rfl
  | x :: l => by rw [List.map_cons, List.sum_cons, sum_zero]; rfl
theorem convAt_nil {ys : List Int} {k : Nat} : convAt [] ys k = 0 := rfl
theorem convAt_cons {x : Int} {xs ys : List Int} {k : Nat} : convAt (x :: xs) ys k = x * ys.getD k 0 + (match k with
    | 0 => 0
    | k + 1 => convAt xs ys k) := by
  unfold convAt
  rw [sum_ite, List.length_cons, List.range_succ_eq_map, List.map_cons, List.sum_cons, List.map_map]
  congr 1
  · simp only [Nat.zero_le, decide_true, Bool.true_and, Nat.sub_zero]
    by_cases h : k < ys.length
    · simp [h]
    · simp [h, List.getElem?_eq_none (Nat.le_of_not_lt h)]
  · cases k with
    | zero =>
      refine Eq.trans (congrArg List.sum (List.map_congr_left fun i _ => ?_)) (sum_zero (List.range xs.length))
      simp
    | succ k =>
      show _ = ((((List.range xs.length).filter fun i => decide (i ≤ k) && decide (k - i < ys.length)).map fun i => xs.getD i 0 * ys.getD (k - i) 0).sum)
      rw [sum_ite]
      refine congrArg List.sum (List.map_congr_left fun i _ => ?_)
      simp [Nat.add_sub_add_right]
theorem pkf_congr {n : Nat} {f g : Nat → Int} (h : ∀ k, f k = g k) : pkf n f = pkf n g := by rw [funext h]
theorem pkf_conv {ys : List Int} (hy : 1 ≤ ys.length) : ∀ {xs : List Int} {n : Nat}, xs.length + ys.length ≤ n + 1 → pkf n (convAt xs ys) = pk xs * pk ys
  | [], n, _ => by
    rw [pkf_congr (g := fun _ => 0) fun k => convAt_nil, pkf_zero]
    show 0 = 0 * pk ys
    rw [Int.zero_mul]
  | x :: xs, 0, h => by simp at h; omega
  | x :: xs, n + 1, h => by
    rw [List.length_cons] at h
    rw [pkf_congr (fun k => convAt_cons), pkf_add, pkf_mul, pkf_getD (by omega)]
    show x * pk ys + (0 + BB * pkf n (convAt xs ys)) = (x + BB * pk xs) * pk ys
    rw [pkf_conv hy (by omega), Int.add_mul, Int.mul_assoc]; omega
theorem pk_conv {xs ys : List Int} (hx : 1 ≤ xs.length) (hy : 1 ≤ ys.length) : pk (conv xs ys) = pk xs * pk ys := by
  unfold conv
  rw [pkf_map, pkf_conv hy (by omega)]
theorem pk_inj : ∀ {xs ys : List Int}, xs.length = ys.length → Bd BB xs → Bd BB ys → pk xs = pk ys → xs = ys
  | [], [], _, _, _, _ => rfl
  | [], _ :: _, h, _, _, _ => by simp at h
  | _ :: _, [], h, _, _, _ => by simp at h
  | x :: xs, y :: ys, h, hx, hy, e => by
    have e' : x + BB * pk xs = y + BB * pk ys := e
    have h1 := hx x (List.mem_cons_self ..)
    have h2 := hy y (List.mem_cons_self ..)
    have a : (x + BB * pk xs) % BB = x := by rw [Int.add_mul_emod_self_left, Int.emod_eq_of_lt h1.1 h1.2]
    have b : (y + BB * pk ys) % BB = y := by rw [Int.add_mul_emod_self_left, Int.emod_eq_of_lt h2.1 h2.2]
    have xy : x = y := by rw [← a, ← b, e']
    subst xy
    have q : BB * pk xs = BB * pk ys := by omega
    have := pk_inj (xs := xs) (ys := ys) (by simpa using h) (fun z hz => hx z (List.mem_cons_of_mem _ hz)) (fun z hz => hy z (List.mem_cons_of_mem _ hz)) (Int.eq_of_mul_eq_mul_left (by decide) q)
    rw [this]
theorem conv_len (xs ys : List Int) : (conv xs ys).length = xs.length + ys.length - 1 := by unfold conv; simp
theorem addT_len (xs ys : List Int) : (addT xs ys).length = max xs.length ys.length := by unfold addT; simp
theorem sum_le {c : Int} : ∀ {l : List Int}, (∀ x ∈ l, x ≤ c) → l.sum ≤ l.length * c
  | [], _ => by simp
  | x :: l, h => by
    have h1 := h x (List.mem_cons_self ..)
    have h2 := sum_le fun y hy => h y (List.mem_cons_of_mem _ hy)
    rw [List.sum_cons, List.length_cons, Int.natCast_add, Int.add_mul]
    omega
theorem getD_lt {B : Int} (hB : 0 < B) {xs : List Int} (h : Bd B xs) (i : Nat) : xs.getD i 0 < B := by
  rw [List.getD_eq_getElem?_getD]
  cases e : xs[i]? with
  | none => simpa using hB
  | some v => exact (h v (List.mem_of_getElem? e)).2
theorem Bd_conv {A B : Int} (hA : 0 < A) (hB : 0 < B) {xs ys : List Int} (hx : Bd A xs) (hy : Bd B ys) (hl : xs.length ≤ 49) : Bd (50 * (A * B)) (conv xs ys) := by
  intro z hz
  have hAB : 0 < A * B := Int.mul_pos hA hB
  obtain ⟨k, _, rfl⟩ := List.mem_map.mp hz
  have x0 : ∀ x ∈ xs, 0 ≤ x := fun x h => (hx x h).1
  have y0 : ∀ x ∈ ys, 0 ≤ x := fun x h => (hy x h).1
  refine ⟨sum_nonneg fun v hv => ?_, ?_⟩
  · obtain ⟨i, _, rfl⟩ := List.mem_map.mp hv
    exact Int.mul_nonneg (getD_nonneg x0 i) (getD_nonneg y0 _)
  · have h1 := sum_le (c := A * B) (l := (((List.range xs.length).filter fun i => decide (i ≤ k) && decide (k - i < ys.length)).map fun i => xs.getD i 0 * ys.getD (k - i) 0)) (fun v hv => by
      obtain ⟨i, _, rfl⟩ := List.mem_map.mp hv
      exact Int.mul_le_mul (Int.le_of_lt (getD_lt hA hx i)) (Int.le_of_lt (getD_lt hB hy _)) (getD_nonneg y0 _) (Int.le_of_lt hA))
    have h2 : (((List.range xs.length).filter fun i => decide (i ≤ k) && decide (k - i < ys.length)).map fun i => xs.getD i 0 * ys.getD (k - i) 0).length ≤ 49 := by
      rw [List.length_map]
      refine Nat.le_trans (List.length_filter_le _ _) ?_
      rw [List.length_range]; exact hl
    refine Int.lt_of_le_of_lt h1 ?_
    refine Int.lt_of_le_of_lt (Int.mul_le_mul_of_nonneg_right (show _ ≤ (49 : Int) by omega) (Int.le_of_lt hAB)) ?_
    omega
theorem Bd_addT {A B : Int} (hA : 0 < A) (hB : 0 < B) {xs ys : List Int} (hx : Bd A xs) (hy : Bd B ys) : Bd (A + B) (addT xs ys) := by
  intro z hz
  obtain ⟨k, _, rfl⟩ := List.mem_map.mp hz
  have x1 := getD_nonneg (fun x h => (hx x h).1) k
  have y1 := getD_nonneg (fun x h => (hy x h).1) k
  have x2 := getD_lt hA hx k
  have y2 := getD_lt hB hy k
  exact ⟨by omega, by omega⟩
theorem Bd_le {A B : Int} (h : A ≤ B) {xs : List Int} (hx : Bd A xs) : Bd B xs := fun x q => ⟨(hx x q).1, Int.lt_of_lt_of_le (hx x q).2 h⟩
theorem conv_comm {A B : Int} (hA : 0 < A) (hB : 0 < B) (hAB : 50 * (A * B) ≤ BB) {xs ys : List Int} (hx : Bd A xs) (hy : Bd B ys) (h1 : 1 ≤ xs.length) (h2 : 1 ≤ ys.length) (l1 : xs.length ≤ 49) (l2 : ys.length ≤ 49) : conv xs ys = conv ys xs := by
  refine pk_inj (by rw [conv_len, conv_len]; omega) (Bd_le hAB (Bd_conv hA hB hx hy l1)) (Bd_le (by rw [Int.mul_comm B A]; exact hAB) (Bd_conv hB hA hy hx l2)) ?_
  rw [pk_conv h1 h2, pk_conv h2 h1, Int.mul_comm]
theorem addT_comm (xs ys : List Int) : addT xs ys = addT ys xs := by
  unfold addT
  rw [Nat.max_comm]
  exact List.map_congr_left fun k _ => Int.add_comm ..

def sp__law_pair_right : SpD := fun ds Q E => ∃ xs ys : List Int, ds = [TL false xs, TL false ys, .lst false (dints xs), .lst false (dints ys)] ∧ 1 ≤ xs.length ∧ 1 ≤ ys.length ∧ xs.length ≤ 25 ∧ ys.length ≤ 25 ∧ Bd (10 ^ 30) xs ∧ Bd (10 ^ 30) ys ∧ Q (.bl true) []
theorem len__law_pair_right : ∀ ds Q E, sp__law_pair_right ds Q E → ds.length = 4 := fun ds Q E h => by
  unfold sp__law_pair_right at h
  obtain ⟨_, _, h, _⟩ := h
  rw [h]; rfl
theorem pf__law_pair_right : ∀ ds Q E, sp__law_pair_right ds Q E → w__law_pair_right (fun c fs env => E c fs (outs [false, false, false, false] env)) (dEnd [false, false, false, false] Q) (startE N__law_pair_right ds) := by
  rintro _ Q E ⟨xs, ys, rfl, h1, h2, h3, h4, hx, hy, h⟩
  have bx : Bd BB xs := Bd_le (by decide) hx
  have by_ : Bd BB ys := Bd_le (by decide) hy
  have hsum : Bd BB (addT xs ys) := Bd_le (by decide) (Bd_addT (by decide) (by decide) hx hy)
  have hmul : Bd BB (conv xs ys) := Bd_le (by decide) (Bd_conv (by decide) (by decide) hx hy (by omega))
  have ac := addT_comm ys xs
  have mc := conv_comm (by decide) (by decide) (by decide) hy hx h2 h1 (by omega) (by omega)
  walk_at "st"
  unfold w__law_pair_right
  walk_at "go"
  refine ⟨xs, rfl, h3, bx, ?_⟩
  walk_at "go"
  refine ⟨ys, rfl, h4, by_, ?_⟩
  walk_at "go"
  have hmax : (if (ys.length : Int) > xs.length then (ys.length : Int) else xs.length) = ((addT xs ys).length : Nat) := by rw [addT_len]; split <;> omega
  refine ⟨addT xs ys, by rw [pk_addT, ← hmax], by rw [addT_len]; omega, hsum, ?_⟩
  walk_at "go"
  refine ⟨⟨_, _, _, _, rfl⟩, xs, ys, rfl, h1, h2, h3, h4, fun x q => (hx x q).1, fun y q => (hy y q).1, ?_⟩
  walk_at "go"
  refine ⟨addT xs ys, rfl, by rw [addT_len]; omega, by rw [addT_len]; omega, ?_⟩
  walk_at "go"
  refine ⟨⟨_, _, _, _, rfl⟩, ys, xs, rfl, h2, h1, h4, h3, fun x q => (hy x q).1, fun y q => (hx y q).1, ?_⟩
  rw [ac]
  walk_at "go"
  refine ⟨addT xs ys, rfl, by rw [addT_len]; omega, by rw [addT_len]; omega, ?_⟩
  walk_at "go"
  · have hd : Tame 10000 (.tup [.str (Str.ofString "TooMany"), .str (Str.ofString "points"), .int 24]) := ⟨rfl, rfl, by first | rfl | decide +kernel, by decide⟩
    have b30 : (10 : Int) ^ 30 ≤ 2 ^ 1000 := by decide
    refine ⟨2, TL false xs, TL false ys, _, rfl, TL_own, TL_own, hd, .inr (.inr (.inl ⟨rfl, rfl, xs, ys, rfl, rfl, h1, h2, h3, h4, Bd_le b30 hx, Bd_le b30 hy, by omega⟩)), ?_⟩
    walk_at "go"
    refine ⟨2, TL false ys, TL false xs, _, rfl, TL_own, TL_own, hd, .inr (.inr (.inl ⟨rfl, rfl, ys, xs, rfl, rfl, h2, h1, h4, h3, Bd_le b30 hy, Bd_le b30 hx, by omega⟩)), ?_⟩
    walk_at "go"
    try exact h
  · refine ⟨xs, rfl, h3, bx, ?_⟩
    walk_at "go"
    refine ⟨ys, rfl, h4, by_, ?_⟩
    walk_at "go"
    · exact .inr (wide_mul (pk_small bx h3).2 (pk_small by_ h4).2 (by decide) (by decide) (by decide))
    have hcl := conv_len xs ys
    refine ⟨conv xs ys, by rw [pk_conv h1 h2, hcl]; refine congrArg (fun z => [D.int (pk xs * pk ys), D.int z]) ?_; omega, by omega, hmul, ?_⟩
    walk_at "go"
    refine ⟨⟨_, _, _, _, rfl⟩, xs, ys, rfl, h1, h2, h3, h4, Bd_le (by decide) hx, Bd_le (by decide) hy, .inr ⟨by omega, ?_⟩⟩
    walk_at "go"
    refine ⟨conv xs ys, rfl, by omega, by omega, ?_⟩
    walk_at "go"
    refine ⟨⟨_, _, _, _, rfl⟩, ys, xs, rfl, h2, h1, h4, h3, Bd_le (by decide) hy, Bd_le (by decide) hx, .inr ⟨by omega, ?_⟩⟩
    rw [mc]
    walk_at "go"
    refine ⟨conv xs ys, rfl, by omega, by omega, ?_⟩
    walk_at "go"
    refine ⟨⟨_, _, _, _, rfl⟩, xs, ys, rfl, h1, h2, h3, h4, Bd_le (by decide) hx, Bd_le (by decide) hy, .inr ⟨by omega, ?_⟩⟩
    walk_at "go"
    refine ⟨⟨_, _, _, _, rfl⟩, ys, xs, rfl, h2, h1, h4, h3, Bd_le (by decide) hy, Bd_le (by decide) hx, .inr ⟨by omega, ?_⟩⟩
    rw [mc]
    walk_at "go"
    refine ⟨⟨_, _, _, rfl, .inl ⟨_, _, rfl⟩⟩, conv xs ys, _, rfl, .inl ⟨_, conv xs ys, rfl, TL_own, ?_⟩⟩
    rw [decide_eq_true (rfl : conv xs ys = conv xs ys)]
    walk_at "go"
    refine ⟨⟨_, _, _, _, rfl⟩, xs, ys, rfl, h1, h2, h3, h4, Bd_le (by decide) hx, Bd_le (by decide) hy, .inr ⟨by omega, ?_⟩⟩
    walk_at "go"
    refine ⟨⟨_, _, _, _, rfl⟩, ys, xs, rfl, h2, h1, h4, h3, Bd_le (by decide) hy, Bd_le (by decide) hx, .inr ⟨by omega, ?_⟩⟩
    rw [mc]
    walk_at "go"
    refine ⟨⟨_, _, _, rfl, .inl ⟨_, _, rfl⟩⟩, conv xs ys, _, rfl, .inl ⟨_, conv xs ys, rfl, TL_own, ?_⟩⟩
    rw [decide_eq_true (rfl : conv xs ys = conv xs ys)]
    refine ⟨_, rfl, ?_⟩
    walk_at "go"
    refine ⟨xs, rfl, by omega, by omega, ?_⟩
    walk_at "go"
    refine ⟨ys, rfl, by omega, by omega, ?_⟩
    walk_at "go"
    try exact h


abbrev N__law_equal_right : List Str := ["one", "two", "first", "second", "alike", "other"]
def w__law_equal_right (EW : EWt) : WS :=
  (wSeq (wSet 4 (wBin (kd2 eqK) (wVar 2) (wVar 3))) <|
  (wSeq (wIf (wNot (wTest (wCall [false, false] sp__law_same [] EW (wCons (wLst (wCons (wCall [false, false] (spOwnE "Tally" sp_Tally___eq__) [] EW (wCons (wVar 0) (wCons (wVar 1) wNil))) (wCons (wCall [false, false] (spOwnE "Tally" sp_Tally___eq__) [] EW (wCons (wVar 1) (wCons (wVar 0) wNil))) (wCons (wCall [false, false] (spNot (spOwnE "Tally" sp_Tally___eq__)) [] EW (wCons (wVar 0) (wCons (wVar 1) wNil))) wNil)))) (wCons (wLst (wCons (wVar 4) (wCons (wVar 4) (wCons (wNotE (wVar 4)) wNil)))) wNil)))))
  (wRet (wTmp (.bl false)))
  wNext) <|
  (wSeq (wIf (wOr (wTB (wBin (kd2 isnK) (wCall [false, false] (spOwnE "Tally" sp_Tally___eq__) [] EW (wCons (wVar 0) (wCons (wMake "Tally" [false] sp_Tally___init__ [] EW (wCons (wVar 2) wNil)) wNil))) (wTmp (.bl true)))) (wTB (wBin (kd2 isnK) (wCall [false, false] (spOwnE "Tally" sp_Tally___eq__) [] EW (wCons (wMake "Tally" [false] sp_Tally___init__ [] EW (wCons (wProp "Tally" sp_Tally_counts (wVar 0)) wNil)) (wCons (wVar 0) wNil))) (wTmp (.bl true)))))
  (wRet (wTmp (.bl false)))
  wNext) <|
  (wSeq (wFor (wIt (wLst (wCons (wVar 2) (wCons (wOp (kd1 tupleK) (wCons (wVar 2) wNil)) (wCons (wOp (kd1 lenK) (wCons (wVar 2) wNil)) (wCons (wBin (kd2 ixK) (wVar 2) (wTmp (.int 0))) (wCons (wTmp .non) (wCons (wTmp (.str "")) (wCons (wTmp (.bl true)) wNil))))))))) (tgN 5)
  (wIf (wOr (wTB (wBin (kd2 isnK) (wCall [false, false] (spOwnE "Tally" sp_Tally___eq__) [] EW (wCons (wVar 0) (wCons (wVar 5) wNil))) (wTmp (.bl false)))) (wTB (wBin (kd2 isnK) (wCall [false, false] (spNot (spOwnE "Tally" sp_Tally___eq__)) [] EW (wCons (wVar 0) (wCons (wVar 5) wNil))) (wTmp (.bl true)))))
  (wRet (wTmp (.bl false)))
  wNext)) <|
  (wRet (wAndV (wBin (kd2 isK) (wCall [false, false] (spOwnE "Tally" sp_Tally___eq__) [] EW (wCons (wCall [false, false] (spOwn "Tally" sp_Tally___mul__) [] EW (wCons (wVar 0) (wCons (wMake "Tally" [false] sp_Tally___init__ [] EW (wCons (wLst (wCons (wTmp (.int 1)) wNil)) wNil)) wNil))) (wCons (wVar 0) wNil))) (wTmp (.bl true))) (wBin (kd2 isK) (wCall [false, false] (spOwnE "Tally" sp_Tally___eq__) [] EW (wCons (wCall [false, false] (spOwn "Tally" sp_Tally___add__) [] EW (wCons (wVar 0) (wCons (wMake "Tally" [false] sp_Tally___init__ [] EW (wCons (wTup (wCons (wTmp (.int 0)) wNil)) wNil)) wNil))) (wCons (wVar 0) wNil))) (wTmp (.bl true)))))))))
def sp__law_equal_right : SpD := fun ds Q E => ∃ xs ys : List Int, ds = [TL false xs, TL false ys, .lst false (dints xs), .lst false (dints ys)] ∧ 1 ≤ xs.length ∧ 1 ≤ ys.length ∧ xs.length ≤ 25 ∧ ys.length ≤ 25 ∧ Bd (10 ^ 30) xs ∧ Bd (10 ^ 30) ys ∧ Q (.bl true) []
theorem len__law_equal_right : ∀ ds Q E, sp__law_equal_right ds Q E → ds.length = 4 := fun ds Q E h => by
  unfold sp__law_equal_right at h
  obtain ⟨_, _, h, _⟩ := h
  rw [h]; rfl
theorem pf__law_equal_right : ∀ ds Q E, sp__law_equal_right ds Q E → w__law_equal_right (fun c fs env => E c fs (outs [false, false, false, false] env)) (dEnd [false, false, false, false] Q) (startE N__law_equal_right ds) := by
  rintro _ Q E ⟨xs, ys, rfl, h1, h2, h3, h4, hx, hy, h⟩
  walk_at "st"
  unfold w__law_equal_right
  walk_at "go"
  refine ⟨⟨_, _, _, rfl, .inl ⟨_, _, rfl⟩⟩, xs, _, rfl, .inl ⟨_, ys, rfl, TL_own, ?_⟩⟩
  walk_at "go"
  refine ⟨⟨_, _, _, rfl, .inl ⟨_, _, rfl⟩⟩, ys, _, rfl, .inl ⟨_, xs, rfl, TL_own, ?_⟩⟩
  rw [show decide (ys = xs) = decide (xs = ys) from by rw [decide_eq_decide]; exact eq_comm]
  walk_at "go"
  refine ⟨⟨_, _, _, rfl, .inl ⟨_, _, rfl⟩⟩, xs, _, rfl, .inl ⟨_, ys, rfl, TL_own, ?_⟩⟩
  generalize decide (xs = ys) = b
  refine ⟨_, rfl, ?_⟩
  walk_at "go"
  have hown1 : noOwnL [D.bl b, D.bl b, D.bl (!b)] = true := rfl
  refine ⟨.lst false [.bl b, .bl b, .bl (!b)], rfl, rfl, rfl, by show 4 ≤ 100000; decide, ?_⟩
  walk_at "go"
  refine ⟨.lst false (dints xs), dints xs, rfl, .inl rfl, noOwnL_ints, by rw [List.length_map]; omega, fun y hy => by obtain ⟨i, _, rfl⟩ := List.mem_map.mp hy; rfl, .inr ⟨by rw [List.length_map]; omega, .inr ⟨xs, rfl, fun x q => (hx x q).1, ?_⟩⟩⟩
  walk_at "go"
  refine ⟨⟨_, _, _, rfl, .inl ⟨_, _, rfl⟩⟩, xs, _, rfl, .inl ⟨_, xs, rfl, TL_own, ?_⟩⟩
  rw [decide_eq_true (rfl : xs = xs)]
  walk_at "go"
  refine ⟨xs, rfl, ?_⟩
  walk_at "go"
  refine ⟨.tup (dints xs), dints xs, rfl, by first | exact .inl rfl | exact .inr rfl, noOwnL_ints, by rw [List.length_map]; first | omega | decide, fun y hy => by obtain ⟨i, _, rfl⟩ := List.mem_map.mp hy; rfl, .inr ⟨by rw [List.length_map]; first | omega | decide, .inr ⟨xs, rfl, fun x q => (hx x q).1, ?_⟩⟩⟩
  walk_at "go"
  refine ⟨⟨_, _, _, rfl, .inl ⟨_, _, rfl⟩⟩, xs, _, rfl, .inl ⟨_, xs, rfl, TL_own, ?_⟩⟩
  rw [decide_eq_true (rfl : xs = xs)]
  walk_at "go"
  obtain ⟨x0, hx0⟩ : ∃ x0, xs[0]? = some x0 := ⟨xs[0], List.getElem?_eq_getElem h1⟩
  refine AT_of (d := .int x0) (atI_nth (i := 0) (by rw [List.getElem?_map, hx0]; rfl)) rfl ?_
  walk_at "go"
  have hl7 : ∀ y ∈ [D.lst false (dints xs), D.tup (dints xs), D.int xs.length, D.int x0, D.non, D.str (Str.ofString ""), D.bl true], (tyN y).isSome = true ∧ noOwn y = true := by
    intro y hy
    simp only [List.mem_cons, List.not_mem_nil, or_false] at hy
    rcases hy with rfl | rfl | rfl | rfl | rfl | rfl | rfl
    all_goals first | exact ⟨rfl, rfl⟩ | exact ⟨rfl, noOwnL_ints⟩
  refine FOR_ix (fun i e => ∃ a : Option D, e = [some (TL false xs), some (TL false ys), some (.lst false (dints xs)), some (.lst false (dints ys)), some (.bl b), a]) ⟨_, rfl⟩ (fun i x hxi e he k hk => ?_) (fun e he => ?_)
  · obtain ⟨a, rfl⟩ := he
    obtain ⟨t1, t2⟩ := hl7 x (List.mem_of_getElem? hxi)
    clear hxi hl7
    walk_at "go"
    refine ⟨⟨_, _, _, rfl, .inr t1⟩, xs, _, rfl, .inr ⟨t1, t2, ?_⟩⟩
    walk_at "go"
    refine ⟨⟨_, _, _, rfl, .inr t1⟩, xs, _, rfl, .inr ⟨t1, t2, ?_⟩⟩
    refine ⟨_, rfl, ?_⟩
    walk_at "go"
    all_goals exact hk _ ⟨_, rfl⟩
  · obtain ⟨a, rfl⟩ := he
    have cu : conv xs [1] = xs := by
      refine pk_inj (by rw [conv_len]; show xs.length + 1 - 1 = xs.length; omega) (Bd_le (by decide) (Bd_conv (A := 10 ^ 30) (B := 2) (by decide) (by decide) hx (by intro z hz; rw [List.mem_singleton.mp hz]; decide) (by omega))) (Bd_le (by decide) hx) ?_
      rw [pk_conv h1 (by decide)]
      show pk xs * (1 + BB * 0) = pk xs
      rw [Int.mul_zero, Int.add_zero, Int.mul_one]
    have au : addT xs [0] = xs := by
      refine pk_inj (by rw [addT_len]; show max xs.length 1 = xs.length; omega) (Bd_le (by decide) (Bd_addT (A := 10 ^ 30) (B := 2) (by decide) (by decide) hx (by intro z hz; rw [List.mem_singleton.mp hz]; decide))) (Bd_le (by decide) hx) ?_
      rw [pk_addT]
      show pk xs + (0 + BB * 0) = pk xs
      rw [Int.mul_zero, Int.add_zero, Int.add_zero]
    walk_at "go"
    refine ⟨.lst false (dints [1]), dints [1], rfl, by first | exact .inl rfl | exact .inr rfl, noOwnL_ints, by rw [List.length_map]; first | omega | decide, fun y hy => by obtain ⟨i, _, rfl⟩ := List.mem_map.mp hy; rfl, .inr ⟨by rw [List.length_map]; first | omega | decide, .inr ⟨[1], rfl, by decide, ?_⟩⟩⟩
    walk_at "go"
    refine ⟨⟨_, _, _, _, rfl⟩, xs, [1], rfl, h1, by decide, h3, by decide, Bd_le (by decide) hx, by decide, .inr ⟨by show xs.length + 1 ≤ 26; omega, ?_⟩⟩
    rw [cu]
    walk_at "go"
    refine ⟨⟨_, _, _, rfl, .inl ⟨_, _, rfl⟩⟩, xs, _, rfl, .inl ⟨_, xs, rfl, TL_own, ?_⟩⟩
    rw [decide_eq_true (rfl : xs = xs)]
    walk_at "go"
    refine ⟨.tup (dints [0]), dints [0], rfl, by first | exact .inl rfl | exact .inr rfl, noOwnL_ints, by rw [List.length_map]; first | omega | decide, fun y hy => by obtain ⟨i, _, rfl⟩ := List.mem_map.mp hy; rfl, .inr ⟨by rw [List.length_map]; first | omega | decide, .inr ⟨[0], rfl, by decide, ?_⟩⟩⟩
    walk_at "go"
    refine ⟨⟨_, _, _, _, rfl⟩, xs, [0], rfl, h1, by decide, h3, by decide, fun x q => (hx x q).1, by decide, ?_⟩
    rw [au]
    walk_at "go"
    refine ⟨⟨_, _, _, rfl, .inl ⟨_, _, rfl⟩⟩, xs, _, rfl, .inl ⟨_, xs, rfl, TL_own, ?_⟩⟩
    rw [decide_eq_true (rfl : xs = xs)]
    walk_at "go"
    try exact h


abbrev N__law_three_right : List Str := ["one", "two", "three", "first", "second", "third", "wide", "due", "size"]
def w__law_three_right (EW : EWt) : WS :=
  (wSeq (wSet 6 (wOp (kd2 max2K) (wCons (wOp (kd1 lenK) (wCons (wVar 3) wNil)) (wCons (wOp (kd1 lenK) (wCons (wVar 4) wNil)) wNil)))) <|
  (wSeq (wIf (wTB (wBin (kd2 leK) (wBin (kd2 subK) (wBin (kd2 addK) (wVar 6) (wOp (kd1 lenK) (wCons (wVar 5) wNil))) (wTmp (.int 1))) (wTmp (.int 25))))
  (wSeq (wSet 7 (wBin (kd2 mulK) (wBin (kd2 addK) (wCall [false] sp__law_packed [] EW (wCons (wVar 3) wNil)) (wCall [false] sp__law_packed [] EW (wCons (wVar 4) wNil))) (wCall [false] sp__law_packed [] EW (wCons (wVar 5) wNil)))) <|
  (wIf (wNot (wTest (wCall [false, false] sp__law_tells [] EW (wCons (wCall [false, false] (spOwn "Tally" sp_Tally___mul__) [] EW (wCons (wCall [false, false] (spOwn "Tally" sp_Tally___add__) [] EW (wCons (wVar 0) (wCons (wVar 1) wNil))) (wCons (wVar 2) wNil))) (wCons (wCall [false, false] sp__law_unpacked [] EW (wCons (wVar 7) (wCons (wBin (kd2 subK) (wBin (kd2 addK) (wVar 6) (wOp (kd1 lenK) (wCons (wVar 5) wNil))) (wTmp (.int 1))) wNil))) wNil)))))
  (wRet (wTmp (.bl false)))
  wNext))
  wNext) <|
  (wSeq (wSet 8 (wBin (kd2 subK) (wBin (kd2 addK) (wBin (kd2 addK) (wOp (kd1 lenK) (wCons (wVar 3) wNil)) (wOp (kd1 lenK) (wCons (wVar 4) wNil))) (wOp (kd1 lenK) (wCons (wVar 5) wNil))) (wTmp (.int 2)))) <|
  (wSeq (wIf (wTB (wBin (kd2 leK) (wVar 8) (wTmp (.int 25))))
  (wSeq (wSet 7 (wBin (kd2 mulK) (wBin (kd2 mulK) (wCall [false] sp__law_packed [] EW (wCons (wVar 3) wNil)) (wCall [false] sp__law_packed [] EW (wCons (wVar 4) wNil))) (wCall [false] sp__law_packed [] EW (wCons (wVar 5) wNil)))) <|
  (wSeq (wIf (wNot (wTest (wCall [false, false] sp__law_tells [] EW (wCons (wCall [false, false] (spOwn "Tally" sp_Tally___mul__) [] EW (wCons (wCall [false, false] (spOwn "Tally" sp_Tally___mul__) [] EW (wCons (wVar 0) (wCons (wVar 1) wNil))) (wCons (wVar 2) wNil))) (wCons (wCall [false, false] sp__law_unpacked [] EW (wCons (wVar 7) (wCons (wVar 8) wNil))) wNil)))))
  (wRet (wTmp (.bl false)))
  wNext) <|
  (wIf (wNot (wTest (wCall [false, false] sp__law_tells [] EW (wCons (wCall [false, false] (spOwn "Tally" sp_Tally___mul__) [] EW (wCons (wVar 2) (wCons (wCall [false, false] (spOwn "Tally" sp_Tally___mul__) [] EW (wCons (wVar 1) (wCons (wVar 0) wNil))) wNil))) (wCons (wCall [false, false] sp__law_unpacked [] EW (wCons (wVar 7) (wCons (wVar 8) wNil))) wNil)))))
  (wRet (wTmp (.bl false)))
  wNext)))
  wNext) <|
  (wRet (wCall [false, false] sp__law_tells [] EW (wCons (wVar 2) (wCons (wVar 5) wNil))))))))
def sp__law_three_right : SpD := fun ds Q E => ∃ xs ys zs : List Int, ds = [TL false xs, TL false ys, TL false zs, .lst false (dints xs), .lst false (dints ys), .lst false (dints zs)] ∧ 1 ≤ xs.length ∧ 1 ≤ ys.length ∧ 1 ≤ zs.length ∧ xs.length ≤ 25 ∧ ys.length ≤ 25 ∧ zs.length ≤ 25 ∧ Bd (10 ^ 30) xs ∧ Bd (10 ^ 30) ys ∧ Bd (10 ^ 30) zs ∧ Q (.bl true) []
theorem len__law_three_right : ∀ ds Q E, sp__law_three_right ds Q E → ds.length = 6 := fun ds Q E h => by
  unfold sp__law_three_right at h
  obtain ⟨_, _, _, h, _⟩ := h
  rw [h]; rfl
theorem pf__law_three_right : ∀ ds Q E, sp__law_three_right ds Q E → w__law_three_right (fun c fs env => E c fs (outs [false, false, false, false, false, false] env)) (dEnd [false, false, false, false, false, false] Q) (startE N__law_three_right ds) := by
  rintro _ Q E ⟨xs, ys, zs, rfl, h1, h2, h3, h4, h5, h6, hx, hy, hz, h⟩
  have bx : Bd BB xs := Bd_le (by decide) hx
  have by_ : Bd BB ys := Bd_le (by decide) hy
  have bz : Bd BB zs := Bd_le (by decide) hz
  have hsum : Bd (10 ^ 30 + 10 ^ 30) (addT xs ys) := Bd_addT (by decide) (by decide) hx hy
  have hsl := addT_len xs ys
  have hcl := conv_len xs ys
  have hmax : (if (ys.length : Int) > xs.length then (ys.length : Int) else xs.length) = ((addT xs ys).length : Nat) := by rw [addT_len]; split <;> omega
  have csum : Bd (50 * ((10 ^ 30 + 10 ^ 30) * 10 ^ 30)) (conv (addT xs ys) zs) := Bd_conv (by decide) (by decide) hsum hz (by omega)
  have csl := conv_len (addT xs ys) zs
  walk_at "st"
  unfold w__law_three_right
  refine seq_cut (fun e => e = [some (TL false xs), some (TL false ys), some (TL false zs), some (D.lst false (dints xs)), some (D.lst false (dints ys)), some (D.lst false (dints zs)), some (D.int ((addT xs ys).length : Nat)), none, none]) (fun k hk => ?_) (fun e he => ?_)
  · walk_at "go"
    exact hk _ (by simp only [List.length_map, hmax])
  subst he
  refine seq_cut (fun e => ∃ a : Option D, e = [some (TL false xs), some (TL false ys), some (TL false zs), some (D.lst false (dints xs)), some (D.lst false (dints ys)), some (D.lst false (dints zs)), some (D.int ((addT xs ys).length : Nat)), a, none]) (fun k hk => ?_) (fun e he => ?_)
  · walk_at "go"
    · refine ⟨xs, rfl, h4, bx, ?_⟩
      walk_at "go"
      refine ⟨ys, rfl, h5, by_, ?_⟩
      walk_at "go"
      refine ⟨zs, rfl, h6, bz, ?_⟩
      rw [← pk_addT]
      walk_at "go"
      · exact .inr (wide_mul (pk_small (Bd_le (by decide) hsum) (by omega)).2 (pk_small bz h6).2 (by decide) (by decide) (by decide))
      refine ⟨⟨_, _, _, _, rfl⟩, xs, ys, rfl, h1, h2, h4, h5, fun x q => (hx x q).1, fun y q => (hy y q).1, ?_⟩
      walk_at "go"
      refine ⟨⟨_, _, _, _, rfl⟩, addT xs ys, zs, rfl, by omega, h3, by omega, h6, Bd_le (by decide) hsum, Bd_le (by decide) hz, .inr ⟨by omega, ?_⟩⟩
      walk_at "go"
      refine ⟨conv (addT xs ys) zs, by rw [pk_conv (by omega) h3, csl]; refine congrArg (fun z => [D.int (pk (addT xs ys) * pk zs), D.int z]) ?_; omega, by omega, Bd_le (by decide) csum, ?_⟩
      walk_at "go"
      refine ⟨conv (addT xs ys) zs, rfl, by omega, by omega, ?_⟩
      walk_at "go"
      exact hk _ ⟨_, rfl⟩
    · exact hk _ ⟨_, rfl⟩
  obtain ⟨a, rfl⟩ := he
  have hmul : Bd (50 * (10 ^ 30 * 10 ^ 30)) (conv xs ys) := Bd_conv (by decide) (by decide) hx hy (by omega)
  have mc := conv_comm (by decide) (by decide) (by decide) hy hx h2 h1 (by omega) (by omega)
  walk_at "go"
  · have cmul : Bd (50 * (50 * (10 ^ 30 * 10 ^ 30) * 10 ^ 30)) (conv (conv xs ys) zs) := Bd_conv (by decide) (by decide) hmul hz (by omega)
    have mc2 := conv_comm (by decide) (by decide) (by decide) hz hmul h3 (by omega) (by omega) (by omega)
    have csl := conv_len (conv xs ys) zs
    refine ⟨xs, rfl, h4, bx, ?_⟩
    walk_at "go"
    refine ⟨ys, rfl, h5, by_, ?_⟩
    walk_at "go"
    · exact .inr (wide_mul (pk_small bx h4).2 (pk_small by_ h5).2 (by decide) (by decide) (by decide))
    refine ⟨zs, rfl, h6, bz, ?_⟩
    rw [← pk_conv h1 h2]
    walk_at "go"
    · exact .inr (wide_mul (pk_small (Bd_le (by decide) hmul) (by omega)).2 (pk_small bz h6).2 (by decide) (by decide) (by decide))
    rw [← pk_conv (by omega) h3]
    refine ⟨⟨_, _, _, _, rfl⟩, xs, ys, rfl, h1, h2, h4, h5, Bd_le (by decide) hx, Bd_le (by decide) hy, .inr ⟨by omega, ?_⟩⟩
    walk_at "go"
    refine ⟨⟨_, _, _, _, rfl⟩, conv xs ys, zs, rfl, by omega, h3, by omega, h6, Bd_le (by decide) hmul, Bd_le (by decide) hz, .inr ⟨by omega, ?_⟩⟩
    walk_at "go"
    refine ⟨conv (conv xs ys) zs, by rw [csl, hcl]; refine congrArg (fun z => [D.int (pk (conv (conv xs ys) zs)), D.int z]) ?_; omega, by omega, Bd_le (by decide) cmul, ?_⟩
    walk_at "go"
    refine ⟨conv (conv xs ys) zs, rfl, by omega, by omega, ?_⟩
    walk_at "go"
    refine ⟨⟨_, _, _, _, rfl⟩, ys, xs, rfl, h2, h1, h5, h4, Bd_le (by decide) hy, Bd_le (by decide) hx, .inr ⟨by omega, ?_⟩⟩
    rw [mc]
    walk_at "go"
    refine ⟨⟨_, _, _, _, rfl⟩, zs, conv xs ys, rfl, h3, by omega, h6, by omega, Bd_le (by decide) hz, Bd_le (by decide) hmul, .inr ⟨by omega, ?_⟩⟩
    rw [mc2]
    walk_at "go"
    refine ⟨conv (conv xs ys) zs, by rw [csl, hcl]; refine congrArg (fun z => [D.int (pk (conv (conv xs ys) zs)), D.int z]) ?_; omega, by omega, Bd_le (by decide) cmul, ?_⟩
    walk_at "go"
    refine ⟨conv (conv xs ys) zs, rfl, by omega, by omega, ?_⟩
    walk_at "go"
    refine ⟨zs, rfl, h3, h6, ?_⟩
    walk_at "go"
    try exact h
  · refine ⟨zs, rfl, h3, h6, ?_⟩
    walk_at "go"
    try exact h


abbrev N__law_bad_counts : List Str := ["store", "counts", "pick", "size", "entry", "bent", "bad", "at"]
def w__law_bad_counts (EW : EWt) : WS :=
  (wSeq (wSet 2 (wCall [true, false] sp__law_take [] EW (wCons (wVar 0) (wCons (wTmp (.int 5)) wNil)))) <|
  (wSeq (wIf (wTB (wBin (kd2 eqK) (wVar 2) (wTmp (.int 0))))
  (wRet (wLst (wCons (wCall [true, false] sp__law_either [] EW (wCons (wVar 0) (wCons (wLst wNil) wNil))) (wCons (wTup (wCons (wTmp (.str "BadNumber")) (wCons (wTmp (.int 0)) (wCons (wTmp (.int 1)) (wCons (wTmp (.int 25)) wNil))))) wNil))))
  wNext) <|
  (wSeq (wIf (wTB (wBin (kd2 eqK) (wVar 2) (wTmp (.int 1))))
  (wSeq (wSet 3 (wBin (kd2 addK) (wTmp (.int 26)) (wCall [true, false] sp__law_take [] EW (wCons (wVar 0) (wCons (wTmp (.int 3)) wNil))))) <|
  (wSeq (wSet 4 (wCall [true, false] sp__law_pick [] EW (wCons (wVar 0) (wCons (wLst (wCons (wTmp (.int 0)) (wCons (wUn (kd1 negK) (wTmp (.int 1))) (wCons (wTmp (.int 7)) (wCons (wTmp .non) wNil))))) wNil)))) <|
  (wRet (wLst (wCons (wCall [true, false] sp__law_either [] EW (wCons (wVar 0) (wCons (wBin (kd2 mulK) (wLst (wCons (wVar 4) wNil)) (wVar 3)) wNil))) (wCons (wTup (wCons (wTmp (.str "BadNumber")) (wCons (wVar 3) (wCons (wTmp (.int 1)) (wCons (wTmp (.int 25)) wNil))))) wNil))))))
  wNext) <|
  (wSeq (wSet 5 (wOp (kd1 listK) (wCons (wVar 1) wNil))) <|
  (wSeq (wSet 6 (wLst (wCons (wUn (kd1 negK) (wTmp (.int 1))) (wCons (wBin (kd2 subK) (wUn (kd1 negK) (wTmp (.int 1))) (wCall [true, false] sp__law_take [] EW (wCons (wVar 0) (wCons (wBin (kd2 powK) (wTmp (.int 10)) (wTmp (.int 9))) wNil)))) (wCons (wTmp (.bl true)) (wCons (wTmp (.bl false)) (wCons (wTmp .non) (wCons (wTmp (.str "")) (wCons (wTmp (.str "1")) (wCons (wTup (wCons (wTmp (.int 1)) wNil)) (wCons (wLst (wCons (wTmp (.int 1)) wNil)) wNil))))))))))) <|
  (wSeq (wSet 7 (wCall [true, false] sp__law_place [] EW (wCons (wVar 0) (wCons (wOp (kd1 lenK) (wCons (wVar 5) wNil)) wNil)))) <|
  (wSeq (wPutL false 5 (wVar 7) (wCall [true, false] sp__law_pick [] EW (wCons (wVar 0) (wCons (wVar 6) wNil)))) <|
  (wSeq (wIf (wAnd (wTB (wBin (kd2 eqK) (wCall [true, false] sp__law_take [] EW (wCons (wVar 0) (wCons (wTmp (.int 3)) wNil))) (wTmp (.int 0)))) (wTB (wBin (kd2 ltK) (wBin (kd2 addK) (wVar 7) (wTmp (.int 1))) (wOp (kd1 lenK) (wCons (wVar 5) wNil)))))
  (wPutL false 5 (wUn (kd1 negK) (wTmp (.int 1))) (wCall [true, false] sp__law_pick [] EW (wCons (wVar 0) (wCons (wVar 6) wNil))))
  wNext) <|
  (wRet (wLst (wCons (wCall [true, false] sp__law_either [] EW (wCons (wVar 0) (wCons (wVar 5) wNil))) (wCons (wTup (wCons (wTmp (.str "NotACount")) (wCons (wVar 7) wNil))) wNil))))))))))))
theorem badC_of {ys : List D} {k : Nat} (hl : ys.length ≤ 25) (ha : ∀ y ∈ ys, Tame 3 y) (hj : ∀ j < k, ∀ y, ys[j]? = some y → isCnt y = true) (hk : ∃ y, ys[k]? = some y ∧ isCnt y = false) : BadC ys (.tup [.str (Str.ofString "NotACount"), .int k]) := by
  refine ⟨noOwnL_iff.mpr fun y hy => (ha y hy).1, by omega, ha, Or.inr ⟨?_, hl, k, rfl, hj, hk⟩⟩
  obtain ⟨y, hy, _⟩ := hk
  have := (List.getElem?_eq_some_iff.mp hy).1
  omega
def sp__law_bad_counts : SpD := fun ds Q E => ∃ st xs, ds = [st, .lst false (dints xs)] ∧ Sto st ∧ 1 ≤ xs.length ∧ xs.length ≤ 25 ∧ Bd (10 ^ 30) xs ∧ ∀ ys due, BadC ys due → ∀ st', Sto st' → Q (.lst true [.tup ys, due]) [some st'] ∧ Q (.lst true [.lst true ys, due]) [some st']
theorem len__law_bad_counts : ∀ ds Q E, sp__law_bad_counts ds Q E → ds.length = 2 := fun ds Q E h => by
  unfold sp__law_bad_counts at h
  obtain ⟨_, _, h, _⟩ := h
  rw [h]; rfl
theorem pf__law_bad_counts : ∀ ds Q E, sp__law_bad_counts ds Q E → w__law_bad_counts (fun c fs env => E c fs (outs [true, false] env)) (dEnd [true, false] Q) (startE N__law_bad_counts ds) := by
  rintro _ Q E ⟨st, xs, rfl, hs, h1, h2, hb, h⟩
  have hdl : (dints xs).length = xs.length := List.length_map ..
  walk_at "st"
  unfold w__law_bad_counts
  walk_at "go"
  refine ⟨st, _, rfl, hs, by decide, fun r st' hr hst => ?_⟩
  walk_at "go"
  · refine ⟨st', [], _, rfl, hst, .inl ⟨_, rfl⟩, rfl, fun st' hst => ?_⟩
    have q := h [] (.tup [.str (Str.ofString "BadNumber"), .int 0, .int 1, .int 25]) ⟨rfl, by decide, (by intro y hy; cases hy), Or.inl ⟨Or.inl (by decide), rfl⟩⟩ st' hst
    refine ⟨?_, ?_⟩
    · walk_at "go"
      exact q.1
    · walk_at "go"
      exact q.2
  · refine ⟨st', _, rfl, hst, by decide, fun r st' hr hst => ?_⟩
    obtain ⟨r1, r2⟩ := hr
    walk_at "go"
    refine ⟨st', _, _, rfl, hst, .inl ⟨_, rfl⟩, rfl, fun e => (by cases e), by decide, fun y hy st' hst => ?_⟩
    have hyo : Tame 3 y := by
      simp only [List.mem_cons, List.not_mem_nil, or_false] at hy
      rcases hy with rfl | rfl | rfl | rfl <;> exact ⟨rfl, rfl, rfl, by show 1 ≤ 3; decide⟩
    walk_at "go"
    rw [hst.fz, Bool.and_false]
    walk_at "go"
    rw [hyo.1]
    walk_at "go"
    all_goals first
      | exact hyo.1
      | omega
      | (refine SZ_of ?_; omega)
      | skip
    rw [List.flatten_replicate_singleton]
    have hrl : (List.replicate (26 + r).toNat y).length = (26 + r).toNat := List.length_replicate
    have hno : noOwnL (List.replicate (26 + r).toNat y) = true := by
      generalize (26 + r).toNat = n
      induction n with
      | zero => rfl
      | succ n ih => show (noOwn y && noOwnL (List.replicate n y)) = true; rw [hyo.1, ih]; rfl
    rw [frzL_of hno]
    refine ⟨st', _, _, rfl, hst, .inl ⟨_, rfl⟩, hno, fun st' hst => ?_⟩
    have q := h (List.replicate (26 + r).toNat y) (.tup [.str (Str.ofString "BadNumber"), .int (26 + r), .int 1, .int 25]) ⟨hno, by rw [hrl]; omega, (by intro z hz; rw [List.eq_of_mem_replicate hz]; exact hyo), Or.inl ⟨Or.inr (by rw [hrl]; omega), by rw [hrl, Int.toNat_of_nonneg (by omega)]⟩⟩ st' hst
    refine ⟨?_, ?_⟩
    · walk_at "go"
      rw [hst.fz, Bool.and_false]
      walk_at "go"
      all_goals first
        | exact hno
        | exact q.1
    · walk_at "go"
      rw [hst.fz, Bool.and_false]
      walk_at "go"
      all_goals first
        | exact hno
        | exact q.2
  · exact ⟨by decide, by decide, by decide⟩
  refine ⟨st', _, rfl, hst, by decide, fun r2 st' hr2 hst => ?_⟩
  walk_at "go"
  refine ⟨st', _, rfl, hst, by omega, by omega, fun r3 p0 p1 st' hst => ?_⟩
  walk_at "go"
  refine ⟨st', _, _, rfl, hst, .inl ⟨_, rfl⟩, rfl, fun e => (by cases e), by show 9 ≤ 100000; decide, fun y hy st' hst => ?_⟩
  obtain ⟨r20, _⟩ := hr2
  have hyo : Tame 3 y ∧ isCnt y = false := by
    simp only [List.mem_cons, List.not_mem_nil, or_false] at hy
    rcases hy with rfl | rfl | rfl | rfl | rfl | rfl | rfl | rfl | rfl
    case inr.inl => exact ⟨⟨rfl, rfl, rfl, by show 1 ≤ 3; decide⟩, by simp [isCnt]; omega⟩
    all_goals exact ⟨⟨rfl, rfl, by first | rfl | decide +kernel, by decide⟩, rfl⟩
  walk_at "go"
  rw [hst.fz, Bool.and_false]
  walk_at "go"
  refine LSET_of (k := r3.toNat) (ixN_int p0 (by rw [hdl]; omega)) ?_
  have hs1 : BadC ((dints xs).set r3.toNat y) (.tup [.str (Str.ofString "NotACount"), .int r3.toNat]) := by
    refine badC_of (by rw [List.length_set, hdl]; exact h2) (fun z hz => ?_) (fun j hj z hz => ?_) ⟨y, by rw [List.getElem?_set_self (by rw [hdl]; omega)], hyo.2⟩
    · rcases List.mem_or_eq_of_mem_set hz with e | e
      · obtain ⟨n, _, rfl⟩ := List.mem_map.mp e
        exact ⟨rfl, rfl, rfl, by show 1 ≤ 3; decide⟩
      · rw [e]; exact hyo.1
    · rw [List.getElem?_set_ne (by omega), List.getElem?_map] at hz
      obtain ⟨n, hn, rfl⟩ := Option.map_eq_some_iff.mp hz
      exact decide_eq_true (hb n (List.mem_of_getElem? hn)).1
  rw [Int.toNat_of_nonneg p0] at hs1
  have hsl : ((dints xs).set r3.toNat y).length = xs.length := by rw [List.length_set, hdl]
  have hs2 : ∀ z : D, Tame 3 z → r3 + 1 < xs.length → BadC (((dints xs).set r3.toNat y).set (xs.length - 1) z) (.tup [.str (Str.ofString "NotACount"), .int r3.toNat]) := by
    intro z0 z1 hlt
    refine badC_of (by rw [List.length_set, hsl]; exact h2) (fun z hz => ?_) (fun j hj z hz => ?_) ⟨y, by rw [List.getElem?_set_ne (by omega), List.getElem?_set_self (by rw [hdl]; omega)], hyo.2⟩
    · rcases List.mem_or_eq_of_mem_set hz with hz | e
      · rcases List.mem_or_eq_of_mem_set hz with e | e
        · obtain ⟨n, _, rfl⟩ := List.mem_map.mp e
          exact ⟨rfl, rfl, rfl, by show 1 ≤ 3; decide⟩
        · rw [e]; exact hyo.1
      · rw [e]; exact z1
    · rw [List.getElem?_set_ne (by omega), List.getElem?_set_ne (by omega), List.getElem?_map] at hz
      obtain ⟨n, hn, rfl⟩ := Option.map_eq_some_iff.mp hz
      exact decide_eq_true (hb n (List.mem_of_getElem? hn)).1
  rw [Int.toNat_of_nonneg p0] at hs2
  generalize (dints xs).set r3.toNat y = ys at hs1 hs2 hsl ⊢
  walk_at "go"
  refine ⟨st', _, rfl, hst, by decide, fun r4 st' hr4 hst => ?_⟩
  walk_at "go"
  · refine ⟨st', _, _, rfl, hst, .inl ⟨_, rfl⟩, rfl, fun e => (by cases e), by show 9 ≤ 100000; decide, fun z hz st' hst => ?_⟩
    have hzo : Tame 3 z := by
      simp only [List.mem_cons, List.not_mem_nil, or_false] at hz
      rcases hz with rfl | rfl | rfl | rfl | rfl | rfl | rfl | rfl | rfl
      case inr.inl => exact ⟨rfl, rfl, rfl, by show 1 ≤ 3; decide⟩
      all_goals exact ⟨rfl, rfl, by first | rfl | decide +kernel, by decide⟩
    have hs1 := hs2 z hzo (by omega)
    walk_at "go"
    rw [hst.fz, Bool.and_false]
    walk_at "go"
    refine LSET_of (k := ys.length - 1) (ixN_neg1 (by omega)) ?_
    rw [hsl]
    generalize ys.set (xs.length - 1) z = ys at hs1 ⊢
    walk_at "go"
    rw [frzL_of hs1.1]
    refine ⟨st', ys, _, rfl, hst, .inl ⟨_, rfl⟩, hs1.1, fun st' hst => ?_⟩
    have q := h ys _ hs1 st' hst
    refine ⟨?_, ?_⟩
    · walk_at "go"
      rw [hst.fz, Bool.and_false]
      walk_at "go"
      all_goals first
        | exact hs1.1
        | exact q.1
        | trace_state
    · walk_at "go"
      rw [hst.fz, Bool.and_false]
      walk_at "go"
      all_goals first
        | exact hs1.1
        | exact q.2
        | trace_state
  · skip
    rw [frzL_of hs1.1]
    refine ⟨st', ys, _, rfl, hst, .inl ⟨_, rfl⟩, hs1.1, fun st' hst => ?_⟩
    have q := h ys _ hs1 st' hst
    refine ⟨?_, ?_⟩
    · walk_at "go"
      rw [hst.fz, Bool.and_false]
      walk_at "go"
      all_goals first
        | exact hs1.1
        | exact q.1
        | trace_state
    · walk_at "go"
      rw [hst.fz, Bool.and_false]
      walk_at "go"
      all_goals first
        | exact hs1.1
        | exact q.2
        | trace_state
  · skip
    rw [frzL_of hs1.1]
    refine ⟨st', ys, _, rfl, hst, .inl ⟨_, rfl⟩, hs1.1, fun st' hst => ?_⟩
    have q := h ys _ hs1 st' hst
    refine ⟨?_, ?_⟩
    · walk_at "go"
      rw [hst.fz, Bool.and_false]
      walk_at "go"
      all_goals first
        | exact hs1.1
        | exact q.1
        | trace_state
    · walk_at "go"
      rw [hst.fz, Bool.and_false]
      walk_at "go"
      all_goals first
        | exact hs1.1
        | exact q.2
        | trace_state


abbrev N__law_drawn : List Str := ["store", "things", "many", "pool", "found", "k", "at"]
def w__law_drawn (EW : EWt) : WS :=
  (wSeq (wSet 3 (wOp (kd1 listK) (wCons (wVar 1) wNil))) <|
  (wSeq (wSet 4 (wLst wNil)) <|
  (wSeq (wFor (wRg1 (wOp (kd2 min2K) (wCons (wVar 2) (wCons (wOp (kd1 lenK) (wCons (wVar 3) wNil)) wNil)))) (tgN 5)
  (wSeq (wSet 6 (wCall [true, false] sp__law_take [] EW (wCons (wVar 0) (wCons (wOp (kd1 lenK) (wCons (wVar 3) wNil)) wNil)))) <|
  (wExpr (wM1 false 4 appK (wM1 false 3 popK (wVar 6)))))) <|
  (wRet (wVar 4)))))
def sp__law_drawn : SpD := fun ds Q E => ∃ st o xs many, ds = [st, .lst o xs, .int many] ∧ Sto st ∧ noOwnL xs = true ∧ xs.length ≤ 100000 ∧ 0 ≤ many ∧
  ∀ ys zs, (ys ++ zs).Perm xs → (ys.length : Int) = min many xs.length → ∀ st', Sto st' → Q (.lst true ys) [some st', some (.lst o xs)]
theorem len__law_drawn : ∀ ds Q E, sp__law_drawn ds Q E → ds.length = 3 := fun ds Q E ⟨_, _, _, _, h, _⟩ => by rw [h]; rfl
theorem pf__law_drawn : ∀ ds Q E, sp__law_drawn ds Q E → w__law_drawn (fun c fs env => E c fs (outs [true, true, false] env)) (dEnd [true, true, false] Q) (startE N__law_drawn ds) := by
  rintro _ Q E ⟨st, o, xs, many, rfl, hs, hn, hl, hm, h⟩
  walk_at "st"
  unfold w__law_drawn
  walk_at "go"
  · omega
  · omega
  refine FOR_rg (fun i e => ∃ st pool ys x5 x6, e = [some st, some (.lst o xs), some (.int many), some (.lst true pool), some (.lst true ys), x5, x6] ∧ Sto st ∧ (ys ++ pool).Perm xs ∧ ys.length = i) ⟨st, xs, [], none, none, rfl, hs, .refl _, rfl⟩
    (fun i hi e ⟨st, pool, ys, x5, x6, he, hst, hp, hy⟩ k hk => ?_) (fun e ⟨st, pool, ys, x5, x6, he, hst, hp, hy⟩ => ?_)
  · subst he
    have hlen := hp.length_eq
    rw [List.length_append] at hlen
    walk_at "go"
    refine ⟨st, _, rfl, hst, by omega, fun r st' hr hst => ?_⟩
    walk_at "go"
    have hpos : 0 < pool.length := by
      have : (i : Int) < min many xs.length := by omega
      omega
    obtain ⟨h0, h1⟩ := hr
    have hr2 : r.toNat < pool.length := by omega
    have hon : noOwn pool[r.toNat] = true := (noOwnL_iff.mp hn) _ (hp.subset (List.mem_append_right _ (List.getElem_mem hr2)))
    refine POP_of h0 (List.getElem?_eq_getElem hr2) (by omega) ?_
    walk_at "go"
    · exact SZ_of (by omega)
    refine hk _ ⟨_, _, _, _, _, rfl, hst, ?_, by simp [hy]⟩
    have hq := perm_erase hr2
    refine List.Perm.trans ?_ hp
    rw [List.append_assoc]
    exact List.Perm.append_left ys hq
  · subst he
    walk_at "go"
    refine h ys pool hp ?_ _ hst
    omega


abbrev N__law_move : List Str := ["store", "points", "pick", "image", "size", "ring_row", "k", "shift"]
def w__law_move (EW : EWt) : WS :=
  (wSeq (wSet 2 (wCall [true, false] sp__law_take [] EW (wCons (wVar 0) (wCons (wTmp (.int 8)) wNil)))) <|
  (wSeq (wSet 3 (wRgq1 false (wVar 1))) <|
  (wSeq (wIf (wOr (wTB (wBin (kd2 eqK) (wVar 2) (wTmp (.int 0)))) (wTB (wBin (kd2 ltK) (wVar 1) (wTmp (.int 2)))))
  (wRet (wOp (kd1 tupleK) (wCons (wVar 3) wNil)))
  wNext) <|
  (wSeq (wIf (wTB (wBin (kd2 ltK) (wVar 2) (wTmp (.int 4))))
  (wSeq (wSet 4 (wTmp (.int 2))) <|
  (wSeq (wIf (wTB (wBin (kd2 gtK) (wVar 2) (wTmp (.int 1))))
  (wSet 4 (wBin (kd2 addK) (wTmp (.int 2)) (wCall [true, false] sp__law_take [] EW (wCons (wVar 0) (wCons (wBin (kd2 subK) (wVar 1) (wTmp (.int 1))) wNil)))))
  wNext) <|
  (wSeq (wSet 5 (wCall [true, true, false] sp__law_drawn [] EW (wCons (wVar 0) (wCons (wVar 3) (wCons (wVar 4) wNil))))) <|
  (wSeq (wFor (wRg1 (wVar 4)) (tgN 6)
  (wPutL false 3 (wBin (kd2 ixK) (wVar 5) (wVar 6)) (wBin (kd2 ixK) (wVar 5) (wBin (kd2 modK) (wOp (kd1 intK1) (wCons (wBin (kd2 addK) (wVar 6) (wTmp (.int 1))) wNil)) (wVar 4))))) <|
  (wRet (wOp (kd1 tupleK) (wCons (wVar 3) wNil)))))))
  wNext) <|
  (wSeq (wIf (wTB (wBin (kd2 eqK) (wVar 2) (wTmp (.int 4))))
  (wSeq (wSet 7 (wBin (kd2 addK) (wTmp (.int 1)) (wCall [true, false] sp__law_take [] EW (wCons (wVar 0) (wCons (wBin (kd2 subK) (wVar 1) (wTmp (.int 1))) wNil))))) <|
  (wRet (wOp (kd1 tupleK) (wCons (wLc (wRg1 (wVar 1)) (tgN 6) wYes (wBin (kd2 modK) (wOp (kd1 intK1) (wCons (wBin (kd2 addK) (wVar 6) (wVar 7)) wNil)) (wVar 1)) [6]) wNil))))
  wNext) <|
  (wSeq (wIf (wTB (wBin (kd2 eqK) (wVar 2) (wTmp (.int 5))))
  (wRet (wOp (kd1 tupleK) (wCons (wLc (wRg1 (wVar 1)) (tgN 6) wYes (wBin (kd2 subK) (wBin (kd2 subK) (wVar 1) (wTmp (.int 1))) (wVar 6)) [6]) wNil)))
  wNext) <|
  (wRet (wOp (kd1 tupleK) (wCons (wCall [true, true, false] sp__law_drawn [] EW (wCons (wVar 0) (wCons (wVar 3) (wCons (wVar 1) wNil)))) wNil)))))))))
theorem set_perm {α : Type} : ∀ {l : List α} {i : Nat} {x v : α}, l[i]? = some x → (x :: l.set i v).Perm (v :: l)
  | [], i, _, _, h => by simp at h
  | y :: l, 0, x, v, h => by
    have : y = x := by simpa using h
    subst this
    exact List.Perm.swap ..
  | y :: l, i + 1, x, v, h => by
    have ih := set_perm (l := l) (i := i) (x := x) (v := v) (by simpa using h)
    exact ((List.Perm.swap ..).trans (ih.cons y)).trans (List.Perm.swap ..)
theorem rot_perm0 : ∀ n < 13, ∀ s < 13, 1 ≤ n → ((upto n).map fun k => (k + ((s : Nat) : Int)) % ((n : Nat) : Int)).Perm (upto n) := by decide +kernel
theorem rot_perm {n : Nat} {s : Int} (h1 : 1 ≤ n) (h2 : n ≤ 12) (h3 : 0 ≤ s) (h4 : s ≤ 12) : ((upto n).map fun k => (k + s) % (n : Int)).Perm (upto n) := by
  obtain ⟨m, rfl⟩ := Int.eq_ofNat_of_zero_le h3
  exact rot_perm0 n (by omega) m (by omega) h1
theorem back_perm : ∀ n < 13, ((upto n).map fun k => ((n : Nat) : Int) - 1 - k).Perm (upto n) := by decide +kernel
/-- the turn of a ring: what holds when i of its points are turned -/
structure Ring (n : Nat) (rs im : List Int) (i : Nat) : Prop where
  per : ∃ a b, rs[0]? = some a ∧ rs[i % rs.length]? = some b ∧ (a :: im).Perm (b :: upto n)
  at_ : ∀ j r, i ≤ j → rs[j]? = some r → im[r.toNat]? = some r
theorem Ring.start {n : Nat} {rs : List Int} (h0 : 0 < rs.length) (hm : ∀ r ∈ rs, r ∈ upto n) : Ring n rs (upto n) 0 := by
  refine ⟨⟨rs[0], rs[0], List.getElem?_eq_getElem h0, by rw [Nat.zero_mod]; exact List.getElem?_eq_getElem h0, .refl _⟩, fun j r _ hr => ?_⟩
  have := upto_mem (hm r (List.mem_of_getElem? hr))
  rw [upto_get (by omega)]
  congr 1
  omega
theorem Ring.step {n : Nat} {rs im : List Int} {i : Nat} {r v : Int} (hd : rs.Nodup) (hm : ∀ r ∈ rs, r ∈ upto n) (h : Ring n rs im i) (hr : rs[i]? = some r) (hv : rs[(i + 1) % rs.length]? = some v) : Ring n rs (im.set r.toNat v) (i + 1) := by
  obtain ⟨⟨a, b, ha, hb, hp⟩, hat⟩ := h
  have hi : i < rs.length := (List.getElem?_eq_some_iff.mp hr).1
  rw [Nat.mod_eq_of_lt hi, hr] at hb
  cases hb
  have h1 := hat i r (Nat.le_refl _) hr
  have h2 := set_perm (v := v) h1
  refine ⟨⟨a, v, ha, hv, ?_⟩, fun j q hj hq => ?_⟩
  · have e : (r :: a :: im.set r.toNat v).Perm (r :: v :: upto n) := by
      refine (List.Perm.swap ..).trans ((h2.cons a).trans ?_)
      exact (List.Perm.swap ..).trans ((hp.cons v).trans (List.Perm.swap ..))
    exact List.Perm.cons_inv e
  · have hjl : j < rs.length := (List.getElem?_eq_some_iff.mp hq).1
    have m1 := upto_mem (hm r (List.mem_of_getElem? hr))
    have m2 := upto_mem (hm q (List.mem_of_getElem? hq))
    have ne : r ≠ q := fun e => by
      subst e
      have e1 := (List.getElem?_eq_some_iff.mp hr).2
      have e2 := (List.getElem?_eq_some_iff.mp hq).2
      exact (List.pairwise_iff_getElem.mp hd) i j hi hjl (by omega) (e1.trans e2.symm)
    rw [List.getElem?_set_ne (by omega)]
    exact hat j q (by omega) hq
theorem Ring.end_ {n : Nat} {rs im : List Int} (h : Ring n rs im rs.length) : im.Perm (upto n) := by
  obtain ⟨⟨a, b, ha, hb, hp⟩, _⟩ := h
  rw [Nat.mod_self, ha] at hb
  cases hb
  exact List.Perm.cons_inv hp
def sp__law_move : SpD := fun ds Q E => ∃ (st : D) (n : Nat), ds = [st, .int n] ∧ Sto st ∧ n ≤ 12 ∧ ∀ xs : List Int, xs.Perm (upto n) → ∀ st', Sto st' → Q (.tup (dints xs)) [some st']
theorem len__law_move : ∀ ds Q E, sp__law_move ds Q E → ds.length = 2 := fun ds Q E h => by
  unfold sp__law_move at h
  obtain ⟨_, _, h, _⟩ := h
  rw [h]; rfl
theorem pf__law_move : ∀ ds Q E, sp__law_move ds Q E → w__law_move (fun c fs env => E c fs (outs [true, false] env)) (dEnd [true, false] Q) (startE N__law_move ds) := by
  rintro _ Q E ⟨st, n, rfl, hs, hn, h⟩
  walk_at "st"
  unfold w__law_move
  walk_at "go"
  refine ⟨st, _, rfl, hs, by decide, fun r st' hr hst => ?_⟩
  walk_at "rd"
  refine BR_no hst.fz ?_
  walk_at "rd"
  refine And.intro (RgOk.of_le (by decide) (by omega) (by decide) (by omega)) ?_
  rw [rgD_upto]
  walk_at "go"
  · exact h _ (.refl _) _ hst
  · exact h _ (.refl _) _ hst
  · refine ⟨st', _, rfl, hst, by omega, fun q st2 hq hst2 => ?_⟩
    obtain ⟨hq0, hq1⟩ := hq
    walk_at "go"
    have hS1 : 2 ≤ (2 + q) := by omega
    have hS2 : (2 + q) ≤ n := by omega
    refine ⟨st2, true, dints (upto n), (2 + q), rfl, hst2, noOwnL_ints, by rw [List.length_map, upto_len]; omega, by omega, fun ys zs hp hl st3 hst3 => ?_⟩
    obtain ⟨rs, ts, rfl, rfl, hp2⟩ := perm_dints2 hp
    clear hp
    rw [List.length_map, List.length_map, upto_len] at hl
    have hrl : (rs.length : Int) = (2 + q) := by omega
    have hnd : rs.Nodup := (List.nodup_append.mp (hp2.nodup_iff.mpr (upto_nodup n))).1
    have hmem : ∀ r ∈ rs, r ∈ upto n := fun r q => hp2.subset (List.mem_append_left _ q)
    walk_at "go"
    all_goals first | omega | skip
    refine FOR_rg (lo := 0) (n := ((2 + q) : Int).toNat) (fun i e => ∃ (im : List Int) (x6 : Option D), e = [some st3, some (D.int n), some (D.int r), some (D.lst true (dints im)), some (D.int (2 + q)), some (D.lst true (dints rs)), x6, none] ∧ im.length = n ∧ Ring n rs im i) ⟨upto n, _, rfl, upto_len n, Ring.start (by omega) hmem⟩ (fun i hi e he k hk => ?_) (fun e he => ?_)
    · obtain ⟨im, x6, rfl, hil, hR⟩ := he
      have hi2 : i < rs.length := by omega
      have hm2 : (i + 1) % rs.length < rs.length := Nat.mod_lt _ (by omega)
      have hr1 := hmem _ (List.getElem_mem hi2)
      have hr2 := upto_mem hr1
      walk_at "go"
      all_goals first | omega | skip
      refine AT_of (d := .int rs[(i + 1) % rs.length]) (atI_int (Int.emod_nonneg _ (by omega)) ?_) rfl ?_
      · rw [← hrl, show (0 + (i : Int) + 1) % (rs.length : Int) = (((i + 1) % rs.length : Nat) : Int) by rw [Int.zero_add]; rfl, Int.toNat_natCast, List.getElem?_map, List.getElem?_eq_getElem hm2]; rfl
      walk_at "go"
      refine AT_of (d := .int rs[i]) (atI_int (by omega) (by rw [Int.zero_add, Int.toNat_natCast, List.getElem?_map, List.getElem?_eq_getElem hi2]; rfl)) rfl ?_
      walk_at "go"
      refine LSET_of (k := (rs[i]).toNat) (ixN_int hr2.1 (by rw [List.length_map, hil]; omega)) ?_
      walk_at "go"
      rw [show (dints im).set rs[i].toNat (.int rs[(i + 1) % rs.length]) = dints (im.set rs[i].toNat rs[(i + 1) % rs.length]) from List.map_set.symm]
      exact hk _ ⟨_, _, rfl, by rw [List.length_set]; exact hil, hR.step hnd hmem (List.getElem?_eq_getElem hi2) (List.getElem?_eq_getElem hm2)⟩
    · obtain ⟨im, x6, rfl, hil, hR⟩ := he
      rw [show ((2 + q) : Int).toNat = rs.length by omega] at hR
      walk_at "go"
      all_goals first | exact noOwnL_ints | exact h im hR.end_ _ hst3
  · skip
    have hS1 : 2 ≤ 2 := by omega
    have hS2 : 2 ≤ n := by omega
    refine ⟨st', true, dints (upto n), 2, rfl, hst, noOwnL_ints, by rw [List.length_map, upto_len]; omega, by omega, fun ys zs hp hl st3 hst3 => ?_⟩
    obtain ⟨rs, ts, rfl, rfl, hp2⟩ := perm_dints2 hp
    clear hp
    rw [List.length_map, List.length_map, upto_len] at hl
    have hrl : (rs.length : Int) = 2 := by omega
    have hnd : rs.Nodup := (List.nodup_append.mp (hp2.nodup_iff.mpr (upto_nodup n))).1
    have hmem : ∀ r ∈ rs, r ∈ upto n := fun r q => hp2.subset (List.mem_append_left _ q)
    walk_at "go"
    all_goals first | omega | skip
    refine FOR_rg (lo := 0) (n := (2 : Int).toNat) (fun i e => ∃ (im : List Int) (x6 : Option D), e = [some st3, some (D.int n), some (D.int r), some (D.lst true (dints im)), some (D.int 2), some (D.lst true (dints rs)), x6, none] ∧ im.length = n ∧ Ring n rs im i) ⟨upto n, _, rfl, upto_len n, Ring.start (by omega) hmem⟩ (fun i hi e he k hk => ?_) (fun e he => ?_)
    · obtain ⟨im, x6, rfl, hil, hR⟩ := he
      have hi2 : i < rs.length := by omega
      have hm2 : (i + 1) % rs.length < rs.length := Nat.mod_lt _ (by omega)
      have hr1 := hmem _ (List.getElem_mem hi2)
      have hr2 := upto_mem hr1
      walk_at "go"
      all_goals first | omega | skip
      refine AT_of (d := .int rs[(i + 1) % rs.length]) (atI_int (Int.emod_nonneg _ (by omega)) ?_) rfl ?_
      · rw [← hrl, show (0 + (i : Int) + 1) % (rs.length : Int) = (((i + 1) % rs.length : Nat) : Int) by rw [Int.zero_add]; rfl, Int.toNat_natCast, List.getElem?_map, List.getElem?_eq_getElem hm2]; rfl
      walk_at "go"
      refine AT_of (d := .int rs[i]) (atI_int (by omega) (by rw [Int.zero_add, Int.toNat_natCast, List.getElem?_map, List.getElem?_eq_getElem hi2]; rfl)) rfl ?_
      walk_at "go"
      refine LSET_of (k := (rs[i]).toNat) (ixN_int hr2.1 (by rw [List.length_map, hil]; omega)) ?_
      walk_at "go"
      rw [show (dints im).set rs[i].toNat (.int rs[(i + 1) % rs.length]) = dints (im.set rs[i].toNat rs[(i + 1) % rs.length]) from List.map_set.symm]
      exact hk _ ⟨_, _, rfl, by rw [List.length_set]; exact hil, hR.step hnd hmem (List.getElem?_eq_getElem hi2) (List.getElem?_eq_getElem hm2)⟩
    · obtain ⟨im, x6, rfl, hil, hR⟩ := he
      rw [show (2 : Int).toNat = rs.length by omega] at hR
      walk_at "go"
      all_goals first | exact noOwnL_ints | exact h im hR.end_ _ hst3
  · refine ⟨st', _, rfl, hst, by omega, fun q st2 hq hst2 => ?_⟩
    obtain ⟨hq0, hq1⟩ := hq
    walk_at "go"
    all_goals first | omega | skip
    rw [rgD_upto]
    refine LC_dI (fun _ => true) (fun k => (k + (1 + q)) % n) (by rw [upto_len]; omega) (fun x hx acc ha k hk hk2 => ?_) ?_
    · walk_at "go"
      all_goals first | exact ha | exact hk rfl | omega | skip
    · rw [show (upto n).filter (fun _ => true) = upto n from List.filter_eq_self.mpr fun _ _ => rfl]
      walk_at "go"
      all_goals first | exact noOwnL_ints | exact h _ (rot_perm (by omega) hn (by omega) (by omega)) _ hst2
  · omega
  · omega
  · rw [rgD_upto]
    refine LC_dI (fun _ => true) (fun k => n - 1 - k) (by rw [upto_len]; omega) (fun x hx acc ha k hk hk2 => ?_) ?_
    · walk_at "go"
      all_goals first | exact ha | exact hk rfl | omega | skip
    · rw [show (upto n).filter (fun _ => true) = upto n from List.filter_eq_self.mpr fun _ _ => rfl]
      walk_at "go"
      all_goals first | exact noOwnL_ints | exact h _ (back_perm n (by omega)) _ hst
  · skip
    refine ⟨st', true, dints (upto n), n, rfl, hst, noOwnL_ints, by rw [List.length_map, upto_len]; omega, by omega, fun ys zs hp hl st3 hst3 => ?_⟩
    obtain ⟨rs, ts, rfl, rfl, hp2⟩ := perm_dints2 hp
    clear hp
    rw [List.length_map, List.length_map, upto_len] at hl
    have hz : ts = [] := by
      have := hp2.length_eq
      rw [List.length_append, upto_len] at this
      exact List.eq_nil_of_length_eq_zero (by omega)
    rw [hz, List.append_nil] at hp2
    walk_at "go"
    all_goals first | exact noOwnL_ints | exact h rs hp2 _ hst3


abbrev N__law_wrong_moves : List Str := ["store", "points", "moves", "still", "wrong", "entry", "good", "at", "bent"]
def w__law_wrong_moves (EW : EWt) : WS :=
  (wSeq (wSet 3 (wRgq1 true (wVar 1))) <|
  (wSeq (wSet 4 (wLst (wCons (wOp (kd1 listK) (wCons (wVar 3) wNil)) (wCons (wBin (kd2 addK) (wVar 3) (wTup (wCons (wVar 1) wNil))) (wCons (wBin (kd2 addK) (wVar 3) (wTup (wCons (wTmp (.int 0)) wNil))) (wCons (wBin (kd2 addK) (wOp slK10 (wCons (wVar 3) (wCons (wTmp (.int 1)) wNil))) (wTup (wCons (wVar 1) wNil))) (wCons (wBin (kd2 addK) (wTup (wCons (wTmp (.bl false)) wNil)) (wOp slK10 (wCons (wVar 3) (wCons (wTmp (.int 1)) wNil)))) (wCons (wTmp .non) (wCons (wTmp (.int 0)) wNil))))))))) <|
  (wSeq (wIf (wTB (wBin (kd2 eqK) (wCall [true, false] sp__law_take [] EW (wCons (wVar 0) (wCons (wTmp (.int 5)) wNil))) (wTmp (.int 0))))
  (wSeq (wSet 5 (wCall [true, false] sp__law_pick [] EW (wCons (wVar 0) (wCons (wLst (wCons (wVar 3) (wCons (wVar 3) (wCons (wTmp .non) wNil)))) wNil)))) <|
  (wRet (wLst (wCons (wCall [true, false] sp__law_either [] EW (wCons (wVar 0) (wCons (wBin (kd2 mulK) (wLst (wCons (wVar 5) wNil)) (wBin (kd2 addK) (wTmp (.int 401)) (wCall [true, false] sp__law_take [] EW (wCons (wVar 0) (wCons (wTmp (.int 3)) wNil))))) wNil))) (wCons (wTup (wCons (wTmp (.str "TooMany")) (wCons (wTmp (.str "list")) (wCons (wTmp (.int 400)) wNil)))) wNil)))))
  wNext) <|
  (wSeq (wSet 6 (wOp slK01 (wCons (wVar 2) (wCons (wTmp (.int 398)) wNil)))) <|
  (wSeq (wSet 7 (wCall [true, false] sp__law_place [] EW (wCons (wVar 0) (wCons (wBin (kd2 addK) (wOp (kd1 lenK) (wCons (wVar 6) wNil)) (wTmp (.int 1))) wNil)))) <|
  (wSeq (wSet 8 (wBin (kd2 addK) (wBin (kd2 addK) (wOp slK01 (wCons (wVar 6) (wCons (wVar 7) wNil))) (wLst (wCons (wCall [true, false] sp__law_pick [] EW (wCons (wVar 0) (wCons (wVar 4) wNil))) wNil))) (wOp slK10 (wCons (wVar 6) (wCons (wVar 7) wNil))))) <|
  (wSeq (wIf (wTB (wBin (kd2 eqK) (wCall [true, false] sp__law_take [] EW (wCons (wVar 0) (wCons (wTmp (.int 3)) wNil))) (wTmp (.int 0))))
  (wExpr (wM1 false 8 appK (wCall [true, false] sp__law_pick [] EW (wCons (wVar 0) (wCons (wVar 4) wNil)))))
  wNext) <|
  (wRet (wLst (wCons (wCall [true, false] sp__law_either [] EW (wCons (wVar 0) (wCons (wVar 8) wNil))) (wCons (wTup (wCons (wTmp (.str "NotAMove")) (wCons (wVar 7) wNil))) wNil)))))))))))
theorem TmM_ints {xs : List Int} (h : xs.length ≤ 13) : TmM (.tup (dints xs)) := by
  refine ⟨⟨noOwn_dints xs, rfl, Pl_dints xs, ?_⟩, fun zs e => ?_⟩
  · show 1 + szL (dints xs) ≤ 20
    rw [sz_dints]; omega
  · cases e
    exact ⟨by rw [List.length_map]; omega, fun z hz => by obtain ⟨i, _, rfl⟩ := List.mem_map.mp hz; rfl⟩
theorem good_of {n : Nat} {m : List Int} (hn : n ≤ 12) (h : m.Perm (upto n)) : m.length = n ∧ TmM (.tup (dints m)) ∧ GoodMv n (.tup (dints m)) := by
  have hl : m.length = n := by rw [h.length_eq, upto_len]
  exact ⟨hl, TmM_ints (by omega), m, rfl, hl, m, rfl, by omega, by rw [hl]; exact h⟩
theorem notGood_len {n : Nat} {xs : List Int} (h : xs.length ≠ n) : ¬ GoodMv n (.tup (dints xs)) := fun ⟨ys, e, hl, _⟩ => by
  have := congrArg List.length (D.tup.inj e)
  rw [List.length_map, List.length_map] at this
  omega
theorem notGood_mem {n : Nat} {xs : List Int} (x : Int) (hx : x ∈ xs) (h : ¬ (0 ≤ x ∧ x < n)) : ¬ GoodMv n (.tup (dints xs)) := fun ⟨ys, e, hl, zs, e2, _, hp⟩ => by
  have a : xs = ys := (List.map_inj_right (fun _ _ h => D.int.inj h)).mp (D.tup.inj e)
  have b : xs = zs := (List.map_inj_right (fun _ _ h => D.int.inj h)).mp (D.tup.inj e2)
  subst a b
  rw [hl] at hp
  exact h (upto_mem (hp.subset hx))
theorem notGood_head {n : Nat} {y : D} {l : List D} (h : ∀ i, y ≠ .int i) : ¬ GoodMv n (.tup (y :: l)) := fun ⟨ys, e, _⟩ => by
  have e2 := D.tup.inj e
  cases ys with
  | nil => cases e2
  | cons a b =>
    have := (List.cons.inj e2).1
    exact h a this
theorem notGood_other {n : Nat} {y : D} (h : ∀ l, y ≠ .tup l) : ¬ GoodMv n y := fun ⟨_, e, _⟩ => h _ e
/-- the wrong ones -/
def wrongL (n : Nat) : List D := [.lst false (dints (upto n)), .tup (dints (upto n ++ [(n : Int)])), .tup (dints (upto n ++ [0])), .tup (dints ((upto n).drop 1 ++ [(n : Int)])), .tup (.bl false :: dints ((upto n).drop 1)), .non, .int 0]
theorem wrongL_bad {n : Nat} (hn : n ≤ 12) : ∀ y ∈ wrongL n, TmM y ∧ ¬ GoodMv n y := by
  have hu := upto_len n
  intro y hy
  simp only [wrongL, List.mem_cons, List.not_mem_nil, or_false] at hy
  rcases hy with rfl | rfl | rfl | rfl | rfl | rfl | rfl
  · exact ⟨⟨⟨noOwn_dints _, rfl, Pl_dints _, by show 1 + szL (dints (upto n)) ≤ 20; rw [sz_dints, hu]; omega⟩, fun zs e => nomatch e⟩, notGood_other fun l e => nomatch e⟩
  · exact ⟨TmM_ints (by rw [List.length_append, hu]; show n + 1 ≤ 13; omega), notGood_len (by rw [List.length_append, hu]; show n + 1 ≠ n; omega)⟩
  · exact ⟨TmM_ints (by rw [List.length_append, hu]; show n + 1 ≤ 13; omega), notGood_len (by rw [List.length_append, hu]; show n + 1 ≠ n; omega)⟩
  · exact ⟨TmM_ints (by rw [List.length_append, List.length_drop, hu]; show n - 1 + 1 ≤ 13; omega), notGood_mem (n : Int) (List.mem_append_right _ (List.mem_singleton.mpr rfl)) (by omega)⟩
  · refine ⟨⟨⟨noOwn_dints ((upto n).drop 1), rfl, Pl_dints ((upto n).drop 1), ?_⟩, fun zs e => ?_⟩, notGood_head fun i e => nomatch e⟩
    · show 1 + (1 + szL (dints ((upto n).drop 1))) ≤ 20
      rw [sz_dints, List.length_drop, hu]; omega
    · cases e
      refine ⟨by rw [List.length_cons, List.length_map, List.length_drop, hu]; omega, fun z hz => ?_⟩
      rcases List.mem_cons.mp hz with rfl | hz
      · rfl
      · obtain ⟨i, _, rfl⟩ := List.mem_map.mp hz; rfl
  · exact ⟨⟨⟨rfl, rfl, rfl, by show 1 ≤ 20; decide⟩, fun zs e => nomatch e⟩, notGood_other fun l e => nomatch e⟩
  · exact ⟨⟨⟨rfl, rfl, rfl, by show 1 ≤ 20; decide⟩, fun zs e => nomatch e⟩, notGood_other fun l e => nomatch e⟩
def sp__law_wrong_moves : SpD := fun ds Q E => ∃ (st : D) (n : Nat) (ms : List (List Int)), ds = [st, .int n, .lst false (dmoves ms)] ∧ Sto st ∧ n ≤ 12 ∧ ms.length ≤ 1000 ∧ (∀ m ∈ ms, m.Perm (upto n)) ∧ ∀ ys due, BadM n ys due → ∀ st', Sto st' → Q (.lst true [.tup ys, due]) [some st'] ∧ Q (.lst true [.lst true ys, due]) [some st']
theorem len__law_wrong_moves : ∀ ds Q E, sp__law_wrong_moves ds Q E → ds.length = 3 := fun ds Q E h => by
  unfold sp__law_wrong_moves at h
  obtain ⟨_, _, _, h, _⟩ := h
  rw [h]; rfl
theorem pf__law_wrong_moves : ∀ ds Q E, sp__law_wrong_moves ds Q E → w__law_wrong_moves (fun c fs env => E c fs (outs [true, false, false] env)) (dEnd [true, false, false] Q) (startE N__law_wrong_moves ds) := by
  rintro _ Q E ⟨st, n, ms, rfl, hs, hn, hl, hm, h⟩
  have hu := upto_len n
  have hno := dmoves_own ms
  have hW := wrongL_bad hn
  walk_at "st"
  unfold w__law_wrong_moves
  walk_at "rd"
  refine And.intro (RgOk.of_le (by decide) (by omega) (by decide) (by omega)) ?_
  rw [rgD_upto]
  have hc : Vd.cutD (dints (upto n)) (some 1) none = dints ((upto n).drop 1) := by rw [cut_from (by decide), ← List.map_drop]; rfl
  have hd1 : ((upto n).drop 1).length = n - 1 := by rw [List.length_drop, hu]
  walk_at "go"
  all_goals first
    | (refine SZ_of ?_; simp only [hc, List.length_map, hu, hd1]; omega)
    | (rw [hc]; exact noOwnL_ints)
    | skip
  rw [Int.toNat_natCast, rgD_upto, hc]
  refine ⟨st, _, rfl, hs, by decide, fun q st1 hq hst1 => ?_⟩
  walk_at "go"
  · refine ⟨st1, _, _, rfl, hst1, .inl ⟨_, rfl⟩, by first | rfl | exact noOwnL_mem (by intro y hy; simp only [List.mem_cons, List.not_mem_nil, or_false] at hy; rcases hy with rfl | rfl | rfl <;> first | rfl | exact noOwnL_ints), fun e => (by cases e), by show 3 ≤ 100000; decide, fun y hy st2 hst2 => ?_⟩
    have hyo : TmM y := by
      simp only [List.mem_cons, List.not_mem_nil, or_false] at hy
      rcases hy with rfl | rfl | rfl
      · exact TmM_ints (by omega)
      · exact TmM_ints (by omega)
      · exact ⟨⟨rfl, rfl, rfl, by show 1 ≤ 20; decide⟩, fun zs e => nomatch e⟩
    have hyn := hyo.1.1
    walk_at "go"
    rw [hst2.fz, Bool.and_false]
    walk_at "go"
    refine ⟨st2, _, rfl, hst2, by decide, fun q3 st3 hq3 hst3 => ?_⟩
    obtain ⟨q30, q31⟩ := hq3
    walk_at "go"
    all_goals first | omega | (refine SZ_of ?_; omega) | skip
    rw [List.flatten_replicate_singleton]
    have hrl : (List.replicate (401 + q3).toNat y).length = (401 + q3).toNat := List.length_replicate
    have hro : noOwnL (List.replicate (401 + q3).toNat y) = true := noOwnL_mem fun z hz => by rw [List.eq_of_mem_replicate hz]; exact hyn
    have hbad : BadM n (List.replicate (401 + q3).toNat y) (.tup [.str (Str.ofString "TooMany"), .str (Str.ofString "list"), .int 400]) := ⟨hro, by rw [hrl]; omega, fun z hz => by rw [List.eq_of_mem_replicate hz]; exact hyo, .inl ⟨by rw [hrl]; omega, rfl⟩⟩
    rw [frzL_of hro]
    generalize List.replicate (401 + q3).toNat y = zs at hro hbad ⊢
    refine ⟨st3, zs, _, rfl, hst3, .inl ⟨_, rfl⟩, hro, fun st4 hst4 => ?_⟩
    have q := h zs _ hbad st4 hst4
    refine ⟨?_, ?_⟩
    all_goals
      walk_at "go"
      rw [hst4.fz, Bool.and_false]
      walk_at "go"
      all_goals first | exact hro | exact q.1 | exact q.2 | trace_state
  · have hct : Vd.cutD (dmoves ms) none (some 398) = dmoves (ms.take 398) := by rw [cut_to (by decide), ← List.map_take]; rfl
    have hgl : (ms.take 398).length ≤ 398 := by rw [List.length_take]; omega
    have hgm : ∀ m ∈ ms.take 398, m.Perm (upto n) := fun m q => hm m (List.mem_of_mem_take q)
    rw [hct]
    generalize ms.take 398 = gs at hgl hgm ⊢
    refine ⟨st1, _, rfl, hst1, by omega, by rw [List.length_map]; omega, fun p hp0 hp1 st2 hst2 => ?_⟩
    rw [List.length_map] at hp1
    walk_at "go"
    · exact dmoves_own gs
    have f1 : frzL (dints (upto n) ++ [D.int (n : Int)]) = dints (upto n ++ [(n : Int)]) := by
      rw [show dints (upto n ++ [(n : Int)]) = dints (upto n) ++ [D.int (n : Int)] from List.map_append ..]
      exact frzL_of (by rw [noOwnL_append, noOwnL_ints]; rfl)
    have f2 : frzL (dints (upto n) ++ [D.int 0]) = dints (upto n ++ [0]) := by
      rw [show dints (upto n ++ [0]) = dints (upto n) ++ [D.int 0] from List.map_append ..]
      exact frzL_of (by rw [noOwnL_append, noOwnL_ints]; rfl)
    have f3 : frzL (dints (List.drop 1 (upto n)) ++ [D.int (n : Int)]) = dints ((upto n).drop 1 ++ [(n : Int)]) := by
      rw [show dints ((upto n).drop 1 ++ [(n : Int)]) = dints ((upto n).drop 1) ++ [D.int (n : Int)] from List.map_append ..]
      exact frzL_of (by rw [noOwnL_append, noOwnL_ints]; rfl)
    rw [f1, f2, f3]
    refine ⟨st2, wrongL n, _, rfl, hst2, .inl ⟨_, rfl⟩, noOwnL_mem fun y hy => (hW y hy).1.1.1, fun e => (by cases e), by show 7 ≤ 100000; decide, fun y hy st3 hst3 => ?_⟩
    obtain ⟨hy1, hy2⟩ := hW y hy
    have hyn := hy1.1.1
    walk_at "go"
    rw [hst3.fz, Bool.and_false]
    have ht : Vd.cutD (dmoves gs) none (some p) = dmoves (gs.take p.toNat) := by rw [cut_to hp0, ← List.map_take]
    have hdr : Vd.cutD (dmoves gs) (some p) none = dmoves (gs.drop p.toNat) := by rw [cut_from hp0, ← List.map_drop]
    have hlt : (gs.take p.toNat).length = p.toNat := by rw [List.length_take]; omega
    have hld : (gs.drop p.toNat).length = gs.length - p.toNat := List.length_drop ..
    have gm : ∀ m ∈ gs, TmM (.tup (dints m)) ∧ GoodMv n (.tup (dints m)) := fun m q => (good_of hn (hgm m q)).2
    have hbad : ∀ tl : List D, (∀ z ∈ tl, TmM z) → tl.length ≤ 399 - p.toNat → BadM n (dmoves (gs.take p.toNat) ++ y :: tl) (.tup [.str (Str.ofString "NotAMove"), .int p]) := by
      intro tl htl hll
      have hall : ∀ z ∈ dmoves (gs.take p.toNat) ++ y :: tl, TmM z := fun z hz => by
        rcases List.mem_append.mp hz with q | q
        · obtain ⟨m, hm, rfl⟩ := List.mem_map.mp q
          exact (gm m (List.mem_of_mem_take hm)).1
        · rcases List.mem_cons.mp q with rfl | q
          · exact hy1
          · exact htl z q
      have hlen : (dmoves (gs.take p.toNat) ++ y :: tl).length = p.toNat + (tl.length + 1) := by rw [List.length_append, List.length_map, hlt]; rfl
      refine ⟨noOwnL_mem fun z hz => (hall z hz).1.1, by rw [hlen]; omega, hall, .inr ⟨by rw [hlen]; omega, p.toNat, y, ?_, hy2, fun j hj z hz => ?_, by rw [Int.toNat_of_nonneg hp0]⟩⟩
      · rw [List.getElem?_append_right (by rw [List.length_map, hlt]; exact Nat.le_refl _), List.length_map, hlt, Nat.sub_self]; rfl
      · rw [List.getElem?_append_left (by rw [List.length_map, hlt]; exact hj)] at hz
        obtain ⟨m, hm, rfl⟩ := dmoves_get hz
        exact (gm m (List.mem_of_mem_take (List.mem_of_getElem? hm))).2
    have hdm : ∀ z ∈ dmoves (gs.drop p.toNat), TmM z := fun z hz => by
      obtain ⟨m, hm, rfl⟩ := List.mem_map.mp hz
      exact (gm m (List.mem_of_mem_drop hm)).1
    have ho1 := dmoves_own (gs.take p.toNat)
    have ho2 := dmoves_own (gs.drop p.toNat)
    walk_at "go"
    all_goals first
      | (rw [ht]; exact ho1)
      | (rw [hdr]; exact ho2)
      | exact dmoves_own gs
      | (rw [ht, ho1, hyn]; rfl)
      | (refine SZ_of ?_; rw [ht, List.length_map, hlt]; omega)
      | (refine SZ_of ?_; rw [ht, hdr, List.length_append, List.length_map, List.length_map, hlt, hld]; show p.toNat + 1 + _ ≤ _; omega)
      | skip
    refine ⟨st3, _, rfl, hst3, by decide, fun q4 st4 hq4 hst4 => ?_⟩
    have eb : Vd.cutD (dmoves gs) none (some p) ++ [y] ++ Vd.cutD (dmoves gs) (some p) none = dmoves (gs.take p.toNat) ++ y :: dmoves (gs.drop p.toNat) := by rw [ht, hdr, List.append_assoc]; rfl
    rw [eb]
    have hB1 := hbad _ hdm (by rw [List.length_map, hld]; omega)
    have hB2 : ∀ z, TmM z → BadM n (dmoves (gs.take p.toNat) ++ y :: dmoves (gs.drop p.toNat) ++ [z]) (.tup [.str (Str.ofString "NotAMove"), .int p]) := fun z hz => by
      rw [show dmoves (gs.take p.toNat) ++ y :: dmoves (gs.drop p.toNat) ++ [z] = dmoves (gs.take p.toNat) ++ y :: (dmoves (gs.drop p.toNat) ++ [z]) from by rw [List.append_assoc]; rfl]
      refine hbad _ (fun w hw => ?_) (by rw [List.length_append, List.length_map, hld]; show _ + 1 ≤ _; omega)
      rcases List.mem_append.mp hw with q | q
      · exact hdm w q
      · rw [List.mem_singleton.mp q]; exact hz
    have hL1 : (dmoves (gs.take p.toNat) ++ y :: dmoves (gs.drop p.toNat)).length ≤ 1000 := by have := hB1.2.1; omega
    generalize dmoves (gs.take p.toNat) ++ y :: dmoves (gs.drop p.toNat) = bs at hB1 hB2 hL1 ⊢
    walk_at "go"
    · refine BR_yes (by rw [f1, f2, f3, noOwnL_ints, noOwnL_ints, noOwnL_ints]; rfl) ?_
      walk_at "go"
      rw [f1, f2, f3]
      refine ⟨st4, wrongL n, _, rfl, hst4, .inl ⟨_, rfl⟩, noOwnL_mem fun y hy => (hW y hy).1.1.1, fun e => (by cases e), by show 7 ≤ 100000; decide, fun z hz st5 hst5 => ?_⟩
      obtain ⟨hz1, hz2⟩ := hW z hz
      have hzn := hz1.1.1
      have hB := hB2 z hz1
      walk_at "go"
      rw [hst5.fz, Bool.and_false]
      walk_at "go"
      all_goals first | (refine SZ_of ?_; omega) | skip
      rw [frzL_of hB.1]
      refine ⟨st5, bs ++ [z], _, rfl, hst5, .inl ⟨_, rfl⟩, hB.1, fun st6 hst6 => ?_⟩
      have q := h _ _ hB st6 hst6
      have hBo := hB.1
      refine ⟨?_, ?_⟩
      all_goals
        walk_at "go"
        rw [hst6.fz, Bool.and_false]
        walk_at "go"
        all_goals first | exact hBo | exact q.1 | exact q.2 | trace_state
    · rw [frzL_of hB1.1]
      refine ⟨st4, bs, _, rfl, hst4, .inl ⟨_, rfl⟩, hB1.1, fun st6 hst6 => ?_⟩
      have q := h _ _ hB1 st6 hst6
      have hBo := hB1.1
      refine ⟨?_, ?_⟩
      all_goals
        walk_at "go"
        rw [hst6.fz, Bool.and_false]
        walk_at "go"
        all_goals first | exact hBo | exact q.1 | exact q.2 | trace_state


abbrev N__law_moves_right : List Str := ["store", "points", "moves", "k", "held", "p", "move", "handed", "tally", "value", "bad", "due"]
def w__law_moves_right (EW : EWt) : WS :=
  (wSeq (wSet 1 (wCall [true, false] sp__law_take [] EW (wCons (wVar 0) (wCons (wTmp (.int 13)) wNil)))) <|
  (wSeq (wSet 2 (wLc (wRg1 (wCall [true, false] sp__law_take [] EW (wCons (wVar 0) (wCons (wTmp (.int 6)) wNil)))) (tgN 3) wYes (wCall [true, false] sp__law_move [] NE (wCons (wVar 0) (wCons (wVar 1) wNil))) [3])) <|
  (wSeq (wIf (wAnd (wTB (wBin (kd2 gtK) (wOp (kd1 lenK) (wCons (wVar 2) wNil)) (wTmp (.int 0)))) (wTB (wBin (kd2 eqK) (wCall [true, false] sp__law_take [] EW (wCons (wVar 0) (wCons (wTmp (.int 16)) wNil))) (wTmp (.int 0)))))
  (wSet 2 (wOp slK01 (wCons (wBin (kd2 mulK) (wVar 2) (wTmp (.int 400))) (wCons (wTmp (.int 400)) wNil))))
  (wIf (wAnd (wTB (wBin (kd2 gtK) (wOp (kd1 lenK) (wCons (wVar 2) wNil)) (wTmp (.int 0)))) (wTB (wBin (kd2 eqK) (wCall [true, false] sp__law_take [] EW (wCons (wVar 0) (wCons (wTmp (.int 2)) wNil))) (wTmp (.int 0)))))
  (wExpr (wM1 false 2 appK (wBin (kd2 ixK) (wVar 2) (wTmp (.int 0)))))
  wNext)) <|
  (wSeq (wSet 4 (wLc (wIt (wVar 2)) (tgN 6) wYes (wOp (kd1 sumK) (wCons (wLc (wRg1 (wVar 1)) (tgN 5) wYes (wOp (kd1 intK1) (wCons (wBin (kd2 eqK) (wBin (kd2 ixK) (wVar 6) (wVar 5)) (wVar 5)) wNil)) [5]) wNil)) [6])) <|
  (wSeq (wSet 7 (wCall [true, false] sp__law_either [] EW (wCons (wVar 0) (wCons (wVar 2) wNil)))) <|
  (wSeq (wSet 8 (wCall [false, false] sp_Tally_of_moves [] EW (wCons (wVar 1) (wCons (wVar 7) wNil)))) <|
  (wSeq (wIf (wNot (wTest (wCall [false, false] sp__law_same [] EW (wCons (wOp (kd1 listK) (wCons (wVar 7) wNil)) (wCons (wVar 2) wNil)))))
  (wRet (wTmp (.bl false)))
  wNext) <|
  (wSeq (wIf (wTest (wIsi "list" (wVar 7)))
  (wExpr (wM1 false 7 appK (wRgq1 true (wVar 1))))
  wNext) <|
  (wSeq (wIf (wNot (wTest (wCall [false, false] sp__law_tells [] EW (wCons (wVar 8) (wCons (wLc (wRg1 (wBin (kd2 addK) (wVar 1) (wTmp (.int 1)))) (tgN 3) wYes (wBM "list" cntK (wVar 4) (wCons (wVar 3) wNil)) [3]) wNil)))))
  (wRet (wTmp (.bl false)))
  wNext) <|
  (wSeq (wSet 9 (wCall [true, false] sp__law_pick [] EW (wCons (wVar 0) (wCons (wLst (wCons (wUn (kd1 negK) (wTmp (.int 1))) (wCons (wTmp (.int 13)) (wCons (wTmp (.int 13)) (wCons (wTmp (.bl true)) (wCons (wTmp (.bl false)) (wCons (wTmp .non) (wCons (wTmp (.str "2")) (wCons (wTup (wCons (wTmp (.int 2)) wNil)) (wCons (wLst wNil) (wCons (wBin (kd2 powK) (wTmp (.int 10)) (wTmp (.int 29))) (wCons (wUn (kd1 negK) (wTmp (.int 7))) wNil)))))))))))) wNil)))) <|
  (wSeq (wSet 10 (wFz (wCall [true, false, false] sp__law_wrong_moves [] EW (wCons (wVar 0) (wCons (wVar 1) (wCons (wVar 2) wNil)))))) <|
  (wSeq (wSet 11 (wTup (wCons (wTmp (.str "BadNumber")) (wCons (wVar 9) (wCons (wTmp (.int 0)) (wCons (wTmp (.int 12)) wNil)))))) <|
  (wRet (wAndV (wCall [false, false, false, false] sp__law_refuses [] EW (wCons (wTmp (.int 3)) (wCons (wVar 9) (wCons (wBin (kd2 ixK) (wVar 10) (wTmp (.int 0))) (wCons (wVar 11) wNil))))) (wCall [false, false, false, false] sp__law_refuses [] EW (wCons (wTmp (.int 3)) (wCons (wVar 1) (wCons (wBin (kd2 ixK) (wVar 10) (wTmp (.int 0))) (wCons (wBin (kd2 ixK) (wVar 10) (wTmp (.int 1))) wNil)))))))))))))))))))
theorem sum_bits {α : Type} (p : α → Bool) : ∀ l : List α, (l.map fun j => if p j = true then (1 : Int) else 0).sum = ((l.filter p).length : Nat)
  | [] => rfl
  | x :: l => by
    rw [List.map_cons, List.sum_cons, sum_bits]
    by_cases h : p x = true
    · rw [if_pos h, List.filter_cons_of_pos h, List.length_cons]; omega
    · rw [if_neg h, List.filter_cons_of_neg h]; omega
theorem count_held (k : Nat) : ∀ ms : List (List Int), (ms.map fun m => ((heldN m : Nat) : Int)).count (k : Int) = (ms.filter fun m => decide (heldN m = k)).length
  | [] => rfl
  | m :: ms => by
    rw [List.map_cons, List.count_cons, count_held]
    by_cases h : heldN m = k
    · rw [List.filter_cons_of_pos (by simpa using h), List.length_cons, if_pos (by simp [h])]
    · rw [List.filter_cons_of_neg (by simpa using h), if_neg (by simp; omega)]; rfl
theorem dmoves_rep (ms : List (List Int)) : ∀ n : Nat, (List.replicate n (dmoves ms)).flatten = dmoves (List.replicate n ms).flatten
  | 0 => rfl
  | n + 1 => by
    rw [List.replicate_succ, List.replicate_succ, List.flatten_cons, List.flatten_cons, dmoves_rep ms n]
    exact (List.map_append ..).symm
def sp__law_moves_right : SpD := fun ds Q E => ∃ st, ds = [st] ∧ Sto st ∧ ∀ st', Sto st' → Q (.bl true) [some st']
theorem len__law_moves_right : ∀ ds Q E, sp__law_moves_right ds Q E → ds.length = 1 := fun ds Q E h => by
  unfold sp__law_moves_right at h
  obtain ⟨_, h, _⟩ := h
  rw [h]; rfl
theorem pf__law_moves_right : ∀ ds Q E, sp__law_moves_right ds Q E → w__law_moves_right (fun c fs env => E c fs (outs [true] env)) (dEnd [true] Q) (startE N__law_moves_right ds) := by
  rintro _ Q E ⟨st, rfl, hs, h⟩
  walk_at "st"
  unfold w__law_moves_right
  refine seq_cut (fun e => ∃ (st : D) (n : Nat), Sto st ∧ n ≤ 12 ∧ e = [some st, some (.int n), none, none, none, none, none, none, none, none, none, none]) (fun k hk => ?_) (fun e he => ?_)
  · walk_at "go"
    refine ⟨st, _, rfl, hs, by decide, fun q st1 hq hst1 => ?_⟩
    obtain ⟨hq0, hq1⟩ := hq
    walk_at "go"
    exact hk _ ⟨st1, q.toNat, hst1, by omega, by rw [Int.toNat_of_nonneg hq0]⟩
  obtain ⟨st, n, hs, hn, rfl⟩ := he
  refine seq_cut (fun e => ∃ (st : D) (ms : List (List Int)) (x3 : Option D), Sto st ∧ ms.length ≤ 5 ∧ (∀ m ∈ ms, m.Perm (upto n)) ∧ e = [some st, some (.int n), some (.lst true (dmoves ms)), none, none, none, none, none, none, none, none, none]) (fun k hk => ?_) (fun e he => ?_)
  · walk_at "go"
    refine ⟨st, _, rfl, hs, by decide, fun q st1 hq hst1 => ?_⟩
    obtain ⟨hq0, hq1⟩ := hq
    walk_at "go"
    · omega
    · omega
    refine LC_rg (lo := 0) (n := q.toNat) (fun i acc e => ∃ (ms : List (List Int)) (st : D), acc = dmoves ms ∧ ms.length = i ∧ (∀ m ∈ ms, m.Perm (upto n)) ∧ Sto st ∧ e = [some st, some (.int n), none, none, none, none, none, none, none, none, none, none]) ⟨[], st1, rfl, rfl, fun m hm => (by cases hm), hst1, rfl⟩ (fun j hj acc e he k2 hk2 => ?_) (fun acc e he => ?_)
    · obtain ⟨ms, st2, rfl, hml, hm, hst2, rfl⟩ := he
      walk_at "go"
      refine ⟨st2, n, rfl, hst2, hn, fun m hp st3 hst3 => ?_⟩
      walk_at "go"
      all_goals first | (refine SZ_of ?_; first | omega | (rw [List.length_map]; omega)) | skip
      exact hk2 _ _ ⟨ms ++ [m], st3, by rw [show dmoves (ms ++ [m]) = dmoves ms ++ [D.tup (dints m)] from List.map_append ..], by rw [List.length_append, hml]; rfl, fun x hx => by
        rcases List.mem_append.mp hx with q | q
        · exact hm x q
        · rw [List.mem_singleton.mp q]; exact hp, hst3, rfl⟩
    · obtain ⟨ms, st2, rfl, hml, hm, hst2, rfl⟩ := he
      walk_at "go"
      exact hk _ ⟨st2, ms, none, hst2, by omega, hm, rfl⟩
  obtain ⟨st, ms, x3, hs, hml, hm, rfl⟩ := he
  refine seq_cut (fun e => ∃ (st : D) (ms : List (List Int)), Sto st ∧ ms.length ≤ 400 ∧ (∀ m ∈ ms, m.Perm (upto n)) ∧ e = [some st, some (.int n), some (.lst true (dmoves ms)), none, none, none, none, none, none, none, none, none]) (fun k hk => ?_) (fun e he => ?_)
  · have hno := dmoves_own ms
    walk_at "go"
    · refine ⟨st, _, rfl, hs, by decide, fun q st1 hq hst1 => ?_⟩
      obtain ⟨hq0, hq1⟩ := hq
      walk_at "go"
      · refine SZ_of ?_; omega
      · show noOwnL (List.replicate 400 (dmoves ms)).flatten = true
        rw [dmoves_rep]; exact dmoves_own _
      · have hc : Vd.cutD (List.replicate 400 (dmoves ms)).flatten none (some 400) = dmoves ((List.replicate 400 ms).flatten.take 400) := by rw [dmoves_rep, cut_to (by decide), ← List.map_take]; rfl
        show k [some st1, some (.int n), some (.lst true (Vd.cutD (List.replicate 400 (dmoves ms)).flatten none (some 400))), none, none, none, none, none, none, none, none, none]
        rw [hc]
        refine hk _ ⟨st1, _, hst1, by rw [List.length_take]; omega, fun m q => ?_, rfl⟩
        have q2 := List.mem_of_mem_take q
        obtain ⟨l, hl, hq⟩ := List.mem_flatten.mp q2
        rw [List.eq_of_mem_replicate hl] at hq
        exact hm m hq
      · refine ⟨st1, _, rfl, hst1, by decide, fun q2 st2 hq2 hst2 => ?_⟩
        walk_at "go"
        · obtain ⟨m, hm0⟩ : ∃ m, ms[0]? = some m := ⟨ms[0]'(by omega), List.getElem?_eq_getElem (by omega)⟩
          refine AT_of (d := .tup (dints m)) (atI_nth (i := 0) (by rw [List.getElem?_map, hm0]; rfl)) noOwnL_ints ?_
          walk_at "go"
          all_goals first | (refine SZ_of ?_; first | omega | (rw [List.length_map]; omega)) | skip
          refine hk _ ⟨st2, ms ++ [m], hst2, by rw [List.length_append]; show ms.length + 1 ≤ 400; omega, fun x hx => ?_, by rw [show dmoves (ms ++ [m]) = dmoves ms ++ [D.tup (dints m)] from List.map_append ..]⟩
          rcases List.mem_append.mp hx with q | q
          · exact hm x q
          · rw [List.mem_singleton.mp q]; exact hm m (List.mem_of_getElem? hm0)
        · exact hk _ ⟨st2, ms, hst2, by omega, hm, rfl⟩
    · exact hk _ ⟨st, ms, hs, by omega, hm, rfl⟩
  obtain ⟨st, ms, hs, hml, hm, rfl⟩ := he
  have hno := dmoves_own ms
  refine seq_cut (fun e => e = [some st, some (.int n), some (.lst false (dmoves ms)), none, some (.lst true (dints (ms.map fun m => ((heldN m : Nat) : Int)))), none, none, none, none, none, none, none]) (fun k hk => ?_) (fun e he => ?_)
  · walk_at "go"
    rw [frzL_of hno]
    refine LC_ix (fun i acc e => acc = dints ((ms.take i).map fun m => ((heldN m : Nat) : Int)) ∧ e = [some st, some (.int n), some (.lst false (dmoves ms)), none, none, none, none, none, none, none, none, none]) ⟨rfl, rfl⟩ (fun i x hx acc e he k2 hk2 => ?_) (fun acc e he => ?_)
    · obtain ⟨rfl, rfl⟩ := he
      obtain ⟨m, hmi, rfl⟩ := dmoves_get hx
      have hmp := hm m (List.mem_of_getElem? hmi)
      have hml2 : m.length = n := by rw [hmp.length_eq, upto_len]
      walk_at "go"
      · omega
      · omega
      refine LC_rg (lo := 0) (n := n) (fun j ac e => ac = dints ((List.range j).map fun p : Nat => if decide (m[p]? = some (p : Int)) = true then (1 : Int) else 0) ∧ e = [some st, some (.int n), some (.lst false (dmoves ms)), none, none, none, some (.tup (dints m)), none, none, none, none, none]) ⟨rfl, rfl⟩ (fun p hp ac e he k3 hk3 => ?_) (fun ac e he => ?_)
      · obtain ⟨rfl, rfl⟩ := he
        have hpl : p < m.length := by omega
        walk_at "go"
        refine AT_of (d := .int m[p]) (atI_int (by omega) (by rw [Int.zero_add, Int.toNat_natCast, List.getElem?_map, List.getElem?_eq_getElem hpl]; rfl)) rfl ?_
        walk_at "go"
        · refine SZ_of ?_; rw [List.length_range]; omega
        refine hk3 _ _ ⟨?_, rfl⟩
        rw [List.range_succ, List.map_append, show dints ((List.range p).map (fun p : Nat => if decide (m[p]? = some (p : Int)) = true then (1 : Int) else 0) ++ [p].map (fun p : Nat => if decide (m[p]? = some (p : Int)) = true then (1 : Int) else 0)) = _ from List.map_append ..]
        congr 1
        show _ = [D.int (if decide (m[p]? = some (p : Int)) = true then (1 : Int) else 0)]
        rw [List.getElem?_eq_getElem hpl, Int.zero_add]
        simp only [Option.some.injEq]
      · obtain ⟨rfl, rfl⟩ := he
        walk_at "go"
        · refine SZ_of ?_; rw [List.length_take]; omega
        refine hk2 _ _ ⟨?_, rfl⟩
        rw [sum_bits, List.take_succ, hmi]
        simp only [Option.toList_some, List.map_append, List.map_cons, List.map_nil]
        unfold heldN
        rw [hml2]
    · obtain ⟨rfl, rfl⟩ := he
      walk_at "go"
      rw [show List.take ms.length ms = ms from List.take_length]
      exact hk _ rfl
  subst he
  refine seq_cut (fun e => ∃ st c, Sto st ∧ (c = .tup (dmoves ms) ∨ c = .lst true (dmoves ms)) ∧ e = [some st, some (.int n), some (.lst false (dmoves ms)), none, some (.lst true (dints (ms.map fun m => ((heldN m : Nat) : Int)))), none, none, some c, none, none, none, none]) (fun k hk => ?_) (fun e he => ?_)
  · walk_at "go"
    refine ⟨st, dmoves ms, _, rfl, hs, .inl ⟨_, rfl⟩, hno, fun st1 hst1 => ⟨?_, ?_⟩⟩
    all_goals
      walk_at "go"
      rw [hst1.fz, Bool.and_false]
      walk_at "go"
      all_goals first | exact hno | exact hk _ ⟨_, _, hst1, .inl rfl, rfl⟩ | exact hk _ ⟨_, _, hst1, .inr rfl, rfl⟩ | skip
      all_goals trace_state
  obtain ⟨st, c, hs, hc, rfl⟩ := he
  refine seq_cut (fun e => e = [some st, some (.int n), some (.lst false (dmoves ms)), none, some (.lst true (dints (ms.map fun m => ((heldN m : Nat) : Int)))), none, none, some c, some (TL true (heldC n ms)), none, none, none]) (fun k hk => ?_) (fun e he => ?_)
  · have hty : ∀ y ∈ dmoves ms, (tyN y).isSome = true ∧ ∀ zs, y = .tup zs → zs.length ≤ 1000 ∧ ∀ z ∈ zs, (tyN z).isSome = true := fun y hy => by
      obtain ⟨m, hmm, rfl⟩ := List.mem_map.mp hy
      exact ⟨rfl, (TmM_ints (by rw [(hm m hmm).length_eq, upto_len]; omega)).2⟩
    rcases hc with rfl | rfl
    all_goals
      walk_at "go"
      try rw [frzL_of hno]
      refine ⟨_, _, dmoves ms, rfl, rfl, rfl, by first | exact .inl rfl | exact .inr rfl, hno, by rw [List.length_map]; omega, hty, .inr ⟨n, rfl, hn, .inr ⟨by rw [List.length_map]; exact hml, .inr ⟨ms, rfl, hm, ?_⟩⟩⟩⟩
      walk_at "go"
      all_goals try exact hk _ rfl
  subst he
  refine seq_cut (fun e => e = [some st, some (.int n), some (.lst false (dmoves ms)), none, some (.lst true (dints (ms.map fun m => ((heldN m : Nat) : Int)))), none, none, some c, some (TL true (heldC n ms)), none, none, none]) (fun k hk => ?_) (fun e he => ?_)
  · have hpl : PlL (dmoves ms) = true := Pl_of_mem fun y hy => by
      obtain ⟨m, hmm, rfl⟩ := List.mem_map.mp hy
      exact Pl_dints m
    have hsz : szL (dmoves ms) ≤ 20 * (dmoves ms).length := szL_le fun y hy => by
      obtain ⟨m, hmm, rfl⟩ := List.mem_map.mp hy
      exact (TmM_ints (by rw [(hm m hmm).length_eq, upto_len]; omega)).1.2.2.2
    rw [List.length_map] at hsz
    rcases hc with rfl | rfl
    all_goals
      walk_at "go"
      rw [frzL_of hno]
      refine ⟨.lst false (dmoves ms), rfl, hno, hpl, by show 1 + szL (dmoves ms) ≤ _; omega, ?_⟩
      walk_at "go"
      all_goals try exact hk _ rfl
  subst he
  refine seq_cut (fun e => ∃ c, e = [some st, some (.int n), some (.lst false (dmoves ms)), none, some (.lst true (dints (ms.map fun m => ((heldN m : Nat) : Int)))), none, none, some c, some (TL true (heldC n ms)), none, none, none]) (fun k hk => ?_) (fun e he => ?_)
  · rcases hc with rfl | rfl
    all_goals
      walk_at "go"
      all_goals first
        | exact hk _ ⟨_, rfl⟩
        | (refine SZ_of ?_; first | omega | (rw [List.length_map]; omega))
        | exact RgOk.of_le (by decide) (by omega) (by decide) (by omega)
        | skip
  clear hc c
  obtain ⟨c, rfl⟩ := he
  have hcl := heldC_len n ms
  refine seq_cut (fun e => ∃ x, e = [some st, some (.int n), some (.lst false (dmoves ms)), none, some (.lst true (dints (ms.map fun m => ((heldN m : Nat) : Int)))), none, none, some c, some x, none, none, none]) (fun k hk => ?_) (fun e he => ?_)
  · walk_at "go"
    · omega
    · omega
    refine LC_rg (lo := 0) (n := (n + 1 : Int).toNat) (fun j ac e => ac = dints ((heldC n ms).take j) ∧ e = [some st, some (.int n), some (.lst false (dmoves ms)), none, some (.lst true (dints (ms.map fun m => ((heldN m : Nat) : Int)))), none, none, some c, some (TL true (heldC n ms)), none, none, none]) ⟨rfl, rfl⟩ (fun p hp ac e he k3 hk3 => ?_) (fun ac e he => ?_)
    · obtain ⟨rfl, rfl⟩ := he
      walk_at "go"
      · rfl
      rw [q_cnt (ns := [])]
      refine OPT_of (a := ms.map fun m => ((heldN m : Nat) : Int)) toInts_ints ?_
      refine And.intro (SZ_of (by first | (rw [List.length_take]; omega) | (rw [List.length_map, List.length_take]; omega))) (hk3 _ _ ⟨?_, rfl⟩)
      have hpn : p < n + 1 := by omega
      have hg : (heldC n ms)[p]? = some ((((ms.filter fun m => decide (heldN m = p)).length : Nat) : Int)) := by
        unfold heldC
        rw [List.getElem?_map, List.getElem?_range hpn]; rfl
      rw [List.take_succ, hg, Int.zero_add, count_held]
      show _ = dints ((heldC n ms).take p ++ [_])
      rw [show dints ((heldC n ms).take p ++ [(((ms.filter fun m => decide (heldN m = p)).length : Nat) : Int)]) = _ from List.map_append ..]
      rfl
    · obtain ⟨rfl, rfl⟩ := he
      rw [List.take_of_length_le (by omega)]
      walk_at "go"
      refine ⟨heldC n ms, rfl, by omega, by omega, ?_⟩
      walk_at "go"
      exact hk _ ⟨_, rfl⟩
  obtain ⟨x, rfl⟩ := he
  refine seq_cut (fun e => ∃ st v, Sto st ∧ inR 0 12 v = false ∧ ShOk v ∧ Tame 100 v ∧ e = [some st, some (.int n), some (.lst false (dmoves ms)), none, some (.lst true (dints (ms.map fun m => ((heldN m : Nat) : Int)))), none, none, some c, some x, some v, none, none]) (fun k hk => ?_) (fun e he => ?_)
  · walk_at "go"
    · exact ⟨by decide, by decide, by decide⟩
    refine ⟨st, _, _, rfl, hs, .inl ⟨_, rfl⟩, by first | rfl | decide, fun e => (by cases e), by show 11 ≤ 100000; decide, fun y hy st1 hst1 => ?_⟩
    have hyo : inR 0 12 y = false ∧ ShOk y ∧ Tame 100 y := by
      simp only [List.mem_cons, List.not_mem_nil, or_false] at hy
      rcases hy with rfl | rfl | rfl | rfl | rfl | rfl | rfl | rfl | rfl | rfl | rfl
      all_goals refine ⟨by first | rfl | decide, ?_, by first | rfl | decide, by first | rfl | decide, by first | rfl | decide +kernel, by first | decide | (show 1 ≤ 100; decide)⟩
      all_goals first
        | exact ShOk_int (by decide)
        | exact .inr (.inl ⟨_, rfl⟩)
        | exact .inr (.inr ⟨⟨_, rfl, by decide, by decide⟩, by first | rfl | decide⟩)
    have hyn := hyo.2.2.1
    walk_at "go"
    rw [hst1.fz, Bool.and_false]
    walk_at "go"
    all_goals try exact hk _ ⟨_, _, hst1, hyo.1, hyo.2.1, hyo.2.2, rfl⟩
    all_goals trace_state
  obtain ⟨st, v, hs, hv1, hv2, hv3, rfl⟩ := he
  have hdt : ∀ ys due, BadM n ys due → Tame 10000 due := fun ys due hB => by
    obtain ⟨_, _, _, hB⟩ := hB
    rcases hB with ⟨_, rfl⟩ | ⟨_, i, _, _, _, _, rfl⟩
    · exact ⟨rfl, rfl, by first | rfl | decide +kernel, by decide⟩
    · exact ⟨rfl, rfl, by show (_ && (true && true)) = true; first | rfl | decide +kernel, by show 1 + (1 + (1 + 0)) ≤ 10000; decide⟩
  refine seq_cut (fun e => ∃ st b ys due, Sto st ∧ SeqOf b ys ∧ BadM n ys due ∧ e = [some st, some (.int n), some (.lst false (dmoves ms)), none, some (.lst true (dints (ms.map fun m => ((heldN m : Nat) : Int)))), none, none, some c, some x, some v, some (.lst false [b, due]), none]) (fun k hk => ?_) (fun e he => ?_)
  · walk_at "go"
    refine ⟨st, n, ms, rfl, hs, hn, by omega, hm, fun ys due hB st1 hst1 => ?_⟩
    have hdn := (hdt ys due hB).1
    have hyn := hB.1
    refine ⟨?_, ?_⟩
    all_goals
      walk_at "go"
      rw [hst1.fz, Bool.and_false]
      walk_at "go"
      rw [frzL_of hyn, frz_of hdn]
      first | exact hk _ ⟨st1, _, ys, due, hst1, .inr rfl, hB, rfl⟩ | exact hk _ ⟨st1, _, ys, due, hst1, .inl rfl, hB, rfl⟩
  obtain ⟨st, b, ys, due, hs, hb, hB, rfl⟩ := he
  have hdn := (hdt ys due hB).1
  have hbn : noOwn b = true := by rcases hb with rfl | rfl <;> exact hB.1
  have hvn := hv3.1
  have hd2 : Tame 10000 (.tup [.str (Str.ofString "BadNumber"), v, .int 0, .int 12]) := by
    obtain ⟨v1, v2, v3, v4⟩ := hv3
    refine ⟨?_, rfl, ?_, ?_⟩
    · show (true && (noOwn v && true)) = true
      rw [v1]; rfl
    · show (_ && (Pl v && true)) = true
      rw [v3]; first | rfl | decide +kernel
    · show 1 + (1 + (sz v + (1 + (1 + 0)))) ≤ 10000
      omega
  walk_at "go"
  refine ⟨3, v, b, _, rfl, hvn, hbn, hd2, .inr (.inr (.inr ⟨rfl, ys, hb, n, due, hn, hB, .inl ⟨hv1, hv2, hv3, rfl⟩⟩)), ?_⟩
  walk_at "go"
  refine ⟨3, .int (n : Nat), b, due, rfl, rfl, hbn, hdt ys due hB, .inr (.inr (.inr ⟨rfl, ys, hb, n, due, hn, hB, .inr ⟨rfl, rfl⟩⟩)), ?_⟩
  walk_at "go"
  all_goals try exact h _ hs


abbrev N__law_limit_right : List Str := ["store", "cut", "first", "k", "second", "one", "due"]
def w__law_limit_right (EW : EWt) : WS :=
  (wSeq (wSet 1 (wBin (kd2 addK) (wTmp (.int 1)) (wCall [true, false] sp__law_take [] EW (wCons (wVar 0) (wCons (wTmp (.int 24)) wNil))))) <|
  (wSeq (wSet 2 (wLc (wRg1 (wBin (kd2 addK) (wVar 1) (wTmp (.int 1)))) (tgN 3) wYes (wBin (kd2 addK) (wTmp (.int 1)) (wCall [true, false] sp__law_take [] NE (wCons (wVar 0) (wCons (wTmp (.int 3)) wNil)))) [3])) <|
  (wSeq (wSet 4 (wLc (wRg1 (wBin (kd2 subK) (wTmp (.int 25)) (wVar 1))) (tgN 3) wYes (wCall [true, false] sp__law_take [] NE (wCons (wVar 0) (wCons (wTmp (.int 3)) wNil))) [3])) <|
  (wSeq (wSet 5 (wMake "Tally" [false] sp_Tally___init__ [] EW (wCons (wVar 2) wNil))) <|
  (wSeq (wIf (wNot (wTest (wCall [false, false, false, false] sp__law_pair_right [] EW (wCons (wVar 5) (wCons (wMake "Tally" [false] sp_Tally___init__ [] EW (wCons (wOp (kd1 tupleK) (wCons (wVar 4) wNil)) wNil)) (wCons (wVar 2) (wCons (wVar 4) wNil)))))))
  (wRet (wTmp (.bl false)))
  wNext) <|
  (wSeq (wSet 6 (wTup (wCons (wTmp (.str "TooMany")) (wCons (wTmp (.str "points")) (wCons (wTmp (.int 24)) wNil))))) <|
  (wRet (wAndV (wCall [false, false, false, false] sp__law_refuses [] EW (wCons (wTmp (.int 2)) (wCons (wVar 5) (wCons (wMake "Tally" [false] sp_Tally___init__ [] EW (wCons (wBin (kd2 addK) (wVar 4) (wLst (wCons (wTmp (.int 1)) wNil))) wNil)) (wCons (wVar 6) wNil))))) (wCall [false, false, false, false] sp__law_refuses [] EW (wCons (wTmp (.int 2)) (wCons (wMake "Tally" [false] sp_Tally___init__ [] EW (wCons (wBin (kd2 addK) (wLst (wCons (wTmp (.int 0)) wNil)) (wVar 4)) wNil)) (wCons (wVar 5) (wCons (wVar 6) wNil)))))))))))))
def sp__law_limit_right : SpD := fun ds Q E => ∃ st, ds = [st] ∧ Sto st ∧ ∀ st', Sto st' → Q (.bl true) [some st']
theorem len__law_limit_right : ∀ ds Q E, sp__law_limit_right ds Q E → ds.length = 1 := fun ds Q E h => by
  unfold sp__law_limit_right at h
  obtain ⟨_, h, _⟩ := h
  rw [h]; rfl
theorem pf__law_limit_right : ∀ ds Q E, sp__law_limit_right ds Q E → w__law_limit_right (fun c fs env => E c fs (outs [true] env)) (dEnd [true] Q) (startE N__law_limit_right ds) := by
  rintro _ Q E ⟨st, rfl, hs, h⟩
  walk_at "st"
  unfold w__law_limit_right
  walk_at "go"
  refine ⟨st, _, rfl, hs, by decide, fun q st1 hq hst1 => ?_⟩
  obtain ⟨hq0, hq1⟩ := hq
  walk_at "go"
  · omega
  · omega
  refine LC_rg (lo := 0) (n := (1 + q + 1).toNat) (fun i acc e => ∃ (fs : List Int) (st : D), acc = dints fs ∧ fs.length = i ∧ (∀ x ∈ fs, 0 ≤ x ∧ x < 10) ∧ Sto st ∧ e = [some st, some (.int (1 + q)), none, none, none, none, none]) ⟨[], st1, rfl, rfl, fun x hx => (by cases hx), hst1, rfl⟩ (fun j hj acc e he k hk => ?_) (fun acc e he => ?_)
  · obtain ⟨fs, st2, rfl, hfl, hf, hst2, rfl⟩ := he
    walk_at "go"
    refine ⟨st2, _, rfl, hst2, by decide, fun p st3 hp hst3 => ?_⟩
    obtain ⟨p0, p1⟩ := hp
    walk_at "go"
    · refine SZ_of ?_; first | omega | (rw [List.length_map]; omega)
    · exact hk _ _ ⟨fs ++ [1 + p], st3, by rw [show dints (fs ++ [1 + p]) = dints fs ++ [D.int (1 + p)] from List.map_append ..], by rw [List.length_append, hfl]; rfl, fun x hx => by
        rcases List.mem_append.mp hx with q | q
        · exact hf x q
        · rw [List.mem_singleton.mp q]; omega, hst3, rfl⟩
  obtain ⟨fs, st2, rfl, hfl, hf, hst2, rfl⟩ := he
  walk_at "go"
  all_goals first | omega | skip
  refine LC_rg (lo := 0) (n := (25 - (1 + q)).toNat) (fun i acc e => ∃ (gs : List Int) (st : D), acc = dints gs ∧ gs.length = i ∧ (∀ x ∈ gs, 0 ≤ x ∧ x < 10) ∧ Sto st ∧ e = [some st, some (.int (1 + q)), some (.lst true (dints fs)), none, none, none, none]) ⟨[], st2, rfl, rfl, fun x hx => (by cases hx), hst2, rfl⟩ (fun j hj acc e he k hk => ?_) (fun acc e he => ?_)
  · obtain ⟨gs, st3, rfl, hgl, hg, hst3, rfl⟩ := he
    walk_at "go"
    refine ⟨st3, _, rfl, hst3, by decide, fun p st4 hp hst4 => ?_⟩
    obtain ⟨p0, p1⟩ := hp
    walk_at "go"
    · refine SZ_of ?_; first | omega | (rw [List.length_map]; omega)
    · exact hk _ _ ⟨gs ++ [p], st4, by rw [show dints (gs ++ [p]) = dints gs ++ [D.int p] from List.map_append ..], by rw [List.length_append, hgl]; rfl, fun x hx => by
        rcases List.mem_append.mp hx with q | q
        · exact hg x q
        · rw [List.mem_singleton.mp q]; omega, hst4, rfl⟩
  obtain ⟨gs, st3, rfl, hgl, hg, hst3, rfl⟩ := he
  have b1 : Bd (10 ^ 30) fs := Bd_le (by decide) hf
  have b2 : Bd (10 ^ 30) gs := Bd_le (by decide) hg
  walk_at "go"
  refine ⟨.lst false (dints fs), dints (fs), rfl, by first | exact .inl rfl | exact .inr rfl, noOwnL_ints, by rw [List.length_map]; omega, fun y hy => by obtain ⟨i, _, rfl⟩ := List.mem_map.mp hy; rfl, .inr ⟨by rw [List.length_map]; omega, .inr ⟨fs, rfl, fun x q => (hf x q).1, ?_⟩⟩⟩
  walk_at "go"
  refine ⟨.tup (dints gs), dints (gs), rfl, by first | exact .inl rfl | exact .inr rfl, noOwnL_ints, by rw [List.length_map]; omega, fun y hy => by obtain ⟨i, _, rfl⟩ := List.mem_map.mp hy; rfl, .inr ⟨by rw [List.length_map]; omega, .inr ⟨gs, rfl, fun x q => (hg x q).1, ?_⟩⟩⟩
  walk_at "go"
  refine ⟨fs, gs, rfl, by omega, by omega, by omega, by omega, b1, b2, ?_⟩
  have hd : Tame 10000 (.tup [.str (Str.ofString "TooMany"), .str (Str.ofString "points"), .int 24]) := ⟨rfl, rfl, by first | rfl | decide +kernel, by decide⟩
  have b30 : (10 : Int) ≤ 2 ^ 1000 := by decide
  have e1 : dints gs ++ [D.int 1] = dints (gs ++ [1]) := by rw [show dints (gs ++ [1]) = dints gs ++ dints [1] from List.map_append ..]; rfl
  have e2 : D.int 0 :: dints gs = dints (0 :: gs) := rfl
  have hl1 : (gs ++ [1]).length = gs.length + 1 := List.length_append ..
  have hl2 : (0 :: gs).length = gs.length + 1 := rfl
  have hg1 : ∀ x ∈ gs ++ [1], 0 ≤ x ∧ x < 10 := fun x hx => by
    rcases List.mem_append.mp hx with q | q
    · exact hg x q
    · rw [List.mem_singleton.mp q]; decide
  have hg2 : ∀ x ∈ 0 :: gs, 0 ≤ x ∧ x < 10 := fun x hx => by
    rcases List.mem_cons.mp hx with q | q
    · rw [q]; decide
    · exact hg x q
  walk_at "go"
  all_goals first | (refine SZ_of ?_; omega) | skip
  rw [e1, frzL_ints]
  refine ⟨.lst false (dints (gs ++ [1])), dints (gs ++ [1]), rfl, by first | exact .inl rfl | exact .inr rfl, noOwnL_ints, by rw [List.length_map]; omega, fun y hy => by obtain ⟨i, _, rfl⟩ := List.mem_map.mp hy; rfl, .inr ⟨by rw [List.length_map]; omega, .inr ⟨gs ++ [1], rfl, fun x q => (hg1 x q).1, ?_⟩⟩⟩
  walk_at "go"
  refine ⟨2, TL false fs, TL false (gs ++ [1]), _, rfl, TL_own, TL_own, hd, .inr (.inr (.inl ⟨rfl, rfl, fs, gs ++ [1], rfl, rfl, by omega, by omega, by omega, by omega, Bd_le b30 hf, Bd_le b30 hg1, by omega⟩)), ?_⟩
  walk_at "go"
  all_goals first | (refine SZ_of ?_; omega) | skip
  refine ⟨.lst false (dints (0 :: gs)), dints (0 :: gs), rfl, by first | exact .inl rfl | exact .inr rfl, noOwnL_ints, by rw [List.length_map]; omega, fun y hy => by obtain ⟨i, _, rfl⟩ := List.mem_map.mp hy; rfl, .inr ⟨by rw [List.length_map]; omega, .inr ⟨0 :: gs, rfl, fun x q => (hg2 x q).1, ?_⟩⟩⟩
  walk_at "go"
  refine ⟨2, TL false (0 :: gs), TL false fs, _, rfl, TL_own, TL_own, hd, .inr (.inr (.inl ⟨rfl, rfl, 0 :: gs, fs, rfl, rfl, by omega, by omega, by omega, by omega, Bd_le b30 hg2, Bd_le b30 hf, by omega⟩)), ?_⟩
  walk_at "go"
  try exact h _ hst3


abbrev N_law : List Str := ["script", "store", "first", "second", "third", "one", "two", "three", "bad", "value"]
def w_law (EW : EWt) : WS :=
  (wSeq (wSet 1 (wCall [false] sp__law_store [] EW (wCons (wVar 0) wNil))) <|
  (wSeq (wSet 2 (wCall [true] sp__law_counts [] EW (wCons (wVar 1) wNil))) <|
  (wSeq (wSet 3 (wCall [true, false] sp__law_beside [] EW (wCons (wVar 1) (wCons (wVar 2) wNil)))) <|
  (wSeq (wSet 4 (wCall [true] sp__law_counts [] EW (wCons (wVar 1) wNil))) <|
  (wSeq (wSet 5 (wCall [true, false] sp__law_made_of [] EW (wCons (wVar 1) (wCons (wVar 2) wNil)))) <|
  (wSeq (wSet 6 (wCall [true, false] sp__law_made_of [] EW (wCons (wVar 1) (wCons (wVar 3) wNil)))) <|
  (wSeq (wSet 7 (wCall [true, false] sp__law_made_of [] EW (wCons (wVar 1) (wCons (wVar 4) wNil)))) <|
  (wSeq (wIf (wOr (wNot (wTest (wCall [false, false] sp__law_tells [] EW (wCons (wVar 5) (wCons (wVar 2) wNil))))) (wNot (wTest (wCall [false, false] sp__law_tells [] EW (wCons (wVar 6) (wCons (wVar 3) wNil))))))
  (wRet (wTmp (.bl false)))
  wNext) <|
  (wSeq (wIf (wOr (wNot (wTest (wCall [false, false, false, false] sp__law_pair_right [] EW (wCons (wVar 5) (wCons (wVar 6) (wCons (wVar 2) (wCons (wVar 3) wNil))))))) (wNot (wTest (wCall [false, false, false, false] sp__law_pair_right [] EW (wCons (wVar 5) (wCons (wVar 5) (wCons (wVar 2) (wCons (wVar 2) wNil))))))))
  (wRet (wTmp (.bl false)))
  wNext) <|
  (wSeq (wIf (wOr (wNot (wTest (wCall [false, false, false, false] sp__law_pair_right [] EW (wCons (wVar 6) (wCons (wVar 7) (wCons (wVar 3) (wCons (wVar 4) wNil))))))) (wNot (wTest (wCall [false, false, false, false] sp__law_equal_right [] EW (wCons (wVar 5) (wCons (wVar 6) (wCons (wVar 2) (wCons (wVar 3) wNil))))))))
  (wRet (wTmp (.bl false)))
  wNext) <|
  (wSeq (wIf (wNot (wTest (wCall [false, false, false, false, false, false] sp__law_three_right [] EW (wCons (wVar 5) (wCons (wVar 6) (wCons (wVar 7) (wCons (wVar 2) (wCons (wVar 3) (wCons (wVar 4) wNil)))))))))
  (wRet (wTmp (.bl false)))
  wNext) <|
  (wSeq (wSet 8 (wFz (wCall [true, false] sp__law_bad_counts [] EW (wCons (wVar 1) (wCons (wVar 2) wNil))))) <|
  (wSeq (wSet 9 (wCall [true, false] sp__law_pick [] EW (wCons (wVar 1) (wCons (wLst (wCons (wUn (kd1 negK) (wTmp (.int 1))) (wCons (wTmp (.int 25)) (wCons (wTmp (.int 25)) (wCons (wTmp (.bl true)) (wCons (wTmp (.bl false)) (wCons (wTmp .non) (wCons (wTmp (.str "1")) (wCons (wTup (wCons (wTmp (.int 1)) wNil)) (wCons (wLst (wCons (wTmp (.int 0)) wNil)) (wCons (wBin (kd2 powK) (wTmp (.int 10)) (wTmp (.int 29))) (wCons (wUn (kd1 negK) (wTmp (.int 25))) wNil)))))))))))) wNil)))) <|
  (wSeq (wIf (wOr (wNot (wTest (wCall [false, false, false, false] sp__law_refuses [] EW (wCons (wTmp (.int 0)) (wCons (wTmp .non) (wCons (wBin (kd2 ixK) (wVar 8) (wTmp (.int 0))) (wCons (wBin (kd2 ixK) (wVar 8) (wTmp (.int 1))) wNil))))))) (wNot (wTest (wCall [false, false, false, false] sp__law_refuses [] EW (wCons (wTmp (.int 1)) (wCons (wVar 5) (wCons (wVar 9) (wCons (wTup (wCons (wTmp (.str "BadNumber")) (wCons (wVar 9) (wCons (wTmp (.int 0)) (wCons (wTmp (.int 24)) wNil))))) wNil))))))))
  (wRet (wTmp (.bl false)))
  wNext) <|
  (wSeq (wIf (wOr (wNot (wTest (wCall [true] sp__law_limit_right [] EW (wCons (wVar 1) wNil)))) (wNot (wTest (wCall [true] sp__law_moves_right [] EW (wCons (wVar 1) wNil)))))
  (wRet (wTmp (.bl false)))
  wNext) <|
  (wRet (wAndV (wCall [false, false] sp__law_tells [] EW (wCons (wVar 5) (wCons (wVar 2) wNil))) (wAndV (wCall [false, false] sp__law_tells [] EW (wCons (wVar 6) (wCons (wVar 3) wNil))) (wCall [false, false] sp__law_tells [] EW (wCons (wVar 7) (wCons (wVar 4) wNil)))))))))))))))))))))
def sp_law : SpD := fun ds Q E => ∃ ns : List Int, ds = [.scr ns] ∧ ns.length ≤ 63 ∧ Q (.bl true) []
theorem len_law : ∀ ds Q E, sp_law ds Q E → ds.length = 1 := fun ds Q E h => by
  unfold sp_law at h
  obtain ⟨_, h, _⟩ := h
  rw [h]; rfl
theorem pf_law : ∀ ds Q E, sp_law ds Q E → w_law (fun c fs env => E c fs (outs [false] env)) (dEnd [false] Q) (startE N_law ds) := by
  rintro _ Q E ⟨ns, rfl, hn, h⟩
  walk_at "st"
  unfold w_law
  walk_at "go"
  refine ⟨ns, rfl, fun st hst => ?_⟩
  walk_at "go"
  refine ⟨st, rfl, hst, fun xs x1 x2 hx st hst => ?_⟩
  walk_at "go"
  refine ⟨st, xs, rfl, hst, x1, x2, hx, fun ys y1 y2 hy st hst => ?_⟩
  walk_at "go"
  refine ⟨st, rfl, hst, fun zs z1 z2 hz st hst => ?_⟩
  walk_at "go"
  refine ⟨st, xs, rfl, hst, x1, x2, fun x q => (hx x q).1, fun st hst => ?_⟩
  walk_at "go"
  refine ⟨st, ys, rfl, hst, y1, y2, fun x q => (hy x q).1, fun st hst => ?_⟩
  walk_at "go"
  refine ⟨st, zs, rfl, hst, z1, z2, fun x q => (hz x q).1, fun st hst => ?_⟩
  walk_at "go"
  refine ⟨xs, rfl, x1, x2, ?_⟩
  walk_at "go"
  refine ⟨ys, rfl, y1, y2, ?_⟩
  walk_at "go"
  refine ⟨xs, ys, rfl, x1, y1, x2, y2, hx, hy, ?_⟩
  walk_at "go"
  refine ⟨xs, xs, rfl, x1, x1, x2, x2, hx, hx, ?_⟩
  walk_at "go"
  refine ⟨ys, zs, rfl, y1, z1, y2, z2, hy, hz, ?_⟩
  walk_at "go"
  refine ⟨xs, ys, rfl, x1, y1, x2, y2, hx, hy, ?_⟩
  walk_at "go"
  refine ⟨xs, ys, zs, rfl, x1, y1, z1, x2, y2, z2, hx, hy, hz, ?_⟩
  walk_at "go"
  refine ⟨st, xs, rfl, hst, x1, x2, hx, fun bs due hB st1 hst1 => ?_⟩
  have hdt : Tame 10000 due := by
    obtain ⟨_, _, _, hB⟩ := hB
    rcases hB with ⟨_, rfl⟩ | ⟨_, _, i, rfl, _⟩
    · exact ⟨rfl, rfl, by show (_ && (true && (true && (true && true)))) = true; first | rfl | decide +kernel, by show 1 + (1 + (1 + (1 + (1 + 0)))) ≤ 10000; decide⟩
    · exact ⟨rfl, rfl, by show (_ && (true && true)) = true; first | rfl | decide +kernel, by show 1 + (1 + (1 + 0)) ≤ 10000; decide⟩
  have hdn := hdt.1
  have hbn := hB.1
  refine ⟨?_, ?_⟩
  all_goals
    walk_at "go"
    rw [hst1.fz, Bool.and_false]
    walk_at "go"
    · exact ⟨by decide, by decide, by decide⟩
    have f1 : frz (.lst true [.tup bs, due]) = .lst false [.tup bs, due] := by
      show D.lst false [.tup (frzL bs), frz due] = _
      rw [frzL_of hbn, frz_of hdn]
    have f2 : frz (.lst true [.lst true bs, due]) = .lst false [.lst false bs, due] := by
      show D.lst false [.lst false (frzL bs), frz due] = _
      rw [frzL_of hbn, frz_of hdn]
    first | rw [f1] | rw [f2]
    clear f1 f2
    refine ⟨st1, _, _, rfl, hst1, .inl ⟨_, rfl⟩, by first | rfl | decide, fun e => (by cases e), by show 11 ≤ 100000; decide, fun v hv st2 hst2 => ?_⟩
    have hvo : inR 0 24 v = false ∧ ShOk v ∧ Tame 100 v := by
      simp only [List.mem_cons, List.not_mem_nil, or_false] at hv
      rcases hv with rfl | rfl | rfl | rfl | rfl | rfl | rfl | rfl | rfl | rfl | rfl
      all_goals refine ⟨by first | rfl | decide, ?_, by first | rfl | decide, by first | rfl | decide, by first | rfl | decide +kernel, by first | decide | (show 1 ≤ 100; decide)⟩
      all_goals first
        | exact ShOk_int (by decide)
        | exact .inr (.inl ⟨_, rfl⟩)
        | exact .inr (.inr ⟨⟨_, rfl, by decide, by decide⟩, by first | rfl | decide⟩)
    clear hv
    obtain ⟨hv1, hv2, hv3⟩ := hvo
    have hvn := hv3.1
    have hd2 : Tame 10000 (.tup [.str (Str.ofString "BadNumber"), v, .int 0, .int 24]) := by
      obtain ⟨v1, v2, v3, v4⟩ := hv3
      refine ⟨?_, rfl, ?_, ?_⟩
      · show (true && (noOwn v && true)) = true
        rw [v1]; rfl
      · show (_ && (Pl v && true)) = true
        rw [v3]; first | rfl | decide +kernel
      · show 1 + (1 + (sz v + (1 + (1 + 0)))) ≤ 10000
        omega
    walk_at "go"
    rw [hst2.fz, Bool.and_false]
    walk_at "go"
    refine ⟨0, .non, _, due, rfl, rfl, hbn, hdt, .inl ⟨rfl, rfl, bs, by first | exact .inl rfl | exact .inr rfl, hB⟩, ?_⟩
    walk_at "go"
    refine ⟨1, TL false xs, v, _, rfl, TL_own, hvn, hd2, .inr (.inl ⟨rfl, ⟨xs, rfl⟩, hv1, hv2, hv3, rfl⟩), ?_⟩
    walk_at "go"
    refine ⟨st2, rfl, hst2, fun st3 hst3 => ?_⟩
    walk_at "go"
    refine ⟨st3, rfl, hst3, fun st4 hst4 => ?_⟩
    walk_at "go"
    refine ⟨xs, rfl, x1, x2, ?_⟩
    walk_at "go"
    refine ⟨ys, rfl, y1, y2, ?_⟩
    walk_at "go"
    refine ⟨zs, rfl, z1, z2, ?_⟩
    walk_at "go"
    all_goals trace_state
    all_goals try exact h


end T

namespace T
open PySem PySem.Spec PyProof.Rows L2 L2H NdefX Vd
structure Wd (P : Program) (K : PySem.W.Frag) (mg : Str → Option Value) : Prop where
  b_int : mg "int" = none
  b_len : mg "len" = none
  b_range : mg "range" = none
  b_abs : mg "abs" = none
  b_list : mg "list" = none
  b_min : mg "min" = none
  b_tuple : mg "tuple" = none
  b_isinstance : mg "isinstance" = none
  b_str : mg "str" = none
  b_bool : mg "bool" = none
  b_enumerate : mg "enumerate" = none
  c_MOST_TALLIED : ∃ t, mg "MOST_TALLIED" = some (.int 24 t)
  b_sum : mg "sum" = none
  b_all : mg "all" = none
  b_max : mg "max" = none
  b_sorted : mg "sorted" = none
  c_MOST_POINTS : ∃ t, mg "MOST_POINTS" = some (.int 12 t)
  c_MOST_LIST : ∃ t, mg "MOST_LIST" = some (.int 400 t)
  b_ValueError : mg "ValueError" = none
  ti_Tally_list : PySem.W.kitOne K (.ref (He.ga K "Tally")) (.type "list") = some false
  m_BadEdit : mg "BadEdit" = some (.ref (He.ga K "BadEdit"))
  m_BadNumber : mg "BadNumber" = some (.ref (He.ga K "BadNumber"))
  m_BadText : mg "BadText" = some (.ref (He.ga K "BadText"))
  m_FullLot : mg "FullLot" = some (.ref (He.ga K "FullLot"))
  m_GameOver : mg "GameOver" = some (.ref (He.ga K "GameOver"))
  m_HeldorderError : mg "HeldorderError" = some (.ref (He.ga K "HeldorderError"))
  m_NoSuchLength : mg "NoSuchLength" = some (.ref (He.ga K "NoSuchLength"))
  m_NotABase : mg "NotABase" = some (.ref (He.ga K "NotABase"))
  m_NotAChain : mg "NotAChain" = some (.ref (He.ga K "NotAChain"))
  m_NotAColumn : mg "NotAColumn" = some (.ref (He.ga K "NotAColumn"))
  m_NotACount : mg "NotACount" = some (.ref (He.ga K "NotACount"))
  m_NotAFailing : mg "NotAFailing" = some (.ref (He.ga K "NotAFailing"))
  m_NotAMove : mg "NotAMove" = some (.ref (He.ga K "NotAMove"))
  m_NotAPaper : mg "NotAPaper" = some (.ref (He.ga K "NotAPaper"))
  m_NotAPoint : mg "NotAPoint" = some (.ref (He.ga K "NotAPoint"))
  m_NotAWord : mg "NotAWord" = some (.ref (He.ga K "NotAWord"))
  m_NotAllowed : mg "NotAllowed" = some (.ref (He.ga K "NotAllowed"))
  m_NotAnOrder : mg "NotAnOrder" = some (.ref (He.ga K "NotAnOrder"))
  m_NotFull : mg "NotFull" = some (.ref (He.ga K "NotFull"))
  m_NotInside : mg "NotInside" = some (.ref (He.ga K "NotInside"))
  m_NotMade : mg "NotMade" = some (.ref (He.ga K "NotMade"))
  m_NotNeighbours : mg "NotNeighbours" = some (.ref (He.ga K "NotNeighbours"))
  m_NotShorter : mg "NotShorter" = some (.ref (He.ga K "NotShorter"))
  m_NotTight : mg "NotTight" = some (.ref (He.ga K "NotTight"))
  m_NothingKept : mg "NothingKept" = some (.ref (He.ga K "NothingKept"))
  m_NothingToRedo : mg "NothingToRedo" = some (.ref (He.ga K "NothingToRedo"))
  m_NothingToUndo : mg "NothingToUndo" = some (.ref (He.ga K "NothingToUndo"))
  m_OrderMatters : mg "OrderMatters" = some (.ref (He.ga K "OrderMatters"))
  m_RepeatedPoint : mg "RepeatedPoint" = some (.ref (He.ga K "RepeatedPoint"))
  m_SameLength : mg "SameLength" = some (.ref (He.ga K "SameLength"))
  m_Tally : mg "Tally" = some (.ref (He.ga K "Tally"))
  m_TooMany : mg "TooMany" = some (.ref (He.ga K "TooMany"))
  m_UnknownName : mg "UnknownName" = some (.ref (He.ga K "UnknownName"))
  m_UnlikeSizes : mg "UnlikeSizes" = some (.ref (He.ga K "UnlikeSizes"))
  k_Tally : Cls K (He.ga K "Tally")
  t_Tally : ClsT K "Tally"
  f_Tally_entries : NoAttr K (He.ga K "Tally") "entries"
  nf_Tally : ∀ a ∈ ["NoneType", "bool", "int", "str", "tuple", "list"], PySem.W.notFirst K (He.ga K "Tally") (.type a) = true
  ob_Tally : PySem.W.subIn K (.ref (He.ga K "Tally")) (.type "object") = some true
  ne_Tally : PySem.W.findIn K (.ref (He.ga K "Tally")) "__ne__" = some (some (.builtin "object.__ne__"))
  d__law_store : DfAt K mg "_law_store" (top 50)
  d__law_mixed : DfAt K mg "_law_mixed" (top 51)
  d__law_take : DfAt K mg "_law_take" (top 52)
  d__law_place : DfAt K mg "_law_place" (top 54)
  d__law_pick : DfAt K mg "_law_pick" (top 53)
  d__law_whole : DfAt K mg "_law_whole" (top 57)
  d__law_counts : DfAt K mg "_law_counts" (top 61)
  d__law_beside : DfAt K mg "_law_beside" (top 70)
  d__law_either : DfAt K mg "_law_either" (top 56)
  d_shown : DfAt K mg "shown" (top 3)
  x_BadNumber : XAt P K mg "BadNumber" "BadNumber.__init__" (inTop 5 0) fl_BadNumber
  d_is_count : DfAt K mg "is_count" (top 43)
  x_NotACount : XAt P K mg "NotACount" "NotACount.__init__" (inTop 28 0) fl_NotACount
  d_Tally___init__ : IAt K mg "Tally" "Tally.__init__" (inTop 48 0)
  d__law_made_of : DfAt K mg "_law_made_of" (top 69)
  d_Tally_counts : PAt K "Tally" "counts" "Tally.counts" (inTop 48 1)
  d__law_is_whole : DfAt K mg "_law_is_whole" (top 58)
  d__law_same : DfAt K mg "_law_same" (top 59)
  d_Tally_total : PAt K "Tally" "total" "Tally.total" (inTop 48 3)
  d_Tally_points : PAt K "Tally" "points" "Tally.points" (inTop 48 2)
  d_check_number : DfAt K mg "check_number" (top 42)
  d_entry_at : DfAt K mg "entry_at" (top 46)
  d_Tally_at : MAt K "Tally" "at" "Tally.at" (inTop 48 4)
  d__law_tells : DfAt K mg "_law_tells" (top 66)
  d__law_packed : DfAt K mg "_law_packed" (top 64)
  d__law_unpacked : DfAt K mg "_law_unpacked" (top 65)
  d_Tally___add__ : OAt K "Tally" "__add__" "Tally.__add__" (inTop 48 6)
  x_TooMany : XAt P K mg "TooMany" "TooMany.__init__" (inTop 8 0) fl_TooMany
  d_product_counts : DfAt K mg "product_counts" (top 47)
  d_Tally___mul__ : OAt K "Tally" "__mul__" "Tally.__mul__" (inTop 48 5)
  d_is_whole : DfAt K mg "is_whole" (top 38)
  d_is_move : DfAt K mg "is_move" (top 39)
  x_NotAMove : XAt P K mg "NotAMove" "NotAMove.__init__" (inTop 7 0) fl_NotAMove
  d_held_number : DfAt K mg "held_number" (top 45)
  d_held_counts : DfAt K mg "held_counts" (top 44)
  d_Tally_of_moves : SAt K mg "Tally" "of_moves" "Tally.of_moves" (inTop 48 8)
  d__law_due_error : DfAt K mg "_law_due_error" (top 63)
  d__law_refuses : DfAt K mg "_law_refuses" (top 67)
  d_Tally___eq__ : OAt K "Tally" "__eq__" "Tally.__eq__" (inTop 48 7)
  d__law_pair_right : DfAt K mg "_law_pair_right" (top 71)
  d__law_equal_right : DfAt K mg "_law_equal_right" (top 73)
  d__law_three_right : DfAt K mg "_law_three_right" (top 72)
  d__law_bad_counts : DfAt K mg "_law_bad_counts" (top 62)
  d__law_drawn : DfAt K mg "_law_drawn" (top 55)
  d__law_move : DfAt K mg "_law_move" (top 60)
  d__law_wrong_moves : DfAt K mg "_law_wrong_moves" (top 68)
  d__law_moves_right : DfAt K mg "_law_moves_right" (top 75)
  d__law_limit_right : DfAt K mg "_law_limit_right" (top 74)
  d_law : DfAt K mg "law" (top 76)
  ex : ∀ c ∈ raised, ExcC K (He.ga K c)
  xf : ∀ c ∈ raised, XfC K (He.ga K c)
  nof : ∀ c ∈ raised, ∀ n ∈ (["high", "index", "limit", "low", "value", "what"] : List Str), PySem.W.findIn K (.ref (He.ga K c)) n = some none
  kit : ∀ c y k, y ∈ (["BadNumber", "HeldorderError", "NotACount", "NotAMove", "TooMany"] : List Str) → kt c y = some k → PySem.W.kitOne K (.ref (He.ga K c)) (.ref (He.ga K y)) = some k
  kitT : ∀ c (y : String) k, y ∈ (["ValueError"] : List String) → kt c (y : Str) = some k → PySem.W.kitOne K (.ref (He.ga K c)) (.type y) = some k
  kitL : ∀ c k, ktL c kl0 = some k → PySem.W.kitAny K (.ref (He.ga K c)) ((kl0.map (He.ga K)).map Value.ref) = some k
  exm : ∀ c b, exmB "HeldorderError" c = some b → PySem.W.exmOne K (.ref (He.ga K c)) (.ref (He.ga K "HeldorderError")) = some b
/-! _law_store fn -/
abbrev s__law_store : Stmt := (top 50)
abbrev P__law_store : List Str := ["script"]
theorem sc__law_store : FnScope N__law_store P__law_store (defScope s__law_store) := ⟨rfl, rfl, rfl, by decide +kernel, rfl, by decide +kernel, by decide +kernel⟩
theorem d__law_store {P : Program} {w : World} {K : PySem.W.Frag} {mg : Str → Option Value} {base : Heap} (W : Wd P K mg)
    (f : Addr) (cdv : Value) (A : Around) (outer : List Env) (s : Shared) (H : Hp) (E : XK) (G : Gh) (EW : EWt) (hr : Room 0 (A.deeper (envOfC "_law_store" (defScope s__law_store) s.heap.objs.size f cdv))) (hp : ∀ p ∈ G.pins, p.1 ∈ ixs [false] 0) (tk : Tk (cxOf (L2N.CX P w) P w K mg base N__law_store "_law_store" (defScope s__law_store) f cdv A outer s H E) G EW) :
    DSs (cxOf (L2N.CX P w) P w K mg base N__law_store "_law_store" (defScope s__law_store) f cdv A outer s H E) G (defBody s__law_store) (w__law_store EW) :=
  have sc := sc__law_store
  (dss_one (ds_ret (de_lst (da_cons (de_fz (de_lc rfl sc.nd (di_seq (de_sl01 (dv 0) de_int)) (own := [("cell", 1)]) (show BlkOk N__law_store (defScope s__law_store) _ _ from ⟨rfl, by decide +kernel, by decide +kernel, by decide +kernel, by decide +kernel⟩) (by decide) (by decide) tg_name (fun _ _ _ _ _ => (pg_name (i := 1) sc.nd (by rfl) (by first | exact .inl rfl | exact .inr rfl))) (fun _ _ _ _ _ _ => dts_nil) (fun _ _ _ _ _ _ => (de_callTy call_intD (by rfl) W.b_int (by rfl) (da_cons (dv 1) da_nil))))) (da_cons de_int (da_cons de_int (da_cons de_int (da_cons de_int (da_cons de_int (da_cons de_int da_nil))))))))))
theorem ok__law_store {P : Program} {w : World} {K : PySem.W.Frag} {mg : Str → Option Value} {base : Heap} (W : Wd P K mg) : DOk P w K mg base 1 "_law_store" 1 [false] sp__law_store [] :=
  dok_of (N := N__law_store) (ps := P__law_store) (k := 0) W.d__law_store sc__law_store rfl len__law_store (fun _ _ _ _ _ _ us hl => match us, hl with | [_], _ => rfl) (d__law_store W) pf__law_store

/-! _law_mixed fn -/
abbrev s__law_mixed : Stmt := (top 51)
abbrev P__law_mixed : List Str := ["seed", "turn"]
theorem sc__law_mixed : FnScope N__law_mixed P__law_mixed (defScope s__law_mixed) := ⟨rfl, rfl, rfl, by decide +kernel, rfl, by decide +kernel, by decide +kernel⟩
theorem d__law_mixed {P : Program} {w : World} {K : PySem.W.Frag} {mg : Str → Option Value} {base : Heap} (W : Wd P K mg)
    (f : Addr) (cdv : Value) (A : Around) (outer : List Env) (s : Shared) (H : Hp) (E : XK) (G : Gh) (EW : EWt) (hr : Room 0 (A.deeper (envOfC "_law_mixed" (defScope s__law_mixed) s.heap.objs.size f cdv))) (hp : ∀ p ∈ G.pins, p.1 ∈ ixs [false, false] 0) (tk : Tk (cxOf (L2N.CX P w) P w K mg base N__law_mixed "_law_mixed" (defScope s__law_mixed) f cdv A outer s H E) G EW) :
    DSs (cxOf (L2N.CX P w) P w K mg base N__law_mixed "_law_mixed" (defScope s__law_mixed) f cdv A outer s H E) G (defBody s__law_mixed) (w__law_mixed EW) :=
  have sc := sc__law_mixed
  (dss_cons (ds_set (i := 2) sc.nd (by rfl) (.inl rfl) (de_bin op_modD (de_callTy call_intD (by rfl) W.b_int (by rfl) (da_cons (de_bin op_addD (de_bin op_addD (de_bin op_mulD (dv 0) de_int) (de_bin op_mulD (dv 1) de_int)) de_int) da_nil)) de_int) (pins_ne hp (by decide))) <|
  (dss_cons (ds_set (i := 3) sc.nd (by rfl) (.inl rfl) (de_bin op_modD (de_callTy call_intD (by rfl) W.b_int (by rfl) (da_cons (de_bin op_addD (de_bin op_addD (de_bin op_mulD (dv 2) (dv 2)) (de_bin op_mulD (dv 0) de_int)) (dv 1)) da_nil)) de_int) (pins_ne hp (by decide))) <|
  (dss_one (ds_ret (de_bin op_modD (de_callTy call_intD (by rfl) W.b_int (by rfl) (da_cons (de_bin op_addD (de_bin op_mulD (dv 3) (dv 3)) (dv 2)) da_nil)) de_int)))))
theorem ok__law_mixed {P : Program} {w : World} {K : PySem.W.Frag} {mg : Str → Option Value} {base : Heap} (W : Wd P K mg) : DOk P w K mg base 1 "_law_mixed" 2 [false, false] sp__law_mixed [] :=
  dok_of (N := N__law_mixed) (ps := P__law_mixed) (k := 0) W.d__law_mixed sc__law_mixed rfl len__law_mixed (fun _ _ _ _ _ _ us hl => match us, hl with | [_, _], _ => rfl) (d__law_mixed W) pf__law_mixed

/-! _law_take fn -/
abbrev s__law_take : Stmt := (top 52)
abbrev P__law_take : List Str := ["store", "many"]
theorem sc__law_take : FnScope N__law_take P__law_take (defScope s__law_take) := ⟨rfl, rfl, rfl, by decide +kernel, rfl, by decide +kernel, by decide +kernel⟩
theorem d__law_take {P : Program} {w : World} {K : PySem.W.Frag} {mg : Str → Option Value} {base : Heap} (W : Wd P K mg)
    (f : Addr) (cdv : Value) (A : Around) (outer : List Env) (s : Shared) (H : Hp) (E : XK) (G : Gh) (EW : EWt) (hr : Room 1 (A.deeper (envOfC "_law_take" (defScope s__law_take) s.heap.objs.size f cdv))) (hp : ∀ p ∈ G.pins, p.1 ∈ ixs [true, false] 0) (tk : Tk (cxOf (L2N.CX P w) P w K mg base N__law_take "_law_take" (defScope s__law_take) f cdv A outer s H E) G EW) :
    DSs (cxOf (L2N.CX P w) P w K mg base N__law_take "_law_take" (defScope s__law_take) f cdv A outer s H E) G (defBody s__law_take) (w__law_take EW) :=
  have sc := sc__law_take
  (dss_cons (ds_if (dt_cmp op_ltD (dv 1) de_int (by rfl))
  (dss_one (ds_ret de_int))
  dss_nil) <|
  (dss_cons (ds_if (DW.dt (dw_and (dt_cmp op_ltD (de_ix ixD (dv 0) de_int (by intro _ _; rfl)) de_int (by rfl)) (dw_and (dt_cmp (op_eqDD hr.units) (de_ix ixD (dv 0) de_int (by intro _ _; rfl)) de_int (by rfl)) (dw_and1 (dt_cmp op_ltD (de_ix ixD (dv 0) de_int (by intro _ _; rfl)) (de_callB call_lenD (by rfl) W.b_len (by rfl) (da_cons (de_ix ixD (dv 0) de_int (by intro _ _; rfl)) da_nil)) (by rfl))))))
  (dss_cons (ds_set (i := 2) sc.nd (by rfl) (.inl rfl) (de_ix ixD (de_ix ixD (dv 0) de_int (by intro _ _; rfl)) (de_ix ixD (dv 0) de_int (by intro _ _; rfl)) (by intro _ _; rfl)) (pins_ne hp (by decide))) <|
  (dss_cons (ds_putL (m := false) (i := 0) (by rfl) (.inl rfl) (de_bin op_addD (de_ix ixD (dv 0) de_int (by intro _ _; rfl)) de_int) de_int) <|
  (dss_cons (ds_putL (m := false) (i := 0) (by rfl) (.inl rfl) (de_bin op_modD (de_callTy call_intD (by rfl) W.b_int (by rfl) (da_cons (de_bin op_addD (de_bin op_addD (de_bin op_mulD (de_ix ixD (dv 0) de_int (by intro _ _; rfl)) de_int) (de_bin op_modD (de_callTy call_intD (by rfl) W.b_int (by rfl) (da_cons (dv 2) da_nil)) de_int)) de_int) da_nil)) de_int) de_int) <|
  (dss_one (ds_if (dt_cmp op_geD (dv 2) (de_bin op_powD de_int de_int) (by rfl))
  (dss_one (ds_putL (m := false) (i := 0) (by rfl) (.inl rfl) (dv 2) de_int))
  (dss_cons (ds_putL (m := false) (i := 0) (by rfl) (.inl rfl) de_int de_int) <|
  (dss_one (ds_putL (m := false) (i := 0) (by rfl) (.inl rfl) (de_bin op_modD (de_callTy call_intD (by rfl) W.b_int (by rfl) (da_cons (dv 2) da_nil)) de_int) de_int))))))))
  dss_nil) <|
  (dss_cons (ds_if (dt_cmp op_geD (de_ix ixD (dv 0) de_int (by intro _ _; rfl)) de_int (by rfl))
  (dss_cons (ds_set (i := 3) sc.nd (by rfl) (.inl rfl) (de_bin op_modD (de_callTy call_intD (by rfl) W.b_int (by rfl) (da_cons (de_ix ixD (dv 0) de_int (by intro _ _; rfl)) da_nil)) (dv 1)) (pins_ne hp (by decide))) <|
  (dss_cons (ds_putL (m := false) (i := 0) (by rfl) (.inl rfl) (de_bin op_fdivD (de_ix ixD (dv 0) de_int (by intro _ _; rfl)) (dv 1)) de_int) <|
  (dss_one (ds_ret (dv 3)))))
  dss_nil) <|
  (dss_cons (ds_putL (m := false) (i := 0) (by rfl) (.inl rfl) (de_bin op_addD (de_ix ixD (dv 0) de_int (by intro _ _; rfl)) de_int) de_int) <|
  (dss_cons (ds_if (dt_cmp op_gtD (de_ix ixD (dv 0) de_int (by intro _ _; rfl)) de_int (by rfl))
  (dss_cons (ds_putL (m := false) (i := 0) (by rfl) (.inl rfl) (de_bin op_subD (de_ix ixD (dv 0) de_int (by intro _ _; rfl)) de_int) de_int) <|
  (dss_one (ds_ret (de_bin op_modD (de_callTy call_intD (by rfl) W.b_int (by rfl) (da_cons (de_fn (ok__law_mixed W) (hr.mono (by decide)) (by rfl) tk (da_cons (de_ix ixD (dv 0) de_int (by intro _ _; rfl)) (da_cons (de_ix ixD (dv 0) de_int (by intro _ _; rfl)) da_nil))) da_nil)) (dv 1)))))
  dss_nil) <|
  (dss_one (ds_ret (de_bin op_modD (de_callTy call_intD (by rfl) W.b_int (by rfl) (da_cons (de_fn (ok__law_mixed W) (hr.mono (by decide)) (by rfl) tk (da_cons (de_ix ixD (dv 0) de_int (by intro _ _; rfl)) (da_cons (de_ix ixD (dv 0) de_int (by intro _ _; rfl)) da_nil))) da_nil)) (dv 1)))))))))
theorem ok__law_take {P : Program} {w : World} {K : PySem.W.Frag} {mg : Str → Option Value} {base : Heap} (W : Wd P K mg) : DOk P w K mg base 2 "_law_take" 2 [true, false] sp__law_take [] :=
  dok_of (N := N__law_take) (ps := P__law_take) (k := 1) W.d__law_take sc__law_take rfl len__law_take (fun _ _ _ _ _ _ us hl => match us, hl with | [_, _], _ => rfl) (d__law_take W) pf__law_take

/-! _law_place fn -/
abbrev s__law_place : Stmt := (top 54)
abbrev P__law_place : List Str := ["store", "size"]
theorem sc__law_place : FnScope N__law_place P__law_place (defScope s__law_place) := ⟨rfl, rfl, rfl, by decide +kernel, rfl, by decide +kernel, by decide +kernel⟩
theorem d__law_place {P : Program} {w : World} {K : PySem.W.Frag} {mg : Str → Option Value} {base : Heap} (W : Wd P K mg)
    (f : Addr) (cdv : Value) (A : Around) (outer : List Env) (s : Shared) (H : Hp) (E : XK) (G : Gh) (EW : EWt) (hr : Room 2 (A.deeper (envOfC "_law_place" (defScope s__law_place) s.heap.objs.size f cdv))) (hp : ∀ p ∈ G.pins, p.1 ∈ ixs [true, false] 0) (tk : Tk (cxOf (L2N.CX P w) P w K mg base N__law_place "_law_place" (defScope s__law_place) f cdv A outer s H E) G EW) :
    DSs (cxOf (L2N.CX P w) P w K mg base N__law_place "_law_place" (defScope s__law_place) f cdv A outer s H E) G (defBody s__law_place) (w__law_place EW) :=
  have sc := sc__law_place
  (dss_cons (ds_set (i := 2) sc.nd (by rfl) (.inl rfl) (de_fn (ok__law_take W) (hr.mono (by decide)) (by rfl) tk (da_cons (dv 0) (da_cons de_int da_nil))) (pins_ne hp (by decide))) <|
  (dss_cons (ds_if (dt_cmp (op_eqDD hr.units) (dv 2) de_int (by rfl))
  (dss_one (ds_ret de_int))
  dss_nil) <|
  (dss_cons (ds_if (dt_cmp (op_eqDD hr.units) (dv 2) de_int (by rfl))
  (dss_one (ds_ret (de_bin op_subD (dv 1) de_int)))
  dss_nil) <|
  (dss_one (ds_ret (de_fn (ok__law_take W) (hr.mono (by decide)) (by rfl) tk (da_cons (dv 0) (da_cons (dv 1) da_nil))))))))
theorem ok__law_place {P : Program} {w : World} {K : PySem.W.Frag} {mg : Str → Option Value} {base : Heap} (W : Wd P K mg) : DOk P w K mg base 3 "_law_place" 2 [true, false] sp__law_place [] :=
  dok_of (N := N__law_place) (ps := P__law_place) (k := 2) W.d__law_place sc__law_place rfl len__law_place (fun _ _ _ _ _ _ us hl => match us, hl with | [_, _], _ => rfl) (d__law_place W) pf__law_place

/-! _law_pick fn -/
abbrev s__law_pick : Stmt := (top 53)
abbrev P__law_pick : List Str := ["store", "things"]
theorem sc__law_pick : FnScope N__law_pick P__law_pick (defScope s__law_pick) := ⟨rfl, rfl, rfl, by decide +kernel, rfl, by decide +kernel, by decide +kernel⟩
theorem d__law_pick {P : Program} {w : World} {K : PySem.W.Frag} {mg : Str → Option Value} {base : Heap} (W : Wd P K mg)
    (f : Addr) (cdv : Value) (A : Around) (outer : List Env) (s : Shared) (H : Hp) (E : XK) (G : Gh) (EW : EWt) (hr : Room 2 (A.deeper (envOfC "_law_pick" (defScope s__law_pick) s.heap.objs.size f cdv))) (hp : ∀ p ∈ G.pins, p.1 ∈ ixs [true, false] 0) (tk : Tk (cxOf (L2N.CX P w) P w K mg base N__law_pick "_law_pick" (defScope s__law_pick) f cdv A outer s H E) G EW) :
    DSs (cxOf (L2N.CX P w) P w K mg base N__law_pick "_law_pick" (defScope s__law_pick) f cdv A outer s H E) G (defBody s__law_pick) (w__law_pick EW) :=
  have sc := sc__law_pick
  (dss_one (ds_ret (de_ix ixD (dv 1) (de_fn (ok__law_take W) (hr.mono (by decide)) (by rfl) tk (da_cons (dv 0) (da_cons (de_callB call_lenD (by rfl) W.b_len (by rfl) (da_cons (dv 1) da_nil)) da_nil))) (by intro _ _; rfl))))
theorem ok__law_pick {P : Program} {w : World} {K : PySem.W.Frag} {mg : Str → Option Value} {base : Heap} (W : Wd P K mg) : DOk P w K mg base 3 "_law_pick" 2 [true, false] sp__law_pick [] :=
  dok_of (N := N__law_pick) (ps := P__law_pick) (k := 2) W.d__law_pick sc__law_pick rfl len__law_pick (fun _ _ _ _ _ _ us hl => match us, hl with | [_, _], _ => rfl) (d__law_pick W) pf__law_pick

/-! _law_whole fn -/
abbrev s__law_whole : Stmt := (top 57)
abbrev P__law_whole : List Str := ["store"]
theorem sc__law_whole : FnScope N__law_whole P__law_whole (defScope s__law_whole) := ⟨rfl, rfl, rfl, by decide +kernel, rfl, by decide +kernel, by decide +kernel⟩
theorem d__law_whole {P : Program} {w : World} {K : PySem.W.Frag} {mg : Str → Option Value} {base : Heap} (W : Wd P K mg)
    (f : Addr) (cdv : Value) (A : Around) (outer : List Env) (s : Shared) (H : Hp) (E : XK) (G : Gh) (EW : EWt) (hr : Room 3 (A.deeper (envOfC "_law_whole" (defScope s__law_whole) s.heap.objs.size f cdv))) (hp : ∀ p ∈ G.pins, p.1 ∈ ixs [true] 0) (tk : Tk (cxOf (L2N.CX P w) P w K mg base N__law_whole "_law_whole" (defScope s__law_whole) f cdv A outer s H E) G EW) :
    DSs (cxOf (L2N.CX P w) P w K mg base N__law_whole "_law_whole" (defScope s__law_whole) f cdv A outer s H E) G (defBody s__law_whole) (w__law_whole EW) :=
  have sc := sc__law_whole
  (dss_cons (ds_set (i := 1) sc.nd (by rfl) (.inl rfl) (de_fn (ok__law_take W) (hr.mono (by decide)) (by rfl) tk (da_cons (dv 0) (da_cons de_int da_nil))) (pins_ne hp (by decide))) <|
  (dss_cons (ds_if (dt_cmp op_ltD (dv 1) de_int (by rfl))
  (dss_one (ds_ret (de_bin op_subD (de_fn (ok__law_take W) (hr.mono (by decide)) (by rfl) tk (da_cons (dv 0) (da_cons de_int da_nil))) de_int)))
  dss_nil) <|
  (dss_cons (ds_if (dt_cmp (op_eqDD hr.units) (dv 1) de_int (by rfl))
  (dss_cons (ds_set (i := 2) sc.nd (by rfl) (.inl rfl) (de_lst (da_cons (de_un un_negD de_int) (da_cons de_int (da_cons de_int (da_cons de_int (da_cons de_int (da_cons de_int (da_cons de_int (da_cons de_int (da_cons de_int (da_cons de_int (da_cons de_int (da_cons de_int (da_cons de_int (da_cons de_int (da_cons de_int (da_cons de_int (da_cons de_int (da_cons de_int (da_cons de_int (da_cons de_int da_nil))))))))))))))))))))) (pins_ne hp (by decide))) <|
  (dss_cons (ds_set (i := 2) sc.nd (by rfl) (.inl rfl) (de_bin op_addD (dv 2) (de_lst (da_cons (de_un un_negD de_int) (da_cons (de_un un_negD de_int) (da_cons de_int (da_cons de_int (da_cons de_int (da_cons de_int da_nil)))))))) (pins_ne hp (by decide))) <|
  (dss_one (ds_ret (de_fn (ok__law_pick W) (hr.mono (by decide)) (by rfl) tk (da_cons (dv 0) (da_cons (dv 2) da_nil)))))))
  dss_nil) <|
  (dss_cons (ds_if (dt_cmp (op_eqDD hr.units) (dv 1) de_int (by rfl))
  (dss_one (ds_ret (de_bin op_subD (de_fn (ok__law_take W) (hr.mono (by decide)) (by rfl) tk (da_cons (dv 0) (da_cons de_int da_nil))) de_int)))
  dss_nil) <|
  (dss_cons (ds_set (i := 3) sc.nd (by rfl) (.inl rfl) de_int (pins_ne hp (by decide))) <|
  (dss_cons (ds_for (passes_of rfl) rfl (di_rg1 (by rfl) W.b_range de_int) (dg_of tg_name (pg_name (i := 4) sc.nd (by rfl) (.inl rfl))) (fun G1 s1 => have hp := sub_pins s1 hp; have tk := Tk.sub tk s1;
  (dss_one (ds_set (i := 3) sc.nd (by rfl) (.inl rfl) (de_bin op_addD (de_bin op_mulD (dv 3) de_int) (de_fn (ok__law_take W) (hr.mono (by decide)) (by rfl) tk (da_cons (dv 0) (da_cons de_int da_nil)))) (pins_ne hp (by decide))))) (pins_out hp (by decide))) <|
  (dss_cons (ds_if (dt_cmp (op_eqDD hr.units) (dv 1) de_int (by rfl))
  (dss_one (ds_ret (de_un un_negD (dv 3))))
  dss_nil) <|
  (dss_one (ds_ret (dv 3))))))))))
theorem ok__law_whole {P : Program} {w : World} {K : PySem.W.Frag} {mg : Str → Option Value} {base : Heap} (W : Wd P K mg) : DOk P w K mg base 4 "_law_whole" 1 [true] sp__law_whole [] :=
  dok_of (N := N__law_whole) (ps := P__law_whole) (k := 3) W.d__law_whole sc__law_whole rfl len__law_whole (fun _ _ _ _ _ _ us hl => match us, hl with | [_], _ => rfl) (d__law_whole W) pf__law_whole

/-! _law_counts fn -/
abbrev s__law_counts : Stmt := (top 61)
abbrev P__law_counts : List Str := ["store"]
theorem sc__law_counts : FnScope N__law_counts P__law_counts (defScope s__law_counts) := ⟨rfl, rfl, rfl, by decide +kernel, rfl, by decide +kernel, by decide +kernel⟩
theorem d__law_counts {P : Program} {w : World} {K : PySem.W.Frag} {mg : Str → Option Value} {base : Heap} (W : Wd P K mg)
    (f : Addr) (cdv : Value) (A : Around) (outer : List Env) (s : Shared) (H : Hp) (E : XK) (G : Gh) (EW : EWt) (hr : Room 4 (A.deeper (envOfC "_law_counts" (defScope s__law_counts) s.heap.objs.size f cdv))) (hp : ∀ p ∈ G.pins, p.1 ∈ ixs [true] 0) (tk : Tk (cxOf (L2N.CX P w) P w K mg base N__law_counts "_law_counts" (defScope s__law_counts) f cdv A outer s H E) G EW) :
    DSs (cxOf (L2N.CX P w) P w K mg base N__law_counts "_law_counts" (defScope s__law_counts) f cdv A outer s H E) G (defBody s__law_counts) (w__law_counts EW) :=
  have sc := sc__law_counts
  (dss_cons (ds_set (i := 1) sc.nd (by rfl) (.inl rfl) (de_bin op_addD de_int (de_fn (ok__law_take W) (hr.mono (by decide)) (by rfl) tk (da_cons (dv 0) (da_cons de_int da_nil)))) (pins_ne hp (by decide))) <|
  (dss_cons (ds_if (dt_cmp (op_eqDD hr.units) (de_fn (ok__law_take W) (hr.mono (by decide)) (by rfl) tk (da_cons (dv 0) (da_cons de_int da_nil))) de_int (by rfl))
  (dss_one (ds_set (i := 1) sc.nd (by rfl) (.inl rfl) (de_bin op_addD de_int (de_fn (ok__law_place W) (hr.mono (by decide)) (by rfl) tk (da_cons (dv 0) (da_cons de_int da_nil)))) (pins_ne hp (by decide))))
  dss_nil) <|
  (dss_cons (ds_set (i := 2) sc.nd (by rfl) (.inl rfl) (de_lst da_nil) (pins_ne hp (by decide))) <|
  (dss_cons (ds_for (passes_of rfl) rfl (di_rg1 (by rfl) W.b_range (dv 1)) (dg_of tg_name (pg_name (i := 3) sc.nd (by rfl) (.inl rfl))) (fun G1 s1 => have hp := sub_pins s1 hp; have tk := Tk.sub tk s1;
  (dss_cons (ds_set (i := 4) sc.nd (by rfl) (.inl rfl) (de_fn (ok__law_take W) (hr.mono (by decide)) (by rfl) tk (da_cons (dv 0) (da_cons de_int da_nil))) (pins_ne hp (by decide))) <|
  (dss_one (ds_if (dt_cmp (op_eqDD hr.units) (dv 4) de_int (by rfl))
  (dss_one (ds_expr (de_m1 (m := false) lm_append (by rfl) (.inl rfl) PySem.F.slot_list_append (de_callB call_absD (by rfl) W.b_abs (by rfl) (da_cons (de_fn (ok__law_whole W) (hr.mono (by decide)) (by rfl) tk (da_cons (dv 0) da_nil)) da_nil)) (hty := PySem.F.type_list_append))))
  (dss_one (ds_if (dt_cmp op_ltD (dv 4) de_int (by rfl))
  (dss_one (ds_expr (de_m1 (m := false) lm_append (by rfl) (.inl rfl) PySem.F.slot_list_append de_int (hty := PySem.F.type_list_append))))
  (dss_one (ds_expr (de_m1 (m := false) lm_append (by rfl) (.inl rfl) PySem.F.slot_list_append (de_fn (ok__law_take W) (hr.mono (by decide)) (by rfl) tk (da_cons (dv 0) (da_cons de_int da_nil))) (hty := PySem.F.type_list_append)))))))))) (pins_out hp (by decide))) <|
  (dss_one (ds_ret (dv 2)))))))
theorem ok__law_counts {P : Program} {w : World} {K : PySem.W.Frag} {mg : Str → Option Value} {base : Heap} (W : Wd P K mg) : DOk P w K mg base 5 "_law_counts" 1 [true] sp__law_counts [] :=
  dok_of (N := N__law_counts) (ps := P__law_counts) (k := 4) W.d__law_counts sc__law_counts rfl len__law_counts (fun _ _ _ _ _ _ us hl => match us, hl with | [_], _ => rfl) (d__law_counts W) pf__law_counts

/-! _law_beside fn -/
abbrev s__law_beside : Stmt := (top 70)
abbrev P__law_beside : List Str := ["store", "entries"]
theorem sc__law_beside : FnScope N__law_beside P__law_beside (defScope s__law_beside) := ⟨rfl, rfl, rfl, by decide +kernel, rfl, by decide +kernel, by decide +kernel⟩
theorem d__law_beside {P : Program} {w : World} {K : PySem.W.Frag} {mg : Str → Option Value} {base : Heap} (W : Wd P K mg)
    (f : Addr) (cdv : Value) (A : Around) (outer : List Env) (s : Shared) (H : Hp) (E : XK) (G : Gh) (EW : EWt) (hr : Room 5 (A.deeper (envOfC "_law_beside" (defScope s__law_beside) s.heap.objs.size f cdv))) (hp : ∀ p ∈ G.pins, p.1 ∈ ixs [true, false] 0) (tk : Tk (cxOf (L2N.CX P w) P w K mg base N__law_beside "_law_beside" (defScope s__law_beside) f cdv A outer s H E) G EW) :
    DSs (cxOf (L2N.CX P w) P w K mg base N__law_beside "_law_beside" (defScope s__law_beside) f cdv A outer s H E) G (defBody s__law_beside) (w__law_beside EW) :=
  have sc := sc__law_beside
  (dss_cons (ds_set (i := 2) sc.nd (by rfl) (.inl rfl) (de_fn (ok__law_take W) (hr.mono (by decide)) (by rfl) tk (da_cons (dv 0) (da_cons de_int da_nil))) (pins_ne hp (by decide))) <|
  (dss_cons (ds_set (i := 3) sc.nd (by rfl) (.inl rfl) (de_callTy call_listD (by rfl) W.b_list (by rfl) (da_cons (dv 1) da_nil)) (pins_ne hp (by decide))) <|
  (dss_cons (ds_if (dt_cmp (op_eqDD hr.units) (dv 2) de_int (by rfl))
  (dss_one (ds_ret (dv 3)))
  dss_nil) <|
  (dss_cons (ds_if (dt_cmp (op_eqDD hr.units) (dv 2) de_int (by rfl))
  (dss_cons (ds_set (i := 4) sc.nd (by rfl) (.inl rfl) (de_fn (ok__law_place W) (hr.mono (by decide)) (by rfl) tk (da_cons (dv 0) (da_cons (de_callB call_lenD (by rfl) W.b_len (by rfl) (da_cons (dv 3) da_nil)) da_nil))) (pins_ne hp (by decide))) <|
  (dss_cons (ds_putL (m := false) (i := 3) (by rfl) (.inl rfl) (de_callB (call_min2D rfl) (by rfl) W.b_min (by rfl) (da_cons (de_bin op_addD (de_ix ixD (dv 3) (dv 4) (by intro _ _; rfl)) de_int) (da_cons (de_bin op_subD (de_bin op_powD de_int de_int) de_int) da_nil))) (dv 4)) <|
  (dss_one (ds_ret (dv 3)))))
  dss_nil) <|
  (dss_cons (ds_if (DW.dt (dw_and (dt_cmp (op_eqDD hr.units) (dv 2) de_int (by rfl)) (dw_and1 (dt_cmp op_ltD (de_callB call_lenD (by rfl) W.b_len (by rfl) (da_cons (dv 3) da_nil)) de_int (by rfl)))))
  (dss_one (ds_ret (de_bin op_addD (dv 3) (de_lst (da_cons de_int da_nil)))))
  dss_nil) <|
  (dss_cons (ds_if (DW.dt (dw_and (dt_cmp (op_eqDD hr.units) (dv 2) de_int (by rfl)) (dw_and1 (dt_cmp op_gtD (de_callB call_lenD (by rfl) W.b_len (by rfl) (da_cons (dv 3) da_nil)) de_int (by rfl)))))
  (dss_one (ds_ret (de_sl01 (dv 3) (de_un un_negD de_int))))
  dss_nil) <|
  (dss_one (ds_ret (de_fn (ok__law_counts W) (hr.mono (by decide)) (by rfl) tk (da_cons (dv 0) da_nil))))))))))
theorem ok__law_beside {P : Program} {w : World} {K : PySem.W.Frag} {mg : Str → Option Value} {base : Heap} (W : Wd P K mg) : DOk P w K mg base 6 "_law_beside" 2 [true, false] sp__law_beside [] :=
  dok_of (N := N__law_beside) (ps := P__law_beside) (k := 5) W.d__law_beside sc__law_beside rfl len__law_beside (fun _ _ _ _ _ _ us hl => match us, hl with | [_, _], _ => rfl) (d__law_beside W) pf__law_beside

/-! _law_either fn -/
abbrev s__law_either : Stmt := (top 56)
abbrev P__law_either : List Str := ["store", "entries"]
theorem sc__law_either : FnScope N__law_either P__law_either (defScope s__law_either) := ⟨rfl, rfl, rfl, by decide +kernel, rfl, by decide +kernel, by decide +kernel⟩
theorem d__law_either {P : Program} {w : World} {K : PySem.W.Frag} {mg : Str → Option Value} {base : Heap} (W : Wd P K mg)
    (f : Addr) (cdv : Value) (A : Around) (outer : List Env) (s : Shared) (H : Hp) (E : XK) (G : Gh) (EW : EWt) (hr : Room 2 (A.deeper (envOfC "_law_either" (defScope s__law_either) s.heap.objs.size f cdv))) (hp : ∀ p ∈ G.pins, p.1 ∈ ixs [true, false] 0) (tk : Tk (cxOf (L2N.CX P w) P w K mg base N__law_either "_law_either" (defScope s__law_either) f cdv A outer s H E) G EW) :
    DSs (cxOf (L2N.CX P w) P w K mg base N__law_either "_law_either" (defScope s__law_either) f cdv A outer s H E) G (defBody s__law_either) (w__law_either EW) :=
  have sc := sc__law_either
  (dss_cons (ds_if (dt_cmp (op_eqDD hr.units) (de_fn (ok__law_take W) (hr.mono (by decide)) (by rfl) tk (da_cons (dv 0) (da_cons de_int da_nil))) de_int (by rfl))
  (dss_one (ds_ret (de_callTy call_tupleD (by rfl) W.b_tuple (by rfl) (da_cons (dv 1) da_nil))))
  dss_nil) <|
  (dss_one (ds_ret (de_callTy call_listD (by rfl) W.b_list (by rfl) (da_cons (dv 1) da_nil)))))
theorem ok__law_either {P : Program} {w : World} {K : PySem.W.Frag} {mg : Str → Option Value} {base : Heap} (W : Wd P K mg) : DOk P w K mg base 3 "_law_either" 2 [true, false] sp__law_either [] :=
  dok_of (N := N__law_either) (ps := P__law_either) (k := 2) W.d__law_either sc__law_either rfl len__law_either (fun _ _ _ _ _ _ us hl => match us, hl with | [_, _], _ => rfl) (d__law_either W) pf__law_either

/-! shown fn -/
abbrev s_shown : Stmt := (top 3)
abbrev P_shown : List Str := ["value"]
theorem sc_shown : FnScope N_shown P_shown (defScope s_shown) := ⟨rfl, rfl, rfl, by decide +kernel, rfl, by decide +kernel, by decide +kernel⟩
theorem d_shown {P : Program} {w : World} {K : PySem.W.Frag} {mg : Str → Option Value} {base : Heap} (W : Wd P K mg)
    (f : Addr) (cdv : Value) (A : Around) (outer : List Env) (s : Shared) (H : Hp) (E : XK) (G : Gh) (EW : EWt) (hr : Room 0 (A.deeper (envOfC "shown" (defScope s_shown) s.heap.objs.size f cdv))) (hp : ∀ p ∈ G.pins, p.1 ∈ ixs [false] 0) (tk : Tk (cxOf (L2N.CX P w) P w K mg base N_shown "shown" (defScope s_shown) f cdv A outer s H E) G EW) :
    DSs (cxOf (L2N.CX P w) P w K mg base N_shown "shown" (defScope s_shown) f cdv A outer s H E) G (defBody s_shown) (w_shown EW) :=
  have sc := sc_shown
  (dss_one (ds_ret (de_ifExp (dt_val (de_isi kit_int (by rfl) W.b_isinstance (by rfl) W.b_int (by rfl) (dv 0))) (de_callTy call_strD (by rfl) W.b_str (by rfl) (da_cons (dv 0) da_nil)) de_str)))
theorem ok_shown {P : Program} {w : World} {K : PySem.W.Frag} {mg : Str → Option Value} {base : Heap} (W : Wd P K mg) : DOk P w K mg base 1 "shown" 1 [false] sp_shown [] :=
  dok_of (N := N_shown) (ps := P_shown) (k := 0) W.d_shown sc_shown rfl len_shown (fun _ _ _ _ _ _ us hl => match us, hl with | [_], _ => rfl) (d_shown W) pf_shown

/-! BadNumber___init__ fn -/
abbrev sx_BadNumber : Stmt := (inTop 5 0)
theorem nsc_BadNumber : NScope N_BadNumber___init__ ["self", "value", "low", "high"] ["__class__"] (defScope sx_BadNumber) := nscope_by (by decide +kernel)
theorem okx_BadNumber {P : Program} {w : World} {K : PySem.W.Frag} {mg : Str → Option Value} {base : Heap} (W : Wd P K mg) : XOk P w K mg base 2 "BadNumber" 3 fl_BadNumber ok_BadNumber :=
  xok_of (N := N_BadNumber___init__) (ps := ["self", "value", "low", "high"]) (k := 1) (we := w_BadNumber___init__) W.x_BadNumber nsc_BadNumber rfl rfl rfl rfl rfl rfl rfl ⟨_, rfl, rfl⟩ (by decide +kernel) (by decide) (by decide)
  (fun F doc pm ctv us e1 e2 hl => by obtain ⟨_, _, _, _, _, _, _⟩ := F; subst e1 e2; exact match us, hl with | [_, _, _, _], _ => rfl)
  (fun f cc cd A outer s H E G hr => (de_joined (.cons (de_fmt (de_fn (ok_shown W) (hr.mono (by decide)) (by rfl) tk_none (da_cons (dv 1) da_nil))) (.cons de_str (.cons (de_fmt (de_fn (ok_shown W) (hr.mono (by decide)) (by rfl) tk_none (da_cons (dv 2) da_nil))) (.cons de_str (.cons (de_fmt (de_fn (ok_shown W) (hr.mono (by decide)) (by rfl) tk_none (da_cons (dv 3) da_nil))) .nil)))))))
  (fun f cc cd A outer s H E => (pss_cons (ps_ost (pe_var (i := 0) rfl (.inl rfl)) (pe_var (i := 1) rfl (.inl rfl))) (pss_cons (ps_ost (pe_var (i := 0) rfl (.inl rfl)) (pe_var (i := 2) rfl (.inl rfl))) (pss_cons (ps_ost (pe_var (i := 0) rfl (.inl rfl)) (pe_var (i := 3) rfl (.inl rfl))) pss_nil)))) pfx_BadNumber

/-! is_count fn -/
abbrev s_is_count : Stmt := (top 43)
abbrev P_is_count : List Str := ["value"]
theorem sc_is_count : FnScope N_is_count P_is_count (defScope s_is_count) := ⟨rfl, rfl, rfl, by decide +kernel, rfl, by decide +kernel, by decide +kernel⟩
theorem d_is_count {P : Program} {w : World} {K : PySem.W.Frag} {mg : Str → Option Value} {base : Heap} (W : Wd P K mg)
    (f : Addr) (cdv : Value) (A : Around) (outer : List Env) (s : Shared) (H : Hp) (E : XK) (G : Gh) (EW : EWt) (hr : Room 0 (A.deeper (envOfC "is_count" (defScope s_is_count) s.heap.objs.size f cdv))) (hp : ∀ p ∈ G.pins, p.1 ∈ ixs [false] 0) (tk : Tk (cxOf (L2N.CX P w) P w K mg base N_is_count "is_count" (defScope s_is_count) f cdv A outer s H E) G EW) :
    DSs (cxOf (L2N.CX P w) P w K mg base N_is_count "is_count" (defScope s_is_count) f cdv A outer s H E) G (defBody s_is_count) (w_is_count EW) :=
  have sc := sc_is_count
  (dss_one (ds_ret (de_and (de_isi kit_int (by rfl) W.b_isinstance (by rfl) W.b_int (by rfl) (dv 0)) (de_and (de_not (de_isi kit_bool (by rfl) W.b_isinstance (by rfl) W.b_bool (by rfl) (dv 0))) (de_one (de_cmp op_geD (dv 0) de_int (by rfl)))))))
theorem ok_is_count {P : Program} {w : World} {K : PySem.W.Frag} {mg : Str → Option Value} {base : Heap} (W : Wd P K mg) : DOk P w K mg base 1 "is_count" 1 [false] sp_is_count [] :=
  dok_of (N := N_is_count) (ps := P_is_count) (k := 0) W.d_is_count sc_is_count rfl len_is_count (fun _ _ _ _ _ _ us hl => match us, hl with | [_], _ => rfl) (d_is_count W) pf_is_count

/-! NotACount___init__ fn -/
abbrev sx_NotACount : Stmt := (inTop 28 0)
theorem nsc_NotACount : NScope N_NotACount___init__ ["self", "index"] ["__class__"] (defScope sx_NotACount) := nscope_by (by decide +kernel)
theorem okx_NotACount {P : Program} {w : World} {K : PySem.W.Frag} {mg : Str → Option Value} {base : Heap} (W : Wd P K mg) : XOk P w K mg base 2 "NotACount" 1 fl_NotACount ok_NotACount :=
  xok_of (N := N_NotACount___init__) (ps := ["self", "index"]) (k := 1) (we := w_NotACount___init__) W.x_NotACount nsc_NotACount rfl rfl rfl rfl rfl rfl rfl ⟨_, rfl, rfl⟩ (by decide +kernel) (by decide) (by decide)
  (fun F doc pm ctv us e1 e2 hl => by obtain ⟨_, _, _, _, _, _, _⟩ := F; subst e1 e2; exact match us, hl with | [_, _], _ => rfl)
  (fun f cc cd A outer s H E G hr => (de_joined (.cons de_str (.cons (de_fmt (de_fn (ok_shown W) (hr.mono (by decide)) (by rfl) tk_none (da_cons (dv 1) da_nil))) (.cons de_str .nil)))))
  (fun f cc cd A outer s H E => (pss_cons (ps_ost (pe_var (i := 0) rfl (.inl rfl)) (pe_var (i := 1) rfl (.inl rfl))) pss_nil)) pfx_NotACount

/-! Tally___init__ fn -/
abbrev s_Tally___init__ : Stmt := (inTop 48 0)
abbrev P_Tally___init__ : List Str := ["self", "counts"]
theorem sc_Tally___init__ : FnScope N_Tally___init__ P_Tally___init__ (defScope s_Tally___init__) := ⟨rfl, rfl, rfl, by decide +kernel, rfl, by decide +kernel, by decide +kernel⟩
theorem d_Tally___init__ {P : Program} {w : World} {K : PySem.W.Frag} {mg : Str → Option Value} {base : Heap} (W : Wd P K mg)
    (f : Addr) (cdv : Value) (A : Around) (outer : List Env) (s : Shared) (H : Hp) (E : XK) (G : Gh) (EW : EWt) (hr : Room 3 (A.deeper (envOfC "Tally.__init__" (defScope s_Tally___init__) s.heap.objs.size f cdv))) (hp : ∀ p ∈ G.pins, p.1 ∈ ixs [true, false] 0) (tk : Tk (cxOf (L2N.CX P w) P w K mg base N_Tally___init__ "Tally.__init__" (defScope s_Tally___init__) f cdv A outer s H E) G EW) :
    DSs (cxOf (L2N.CX P w) P w K mg base N_Tally___init__ "Tally.__init__" (defScope s_Tally___init__) f cdv A outer s H E) G (defBody s_Tally___init__) (w_Tally___init__ EW) :=
  have sc := sc_Tally___init__
  (dss_cons (ds_if (DW.dt (dw_or (dt_cmp op_ltD (de_callB call_lenD (by rfl) W.b_len (by rfl) (da_cons (dv 1) da_nil)) de_int (by rfl)) (dw_or1 (dt_cmp op_gtD (de_callB call_lenD (by rfl) W.b_len (by rfl) (da_cons (dv 1) da_nil)) (de_bin op_addD (de_gint (by rfl) W.c_MOST_TALLIED) de_int) (by rfl)))))
  (dss_one (ds_raise (okx_BadNumber W) rfl (hr.mono (by decide)) (by rfl) tk (by decide) (by decide) (da_cons (de_callB call_lenD (by rfl) W.b_len (by rfl) (da_cons (dv 1) da_nil)) (da_cons de_int (da_cons (de_bin op_addD (de_gint (by rfl) W.c_MOST_TALLIED) de_int) da_nil)))))
  dss_nil) <|
  (dss_cons (ds_for (passes_of rfl) rfl (di_enum (by rfl) W.b_enumerate (dv 1)) (dg_of tg_tup (pg_tup rfl (pgs_cons (pg_name (i := 2) sc.nd (by rfl) (.inl rfl)) (pgs_cons (pg_name (i := 3) sc.nd (by rfl) (.inl rfl)) pgs_nil)))) (fun G1 s1 => have hp := sub_pins s1 hp; have tk := Tk.sub tk s1;
  (dss_one (ds_if (dt_not (dt_val (de_fn (ok_is_count W) (hr.mono (by decide)) (by rfl) tk (da_cons (dv 3) da_nil))))
  (dss_one (ds_raise (okx_NotACount W) rfl (hr.mono (by decide)) (by rfl) tk (by decide) (by decide) (da_cons (dv 2) da_nil)))
  dss_nil))) (pins_out hp (by decide))) <|
  (dss_one (ds_fldPut (mv := false) (i := 0) W.k_Tally W.f_Tally_entries (by rfl) (.inl rfl) (de_callTy call_tupleD (by rfl) W.b_tuple (by rfl) (da_cons (dv 1) da_nil))))))
theorem ok_Tally___init__ {P : Program} {w : World} {K : PySem.W.Frag} {mg : Str → Option Value} {base : Heap} (W : Wd P K mg) : IOk P w K mg base 4 "Tally" [false] sp_Tally___init__ [] :=
  iok_of (N := N_Tally___init__) (ps := P_Tally___init__) (k := 3) W.d_Tally___init__ sc_Tally___init__ rfl len_Tally___init__ (fun _ _ _ _ _ _ us hl => match us, hl with | [_, _], _ => rfl) (d_Tally___init__ W) pf_Tally___init__

/-! _law_made_of fn -/
abbrev s__law_made_of : Stmt := (top 69)
abbrev P__law_made_of : List Str := ["store", "entries"]
theorem sc__law_made_of : FnScope N__law_made_of P__law_made_of (defScope s__law_made_of) := ⟨rfl, rfl, rfl, by decide +kernel, rfl, by decide +kernel, by decide +kernel⟩
theorem d__law_made_of {P : Program} {w : World} {K : PySem.W.Frag} {mg : Str → Option Value} {base : Heap} (W : Wd P K mg)
    (f : Addr) (cdv : Value) (A : Around) (outer : List Env) (s : Shared) (H : Hp) (E : XK) (G : Gh) (EW : EWt) (hr : Room 5 (A.deeper (envOfC "_law_made_of" (defScope s__law_made_of) s.heap.objs.size f cdv))) (hp : ∀ p ∈ G.pins, p.1 ∈ ixs [true, false] 0) (tk : Tk (cxOf (L2N.CX P w) P w K mg base N__law_made_of "_law_made_of" (defScope s__law_made_of) f cdv A outer s H E) G EW) :
    DSs (cxOf (L2N.CX P w) P w K mg base N__law_made_of "_law_made_of" (defScope s__law_made_of) f cdv A outer s H E) G (defBody s__law_made_of) (w__law_made_of EW) :=
  have sc := sc__law_made_of
  (dss_cons (ds_set (i := 2) sc.nd (by rfl) (.inl rfl) (de_fn (ok__law_either W) (hr.mono (by decide)) (by rfl) tk (da_cons (dv 0) (da_cons (dv 1) da_nil))) (pins_ne hp (by decide))) <|
  (dss_cons (ds_set (i := 3) sc.nd (by rfl) (.inl rfl) (de_make (ok_Tally___init__ W) (hr.mono (by decide)) (by rfl) tk (da_cons (dv 2) da_nil)) (pins_ne hp (by decide))) <|
  (dss_cons (ds_if (dt_val (de_isi kit_list (by rfl) W.b_isinstance (by rfl) W.b_list (by rfl) (dv 2)))
  (dss_cons (ds_expr (de_m1 (m := false) lm_append (by rfl) (.inl rfl) PySem.F.slot_list_append de_int (hty := PySem.F.type_list_append))) <|
  (dss_one (ds_putL (m := false) (i := 2) (by rfl) (.inl rfl) de_int de_int)))
  dss_nil) <|
  (dss_one (ds_ret (dv 3))))))
theorem ok__law_made_of {P : Program} {w : World} {K : PySem.W.Frag} {mg : Str → Option Value} {base : Heap} (W : Wd P K mg) : DOk P w K mg base 6 "_law_made_of" 2 [true, false] sp__law_made_of [] :=
  dok_of (N := N__law_made_of) (ps := P__law_made_of) (k := 5) W.d__law_made_of sc__law_made_of rfl len__law_made_of (fun _ _ _ _ _ _ us hl => match us, hl with | [_, _], _ => rfl) (d__law_made_of W) pf__law_made_of

/-! Tally_counts fn -/
abbrev s_Tally_counts : Stmt := (inTop 48 1)
abbrev P_Tally_counts : List Str := ["self"]
theorem sc_Tally_counts : FnScope N_Tally_counts P_Tally_counts (defScope s_Tally_counts) := ⟨rfl, rfl, rfl, by decide +kernel, rfl, by decide +kernel, by decide +kernel⟩
theorem d_Tally_counts {P : Program} {w : World} {K : PySem.W.Frag} {mg : Str → Option Value} {base : Heap} (W : Wd P K mg)
    (f : Addr) (cdv : Value) (A : Around) (outer : List Env) (s : Shared) (H : Hp) (E : XK) (G : Gh) (EW : EWt) (hr : Room 0 (A.deeper (envOfC "Tally.counts" (defScope s_Tally_counts) s.heap.objs.size f cdv))) (hp : ∀ p ∈ G.pins, p.1 ∈ ixs [false] 0) (tk : Tk (cxOf (L2N.CX P w) P w K mg base N_Tally_counts "Tally.counts" (defScope s_Tally_counts) f cdv A outer s H E) G EW) :
    DSs (cxOf (L2N.CX P w) P w K mg base N_Tally_counts "Tally.counts" (defScope s_Tally_counts) f cdv A outer s H E) G (defBody s_Tally_counts) (w_Tally_counts EW) :=
  have sc := sc_Tally_counts
  (dss_one (ds_ret (de_fld W.k_Tally W.f_Tally_entries (dv 0))))
theorem ok_Tally_counts {P : Program} {w : World} {K : PySem.W.Frag} {mg : Str → Option Value} {base : Heap} (W : Wd P K mg) : POk P w K mg base 1 "Tally" "counts" sp_Tally_counts :=
  pok_of (N := N_Tally_counts) (k := 0) W.d_Tally_counts sc_Tally_counts len_Tally_counts (fun _ _ _ _ _ _ us hl => match us, hl with | [_], _ => rfl) (d_Tally_counts W) pf_Tally_counts

/-! _law_is_whole fn -/
abbrev s__law_is_whole : Stmt := (top 58)
abbrev P__law_is_whole : List Str := ["value"]
theorem sc__law_is_whole : FnScope N__law_is_whole P__law_is_whole (defScope s__law_is_whole) := ⟨rfl, rfl, rfl, by decide +kernel, rfl, by decide +kernel, by decide +kernel⟩
theorem d__law_is_whole {P : Program} {w : World} {K : PySem.W.Frag} {mg : Str → Option Value} {base : Heap} (W : Wd P K mg)
    (f : Addr) (cdv : Value) (A : Around) (outer : List Env) (s : Shared) (H : Hp) (E : XK) (G : Gh) (EW : EWt) (hr : Room 0 (A.deeper (envOfC "_law_is_whole" (defScope s__law_is_whole) s.heap.objs.size f cdv))) (hp : ∀ p ∈ G.pins, p.1 ∈ ixs [false] 0) (tk : Tk (cxOf (L2N.CX P w) P w K mg base N__law_is_whole "_law_is_whole" (defScope s__law_is_whole) f cdv A outer s H E) G EW) :
    DSs (cxOf (L2N.CX P w) P w K mg base N__law_is_whole "_law_is_whole" (defScope s__law_is_whole) f cdv A outer s H E) G (defBody s__law_is_whole) (w__law_is_whole EW) :=
  have sc := sc__law_is_whole
  (dss_one (ds_ret (de_and (de_isi kit_int (by rfl) W.b_isinstance (by rfl) W.b_int (by rfl) (dv 0)) (de_one (de_not (de_isi kit_bool (by rfl) W.b_isinstance (by rfl) W.b_bool (by rfl) (dv 0)))))))
theorem ok__law_is_whole {P : Program} {w : World} {K : PySem.W.Frag} {mg : Str → Option Value} {base : Heap} (W : Wd P K mg) : DOk P w K mg base 1 "_law_is_whole" 1 [false] sp__law_is_whole [] :=
  dok_of (N := N__law_is_whole) (ps := P__law_is_whole) (k := 0) W.d__law_is_whole sc__law_is_whole rfl len__law_is_whole (fun _ _ _ _ _ _ us hl => match us, hl with | [_], _ => rfl) (d__law_is_whole W) pf__law_is_whole

/-! _law_same fn -/
abbrev s__law_same : Stmt := (top 59)
abbrev P__law_same : List Str := ["actual", "due"]
theorem sc__law_same : FnScope N__law_same P__law_same (defScope s__law_same) := ⟨rfl, rfl, rfl, by decide +kernel, rfl, by decide +kernel, by decide +kernel⟩
theorem d__law_same {P : Program} {w : World} {K : PySem.W.Frag} {mg : Str → Option Value} {base : Heap} (W : Wd P K mg)
    (f : Addr) (cdv : Value) (A : Around) (outer : List Env) (s : Shared) (H : Hp) (E : XK) (G : Gh) (EW : EWt) (hr : Room 1 (A.deeper (envOfC "_law_same" (defScope s__law_same) s.heap.objs.size f cdv))) (hp : ∀ p ∈ G.pins, p.1 ∈ ixs [false, false] 0) (tk : Tk (cxOf (L2N.CX P w) P w K mg base N__law_same "_law_same" (defScope s__law_same) f cdv A outer s H E) G EW) :
    DSs (cxOf (L2N.CX P w) P w K mg base N__law_same "_law_same" (defScope s__law_same) f cdv A outer s H E) G (defBody s__law_same) (w__law_same EW) :=
  have sc := sc__law_same
  (dss_cons (ds_set (i := 2) sc.nd (by rfl) (.inl rfl) (de_lst (da_cons (de_tup (da_cons (dv 0) (da_cons (dv 1) da_nil))) da_nil)) (pins_ne hp (by decide))) <|
  (dss_cons (ds_while (passes_of rfl) (dt_cmp op_gtD (de_callB call_lenD (by rfl) W.b_len (by rfl) (da_cons (dv 2) da_nil)) de_int (by rfl))
  (dss_cons (ds_set (i := 3) sc.nd (by rfl) (.inl rfl) (de_m0 lm_pop (by rfl) (.inl rfl) PySem.F.slot_list_pop (hty := PySem.F.type_list_pop)) (pins_ne hp (by decide))) <|
  (dss_cons (ds_set (i := 4) sc.nd (by rfl) (.inl rfl) (de_ix ixD (dv 3) de_int (by intro _ _; rfl)) (pins_ne hp (by decide))) <|
  (dss_cons (ds_set (i := 5) sc.nd (by rfl) (.inl rfl) (de_ix ixD (dv 3) de_int (by intro _ _; rfl)) (pins_ne hp (by decide))) <|
  (dss_one (ds_if (DW.dt (dw_or (dt_cmp op_isD (dv 5) de_non (by rfl)) (dw_or (dt_cmp op_isD (dv 5) de_bl (by rfl)) (dw_or1 (dt_cmp op_isD (dv 5) de_bl (by rfl))))))
  (dss_one (ds_if (dt_not (DW.dt (dw_or (DW.dt (dw_and (dt_cmp op_isD (dv 5) de_non (by rfl)) (dw_and1 (dt_cmp op_isD (dv 4) de_non (by rfl))))) (dw_or (DW.dt (dw_and (dt_cmp op_isD (dv 5) de_bl (by rfl)) (dw_and1 (dt_cmp op_isD (dv 4) de_bl (by rfl))))) (dw_or1 (DW.dt (dw_and (dt_cmp op_isD (dv 5) de_bl (by rfl)) (dw_and1 (dt_cmp op_isD (dv 4) de_bl (by rfl))))))))))
  (dss_one (ds_ret de_bl))
  dss_nil))
  (dss_one (ds_if (dt_val (de_isi kit_int (by rfl) W.b_isinstance (by rfl) W.b_int (by rfl) (dv 5)))
  (dss_one (ds_if (DW.dt (dw_or (dt_not (dt_val (de_fn (ok__law_is_whole W) (hr.mono (by decide)) (by rfl) tk (da_cons (dv 4) da_nil)))) (dw_or1 (dt_cmp (op_neDD hr.units) (dv 4) (dv 5) (by rfl)))))
  (dss_one (ds_ret de_bl))
  dss_nil))
  (dss_one (ds_if (dt_val (de_isi kit_str (by rfl) W.b_isinstance (by rfl) W.b_str (by rfl) (dv 5)))
  (dss_one (ds_if (DW.dt (dw_or (dt_not (dt_val (de_isi kit_str (by rfl) W.b_isinstance (by rfl) W.b_str (by rfl) (dv 4)))) (dw_or1 (dt_cmp (op_neDD hr.units) (dv 4) (dv 5) (by rfl)))))
  (dss_one (ds_ret de_bl))
  dss_nil))
  (dss_cons (ds_if (DW.dt (dw_and (dt_val (de_isi kit_tuple (by rfl) W.b_isinstance (by rfl) W.b_tuple (by rfl) (dv 5))) (dw_and1 (dt_not (dt_val (de_isi kit_tuple (by rfl) W.b_isinstance (by rfl) W.b_tuple (by rfl) (dv 4)))))))
  (dss_one (ds_ret de_bl))
  dss_nil) <|
  (dss_cons (ds_if (DW.dt (dw_and (dt_val (de_isi kit_list (by rfl) W.b_isinstance (by rfl) W.b_list (by rfl) (dv 5))) (dw_and1 (dt_not (dt_val (de_isi kit_list (by rfl) W.b_isinstance (by rfl) W.b_list (by rfl) (dv 4)))))))
  (dss_one (ds_ret de_bl))
  dss_nil) <|
  (dss_cons (ds_if (dt_cmp (op_neDD hr.units) (de_callB call_lenD (by rfl) W.b_len (by rfl) (da_cons (dv 4) da_nil)) (de_callB call_lenD (by rfl) W.b_len (by rfl) (da_cons (dv 5) da_nil)) (by rfl))
  (dss_one (ds_ret de_bl))
  dss_nil) <|
  (dss_one (ds_for (passes_of rfl) rfl (di_rg1 (by rfl) W.b_range (de_callB call_lenD (by rfl) W.b_len (by rfl) (da_cons (dv 5) da_nil))) (dg_of tg_name (pg_name (i := 6) sc.nd (by rfl) (.inl rfl))) (fun G1 s1 => have hp := sub_pins s1 hp; have tk := Tk.sub tk s1;
  (dss_one (ds_expr (de_m1 (m := false) lm_append (by rfl) (.inl rfl) PySem.F.slot_list_append (de_tup (da_cons (de_ix ixD (dv 4) (dv 6) (by intro _ _; rfl)) (da_cons (de_ix ixD (dv 5) (dv 6) (by intro _ _; rfl)) da_nil))) (hty := PySem.F.type_list_append))))) (pins_out hp (by decide))))))))))))))))) <|
  (dss_one (ds_ret de_bl))))
theorem ok__law_same {P : Program} {w : World} {K : PySem.W.Frag} {mg : Str → Option Value} {base : Heap} (W : Wd P K mg) : DOk P w K mg base 2 "_law_same" 2 [false, false] sp__law_same [] :=
  dok_of (N := N__law_same) (ps := P__law_same) (k := 1) W.d__law_same sc__law_same rfl len__law_same (fun _ _ _ _ _ _ us hl => match us, hl with | [_, _], _ => rfl) (d__law_same W) pf__law_same

/-! Tally_total fn -/
abbrev s_Tally_total : Stmt := (inTop 48 3)
abbrev P_Tally_total : List Str := ["self"]
theorem sc_Tally_total : FnScope N_Tally_total P_Tally_total (defScope s_Tally_total) := ⟨rfl, rfl, rfl, by decide +kernel, rfl, by decide +kernel, by decide +kernel⟩
theorem d_Tally_total {P : Program} {w : World} {K : PySem.W.Frag} {mg : Str → Option Value} {base : Heap} (W : Wd P K mg)
    (f : Addr) (cdv : Value) (A : Around) (outer : List Env) (s : Shared) (H : Hp) (E : XK) (G : Gh) (EW : EWt) (hr : Room 0 (A.deeper (envOfC "Tally.total" (defScope s_Tally_total) s.heap.objs.size f cdv))) (hp : ∀ p ∈ G.pins, p.1 ∈ ixs [false] 0) (tk : Tk (cxOf (L2N.CX P w) P w K mg base N_Tally_total "Tally.total" (defScope s_Tally_total) f cdv A outer s H E) G EW) :
    DSs (cxOf (L2N.CX P w) P w K mg base N_Tally_total "Tally.total" (defScope s_Tally_total) f cdv A outer s H E) G (defBody s_Tally_total) (w_Tally_total EW) :=
  have sc := sc_Tally_total
  (dss_one (ds_ret (de_callB (call_sumD rfl) (by rfl) W.b_sum (by rfl) (da_cons (de_fld W.k_Tally W.f_Tally_entries (dv 0)) da_nil))))
theorem ok_Tally_total {P : Program} {w : World} {K : PySem.W.Frag} {mg : Str → Option Value} {base : Heap} (W : Wd P K mg) : POk P w K mg base 1 "Tally" "total" sp_Tally_total :=
  pok_of (N := N_Tally_total) (k := 0) W.d_Tally_total sc_Tally_total len_Tally_total (fun _ _ _ _ _ _ us hl => match us, hl with | [_], _ => rfl) (d_Tally_total W) pf_Tally_total

/-! Tally_points fn -/
abbrev s_Tally_points : Stmt := (inTop 48 2)
abbrev P_Tally_points : List Str := ["self"]
theorem sc_Tally_points : FnScope N_Tally_points P_Tally_points (defScope s_Tally_points) := ⟨rfl, rfl, rfl, by decide +kernel, rfl, by decide +kernel, by decide +kernel⟩
theorem d_Tally_points {P : Program} {w : World} {K : PySem.W.Frag} {mg : Str → Option Value} {base : Heap} (W : Wd P K mg)
    (f : Addr) (cdv : Value) (A : Around) (outer : List Env) (s : Shared) (H : Hp) (E : XK) (G : Gh) (EW : EWt) (hr : Room 0 (A.deeper (envOfC "Tally.points" (defScope s_Tally_points) s.heap.objs.size f cdv))) (hp : ∀ p ∈ G.pins, p.1 ∈ ixs [false] 0) (tk : Tk (cxOf (L2N.CX P w) P w K mg base N_Tally_points "Tally.points" (defScope s_Tally_points) f cdv A outer s H E) G EW) :
    DSs (cxOf (L2N.CX P w) P w K mg base N_Tally_points "Tally.points" (defScope s_Tally_points) f cdv A outer s H E) G (defBody s_Tally_points) (w_Tally_points EW) :=
  have sc := sc_Tally_points
  (dss_one (ds_ret (de_bin op_subD (de_callB call_lenD (by rfl) W.b_len (by rfl) (da_cons (de_fld W.k_Tally W.f_Tally_entries (dv 0)) da_nil)) de_int)))
theorem ok_Tally_points {P : Program} {w : World} {K : PySem.W.Frag} {mg : Str → Option Value} {base : Heap} (W : Wd P K mg) : POk P w K mg base 1 "Tally" "points" sp_Tally_points :=
  pok_of (N := N_Tally_points) (k := 0) W.d_Tally_points sc_Tally_points len_Tally_points (fun _ _ _ _ _ _ us hl => match us, hl with | [_], _ => rfl) (d_Tally_points W) pf_Tally_points

/-! check_number fn -/
abbrev s_check_number : Stmt := (top 42)
abbrev P_check_number : List Str := ["value", "low", "high"]
theorem sc_check_number : FnScope N_check_number P_check_number (defScope s_check_number) := ⟨rfl, rfl, rfl, by decide +kernel, rfl, by decide +kernel, by decide +kernel⟩
theorem d_check_number {P : Program} {w : World} {K : PySem.W.Frag} {mg : Str → Option Value} {base : Heap} (W : Wd P K mg)
    (f : Addr) (cdv : Value) (A : Around) (outer : List Env) (s : Shared) (H : Hp) (E : XK) (G : Gh) (EW : EWt) (hr : Room 3 (A.deeper (envOfC "check_number" (defScope s_check_number) s.heap.objs.size f cdv))) (hp : ∀ p ∈ G.pins, p.1 ∈ ixs [false, false, false] 0) (tk : Tk (cxOf (L2N.CX P w) P w K mg base N_check_number "check_number" (defScope s_check_number) f cdv A outer s H E) G EW) :
    DSs (cxOf (L2N.CX P w) P w K mg base N_check_number "check_number" (defScope s_check_number) f cdv A outer s H E) G (defBody s_check_number) (w_check_number EW) :=
  have sc := sc_check_number
  (dss_cons (ds_if (DW.dt (dw_or (dt_not (dt_val (de_isi kit_int (by rfl) W.b_isinstance (by rfl) W.b_int (by rfl) (dv 0)))) (dw_or1 (dt_val (de_isi kit_bool (by rfl) W.b_isinstance (by rfl) W.b_bool (by rfl) (dv 0))))))
  (dss_one (ds_raise (okx_BadNumber W) rfl (hr.mono (by decide)) (by rfl) tk (by decide) (by decide) (da_cons (dv 0) (da_cons (dv 1) (da_cons (dv 2) da_nil)))))
  dss_nil) <|
  (dss_one (ds_if (DW.dt (dw_or (dt_cmp op_ltD (dv 0) (dv 1) (by rfl)) (dw_or1 (dt_cmp op_gtD (dv 0) (dv 2) (by rfl)))))
  (dss_one (ds_raise (okx_BadNumber W) rfl (hr.mono (by decide)) (by rfl) tk (by decide) (by decide) (da_cons (dv 0) (da_cons (dv 1) (da_cons (dv 2) da_nil)))))
  dss_nil)))
theorem ok_check_number {P : Program} {w : World} {K : PySem.W.Frag} {mg : Str → Option Value} {base : Heap} (W : Wd P K mg) : DOk P w K mg base 4 "check_number" 3 [false, false, false] sp_check_number [] :=
  dok_of (N := N_check_number) (ps := P_check_number) (k := 3) W.d_check_number sc_check_number rfl len_check_number (fun _ _ _ _ _ _ us hl => match us, hl with | [_, _, _], _ => rfl) (d_check_number W) pf_check_number

/-! entry_at fn -/
abbrev s_entry_at : Stmt := (top 46)
abbrev P_entry_at : List Str := ["entries", "k"]
theorem sc_entry_at : FnScope N_entry_at P_entry_at (defScope s_entry_at) := ⟨rfl, rfl, rfl, by decide +kernel, rfl, by decide +kernel, by decide +kernel⟩
theorem d_entry_at {P : Program} {w : World} {K : PySem.W.Frag} {mg : Str → Option Value} {base : Heap} (W : Wd P K mg)
    (f : Addr) (cdv : Value) (A : Around) (outer : List Env) (s : Shared) (H : Hp) (E : XK) (G : Gh) (EW : EWt) (hr : Room 0 (A.deeper (envOfC "entry_at" (defScope s_entry_at) s.heap.objs.size f cdv))) (hp : ∀ p ∈ G.pins, p.1 ∈ ixs [false, false] 0) (tk : Tk (cxOf (L2N.CX P w) P w K mg base N_entry_at "entry_at" (defScope s_entry_at) f cdv A outer s H E) G EW) :
    DSs (cxOf (L2N.CX P w) P w K mg base N_entry_at "entry_at" (defScope s_entry_at) f cdv A outer s H E) G (defBody s_entry_at) (w_entry_at EW) :=
  have sc := sc_entry_at
  (dss_cons (ds_if (dt_cmp op_ltD (dv 1) (de_callB call_lenD (by rfl) W.b_len (by rfl) (da_cons (dv 0) da_nil)) (by rfl))
  (dss_one (ds_ret (de_ix ixD (dv 0) (dv 1) (by intro _ _; rfl))))
  dss_nil) <|
  (dss_one (ds_ret de_int)))
theorem ok_entry_at {P : Program} {w : World} {K : PySem.W.Frag} {mg : Str → Option Value} {base : Heap} (W : Wd P K mg) : DOk P w K mg base 1 "entry_at" 2 [false, false] sp_entry_at [] :=
  dok_of (N := N_entry_at) (ps := P_entry_at) (k := 0) W.d_entry_at sc_entry_at rfl len_entry_at (fun _ _ _ _ _ _ us hl => match us, hl with | [_, _], _ => rfl) (d_entry_at W) pf_entry_at

/-! Tally_at fn -/
abbrev s_Tally_at : Stmt := (inTop 48 4)
abbrev P_Tally_at : List Str := ["self", "k"]
theorem sc_Tally_at : FnScope N_Tally_at P_Tally_at (defScope s_Tally_at) := ⟨rfl, rfl, rfl, by decide +kernel, rfl, by decide +kernel, by decide +kernel⟩
theorem d_Tally_at {P : Program} {w : World} {K : PySem.W.Frag} {mg : Str → Option Value} {base : Heap} (W : Wd P K mg)
    (f : Addr) (cdv : Value) (A : Around) (outer : List Env) (s : Shared) (H : Hp) (E : XK) (G : Gh) (EW : EWt) (hr : Room 4 (A.deeper (envOfC "Tally.at" (defScope s_Tally_at) s.heap.objs.size f cdv))) (hp : ∀ p ∈ G.pins, p.1 ∈ ixs [false, false] 0) (tk : Tk (cxOf (L2N.CX P w) P w K mg base N_Tally_at "Tally.at" (defScope s_Tally_at) f cdv A outer s H E) G EW) :
    DSs (cxOf (L2N.CX P w) P w K mg base N_Tally_at "Tally.at" (defScope s_Tally_at) f cdv A outer s H E) G (defBody s_Tally_at) (w_Tally_at EW) :=
  have sc := sc_Tally_at
  (dss_cons (ds_expr (de_fn (ok_check_number W) (hr.mono (by decide)) (by rfl) tk (da_cons (dv 1) (da_cons de_int (da_cons (de_gint (by rfl) W.c_MOST_TALLIED) da_nil))))) <|
  (dss_one (ds_ret (de_fn (ok_entry_at W) (hr.mono (by decide)) (by rfl) tk (da_cons (de_fld W.k_Tally W.f_Tally_entries (dv 0)) (da_cons (dv 1) da_nil))))))
theorem ok_Tally_at {P : Program} {w : World} {K : PySem.W.Frag} {mg : Str → Option Value} {base : Heap} (W : Wd P K mg) : MOk P w K mg base 5 "Tally" "at" 2 [false, false] sp_Tally_at :=
  mok_of (N := N_Tally_at) (ps := P_Tally_at) (k := 4) W.d_Tally_at sc_Tally_at rfl len_Tally_at (fun _ _ _ _ _ _ us hl => match us, hl with | [_, _], _ => rfl) (d_Tally_at W) pf_Tally_at

/-! _law_tells fn -/
abbrev s__law_tells : Stmt := (top 66)
abbrev P__law_tells : List Str := ["tally", "due"]
theorem sc__law_tells : FnScope N__law_tells P__law_tells (defScope s__law_tells) := ⟨rfl, rfl, rfl, by decide +kernel, rfl, by decide +kernel, by decide +kernel⟩
theorem d__law_tells {P : Program} {w : World} {K : PySem.W.Frag} {mg : Str → Option Value} {base : Heap} (W : Wd P K mg)
    (f : Addr) (cdv : Value) (A : Around) (outer : List Env) (s : Shared) (H : Hp) (E : XK) (G : Gh) (EW : EWt) (hr : Room 5 (A.deeper (envOfC "_law_tells" (defScope s__law_tells) s.heap.objs.size f cdv))) (hp : ∀ p ∈ G.pins, p.1 ∈ ixs [false, false] 0) (tk : Tk (cxOf (L2N.CX P w) P w K mg base N__law_tells "_law_tells" (defScope s__law_tells) f cdv A outer s H E) G EW) :
    DSs (cxOf (L2N.CX P w) P w K mg base N__law_tells "_law_tells" (defScope s__law_tells) f cdv A outer s H E) G (defBody s__law_tells) (w__law_tells EW) :=
  have sc := sc__law_tells
  (dss_cons (ds_set (i := 2) sc.nd (by rfl) (.inr rfl) (de_bin op_addD (de_callTy call_listD (by rfl) W.b_list (by rfl) (da_cons (dv 1) da_nil)) (de_bin op_mulD (de_lst (da_cons de_int da_nil)) de_int)) (pins_ne hp (by decide))) <|
  (dss_cons (ds_for (passes_of rfl) rfl (di_rg1 (by rfl) W.b_range de_int) (dg_of tg_name (pg_name (i := 3) sc.nd (by rfl) (.inl rfl))) (fun G1 s1 => have hp := sub_pins s1 hp; have tk := Tk.sub tk s1;
  (dss_cons (ds_if (DW.dt (dw_or (dt_not (dt_val (de_isC W.t_Tally (by rfl) W.b_isinstance (by rfl) W.m_Tally (dv 0)))) (dw_or1 (dt_not (dt_val (de_fn (ok__law_same W) (hr.mono (by decide)) (by rfl) tk (da_cons (de_prop (ok_Tally_counts W) W.k_Tally (hr.mono (by decide)) (dv 0)) (da_cons (de_callTy call_tupleD (by rfl) W.b_tuple (by rfl) (da_cons (dv 1) da_nil)) da_nil))))))))
  (dss_one (ds_ret de_bl))
  dss_nil) <|
  (dss_cons (ds_if (DW.dt (dw_or (dt_not (dt_val (de_fn (ok__law_same W) (hr.mono (by decide)) (by rfl) tk (da_cons (de_prop (ok_Tally_points W) W.k_Tally (hr.mono (by decide)) (dv 0)) (da_cons (de_bin op_subD (de_callB call_lenD (by rfl) W.b_len (by rfl) (da_cons (dv 1) da_nil)) de_int) da_nil))))) (dw_or1 (dt_not (dt_val (de_fn (ok__law_same W) (hr.mono (by decide)) (by rfl) tk (da_cons (de_prop (ok_Tally_total W) W.k_Tally (hr.mono (by decide)) (dv 0)) (da_cons (de_callB (call_sumD rfl) (by rfl) W.b_sum (by rfl) (da_cons (dv 1) da_nil)) da_nil))))))))
  (dss_one (ds_ret de_bl))
  dss_nil) <|
  (dss_one (ds_if (dt_not (dt_val (de_callB (call_allD rfl) (by rfl) W.b_all (by rfl) (da_cons (de_lc rfl sc.nd (di_rg1 (by rfl) W.b_range de_int) (own := [("k", 4)]) (show BlkOk N__law_tells (defScope s__law_tells) _ _ from ⟨rfl, by decide +kernel, by decide +kernel, by decide +kernel, by decide +kernel⟩) (by decide) (by decide) tg_name (fun _ _ _ _ _ => (pg_name (i := 4) sc.nd (by rfl) (by first | exact .inl rfl | exact .inr rfl))) (fun _ _ _ _ _ _ => dts_nil) (fun _ _ _ _ _ _ => (de_fn (ok__law_same W) (hr.mono (by decide)) (by rfl) tk_none (da_cons (de_meth (ok_Tally_at W) W.k_Tally (hr.mono (by decide)) tk_none (dv 0) (da_cons (dv 4) da_nil)) (da_cons (de_ix ixD (dv 2) (dv 4) (by intro _ _; rfl)) da_nil))))) da_nil))))
  (dss_one (ds_ret de_bl))
  dss_nil))))) (pins_out hp (by decide))) <|
  (dss_one (ds_ret de_bl))))
theorem ok__law_tells {P : Program} {w : World} {K : PySem.W.Frag} {mg : Str → Option Value} {base : Heap} (W : Wd P K mg) : DOk P w K mg base 6 "_law_tells" 2 [false, false] sp__law_tells [] :=
  dok_of (N := N__law_tells) (ps := P__law_tells) (k := 5) W.d__law_tells sc__law_tells rfl len__law_tells (fun _ _ _ _ _ _ us hl => match us, hl with | [_, _], _ => rfl) (d__law_tells W) pf__law_tells

/-! _law_packed fn -/
abbrev s__law_packed : Stmt := (top 64)
abbrev P__law_packed : List Str := ["entries"]
theorem sc__law_packed : FnScope N__law_packed P__law_packed (defScope s__law_packed) := ⟨rfl, rfl, rfl, by decide +kernel, rfl, by decide +kernel, by decide +kernel⟩
theorem d__law_packed {P : Program} {w : World} {K : PySem.W.Frag} {mg : Str → Option Value} {base : Heap} (W : Wd P K mg)
    (f : Addr) (cdv : Value) (A : Around) (outer : List Env) (s : Shared) (H : Hp) (E : XK) (G : Gh) (EW : EWt) (hr : Room 0 (A.deeper (envOfC "_law_packed" (defScope s__law_packed) s.heap.objs.size f cdv))) (hp : ∀ p ∈ G.pins, p.1 ∈ ixs [false] 0) (tk : Tk (cxOf (L2N.CX P w) P w K mg base N__law_packed "_law_packed" (defScope s__law_packed) f cdv A outer s H E) G EW) :
    DSs (cxOf (L2N.CX P w) P w K mg base N__law_packed "_law_packed" (defScope s__law_packed) f cdv A outer s H E) G (defBody s__law_packed) (w__law_packed EW) :=
  have sc := sc__law_packed
  (dss_cons (ds_set (i := 1) sc.nd (by rfl) (.inl rfl) (de_bin op_mulD (de_bin op_powD de_int de_int) (de_bin op_powD de_int de_int)) (pins_ne hp (by decide))) <|
  (dss_cons (ds_set (i := 2) sc.nd (by rfl) (.inl rfl) de_int (pins_ne hp (by decide))) <|
  (dss_cons (ds_for (passes_of rfl) rfl (di_seq (de_rev (dv 0))) (dg_of tg_name (pg_name (i := 3) sc.nd (by rfl) (.inl rfl))) (fun G1 s1 => have hp := sub_pins s1 hp; have tk := Tk.sub tk s1;
  (dss_one (ds_set (i := 2) sc.nd (by rfl) (.inl rfl) (de_bin op_addD (de_bin op_mulD (dv 2) (dv 1)) (dv 3)) (pins_ne hp (by decide))))) (pins_out hp (by decide))) <|
  (dss_one (ds_ret (dv 2))))))
theorem ok__law_packed {P : Program} {w : World} {K : PySem.W.Frag} {mg : Str → Option Value} {base : Heap} (W : Wd P K mg) : DOk P w K mg base 1 "_law_packed" 1 [false] sp__law_packed [] :=
  dok_of (N := N__law_packed) (ps := P__law_packed) (k := 0) W.d__law_packed sc__law_packed rfl len__law_packed (fun _ _ _ _ _ _ us hl => match us, hl with | [_], _ => rfl) (d__law_packed W) pf__law_packed

/-! _law_unpacked fn -/
abbrev s__law_unpacked : Stmt := (top 65)
abbrev P__law_unpacked : List Str := ["number", "size"]
theorem sc__law_unpacked : FnScope N__law_unpacked P__law_unpacked (defScope s__law_unpacked) := ⟨rfl, rfl, rfl, by decide +kernel, rfl, by decide +kernel, by decide +kernel⟩
theorem d__law_unpacked {P : Program} {w : World} {K : PySem.W.Frag} {mg : Str → Option Value} {base : Heap} (W : Wd P K mg)
    (f : Addr) (cdv : Value) (A : Around) (outer : List Env) (s : Shared) (H : Hp) (E : XK) (G : Gh) (EW : EWt) (hr : Room 0 (A.deeper (envOfC "_law_unpacked" (defScope s__law_unpacked) s.heap.objs.size f cdv))) (hp : ∀ p ∈ G.pins, p.1 ∈ ixs [false, false] 0) (tk : Tk (cxOf (L2N.CX P w) P w K mg base N__law_unpacked "_law_unpacked" (defScope s__law_unpacked) f cdv A outer s H E) G EW) :
    DSs (cxOf (L2N.CX P w) P w K mg base N__law_unpacked "_law_unpacked" (defScope s__law_unpacked) f cdv A outer s H E) G (defBody s__law_unpacked) (w__law_unpacked EW) :=
  have sc := sc__law_unpacked
  (dss_cons (ds_set (i := 2) sc.nd (by rfl) (.inl rfl) (de_bin op_mulD (de_bin op_powD de_int de_int) (de_bin op_powD de_int de_int)) (pins_ne hp (by decide))) <|
  (dss_cons (ds_set (i := 3) sc.nd (by rfl) (.inl rfl) (de_lst da_nil) (pins_ne hp (by decide))) <|
  (dss_cons (ds_for (passes_of rfl) rfl (di_rg1 (by rfl) W.b_range (dv 1)) (dg_of tg_name (pg_name (i := 4) sc.nd (by rfl) (.inl rfl))) (fun G1 s1 => have hp := sub_pins s1 hp; have tk := Tk.sub tk s1;
  (dss_cons (ds_expr (de_m1 (m := false) lm_append (by rfl) (.inl rfl) PySem.F.slot_list_append (de_bin op_modD (de_callTy call_intD (by rfl) W.b_int (by rfl) (da_cons (dv 0) da_nil)) (dv 2)) (hty := PySem.F.type_list_append))) <|
  (dss_one (ds_set (i := 0) sc.nd (by rfl) (.inl rfl) (de_bin op_fdivD (dv 0) (dv 2)) (pins_ne hp (by decide)))))) (pins_out hp (by decide))) <|
  (dss_one (ds_ret (dv 3))))))
theorem ok__law_unpacked {P : Program} {w : World} {K : PySem.W.Frag} {mg : Str → Option Value} {base : Heap} (W : Wd P K mg) : DOk P w K mg base 1 "_law_unpacked" 2 [false, false] sp__law_unpacked [] :=
  dok_of (N := N__law_unpacked) (ps := P__law_unpacked) (k := 0) W.d__law_unpacked sc__law_unpacked rfl len__law_unpacked (fun _ _ _ _ _ _ us hl => match us, hl with | [_, _], _ => rfl) (d__law_unpacked W) pf__law_unpacked

/-! Tally___add__ fn -/
abbrev s_Tally___add__ : Stmt := (inTop 48 6)
abbrev P_Tally___add__ : List Str := ["self", "other"]
theorem sc_Tally___add__ : FnScope N_Tally___add__ P_Tally___add__ (defScope s_Tally___add__) := ⟨rfl, rfl, rfl, by decide +kernel, rfl, by decide +kernel, by decide +kernel⟩
theorem d_Tally___add__ {P : Program} {w : World} {K : PySem.W.Frag} {mg : Str → Option Value} {base : Heap} (W : Wd P K mg)
    (f : Addr) (cdv : Value) (A : Around) (outer : List Env) (s : Shared) (H : Hp) (E : XK) (G : Gh) (EW : EWt) (hr : Room 5 (A.deeper (envOfC "Tally.__add__" (defScope s_Tally___add__) s.heap.objs.size f cdv))) (hp : ∀ p ∈ G.pins, p.1 ∈ ixs [false, false] 0) (tk : Tk (cxOf (L2N.CX P w) P w K mg base N_Tally___add__ "Tally.__add__" (defScope s_Tally___add__) f cdv A outer s H E) G EW) :
    DSs (cxOf (L2N.CX P w) P w K mg base N_Tally___add__ "Tally.__add__" (defScope s_Tally___add__) f cdv A outer s H E) G (defBody s_Tally___add__) (w_Tally___add__ EW) :=
  have sc := sc_Tally___add__
  (dss_cons (ds_if (dt_not (dt_val (de_isC W.t_Tally (by rfl) W.b_isinstance (by rfl) W.m_Tally (dv 1))))
  (dss_one ds_never)
  dss_nil) <|
  (dss_cons (ds_set (i := 2) sc.nd (by rfl) (.inl rfl) (de_callB (call_max2D rfl) (by rfl) W.b_max (by rfl) (da_cons (de_callB call_lenD (by rfl) W.b_len (by rfl) (da_cons (de_fld W.k_Tally W.f_Tally_entries (dv 0)) da_nil)) (da_cons (de_callB call_lenD (by rfl) W.b_len (by rfl) (da_cons (de_fld W.k_Tally W.f_Tally_entries (dv 1)) da_nil)) da_nil))) (pins_ne hp (by decide))) <|
  (dss_one (ds_ret (de_make (ok_Tally___init__ W) (hr.mono (by decide)) (by rfl) tk (da_cons (de_lc rfl sc.nd (di_rg1 (by rfl) W.b_range (dv 2)) (own := [("k", 3)]) (show BlkOk N_Tally___add__ (defScope s_Tally___add__) _ _ from ⟨rfl, by decide +kernel, by decide +kernel, by decide +kernel, by decide +kernel⟩) (by decide) (by decide) tg_name (fun _ _ _ _ _ => (pg_name (i := 3) sc.nd (by rfl) (by first | exact .inl rfl | exact .inr rfl))) (fun _ _ _ _ _ _ => dts_nil) (fun _ _ _ _ _ _ => (de_bin op_addD (de_fn (ok_entry_at W) (hr.mono (by decide)) (by rfl) tk_none (da_cons (de_fld W.k_Tally W.f_Tally_entries (dv 0)) (da_cons (dv 3) da_nil))) (de_fn (ok_entry_at W) (hr.mono (by decide)) (by rfl) tk_none (da_cons (de_fld W.k_Tally W.f_Tally_entries (dv 1)) (da_cons (dv 3) da_nil)))))) da_nil))))))
theorem ok_Tally___add__ {P : Program} {w : World} {K : PySem.W.Frag} {mg : Str → Option Value} {base : Heap} (W : Wd P K mg) : OpOk P w K mg base 6 "Tally" "__add__" sp_Tally___add__ :=
  opok_of (N := N_Tally___add__) (ps := P_Tally___add__) (k := 5) W.d_Tally___add__ sc_Tally___add__ rfl len_Tally___add__ (fun _ _ _ _ _ _ us hl => match us, hl with | [_, _], _ => rfl) (d_Tally___add__ W) pf_Tally___add__

/-! TooMany___init__ fn -/
abbrev sx_TooMany : Stmt := (inTop 8 0)
theorem nsc_TooMany : NScope N_TooMany___init__ ["self", "what", "limit"] ["__class__"] (defScope sx_TooMany) := nscope_by (by decide +kernel)
theorem okx_TooMany {P : Program} {w : World} {K : PySem.W.Frag} {mg : Str → Option Value} {base : Heap} (W : Wd P K mg) : XOk P w K mg base 2 "TooMany" 2 fl_TooMany ok_TooMany :=
  xok_of (N := N_TooMany___init__) (ps := ["self", "what", "limit"]) (k := 1) (we := w_TooMany___init__) W.x_TooMany nsc_TooMany rfl rfl rfl rfl rfl rfl rfl ⟨_, rfl, rfl⟩ (by decide +kernel) (by decide) (by decide)
  (fun F doc pm ctv us e1 e2 hl => by obtain ⟨_, _, _, _, _, _, _⟩ := F; subst e1 e2; exact match us, hl with | [_, _, _], _ => rfl)
  (fun f cc cd A outer s H E G hr => (de_joined (.cons de_str (.cons (de_fmt (dv 1)) (.cons de_str (.cons (de_fmt (de_fn (ok_shown W) (hr.mono (by decide)) (by rfl) tk_none (da_cons (dv 2) da_nil))) .nil))))))
  (fun f cc cd A outer s H E => (pss_cons (ps_ost (pe_var (i := 0) rfl (.inl rfl)) (pe_var (i := 1) rfl (.inl rfl))) (pss_cons (ps_ost (pe_var (i := 0) rfl (.inl rfl)) (pe_var (i := 2) rfl (.inl rfl))) pss_nil))) pfx_TooMany

/-! product_counts fn -/
abbrev s_product_counts : Stmt := (top 47)
abbrev P_product_counts : List Str := ["first", "second"]
theorem sc_product_counts : FnScope N_product_counts P_product_counts (defScope s_product_counts) := ⟨rfl, rfl, rfl, by decide +kernel, rfl, by decide +kernel, by decide +kernel⟩
theorem d_product_counts {P : Program} {w : World} {K : PySem.W.Frag} {mg : Str → Option Value} {base : Heap} (W : Wd P K mg)
    (f : Addr) (cdv : Value) (A : Around) (outer : List Env) (s : Shared) (H : Hp) (E : XK) (G : Gh) (EW : EWt) (hr : Room 0 (A.deeper (envOfC "product_counts" (defScope s_product_counts) s.heap.objs.size f cdv))) (hp : ∀ p ∈ G.pins, p.1 ∈ ixs [false, false] 0) (tk : Tk (cxOf (L2N.CX P w) P w K mg base N_product_counts "product_counts" (defScope s_product_counts) f cdv A outer s H E) G EW) :
    DSs (cxOf (L2N.CX P w) P w K mg base N_product_counts "product_counts" (defScope s_product_counts) f cdv A outer s H E) G (defBody s_product_counts) (w_product_counts EW) :=
  have sc := sc_product_counts
  (dss_cons (ds_set (i := 2) sc.nd (by rfl) (.inl rfl) (de_lst da_nil) (pins_ne hp (by decide))) <|
  (dss_cons (ds_for (passes_of rfl) rfl (di_rg1 (by rfl) W.b_range (de_bin op_subD (de_bin op_addD (de_callB call_lenD (by rfl) W.b_len (by rfl) (da_cons (dv 0) da_nil)) (de_callB call_lenD (by rfl) W.b_len (by rfl) (da_cons (dv 1) da_nil))) de_int)) (dg_of tg_name (pg_name (i := 3) sc.nd (by rfl) (.inr rfl))) (fun G1 s1 => have hp := sub_pins s1 hp; have tk := Tk.sub tk s1;
  (dss_cons (ds_setLc (i := 4) rfl sc.nd (by rfl) (by rfl) (pins_ne hp (by decide)) (di_rg1 (by rfl) W.b_range (de_callB call_lenD (by rfl) W.b_len (by rfl) (da_cons (dv 0) da_nil))) (own := [("i", 5)]) (show BlkOk N_product_counts (defScope s_product_counts) _ _ from ⟨rfl, by decide +kernel, by decide +kernel, by decide +kernel, by decide +kernel⟩) (by decide) (by decide) tg_name (fun _ _ _ _ _ => (pg_name (i := 5) sc.nd (by rfl) (by first | exact .inl rfl | exact .inr rfl))) (fun _ _ _ _ _ _ => (dts_one (dt_chain op2_le op2_lt de_int (de_bin op_subD (dv 3) (dv 5)) (de_callB call_lenD (by rfl) W.b_len (by rfl) (da_cons (dv 1) da_nil))))) (fun _ _ _ _ _ _ => (dv 5))) <|
  (dss_one (ds_expr (de_m1 (m := false) lm_append (by rfl) (.inl rfl) PySem.F.slot_list_append (de_callB (call_sumD rfl) (by rfl) W.b_sum (by rfl) (da_cons (de_lc rfl sc.nd (di_seq (dv 4)) (own := [("i", 5)]) (show BlkOk N_product_counts (defScope s_product_counts) _ _ from ⟨rfl, by decide +kernel, by decide +kernel, by decide +kernel, by decide +kernel⟩) (by decide) (by decide) tg_name (fun _ _ _ _ _ => (pg_name (i := 5) sc.nd (by rfl) (by first | exact .inl rfl | exact .inr rfl))) (fun _ _ _ _ _ _ => dts_nil) (fun _ _ _ _ _ _ => (de_bin op_mulD (de_ix ixD (dv 0) (dv 5) (by intro _ _; rfl)) (de_ix ixD (dv 1) (de_bin op_subD (dv 3) (dv 5)) (by intro _ _; rfl))))) da_nil)) (hty := PySem.F.type_list_append)))))) (pins_out hp (by decide))) <|
  (dss_one (ds_ret (dv 2)))))
theorem ok_product_counts {P : Program} {w : World} {K : PySem.W.Frag} {mg : Str → Option Value} {base : Heap} (W : Wd P K mg) : DOk P w K mg base 1 "product_counts" 2 [false, false] sp_product_counts [] :=
  dok_of (N := N_product_counts) (ps := P_product_counts) (k := 0) W.d_product_counts sc_product_counts rfl len_product_counts (fun _ _ _ _ _ _ us hl => match us, hl with | [_, _], _ => rfl) (d_product_counts W) pf_product_counts

/-! Tally___mul__ fn -/
abbrev s_Tally___mul__ : Stmt := (inTop 48 5)
abbrev P_Tally___mul__ : List Str := ["self", "other"]
theorem sc_Tally___mul__ : FnScope N_Tally___mul__ P_Tally___mul__ (defScope s_Tally___mul__) := ⟨rfl, rfl, rfl, by decide +kernel, rfl, by decide +kernel, by decide +kernel⟩
theorem d_Tally___mul__ {P : Program} {w : World} {K : PySem.W.Frag} {mg : Str → Option Value} {base : Heap} (W : Wd P K mg)
    (f : Addr) (cdv : Value) (A : Around) (outer : List Env) (s : Shared) (H : Hp) (E : XK) (G : Gh) (EW : EWt) (hr : Room 5 (A.deeper (envOfC "Tally.__mul__" (defScope s_Tally___mul__) s.heap.objs.size f cdv))) (hp : ∀ p ∈ G.pins, p.1 ∈ ixs [false, false] 0) (tk : Tk (cxOf (L2N.CX P w) P w K mg base N_Tally___mul__ "Tally.__mul__" (defScope s_Tally___mul__) f cdv A outer s H E) G EW) :
    DSs (cxOf (L2N.CX P w) P w K mg base N_Tally___mul__ "Tally.__mul__" (defScope s_Tally___mul__) f cdv A outer s H E) G (defBody s_Tally___mul__) (w_Tally___mul__ EW) :=
  have sc := sc_Tally___mul__
  (dss_cons (ds_if (dt_not (dt_val (de_isC W.t_Tally (by rfl) W.b_isinstance (by rfl) W.m_Tally (dv 1))))
  (dss_one ds_never)
  dss_nil) <|
  (dss_cons (ds_if (dt_cmp op_gtD (de_bin op_subD (de_bin op_addD (de_callB call_lenD (by rfl) W.b_len (by rfl) (da_cons (de_fld W.k_Tally W.f_Tally_entries (dv 0)) da_nil)) (de_callB call_lenD (by rfl) W.b_len (by rfl) (da_cons (de_fld W.k_Tally W.f_Tally_entries (dv 1)) da_nil))) de_int) (de_gint (by rfl) W.c_MOST_TALLIED) (by rfl))
  (dss_one (ds_raise (okx_TooMany W) rfl (hr.mono (by decide)) (by rfl) tk (by decide) (by decide) (da_cons de_str (da_cons (de_gint (by rfl) W.c_MOST_TALLIED) da_nil))))
  dss_nil) <|
  (dss_one (ds_ret (de_make (ok_Tally___init__ W) (hr.mono (by decide)) (by rfl) tk (da_cons (de_fn (ok_product_counts W) (hr.mono (by decide)) (by rfl) tk (da_cons (de_fld W.k_Tally W.f_Tally_entries (dv 0)) (da_cons (de_fld W.k_Tally W.f_Tally_entries (dv 1)) da_nil))) da_nil))))))
theorem ok_Tally___mul__ {P : Program} {w : World} {K : PySem.W.Frag} {mg : Str → Option Value} {base : Heap} (W : Wd P K mg) : OpOk P w K mg base 6 "Tally" "__mul__" sp_Tally___mul__ :=
  opok_of (N := N_Tally___mul__) (ps := P_Tally___mul__) (k := 5) W.d_Tally___mul__ sc_Tally___mul__ rfl len_Tally___mul__ (fun _ _ _ _ _ _ us hl => match us, hl with | [_, _], _ => rfl) (d_Tally___mul__ W) pf_Tally___mul__

/-! is_whole fn -/
abbrev s_is_whole : Stmt := (top 38)
abbrev P_is_whole : List Str := ["value"]
theorem sc_is_whole : FnScope N_is_whole P_is_whole (defScope s_is_whole) := ⟨rfl, rfl, rfl, by decide +kernel, rfl, by decide +kernel, by decide +kernel⟩
theorem d_is_whole {P : Program} {w : World} {K : PySem.W.Frag} {mg : Str → Option Value} {base : Heap} (W : Wd P K mg)
    (f : Addr) (cdv : Value) (A : Around) (outer : List Env) (s : Shared) (H : Hp) (E : XK) (G : Gh) (EW : EWt) (hr : Room 0 (A.deeper (envOfC "is_whole" (defScope s_is_whole) s.heap.objs.size f cdv))) (hp : ∀ p ∈ G.pins, p.1 ∈ ixs [false] 0) (tk : Tk (cxOf (L2N.CX P w) P w K mg base N_is_whole "is_whole" (defScope s_is_whole) f cdv A outer s H E) G EW) :
    DSs (cxOf (L2N.CX P w) P w K mg base N_is_whole "is_whole" (defScope s_is_whole) f cdv A outer s H E) G (defBody s_is_whole) (w_is_whole EW) :=
  have sc := sc_is_whole
  (dss_one (ds_ret (de_and (de_isi kit_int (by rfl) W.b_isinstance (by rfl) W.b_int (by rfl) (dv 0)) (de_one (de_not (de_isi kit_bool (by rfl) W.b_isinstance (by rfl) W.b_bool (by rfl) (dv 0)))))))
theorem ok_is_whole {P : Program} {w : World} {K : PySem.W.Frag} {mg : Str → Option Value} {base : Heap} (W : Wd P K mg) : DOk P w K mg base 1 "is_whole" 1 [false] sp_is_whole [] :=
  dok_of (N := N_is_whole) (ps := P_is_whole) (k := 0) W.d_is_whole sc_is_whole rfl len_is_whole (fun _ _ _ _ _ _ us hl => match us, hl with | [_], _ => rfl) (d_is_whole W) pf_is_whole

/-! is_move fn -/
abbrev s_is_move : Stmt := (top 39)
abbrev P_is_move : List Str := ["value"]
theorem sc_is_move : FnScope N_is_move P_is_move (defScope s_is_move) := ⟨rfl, rfl, rfl, by decide +kernel, rfl, by decide +kernel, by decide +kernel⟩
theorem d_is_move {P : Program} {w : World} {K : PySem.W.Frag} {mg : Str → Option Value} {base : Heap} (W : Wd P K mg)
    (f : Addr) (cdv : Value) (A : Around) (outer : List Env) (s : Shared) (H : Hp) (E : XK) (G : Gh) (EW : EWt) (hr : Room 1 (A.deeper (envOfC "is_move" (defScope s_is_move) s.heap.objs.size f cdv))) (hp : ∀ p ∈ G.pins, p.1 ∈ ixs [false] 0) (tk : Tk (cxOf (L2N.CX P w) P w K mg base N_is_move "is_move" (defScope s_is_move) f cdv A outer s H E) G EW) :
    DSs (cxOf (L2N.CX P w) P w K mg base N_is_move "is_move" (defScope s_is_move) f cdv A outer s H E) G (defBody s_is_move) (w_is_move EW) :=
  have sc := sc_is_move
  (dss_cons (ds_if (DW.dt (dw_or (dt_not (dt_val (de_isi kit_tuple (by rfl) W.b_isinstance (by rfl) W.b_tuple (by rfl) (dv 0)))) (dw_or1 (dt_cmp op_gtD (de_callB call_lenD (by rfl) W.b_len (by rfl) (da_cons (dv 0) da_nil)) (de_gint (by rfl) W.c_MOST_POINTS) (by rfl)))))
  (dss_one (ds_ret de_bl))
  dss_nil) <|
  (dss_cons (ds_for (passes_of rfl) rfl (di_seq (dv 0)) (dg_of tg_name (pg_name (i := 1) sc.nd (by rfl) (.inl rfl))) (fun G1 s1 => have hp := sub_pins s1 hp; have tk := Tk.sub tk s1;
  (dss_one (ds_if (dt_not (dt_val (de_fn (ok_is_whole W) (hr.mono (by decide)) (by rfl) tk (da_cons (dv 1) da_nil))))
  (dss_one (ds_ret de_bl))
  dss_nil))) (pins_out hp (by decide))) <|
  (dss_one (ds_ret (de_cmp (op_eqDD hr.units) (de_callB call_sortedD (by rfl) W.b_sorted (by rfl) (da_cons (dv 0) da_nil)) (de_rgLst1 rfl (by rfl) W.b_list (by rfl) W.b_range (de_callB call_lenD (by rfl) W.b_len (by rfl) (da_cons (dv 0) da_nil))) (by rfl))))))
theorem ok_is_move {P : Program} {w : World} {K : PySem.W.Frag} {mg : Str → Option Value} {base : Heap} (W : Wd P K mg) : DOk P w K mg base 2 "is_move" 1 [false] sp_is_move [] :=
  dok_of (N := N_is_move) (ps := P_is_move) (k := 1) W.d_is_move sc_is_move rfl len_is_move (fun _ _ _ _ _ _ us hl => match us, hl with | [_], _ => rfl) (d_is_move W) pf_is_move

/-! NotAMove___init__ fn -/
abbrev sx_NotAMove : Stmt := (inTop 7 0)
theorem nsc_NotAMove : NScope N_NotAMove___init__ ["self", "index"] ["__class__"] (defScope sx_NotAMove) := nscope_by (by decide +kernel)
theorem okx_NotAMove {P : Program} {w : World} {K : PySem.W.Frag} {mg : Str → Option Value} {base : Heap} (W : Wd P K mg) : XOk P w K mg base 2 "NotAMove" 1 fl_NotAMove ok_NotAMove :=
  xok_of (N := N_NotAMove___init__) (ps := ["self", "index"]) (k := 1) (we := w_NotAMove___init__) W.x_NotAMove nsc_NotAMove rfl rfl rfl rfl rfl rfl rfl ⟨_, rfl, rfl⟩ (by decide +kernel) (by decide) (by decide)
  (fun F doc pm ctv us e1 e2 hl => by obtain ⟨_, _, _, _, _, _, _⟩ := F; subst e1 e2; exact match us, hl with | [_, _], _ => rfl)
  (fun f cc cd A outer s H E G hr => (de_joined (.cons de_str (.cons (de_fmt (de_fn (ok_shown W) (hr.mono (by decide)) (by rfl) tk_none (da_cons (dv 1) da_nil))) (.cons de_str .nil)))))
  (fun f cc cd A outer s H E => (pss_cons (ps_ost (pe_var (i := 0) rfl (.inl rfl)) (pe_var (i := 1) rfl (.inl rfl))) pss_nil)) pfx_NotAMove

/-! held_number fn -/
abbrev s_held_number : Stmt := (top 45)
abbrev P_held_number : List Str := ["move"]
theorem sc_held_number : FnScope N_held_number P_held_number (defScope s_held_number) := ⟨rfl, rfl, rfl, by decide +kernel, rfl, by decide +kernel, by decide +kernel⟩
theorem d_held_number {P : Program} {w : World} {K : PySem.W.Frag} {mg : Str → Option Value} {base : Heap} (W : Wd P K mg)
    (f : Addr) (cdv : Value) (A : Around) (outer : List Env) (s : Shared) (H : Hp) (E : XK) (G : Gh) (EW : EWt) (hr : Room 0 (A.deeper (envOfC "held_number" (defScope s_held_number) s.heap.objs.size f cdv))) (hp : ∀ p ∈ G.pins, p.1 ∈ ixs [false] 0) (tk : Tk (cxOf (L2N.CX P w) P w K mg base N_held_number "held_number" (defScope s_held_number) f cdv A outer s H E) G EW) :
    DSs (cxOf (L2N.CX P w) P w K mg base N_held_number "held_number" (defScope s_held_number) f cdv A outer s H E) G (defBody s_held_number) (w_held_number EW) :=
  have sc := sc_held_number
  (dss_one (ds_ret (de_callB call_lenD (by rfl) W.b_len (by rfl) (da_cons (de_lc rfl sc.nd (di_enum (by rfl) W.b_enumerate (dv 0)) (own := [("point", 1), ("image", 2)]) (show BlkOk N_held_number (defScope s_held_number) _ _ from ⟨rfl, by decide +kernel, by decide +kernel, by decide +kernel, by decide +kernel⟩) (by decide) (by decide) tg_tup (fun _ _ _ _ _ => (pg_tup rfl (pgs_cons (pg_name (i := 1) sc.nd (by rfl) (by first | exact .inl rfl | exact .inr rfl)) (pgs_cons (pg_name (i := 2) sc.nd (by rfl) (by first | exact .inl rfl | exact .inr rfl)) pgs_nil)))) (fun _ _ _ _ _ _ => (dts_one (dt_cmp (op_eqDD hr.units) (dv 1) (dv 2) (by rfl)))) (fun _ _ _ _ _ _ => (dv 1))) da_nil))))
theorem ok_held_number {P : Program} {w : World} {K : PySem.W.Frag} {mg : Str → Option Value} {base : Heap} (W : Wd P K mg) : DOk P w K mg base 1 "held_number" 1 [false] sp_held_number [] :=
  dok_of (N := N_held_number) (ps := P_held_number) (k := 0) W.d_held_number sc_held_number rfl len_held_number (fun _ _ _ _ _ _ us hl => match us, hl with | [_], _ => rfl) (d_held_number W) pf_held_number

/-! held_counts fn -/
abbrev s_held_counts : Stmt := (top 44)
abbrev P_held_counts : List Str := ["points", "moves"]
theorem sc_held_counts : FnScope N_held_counts P_held_counts (defScope s_held_counts) := ⟨rfl, rfl, rfl, by decide +kernel, rfl, by decide +kernel, by decide +kernel⟩
theorem d_held_counts {P : Program} {w : World} {K : PySem.W.Frag} {mg : Str → Option Value} {base : Heap} (W : Wd P K mg)
    (f : Addr) (cdv : Value) (A : Around) (outer : List Env) (s : Shared) (H : Hp) (E : XK) (G : Gh) (EW : EWt) (hr : Room 1 (A.deeper (envOfC "held_counts" (defScope s_held_counts) s.heap.objs.size f cdv))) (hp : ∀ p ∈ G.pins, p.1 ∈ ixs [false, false] 0) (tk : Tk (cxOf (L2N.CX P w) P w K mg base N_held_counts "held_counts" (defScope s_held_counts) f cdv A outer s H E) G EW) :
    DSs (cxOf (L2N.CX P w) P w K mg base N_held_counts "held_counts" (defScope s_held_counts) f cdv A outer s H E) G (defBody s_held_counts) (w_held_counts EW) :=
  have sc := sc_held_counts
  (dss_cons (ds_set (i := 2) sc.nd (by rfl) (.inl rfl) (de_bin op_mulD (de_lst (da_cons de_int da_nil)) (de_bin op_addD (dv 0) de_int)) (pins_ne hp (by decide))) <|
  (dss_cons (ds_for (passes_of rfl) rfl (di_seq (dv 1)) (dg_of tg_name (pg_name (i := 3) sc.nd (by rfl) (.inl rfl))) (fun G1 s1 => have hp := sub_pins s1 hp; have tk := Tk.sub tk s1;
  (dss_cons (ds_set (i := 4) sc.nd (by rfl) (.inl rfl) (de_fn (ok_held_number W) (hr.mono (by decide)) (by rfl) tk (da_cons (dv 3) da_nil)) (pins_ne hp (by decide))) <|
  (dss_one (ds_putL (m := false) (i := 2) (by rfl) (.inl rfl) (de_bin op_addD (de_ix ixD (dv 2) (dv 4) (by intro _ _; rfl)) de_int) (dv 4))))) (pins_out hp (by decide))) <|
  (dss_one (ds_ret (dv 2)))))
theorem ok_held_counts {P : Program} {w : World} {K : PySem.W.Frag} {mg : Str → Option Value} {base : Heap} (W : Wd P K mg) : DOk P w K mg base 2 "held_counts" 2 [false, false] sp_held_counts [] :=
  dok_of (N := N_held_counts) (ps := P_held_counts) (k := 1) W.d_held_counts sc_held_counts rfl len_held_counts (fun _ _ _ _ _ _ us hl => match us, hl with | [_, _], _ => rfl) (d_held_counts W) pf_held_counts

/-! Tally_of_moves fn -/
abbrev s_Tally_of_moves : Stmt := (inTop 48 8)
abbrev P_Tally_of_moves : List Str := ["points", "moves"]
theorem sc_Tally_of_moves : FnScope N_Tally_of_moves P_Tally_of_moves (defScope s_Tally_of_moves) := ⟨rfl, rfl, rfl, by decide +kernel, rfl, by decide +kernel, by decide +kernel⟩
theorem d_Tally_of_moves {P : Program} {w : World} {K : PySem.W.Frag} {mg : Str → Option Value} {base : Heap} (W : Wd P K mg)
    (f : Addr) (cdv : Value) (A : Around) (outer : List Env) (s : Shared) (H : Hp) (E : XK) (G : Gh) (EW : EWt) (hr : Room 5 (A.deeper (envOfC "Tally.of_moves" (defScope s_Tally_of_moves) s.heap.objs.size f cdv))) (hp : ∀ p ∈ G.pins, p.1 ∈ ixs [false, false] 0) (tk : Tk (cxOf (L2N.CX P w) P w K mg base N_Tally_of_moves "Tally.of_moves" (defScope s_Tally_of_moves) f cdv A outer s H E) G EW) :
    DSs (cxOf (L2N.CX P w) P w K mg base N_Tally_of_moves "Tally.of_moves" (defScope s_Tally_of_moves) f cdv A outer s H E) G (defBody s_Tally_of_moves) (w_Tally_of_moves EW) :=
  have sc := sc_Tally_of_moves
  (dss_cons (ds_expr (de_fn (ok_check_number W) (hr.mono (by decide)) (by rfl) tk (da_cons (dv 0) (da_cons de_int (da_cons (de_gint (by rfl) W.c_MOST_POINTS) da_nil))))) <|
  (dss_cons (ds_if (dt_cmp op_gtD (de_callB call_lenD (by rfl) W.b_len (by rfl) (da_cons (dv 1) da_nil)) (de_gint (by rfl) W.c_MOST_LIST) (by rfl))
  (dss_one (ds_raise (okx_TooMany W) rfl (hr.mono (by decide)) (by rfl) tk (by decide) (by decide) (da_cons de_str (da_cons (de_gint (by rfl) W.c_MOST_LIST) da_nil))))
  dss_nil) <|
  (dss_cons (ds_for (passes_of rfl) rfl (di_enum (by rfl) W.b_enumerate (dv 1)) (dg_of tg_tup (pg_tup rfl (pgs_cons (pg_name (i := 2) sc.nd (by rfl) (.inl rfl)) (pgs_cons (pg_name (i := 3) sc.nd (by rfl) (.inl rfl)) pgs_nil)))) (fun G1 s1 => have hp := sub_pins s1 hp; have tk := Tk.sub tk s1;
  (dss_one (ds_if (DW.dt (dw_or (dt_not (dt_val (de_fn (ok_is_move W) (hr.mono (by decide)) (by rfl) tk (da_cons (dv 3) da_nil)))) (dw_or1 (dt_cmp (op_neDD hr.units) (de_callB call_lenD (by rfl) W.b_len (by rfl) (da_cons (dv 3) da_nil)) (dv 0) (by rfl)))))
  (dss_one (ds_raise (okx_NotAMove W) rfl (hr.mono (by decide)) (by rfl) tk (by decide) (by decide) (da_cons (dv 2) da_nil)))
  dss_nil))) (pins_out hp (by decide))) <|
  (dss_one (ds_ret (de_make (ok_Tally___init__ W) (hr.mono (by decide)) (by rfl) tk (da_cons (de_fn (ok_held_counts W) (hr.mono (by decide)) (by rfl) tk (da_cons (dv 0) (da_cons (dv 1) da_nil))) da_nil)))))))
theorem ok_Tally_of_moves {P : Program} {w : World} {K : PySem.W.Frag} {mg : Str → Option Value} {base : Heap} (W : Wd P K mg) : SOk P w K mg base 6 "Tally" "of_moves" [false, false] sp_Tally_of_moves :=
  sok_of (N := N_Tally_of_moves) (ps := P_Tally_of_moves) (k := 5) W.d_Tally_of_moves sc_Tally_of_moves rfl len_Tally_of_moves (fun _ _ _ _ _ _ us hl => match us, hl with | [_, _], _ => rfl) (d_Tally_of_moves W) pf_Tally_of_moves

/-! _law_is_whole hot -/
theorem d__law_is_whole_h {P : Program} {w : World} {K : PySem.W.Frag} {mg : Str → Option Value} {base : Heap} (W : Wd P K mg)
    (f : Addr) (cdv : Value) (A : Around) (outer : List Env) (s : Shared) (H : Hp) (E : XK) (G : Gh) (p : Addr × Obj) (hot : Hot1 A p) (hr : RoomH 0 (A.deeper (envOfC "_law_is_whole" (defScope s__law_is_whole) s.heap.objs.size f cdv))) (hp : ∀ p ∈ G.pins, p.1 ∈ ixs [false] 0) :
    DSs (cxH (L2N.CX P w) P w K mg base N__law_is_whole "_law_is_whole" (defScope s__law_is_whole) f cdv A outer s H E p) G (defBody s__law_is_whole) (w__law_is_whole NE) :=
  have sc := sc__law_is_whole
  have hp1 : HotP (cxH (L2N.CX P w) P w K mg base N__law_is_whole "_law_is_whole" (defScope s__law_is_whole) f cdv A outer s H E p) p := ⟨hot, List.mem_singleton.mpr rfl⟩
  have tk : Tk (cxH (L2N.CX P w) P w K mg base N__law_is_whole "_law_is_whole" (defScope s__law_is_whole) f cdv A outer s H E p) G NE := tk_none
  (dss_one (ds_ret (de_and (de_isi kit_int (by rfl) W.b_isinstance (by rfl) W.b_int (by rfl) (dv 0)) (de_one (de_not (de_isi kit_bool (by rfl) W.b_isinstance (by rfl) W.b_bool (by rfl) (dv 0)))))))
theorem ok__law_is_whole_h {P : Program} {w : World} {K : PySem.W.Frag} {mg : Str → Option Value} {base : Heap} (W : Wd P K mg) : HOk P w K mg base 1 "_law_is_whole" 1 [false] sp__law_is_whole :=
  hok_of (N := N__law_is_whole) (ps := P__law_is_whole) (k := 0) W.d__law_is_whole sc__law_is_whole rfl len__law_is_whole (fun _ _ _ _ _ _ us hl => match us, hl with | [_], _ => rfl) (d__law_is_whole_h W) (fun ds Q E h => pf__law_is_whole_h ds Q E h)

/-! _law_same hot -/
theorem d__law_same_h {P : Program} {w : World} {K : PySem.W.Frag} {mg : Str → Option Value} {base : Heap} (W : Wd P K mg)
    (f : Addr) (cdv : Value) (A : Around) (outer : List Env) (s : Shared) (H : Hp) (E : XK) (G : Gh) (p : Addr × Obj) (hot : Hot1 A p) (hr : RoomH 1 (A.deeper (envOfC "_law_same" (defScope s__law_same) s.heap.objs.size f cdv))) (hp : ∀ p ∈ G.pins, p.1 ∈ ixs [false, false] 0) :
    DSs (cxH (L2N.CX P w) P w K mg base N__law_same "_law_same" (defScope s__law_same) f cdv A outer s H E p) G (defBody s__law_same) (w__law_same NE) :=
  have sc := sc__law_same
  have hp1 : HotP (cxH (L2N.CX P w) P w K mg base N__law_same "_law_same" (defScope s__law_same) f cdv A outer s H E p) p := ⟨hot, List.mem_singleton.mpr rfl⟩
  have tk : Tk (cxH (L2N.CX P w) P w K mg base N__law_same "_law_same" (defScope s__law_same) f cdv A outer s H E p) G NE := tk_none
  (dss_cons (ds_set (i := 2) sc.nd (by rfl) (.inl rfl) (de_lst (da_cons (de_tup (da_cons (dv 0) (da_cons (dv 1) da_nil))) da_nil)) (pins_ne hp (by decide))) <|
  (dss_cons (ds_while (passes_of rfl) (dt_cmp op_gtD (de_callB call_lenD (by rfl) W.b_len (by rfl) (da_cons (dv 2) da_nil)) de_int (by rfl))
  (dss_cons (ds_set (i := 3) sc.nd (by rfl) (.inl rfl) (de_m0 lm_pop (by rfl) (.inl rfl) PySem.F.slot_list_pop (hty := PySem.F.type_list_pop)) (pins_ne hp (by decide))) <|
  (dss_cons (ds_set (i := 4) sc.nd (by rfl) (.inl rfl) (de_ix ixD (dv 3) de_int (by intro _ _; rfl)) (pins_ne hp (by decide))) <|
  (dss_cons (ds_set (i := 5) sc.nd (by rfl) (.inl rfl) (de_ix ixD (dv 3) de_int (by intro _ _; rfl)) (pins_ne hp (by decide))) <|
  (dss_one (ds_if (DW.dt (dw_or (dt_cmp op_isD (dv 5) de_non (by rfl)) (dw_or (dt_cmp op_isD (dv 5) de_bl (by rfl)) (dw_or1 (dt_cmp op_isD (dv 5) de_bl (by rfl))))))
  (dss_one (ds_if (dt_not (DW.dt (dw_or (DW.dt (dw_and (dt_cmp op_isD (dv 5) de_non (by rfl)) (dw_and1 (dt_cmp op_isD (dv 4) de_non (by rfl))))) (dw_or (DW.dt (dw_and (dt_cmp op_isD (dv 5) de_bl (by rfl)) (dw_and1 (dt_cmp op_isD (dv 4) de_bl (by rfl))))) (dw_or1 (DW.dt (dw_and (dt_cmp op_isD (dv 5) de_bl (by rfl)) (dw_and1 (dt_cmp op_isD (dv 4) de_bl (by rfl))))))))))
  (dss_one (ds_ret de_bl))
  dss_nil))
  (dss_one (ds_if (dt_val (de_isi kit_int (by rfl) W.b_isinstance (by rfl) W.b_int (by rfl) (dv 5)))
  (dss_one (ds_if (DW.dt (dw_or (dt_not (dt_val (de_fnH (ok__law_is_whole_h W) (hr.mono (by decide)) hp1 (by rfl) tk_none (da_cons (dv 4) da_nil)))) (dw_or1 (dt_cmp (op_neDD hr.units) (dv 4) (dv 5) (by rfl)))))
  (dss_one (ds_ret de_bl))
  dss_nil))
  (dss_one (ds_if (dt_val (de_isi kit_str (by rfl) W.b_isinstance (by rfl) W.b_str (by rfl) (dv 5)))
  (dss_one (ds_if (DW.dt (dw_or (dt_not (dt_val (de_isi kit_str (by rfl) W.b_isinstance (by rfl) W.b_str (by rfl) (dv 4)))) (dw_or1 (dt_cmp (op_neDD hr.units) (dv 4) (dv 5) (by rfl)))))
  (dss_one (ds_ret de_bl))
  dss_nil))
  (dss_cons (ds_if (DW.dt (dw_and (dt_val (de_isi kit_tuple (by rfl) W.b_isinstance (by rfl) W.b_tuple (by rfl) (dv 5))) (dw_and1 (dt_not (dt_val (de_isi kit_tuple (by rfl) W.b_isinstance (by rfl) W.b_tuple (by rfl) (dv 4)))))))
  (dss_one (ds_ret de_bl))
  dss_nil) <|
  (dss_cons (ds_if (DW.dt (dw_and (dt_val (de_isi kit_list (by rfl) W.b_isinstance (by rfl) W.b_list (by rfl) (dv 5))) (dw_and1 (dt_not (dt_val (de_isi kit_list (by rfl) W.b_isinstance (by rfl) W.b_list (by rfl) (dv 4)))))))
  (dss_one (ds_ret de_bl))
  dss_nil) <|
  (dss_cons (ds_if (dt_cmp (op_neDD hr.units) (de_callB call_lenD (by rfl) W.b_len (by rfl) (da_cons (dv 4) da_nil)) (de_callB call_lenD (by rfl) W.b_len (by rfl) (da_cons (dv 5) da_nil)) (by rfl))
  (dss_one (ds_ret de_bl))
  dss_nil) <|
  (dss_one (ds_forH (passes_of rfl) hp1 (di_rg1H (by rfl) W.b_range (de_callB call_lenD (by rfl) W.b_len (by rfl) (da_cons (dv 5) da_nil))) (dg_of tg_name (pg_name (i := 6) sc.nd (by rfl) (.inl rfl))) (fun G1 s1 => have hp := sub_pins s1 hp;
  (dss_one (ds_expr (de_m1 (m := false) lm_append (by rfl) (.inl rfl) PySem.F.slot_list_append (de_tup (da_cons (de_ix ixD (dv 4) (dv 6) (by intro _ _; rfl)) (da_cons (de_ix ixD (dv 5) (dv 6) (by intro _ _; rfl)) da_nil))) (hty := PySem.F.type_list_append))))) (pins_out hp (by decide))))))))))))))))) <|
  (dss_one (ds_ret de_bl))))
theorem ok__law_same_h {P : Program} {w : World} {K : PySem.W.Frag} {mg : Str → Option Value} {base : Heap} (W : Wd P K mg) : HOk P w K mg base 2 "_law_same" 2 [false, false] sp__law_same :=
  hok_of (N := N__law_same) (ps := P__law_same) (k := 1) W.d__law_same sc__law_same rfl len__law_same (fun _ _ _ _ _ _ us hl => match us, hl with | [_, _], _ => rfl) (d__law_same_h W) (fun ds Q E h => pf__law_same_h ds Q E h)

/-! _law_due_error err -/
abbrev s__law_due_error : Stmt := (top 63)
abbrev P__law_due_error : List Str := ["error", "due"]
theorem sc__law_due_error : FnScope N__law_due_error P__law_due_error (defScope s__law_due_error) := ⟨rfl, rfl, rfl, by decide +kernel, rfl, by decide +kernel, by decide +kernel⟩
theorem d__law_due_error_x {P : Program} {w : World} {K : PySem.W.Frag} {mg : Str → Option Value} {base : Heap} (W : Wd P K mg)
    (f : Addr) (cdv : Value) (A : Around) (outer : List Env) (s : Shared) (H : Hp) (E : XK) (G : Gh) (p : Addr × Obj) (c : Str) (fs : List (Str × D)) (hot : Hot1 A p) (hr : RoomH 2 (A.deeper (envOfC "_law_due_error" (defScope s__law_due_error) s.heap.objs.size f cdv))) (hp0 : ∀ p ∈ G.pins, p.1 = 0) (hc : c ∈ raised) (g : ErrG (cxH (L2N.CX P w) P w K mg base N__law_due_error "_law_due_error" (defScope s__law_due_error) f cdv A outer s H E p) G 0 p c fs) :
    DSs (cxH (L2N.CX P w) P w K mg base N__law_due_error "_law_due_error" (defScope s__law_due_error) f cdv A outer s H E p) G (defBody s__law_due_error) (w__law_due_error c fs) :=
  have sc := sc__law_due_error
  have hp : ∀ p ∈ G.pins, p.1 ∈ [0] := fun p h => List.mem_singleton.mpr (hp0 p h)
  have hp1 : HotP (cxH (L2N.CX P w) P w K mg base N__law_due_error "_law_due_error" (defScope s__law_due_error) f cdv A outer s H E p) p := ⟨hot, List.mem_singleton.mpr rfl⟩
  have tk : Tk (cxH (L2N.CX P w) P w K mg base N__law_due_error "_law_due_error" (defScope s__law_due_error) f cdv A outer s H E p) G NE := tk_none
  (dss_cons (ds_set (i := 2) sc.nd (by rfl) (.inl rfl) (de_lst da_nil) (pins_ne hp (by decide))) <|
  (dss_cons (ds_if (dt_val (de_errIs g (W.ex _ hc) (fun k h => W.kit _ "BadNumber" k (by decide) h) (by rfl) W.b_isinstance (by rfl) (.inl rfl) (by rfl) W.m_BadNumber))
  (dss_one (ds_expr (de_m1 (m := false) lm_append (by rfl) (.inl rfl) PySem.F.slot_list_append (de_tup (da_cons de_str (da_cons (de_errF g (W.xf _ hc) (fun _ => W.nof _ hc "value" (by decide)) (by rfl) (.inl rfl)) (da_cons (de_errF g (W.xf _ hc) (fun _ => W.nof _ hc "low" (by decide)) (by rfl) (.inl rfl)) (da_cons (de_errF g (W.xf _ hc) (fun _ => W.nof _ hc "high" (by decide)) (by rfl) (.inl rfl)) da_nil))))) (hty := PySem.F.type_list_append))))
  dss_nil) <|
  (dss_cons (ds_if (dt_val (de_errIs g (W.ex _ hc) (fun k h => W.kit _ "NotAMove" k (by decide) h) (by rfl) W.b_isinstance (by rfl) (.inl rfl) (by rfl) W.m_NotAMove))
  (dss_one (ds_expr (de_m1 (m := false) lm_append (by rfl) (.inl rfl) PySem.F.slot_list_append (de_tup (da_cons de_str (da_cons (de_errF g (W.xf _ hc) (fun _ => W.nof _ hc "index" (by decide)) (by rfl) (.inl rfl)) da_nil))) (hty := PySem.F.type_list_append))))
  dss_nil) <|
  (dss_cons (ds_if (dt_val (de_errIs g (W.ex _ hc) (fun k h => W.kit _ "TooMany" k (by decide) h) (by rfl) W.b_isinstance (by rfl) (.inl rfl) (by rfl) W.m_TooMany))
  (dss_one (ds_expr (de_m1 (m := false) lm_append (by rfl) (.inl rfl) PySem.F.slot_list_append (de_tup (da_cons de_str (da_cons (de_errF g (W.xf _ hc) (fun _ => W.nof _ hc "what" (by decide)) (by rfl) (.inl rfl)) (da_cons (de_errF g (W.xf _ hc) (fun _ => W.nof _ hc "limit" (by decide)) (by rfl) (.inl rfl)) da_nil)))) (hty := PySem.F.type_list_append))))
  dss_nil) <|
  (dss_cons (ds_if (dt_val (de_errIs g (W.ex _ hc) (fun k h => W.kit _ "NotACount" k (by decide) h) (by rfl) W.b_isinstance (by rfl) (.inl rfl) (by rfl) W.m_NotACount))
  (dss_one (ds_expr (de_m1 (m := false) lm_append (by rfl) (.inl rfl) PySem.F.slot_list_append (de_tup (da_cons de_str (da_cons (de_errF g (W.xf _ hc) (fun _ => W.nof _ hc "index" (by decide)) (by rfl) (.inl rfl)) da_nil))) (hty := PySem.F.type_list_append))))
  dss_nil) <|
  (dss_cons (ds_if (dt_val (de_errIsL (as := kl0.map (He.ga K)) g (W.ex _ hc) (fun k h => W.kitL _ k h) (by rfl) W.b_isinstance (by rfl) (.inl rfl) (.cons (by rfl) W.m_NotAPoint (by decide) (by rfl) (.cons (by rfl) W.m_UnlikeSizes (by decide) (by rfl) (.cons (by rfl) W.m_RepeatedPoint (by decide) (by rfl) (.cons (by rfl) W.m_BadText (by decide) (by rfl) (.cons (by rfl) W.m_NotMade (by decide) (by rfl) (.cons (by rfl) W.m_NotTight (by decide) (by rfl) (.cons (by rfl) W.m_NotFull (by decide) (by rfl) (.cons (by rfl) W.m_NotAFailing (by decide) (by rfl) (.cons (by rfl) W.m_NotNeighbours (by decide) (by rfl) (.cons (by rfl) W.m_NotShorter (by decide) (by rfl) (.cons (by rfl) W.m_SameLength (by decide) (by rfl) (.cons (by rfl) W.m_NoSuchLength (by decide) (by rfl) (.cons (by rfl) W.m_NotAnOrder (by decide) (by rfl) (.cons (by rfl) W.m_NotAChain (by decide) (by rfl) (.cons (by rfl) W.m_NotABase (by decide) (by rfl) (.cons (by rfl) W.m_NotInside (by decide) (by rfl) (.cons (by rfl) W.m_OrderMatters (by decide) (by rfl) (.cons (by rfl) W.m_FullLot (by decide) (by rfl) (.cons (by rfl) W.m_NotAWord (by decide) (by rfl) (.cons (by rfl) W.m_NotAColumn (by decide) (by rfl) (.cons (by rfl) W.m_GameOver (by decide) (by rfl) (.cons (by rfl) W.m_NotAllowed (by decide) (by rfl) (.cons (by rfl) W.m_NothingToUndo (by decide) (by rfl) (.cons (by rfl) W.m_NothingToRedo (by decide) (by rfl) (.cons (by rfl) W.m_NothingKept (by decide) (by rfl) (.cons (by rfl) W.m_BadEdit (by decide) (by rfl) (.cons (by rfl) W.m_UnknownName (by decide) (by rfl) (.cons (by rfl) W.m_NotAPaper (by decide) (by rfl) .nil)))))))))))))))))))))))))))) (by rw [List.length_map]; decide)))
  (dss_one (ds_ret de_bl))
  dss_nil) <|
  (dss_cons (ds_if (DW.dt (dw_or (dt_not (dt_val (de_errIs g (W.ex _ hc) (fun k h => W.kit _ "HeldorderError" k (by decide) h) (by rfl) W.b_isinstance (by rfl) (.inl rfl) (by rfl) W.m_HeldorderError))) (dw_or1 (dt_not (dt_val (de_errIsT (T := "ValueError") g (W.ex _ hc) (fun k h => W.kitT _ "ValueError" k (by decide) h) (by rfl) W.b_isinstance (by rfl) (.inl rfl) (by rfl) W.b_ValueError (by rfl)))))))
  (dss_one (ds_ret de_bl))
  dss_nil) <|
  (dss_one (ds_ret (de_fnH (ok__law_same_h W) (hr.mono (by decide)) hp1 (by rfl) tk_none (da_cons (dv 2) (da_cons (de_lst (da_cons (dv 1) da_nil)) da_nil))))))))))))
theorem ok__law_due_error_x {P : Program} {w : World} {K : PySem.W.Frag} {mg : Str → Option Value} {base : Heap} (W : Wd P K mg) : XHOk P w K mg base 3 "_law_due_error" 1 sp__law_due_error :=
  xhok_of (N := N__law_due_error) (ps := P__law_due_error) (k := 2) (ok := fun c => c ∈ raised) W.d__law_due_error sc__law_due_error rfl (fun _ _ _ _ _ _ us hl => match us, hl with | [_, _], _ => rfl) (fun c fs ds Q h => h.1) (d__law_due_error_x W) pf__law_due_error

/-! _law_refuses fn -/
abbrev s__law_refuses : Stmt := (top 67)
abbrev P__law_refuses : List Str := ["which", "one", "two", "due"]
theorem sc__law_refuses : FnScope N__law_refuses P__law_refuses (defScope s__law_refuses) := ⟨rfl, rfl, rfl, by decide +kernel, rfl, by decide +kernel, by decide +kernel⟩
theorem d__law_refuses {P : Program} {w : World} {K : PySem.W.Frag} {mg : Str → Option Value} {base : Heap} (W : Wd P K mg)
    (f : Addr) (cdv : Value) (A : Around) (outer : List Env) (s : Shared) (H : Hp) (E : XK) (G : Gh) (EW : EWt) (hr : Room 6 (A.deeper (envOfC "_law_refuses" (defScope s__law_refuses) s.heap.objs.size f cdv))) (hp : ∀ p ∈ G.pins, p.1 ∈ ixs [false, false, false, false] 0) (tk : Tk (cxOf (L2N.CX P w) P w K mg base N__law_refuses "_law_refuses" (defScope s__law_refuses) f cdv A outer s H E) G EW) :
    DSs (cxOf (L2N.CX P w) P w K mg base N__law_refuses "_law_refuses" (defScope s__law_refuses) f cdv A outer s H E) G (defBody s__law_refuses) (w__law_refuses EW) :=
  have sc := sc__law_refuses
  (dss_cons (ds_set (i := 4) sc.nd (by rfl) (.inl rfl) (de_ifExp (dt_val (de_isiI kit_list W.t_Tally W.ti_Tally_list (by rfl) W.b_isinstance (by rfl) W.b_list (by rfl) (dv 2))) (de_callTy call_listD (by rfl) W.b_list (by rfl) (da_cons (dv 2) da_nil)) de_non) (pins_ne hp (by decide))) <|
  (dss_cons (ds_try (i := 5) rfl rfl sc.nd (by rfl) (by rfl) ⟨by rfl, by decide, .inl W.m_HeldorderError⟩ tk (pins_ne hp (by decide)) (fun c b h => W.exm c b h)
  (fun EW pn xe tk px =>
  (dss_one (ds_if (dt_cmp (op_eqDD hr.units) (dv 0) de_int (by rfl))
  (dss_one (ds_expr (de_make (ok_Tally___init__ W) (hr.mono (by decide)) (by rfl) tk (da_cons (dv 2) da_nil))))
  (dss_one (ds_if (dt_cmp (op_eqDD hr.units) (dv 0) de_int (by rfl))
  (dss_one (ds_expr (de_meth (ok_Tally_at W) W.k_Tally (hr.mono (by decide)) tk (dv 1) (da_cons (dv 2) da_nil))))
  (dss_one (ds_if (dt_cmp (op_eqDD hr.units) (dv 0) de_int (by rfl))
  (dss_one (ds_expr (de_binOwn (ok_Tally___mul__ W) rfl (hr.mono (by decide)) tk (dv 1) (dv 2))))
  (dss_one (ds_expr (de_smeth (ok_Tally_of_moves W) (by rfl) (hr.mono (by decide)) tk (da_cons (dv 1) (da_cons (dv 2) da_nil))))))))))))
  (fun ae oe pn G c fs g hp1 epin hc0 => have hc := exm_mem hc0; have hr := roomH_mark hr _;
  (dss_one (ds_ret (de_and (de_errCall (ok__law_due_error_x W) g (hr.mono (by decide)) hp1 (by rfl) (by rfl) (.inl rfl) (da_cons (dv 3) da_nil)) (de_one (de_or (de_cmp op_isD (dv 4) de_non (by rfl)) (de_one (de_fnH (ok__law_same_h W) (hr.mono (by decide)) hp1 (by rfl) tk_none (da_cons (dv 2) (da_cons (dv 4) da_nil))))))))))) <|
  (dss_one (ds_ret de_bl))))
theorem ok__law_refuses {P : Program} {w : World} {K : PySem.W.Frag} {mg : Str → Option Value} {base : Heap} (W : Wd P K mg) : DOk P w K mg base 7 "_law_refuses" 4 [false, false, false, false] sp__law_refuses [] :=
  dok_of (N := N__law_refuses) (ps := P__law_refuses) (k := 6) W.d__law_refuses sc__law_refuses rfl len__law_refuses (fun _ _ _ _ _ _ us hl => match us, hl with | [_, _, _, _], _ => rfl) (d__law_refuses W) pf__law_refuses

/-! Tally___eq__ fn -/
abbrev s_Tally___eq__ : Stmt := (inTop 48 7)
abbrev P_Tally___eq__ : List Str := ["self", "other"]
theorem sc_Tally___eq__ : FnScope N_Tally___eq__ P_Tally___eq__ (defScope s_Tally___eq__) := ⟨rfl, rfl, rfl, by decide +kernel, rfl, by decide +kernel, by decide +kernel⟩
theorem d_Tally___eq__ {P : Program} {w : World} {K : PySem.W.Frag} {mg : Str → Option Value} {base : Heap} (W : Wd P K mg)
    (f : Addr) (cdv : Value) (A : Around) (outer : List Env) (s : Shared) (H : Hp) (E : XK) (G : Gh) (EW : EWt) (hr : Room 0 (A.deeper (envOfC "Tally.__eq__" (defScope s_Tally___eq__) s.heap.objs.size f cdv))) (hp : ∀ p ∈ G.pins, p.1 ∈ ixs [false, false] 0) (tk : Tk (cxOf (L2N.CX P w) P w K mg base N_Tally___eq__ "Tally.__eq__" (defScope s_Tally___eq__) f cdv A outer s H E) G EW) :
    DSs (cxOf (L2N.CX P w) P w K mg base N_Tally___eq__ "Tally.__eq__" (defScope s_Tally___eq__) f cdv A outer s H E) G (defBody s_Tally___eq__) (w_Tally___eq__ EW) :=
  have sc := sc_Tally___eq__
  (dss_one (ds_ret (de_and (de_isC W.t_Tally (by rfl) W.b_isinstance (by rfl) W.m_Tally (dv 1)) (de_one (de_cmp (op_eqDD hr.units) (de_fld W.k_Tally W.f_Tally_entries (dv 0)) (de_fld W.k_Tally W.f_Tally_entries (dv 1)) (by rfl))))))
theorem ok_Tally___eq__ {P : Program} {w : World} {K : PySem.W.Frag} {mg : Str → Option Value} {base : Heap} (W : Wd P K mg) : OpOk P w K mg base 1 "Tally" "__eq__" sp_Tally___eq__ :=
  opok_of (N := N_Tally___eq__) (ps := P_Tally___eq__) (k := 0) W.d_Tally___eq__ sc_Tally___eq__ rfl len_Tally___eq__ (fun _ _ _ _ _ _ us hl => match us, hl with | [_, _], _ => rfl) (d_Tally___eq__ W) pf_Tally___eq__

/-! _law_pair_right fn -/
abbrev s__law_pair_right : Stmt := (top 71)
abbrev P__law_pair_right : List Str := ["one", "two", "first", "second"]
theorem sc__law_pair_right : FnScope N__law_pair_right P__law_pair_right (defScope s__law_pair_right) := ⟨rfl, rfl, rfl, by decide +kernel, rfl, by decide +kernel, by decide +kernel⟩
theorem d__law_pair_right {P : Program} {w : World} {K : PySem.W.Frag} {mg : Str → Option Value} {base : Heap} (W : Wd P K mg)
    (f : Addr) (cdv : Value) (A : Around) (outer : List Env) (s : Shared) (H : Hp) (E : XK) (G : Gh) (EW : EWt) (hr : Room 7 (A.deeper (envOfC "_law_pair_right" (defScope s__law_pair_right) s.heap.objs.size f cdv))) (hp : ∀ p ∈ G.pins, p.1 ∈ ixs [false, false, false, false] 0) (tk : Tk (cxOf (L2N.CX P w) P w K mg base N__law_pair_right "_law_pair_right" (defScope s__law_pair_right) f cdv A outer s H E) G EW) :
    DSs (cxOf (L2N.CX P w) P w K mg base N__law_pair_right "_law_pair_right" (defScope s__law_pair_right) f cdv A outer s H E) G (defBody s__law_pair_right) (w__law_pair_right EW) :=
  have sc := sc__law_pair_right
  (dss_cons (ds_set (i := 4) sc.nd (by rfl) (.inl rfl) (de_fn (ok__law_unpacked W) (hr.mono (by decide)) (by rfl) tk (da_cons (de_bin op_addD (de_fn (ok__law_packed W) (hr.mono (by decide)) (by rfl) tk (da_cons (dv 2) da_nil)) (de_fn (ok__law_packed W) (hr.mono (by decide)) (by rfl) tk (da_cons (dv 3) da_nil))) (da_cons (de_callB (call_max2D rfl) (by rfl) W.b_max (by rfl) (da_cons (de_callB call_lenD (by rfl) W.b_len (by rfl) (da_cons (dv 2) da_nil)) (da_cons (de_callB call_lenD (by rfl) W.b_len (by rfl) (da_cons (dv 3) da_nil)) da_nil))) da_nil))) (pins_ne hp (by decide))) <|
  (dss_cons (ds_if (DW.dt (dw_or (dt_not (dt_val (de_fn (ok__law_tells W) (hr.mono (by decide)) (by rfl) tk (da_cons (de_binOwn (ok_Tally___add__ W) rfl (hr.mono (by decide)) tk (dv 0) (dv 1)) (da_cons (dv 4) da_nil))))) (dw_or1 (dt_not (dt_val (de_fn (ok__law_tells W) (hr.mono (by decide)) (by rfl) tk (da_cons (de_binOwn (ok_Tally___add__ W) rfl (hr.mono (by decide)) tk (dv 1) (dv 0)) (da_cons (dv 4) da_nil))))))))
  (dss_one (ds_ret de_bl))
  dss_nil) <|
  (dss_cons (ds_set (i := 5) sc.nd (by rfl) (.inl rfl) (de_bin op_subD (de_bin op_addD (de_callB call_lenD (by rfl) W.b_len (by rfl) (da_cons (dv 2) da_nil)) (de_callB call_lenD (by rfl) W.b_len (by rfl) (da_cons (dv 3) da_nil))) de_int) (pins_ne hp (by decide))) <|
  (dss_cons (ds_if (dt_cmp op_gtD (dv 5) de_int (by rfl))
  (dss_cons (ds_set (i := 6) sc.nd (by rfl) (.inl rfl) (de_tup (da_cons de_str (da_cons de_str (da_cons de_int da_nil)))) (pins_ne hp (by decide))) <|
  (dss_one (ds_ret (de_and (de_fn (ok__law_refuses W) (hr.mono (by decide)) (by rfl) tk (da_cons de_int (da_cons (dv 0) (da_cons (dv 1) (da_cons (dv 6) da_nil))))) (de_one (de_fn (ok__law_refuses W) (hr.mono (by decide)) (by rfl) tk (da_cons de_int (da_cons (dv 1) (da_cons (dv 0) (da_cons (dv 6) da_nil))))))))))
  dss_nil) <|
  (dss_cons (ds_set (i := 7) sc.nd (by rfl) (.inl rfl) (de_fn (ok__law_unpacked W) (hr.mono (by decide)) (by rfl) tk (da_cons (de_bin op_mulD (de_fn (ok__law_packed W) (hr.mono (by decide)) (by rfl) tk (da_cons (dv 2) da_nil)) (de_fn (ok__law_packed W) (hr.mono (by decide)) (by rfl) tk (da_cons (dv 3) da_nil))) (da_cons (dv 5) da_nil))) (pins_ne hp (by decide))) <|
  (dss_cons (ds_if (DW.dt (dw_or (dt_not (dt_val (de_fn (ok__law_tells W) (hr.mono (by decide)) (by rfl) tk (da_cons (de_binOwn (ok_Tally___mul__ W) rfl (hr.mono (by decide)) tk (dv 0) (dv 1)) (da_cons (dv 7) da_nil))))) (dw_or1 (dt_not (dt_val (de_fn (ok__law_tells W) (hr.mono (by decide)) (by rfl) tk (da_cons (de_binOwn (ok_Tally___mul__ W) rfl (hr.mono (by decide)) tk (dv 1) (dv 0)) (da_cons (dv 7) da_nil))))))))
  (dss_one (ds_ret de_bl))
  dss_nil) <|
  (dss_cons (ds_if (DW.dt (dw_or (dt_cmp op_isnD (de_eqOwn (OpOk.eq (ok_Tally___eq__ W) W.t_Tally W.nf_Tally) (hr.mono (by decide)) tk (de_binOwn (ok_Tally___mul__ W) rfl (hr.mono (by decide)) tk (dv 0) (dv 1)) (de_binOwn (ok_Tally___mul__ W) rfl (hr.mono (by decide)) tk (dv 1) (dv 0)) rfl) de_bl (by rfl)) (dw_or1 (dt_cmp op_isnD (de_neOwn (OpOk.eq (ok_Tally___eq__ W) W.t_Tally W.nf_Tally) W.ob_Tally W.ne_Tally (hr.mono (by decide)) tk (de_binOwn (ok_Tally___mul__ W) rfl (hr.mono (by decide)) tk (dv 0) (dv 1)) (de_binOwn (ok_Tally___mul__ W) rfl (hr.mono (by decide)) tk (dv 1) (dv 0)) rfl) de_bl (by rfl)))))
  (dss_one (ds_ret de_bl))
  dss_nil) <|
  (dss_one (ds_ret (de_and (de_fn (ok__law_tells W) (hr.mono (by decide)) (by rfl) tk (da_cons (dv 0) (da_cons (dv 2) da_nil))) (de_one (de_fn (ok__law_tells W) (hr.mono (by decide)) (by rfl) tk (da_cons (dv 1) (da_cons (dv 3) da_nil))))))))))))))
theorem ok__law_pair_right {P : Program} {w : World} {K : PySem.W.Frag} {mg : Str → Option Value} {base : Heap} (W : Wd P K mg) : DOk P w K mg base 8 "_law_pair_right" 4 [false, false, false, false] sp__law_pair_right [] :=
  dok_of (N := N__law_pair_right) (ps := P__law_pair_right) (k := 7) W.d__law_pair_right sc__law_pair_right rfl len__law_pair_right (fun _ _ _ _ _ _ us hl => match us, hl with | [_, _, _, _], _ => rfl) (d__law_pair_right W) pf__law_pair_right

/-! _law_equal_right fn -/
abbrev s__law_equal_right : Stmt := (top 73)
abbrev P__law_equal_right : List Str := ["one", "two", "first", "second"]
theorem sc__law_equal_right : FnScope N__law_equal_right P__law_equal_right (defScope s__law_equal_right) := ⟨rfl, rfl, rfl, by decide +kernel, rfl, by decide +kernel, by decide +kernel⟩
theorem d__law_equal_right {P : Program} {w : World} {K : PySem.W.Frag} {mg : Str → Option Value} {base : Heap} (W : Wd P K mg)
    (f : Addr) (cdv : Value) (A : Around) (outer : List Env) (s : Shared) (H : Hp) (E : XK) (G : Gh) (EW : EWt) (hr : Room 6 (A.deeper (envOfC "_law_equal_right" (defScope s__law_equal_right) s.heap.objs.size f cdv))) (hp : ∀ p ∈ G.pins, p.1 ∈ ixs [false, false, false, false] 0) (tk : Tk (cxOf (L2N.CX P w) P w K mg base N__law_equal_right "_law_equal_right" (defScope s__law_equal_right) f cdv A outer s H E) G EW) :
    DSs (cxOf (L2N.CX P w) P w K mg base N__law_equal_right "_law_equal_right" (defScope s__law_equal_right) f cdv A outer s H E) G (defBody s__law_equal_right) (w__law_equal_right EW) :=
  have sc := sc__law_equal_right
  (dss_cons (ds_set (i := 4) sc.nd (by rfl) (.inl rfl) (de_cmp (op_eqDD hr.units) (dv 2) (dv 3) (by rfl)) (pins_ne hp (by decide))) <|
  (dss_cons (ds_if (dt_not (dt_val (de_fn (ok__law_same W) (hr.mono (by decide)) (by rfl) tk (da_cons (de_lst (da_cons (de_eqOwn (OpOk.eq (ok_Tally___eq__ W) W.t_Tally W.nf_Tally) (hr.mono (by decide)) tk (dv 0) (dv 1) rfl) (da_cons (de_eqOwn (OpOk.eq (ok_Tally___eq__ W) W.t_Tally W.nf_Tally) (hr.mono (by decide)) tk (dv 1) (dv 0) rfl) (da_cons (de_neOwn (OpOk.eq (ok_Tally___eq__ W) W.t_Tally W.nf_Tally) W.ob_Tally W.ne_Tally (hr.mono (by decide)) tk (dv 0) (dv 1) rfl) da_nil)))) (da_cons (de_lst (da_cons (dv 4) (da_cons (dv 4) (da_cons (de_not (dv 4)) da_nil)))) da_nil)))))
  (dss_one (ds_ret de_bl))
  dss_nil) <|
  (dss_cons (ds_if (DW.dt (dw_or (dt_cmp op_isnD (de_eqOwn (OpOk.eq (ok_Tally___eq__ W) W.t_Tally W.nf_Tally) (hr.mono (by decide)) tk (dv 0) (de_make (ok_Tally___init__ W) (hr.mono (by decide)) (by rfl) tk (da_cons (dv 2) da_nil)) rfl) de_bl (by rfl)) (dw_or1 (dt_cmp op_isnD (de_eqOwn (OpOk.eq (ok_Tally___eq__ W) W.t_Tally W.nf_Tally) (hr.mono (by decide)) tk (de_make (ok_Tally___init__ W) (hr.mono (by decide)) (by rfl) tk (da_cons (de_prop (ok_Tally_counts W) W.k_Tally (hr.mono (by decide)) (dv 0)) da_nil)) (dv 0) rfl) de_bl (by rfl)))))
  (dss_one (ds_ret de_bl))
  dss_nil) <|
  (dss_cons (ds_for (passes_of rfl) rfl (di_seq (de_lst (da_cons (dv 2) (da_cons (de_callTy call_tupleD (by rfl) W.b_tuple (by rfl) (da_cons (dv 2) da_nil)) (da_cons (de_callB call_lenD (by rfl) W.b_len (by rfl) (da_cons (dv 2) da_nil)) (da_cons (de_ix ixD (dv 2) de_int (by intro _ _; rfl)) (da_cons de_non (da_cons de_str (da_cons de_bl da_nil))))))))) (dg_of tg_name (pg_name (i := 5) sc.nd (by rfl) (.inl rfl))) (fun G1 s1 => have hp := sub_pins s1 hp; have tk := Tk.sub tk s1;
  (dss_one (ds_if (DW.dt (dw_or (dt_cmp op_isnD (de_eqOwn (OpOk.eq (ok_Tally___eq__ W) W.t_Tally W.nf_Tally) (hr.mono (by decide)) tk (dv 0) (dv 5) rfl) de_bl (by rfl)) (dw_or1 (dt_cmp op_isnD (de_neOwn (OpOk.eq (ok_Tally___eq__ W) W.t_Tally W.nf_Tally) W.ob_Tally W.ne_Tally (hr.mono (by decide)) tk (dv 0) (dv 5) rfl) de_bl (by rfl)))))
  (dss_one (ds_ret de_bl))
  dss_nil))) (pins_out hp (by decide))) <|
  (dss_one (ds_ret (de_and (de_cmp op_isD (de_eqOwn (OpOk.eq (ok_Tally___eq__ W) W.t_Tally W.nf_Tally) (hr.mono (by decide)) tk (de_binOwn (ok_Tally___mul__ W) rfl (hr.mono (by decide)) tk (dv 0) (de_make (ok_Tally___init__ W) (hr.mono (by decide)) (by rfl) tk (da_cons (de_lst (da_cons de_int da_nil)) da_nil))) (dv 0) rfl) de_bl (by rfl)) (de_one (de_cmp op_isD (de_eqOwn (OpOk.eq (ok_Tally___eq__ W) W.t_Tally W.nf_Tally) (hr.mono (by decide)) tk (de_binOwn (ok_Tally___add__ W) rfl (hr.mono (by decide)) tk (dv 0) (de_make (ok_Tally___init__ W) (hr.mono (by decide)) (by rfl) tk (da_cons (de_tup (da_cons de_int da_nil)) da_nil))) (dv 0) rfl) de_bl (by rfl))))))))))
theorem ok__law_equal_right {P : Program} {w : World} {K : PySem.W.Frag} {mg : Str → Option Value} {base : Heap} (W : Wd P K mg) : DOk P w K mg base 7 "_law_equal_right" 4 [false, false, false, false] sp__law_equal_right [] :=
  dok_of (N := N__law_equal_right) (ps := P__law_equal_right) (k := 6) W.d__law_equal_right sc__law_equal_right rfl len__law_equal_right (fun _ _ _ _ _ _ us hl => match us, hl with | [_, _, _, _], _ => rfl) (d__law_equal_right W) pf__law_equal_right

/-! _law_three_right fn -/
abbrev s__law_three_right : Stmt := (top 72)
abbrev P__law_three_right : List Str := ["one", "two", "three", "first", "second", "third"]
theorem sc__law_three_right : FnScope N__law_three_right P__law_three_right (defScope s__law_three_right) := ⟨rfl, rfl, rfl, by decide +kernel, rfl, by decide +kernel, by decide +kernel⟩
theorem d__law_three_right {P : Program} {w : World} {K : PySem.W.Frag} {mg : Str → Option Value} {base : Heap} (W : Wd P K mg)
    (f : Addr) (cdv : Value) (A : Around) (outer : List Env) (s : Shared) (H : Hp) (E : XK) (G : Gh) (EW : EWt) (hr : Room 6 (A.deeper (envOfC "_law_three_right" (defScope s__law_three_right) s.heap.objs.size f cdv))) (hp : ∀ p ∈ G.pins, p.1 ∈ ixs [false, false, false, false, false, false] 0) (tk : Tk (cxOf (L2N.CX P w) P w K mg base N__law_three_right "_law_three_right" (defScope s__law_three_right) f cdv A outer s H E) G EW) :
    DSs (cxOf (L2N.CX P w) P w K mg base N__law_three_right "_law_three_right" (defScope s__law_three_right) f cdv A outer s H E) G (defBody s__law_three_right) (w__law_three_right EW) :=
  have sc := sc__law_three_right
  (dss_cons (ds_set (i := 6) sc.nd (by rfl) (.inl rfl) (de_callB (call_max2D rfl) (by rfl) W.b_max (by rfl) (da_cons (de_callB call_lenD (by rfl) W.b_len (by rfl) (da_cons (dv 3) da_nil)) (da_cons (de_callB call_lenD (by rfl) W.b_len (by rfl) (da_cons (dv 4) da_nil)) da_nil))) (pins_ne hp (by decide))) <|
  (dss_cons (ds_if (dt_cmp op_leD (de_bin op_subD (de_bin op_addD (dv 6) (de_callB call_lenD (by rfl) W.b_len (by rfl) (da_cons (dv 5) da_nil))) de_int) de_int (by rfl))
  (dss_cons (ds_set (i := 7) sc.nd (by rfl) (.inl rfl) (de_bin op_mulD (de_bin op_addD (de_fn (ok__law_packed W) (hr.mono (by decide)) (by rfl) tk (da_cons (dv 3) da_nil)) (de_fn (ok__law_packed W) (hr.mono (by decide)) (by rfl) tk (da_cons (dv 4) da_nil))) (de_fn (ok__law_packed W) (hr.mono (by decide)) (by rfl) tk (da_cons (dv 5) da_nil))) (pins_ne hp (by decide))) <|
  (dss_one (ds_if (dt_not (dt_val (de_fn (ok__law_tells W) (hr.mono (by decide)) (by rfl) tk (da_cons (de_binOwn (ok_Tally___mul__ W) rfl (hr.mono (by decide)) tk (de_binOwn (ok_Tally___add__ W) rfl (hr.mono (by decide)) tk (dv 0) (dv 1)) (dv 2)) (da_cons (de_fn (ok__law_unpacked W) (hr.mono (by decide)) (by rfl) tk (da_cons (dv 7) (da_cons (de_bin op_subD (de_bin op_addD (dv 6) (de_callB call_lenD (by rfl) W.b_len (by rfl) (da_cons (dv 5) da_nil))) de_int) da_nil))) da_nil)))))
  (dss_one (ds_ret de_bl))
  dss_nil)))
  dss_nil) <|
  (dss_cons (ds_set (i := 8) sc.nd (by rfl) (.inl rfl) (de_bin op_subD (de_bin op_addD (de_bin op_addD (de_callB call_lenD (by rfl) W.b_len (by rfl) (da_cons (dv 3) da_nil)) (de_callB call_lenD (by rfl) W.b_len (by rfl) (da_cons (dv 4) da_nil))) (de_callB call_lenD (by rfl) W.b_len (by rfl) (da_cons (dv 5) da_nil))) de_int) (pins_ne hp (by decide))) <|
  (dss_cons (ds_if (dt_cmp op_leD (dv 8) de_int (by rfl))
  (dss_cons (ds_set (i := 7) sc.nd (by rfl) (.inl rfl) (de_bin op_mulD (de_bin op_mulD (de_fn (ok__law_packed W) (hr.mono (by decide)) (by rfl) tk (da_cons (dv 3) da_nil)) (de_fn (ok__law_packed W) (hr.mono (by decide)) (by rfl) tk (da_cons (dv 4) da_nil))) (de_fn (ok__law_packed W) (hr.mono (by decide)) (by rfl) tk (da_cons (dv 5) da_nil))) (pins_ne hp (by decide))) <|
  (dss_cons (ds_if (dt_not (dt_val (de_fn (ok__law_tells W) (hr.mono (by decide)) (by rfl) tk (da_cons (de_binOwn (ok_Tally___mul__ W) rfl (hr.mono (by decide)) tk (de_binOwn (ok_Tally___mul__ W) rfl (hr.mono (by decide)) tk (dv 0) (dv 1)) (dv 2)) (da_cons (de_fn (ok__law_unpacked W) (hr.mono (by decide)) (by rfl) tk (da_cons (dv 7) (da_cons (dv 8) da_nil))) da_nil)))))
  (dss_one (ds_ret de_bl))
  dss_nil) <|
  (dss_one (ds_if (dt_not (dt_val (de_fn (ok__law_tells W) (hr.mono (by decide)) (by rfl) tk (da_cons (de_binOwn (ok_Tally___mul__ W) rfl (hr.mono (by decide)) tk (dv 2) (de_binOwn (ok_Tally___mul__ W) rfl (hr.mono (by decide)) tk (dv 1) (dv 0))) (da_cons (de_fn (ok__law_unpacked W) (hr.mono (by decide)) (by rfl) tk (da_cons (dv 7) (da_cons (dv 8) da_nil))) da_nil)))))
  (dss_one (ds_ret de_bl))
  dss_nil))))
  dss_nil) <|
  (dss_one (ds_ret (de_fn (ok__law_tells W) (hr.mono (by decide)) (by rfl) tk (da_cons (dv 2) (da_cons (dv 5) da_nil)))))))))
theorem ok__law_three_right {P : Program} {w : World} {K : PySem.W.Frag} {mg : Str → Option Value} {base : Heap} (W : Wd P K mg) : DOk P w K mg base 7 "_law_three_right" 6 [false, false, false, false, false, false] sp__law_three_right [] :=
  dok_of (N := N__law_three_right) (ps := P__law_three_right) (k := 6) W.d__law_three_right sc__law_three_right rfl len__law_three_right (fun _ _ _ _ _ _ us hl => match us, hl with | [_, _, _, _, _, _], _ => rfl) (d__law_three_right W) pf__law_three_right

/-! _law_bad_counts fn -/
abbrev s__law_bad_counts : Stmt := (top 62)
abbrev P__law_bad_counts : List Str := ["store", "counts"]
theorem sc__law_bad_counts : FnScope N__law_bad_counts P__law_bad_counts (defScope s__law_bad_counts) := ⟨rfl, rfl, rfl, by decide +kernel, rfl, by decide +kernel, by decide +kernel⟩
theorem d__law_bad_counts {P : Program} {w : World} {K : PySem.W.Frag} {mg : Str → Option Value} {base : Heap} (W : Wd P K mg)
    (f : Addr) (cdv : Value) (A : Around) (outer : List Env) (s : Shared) (H : Hp) (E : XK) (G : Gh) (EW : EWt) (hr : Room 3 (A.deeper (envOfC "_law_bad_counts" (defScope s__law_bad_counts) s.heap.objs.size f cdv))) (hp : ∀ p ∈ G.pins, p.1 ∈ ixs [true, false] 0) (tk : Tk (cxOf (L2N.CX P w) P w K mg base N__law_bad_counts "_law_bad_counts" (defScope s__law_bad_counts) f cdv A outer s H E) G EW) :
    DSs (cxOf (L2N.CX P w) P w K mg base N__law_bad_counts "_law_bad_counts" (defScope s__law_bad_counts) f cdv A outer s H E) G (defBody s__law_bad_counts) (w__law_bad_counts EW) :=
  have sc := sc__law_bad_counts
  (dss_cons (ds_set (i := 2) sc.nd (by rfl) (.inl rfl) (de_fn (ok__law_take W) (hr.mono (by decide)) (by rfl) tk (da_cons (dv 0) (da_cons de_int da_nil))) (pins_ne hp (by decide))) <|
  (dss_cons (ds_if (dt_cmp (op_eqDD hr.units) (dv 2) de_int (by rfl))
  (dss_one (ds_ret (de_lst (da_cons (de_fn (ok__law_either W) (hr.mono (by decide)) (by rfl) tk (da_cons (dv 0) (da_cons (de_lst da_nil) da_nil))) (da_cons (de_tup (da_cons de_str (da_cons de_int (da_cons de_int (da_cons de_int da_nil))))) da_nil)))))
  dss_nil) <|
  (dss_cons (ds_if (dt_cmp (op_eqDD hr.units) (dv 2) de_int (by rfl))
  (dss_cons (ds_set (i := 3) sc.nd (by rfl) (.inl rfl) (de_bin op_addD de_int (de_fn (ok__law_take W) (hr.mono (by decide)) (by rfl) tk (da_cons (dv 0) (da_cons de_int da_nil)))) (pins_ne hp (by decide))) <|
  (dss_cons (ds_set (i := 4) sc.nd (by rfl) (.inl rfl) (de_fn (ok__law_pick W) (hr.mono (by decide)) (by rfl) tk (da_cons (dv 0) (da_cons (de_lst (da_cons de_int (da_cons (de_un un_negD de_int) (da_cons de_int (da_cons de_non da_nil))))) da_nil))) (pins_ne hp (by decide))) <|
  (dss_one (ds_ret (de_lst (da_cons (de_fn (ok__law_either W) (hr.mono (by decide)) (by rfl) tk (da_cons (dv 0) (da_cons (de_bin op_mulD (de_lst (da_cons (dv 4) da_nil)) (dv 3)) da_nil))) (da_cons (de_tup (da_cons de_str (da_cons (dv 3) (da_cons de_int (da_cons de_int da_nil))))) da_nil)))))))
  dss_nil) <|
  (dss_cons (ds_set (i := 5) sc.nd (by rfl) (.inl rfl) (de_callTy call_listD (by rfl) W.b_list (by rfl) (da_cons (dv 1) da_nil)) (pins_ne hp (by decide))) <|
  (dss_cons (ds_set (i := 6) sc.nd (by rfl) (.inl rfl) (de_lst (da_cons (de_un un_negD de_int) (da_cons (de_bin op_subD (de_un un_negD de_int) (de_fn (ok__law_take W) (hr.mono (by decide)) (by rfl) tk (da_cons (dv 0) (da_cons (de_bin op_powD de_int de_int) da_nil)))) (da_cons de_bl (da_cons de_bl (da_cons de_non (da_cons de_str (da_cons de_str (da_cons (de_tup (da_cons de_int da_nil)) (da_cons (de_lst (da_cons de_int da_nil)) da_nil)))))))))) (pins_ne hp (by decide))) <|
  (dss_cons (ds_set (i := 7) sc.nd (by rfl) (.inl rfl) (de_fn (ok__law_place W) (hr.mono (by decide)) (by rfl) tk (da_cons (dv 0) (da_cons (de_callB call_lenD (by rfl) W.b_len (by rfl) (da_cons (dv 5) da_nil)) da_nil))) (pins_ne hp (by decide))) <|
  (dss_cons (ds_putL (m := false) (i := 5) (by rfl) (.inl rfl) (de_fn (ok__law_pick W) (hr.mono (by decide)) (by rfl) tk (da_cons (dv 0) (da_cons (dv 6) da_nil))) (dv 7)) <|
  (dss_cons (ds_if (DW.dt (dw_and (dt_cmp (op_eqDD hr.units) (de_fn (ok__law_take W) (hr.mono (by decide)) (by rfl) tk (da_cons (dv 0) (da_cons de_int da_nil))) de_int (by rfl)) (dw_and1 (dt_cmp op_ltD (de_bin op_addD (dv 7) de_int) (de_callB call_lenD (by rfl) W.b_len (by rfl) (da_cons (dv 5) da_nil)) (by rfl)))))
  (dss_one (ds_putL (m := false) (i := 5) (by rfl) (.inl rfl) (de_fn (ok__law_pick W) (hr.mono (by decide)) (by rfl) tk (da_cons (dv 0) (da_cons (dv 6) da_nil))) (de_un un_negD de_int)))
  dss_nil) <|
  (dss_one (ds_ret (de_lst (da_cons (de_fn (ok__law_either W) (hr.mono (by decide)) (by rfl) tk (da_cons (dv 0) (da_cons (dv 5) da_nil))) (da_cons (de_tup (da_cons de_str (da_cons (dv 7) da_nil))) da_nil)))))))))))))
theorem ok__law_bad_counts {P : Program} {w : World} {K : PySem.W.Frag} {mg : Str → Option Value} {base : Heap} (W : Wd P K mg) : DOk P w K mg base 4 "_law_bad_counts" 2 [true, false] sp__law_bad_counts [] :=
  dok_of (N := N__law_bad_counts) (ps := P__law_bad_counts) (k := 3) W.d__law_bad_counts sc__law_bad_counts rfl len__law_bad_counts (fun _ _ _ _ _ _ us hl => match us, hl with | [_, _], _ => rfl) (d__law_bad_counts W) pf__law_bad_counts

/-! _law_drawn fn -/
abbrev s__law_drawn : Stmt := (top 55)
abbrev P__law_drawn : List Str := ["store", "things", "many"]
theorem sc__law_drawn : FnScope N__law_drawn P__law_drawn (defScope s__law_drawn) := ⟨rfl, rfl, rfl, by decide +kernel, rfl, by decide +kernel, by decide +kernel⟩
theorem d__law_drawn {P : Program} {w : World} {K : PySem.W.Frag} {mg : Str → Option Value} {base : Heap} (W : Wd P K mg)
    (f : Addr) (cdv : Value) (A : Around) (outer : List Env) (s : Shared) (H : Hp) (E : XK) (G : Gh) (EW : EWt) (hr : Room 2 (A.deeper (envOfC "_law_drawn" (defScope s__law_drawn) s.heap.objs.size f cdv))) (hp : ∀ p ∈ G.pins, p.1 ∈ ixs [true, true, false] 0) (tk : Tk (cxOf (L2N.CX P w) P w K mg base N__law_drawn "_law_drawn" (defScope s__law_drawn) f cdv A outer s H E) G EW) :
    DSs (cxOf (L2N.CX P w) P w K mg base N__law_drawn "_law_drawn" (defScope s__law_drawn) f cdv A outer s H E) G (defBody s__law_drawn) (w__law_drawn EW) :=
  have sc := sc__law_drawn
  (dss_cons (ds_set (i := 3) sc.nd (by rfl) (.inl rfl) (de_callTy call_listD (by rfl) W.b_list (by rfl) (da_cons (dv 1) da_nil)) (pins_ne hp (by decide))) <|
  (dss_cons (ds_set (i := 4) sc.nd (by rfl) (.inl rfl) (de_lst da_nil) (pins_ne hp (by decide))) <|
  (dss_cons (ds_for (passes_of rfl) rfl (di_rg1 (by rfl) W.b_range (de_callB (call_min2D rfl) (by rfl) W.b_min (by rfl) (da_cons (dv 2) (da_cons (de_callB call_lenD (by rfl) W.b_len (by rfl) (da_cons (dv 3) da_nil)) da_nil)))) (dg_of tg_name (pg_name (i := 5) sc.nd (by rfl) (.inl rfl))) (fun G1 s1 => have hp := sub_pins s1 hp; have tk := Tk.sub tk s1;
  (dss_cons (ds_set (i := 6) sc.nd (by rfl) (.inl rfl) (de_fn (ok__law_take W) (hr.mono (by decide)) (by rfl) tk (da_cons (dv 0) (da_cons (de_callB call_lenD (by rfl) W.b_len (by rfl) (da_cons (dv 3) da_nil)) da_nil))) (pins_ne hp (by decide))) <|
  (dss_one (ds_expr (de_m1 (m := false) lm_append (by rfl) (.inl rfl) PySem.F.slot_list_append (de_m1 (m := false) lm_pop (by rfl) (.inl rfl) PySem.F.slot_list_pop (dv 6) (hty := PySem.F.type_list_pop)) (hty := PySem.F.type_list_append)))))) (pins_out hp (by decide))) <|
  (dss_one (ds_ret (dv 4))))))
theorem ok__law_drawn {P : Program} {w : World} {K : PySem.W.Frag} {mg : Str → Option Value} {base : Heap} (W : Wd P K mg) : DOk P w K mg base 3 "_law_drawn" 3 [true, true, false] sp__law_drawn [] :=
  dok_of (N := N__law_drawn) (ps := P__law_drawn) (k := 2) W.d__law_drawn sc__law_drawn rfl len__law_drawn (fun _ _ _ _ _ _ us hl => match us, hl with | [_, _, _], _ => rfl) (d__law_drawn W) pf__law_drawn

/-! _law_move fn -/
abbrev s__law_move : Stmt := (top 60)
abbrev P__law_move : List Str := ["store", "points"]
theorem sc__law_move : FnScope N__law_move P__law_move (defScope s__law_move) := ⟨rfl, rfl, rfl, by decide +kernel, rfl, by decide +kernel, by decide +kernel⟩
theorem d__law_move {P : Program} {w : World} {K : PySem.W.Frag} {mg : Str → Option Value} {base : Heap} (W : Wd P K mg)
    (f : Addr) (cdv : Value) (A : Around) (outer : List Env) (s : Shared) (H : Hp) (E : XK) (G : Gh) (EW : EWt) (hr : Room 3 (A.deeper (envOfC "_law_move" (defScope s__law_move) s.heap.objs.size f cdv))) (hp : ∀ p ∈ G.pins, p.1 ∈ ixs [true, false] 0) (tk : Tk (cxOf (L2N.CX P w) P w K mg base N__law_move "_law_move" (defScope s__law_move) f cdv A outer s H E) G EW) :
    DSs (cxOf (L2N.CX P w) P w K mg base N__law_move "_law_move" (defScope s__law_move) f cdv A outer s H E) G (defBody s__law_move) (w__law_move EW) :=
  have sc := sc__law_move
  (dss_cons (ds_set (i := 2) sc.nd (by rfl) (.inl rfl) (de_fn (ok__law_take W) (hr.mono (by decide)) (by rfl) tk (da_cons (dv 0) (da_cons de_int da_nil))) (pins_ne hp (by decide))) <|
  (dss_cons (ds_set (i := 3) sc.nd (by rfl) (.inl rfl) (de_rgLst1 rfl (by rfl) W.b_list (by rfl) W.b_range (dv 1)) (pins_ne hp (by decide))) <|
  (dss_cons (ds_if (DW.dt (dw_or (dt_cmp (op_eqDD hr.units) (dv 2) de_int (by rfl)) (dw_or1 (dt_cmp op_ltD (dv 1) de_int (by rfl)))))
  (dss_one (ds_ret (de_callTy call_tupleD (by rfl) W.b_tuple (by rfl) (da_cons (dv 3) da_nil))))
  dss_nil) <|
  (dss_cons (ds_if (dt_cmp op_ltD (dv 2) de_int (by rfl))
  (dss_cons (ds_set (i := 4) sc.nd (by rfl) (.inl rfl) de_int (pins_ne hp (by decide))) <|
  (dss_cons (ds_if (dt_cmp op_gtD (dv 2) de_int (by rfl))
  (dss_one (ds_set (i := 4) sc.nd (by rfl) (.inl rfl) (de_bin op_addD de_int (de_fn (ok__law_take W) (hr.mono (by decide)) (by rfl) tk (da_cons (dv 0) (da_cons (de_bin op_subD (dv 1) de_int) da_nil)))) (pins_ne hp (by decide))))
  dss_nil) <|
  (dss_cons (ds_set (i := 5) sc.nd (by rfl) (.inl rfl) (de_fn (ok__law_drawn W) (hr.mono (by decide)) (by rfl) tk (da_cons (dv 0) (da_cons (dv 3) (da_cons (dv 4) da_nil)))) (pins_ne hp (by decide))) <|
  (dss_cons (ds_for (passes_of rfl) rfl (di_rg1 (by rfl) W.b_range (dv 4)) (dg_of tg_name (pg_name (i := 6) sc.nd (by rfl) (.inl rfl))) (fun G1 s1 => have hp := sub_pins s1 hp; have tk := Tk.sub tk s1;
  (dss_one (ds_putL (m := false) (i := 3) (by rfl) (.inl rfl) (de_ix ixD (dv 5) (de_bin op_modD (de_callTy call_intD (by rfl) W.b_int (by rfl) (da_cons (de_bin op_addD (dv 6) de_int) da_nil)) (dv 4)) (by intro _ _; rfl)) (de_ix ixD (dv 5) (dv 6) (by intro _ _; rfl))))) (pins_out hp (by decide))) <|
  (dss_one (ds_ret (de_callTy call_tupleD (by rfl) W.b_tuple (by rfl) (da_cons (dv 3) da_nil))))))))
  dss_nil) <|
  (dss_cons (ds_if (dt_cmp (op_eqDD hr.units) (dv 2) de_int (by rfl))
  (dss_cons (ds_set (i := 7) sc.nd (by rfl) (.inr rfl) (de_bin op_addD de_int (de_fn (ok__law_take W) (hr.mono (by decide)) (by rfl) tk (da_cons (dv 0) (da_cons (de_bin op_subD (dv 1) de_int) da_nil)))) (pins_ne hp (by decide))) <|
  (dss_one (ds_ret (de_callTy call_tupleD (by rfl) W.b_tuple (by rfl) (da_cons (de_lc rfl sc.nd (di_rg1 (by rfl) W.b_range (dv 1)) (own := [("k", 6)]) (show BlkOk N__law_move (defScope s__law_move) _ _ from ⟨rfl, by decide +kernel, by decide +kernel, by decide +kernel, by decide +kernel⟩) (by decide) (by decide) tg_name (fun _ _ _ _ _ => (pg_name (i := 6) sc.nd (by rfl) (by first | exact .inl rfl | exact .inr rfl))) (fun _ _ _ _ _ _ => dts_nil) (fun _ _ _ _ _ _ => (de_bin op_modD (de_callTy call_intD (by rfl) W.b_int (by rfl) (da_cons (de_bin op_addD (dv 6) (dv 7)) da_nil)) (dv 1)))) da_nil)))))
  dss_nil) <|
  (dss_cons (ds_if (dt_cmp (op_eqDD hr.units) (dv 2) de_int (by rfl))
  (dss_one (ds_ret (de_callTy call_tupleD (by rfl) W.b_tuple (by rfl) (da_cons (de_lc rfl sc.nd (di_rg1 (by rfl) W.b_range (dv 1)) (own := [("k", 6)]) (show BlkOk N__law_move (defScope s__law_move) _ _ from ⟨rfl, by decide +kernel, by decide +kernel, by decide +kernel, by decide +kernel⟩) (by decide) (by decide) tg_name (fun _ _ _ _ _ => (pg_name (i := 6) sc.nd (by rfl) (by first | exact .inl rfl | exact .inr rfl))) (fun _ _ _ _ _ _ => dts_nil) (fun _ _ _ _ _ _ => (de_bin op_subD (de_bin op_subD (dv 1) de_int) (dv 6)))) da_nil))))
  dss_nil) <|
  (dss_one (ds_ret (de_callTy call_tupleD (by rfl) W.b_tuple (by rfl) (da_cons (de_fn (ok__law_drawn W) (hr.mono (by decide)) (by rfl) tk (da_cons (dv 0) (da_cons (dv 3) (da_cons (dv 1) da_nil)))) da_nil))))))))))
theorem ok__law_move {P : Program} {w : World} {K : PySem.W.Frag} {mg : Str → Option Value} {base : Heap} (W : Wd P K mg) : DOk P w K mg base 4 "_law_move" 2 [true, false] sp__law_move [] :=
  dok_of (N := N__law_move) (ps := P__law_move) (k := 3) W.d__law_move sc__law_move rfl len__law_move (fun _ _ _ _ _ _ us hl => match us, hl with | [_, _], _ => rfl) (d__law_move W) pf__law_move

/-! _law_wrong_moves fn -/
abbrev s__law_wrong_moves : Stmt := (top 68)
abbrev P__law_wrong_moves : List Str := ["store", "points", "moves"]
theorem sc__law_wrong_moves : FnScope N__law_wrong_moves P__law_wrong_moves (defScope s__law_wrong_moves) := ⟨rfl, rfl, rfl, by decide +kernel, rfl, by decide +kernel, by decide +kernel⟩
theorem d__law_wrong_moves {P : Program} {w : World} {K : PySem.W.Frag} {mg : Str → Option Value} {base : Heap} (W : Wd P K mg)
    (f : Addr) (cdv : Value) (A : Around) (outer : List Env) (s : Shared) (H : Hp) (E : XK) (G : Gh) (EW : EWt) (hr : Room 3 (A.deeper (envOfC "_law_wrong_moves" (defScope s__law_wrong_moves) s.heap.objs.size f cdv))) (hp : ∀ p ∈ G.pins, p.1 ∈ ixs [true, false, false] 0) (tk : Tk (cxOf (L2N.CX P w) P w K mg base N__law_wrong_moves "_law_wrong_moves" (defScope s__law_wrong_moves) f cdv A outer s H E) G EW) :
    DSs (cxOf (L2N.CX P w) P w K mg base N__law_wrong_moves "_law_wrong_moves" (defScope s__law_wrong_moves) f cdv A outer s H E) G (defBody s__law_wrong_moves) (w__law_wrong_moves EW) :=
  have sc := sc__law_wrong_moves
  (dss_cons (ds_set (i := 3) sc.nd (by rfl) (.inl rfl) (de_rgTup1 rfl (by rfl) W.b_tuple (by rfl) W.b_range (dv 1)) (pins_ne hp (by decide))) <|
  (dss_cons (ds_set (i := 4) sc.nd (by rfl) (.inl rfl) (de_lst (da_cons (de_callTy call_listD (by rfl) W.b_list (by rfl) (da_cons (dv 3) da_nil)) (da_cons (de_bin op_addD (dv 3) (de_tup (da_cons (dv 1) da_nil))) (da_cons (de_bin op_addD (dv 3) (de_tup (da_cons de_int da_nil))) (da_cons (de_bin op_addD (de_sl10 (dv 3) de_int) (de_tup (da_cons (dv 1) da_nil))) (da_cons (de_bin op_addD (de_tup (da_cons de_bl da_nil)) (de_sl10 (dv 3) de_int)) (da_cons de_non (da_cons de_int da_nil)))))))) (pins_ne hp (by decide))) <|
  (dss_cons (ds_if (dt_cmp (op_eqDD hr.units) (de_fn (ok__law_take W) (hr.mono (by decide)) (by rfl) tk (da_cons (dv 0) (da_cons de_int da_nil))) de_int (by rfl))
  (dss_cons (ds_set (i := 5) sc.nd (by rfl) (.inl rfl) (de_fn (ok__law_pick W) (hr.mono (by decide)) (by rfl) tk (da_cons (dv 0) (da_cons (de_lst (da_cons (dv 3) (da_cons (dv 3) (da_cons de_non da_nil)))) da_nil))) (pins_ne hp (by decide))) <|
  (dss_one (ds_ret (de_lst (da_cons (de_fn (ok__law_either W) (hr.mono (by decide)) (by rfl) tk (da_cons (dv 0) (da_cons (de_bin op_mulD (de_lst (da_cons (dv 5) da_nil)) (de_bin op_addD de_int (de_fn (ok__law_take W) (hr.mono (by decide)) (by rfl) tk (da_cons (dv 0) (da_cons de_int da_nil))))) da_nil))) (da_cons (de_tup (da_cons de_str (da_cons de_str (da_cons de_int da_nil)))) da_nil))))))
  dss_nil) <|
  (dss_cons (ds_set (i := 6) sc.nd (by rfl) (.inl rfl) (de_sl01 (dv 2) de_int) (pins_ne hp (by decide))) <|
  (dss_cons (ds_set (i := 7) sc.nd (by rfl) (.inl rfl) (de_fn (ok__law_place W) (hr.mono (by decide)) (by rfl) tk (da_cons (dv 0) (da_cons (de_bin op_addD (de_callB call_lenD (by rfl) W.b_len (by rfl) (da_cons (dv 6) da_nil)) de_int) da_nil))) (pins_ne hp (by decide))) <|
  (dss_cons (ds_set (i := 8) sc.nd (by rfl) (.inl rfl) (de_bin op_addD (de_bin op_addD (de_sl01 (dv 6) (dv 7)) (de_lst (da_cons (de_fn (ok__law_pick W) (hr.mono (by decide)) (by rfl) tk (da_cons (dv 0) (da_cons (dv 4) da_nil))) da_nil))) (de_sl10 (dv 6) (dv 7))) (pins_ne hp (by decide))) <|
  (dss_cons (ds_if (dt_cmp (op_eqDD hr.units) (de_fn (ok__law_take W) (hr.mono (by decide)) (by rfl) tk (da_cons (dv 0) (da_cons de_int da_nil))) de_int (by rfl))
  (dss_one (ds_expr (de_m1 (m := false) lm_append (by rfl) (.inl rfl) PySem.F.slot_list_append (de_fn (ok__law_pick W) (hr.mono (by decide)) (by rfl) tk (da_cons (dv 0) (da_cons (dv 4) da_nil))) (hty := PySem.F.type_list_append))))
  dss_nil) <|
  (dss_one (ds_ret (de_lst (da_cons (de_fn (ok__law_either W) (hr.mono (by decide)) (by rfl) tk (da_cons (dv 0) (da_cons (dv 8) da_nil))) (da_cons (de_tup (da_cons de_str (da_cons (dv 7) da_nil))) da_nil))))))))))))
theorem ok__law_wrong_moves {P : Program} {w : World} {K : PySem.W.Frag} {mg : Str → Option Value} {base : Heap} (W : Wd P K mg) : DOk P w K mg base 4 "_law_wrong_moves" 3 [true, false, false] sp__law_wrong_moves [] :=
  dok_of (N := N__law_wrong_moves) (ps := P__law_wrong_moves) (k := 3) W.d__law_wrong_moves sc__law_wrong_moves rfl len__law_wrong_moves (fun _ _ _ _ _ _ us hl => match us, hl with | [_, _, _], _ => rfl) (d__law_wrong_moves W) pf__law_wrong_moves

/-! _law_moves_right fn -/
abbrev s__law_moves_right : Stmt := (top 75)
abbrev P__law_moves_right : List Str := ["store"]
theorem sc__law_moves_right : FnScope N__law_moves_right P__law_moves_right (defScope s__law_moves_right) := ⟨rfl, rfl, rfl, by decide +kernel, rfl, by decide +kernel, by decide +kernel⟩
theorem d__law_moves_right {P : Program} {w : World} {K : PySem.W.Frag} {mg : Str → Option Value} {base : Heap} (W : Wd P K mg)
    (f : Addr) (cdv : Value) (A : Around) (outer : List Env) (s : Shared) (H : Hp) (E : XK) (G : Gh) (EW : EWt) (hr : Room 7 (A.deeper (envOfC "_law_moves_right" (defScope s__law_moves_right) s.heap.objs.size f cdv))) (hp : ∀ p ∈ G.pins, p.1 ∈ ixs [true] 0) (tk : Tk (cxOf (L2N.CX P w) P w K mg base N__law_moves_right "_law_moves_right" (defScope s__law_moves_right) f cdv A outer s H E) G EW) :
    DSs (cxOf (L2N.CX P w) P w K mg base N__law_moves_right "_law_moves_right" (defScope s__law_moves_right) f cdv A outer s H E) G (defBody s__law_moves_right) (w__law_moves_right EW) :=
  have sc := sc__law_moves_right
  (dss_cons (ds_set (i := 1) sc.nd (by rfl) (.inr rfl) (de_fn (ok__law_take W) (hr.mono (by decide)) (by rfl) tk (da_cons (dv 0) (da_cons de_int da_nil))) (pins_ne hp (by decide))) <|
  (dss_cons (ds_setLc (i := 2) rfl sc.nd (by rfl) (by rfl) (pins_ne hp (by decide)) (di_rg1 (by rfl) W.b_range (de_fn (ok__law_take W) (hr.mono (by decide)) (by rfl) tk (da_cons (dv 0) (da_cons de_int da_nil)))) (own := [("k", 3)]) (show BlkOk N__law_moves_right (defScope s__law_moves_right) _ _ from ⟨rfl, by decide +kernel, by decide +kernel, by decide +kernel, by decide +kernel⟩) (by decide) (by decide) tg_name (fun _ _ _ _ _ => (pg_name (i := 3) sc.nd (by rfl) (by first | exact .inl rfl | exact .inr rfl))) (fun _ _ _ _ _ _ => dts_nil) (fun _ _ _ _ _ _ => (de_fn (ok__law_move W) (hr.mono (by decide)) (by rfl) tk_none (da_cons (dv 0) (da_cons (dv 1) da_nil))))) <|
  (dss_cons (ds_if (DW.dt (dw_and (dt_cmp op_gtD (de_callB call_lenD (by rfl) W.b_len (by rfl) (da_cons (dv 2) da_nil)) de_int (by rfl)) (dw_and1 (dt_cmp (op_eqDD hr.units) (de_fn (ok__law_take W) (hr.mono (by decide)) (by rfl) tk (da_cons (dv 0) (da_cons de_int da_nil))) de_int (by rfl)))))
  (dss_one (ds_set (i := 2) sc.nd (by rfl) (.inl rfl) (de_sl01 (de_bin op_mulD (dv 2) de_int) de_int) (pins_ne hp (by decide))))
  (dss_one (ds_if (DW.dt (dw_and (dt_cmp op_gtD (de_callB call_lenD (by rfl) W.b_len (by rfl) (da_cons (dv 2) da_nil)) de_int (by rfl)) (dw_and1 (dt_cmp (op_eqDD hr.units) (de_fn (ok__law_take W) (hr.mono (by decide)) (by rfl) tk (da_cons (dv 0) (da_cons de_int da_nil))) de_int (by rfl)))))
  (dss_one (ds_expr (de_m1 (m := false) lm_append (by rfl) (.inl rfl) PySem.F.slot_list_append (de_ix ixD (dv 2) de_int (by intro _ _; rfl)) (hty := PySem.F.type_list_append))))
  dss_nil))) <|
  (dss_cons (ds_set (i := 4) sc.nd (by rfl) (.inr rfl) (de_lc rfl sc.nd (di_seq (dv 2)) (own := [("move", 6)]) (show BlkOk N__law_moves_right (defScope s__law_moves_right) _ _ from ⟨rfl, by decide +kernel, by decide +kernel, by decide +kernel, by decide +kernel⟩) (by decide) (by decide) tg_name (fun _ _ _ _ _ => (pg_name (i := 6) sc.nd (by rfl) (by first | exact .inl rfl | exact .inr rfl))) (fun _ _ _ _ _ _ => dts_nil) (fun _ _ _ _ _ _ => (de_callB (call_sumD rfl) (by rfl) W.b_sum (by rfl) (da_cons (de_lc rfl sc.nd (di_rg1 (by rfl) W.b_range (dv 1)) (own := [("p", 5)]) (blkOk_by (by rfl)) (by decide) (by decide) tg_name (fun _ _ _ _ _ => (pg_name (i := 5) sc.nd (by rfl) (by first | exact .inl rfl | exact .inr rfl))) (fun _ _ _ _ _ _ => dts_nil) (fun _ _ _ _ _ _ => (de_callTy call_intD (by rfl) W.b_int (by rfl) (da_cons (de_cmp (op_eqDD hr.units) (de_ix ixD (dv 6) (dv 5) (by intro _ _; rfl)) (dv 5) (by rfl)) da_nil)))) da_nil)))) (pins_ne hp (by decide))) <|
  (dss_cons (ds_set (i := 7) sc.nd (by rfl) (.inl rfl) (de_fn (ok__law_either W) (hr.mono (by decide)) (by rfl) tk (da_cons (dv 0) (da_cons (dv 2) da_nil))) (pins_ne hp (by decide))) <|
  (dss_cons (ds_set (i := 8) sc.nd (by rfl) (.inl rfl) (de_smeth (ok_Tally_of_moves W) (by rfl) (hr.mono (by decide)) tk (da_cons (dv 1) (da_cons (dv 7) da_nil))) (pins_ne hp (by decide))) <|
  (dss_cons (ds_if (dt_not (dt_val (de_fn (ok__law_same W) (hr.mono (by decide)) (by rfl) tk (da_cons (de_callTy call_listD (by rfl) W.b_list (by rfl) (da_cons (dv 7) da_nil)) (da_cons (dv 2) da_nil)))))
  (dss_one (ds_ret de_bl))
  dss_nil) <|
  (dss_cons (ds_if (dt_val (de_isi kit_list (by rfl) W.b_isinstance (by rfl) W.b_list (by rfl) (dv 7)))
  (dss_one (ds_expr (de_m1 (m := false) lm_append (by rfl) (.inl rfl) PySem.F.slot_list_append (de_rgTup1 rfl (by rfl) W.b_tuple (by rfl) W.b_range (dv 1)) (hty := PySem.F.type_list_append))))
  dss_nil) <|
  (dss_cons (ds_if (dt_not (dt_val (de_fn (ok__law_tells W) (hr.mono (by decide)) (by rfl) tk (da_cons (dv 8) (da_cons (de_lc rfl sc.nd (di_rg1 (by rfl) W.b_range (de_bin op_addD (dv 1) de_int)) (own := [("k", 3)]) (show BlkOk N__law_moves_right (defScope s__law_moves_right) _ _ from ⟨rfl, by decide +kernel, by decide +kernel, by decide +kernel, by decide +kernel⟩) (by decide) (by decide) tg_name (fun _ _ _ _ _ => (pg_name (i := 3) sc.nd (by rfl) (by first | exact .inl rfl | exact .inr rfl))) (fun _ _ _ _ _ _ => dts_nil) (fun _ _ _ _ _ _ => (de_bm pm_count PySem.F.slot_list_count PySem.F.plainAttrs_list (dv 4) (da_cons (dv 3) da_nil) PySem.F.type_list_count))) da_nil)))))
  (dss_one (ds_ret de_bl))
  dss_nil) <|
  (dss_cons (ds_set (i := 9) sc.nd (by rfl) (.inl rfl) (de_fn (ok__law_pick W) (hr.mono (by decide)) (by rfl) tk (da_cons (dv 0) (da_cons (de_lst (da_cons (de_un un_negD de_int) (da_cons de_int (da_cons de_int (da_cons de_bl (da_cons de_bl (da_cons de_non (da_cons de_str (da_cons (de_tup (da_cons de_int da_nil)) (da_cons (de_lst da_nil) (da_cons (de_bin op_powD de_int de_int) (da_cons (de_un un_negD de_int) da_nil)))))))))))) da_nil))) (pins_ne hp (by decide))) <|
  (dss_cons (ds_set (i := 10) sc.nd (by rfl) (.inl rfl) (de_fz (de_fn (ok__law_wrong_moves W) (hr.mono (by decide)) (by rfl) tk (da_cons (dv 0) (da_cons (dv 1) (da_cons (dv 2) da_nil))))) (pins_ne hp (by decide))) <|
  (dss_cons (ds_set (i := 11) sc.nd (by rfl) (.inl rfl) (de_tup (da_cons de_str (da_cons (dv 9) (da_cons de_int (da_cons de_int da_nil))))) (pins_ne hp (by decide))) <|
  (dss_one (ds_ret (de_and (de_fn (ok__law_refuses W) (hr.mono (by decide)) (by rfl) tk (da_cons de_int (da_cons (dv 9) (da_cons (de_ix ixD (dv 10) de_int (by intro _ _; rfl)) (da_cons (dv 11) da_nil))))) (de_one (de_fn (ok__law_refuses W) (hr.mono (by decide)) (by rfl) tk (da_cons de_int (da_cons (dv 1) (da_cons (de_ix ixD (dv 10) de_int (by intro _ _; rfl)) (da_cons (de_ix ixD (dv 10) de_int (by intro _ _; rfl)) da_nil)))))))))))))))))))))
theorem ok__law_moves_right {P : Program} {w : World} {K : PySem.W.Frag} {mg : Str → Option Value} {base : Heap} (W : Wd P K mg) : DOk P w K mg base 8 "_law_moves_right" 1 [true] sp__law_moves_right [] :=
  dok_of (N := N__law_moves_right) (ps := P__law_moves_right) (k := 7) W.d__law_moves_right sc__law_moves_right rfl len__law_moves_right (fun _ _ _ _ _ _ us hl => match us, hl with | [_], _ => rfl) (d__law_moves_right W) pf__law_moves_right

/-! _law_limit_right fn -/
abbrev s__law_limit_right : Stmt := (top 74)
abbrev P__law_limit_right : List Str := ["store"]
theorem sc__law_limit_right : FnScope N__law_limit_right P__law_limit_right (defScope s__law_limit_right) := ⟨rfl, rfl, rfl, by decide +kernel, rfl, by decide +kernel, by decide +kernel⟩
theorem d__law_limit_right {P : Program} {w : World} {K : PySem.W.Frag} {mg : Str → Option Value} {base : Heap} (W : Wd P K mg)
    (f : Addr) (cdv : Value) (A : Around) (outer : List Env) (s : Shared) (H : Hp) (E : XK) (G : Gh) (EW : EWt) (hr : Room 8 (A.deeper (envOfC "_law_limit_right" (defScope s__law_limit_right) s.heap.objs.size f cdv))) (hp : ∀ p ∈ G.pins, p.1 ∈ ixs [true] 0) (tk : Tk (cxOf (L2N.CX P w) P w K mg base N__law_limit_right "_law_limit_right" (defScope s__law_limit_right) f cdv A outer s H E) G EW) :
    DSs (cxOf (L2N.CX P w) P w K mg base N__law_limit_right "_law_limit_right" (defScope s__law_limit_right) f cdv A outer s H E) G (defBody s__law_limit_right) (w__law_limit_right EW) :=
  have sc := sc__law_limit_right
  (dss_cons (ds_set (i := 1) sc.nd (by rfl) (.inl rfl) (de_bin op_addD de_int (de_fn (ok__law_take W) (hr.mono (by decide)) (by rfl) tk (da_cons (dv 0) (da_cons de_int da_nil)))) (pins_ne hp (by decide))) <|
  (dss_cons (ds_setLc (i := 2) rfl sc.nd (by rfl) (by rfl) (pins_ne hp (by decide)) (di_rg1 (by rfl) W.b_range (de_bin op_addD (dv 1) de_int)) (own := [("k", 3)]) (show BlkOk N__law_limit_right (defScope s__law_limit_right) _ _ from ⟨rfl, by decide +kernel, by decide +kernel, by decide +kernel, by decide +kernel⟩) (by decide) (by decide) tg_name (fun _ _ _ _ _ => (pg_name (i := 3) sc.nd (by rfl) (by first | exact .inl rfl | exact .inr rfl))) (fun _ _ _ _ _ _ => dts_nil) (fun _ _ _ _ _ _ => (de_bin op_addD de_int (de_fn (ok__law_take W) (hr.mono (by decide)) (by rfl) tk_none (da_cons (dv 0) (da_cons de_int da_nil)))))) <|
  (dss_cons (ds_setLc (i := 4) rfl sc.nd (by rfl) (by rfl) (pins_ne hp (by decide)) (di_rg1 (by rfl) W.b_range (de_bin op_subD de_int (dv 1))) (own := [("k", 3)]) (show BlkOk N__law_limit_right (defScope s__law_limit_right) _ _ from ⟨rfl, by decide +kernel, by decide +kernel, by decide +kernel, by decide +kernel⟩) (by decide) (by decide) tg_name (fun _ _ _ _ _ => (pg_name (i := 3) sc.nd (by rfl) (by first | exact .inl rfl | exact .inr rfl))) (fun _ _ _ _ _ _ => dts_nil) (fun _ _ _ _ _ _ => (de_fn (ok__law_take W) (hr.mono (by decide)) (by rfl) tk_none (da_cons (dv 0) (da_cons de_int da_nil))))) <|
  (dss_cons (ds_set (i := 5) sc.nd (by rfl) (.inl rfl) (de_make (ok_Tally___init__ W) (hr.mono (by decide)) (by rfl) tk (da_cons (dv 2) da_nil)) (pins_ne hp (by decide))) <|
  (dss_cons (ds_if (dt_not (dt_val (de_fn (ok__law_pair_right W) (hr.mono (by decide)) (by rfl) tk (da_cons (dv 5) (da_cons (de_make (ok_Tally___init__ W) (hr.mono (by decide)) (by rfl) tk (da_cons (de_callTy call_tupleD (by rfl) W.b_tuple (by rfl) (da_cons (dv 4) da_nil)) da_nil)) (da_cons (dv 2) (da_cons (dv 4) da_nil)))))))
  (dss_one (ds_ret de_bl))
  dss_nil) <|
  (dss_cons (ds_set (i := 6) sc.nd (by rfl) (.inl rfl) (de_tup (da_cons de_str (da_cons de_str (da_cons de_int da_nil)))) (pins_ne hp (by decide))) <|
  (dss_one (ds_ret (de_and (de_fn (ok__law_refuses W) (hr.mono (by decide)) (by rfl) tk (da_cons de_int (da_cons (dv 5) (da_cons (de_make (ok_Tally___init__ W) (hr.mono (by decide)) (by rfl) tk (da_cons (de_bin op_addD (dv 4) (de_lst (da_cons de_int da_nil))) da_nil)) (da_cons (dv 6) da_nil))))) (de_one (de_fn (ok__law_refuses W) (hr.mono (by decide)) (by rfl) tk (da_cons de_int (da_cons (de_make (ok_Tally___init__ W) (hr.mono (by decide)) (by rfl) tk (da_cons (de_bin op_addD (de_lst (da_cons de_int da_nil)) (dv 4)) da_nil)) (da_cons (dv 5) (da_cons (dv 6) da_nil)))))))))))))))
theorem ok__law_limit_right {P : Program} {w : World} {K : PySem.W.Frag} {mg : Str → Option Value} {base : Heap} (W : Wd P K mg) : DOk P w K mg base 9 "_law_limit_right" 1 [true] sp__law_limit_right [] :=
  dok_of (N := N__law_limit_right) (ps := P__law_limit_right) (k := 8) W.d__law_limit_right sc__law_limit_right rfl len__law_limit_right (fun _ _ _ _ _ _ us hl => match us, hl with | [_], _ => rfl) (d__law_limit_right W) pf__law_limit_right

/-! law fn -/
abbrev s_law : Stmt := (top 76)
abbrev P_law : List Str := ["script"]
theorem sc_law : FnScope N_law P_law (defScope s_law) := ⟨rfl, rfl, rfl, by decide +kernel, rfl, by decide +kernel, by decide +kernel⟩
theorem d_law {P : Program} {w : World} {K : PySem.W.Frag} {mg : Str → Option Value} {base : Heap} (W : Wd P K mg)
    (f : Addr) (cdv : Value) (A : Around) (outer : List Env) (s : Shared) (H : Hp) (E : XK) (G : Gh) (EW : EWt) (hr : Room 9 (A.deeper (envOfC "law" (defScope s_law) s.heap.objs.size f cdv))) (hp : ∀ p ∈ G.pins, p.1 ∈ ixs [false] 0) (tk : Tk (cxOf (L2N.CX P w) P w K mg base N_law "law" (defScope s_law) f cdv A outer s H E) G EW) :
    DSs (cxOf (L2N.CX P w) P w K mg base N_law "law" (defScope s_law) f cdv A outer s H E) G (defBody s_law) (w_law EW) :=
  have sc := sc_law
  (dss_cons (ds_set (i := 1) sc.nd (by rfl) (.inl rfl) (de_fn (ok__law_store W) (hr.mono (by decide)) (by rfl) tk (da_cons (dv 0) da_nil)) (pins_ne hp (by decide))) <|
  (dss_cons (ds_set (i := 2) sc.nd (by rfl) (.inl rfl) (de_fn (ok__law_counts W) (hr.mono (by decide)) (by rfl) tk (da_cons (dv 1) da_nil)) (pins_ne hp (by decide))) <|
  (dss_cons (ds_set (i := 3) sc.nd (by rfl) (.inl rfl) (de_fn (ok__law_beside W) (hr.mono (by decide)) (by rfl) tk (da_cons (dv 1) (da_cons (dv 2) da_nil))) (pins_ne hp (by decide))) <|
  (dss_cons (ds_set (i := 4) sc.nd (by rfl) (.inl rfl) (de_fn (ok__law_counts W) (hr.mono (by decide)) (by rfl) tk (da_cons (dv 1) da_nil)) (pins_ne hp (by decide))) <|
  (dss_cons (ds_set (i := 5) sc.nd (by rfl) (.inl rfl) (de_fn (ok__law_made_of W) (hr.mono (by decide)) (by rfl) tk (da_cons (dv 1) (da_cons (dv 2) da_nil))) (pins_ne hp (by decide))) <|
  (dss_cons (ds_set (i := 6) sc.nd (by rfl) (.inl rfl) (de_fn (ok__law_made_of W) (hr.mono (by decide)) (by rfl) tk (da_cons (dv 1) (da_cons (dv 3) da_nil))) (pins_ne hp (by decide))) <|
  (dss_cons (ds_set (i := 7) sc.nd (by rfl) (.inl rfl) (de_fn (ok__law_made_of W) (hr.mono (by decide)) (by rfl) tk (da_cons (dv 1) (da_cons (dv 4) da_nil))) (pins_ne hp (by decide))) <|
  (dss_cons (ds_if (DW.dt (dw_or (dt_not (dt_val (de_fn (ok__law_tells W) (hr.mono (by decide)) (by rfl) tk (da_cons (dv 5) (da_cons (dv 2) da_nil))))) (dw_or1 (dt_not (dt_val (de_fn (ok__law_tells W) (hr.mono (by decide)) (by rfl) tk (da_cons (dv 6) (da_cons (dv 3) da_nil))))))))
  (dss_one (ds_ret de_bl))
  dss_nil) <|
  (dss_cons (ds_if (DW.dt (dw_or (dt_not (dt_val (de_fn (ok__law_pair_right W) (hr.mono (by decide)) (by rfl) tk (da_cons (dv 5) (da_cons (dv 6) (da_cons (dv 2) (da_cons (dv 3) da_nil))))))) (dw_or1 (dt_not (dt_val (de_fn (ok__law_pair_right W) (hr.mono (by decide)) (by rfl) tk (da_cons (dv 5) (da_cons (dv 5) (da_cons (dv 2) (da_cons (dv 2) da_nil))))))))))
  (dss_one (ds_ret de_bl))
  dss_nil) <|
  (dss_cons (ds_if (DW.dt (dw_or (dt_not (dt_val (de_fn (ok__law_pair_right W) (hr.mono (by decide)) (by rfl) tk (da_cons (dv 6) (da_cons (dv 7) (da_cons (dv 3) (da_cons (dv 4) da_nil))))))) (dw_or1 (dt_not (dt_val (de_fn (ok__law_equal_right W) (hr.mono (by decide)) (by rfl) tk (da_cons (dv 5) (da_cons (dv 6) (da_cons (dv 2) (da_cons (dv 3) da_nil))))))))))
  (dss_one (ds_ret de_bl))
  dss_nil) <|
  (dss_cons (ds_if (dt_not (dt_val (de_fn (ok__law_three_right W) (hr.mono (by decide)) (by rfl) tk (da_cons (dv 5) (da_cons (dv 6) (da_cons (dv 7) (da_cons (dv 2) (da_cons (dv 3) (da_cons (dv 4) da_nil)))))))))
  (dss_one (ds_ret de_bl))
  dss_nil) <|
  (dss_cons (ds_set (i := 8) sc.nd (by rfl) (.inl rfl) (de_fz (de_fn (ok__law_bad_counts W) (hr.mono (by decide)) (by rfl) tk (da_cons (dv 1) (da_cons (dv 2) da_nil)))) (pins_ne hp (by decide))) <|
  (dss_cons (ds_set (i := 9) sc.nd (by rfl) (.inl rfl) (de_fn (ok__law_pick W) (hr.mono (by decide)) (by rfl) tk (da_cons (dv 1) (da_cons (de_lst (da_cons (de_un un_negD de_int) (da_cons de_int (da_cons de_int (da_cons de_bl (da_cons de_bl (da_cons de_non (da_cons de_str (da_cons (de_tup (da_cons de_int da_nil)) (da_cons (de_lst (da_cons de_int da_nil)) (da_cons (de_bin op_powD de_int de_int) (da_cons (de_un un_negD de_int) da_nil)))))))))))) da_nil))) (pins_ne hp (by decide))) <|
  (dss_cons (ds_if (DW.dt (dw_or (dt_not (dt_val (de_fn (ok__law_refuses W) (hr.mono (by decide)) (by rfl) tk (da_cons de_int (da_cons de_non (da_cons (de_ix ixD (dv 8) de_int (by intro _ _; rfl)) (da_cons (de_ix ixD (dv 8) de_int (by intro _ _; rfl)) da_nil))))))) (dw_or1 (dt_not (dt_val (de_fn (ok__law_refuses W) (hr.mono (by decide)) (by rfl) tk (da_cons de_int (da_cons (dv 5) (da_cons (dv 9) (da_cons (de_tup (da_cons de_str (da_cons (dv 9) (da_cons de_int (da_cons de_int da_nil))))) da_nil))))))))))
  (dss_one (ds_ret de_bl))
  dss_nil) <|
  (dss_cons (ds_if (DW.dt (dw_or (dt_not (dt_val (de_fn (ok__law_limit_right W) (hr.mono (by decide)) (by rfl) tk (da_cons (dv 1) da_nil)))) (dw_or1 (dt_not (dt_val (de_fn (ok__law_moves_right W) (hr.mono (by decide)) (by rfl) tk (da_cons (dv 1) da_nil)))))))
  (dss_one (ds_ret de_bl))
  dss_nil) <|
  (dss_one (ds_ret (de_and (de_fn (ok__law_tells W) (hr.mono (by decide)) (by rfl) tk (da_cons (dv 5) (da_cons (dv 2) da_nil))) (de_and (de_fn (ok__law_tells W) (hr.mono (by decide)) (by rfl) tk (da_cons (dv 6) (da_cons (dv 3) da_nil))) (de_one (de_fn (ok__law_tells W) (hr.mono (by decide)) (by rfl) tk (da_cons (dv 7) (da_cons (dv 4) da_nil)))))))))))))))))))))))
theorem ok_law {P : Program} {w : World} {K : PySem.W.Frag} {mg : Str → Option Value} {base : Heap} (W : Wd P K mg) : DOk P w K mg base 10 "law" 1 [false] sp_law [] :=
  dok_of (N := N_law) (ps := P_law) (k := 9) W.d_law sc_law rfl len_law (fun _ _ _ _ _ _ us hl => match us, hl with | [_], _ => rfl) (d_law W) pf_law

end T

set_option maxHeartbeats 0
namespace T
open PySem PySem.Spec PyProof.Rows L2 L2H NdefX Vd
theorem wd {K : PySem.W.Frag} {h : Heap} {mg : Str → Option Value} (X : K.In h) (G : h.Ns mainGlobals mg) (c : SaysV fa fn K) : Wd PySem.Challenge.pw_heldorder_k75_tally K mg where
  b_int := He.free_ok X G (c.fact 0 (f := .free "int"))
  b_len := He.free_ok X G (c.fact 1 (f := .free "len"))
  b_range := He.free_ok X G (c.fact 2 (f := .free "range"))
  b_abs := He.free_ok X G (c.fact 3 (f := .free "abs"))
  b_list := He.free_ok X G (c.fact 4 (f := .free "list"))
  b_min := He.free_ok X G (c.fact 5 (f := .free "min"))
  b_tuple := He.free_ok X G (c.fact 6 (f := .free "tuple"))
  b_isinstance := He.free_ok X G (c.fact 7 (f := .free "isinstance"))
  b_str := He.free_ok X G (c.fact 8 (f := .free "str"))
  b_bool := He.free_ok X G (c.fact 9 (f := .free "bool"))
  b_enumerate := He.free_ok X G (c.fact 10 (f := .free "enumerate"))
  c_MOST_TALLIED := He.int_ok X G (c.fact 11 (f := .int "MOST_TALLIED" 24))
  b_sum := He.free_ok X G (c.fact 12 (f := .free "sum"))
  b_all := He.free_ok X G (c.fact 13 (f := .free "all"))
  b_max := He.free_ok X G (c.fact 14 (f := .free "max"))
  b_sorted := He.free_ok X G (c.fact 15 (f := .free "sorted"))
  c_MOST_POINTS := He.int_ok X G (c.fact 16 (f := .int "MOST_POINTS" 12))
  c_MOST_LIST := He.int_ok X G (c.fact 17 (f := .int "MOST_LIST" 400))
  b_ValueError := He.free_ok X G (c.fact 18 (f := .free "ValueError"))
  ti_Tally_list := of_decide_eq_true (c.fact 19 (f := .kitT "Tally" "list" false))
  m_Tally := (He.glo_ok X G (c.fact 20 (f := .glo "Tally")))
  m_BadNumber := (He.glo_ok X G (c.fact 21 (f := .glo "BadNumber")))
  m_HeldorderError := (He.glo_ok X G (c.fact 22 (f := .glo "HeldorderError")))
  m_NotACount := (He.glo_ok X G (c.fact 23 (f := .glo "NotACount")))
  m_NotAMove := (He.glo_ok X G (c.fact 24 (f := .glo "NotAMove")))
  m_TooMany := (He.glo_ok X G (c.fact 25 (f := .glo "TooMany")))
  m_NotAPoint := (He.glo_ok X G (c.fact 26 (f := .glo "NotAPoint")))
  m_UnlikeSizes := (He.glo_ok X G (c.fact 27 (f := .glo "UnlikeSizes")))
  m_RepeatedPoint := (He.glo_ok X G (c.fact 28 (f := .glo "RepeatedPoint")))
  m_BadText := (He.glo_ok X G (c.fact 29 (f := .glo "BadText")))
  m_NotMade := (He.glo_ok X G (c.fact 30 (f := .glo "NotMade")))
  m_NotTight := (He.glo_ok X G (c.fact 31 (f := .glo "NotTight")))
  m_NotFull := (He.glo_ok X G (c.fact 32 (f := .glo "NotFull")))
  m_NotAFailing := (He.glo_ok X G (c.fact 33 (f := .glo "NotAFailing")))
  m_NotNeighbours := (He.glo_ok X G (c.fact 34 (f := .glo "NotNeighbours")))
  m_NotShorter := (He.glo_ok X G (c.fact 35 (f := .glo "NotShorter")))
  m_SameLength := (He.glo_ok X G (c.fact 36 (f := .glo "SameLength")))
  m_NoSuchLength := (He.glo_ok X G (c.fact 37 (f := .glo "NoSuchLength")))
  m_NotAnOrder := (He.glo_ok X G (c.fact 38 (f := .glo "NotAnOrder")))
  m_NotAChain := (He.glo_ok X G (c.fact 39 (f := .glo "NotAChain")))
  m_NotABase := (He.glo_ok X G (c.fact 40 (f := .glo "NotABase")))
  m_NotInside := (He.glo_ok X G (c.fact 41 (f := .glo "NotInside")))
  m_OrderMatters := (He.glo_ok X G (c.fact 42 (f := .glo "OrderMatters")))
  m_FullLot := (He.glo_ok X G (c.fact 43 (f := .glo "FullLot")))
  m_NotAWord := (He.glo_ok X G (c.fact 44 (f := .glo "NotAWord")))
  m_NotAColumn := (He.glo_ok X G (c.fact 45 (f := .glo "NotAColumn")))
  m_GameOver := (He.glo_ok X G (c.fact 46 (f := .glo "GameOver")))
  m_NotAllowed := (He.glo_ok X G (c.fact 47 (f := .glo "NotAllowed")))
  m_NothingToUndo := (He.glo_ok X G (c.fact 48 (f := .glo "NothingToUndo")))
  m_NothingToRedo := (He.glo_ok X G (c.fact 49 (f := .glo "NothingToRedo")))
  m_NothingKept := (He.glo_ok X G (c.fact 50 (f := .glo "NothingKept")))
  m_BadEdit := (He.glo_ok X G (c.fact 51 (f := .glo "BadEdit")))
  m_UnknownName := (He.glo_ok X G (c.fact 52 (f := .glo "UnknownName")))
  m_NotAPaper := (He.glo_ok X G (c.fact 53 (f := .glo "NotAPaper")))
  k_Tally := He.cls_ok (c.fact 54 (f := .cls "Tally"))
  t_Tally := fc_clsT (c.fact 55 (f := .clsT "Tally"))
  f_Tally_entries := He.noat_ok (c.fact 56 (f := .noat "Tally" "entries"))
  nf_Tally := fc_nf (c.fact 57 (f := .eqc "Tally"))
  ob_Tally := fc_ob (c.fact 57 (f := .eqc "Tally"))
  ne_Tally := fc_ne (c.fact 57 (f := .eqc "Tally"))
  d__law_store := (let ⟨_, F⟩ := c.def_ 0 (d := ⟨.glo "_law_store", "_law_store", "_law_store", (top 50), []⟩); ⟨_, _, F, (He.glo_ok X G (c.fact 58 (f := .glo "_law_store")))⟩)
  d__law_mixed := (let ⟨_, F⟩ := c.def_ 1 (d := ⟨.glo "_law_mixed", "_law_mixed", "_law_mixed", (top 51), []⟩); ⟨_, _, F, (He.glo_ok X G (c.fact 59 (f := .glo "_law_mixed")))⟩)
  d__law_take := (let ⟨_, F⟩ := c.def_ 2 (d := ⟨.glo "_law_take", "_law_take", "_law_take", (top 52), []⟩); ⟨_, _, F, (He.glo_ok X G (c.fact 60 (f := .glo "_law_take")))⟩)
  d__law_place := (let ⟨_, F⟩ := c.def_ 3 (d := ⟨.glo "_law_place", "_law_place", "_law_place", (top 54), []⟩); ⟨_, _, F, (He.glo_ok X G (c.fact 61 (f := .glo "_law_place")))⟩)
  d__law_pick := (let ⟨_, F⟩ := c.def_ 4 (d := ⟨.glo "_law_pick", "_law_pick", "_law_pick", (top 53), []⟩); ⟨_, _, F, (He.glo_ok X G (c.fact 62 (f := .glo "_law_pick")))⟩)
  d__law_whole := (let ⟨_, F⟩ := c.def_ 5 (d := ⟨.glo "_law_whole", "_law_whole", "_law_whole", (top 57), []⟩); ⟨_, _, F, (He.glo_ok X G (c.fact 63 (f := .glo "_law_whole")))⟩)
  d__law_counts := (let ⟨_, F⟩ := c.def_ 6 (d := ⟨.glo "_law_counts", "_law_counts", "_law_counts", (top 61), []⟩); ⟨_, _, F, (He.glo_ok X G (c.fact 64 (f := .glo "_law_counts")))⟩)
  d__law_beside := (let ⟨_, F⟩ := c.def_ 7 (d := ⟨.glo "_law_beside", "_law_beside", "_law_beside", (top 70), []⟩); ⟨_, _, F, (He.glo_ok X G (c.fact 65 (f := .glo "_law_beside")))⟩)
  d__law_either := (let ⟨_, F⟩ := c.def_ 8 (d := ⟨.glo "_law_either", "_law_either", "_law_either", (top 56), []⟩); ⟨_, _, F, (He.glo_ok X G (c.fact 66 (f := .glo "_law_either")))⟩)
  d_shown := (let ⟨_, F⟩ := c.def_ 9 (d := ⟨.glo "shown", "shown", "shown", (top 3), []⟩); ⟨_, _, F, (He.glo_ok X G (c.fact 67 (f := .glo "shown")))⟩)
  x_BadNumber := fc_xat (file := "/claim/cut.py") (c.fact 71 (f := .exc "BadNumber")) (c.fact 72 (f := .xin "BadNumber" "BadNumber.__init__" "/claim/cut.py")) (c.fnE 10 (d := ⟨.met "BadNumber" "__init__", "__init__", "BadNumber.__init__", (inTop 5 0), ["__class__"]⟩)) rfl (He.glo_ok X G (c.fact 21 (f := .glo "BadNumber"))) (He.free_ok X G (c.fact 73 (f := .free "super"))) (by decide +kernel) (c.fact 74 (f := .stat)) (fun p hp => by simp only [fl_BadNumber, List.mem_cons, List.not_mem_nil, or_false] at hp; rcases hp with rfl | rfl | rfl <;> first | exact (c.fact 68 (f := .xno "BadNumber" "value")) | exact (c.fact 69 (f := .xno "BadNumber" "low")) | exact (c.fact 70 (f := .xno "BadNumber" "high")))
  d_is_count := (let ⟨_, F⟩ := c.def_ 11 (d := ⟨.glo "is_count", "is_count", "is_count", (top 43), []⟩); ⟨_, _, F, (He.glo_ok X G (c.fact 75 (f := .glo "is_count")))⟩)
  x_NotACount := fc_xat (file := "/claim/cut.py") (c.fact 77 (f := .exc "NotACount")) (c.fact 78 (f := .xin "NotACount" "NotACount.__init__" "/claim/cut.py")) (c.fnE 12 (d := ⟨.met "NotACount" "__init__", "__init__", "NotACount.__init__", (inTop 28 0), ["__class__"]⟩)) rfl (He.glo_ok X G (c.fact 23 (f := .glo "NotACount"))) (He.free_ok X G (c.fact 73 (f := .free "super"))) (by decide +kernel) (c.fact 74 (f := .stat)) (fun p hp => by simp only [fl_NotACount, List.mem_cons, List.not_mem_nil, or_false] at hp; subst hp; exact (c.fact 76 (f := .xno "NotACount" "index")))
  d_Tally___init__ := (let ⟨_, F⟩ := c.def_ 13 (d := ⟨.met "Tally" "__init__", "__init__", "Tally.__init__", (inTop 48 0), []⟩); ⟨_, _, F, fc_ini (c.fact 79 (f := .ini "Tally")), (He.glo_ok X G (c.fact 20 (f := .glo "Tally")))⟩)
  d__law_made_of := (let ⟨_, F⟩ := c.def_ 14 (d := ⟨.glo "_law_made_of", "_law_made_of", "_law_made_of", (top 69), []⟩); ⟨_, _, F, (He.glo_ok X G (c.fact 80 (f := .glo "_law_made_of")))⟩)
  d_Tally_counts := (let ⟨_, F⟩ := c.def_ 15 (d := ⟨.pro "Tally" "counts", "counts", "Tally.counts", (inTop 48 1), []⟩); ⟨_, _, _, F, fc_pro (c.fact 81 (f := .pro "Tally" "counts"))⟩)
  d__law_is_whole := (let ⟨_, F⟩ := c.def_ 16 (d := ⟨.glo "_law_is_whole", "_law_is_whole", "_law_is_whole", (top 58), []⟩); ⟨_, _, F, (He.glo_ok X G (c.fact 82 (f := .glo "_law_is_whole")))⟩)
  d__law_same := (let ⟨_, F⟩ := c.def_ 17 (d := ⟨.glo "_law_same", "_law_same", "_law_same", (top 59), []⟩); ⟨_, _, F, (He.glo_ok X G (c.fact 83 (f := .glo "_law_same")))⟩)
  d_Tally_total := (let ⟨_, F⟩ := c.def_ 18 (d := ⟨.pro "Tally" "total", "total", "Tally.total", (inTop 48 3), []⟩); ⟨_, _, _, F, fc_pro (c.fact 84 (f := .pro "Tally" "total"))⟩)
  d_Tally_points := (let ⟨_, F⟩ := c.def_ 19 (d := ⟨.pro "Tally" "points", "points", "Tally.points", (inTop 48 2), []⟩); ⟨_, _, _, F, fc_pro (c.fact 85 (f := .pro "Tally" "points"))⟩)
  d_check_number := (let ⟨_, F⟩ := c.def_ 20 (d := ⟨.glo "check_number", "check_number", "check_number", (top 42), []⟩); ⟨_, _, F, (He.glo_ok X G (c.fact 86 (f := .glo "check_number")))⟩)
  d_entry_at := (let ⟨_, F⟩ := c.def_ 21 (d := ⟨.glo "entry_at", "entry_at", "entry_at", (top 46), []⟩); ⟨_, _, F, (He.glo_ok X G (c.fact 87 (f := .glo "entry_at")))⟩)
  d_Tally_at := (let ⟨_, F⟩ := c.def_ 22 (d := ⟨.met "Tally" "at", "at", "Tally.at", (inTop 48 4), []⟩); ⟨_, _, F, fc_met (c.fact 88 (f := .met "Tally" "at"))⟩)
  d__law_tells := (let ⟨_, F⟩ := c.def_ 23 (d := ⟨.glo "_law_tells", "_law_tells", "_law_tells", (top 66), []⟩); ⟨_, _, F, (He.glo_ok X G (c.fact 89 (f := .glo "_law_tells")))⟩)
  d__law_packed := (let ⟨_, F⟩ := c.def_ 24 (d := ⟨.glo "_law_packed", "_law_packed", "_law_packed", (top 64), []⟩); ⟨_, _, F, (He.glo_ok X G (c.fact 90 (f := .glo "_law_packed")))⟩)
  d__law_unpacked := (let ⟨_, F⟩ := c.def_ 25 (d := ⟨.glo "_law_unpacked", "_law_unpacked", "_law_unpacked", (top 65), []⟩); ⟨_, _, F, (He.glo_ok X G (c.fact 91 (f := .glo "_law_unpacked")))⟩)
  d_Tally___add__ := (let ⟨_, F⟩ := c.def_ 26 (d := ⟨.met "Tally" "__add__", "__add__", "Tally.__add__", (inTop 48 6), []⟩); ⟨_, _, F, fc_ops (c.fact 92 (f := .ops "Tally" "__add__"))⟩)
  x_TooMany := fc_xat (file := "/claim/cut.py") (c.fact 95 (f := .exc "TooMany")) (c.fact 96 (f := .xin "TooMany" "TooMany.__init__" "/claim/cut.py")) (c.fnE 27 (d := ⟨.met "TooMany" "__init__", "__init__", "TooMany.__init__", (inTop 8 0), ["__class__"]⟩)) rfl (He.glo_ok X G (c.fact 25 (f := .glo "TooMany"))) (He.free_ok X G (c.fact 73 (f := .free "super"))) (by decide +kernel) (c.fact 74 (f := .stat)) (fun p hp => by simp only [fl_TooMany, List.mem_cons, List.not_mem_nil, or_false] at hp; rcases hp with rfl | rfl <;> first | exact (c.fact 93 (f := .xno "TooMany" "what")) | exact (c.fact 94 (f := .xno "TooMany" "limit")))
  d_product_counts := (let ⟨_, F⟩ := c.def_ 28 (d := ⟨.glo "product_counts", "product_counts", "product_counts", (top 47), []⟩); ⟨_, _, F, (He.glo_ok X G (c.fact 97 (f := .glo "product_counts")))⟩)
  d_Tally___mul__ := (let ⟨_, F⟩ := c.def_ 29 (d := ⟨.met "Tally" "__mul__", "__mul__", "Tally.__mul__", (inTop 48 5), []⟩); ⟨_, _, F, fc_ops (c.fact 98 (f := .ops "Tally" "__mul__"))⟩)
  d_is_whole := (let ⟨_, F⟩ := c.def_ 30 (d := ⟨.glo "is_whole", "is_whole", "is_whole", (top 38), []⟩); ⟨_, _, F, (He.glo_ok X G (c.fact 99 (f := .glo "is_whole")))⟩)
  d_is_move := (let ⟨_, F⟩ := c.def_ 31 (d := ⟨.glo "is_move", "is_move", "is_move", (top 39), []⟩); ⟨_, _, F, (He.glo_ok X G (c.fact 100 (f := .glo "is_move")))⟩)
  x_NotAMove := fc_xat (file := "/claim/cut.py") (c.fact 102 (f := .exc "NotAMove")) (c.fact 103 (f := .xin "NotAMove" "NotAMove.__init__" "/claim/cut.py")) (c.fnE 32 (d := ⟨.met "NotAMove" "__init__", "__init__", "NotAMove.__init__", (inTop 7 0), ["__class__"]⟩)) rfl (He.glo_ok X G (c.fact 24 (f := .glo "NotAMove"))) (He.free_ok X G (c.fact 73 (f := .free "super"))) (by decide +kernel) (c.fact 74 (f := .stat)) (fun p hp => by simp only [fl_NotAMove, List.mem_cons, List.not_mem_nil, or_false] at hp; subst hp; exact (c.fact 101 (f := .xno "NotAMove" "index")))
  d_held_number := (let ⟨_, F⟩ := c.def_ 33 (d := ⟨.glo "held_number", "held_number", "held_number", (top 45), []⟩); ⟨_, _, F, (He.glo_ok X G (c.fact 104 (f := .glo "held_number")))⟩)
  d_held_counts := (let ⟨_, F⟩ := c.def_ 34 (d := ⟨.glo "held_counts", "held_counts", "held_counts", (top 44), []⟩); ⟨_, _, F, (He.glo_ok X G (c.fact 105 (f := .glo "held_counts")))⟩)
  d_Tally_of_moves := (let ⟨_, F⟩ := c.def_ 35 (d := ⟨.sta "Tally" "of_moves", "of_moves", "Tally.of_moves", (inTop 48 8), []⟩); ⟨_, _, _, _, F, fc_sta (c.fact 106 (f := .sta "Tally" "of_moves")), (He.glo_ok X G (c.fact 20 (f := .glo "Tally")))⟩)
  d__law_due_error := (let ⟨_, F⟩ := c.def_ 36 (d := ⟨.glo "_law_due_error", "_law_due_error", "_law_due_error", (top 63), []⟩); ⟨_, _, F, (He.glo_ok X G (c.fact 107 (f := .glo "_law_due_error")))⟩)
  d__law_refuses := (let ⟨_, F⟩ := c.def_ 37 (d := ⟨.glo "_law_refuses", "_law_refuses", "_law_refuses", (top 67), []⟩); ⟨_, _, F, (He.glo_ok X G (c.fact 108 (f := .glo "_law_refuses")))⟩)
  d_Tally___eq__ := (let ⟨_, F⟩ := c.def_ 38 (d := ⟨.met "Tally" "__eq__", "__eq__", "Tally.__eq__", (inTop 48 7), []⟩); ⟨_, _, F, fc_ops (c.fact 109 (f := .ops "Tally" "__eq__"))⟩)
  d__law_pair_right := (let ⟨_, F⟩ := c.def_ 39 (d := ⟨.glo "_law_pair_right", "_law_pair_right", "_law_pair_right", (top 71), []⟩); ⟨_, _, F, (He.glo_ok X G (c.fact 110 (f := .glo "_law_pair_right")))⟩)
  d__law_equal_right := (let ⟨_, F⟩ := c.def_ 40 (d := ⟨.glo "_law_equal_right", "_law_equal_right", "_law_equal_right", (top 73), []⟩); ⟨_, _, F, (He.glo_ok X G (c.fact 111 (f := .glo "_law_equal_right")))⟩)
  d__law_three_right := (let ⟨_, F⟩ := c.def_ 41 (d := ⟨.glo "_law_three_right", "_law_three_right", "_law_three_right", (top 72), []⟩); ⟨_, _, F, (He.glo_ok X G (c.fact 112 (f := .glo "_law_three_right")))⟩)
  d__law_bad_counts := (let ⟨_, F⟩ := c.def_ 42 (d := ⟨.glo "_law_bad_counts", "_law_bad_counts", "_law_bad_counts", (top 62), []⟩); ⟨_, _, F, (He.glo_ok X G (c.fact 113 (f := .glo "_law_bad_counts")))⟩)
  d__law_drawn := (let ⟨_, F⟩ := c.def_ 43 (d := ⟨.glo "_law_drawn", "_law_drawn", "_law_drawn", (top 55), []⟩); ⟨_, _, F, (He.glo_ok X G (c.fact 114 (f := .glo "_law_drawn")))⟩)
  d__law_move := (let ⟨_, F⟩ := c.def_ 44 (d := ⟨.glo "_law_move", "_law_move", "_law_move", (top 60), []⟩); ⟨_, _, F, (He.glo_ok X G (c.fact 115 (f := .glo "_law_move")))⟩)
  d__law_wrong_moves := (let ⟨_, F⟩ := c.def_ 45 (d := ⟨.glo "_law_wrong_moves", "_law_wrong_moves", "_law_wrong_moves", (top 68), []⟩); ⟨_, _, F, (He.glo_ok X G (c.fact 116 (f := .glo "_law_wrong_moves")))⟩)
  d__law_moves_right := (let ⟨_, F⟩ := c.def_ 46 (d := ⟨.glo "_law_moves_right", "_law_moves_right", "_law_moves_right", (top 75), []⟩); ⟨_, _, F, (He.glo_ok X G (c.fact 117 (f := .glo "_law_moves_right")))⟩)
  d__law_limit_right := (let ⟨_, F⟩ := c.def_ 47 (d := ⟨.glo "_law_limit_right", "_law_limit_right", "_law_limit_right", (top 74), []⟩); ⟨_, _, F, (He.glo_ok X G (c.fact 118 (f := .glo "_law_limit_right")))⟩)
  d_law := (let ⟨_, F⟩ := c.def_ 48 (d := ⟨.glo "law", "law", "law", (top 76), []⟩); ⟨_, _, F, (He.glo_ok X G (c.fact 119 (f := .glo "law")))⟩)
  ex := (fun y hy => by simp only [raised, List.mem_cons, List.not_mem_nil, or_false] at hy; rcases hy with rfl | rfl | rfl | rfl <;> first | exact fc_ex (c.fact 71 (f := .exc "BadNumber")) | exact fc_ex (c.fact 77 (f := .exc "NotACount")) | exact fc_ex (c.fact 102 (f := .exc "NotAMove")) | exact fc_ex (c.fact 95 (f := .exc "TooMany")))
  xf := (fun y hy => by simp only [raised, List.mem_cons, List.not_mem_nil, or_false] at hy; rcases hy with rfl | rfl | rfl | rfl <;> first | exact fc_xf (c.fact 71 (f := .exc "BadNumber")) | exact fc_xf (c.fact 77 (f := .exc "NotACount")) | exact fc_xf (c.fact 102 (f := .exc "NotAMove")) | exact fc_xf (c.fact 95 (f := .exc "TooMany")))
  nof := (fun y hy n hn => by simp only [raised, List.mem_cons, List.not_mem_nil, or_false] at hy hn; rcases hy with rfl | rfl | rfl | rfl <;> rcases hn with rfl | rfl | rfl | rfl | rfl | rfl <;> first | exact He.eqO_ok (c.fact 70 (f := .xno "BadNumber" "high")) | exact He.eqO_ok (c.fact 120 (f := .xno "BadNumber" "index")) | exact He.eqO_ok (c.fact 121 (f := .xno "BadNumber" "limit")) | exact He.eqO_ok (c.fact 69 (f := .xno "BadNumber" "low")) | exact He.eqO_ok (c.fact 68 (f := .xno "BadNumber" "value")) | exact He.eqO_ok (c.fact 122 (f := .xno "BadNumber" "what")) | exact He.eqO_ok (c.fact 123 (f := .xno "NotACount" "high")) | exact He.eqO_ok (c.fact 76 (f := .xno "NotACount" "index")) | exact He.eqO_ok (c.fact 124 (f := .xno "NotACount" "limit")) | exact He.eqO_ok (c.fact 125 (f := .xno "NotACount" "low")) | exact He.eqO_ok (c.fact 126 (f := .xno "NotACount" "value")) | exact He.eqO_ok (c.fact 127 (f := .xno "NotACount" "what")) | exact He.eqO_ok (c.fact 128 (f := .xno "NotAMove" "high")) | exact He.eqO_ok (c.fact 101 (f := .xno "NotAMove" "index")) | exact He.eqO_ok (c.fact 129 (f := .xno "NotAMove" "limit")) | exact He.eqO_ok (c.fact 130 (f := .xno "NotAMove" "low")) | exact He.eqO_ok (c.fact 131 (f := .xno "NotAMove" "value")) | exact He.eqO_ok (c.fact 132 (f := .xno "NotAMove" "what")) | exact He.eqO_ok (c.fact 133 (f := .xno "TooMany" "high")) | exact He.eqO_ok (c.fact 134 (f := .xno "TooMany" "index")) | exact He.eqO_ok (c.fact 94 (f := .xno "TooMany" "limit")) | exact He.eqO_ok (c.fact 135 (f := .xno "TooMany" "low")) | exact He.eqO_ok (c.fact 136 (f := .xno "TooMany" "value")) | exact He.eqO_ok (c.fact 93 (f := .xno "TooMany" "what")))
  kit := (fun a y k hn h => by
    unfold kt at h
    split at h
    · rename_i hy; simp only [raised, List.mem_cons, List.not_mem_nil, or_false] at hy hn; cases h; rcases hy with rfl | rfl | rfl | rfl <;> rcases hn with rfl | rfl | rfl | rfl | rfl <;> first | exact of_decide_eq_true (c.fact 137 (f := .kit "BadNumber" "BadNumber" true)) | exact of_decide_eq_true (c.fact 138 (f := .kit "BadNumber" "HeldorderError" true)) | exact of_decide_eq_true (c.fact 139 (f := .kit "BadNumber" "NotACount" false)) | exact of_decide_eq_true (c.fact 140 (f := .kit "BadNumber" "NotAMove" false)) | exact of_decide_eq_true (c.fact 141 (f := .kit "BadNumber" "TooMany" false)) | exact of_decide_eq_true (c.fact 142 (f := .kit "NotACount" "BadNumber" false)) | exact of_decide_eq_true (c.fact 143 (f := .kit "NotACount" "HeldorderError" true)) | exact of_decide_eq_true (c.fact 144 (f := .kit "NotACount" "NotACount" true)) | exact of_decide_eq_true (c.fact 145 (f := .kit "NotACount" "NotAMove" false)) | exact of_decide_eq_true (c.fact 146 (f := .kit "NotACount" "TooMany" false)) | exact of_decide_eq_true (c.fact 147 (f := .kit "NotAMove" "BadNumber" false)) | exact of_decide_eq_true (c.fact 148 (f := .kit "NotAMove" "HeldorderError" true)) | exact of_decide_eq_true (c.fact 149 (f := .kit "NotAMove" "NotACount" false)) | exact of_decide_eq_true (c.fact 150 (f := .kit "NotAMove" "NotAMove" true)) | exact of_decide_eq_true (c.fact 151 (f := .kit "NotAMove" "TooMany" false)) | exact of_decide_eq_true (c.fact 152 (f := .kit "TooMany" "BadNumber" false)) | exact of_decide_eq_true (c.fact 153 (f := .kit "TooMany" "HeldorderError" true)) | exact of_decide_eq_true (c.fact 154 (f := .kit "TooMany" "NotACount" false)) | exact of_decide_eq_true (c.fact 155 (f := .kit "TooMany" "NotAMove" false)) | exact of_decide_eq_true (c.fact 156 (f := .kit "TooMany" "TooMany" true))
    · cases h)
  kitT := (fun a y k hn h => by
    unfold kt at h
    split at h
    · rename_i hy; simp only [raised, List.mem_cons, List.not_mem_nil, or_false] at hy hn; cases h; rcases hy with rfl | rfl | rfl | rfl <;> rcases hn with rfl <;> first | exact of_decide_eq_true (c.fact 157 (f := .kitT "BadNumber" "ValueError" true)) | exact of_decide_eq_true (c.fact 158 (f := .kitT "NotACount" "ValueError" true)) | exact of_decide_eq_true (c.fact 159 (f := .kitT "NotAMove" "ValueError" true)) | exact of_decide_eq_true (c.fact 160 (f := .kitT "TooMany" "ValueError" true))
    · cases h)
  kitL := (fun a k h => by
    unfold ktL at h
    split at h
    · rename_i hy; simp only [raised, List.mem_cons, List.not_mem_nil, or_false] at hy; cases h; rcases hy with rfl | rfl | rfl | rfl <;> first | exact of_decide_eq_true (c.fact 161 (f := .kitL "BadNumber" kl0 false)) | exact of_decide_eq_true (c.fact 162 (f := .kitL "NotACount" kl0 false)) | exact of_decide_eq_true (c.fact 163 (f := .kitL "NotAMove" kl0 false)) | exact of_decide_eq_true (c.fact 164 (f := .kitL "TooMany" kl0 false))
    · cases h)
  exm := (fun a b h => by
    unfold exmB at h
    split at h
    · rename_i hy; simp only [raised, List.mem_cons, List.not_mem_nil, or_false] at hy; cases h; rcases hy with rfl | rfl | rfl | rfl <;> first | exact He.exm_ok (c.fact 165 (f := .exm "BadNumber" "HeldorderError" true)) | exact He.exm_ok (c.fact 166 (f := .exm "NotACount" "HeldorderError" true)) | exact He.exm_ok (c.fact 167 (f := .exm "NotAMove" "HeldorderError" true)) | exact He.exm_ok (c.fact 168 (f := .exm "TooMany" "HeldorderError" true))
    · cases h)
end T

set_option Elab.async false
set_option linter.all false
set_option maxRecDepth 100000
set_option maxHeartbeats 4000000
set_option maxHeartbeats 0
namespace T
open PySem PySem.Spec PyProof.Rows L2 L2H NdefX Vd
theorem law_end {P : Program} {K : PySem.W.Frag} {mg : Str → Option Value} (W : Wd P K mg) (w : World) : ∃ f fd, mg "law" = some (.ref f) ∧ (∀ (s : Shared) (v : Value), BindsTo s fd ⟨[v], []⟩ [("script", v)]) ∧ ∀ base : Heap, FnOk P w K mg base (L2N.CX P w) 10 f fd ["script"] (spH K [false] sp_law) := by
  obtain ⟨f, fd, F, hmg⟩ := W.d_law
  exact ⟨f, fd, hmg, fun s v => FunD.bindsA (ps := ["script"]) F (fun _ _ _ _ _ _ us hl => match us, hl with | [_], _ => rfl) s [v] rfl, fun base => fd_ok F sc_law rfl len_law (d_law W f) pf_law⟩
end T
open PySem PySem.W PySem.Calls PyProof.Rows
set_option maxRecDepth 100000 in
set_option maxHeartbeats 0 in
theorem PySem.Challenge.cw_heldorder_k75_tally_holds : PySem.Challenge.rw_heldorder_k75_tally.Holds := by
  w_on; o_law
  refine HandSHeadRun.head_any (r := T.Rr) (q := T.qv) (H := T.hk) (ob := T.ob) (M := 60000) (loose := T.names) (d := HandSHeadRun.topDef (OpenLaw.row PySem.Challenge.rw_heldorder_k75_tally).prog 76) (kwd := []) T.ob_eq
    (by kernel_rfl) (fun s => by kernel_rfl) (fun w => Vd.run_split (T.run1 w) (T.run2 w) (T.run3 w)) (by kernel_rfl) (by kernel_rfl) (by kernel_rfl) (by rfl) (by first | assumption | decide +kernel) (by decide +kernel) ⟨rfl, rfl, rfl, rfl, rfl, by decide +kernel⟩ ?hw ?hc
  case hw => w_witness2
  case hc =>
    refine Vd.walk_ofV (l := PySem.Challenge.rw_heldorder_k75_tally) (n := 63) (k := 10) (x := "script") (sp := T.sp_law) rfl (by decide) (by kernel_rfl) ⟨rfl, by decide, by decide⟩ (fun ns h => ⟨ns, rfl, h, rfl⟩) ?F
    intro w mg fa h Y G hmg0
    obtain ⟨K, KX, c⟩ := Y
    have hmg : mg ("law" : PySem.Str) = some (.ref fa) := by
      have e : (HandSHeadRun.topDef (OpenLaw.row PySem.Challenge.rw_heldorder_k75_tally).prog 76).name = ("law" : PySem.Str) := by kernel_rfl
      rw [← e]
      exact hmg0
    obtain ⟨f, fd, hm, hb, hF⟩ := T.law_end (T.wd KX G c) w
    have e := hmg.symm.trans hm
    cases e
    exact ⟨K, fd, KX, hb, fun base _ _ => hF base⟩

