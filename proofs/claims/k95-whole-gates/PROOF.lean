import PyProof.Rows.All
import PySem.Challenge.RW_stairsintime_k95_whole_gates_on_a_path
import HandS.ForMost
import HandS.Style
import HandS.Zip
import HandS.TupAny
import HandS.Conv
import HandS.IsInst
import HandS.SortInts
import HandS.SortRule
import HandS.Wide
import HandS.Defaults
import KE.KTupSum
import KE.GoesZip
import KE.GoesMore
import KE.GoesEnum
import HandS.SetFor
import HandS.Ends
import HandS.Head0
import HandS.Head1
import HandS.Head2
import HandS.HeadEnd
import HandS.HeadHook1
import HandS.HeadHook2
import HandS.More
import HandS.Words
import HandS.WordsExc
import KE.KStateDown
section
set_option Elab.async false
set_option linter.all false
set_option maxRecDepth 100000
/-! Pure data beside the layer's heaps: what a value shows, the slots of a def, and how they stand over an abstract heap. -/
namespace Fw
open PySem PySem.Spec PyProof.Rows L2

/-! ### what a value shows -/
mutual
inductive Rp (K : PySem.W.Frag) (G : Hp) : V → PyData → Prop
  | non : Rp K G .non .none
  | bl (b : Bool) : Rp K G (.bl b) (.bool b)
  | int (i : Int) : Rp K G (.int i) (.int i)
  | str (x : Str) : Rp K G (.str x) (.str x)
  | lst {a : Addr} {xs : List V} {ds : List PyData} : G a = some (.lst xs) → RpA K G xs ds → Rp K G (.ref a) (.list ds)
  | tup {a : Addr} {xs : List V} {ds : List PyData} : G a = some (.tup xs) → RpA K G xs ds → Rp K G (.ref a) (.tuple ds)
inductive RpA (K : PySem.W.Frag) (G : Hp) : List V → List PyData → Prop
  | nil : RpA K G [] []
  | cons {v : V} {vs : List V} {d : PyData} {ds : List PyData} : Rp K G v d → RpA K G vs ds → RpA K G (v :: vs) (d :: ds)
end

/-- all that stands in the one stands in the other -/
def Sub (G G' : Hp) : Prop := ∀ a o, G a = some o → G' a = some o
theorem Sub.refl (G : Hp) : Sub G G := fun _ _ h => h
theorem Sub.trans {G G1 G2 : Hp} (a : Sub G G1) (b : Sub G1 G2) : Sub G G2 := fun x o h => b x o (a x o h)
theorem Sub.new {G : Hp} {p : Addr} {o : HO} (h : G p = none) : Sub G (upd G p o) := fun a u e => by
  rw [upd_ne (ne_of_none e h)]; exact e
theorem Sub.none {G G' : Hp} (s : Sub G G') {a : Addr} (h : G' a = Option.none) : G a = Option.none := by
  cases e : G a with
  | none => rfl
  | some o => rw [s a o e] at h; cases h
theorem Sub.rd {G G' : Hp} (s : Sub G G') {a : Addr} {u : HO} (h : Rd G a u) : Rd G' a u := h.elim (fun h => .inl (s _ _ h)) fun ⟨o, h⟩ => .inr ⟨o, s _ _ h⟩
theorem Sub.sqT {K : PySem.W.Frag} {G G' : Hp} (s : Sub G G') {a : Addr} {xs : List V} (h : SqT K G a xs) : SqT K G' a xs := h.elim (fun h => .inl (s.rd h)) .inr
theorem Sub.sqL {K : PySem.W.Frag} {G G' : Hp} (s : Sub G G') {a : Addr} {xs : List V} (h : SqL K G a xs) : SqL K G' a xs := h.elim (fun h => .inl (s.rd h)) .inr

section
variable {K : PySem.W.Frag} {G G' H : Hp}
mutual
theorem Rp.mono (s : Sub G G') : ∀ {d : PyData} {v : V}, Rp K G v d → Rp K G' v d
  | .none, _, .non => .non
  | .bool b, _, .bl _ => .bl b
  | .int i, _, .int _ => .int i
  | .str x, _, .str _ => .str x
  | .list ds, _, .lst h a => .lst (s _ _ h) (RpA.mono s a)
  | .tuple ds, _, .tup h a => .tup (s _ _ h) (RpA.mono s a)
theorem RpA.mono (s : Sub G G') : ∀ {ds : List PyData} {vs : List V}, RpA K G vs ds → RpA K G' vs ds
  | [], _, .nil => .nil
  | d :: ds, _, .cons h t => .cons (Rp.mono s h) (RpA.mono s t)
end
mutual
theorem Rp.dp (s : Sub G H) : ∀ {d : PyData} {v : V}, Rp K G v d → Dp K H v d
  | .none, _, .non => .non
  | .bool b, _, .bl _ => .bl b
  | .int i, _, .int _ => .int i
  | .str x, _, .str _ => .str x
  | .list ds, _, .lst h a => .lst (.of (s _ _ h)) (RpA.dp s a)
  | .tuple ds, _, .tup h a => .tup (.of (s _ _ h)) (RpA.dp s a)
theorem RpA.dp (s : Sub G H) : ∀ {ds : List PyData} {vs : List V}, RpA K G vs ds → DpAll K H vs ds
  | [], _, .nil => .nil
  | d :: ds, _, .cons h t => .cons (Rp.dp s h) (RpA.dp s t)
end
theorem RpA.len : ∀ {ds : List PyData} {vs : List V}, RpA K G vs ds → vs.length = ds.length
  | [], _, .nil => rfl
  | _ :: _, _, .cons _ t => congrArg (· + 1) t.len
theorem RpA.get : ∀ {ds : List PyData} {vs : List V} {i : Nat} {d : PyData}, RpA K G vs ds → ds[i]? = some d → ∃ v, vs[i]? = some v ∧ Rp K G v d
  | [], _, _, _, .nil, e => by simp at e
  | d :: ds, _, 0, _, .cons h _, e => by
    have e' : d = _ := Option.some.inj e
    subst e'; exact ⟨_, rfl, h⟩
  | d :: ds, _, i + 1, _, .cons _ t, e => t.get (i := i) (by simpa using e)
theorem RpA.getV : ∀ {ds : List PyData} {vs : List V} {i : Nat} {v : V}, RpA K G vs ds → vs[i]? = some v → ∃ d, ds[i]? = some d ∧ Rp K G v d
  | [], _, _, _, .nil, e => by simp at e
  | d :: ds, _, 0, _, .cons h _, e => by
    have e' : _ = _ := Option.some.inj e
    subst e'; exact ⟨_, rfl, h⟩
  | d :: ds, _, i + 1, _, .cons _ t, e => t.getV (i := i) (by simpa using e)
theorem RpA.app : ∀ {ds es : List PyData} {vs ws : List V}, RpA K G vs ds → RpA K G ws es → RpA K G (vs ++ ws) (ds ++ es)
  | [], _, _, _, .nil, s => s
  | _ :: _, _, _, _, .cons h t, s => .cons h (t.app s)
theorem RpA.take : ∀ {ds : List PyData} {vs : List V} (n : Nat), RpA K G vs ds → RpA K G (vs.take n) (ds.take n)
  | [], _, n, .nil => by simp; exact .nil
  | _ :: _, _, 0, _ => .nil
  | _ :: _, _, n + 1, .cons h t => .cons h (t.take n)
theorem RpA.drop : ∀ {ds : List PyData} {vs : List V} (n : Nat), RpA K G vs ds → RpA K G (vs.drop n) (ds.drop n)
  | [], _, n, .nil => by simp; exact .nil
  | _ :: _, _, 0, h => h
  | _ :: _, _, n + 1, .cons _ t => t.drop n
theorem RpA.rev : ∀ {ds : List PyData} {vs : List V}, RpA K G vs ds → RpA K G vs.reverse ds.reverse
  | [], _, .nil => .nil
  | _ :: _, _, .cons h t => by
    rw [List.reverse_cons, List.reverse_cons]
    exact t.rev.app (.cons h .nil)
theorem RpA.init {ds : List PyData} {vs : List V} (h : RpA K G vs ds) : RpA K G vs.dropLast ds.dropLast := by
  rw [List.dropLast_eq_take, List.dropLast_eq_take, h.len]
  exact h.take _
theorem RpA.set {v : V} {d : PyData} (r : Rp K G v d) : ∀ {ds : List PyData} {vs : List V} (n : Nat), RpA K G vs ds → RpA K G (vs.set n v) (ds.set n d)
  | [], _, _, .nil => .nil
  | _ :: _, _, 0, .cons _ t => .cons r t
  | _ :: _, _, n + 1, .cons h t => .cons h (RpA.set r n t)
theorem RpA.ints : ∀ {ns : List Int} {vs : List V}, RpA K G vs (ns.map PyData.int) → vs = ns.map V.int
  | [], _, .nil => rfl
  | _ :: _, _, .cons h t => by cases h; rw [t.ints]; rfl
theorem RpA.of_ints : ∀ (ns : List Int), RpA K G (ns.map V.int) (ns.map PyData.int)
  | [] => .nil
  | n :: ns => .cons (.int n) (RpA.of_ints ns)
theorem RpA.rep {v : V} {d : PyData} (h : Rp K G v d) : ∀ n : Nat, RpA K G (List.replicate n v) (List.replicate n d)
  | 0 => .nil
  | n + 1 => .cons h (RpA.rep h n)
end

/-! ### the slots of a def -/
inductive Slot where
  /-- nothing known -/
  | un
  /-- data that nobody changes any more -/
  | fz (d : PyData)
  /-- a list of the def's own, of such data -/
  | ow (ds : List PyData)
  /-- a list that the def was handed, and changes -/
  | pm (ds : List PyData)
  /-- a list of the def's own, of lists of its own -/
  | ow2 (dss : List (List PyData))
  /-- the k-th list of the one in slot j -/
  | al (j k : Nat)
  /-- the script -/
  | sc (ns : List Int)

abbrev Env := List Slot
abbrev Foot := Nat → List Addr

/-- no longer than the model lets a list or tuple be -/
def Szd : HO → Prop
  | .lst xs => xs.length ≤ sizeLine
  | .tup xs => xs.length ≤ sizeLine
  | _ => True
def SlotOk (K : PySem.W.Frag) (pa : Addr) (G H : Hp) (x : Option V) (as : List Addr) : Slot → Prop
  | .un => as = []
  | .fz d => as = [] ∧ ∃ v, x = some v ∧ Rp K G v d
  | .ow ds => ∃ a vs, as = [a] ∧ x = some (.ref a) ∧ H a = some (.lst vs) ∧ RpA K G vs ds ∧ vs.length ≤ sizeLine
  | .pm ds => ∃ vs, as = [pa] ∧ x = some (.ref pa) ∧ H pa = some (.lst vs) ∧ RpA K G vs ds ∧ vs.length ≤ sizeLine
  | .ow2 dss => ∃ a bs, as = a :: bs ∧ x = some (.ref a) ∧ H a = some (.lst (bs.map V.ref)) ∧ Paired (fun b ds => ∃ vs, H b = some (.lst vs) ∧ RpA K G vs ds ∧ vs.length ≤ sizeLine) bs dss ∧ bs.length ≤ sizeLine
  | .al _ _ => as = []
  | .sc ns => as = [] ∧ ∃ a, x = some (.ref a) ∧ SqL K G a (ns.map V.int)

def Owns (fp : Foot) (a : Addr) : Prop := ∃ i, a ∈ fp i

structure Rel (K : PySem.W.Frag) (pa : Addr) (G : Hp) (fp : Foot) (δ : Env) (σ : L2.St) (H : Hp) : Prop where
  len : σ.length = δ.length
  sub : Sub G H
  slot : ∀ (i : Nat) (s : Slot), δ[i]? = some s → SlotOk K pa G H (σ.getD i none) (fp i) s
  als : ∀ (i j k : Nat), δ[i]? = some (.al j k) → ∃ b dss, σ[i]? = some (some (.ref b)) ∧ (fp j)[k + 1]? = some b ∧ δ[j]? = some (.ow2 dss)
  nod : ∀ i, (fp i).Nodup
  dis : ∀ i j a, a ∈ fp i → a ∈ fp j → i = j
  free : ∀ i a, a ∈ fp i → G a = none
  has : ∀ i a, a ∈ fp i → ∃ o, H a = some o
  out : ∀ i, δ.length ≤ i → fp i = []
  siz : ∀ a o, G a = some o → Szd o

/-- from one moment to a later one: O, O' what is the def's own -/
structure Step (G : Hp) (O : Addr → Prop) (H G' : Hp) (O' : Addr → Prop) (H' : Hp) : Prop where
  fz : Sub G G'
  keep : ∀ a o, H a = some o → ¬ O a → H' a = some o
  old : ∀ a, H a ≠ none → ¬ O a → G' a = G a
  own : ∀ a, O' a → O a ∨ H a = none
  all : ∀ a, H' a = none → H a = none

theorem Step.refl {G : Hp} {O : Addr → Prop} {H : Hp} : Step G O H G O H := ⟨.refl G, fun _ _ h _ => h, fun _ _ _ => rfl, fun _ h => .inl h, fun _ h => h⟩
theorem Step.trans {G G1 G2 H H1 H2 : Hp} {O O1 O2 : Addr → Prop} (s : Step G O H G1 O1 H1) (t : Step G1 O1 H1 G2 O2 H2) : Step G O H G2 O2 H2 := by
  have no : ∀ a, H a ≠ none → ¬ O a → ¬ O1 a := fun a h n o1 => (s.own a o1).elim n h
  refine ⟨s.fz.trans t.fz, fun a o h n => ?_, fun a h n => ?_, fun a o2 => ?_, fun a h => s.all a (t.all a h)⟩
  · exact t.keep a o (s.keep a o h n) (no a (by rw [h]; simp) n)
  · have h1 : H1 a ≠ none := by
      cases e : H a with
      | none => exact absurd e h
      | some o => rw [s.keep a o e n]; simp
    rw [t.old a h1 (no a h n), s.old a h n]
  · rcases t.own a o2 with h | h
    · exact s.own a h
    · by_cases q : O a
      · exact .inl q
      · refine .inr ?_
        cases e : H a with
        | none => rfl
        | some o => rw [s.keep a o e q] at h; cases h
theorem new_all {H : Hp} {p : Addr} {o : HO} : ∀ a, upd H p o a = none → H a = none := fun a e => by
  by_cases q : a = p
  · subst q; rw [upd_same] at e; cases e
  · rw [upd_ne q] at e; exact e
/-- a new thing, frozen at once -/
theorem Step.new {G H : Hp} {O : Addr → Prop} {p : Addr} {o : HO} (s : Sub G H) (h : H p = none) : Step G O H (upd G p o) O (upd H p o) := by
  refine ⟨.new (s.none h), fun a u e _ => ?_, fun a e _ => ?_, fun _ q => .inl q, new_all⟩
  · rw [upd_ne (ne_of_none e h)]; exact e
  · exact upd_ne fun z => e (by rw [z]; exact h)
/-- a new thing -/
theorem Step.lay {G H : Hp} {O : Addr → Prop} {p : Addr} {o : HO} (h : H p = none) : Step G O H G O (upd H p o) := by
  refine ⟨.refl G, fun a u e _ => ?_, fun a e _ => rfl, fun _ q => .inl q, new_all⟩
  rw [upd_ne (ne_of_none e h)]; exact e

section
variable {K : PySem.W.Frag} {pa : Addr} {G G' H H' : Hp} {fp fp' : Foot} {δ δ' : Env} {σ : L2.St}
theorem SlotOk.move {x : Option V} {as : List Addr} {s : Slot} (g : Sub G G') (h : ∀ a ∈ as, H' a = H a) (k : SlotOk K pa G H x as s) : SlotOk K pa G' H' x as s := by
  cases s with
  | un => exact k
  | fz d => obtain ⟨e, v, ex, r⟩ := k; exact ⟨e, v, ex, r.mono g⟩
  | ow ds => obtain ⟨a, vs, e, ex, q, r, z⟩ := k; exact ⟨a, vs, e, ex, by rw [h a (by simp [e])]; exact q, r.mono g, z⟩
  | pm ds => obtain ⟨vs, e, ex, q, r, z⟩ := k; exact ⟨vs, e, ex, by rw [h pa (by simp [e])]; exact q, r.mono g, z⟩
  | ow2 dss =>
    obtain ⟨a, bs, e, ex, q, r, z⟩ := k
    refine ⟨a, bs, e, ex, by rw [h a (by simp [e])]; exact q, ?_, z⟩
    have go : ∀ {bs : List Addr} {dss : List (List PyData)}, (∀ b ∈ bs, H' b = H b) → Paired (fun b ds => ∃ vs, H b = some (.lst vs) ∧ RpA K G vs ds ∧ vs.length ≤ sizeLine) bs dss → Paired (fun b ds => ∃ vs, H' b = some (.lst vs) ∧ RpA K G' vs ds ∧ vs.length ≤ sizeLine) bs dss := by
      intro bs dss hb p
      induction p with
      | nil => exact .nil
      | cons r t ih =>
        obtain ⟨vs, q, r, z⟩ := r
        exact .cons ⟨vs, by rw [hb _ (by simp)]; exact q, r.mono g, z⟩ (ih fun b m => hb b (by simp [m]))
    exact go (fun b m => h b (by simp [e, m])) r
  | al j k' => exact k
  | sc ns => obtain ⟨e, a, ex, q⟩ := k; exact ⟨e, a, ex, g.sqL q⟩
/-- the same slots over a later heap -/
theorem Rel.move (r : Rel K pa G fp δ σ H) (g : Sub G G') (s : Sub G' H') (h : ∀ i a, a ∈ fp i → H' a = H a) (n : ∀ i a, a ∈ fp i → G' a = none) (z : ∀ a o, G' a = some o → Szd o) : Rel K pa G' fp δ σ H' where
  len := r.len
  sub := s
  slot := fun i x e => (r.slot i x e).move g (h i)
  als := r.als
  nod := r.nod
  dis := r.dis
  free := n
  has := fun i a m => by rw [h i a m]; exact r.has i a m
  out := r.out
  siz := z
theorem Rel.ne (r : Rel K pa G fp δ σ H) {i : Nat} {a p : Addr} (m : a ∈ fp i) (h : H p = none) : a ≠ p := fun z => by
  obtain ⟨o, e⟩ := r.has i a m
  rw [z, h] at e; cases e
theorem Rel.lay (r : Rel K pa G fp δ σ H) {p : Addr} {o : HO} (h : H p = none) : Rel K pa G fp δ σ (upd H p o) :=
  r.move (.refl G) (r.sub.trans (.new h)) (fun i a m => upd_ne (r.ne m h)) r.free r.siz
theorem siz_upd {p : Addr} {o : HO} (z : ∀ a o, G a = some o → Szd o) (h : Szd o) : ∀ a u, upd G p o a = some u → Szd u := fun a u e => by
  by_cases q : a = p
  · subst q; rw [upd_same] at e; cases e; exact h
  · rw [upd_ne q] at e; exact z a u e
theorem Rel.new (r : Rel K pa G fp δ σ H) {p : Addr} {o : HO} (h : H p = none) (z : Szd o) : Rel K pa (upd G p o) fp δ σ (upd H p o) := by
  refine r.move (.new (r.sub.none h)) (fun a u e => ?_) (fun i a m => upd_ne (r.ne m h)) (fun i a m => ?_) (siz_upd r.siz z)
  · by_cases q : a = p
    · subst q; rw [upd_same] at e ⊢; exact e
    · rw [upd_ne q] at e ⊢; exact r.sub a u e
  · rw [upd_ne (r.ne m h)]; exact r.free i a m
/-- a list that was laid is frozen -/
theorem Rel.ice (r : Rel K pa G fp δ σ H) {p : Addr} {o : HO} (h : H p = some o) (g : G p = none) (n : ¬ Owns fp p) (z : Szd o) : Rel K pa (upd G p o) fp δ σ H := by
  refine r.move (.new g) (fun a u e => ?_) (fun _ _ _ => rfl) (fun i a m => ?_) (siz_upd r.siz z)
  · by_cases q : a = p
    · subst q; rw [upd_same] at e; rw [h]; exact e
    · rw [upd_ne q] at e; exact r.sub a u e
  · rw [upd_ne (fun z => n ⟨i, by rw [← z]; exact m⟩)]; exact r.free i a m
theorem Step.ice {O : Addr → Prop} {p : Addr} {o : HO} {G0 H0 : Hp} {O0 : Addr → Prop} (s : Step G0 O0 H0 G O H) (g : G p = none) (n : H0 p = none) : Step G0 O0 H0 (upd G p o) O H := by
  refine ⟨s.fz.trans (.new g), s.keep, fun a h q => ?_, s.own, s.all⟩
  rw [upd_ne (fun z => h (by rw [z]; exact n))]
  exact s.old a h q
theorem Rel.val (r : Rel K pa G fp δ σ H) {i : Nat} {d : PyData} (e : δ[i]? = some (.fz d)) : ∃ v, σ[i]? = some (some v) ∧ Rp K G v d := by
  obtain ⟨_, v, ex, h⟩ := r.slot i _ e
  refine ⟨v, ?_, h⟩
  rw [List.getD_eq_getElem?_getD] at ex
  cases q : σ[i]? with
  | none => rw [q] at ex; cases ex
  | some u => rw [q] at ex; exact congrArg some ex
end
end Fw

end
section
set_option Elab.async false
set_option linter.all false
set_option maxRecDepth 100000
/-! What an expression, a test, an argument list does to the slots, in plain functions; the rules that say so of the program's own text. -/
namespace Fw
open PySem PySem.Spec PyProof.Rows L2

abbrev F := Env → Option (PyData × Env)
abbrev FT := Env → Option (Bool × Env)
abbrev FA := Env → Option (List PyData × Env)

def tF (K : PySem.W.Frag) (f : F) : TE := fun σ H Q => ∃ pa G fp δ d δ', Rel K pa G fp δ σ H ∧ f δ = some (d, δ') ∧
  ∀ v G' H', Step G (Owns fp) H G' (Owns fp) H' → Rel K pa G' fp δ' σ H' → Rp K G' v d → Q v H'
/-- a new list, not frozen yet -/
def tL (K : PySem.W.Frag) (f : FA) : TE := fun σ H Q => ∃ pa G fp δ ds δ', Rel K pa G fp δ σ H ∧ f δ = some (ds, δ') ∧
  ∀ a vs G' H', Step G (Owns fp) H G' (Owns fp) H' → Rel K pa G' fp δ' σ H' → H' a = some (.lst vs) → RpA K G' vs ds → G' a = none → H a = none → vs.length ≤ sizeLine → Q (.ref a) H'
def tT (K : PySem.W.Frag) (f : FT) : TT := fun σ H Q => ∃ pa G fp δ b δ', Rel K pa G fp δ σ H ∧ f δ = some (b, δ') ∧
  ∀ G' H', Step G (Owns fp) H G' (Owns fp) H' → Rel K pa G' fp δ' σ H' → Q b H'
def tA (K : PySem.W.Frag) (f : FA) : TA := fun σ H Q => ∃ pa G fp δ ds δ', Rel K pa G fp δ σ H ∧ f δ = some (ds, δ') ∧
  ∀ vs G' H', Step G (Owns fp) H G' (Owns fp) H' → Rel K pa G' fp δ' σ H' → RpA K G' vs ds → Q vs H'

theorem _root_.L2.PE.weak {X : Cx} {e : Expr} {t t' : TE} (h : PE X e t) (w : ∀ σ H Q, t' σ H Q → t σ H Q) : PE X e t' := ⟨fun pins s σ H Q I q => h.run pins s σ H Q I (w σ H Q q)⟩
theorem _root_.L2.PT.weak {X : Cx} {e : Expr} {t t' : TT} (h : PT X e t) (w : ∀ σ H Q, t' σ H Q → t σ H Q) : PT X e t' := ⟨fun pins s σ H Q I q => h.run pins s σ H Q I (w σ H Q q)⟩
theorem _root_.L2.PW.weak {X : Cx} {e : Expr} {t t' : TT} (h : PW X e t) (w : ∀ σ H Q, t' σ H Q → t σ H Q) : PW X e t' := ⟨fun wh pins s σ H Q I q => h.run wh pins s σ H Q I (w σ H Q q)⟩
theorem _root_.L2.PA.weak {X : Cx} {es : List Expr} {t t' : TA} (h : PA X es t) (w : ∀ σ H Q, t' σ H Q → t σ H Q) : PA X es t' := ⟨fun pos pins s σ H Q I q => h.run pos pins s σ H Q I (w σ H Q q)⟩

/-! ### the plain functions -/
def sV (i : Nat) : F := fun δ => match δ[i]? with
  | some (.fz d) => some (d, δ)
  | _ => none
def sC (d : PyData) : F := fun δ => some (d, δ)
def s1 (r : PyData → Option PyData) (f : F) : F := fun δ => match f δ with
  | some (x, δ1) => (match r x with
    | some z => some (z, δ1)
    | none => none)
  | none => none
def s2 (r : PyData → PyData → Option PyData) (f g : F) : F := fun δ => match f δ with
  | some (x, δ1) => (match g δ1 with
    | some (y, δ2) => (match r x y with
      | some z => some (z, δ2)
      | none => none)
    | none => none)
  | none => none
def sA0 : FA := fun δ => some ([], δ)
def sA1 (f : F) (a : FA) : FA := fun δ => match f δ with
  | some (x, δ1) => (match a δ1 with
    | some (xs, δ2) => some (x :: xs, δ2)
    | none => none)
  | none => none
def sCall (r : List PyData → Option PyData) (a : FA) : F := fun δ => match a δ with
  | some (xs, δ1) => (match r xs with
    | some z => some (z, δ1)
    | none => none)
  | none => none
def sB (f : F) : FT := fun δ => match f δ with
  | some (.bool b, δ1) => some (b, δ1)
  | _ => none
def sAndT (f g : FT) : FT := fun δ => match f δ with
  | some (true, δ1) => g δ1
  | some (false, δ1) => some (false, δ1)
  | none => none
def sOrT (f g : FT) : FT := fun δ => match f δ with
  | some (true, δ1) => some (true, δ1)
  | some (false, δ1) => g δ1
  | none => none
def sNotT (f : FT) : FT := fun δ => match f δ with
  | some (b, δ1) => some (!b, δ1)
  | none => none
def sAnd (f g : F) : F := fun δ => match f δ with
  | some (.bool true, δ1) => g δ1
  | some (.bool false, δ1) => some (.bool false, δ1)
  | _ => none
def sOr (f g : F) : F := fun δ => match f δ with
  | some (.bool true, δ1) => some (.bool true, δ1)
  | some (.bool false, δ1) => g δ1
  | _ => none
def sIf (c : FT) (f g : F) : F := fun δ => match c δ with
  | some (true, δ1) => f δ1
  | some (false, δ1) => g δ1
  | none => none
def sTup (a : FA) : F := fun δ => match a δ with
  | some (xs, δ1) => if xs.length ≤ sizeLine then some (.tuple xs, δ1) else none
  | none => none
def sLst (a : FA) : FA := fun δ => match a δ with
  | some (xs, δ1) => if xs.length ≤ sizeLine then some (xs, δ1) else none
  | none => none
/-- a new list is frozen -/
def sFz (a : FA) : F := fun δ => match a δ with
  | some (xs, δ1) => some (.list xs, δ1)
  | none => none

/-! ### operations on data -/
def OpD (K : PySem.W.Frag) (rr : R2) (r : PyData → PyData → Option PyData) : Prop := ∀ pa G fp δ σ H vx vy dx dy dz (Q : VK), Rel K pa G fp δ σ H → Rp K G vx dx → Rp K G vy dy → r dx dy = some dz →
  (∀ v G' H', Step G (Owns fp) H G' (Owns fp) H' → Rel K pa G' fp δ σ H' → Rp K G' v dz → Q v H') → rr vx vy H Q
def UnD (K : PySem.W.Frag) (rr : V → Hp → VK → Prop) (r : PyData → Option PyData) : Prop := ∀ pa G fp δ σ H vx dx dz (Q : VK), Rel K pa G fp δ σ H → Rp K G vx dx → r dx = some dz →
  (∀ v G' H', Step G (Owns fp) H G' (Owns fp) H' → Rel K pa G' fp δ σ H' → Rp K G' v dz → Q v H') → rr vx H Q
def CaD (K : PySem.W.Frag) (rr : List V → Hp → VK → Prop) (r : List PyData → Option PyData) : Prop := ∀ pa G fp δ σ H vs ds dz (Q : VK), Rel K pa G fp δ σ H → RpA K G vs ds → r ds = some dz →
  (∀ v G' H', Step G (Owns fp) H G' (Owns fp) H' → Rel K pa G' fp δ σ H' → Rp K G' v dz → Q v H') → rr vs H Q
/-- a call that gives a new list -/
def CaL (K : PySem.W.Frag) (rr : List V → Hp → VK → Prop) (r : List PyData → Option (List PyData)) : Prop := ∀ pa G fp δ σ H vs ds dz (Q : VK), Rel K pa G fp δ σ H → RpA K G vs ds → r ds = some dz →
  (∀ a ws G' H', Step G (Owns fp) H G' (Owns fp) H' → Rel K pa G' fp δ σ H' → H' a = some (.lst ws) → RpA K G' ws dz → G' a = none → H a = none → ws.length ≤ sizeLine → Q (.ref a) H') → rr vs H Q

section
variable {X : Cx} {e a b c : Expr} {f g : F} {pos : Pos}

theorem px_var {i : Nat} (h : PE X e (tVar i)) : PE X e (tF X.K (sV i)) := h.weak fun σ H Q ⟨pa, G, fp, δ, d, δ', R, q, k⟩ => by
  unfold sV at q
  split at q
  · rename_i d0 e0
    obtain ⟨v, ev, r⟩ := R.val e0
    cases q
    exact ⟨v, ev, k v G H .refl R r⟩
  · cases q
theorem px_c {v : V} {d : PyData} (h : PE X e (tC v)) (r : ∀ G, Rp X.K G v d) : PE X e (tF X.K (sC d)) := h.weak fun σ H Q ⟨pa, G, fp, δ, d', δ', R, q, k⟩ => by
  cases q
  exact k v G H .refl R (r G)
theorem px_int {i j} : PE X (.Constant (.int i) j pos) (tF X.K (sC (.int i))) := px_c pe_int fun _ => .int i
theorem px_bl {i j} : PE X (.Constant (.bool i) j pos) (tF X.K (sC (.bool i))) := px_c pe_bl fun _ => .bl i
theorem px_non {j} : PE X (.Constant .none j pos) (tF X.K (sC .none)) := px_c pe_non fun _ => .non
theorem px_str {i j} : PE X (.Constant (.str i) j pos) (tF X.K (sC (.str i))) := px_c pe_str fun _ => .str i
/-- an int of the module -/
theorem px_gi {x : Str} {i : Int} (hm : ∃ t, X.mg x = some (.int i t)) (hg : Gl X x) (hd : (x == ("__debug__" : Str)) = false := by decide) : PE X (.Name x pos) (tF X.K (sC (.int i))) :=
  let ⟨t, h⟩ := hm
  px_c (pe_glob (v := .int i) hg h ⟨t, rfl⟩ hd) fun _ => .int i

theorem px_op2 {e : Expr} {rr : R2} {r : PyData → PyData → Option PyData} (h : PE X e (tOp rr (tF X.K f) (tF X.K g))) (o : OpD X.K rr r) : PE X e (tF X.K (s2 r f g)) := h.weak fun σ H Q ⟨pa, G, fp, δ, d, δ', R, q, k⟩ => by
  unfold s2 at q
  split at q
  · rename_i x δ1 e1
    split at q
    · rename_i y δ2 e2
      split at q
      · rename_i z e3
        cases q
        refine ⟨pa, G, fp, δ, x, δ1, R, e1, fun v1 G1 H1 S1 R1 p1 => ⟨pa, G1, fp, δ1, y, _, R1, e2, fun v2 G2 H2 S2 R2 p2 => ?_⟩⟩
        exact o pa G2 fp _ σ H2 v1 v2 x y d Q R2 (p1.mono S2.fz) p2 e3 fun v G' H' S3 R3 p3 => k v G' H' ((S1.trans S2).trans S3) R3 p3
      · cases q
    · cases q
  · cases q
theorem px_bin {op : Operator} {rr : R2} {r : PyData → PyData → Option PyData} (ho : OpR X (binaryOp op) rr) (o : OpD X.K rr r) (ha : PE X a (tF X.K f)) (hb : PE X b (tF X.K g)) : PE X (.BinOp a op b pos) (tF X.K (s2 r f g)) :=
  px_op2 (pe_op ho ha hb) o
theorem px_cmp {op : CmpOp} {rr : R2} {r : PyData → PyData → Option PyData} (ho : OpR X (compareOp op) rr) (o : OpD X.K rr r) (ha : PE X a (tF X.K f)) (hb : PE X b (tF X.K g)) (hm : behindInMarks op b = false) : PE X (.Compare a [op] [b] pos) (tF X.K (s2 r f g)) :=
  px_op2 (pe_cmpR ho ha hb hm) o
theorem px_un {op : UnaryOp} {rr : V → Hp → VK → Prop} {r : PyData → Option PyData} (ho : UnR X (unaryOp op) rr) (o : UnD X.K rr r) (ha : PE X a (tF X.K f)) : PE X (.UnaryOp op a pos) (tF X.K (s1 r f)) := (pe_un ho ha).weak fun σ H Q ⟨pa, G, fp, δ, d, δ', R, q, k⟩ => by
  unfold s1 at q
  split at q
  · rename_i x δ1 e1
    split at q
    · rename_i z e3
      cases q
      refine ⟨pa, G, fp, δ, x, _, R, e1, fun v1 G1 H1 S1 R1 p1 => ?_⟩
      exact o pa G1 fp _ σ H1 v1 x d Q R1 p1 e3 fun v G' H' S3 R3 p3 => k v G' H' (S1.trans S3) R3 p3
    · cases q
  · cases q

theorem px_nil : PA X [] (tA X.K sA0) := (pa_nil (X := X)).weak fun σ H Q ⟨pa, G, fp, δ, d, δ', R, q, k⟩ => by
  cases q
  exact k [] G H .refl R .nil
theorem px_cons {es : List Expr} {fa : FA} (he : PE X e (tF X.K f)) (hs : PA X es (tA X.K fa)) (h : PA X (e :: es) (tCons (tF X.K f) (tA X.K fa))) : PA X (e :: es) (tA X.K (sA1 f fa)) := h.weak fun σ H Q ⟨pa, G, fp, δ, d, δ', R, q, k⟩ => by
  unfold sA1 at q
  split at q
  · rename_i x δ1 e1
    split at q
    · rename_i xs δ2 e2
      cases q
      refine ⟨pa, G, fp, δ, x, δ1, R, e1, fun v1 G1 H1 S1 R1 p1 => ⟨pa, G1, fp, δ1, xs, _, R1, e2, fun v2 G2 H2 S2 R2 p2 => ?_⟩⟩
      exact k (v1 :: v2) G2 H2 (S1.trans S2) R2 (.cons (p1.mono S2.fz) p2)
    · cases q
  · cases q
theorem px_cb {e : Expr} {fa : FA} {rr : List V → Hp → VK → Prop} {r : List PyData → Option PyData} (h : PE X e (tCB rr (tA X.K fa))) (o : CaD X.K rr r) : PE X e (tF X.K (sCall r fa)) := h.weak fun σ H Q ⟨pa, G, fp, δ, d, δ', R, q, k⟩ => by
  unfold sCall at q
  split at q
  · rename_i xs δ1 e1
    split at q
    · rename_i z e2
      cases q
      refine ⟨pa, G, fp, δ, xs, _, R, e1, fun vs G1 H1 S1 R1 p1 => ?_⟩
      exact o pa G1 fp _ σ H1 vs xs d Q R1 p1 e2 fun v G' H' S3 R3 p3 => k v G' H' (S1.trans S3) R3 p3
    · cases q
  · cases q
def sCallL (r : List PyData → Option (List PyData)) (a : FA) : FA := fun δ => match a δ with
  | some (xs, δ1) => (match r xs with
    | some z => some (z, δ1)
    | none => none)
  | none => none
theorem px_cl {e : Expr} {fa : FA} {rr : List V → Hp → VK → Prop} {r : List PyData → Option (List PyData)} (h : PE X e (tCB rr (tA X.K fa))) (o : CaL X.K rr r) : PE X e (tL X.K (sCallL r fa)) := h.weak fun σ H Q ⟨pa, G, fp, δ, d, δ', R, q, k⟩ => by
  unfold sCallL at q
  split at q
  · rename_i xs δ1 e1
    split at q
    · rename_i z e2
      cases q
      refine ⟨pa, G, fp, δ, xs, _, R, e1, fun vs G1 H1 S1 R1 p1 => ?_⟩
      refine o pa G1 fp _ σ H1 vs xs d Q R1 p1 e2 fun a ws G' H' S3 R3 ha p3 hg hn hz => k a ws G' H' (S1.trans S3) R3 ha p3 hg ?_ hz
      cases q : H a with
      | none => rfl
      | some o =>
        by_cases z : Owns fp a
        · obtain ⟨i, m⟩ := z
          obtain ⟨u, hu⟩ := R1.has i a m
          rw [hn] at hu; cases hu
        · rw [S1.keep a o q z] at hn; cases hn
    · cases q
  · cases q
/-- what is new is frozen -/
theorem px_fz {fa : FA} (h : PE X e (tL X.K fa)) : PE X e (tF X.K (sFz fa)) := h.weak fun σ H Q ⟨pa, G, fp, δ, d, δ', R, q, k⟩ => by
  unfold sFz at q
  split at q
  · rename_i xs δ1 e1
    cases q
    refine ⟨pa, G, fp, δ, xs, _, R, e1, fun a vs G' H' S R' ha r hg hn hz => ?_⟩
    have no : ¬ Owns fp a := fun ⟨i, m⟩ => by
      obtain ⟨u, hu⟩ := R.has i a m
      rw [hn] at hu; cases hu
    exact k (.ref a) _ H' (S.ice hg hn) (R'.ice ha hg no hz) (.lst upd_same (r.mono (.new hg)))
  · cases q
theorem px_tup {es : List Expr} {fa : FA} {k0} (h : PE X (.Tuple es k0 pos) (tTup (tA X.K fa))) : PE X (.Tuple es k0 pos) (tF X.K (sTup fa)) := h.weak fun σ H Q ⟨pa, G, fp, δ, d, δ', R, q, k⟩ => by
  unfold sTup at q
  split at q
  · rename_i xs δ1 e1
    split at q
    · rename_i hz
      cases q
      refine ⟨pa, G, fp, δ, xs, _, R, e1, fun vs G1 H1 S1 R1 p1 => ⟨by rw [p1.len]; exact hz, fun p hp => ?_⟩⟩
      exact k (.ref p) _ _ (S1.trans (.new R1.sub hp)) (R1.new hp (by show vs.length ≤ sizeLine; rw [p1.len]; exact hz)) (.tup upd_same (p1.mono (.new (R1.sub.none hp))))
    · cases q
  · cases q
theorem px_lst {es : List Expr} {fa : FA} (h : PE X (.List es pos) (tLst (tA X.K fa))) : PE X (.List es pos) (tL X.K (sLst fa)) := h.weak fun σ H Q ⟨pa, G, fp, δ, d, δ', R, q, k⟩ => by
  unfold sLst at q
  split at q
  · rename_i xs δ1 e1
    split at q
    · rename_i hz
      cases q
      refine ⟨pa, G, fp, δ, _, _, R, e1, fun vs G1 H1 S1 R1 p1 => ⟨by rw [p1.len]; exact hz, fun p hp => ?_⟩⟩
      refine k p vs G1 _ (S1.trans (.lay hp)) (R1.lay hp) upd_same p1 (R1.sub.none hp) ?_ (by rw [p1.len]; exact hz)
      cases q : H p with
      | none => rfl
      | some o =>
        by_cases z : Owns fp p
        · obtain ⟨i, m⟩ := z
          obtain ⟨u, hu⟩ := R1.has i p m
          rw [hp] at hu; cases hu
        · rw [S1.keep p o q z] at hp; cases hp
    · cases q
  · cases q

/-! ### tests -/
theorem px_tv {e : Expr} {t : FT} (h : PT X e (tT X.K t)) : PT X e (tT X.K t) := h
theorem px_tB {e : Expr} (h : PT X e (tB (tF X.K f))) : PT X e (tT X.K (sB f)) := h.weak fun σ H Q ⟨pa, G, fp, δ, d, δ', R, q, k⟩ => by
  unfold sB at q
  split at q
  · rename_i b δ1 e1
    cases q
    refine ⟨pa, G, fp, δ, _, _, R, e1, fun v G1 H1 S1 R1 p1 => ?_⟩
    cases p1
    exact ⟨_, rfl, k G1 H1 S1 R1⟩
  · cases q
theorem px_tval {e : Expr} (h : PE X e (tF X.K f)) (he : ∀ whole, isTrue e X.env whole = (do let v ← whole; standAt e.pos; holding [v] (truthy v)) := by intro _; rfl) : PT X e (tT X.K (sB f)) := px_tB (pt_val h he)
theorem px_tcmp {op : CmpOp} {rr : R2} {r : PyData → PyData → Option PyData} (ho : OpR X (compareOp op) rr) (o : OpD X.K rr r) (ha : PE X a (tF X.K f)) (hb : PE X b (tF X.K g)) (hm : behindInMarks op b = false) : PT X (.Compare a [op] [b] pos) (tT X.K (sB (s2 r f g))) := by
  refine (pt_cmpR ho ha hb hm).weak fun σ H Q ⟨pa, G, fp, δ, d, δ', R, q, k⟩ => ?_
  unfold sB at q
  split at q
  · rename_i b0 δ1 e0
    cases q
    unfold s2 at e0
    split at e0
    · rename_i x δ1 e1
      split at e0
      · rename_i y δ2 e2
        split at e0
        · rename_i z e3
          cases e0
          refine ⟨pa, G, fp, δ, x, δ1, R, e1, fun v1 G1 H1 S1 R1 p1 => ⟨pa, G1, fp, δ1, y, _, R1, e2, fun v2 G2 H2 S2 R2 p2 => ?_⟩⟩
          refine o pa G2 fp _ σ H2 v1 v2 x y _ _ R2 (p1.mono S2.fz) p2 e3 fun v G' H' S3 R3 p3 => ?_
          cases p3
          exact ⟨_, rfl, k G' H' ((S1.trans S2).trans S3) R3⟩
        · cases e0
      · cases e0
    · cases e0
  · cases q
variable {t u : FT}
theorem px_not (h : PT X a (tT X.K t)) : PT X (.UnaryOp .Not a pos) (tT X.K (sNotT t)) := (pt_not h).weak fun σ H Q ⟨pa, G, fp, δ, d, δ', R, q, k⟩ => by
  unfold sNotT at q
  split at q
  · rename_i b δ1 e1
    cases q
    exact ⟨pa, G, fp, δ, _, _, R, e1, fun G1 H1 S1 R1 => k G1 H1 S1 R1⟩
  · cases q
theorem px_and {rest : List Expr} (ha : PT X a (tT X.K t)) (hb : PW X (.BoolOp .And (b :: rest) pos) (tT X.K u)) : PW X (.BoolOp .And (a :: b :: rest) pos) (tT X.K (sAndT t u)) := (pw_and ha hb).weak fun σ H Q ⟨pa, G, fp, δ, d, δ', R, q, k⟩ => by
  unfold sAndT at q
  split at q
  · rename_i δ1 e1
    refine ⟨pa, G, fp, δ, _, _, R, e1, fun G1 H1 S1 R1 => ?_⟩
    refine iteT ?_
    exact ⟨pa, G1, fp, _, _, _, R1, q, fun G2 H2 S2 R2 => k G2 H2 (S1.trans S2) R2⟩
  · rename_i δ1 e1
    cases q
    refine ⟨pa, G, fp, δ, _, _, R, e1, fun G1 H1 S1 R1 => ?_⟩
    refine iteF ?_
    exact k G1 H1 S1 R1
  · cases q
theorem px_or {rest : List Expr} (ha : PT X a (tT X.K t)) (hb : PW X (.BoolOp .Or (b :: rest) pos) (tT X.K u)) : PW X (.BoolOp .Or (a :: b :: rest) pos) (tT X.K (sOrT t u)) := (pw_or ha hb).weak fun σ H Q ⟨pa, G, fp, δ, d, δ', R, q, k⟩ => by
  unfold sOrT at q
  split at q
  · rename_i δ1 e1
    cases q
    refine ⟨pa, G, fp, δ, _, _, R, e1, fun G1 H1 S1 R1 => ?_⟩
    refine iteT ?_
    exact k G1 H1 S1 R1
  · rename_i δ1 e1
    refine ⟨pa, G, fp, δ, _, _, R, e1, fun G1 H1 S1 R1 => ?_⟩
    refine iteF ?_
    exact ⟨pa, G1, fp, _, _, _, R1, q, fun G2 H2 S2 R2 => k G2 H2 (S1.trans S2) R2⟩
  · cases q
theorem px_and1 (ha : PT X a (tT X.K t)) : PW X (.BoolOp .And [a] pos) (tT X.K t) := pw_and1 ha
theorem px_or1 (ha : PT X a (tT X.K t)) : PW X (.BoolOp .Or [a] pos) (tT X.K t) := pw_or1 ha
/-- .. as values -/
theorem px_andV {rest : List Expr} (ha : PE X a (tF X.K f)) (hb : PE X (.BoolOp .And (b :: rest) pos) (tF X.K g)) : PE X (.BoolOp .And (a :: b :: rest) pos) (tF X.K (sAnd f g)) := (pe_and ha hb).weak fun σ H Q ⟨pa, G, fp, δ, d, δ', R, q, k⟩ => by
  unfold sAnd at q
  split at q
  · rename_i δ1 e1
    refine ⟨pa, G, fp, δ, _, _, R, e1, fun v G1 H1 S1 R1 p1 => ?_⟩
    cases p1
    refine ⟨_, rfl, ?_⟩
    refine iteT ?_
    exact ⟨pa, G1, fp, _, _, _, R1, q, fun v2 G2 H2 S2 R2 p2 => k v2 G2 H2 (S1.trans S2) R2 p2⟩
  · rename_i δ1 e1
    cases q
    refine ⟨pa, G, fp, δ, _, _, R, e1, fun v G1 H1 S1 R1 p1 => ?_⟩
    cases p1
    refine ⟨_, rfl, ?_⟩
    refine iteF ?_
    exact k _ G1 H1 S1 R1 (.bl _)
  · cases q
theorem px_orV {rest : List Expr} (ha : PE X a (tF X.K f)) (hb : PE X (.BoolOp .Or (b :: rest) pos) (tF X.K g)) : PE X (.BoolOp .Or (a :: b :: rest) pos) (tF X.K (sOr f g)) := (pe_or ha hb).weak fun σ H Q ⟨pa, G, fp, δ, d, δ', R, q, k⟩ => by
  unfold sOr at q
  split at q
  · rename_i δ1 e1
    cases q
    refine ⟨pa, G, fp, δ, _, _, R, e1, fun v G1 H1 S1 R1 p1 => ?_⟩
    cases p1
    refine ⟨_, rfl, ?_⟩
    refine iteT ?_
    exact k _ G1 H1 S1 R1 (.bl _)
  · rename_i δ1 e1
    refine ⟨pa, G, fp, δ, _, _, R, e1, fun v G1 H1 S1 R1 p1 => ?_⟩
    cases p1
    refine ⟨_, rfl, ?_⟩
    refine iteF ?_
    exact ⟨pa, G1, fp, _, _, _, R1, q, fun v2 G2 H2 S2 R2 p2 => k v2 G2 H2 (S1.trans S2) R2 p2⟩
  · cases q
def notR : PyData → Option PyData
  | .bool b => some (.bool (!b))
  | _ => none
theorem px_notV (ha : PE X a (tF X.K f)) : PE X (.UnaryOp .Not a pos) (tF X.K (s1 notR f)) := (pe_not ha).weak fun σ H Q ⟨pa, G, fp, δ, d, δ', R, q, k⟩ => by
  unfold s1 at q
  split at q
  · rename_i x δ1 e1
    split at q
    · rename_i z e2
      cases q
      refine ⟨pa, G, fp, δ, _, _, R, e1, fun v G1 H1 S1 R1 p1 => ?_⟩
      cases p1 <;> simp [notR] at e2
      subst e2
      exact ⟨_, rfl, k _ G1 H1 S1 R1 (.bl _)⟩
    · cases q
  · cases q
theorem px_if {c : Expr} (hc : PT X c (tT X.K t)) (ha : PE X a (tF X.K f)) (hb : PE X b (tF X.K g)) : PE X (.IfExp c a b pos) (tF X.K (sIf t f g)) := (pe_ifExp hc ha hb).weak fun σ H Q ⟨pa, G, fp, δ, d, δ', R, q, k⟩ => by
  unfold sIf at q
  split at q
  · rename_i δ1 e1
    refine ⟨pa, G, fp, δ, _, _, R, e1, fun G1 H1 S1 R1 => ?_⟩
    refine iteT ?_
    exact ⟨pa, G1, fp, _, _, _, R1, q, fun v2 G2 H2 S2 R2 p2 => k v2 G2 H2 (S1.trans S2) R2 p2⟩
  · rename_i δ1 e1
    refine ⟨pa, G, fp, δ, _, _, R, e1, fun G1 H1 S1 R1 => ?_⟩
    refine iteF ?_
    exact ⟨pa, G1, fp, _, _, _, R1, q, fun v2 G2 H2 S2 R2 p2 => k v2 G2 H2 (S1.trans S2) R2 p2⟩
  · cases q
end
end Fw

end
section
set_option Elab.async false
set_option linter.all false
set_option maxRecDepth 100000
/-! The operations on data: what the layer's rules by values ask, answered by what the values show. -/
namespace Fw
open PySem PySem.Spec PyProof.Rows L2

/-! ### lists of one kind -/
def intsD : List PyData → Option (List Int)
  | [] => some []
  | .int i :: r => (match intsD r with
    | some ns => some (i :: ns)
    | none => none)
  | _ => none
def boolsD : List PyData → Option (List Bool)
  | [] => some []
  | .bool i :: r => (match boolsD r with
    | some ns => some (i :: ns)
    | none => none)
  | _ => none
def pairsD : List PyData → Option (List (Int × Int))
  | [] => some []
  | .tuple [.int i, .int j] :: r => (match pairsD r with
    | some ns => some ((i, j) :: ns)
    | none => none)
  | _ => none
def pD (p : Int × Int) : PyData := .tuple [.int p.1, .int p.2]
theorem intsD_eq : ∀ {ds : List PyData} {ns : List Int}, intsD ds = some ns → ds = ns.map PyData.int
  | [], _, h => by cases h; rfl
  | .int i :: r, ns, h => by
    simp only [intsD] at h
    split at h
    · rename_i ms e; cases h; rw [intsD_eq e]; rfl
    · cases h
  | .none :: _, _, h => by cases h
  | .bool _ :: _, _, h => by cases h
  | .str _ :: _, _, h => by cases h
  | .list _ :: _, _, h => by cases h
  | .tuple _ :: _, _, h => by cases h
  | .dict _ :: _, _, h => by cases h
theorem boolsD_eq : ∀ {ds : List PyData} {ns : List Bool}, boolsD ds = some ns → ds = ns.map PyData.bool
  | [], _, h => by cases h; rfl
  | .bool i :: r, ns, h => by
    simp only [boolsD] at h
    split at h
    · rename_i ms e; cases h; rw [boolsD_eq e]; rfl
    · cases h
  | .none :: _, _, h => by cases h
  | .int _ :: _, _, h => by cases h
  | .str _ :: _, _, h => by cases h
  | .list _ :: _, _, h => by cases h
  | .tuple _ :: _, _, h => by cases h
  | .dict _ :: _, _, h => by cases h
theorem intsD_map : ∀ ns : List Int, intsD (ns.map PyData.int) = some ns
  | [] => rfl
  | n :: r => by simp only [List.map_cons, intsD, intsD_map r]
theorem boolsD_map : ∀ ns : List Bool, boolsD (ns.map PyData.bool) = some ns
  | [] => rfl
  | n :: r => by simp only [List.map_cons, boolsD, boolsD_map r]
theorem pairsD_map : ∀ ns : List (Int × Int), pairsD (ns.map pD) = some ns
  | [] => rfl
  | n :: r => by simp only [List.map_cons, pairsD, pD, pairsD_map r]
theorem pairsD_eq : ∀ {ds : List PyData} {ns : List (Int × Int)}, pairsD ds = some ns → ds = ns.map pD := by
  intro ds
  induction ds with
  | nil => intro ns h; cases h; rfl
  | cons d r ih =>
    intro ns h
    unfold pairsD at h
    split at h
    · rename_i he; cases he
    · rename_i i j r' he
      obtain ⟨h1, h2⟩ := List.cons.inj he
      subst h1 h2
      split at h
      · rename_i ms e; cases h; rw [ih e]; rfl
      · cases h
    · cases h
theorem bools_vals {K : PySem.W.Frag} {G : Hp} : ∀ {ns : List Bool} {vs : List V}, RpA K G vs (ns.map PyData.bool) → vs = ns.map V.bl
  | [], _, .nil => rfl
  | _ :: _, _, .cons h t => by cases h; rw [bools_vals t]; rfl

/-! ### depth -/
def okD : Nat → PyData → Prop
  | _, .none => True
  | _, .bool _ => True
  | _, .int _ => True
  | _, .str x => PyData.strOk x = true
  | n + 1, .list xs => ∀ x ∈ xs, okD n x
  | n + 1, .tuple xs => ∀ x ∈ xs, okD n x
  | _, _ => False
theorem okD_all {n : Nat} (ih : ∀ d, okD n d → d.canLay0 = true ∧ d.depth ≤ n) : ∀ xs : List PyData, (∀ x ∈ xs, okD n x) → PyData.canLayAll0 xs = true ∧ PyData.depthAll xs ≤ n
  | [], _ => ⟨rfl, Nat.zero_le _⟩
  | x :: xs, h => by
    obtain ⟨a, b⟩ := ih x (h x (by simp))
    obtain ⟨c, d⟩ := okD_all ih xs fun y m => h y (by simp [m])
    refine ⟨by simp [PyData.canLayAll0, a, c], ?_⟩
    simp only [PyData.depthAll]
    omega
theorem okD_lay : ∀ (n : Nat) (d : PyData), okD n d → d.canLay0 = true ∧ d.depth ≤ n := by
  intro n
  induction n with
  | zero => intro d h; cases d <;> simp_all [okD, PyData.canLay0, PyData.depth]
  | succ n ih =>
    intro d h
    cases d with
    | none => exact ⟨rfl, Nat.zero_le _⟩
    | bool b => exact ⟨rfl, Nat.zero_le _⟩
    | int b => exact ⟨rfl, Nat.zero_le _⟩
    | str x => exact ⟨h, Nat.zero_le _⟩
    | list xs =>
      obtain ⟨a, b⟩ := okD_all ih xs h
      exact ⟨by simp only [PyData.canLay0, a], by simp only [PyData.depth]; omega⟩
    | tuple xs =>
      obtain ⟨a, b⟩ := okD_all ih xs h
      exact ⟨by simp only [PyData.canLay0, a], by simp only [PyData.depth]; omega⟩
    | dict _ => exact h.elim
theorem shaped_ok {d : PyData} (n : Nat) (h : okD n d) (hn : n ≤ 64) : SeqAt.shaped d = true := by
  obtain ⟨a, b⟩ := okD_lay n d h
  unfold SeqAt.shaped
  rw [a, Bool.true_and]
  exact decide_eq_true (Nat.le_trans b hn)

/-! ### the operations -/
def addR : PyData → PyData → Option PyData
  | .int i, .int j => some (.int (i + j))
  | .list xs, .list ys => if xs.length + ys.length ≤ sizeLine then some (.list (xs ++ ys)) else none
  | .tuple xs, .tuple ys => if xs.length + ys.length ≤ sizeLine then some (.tuple (xs ++ ys)) else none
  | .str a, .str b => if a.length + b.length ≤ sizeLine then some (.str (a ++ b)) else none
  | _, _ => none
def subR : PyData → PyData → Option PyData
  | .int i, .int j => some (.int (i - j))
  | _, _ => none
def mulR : PyData → PyData → Option PyData
  | .int i, .int j => if (-(2 ^ 64) < i ∧ i < 2 ^ 64) ∨ (-(2 ^ 64) < j ∧ j < 2 ^ 64) then some (.int (i * j)) else none
  | .list xs, .int k => if -(2 ^ 63) ≤ k ∧ k < 2 ^ 63 ∧ xs.length * k.toNat ≤ sizeLine then some (.list (List.replicate k.toNat xs).flatten) else none
  | _, _ => none
def fdivR : PyData → PyData → Option PyData
  | .int i, .int j => if 0 < j ∧ j < 1073741824 then some (.int (i / j)) else none
  | _, _ => none
def modR : PyData → PyData → Option PyData
  | .int i, .int j => if 0 < j then some (.int (i % j)) else none
  | _, _ => none
def powR : PyData → PyData → Option PyData
  | .int i, .int j => if 0 ≤ j ∧ j ≤ 1000000 ∧ i.natAbs < 2 ^ 64 then some (.int (i ^ j.toNat)) else none
  | _, _ => none
def ltR : PyData → PyData → Option PyData
  | .int i, .int j => some (.bool (decide (i < j)))
  | _, _ => none
def leR : PyData → PyData → Option PyData
  | .int i, .int j => some (.bool (decide (i ≤ j)))
  | _, _ => none
def gtR : PyData → PyData → Option PyData
  | .int i, .int j => some (.bool (decide (j < i)))
  | _, _ => none
def geR : PyData → PyData → Option PyData
  | .int i, .int j => some (.bool (decide (j ≤ i)))
  | _, _ => none
def eqR : PyData → PyData → Option PyData
  | .int i, .int j => some (.bool (i == j))
  | x, y => if SeqAt.shaped x = true ∧ SeqAt.shaped y = true then some (.bool (PyData.eqv x y)) else none
def neR : PyData → PyData → Option PyData
  | .int i, .int j => some (.bool (!(i == j)))
  | x, y => if SeqAt.shaped x = true ∧ SeqAt.shaped y = true then some (.bool (!PyData.eqv x y)) else none
def isNone : PyData → Bool
  | .none => true
  | _ => false
def isNR : PyData → PyData → Option PyData
  | x, .none => some (.bool (isNone x))
  | _, _ => none
def notNR : PyData → PyData → Option PyData
  | x, .none => some (.bool (!isNone x))
  | _, _ => none
def inR : PyData → PyData → Option PyData
  | .int i, .tuple ds => (match intsD ds with
    | some ns => some (.bool (ns.any (· == i)))
    | none => none)
  | .int i, .list ds => (match intsD ds with
    | some ns => some (.bool (ns.any (· == i)))
    | none => none)
  | _, _ => none
def ninR : PyData → PyData → Option PyData
  | .int i, .tuple ds => (match intsD ds with
    | some ns => some (.bool (!ns.any (· == i)))
    | none => none)
  | .int i, .list ds => (match intsD ds with
    | some ns => some (.bool (!ns.any (· == i)))
    | none => none)
  | _, _ => none
def ixR : PyData → PyData → Option PyData
  | .list ds, .int i => atI ds i
  | .tuple ds, .int i => atI ds i
  | _, _ => none
def negR : PyData → Option PyData
  | .int i => some (.int (-i))
  | _ => none

section
variable {K : PySem.W.Frag}
theorem step0 {pa : Addr} {G : Hp} {fp : Foot} {δ : Env} {σ : L2.St} {H : Hp} {d : PyData} {Q : VK} (R : Rel K pa G fp δ σ H) (k : ∀ v G' H', Step G (Owns fp) H G' (Owns fp) H' → Rel K pa G' fp δ σ H' → Rp K G' v d → Q v H') {v : V} (r : Rp K G v d) : Q v H := k v G H .refl R r
/-- a new thing is laid and frozen -/
theorem stepN {pa : Addr} {G : Hp} {fp : Foot} {δ : Env} {σ : L2.St} {H : Hp} {d : PyData} {Q : VK} (R : Rel K pa G fp δ σ H) (k : ∀ v G' H', Step G (Owns fp) H G' (Owns fp) H' → Rel K pa G' fp δ σ H' → Rp K G' v d → Q v H') {p : Addr} {o : HO} (hp : H p = none) (z : Szd o) (r : Rp K (upd G p o) (.ref p) d) : Q (.ref p) (upd H p o) :=
  k _ _ _ (.new R.sub hp) (R.new hp z) r
theorem stepL {pa : Addr} {G : Hp} {fp : Foot} {δ : Env} {σ : L2.St} {H : Hp} {ds : List PyData} {Q : VK} (R : Rel K pa G fp δ σ H) (k : ∀ v G' H', Step G (Owns fp) H G' (Owns fp) H' → Rel K pa G' fp δ σ H' → Rp K G' v (.list ds) → Q v H') {p : Addr} {vs : List V} (hp : H p = none) (z : vs.length ≤ sizeLine) (r : RpA K G vs ds) : Q (.ref p) (upd H p (.lst vs)) :=
  stepN R k hp z (.lst upd_same (r.mono (.new (R.sub.none hp))))
theorem stepT {pa : Addr} {G : Hp} {fp : Foot} {δ : Env} {σ : L2.St} {H : Hp} {ds : List PyData} {Q : VK} (R : Rel K pa G fp δ σ H) (k : ∀ v G' H', Step G (Owns fp) H G' (Owns fp) H' → Rel K pa G' fp δ σ H' → Rp K G' v (.tuple ds) → Q v H') {p : Addr} {vs : List V} (hp : H p = none) (z : vs.length ≤ sizeLine) (r : RpA K G vs ds) : Q (.ref p) (upd H p (.tup vs)) :=
  stepN R k hp z (.tup upd_same (r.mono (.new (R.sub.none hp))))

abbrev rAddAny (K : PySem.W.Frag) : R2 := fun x y H Q => (rI0 fun i j => V.int (i + j)) x y H Q ∨ (rCat x y H Q ∨ (rCatA K x y H Q ∨ ∃ i j, x = .str i ∧ y = .str j ∧ i.length + j.length ≤ sizeLine ∧ Q (.str (i ++ j)) H))
theorem op_addAny {X : Cx} : OpR X (binaryOp .Add) (rAddAny X.K) := op_add.or (op_cat.or (op_catA.or op_add_str))
theorem od_add : OpD K (rAddAny K) addR := by
  intro pa G fp δ σ H vx vy dx dy dz Q R hx hy e k
  cases hx with
  | int i => cases hy <;> first | (cases e; exact .inl ⟨_, _, rfl, rfl, step0 R k (.int _)⟩) | cases e
  | str i =>
    cases hy with
    | str j =>
      simp only [addR] at e
      split at e
      · cases e; exact .inr (.inr (.inr ⟨_, _, rfl, rfl, by assumption, step0 R k (.str _)⟩))
      · cases e
    | _ => cases e
  | lst ha ra =>
    cases hy with
    | lst hb rb =>
      simp only [addR] at e
      split at e
      · rename_i hz
        cases e
        have hz' := Nat.le_trans (Nat.le_of_eq (ra.app rb).len) (Nat.le_trans (Nat.le_of_eq List.length_append) hz)
        exact .inr (.inl ⟨_, _, _, _, rfl, rfl, R.sub _ _ ha, R.sub _ _ hb, by rw [ra.len, rb.len]; exact hz, fun p hp => stepL R k hp hz' (ra.app rb)⟩)
      · cases e
    | _ => cases e
  | tup ha ra =>
    cases hy with
    | tup hb rb =>
      simp only [addR] at e
      split at e
      · rename_i hz
        cases e
        have hz' := Nat.le_trans (Nat.le_of_eq (ra.app rb).len) (Nat.le_trans (Nat.le_of_eq List.length_append) hz)
        refine .inr (.inr (.inl ⟨_, _, _, _, rfl, rfl, .of (R.sub _ _ ha), .of (R.sub _ _ hb), by rw [ra.len, rb.len]; exact hz, fun z => ?_, fun _ z => ?_, fun _ _ p hp => stepT R k hp hz' (ra.app rb)⟩))
        · subst z; cases ra; exact step0 R k (.tup hb rb)
        · subst z; cases rb; rw [List.append_nil] at k; exact step0 R k (.tup ha ra)
      · cases e
    | _ => cases e
  | _ => cases hy <;> cases e
theorem od_sub : OpD K (rI0 fun i j => V.int (i - j)) subR := by
  intro pa G fp δ σ H vx vy dx dy dz Q R hx hy e k
  cases hx <;> cases hy <;> cases e
  exact ⟨_, _, rfl, rfl, step0 R k (.int _)⟩
abbrev rMulAny : R2 := fun x y H Q => (rI CMul fun i j => V.int (i * j)) x y H Q ∨ rRep x y H Q
theorem op_mulAny {X : Cx} : OpR X (binaryOp .Mult) rMulAny := op_mul.or op_rep
theorem rep_flat {G : Hp} {vs : List V} {ds : List PyData} (r : RpA K G vs ds) : ∀ n : Nat, RpA K G (List.replicate n vs).flatten (List.replicate n ds).flatten
  | 0 => .nil
  | n + 1 => by
    rw [List.replicate_succ, List.flatten_cons, List.replicate_succ, List.flatten_cons]
    exact r.app (rep_flat r n)
theorem od_mul : OpD K rMulAny mulR := by
  intro pa G fp δ σ H vx vy dx dy dz Q R hx hy e k
  cases hx with
  | int i =>
    cases hy with
    | int j =>
      simp only [mulR] at e
      split at e
      · rename_i h; cases e; exact .inl ⟨_, _, rfl, rfl, h, step0 R k (.int _)⟩
      · cases e
    | _ => cases e
  | lst ha ra =>
    cases hy with
    | int j =>
      simp only [mulR] at e
      split at e
      · rename_i h
        cases e
        exact .inr ⟨_, _, _, rfl, rfl, R.sub _ _ ha, h.1, h.2.1, by rw [ra.len]; exact h.2.2, fun p hp => stepL R k hp (by rw [(rep_flat ra _).len]; simp [List.length_flatten]; have := h.2.2; rw [Nat.mul_comm]; exact this) (rep_flat ra _)⟩
      · cases e
    | _ => cases e
  | _ => cases hy <;> cases e
theorem od_fdiv : OpD K (rI CDiv fun i j => V.int (i / j)) fdivR := by
  intro pa G fp δ σ H vx vy dx dy dz Q R hx hy e k
  cases hx <;> cases hy <;> try cases e
  simp only [fdivR] at e
  split at e
  · rename_i h; cases e; exact ⟨_, _, rfl, rfl, h, step0 R k (.int _)⟩
  · cases e
theorem od_mod : OpD K (rI (fun _ j => 0 < j) fun i j => V.int (i % j)) modR := by
  intro pa G fp δ σ H vx vy dx dy dz Q R hx hy e k
  cases hx <;> cases hy <;> try cases e
  simp only [modR] at e
  split at e
  · rename_i h; cases e; exact ⟨_, _, rfl, rfl, h, step0 R k (.int _)⟩
  · cases e
theorem od_pow : OpD K (rI CPow fun i j => V.int (i ^ j.toNat)) powR := by
  intro pa G fp δ σ H vx vy dx dy dz Q R hx hy e k
  cases hx <;> cases hy <;> try cases e
  simp only [powR] at e
  split at e
  · rename_i h; cases e; exact ⟨_, _, rfl, rfl, h, step0 R k (.int _)⟩
  · cases e
theorem od_lt : OpD K (rI0 fun i j => V.bl (decide (i < j))) ltR := by
  intro pa G fp δ σ H vx vy dx dy dz Q R hx hy e k
  cases hx <;> cases hy <;> cases e
  exact ⟨_, _, rfl, rfl, step0 R k (.bl _)⟩
theorem od_le : OpD K (rI0 fun i j => V.bl (decide (i ≤ j))) leR := by
  intro pa G fp δ σ H vx vy dx dy dz Q R hx hy e k
  cases hx <;> cases hy <;> cases e
  exact ⟨_, _, rfl, rfl, step0 R k (.bl _)⟩
theorem od_gt : OpD K (rI0 fun i j => V.bl (decide (j < i))) gtR := by
  intro pa G fp δ σ H vx vy dx dy dz Q R hx hy e k
  cases hx <;> cases hy <;> cases e
  exact ⟨_, _, rfl, rfl, step0 R k (.bl _)⟩
theorem od_ge : OpD K (rI0 fun i j => V.bl (decide (j ≤ i))) geR := by
  intro pa G fp δ σ H vx vy dx dy dz Q R hx hy e k
  cases hx <;> cases hy <;> cases e
  exact ⟨_, _, rfl, rfl, step0 R k (.bl _)⟩
theorem eqR_spec {x y z : PyData} (e : eqR x y = some z) : SeqAt.shaped x = true ∧ SeqAt.shaped y = true ∧ z = .bool (PyData.eqv x y) := by
  unfold eqR at e
  split at e
  · cases e; exact ⟨rfl, rfl, by simp [PyData.eqv]⟩
  · split at e
    · rename_i h; cases e; exact ⟨h.1, h.2, rfl⟩
    · cases e
theorem neR_spec {x y z : PyData} (e : neR x y = some z) : SeqAt.shaped x = true ∧ SeqAt.shaped y = true ∧ z = .bool (!PyData.eqv x y) := by
  unfold neR at e
  split at e
  · cases e; exact ⟨rfl, rfl, by simp [PyData.eqv]⟩
  · split at e
    · rename_i h; cases e; exact ⟨h.1, h.2, rfl⟩
    · cases e
theorem od_eq : OpD K (rEqD K) eqR := by
  intro pa G fp δ σ H vx vy dx dy dz Q R hx hy e k
  obtain ⟨a, b, rfl⟩ := eqR_spec e
  exact ⟨_, _, hx.dp R.sub, hy.dp R.sub, a, b, step0 R k (.bl _)⟩
theorem od_ne : OpD K (rNeD K) neR := by
  intro pa G fp δ σ H vx vy dx dy dz Q R hx hy e k
  obtain ⟨a, b, rfl⟩ := neR_spec e
  exact ⟨_, _, hx.dp R.sub, hy.dp R.sub, a, b, step0 R k (.bl _)⟩
theorem isNone_of {G : Hp} {v : V} {d : PyData} (h : Rp K G v d) : decide (v = V.non) = isNone d := by
  cases h <;> first | rfl | exact decide_eq_false (fun z => by cases z)
theorem od_isN : OpD K (fun x y H Q => y = .non ∧ Q (.bl (decide (x = .non))) H) isNR := by
  intro pa G fp δ σ H vx vy dx dy dz Q R hx hy e k
  cases hy <;> try cases e
  refine ⟨rfl, ?_⟩
  rw [isNone_of hx]
  exact step0 R k (.bl _)
theorem od_notN : OpD K (fun x y H Q => y = .non ∧ Q (.bl (!decide (x = .non))) H) notNR := by
  intro pa G fp δ σ H vx vy dx dy dz Q R hx hy e k
  cases hy <;> try cases e
  refine ⟨rfl, ?_⟩
  rw [isNone_of hx]
  exact step0 R k (.bl _)
theorem inV_ints (i : Int) : ∀ ns : List Int, inV (.int i) (ns.map V.int) = ns.any (· == i)
  | [] => rfl
  | n :: r => by
    have ih := inV_ints i r
    unfold inV at ih ⊢
    rw [List.map_cons, List.any_cons, List.any_cons, ih]
    rfl
theorem flat_ints : ∀ ns : List Int, (ns.map V.int).all flatV = true
  | [] => rfl
  | n :: r => by rw [List.map_cons, List.all_cons, flat_ints r]; rfl
theorem od_in : OpD K (rIn K false) inR := by
  intro pa G fp δ σ H vx vy dx dy dz Q R hx hy e k
  cases hx <;> cases hy <;> try cases e
  · rename_i i a xs ds ha ra
    simp only [inR] at e
    split at e
    · rename_i ns en
      cases e
      have := intsD_eq en
      subst this
      have := ra.ints
      subst this
      refine ⟨_, _, rfl, .inl (.of (R.sub _ _ ha)), rfl, flat_ints ns, ?_⟩
      rw [if_neg Bool.false_ne_true, inV_ints]
      exact step0 R k (.bl _)
    · cases e
  · rename_i i a xs ds ha ra
    simp only [inR] at e
    split at e
    · rename_i ns en
      cases e
      have := intsD_eq en
      subst this
      have := ra.ints
      subst this
      refine ⟨_, _, rfl, .inr (.of (R.sub _ _ ha)), rfl, flat_ints ns, ?_⟩
      rw [if_neg Bool.false_ne_true, inV_ints]
      exact step0 R k (.bl _)
    · cases e
theorem od_nin : OpD K (rIn K true) ninR := by
  intro pa G fp δ σ H vx vy dx dy dz Q R hx hy e k
  cases hx <;> cases hy <;> try cases e
  · rename_i i a xs ds ha ra
    simp only [ninR] at e
    split at e
    · rename_i ns en
      cases e
      have := intsD_eq en
      subst this
      have := ra.ints
      subst this
      refine ⟨_, _, rfl, .inl (.of (R.sub _ _ ha)), rfl, flat_ints ns, ?_⟩
      rw [if_pos rfl, inV_ints]
      exact step0 R k (.bl _)
    · cases e
  · rename_i i a xs ds ha ra
    simp only [ninR] at e
    split at e
    · rename_i ns en
      cases e
      have := intsD_eq en
      subst this
      have := ra.ints
      subst this
      refine ⟨_, _, rfl, .inr (.of (R.sub _ _ ha)), rfl, flat_ints ns, ?_⟩
      rw [if_pos rfl, inV_ints]
      exact step0 R k (.bl _)
    · cases e
theorem atI_rp {G : Hp} {vs : List V} {ds : List PyData} {i : Int} {d : PyData} (r : RpA K G vs ds) (e : atI ds i = some d) : ∃ v, atI vs i = some v ∧ Rp K G v d := by
  unfold atI at e ⊢
  rw [r.len]
  cases q : ixN ds.length i with
  | none => rw [q] at e; cases e
  | some j =>
    rw [q] at e
    exact r.get e
theorem od_ix : OpD K (rIx K) ixR := by
  intro pa G fp δ σ H vx vy dx dy dz Q R hx hy e k
  cases hx <;> cases hy <;> try cases e
  · rename_i a xs ds ha ra i
    obtain ⟨v, ev, rv⟩ := atI_rp ra e
    exact .inl ⟨_, _, _, _, rfl, rfl, .of (R.sub _ _ ha), ev, step0 R k rv⟩
  · rename_i a xs ds ha ra i
    obtain ⟨v, ev, rv⟩ := atI_rp ra e
    exact .inr (.inl ⟨_, _, _, _, rfl, rfl, .of (R.sub _ _ ha), ev, step0 R k rv⟩)
theorem ud_neg : UnD K (rU fun i => V.int (-i)) negR := by
  intro pa G fp δ σ H vx dx dz Q R hx e k
  cases hx <;> cases e
  exact ⟨_, rfl, step0 R k (.int _)⟩
end

/-! ### the rules -/
section
variable {X : Cx} {a b c : Expr} {f g : F} {pos : Pos}
theorem px_add (ha : PE X a (tF X.K f)) (hb : PE X b (tF X.K g)) : PE X (.BinOp a .Add b pos) (tF X.K (s2 addR f g)) := px_bin op_addAny od_add ha hb
theorem px_sub (ha : PE X a (tF X.K f)) (hb : PE X b (tF X.K g)) : PE X (.BinOp a .Sub b pos) (tF X.K (s2 subR f g)) := px_bin op_sub od_sub ha hb
theorem px_mul (ha : PE X a (tF X.K f)) (hb : PE X b (tF X.K g)) : PE X (.BinOp a .Mult b pos) (tF X.K (s2 mulR f g)) := px_bin op_mulAny od_mul ha hb
theorem px_fdiv (ha : PE X a (tF X.K f)) (hb : PE X b (tF X.K g)) : PE X (.BinOp a .FloorDiv b pos) (tF X.K (s2 fdivR f g)) := px_bin op_fdiv od_fdiv ha hb
theorem px_mod (ha : PE X a (tF X.K f)) (hb : PE X b (tF X.K g)) : PE X (.BinOp a .Mod b pos) (tF X.K (s2 modR f g)) := px_bin op_mod od_mod ha hb
theorem px_pow (ha : PE X a (tF X.K f)) (hb : PE X b (tF X.K g)) : PE X (.BinOp a .Pow b pos) (tF X.K (s2 powR f g)) := px_bin op_pow od_pow ha hb
theorem px_neg (ha : PE X a (tF X.K f)) : PE X (.UnaryOp .USub a pos) (tF X.K (s1 negR f)) := px_un un_neg ud_neg ha
theorem px_ix (ha : PE X a (tF X.K f)) (hb : PE X b (tF X.K g)) (hs : PlainIx b := by intro _ _; rfl) : PE X (.Subscript a b pos) (tF X.K (s2 ixR f g)) := px_op2 (pe_ix ix_seq ha hb hs) od_ix
/-- a comparison's rule by values, with the plain function -/
structure CmpD (X : Cx) (op : CmpOp) (b : Expr) (r : PyData → PyData → Option PyData) : Prop where
  ex : ∃ rr, OpR X (compareOp op) rr ∧ OpD X.K rr r
  hm : behindInMarks op b = false
theorem cd_lt : CmpD X .Lt b ltR := ⟨⟨_, op_lt, od_lt⟩, nomark _⟩
theorem cd_le : CmpD X .LtE b leR := ⟨⟨_, op_le, od_le⟩, nomark _⟩
theorem cd_gt : CmpD X .Gt b gtR := ⟨⟨_, op_gt, od_gt⟩, nomark _⟩
theorem cd_ge : CmpD X .GtE b geR := ⟨⟨_, op_ge, od_ge⟩, nomark _⟩
theorem cd_eq (hu : X.A.units + 64 < cLine) : CmpD X .Eq b eqR := ⟨⟨_, op_eqD hu, od_eq⟩, nomark _⟩
theorem cd_ne (hu : X.A.units + 64 < cLine) : CmpD X .NotEq b neR := ⟨⟨_, op_neD hu, od_ne⟩, nomark _⟩
theorem cd_is : CmpD X .Is b isNR := ⟨⟨_, op_isN, od_isN⟩, nomark _⟩
theorem cd_isnot : CmpD X .IsNot b notNR := ⟨⟨_, op_notN, od_notN⟩, nomark _⟩
theorem cd_in (hm : behindInMarks .In b = false := by rfl) : CmpD X .In b inR := ⟨⟨_, op_in_seq, od_in⟩, hm⟩
theorem cd_nin (hm : behindInMarks .NotIn b = false := by rfl) : CmpD X .NotIn b ninR := ⟨⟨_, op_notIn_seq, od_nin⟩, hm⟩
theorem px_cp {op : CmpOp} {r : PyData → PyData → Option PyData} (c : CmpD X op b r) (ha : PE X a (tF X.K f)) (hb : PE X b (tF X.K g)) : PE X (.Compare a [op] [b] pos) (tF X.K (s2 r f g)) :=
  let ⟨_, ho, o⟩ := c.ex
  px_cmp ho o ha hb c.hm
theorem px_tcp {op : CmpOp} {r : PyData → PyData → Option PyData} (c : CmpD X op b r) (ha : PE X a (tF X.K f)) (hb : PE X b (tF X.K g)) : PT X (.Compare a [op] [b] pos) (tT X.K (sB (s2 r f g))) :=
  let ⟨_, ho, o⟩ := c.ex
  px_tcmp ho o ha hb c.hm
end
end Fw

end
section
set_option Elab.async false
set_option linter.all false
set_option maxRecDepth 100000
/-! Statements: what they do to the slots, in plain functions; targets, loops. -/
namespace Fw
open PySem PySem.Spec PyProof.Rows L2

inductive Out where
  | nx (δ : Env)
  | rt (d : PyData) (δ : Env)
  /-- a new list is handed out, not frozen -/
  | rl (ds : List PyData) (δ : Env)
  | bk (δ : Env)
  | ct (δ : Env)
abbrev FS := Env → Option Out

def Aft (K : PySem.W.Frag) (pa : Addr) (D : Ends) (G : Hp) (fp : Foot) (H : Hp) : Out → Prop
  | .nx δ' => ∀ G' fp' σ' H', Step G (Owns fp) H G' (Owns fp') H' → Rel K pa G' fp' δ' σ' H' → D.nx σ' H'
  | .rt d δ' => ∀ v G' fp' σ' H', Step G (Owns fp) H G' (Owns fp') H' → Rel K pa G' fp' δ' σ' H' → Rp K G' v d → D.rt v H'
  | .rl ds δ' => ∀ a vs G' fp' σ' H', Step G (Owns fp) H G' (Owns fp') H' → Rel K pa G' fp' δ' σ' H' → H' a = some (.lst vs) → RpA K G' vs ds → G' a = none → H a = none → vs.length ≤ sizeLine → D.rt (.ref a) H'
  | .bk δ' => ∀ G' fp' σ' H', Step G (Owns fp) H G' (Owns fp') H' → Rel K pa G' fp' δ' σ' H' → D.bk σ' H'
  | .ct δ' => ∀ G' fp' σ' H', Step G (Owns fp) H G' (Owns fp') H' → Rel K pa G' fp' δ' σ' H' → D.ct σ' H'
theorem Aft.later {K : PySem.W.Frag} {pa : Addr} {D : Ends} {G G1 : Hp} {fp fp1 : Foot} {H H1 : Hp} {o : Out} (S : Step G (Owns fp) H G1 (Owns fp1) H1) (h : Aft K pa D G fp H o) : Aft K pa D G1 fp1 H1 o := by
  cases o with
  | nx δ => exact fun G' fp' σ' H' S' R' => h G' fp' σ' H' (S.trans S') R'
  | rt d δ => exact fun v G' fp' σ' H' S' R' => h v G' fp' σ' H' (S.trans S') R'
  | rl ds δ =>
    refine fun a vs G' fp' σ' H' S' R' ha r hg hn hz => h a vs G' fp' σ' H' (S.trans S') R' ha r hg (S.all a hn) hz
  | bk δ => exact fun G' fp' σ' H' S' R' => h G' fp' σ' H' (S.trans S') R'
  | ct δ => exact fun G' fp' σ' H' S' R' => h G' fp' σ' H' (S.trans S') R'

def tS (K : PySem.W.Frag) (g : FS) : TS := fun D σ H => ∃ pa G fp δ o, Rel K pa G fp δ σ H ∧ g δ = some o ∧ Aft K pa D G fp H o

theorem _root_.L2.PS.weak {X : Cx} {st : Stmt} {t t' : TS} (h : PS X st t) (w : ∀ D σ H, t' D σ H → t D σ H) : PS X st t' := ⟨fun pins s σ H D I q => h.run pins s σ H D I (w D σ H q)⟩
theorem _root_.L2.PSs.weak {X : Cx} {st : List Stmt} {t t' : TS} (h : PSs X st t) (w : ∀ D σ H, t' D σ H → t D σ H) : PSs X st t' := ⟨fun pins s σ H D I q => h.run pins s σ H D I (w D σ H q)⟩
theorem _root_.L2.PG.weak {X : Cx} {e : Expr} {t t' : TG} (h : PG X e t) (w : ∀ v σ H Q, t' v σ H Q → t v σ H Q) : PG X e t' := ⟨fun pins s σ H v u Q I r q => h.run pins s σ H v u Q I r (w v σ H Q q)⟩
theorem _root_.L2.PGs.weak {X : Cx} {e : List Expr} {t t' : TGs} (h : PGs X e t) (w : ∀ v σ H Q, t' v σ H Q → t v σ H Q) : PGs X e t' := ⟨fun pins s σ H v u Q I r q => h.run pins s σ H v u Q I r (w v σ H Q q)⟩
theorem _root_.L2.PI.weak {X : Cx} {tg e : Expr} {t t' : TI} (h : PI X tg e t) (w : ∀ σ H R, t' σ H R → t σ H R) : PI X tg e t' := ⟨fun pins s σ H R I q => h.run pins s σ H R I (w σ H R q)⟩

/-! ### slots stored -/
/-- no slot stands for a list within the one in slot i -/
def noAl (δ : Env) (i : Nat) : Bool := δ.all fun s => match s with
  | .al j _ => j != i
  | _ => true
theorem noAl_ne {δ : Env} {i j l k : Nat} (h : noAl δ i = true) (e : δ[j]? = some (.al l k)) : l ≠ i := by
  have := List.all_eq_true.mp h _ (List.mem_of_getElem? e)
  simpa using this
def put (δ : Env) (i : Nat) (s : Slot) : Option Env := match δ[i]? with
  | none => none
  | some (.ow2 _) => if noAl δ i = true then some (δ.set i s) else none
  | some (.pm _) => none
  | some (.sc _) => none
  | some _ => some (δ.set i s)
def cut (fp : Foot) (i : Nat) (as : List Addr) : Foot := fun j => if j = i then as else fp j
theorem cut_same {fp : Foot} {i : Nat} {as : List Addr} : cut fp i as i = as := if_pos rfl
theorem cut_ne {fp : Foot} {i j : Nat} {as : List Addr} (h : j ≠ i) : cut fp i as j = fp j := if_neg h
theorem cut_self {fp : Foot} {i : Nat} {as : List Addr} (h : fp i = as) : cut fp i as = fp := funext fun j => by
  by_cases e : j = i
  · subst e; rw [cut_same, h]
  · rw [cut_ne e]

section
variable {K : PySem.W.Frag} {pa : Addr} {G H : Hp} {fp : Foot} {δ δ' : Env} {σ : L2.St}
theorem put_eq {i : Nat} {s : Slot} (h : put δ i s = some δ') : δ' = δ.set i s ∧ i < δ.length ∧ ∀ dss, δ[i]? = some (.ow2 dss) → noAl δ i = true := by
  unfold put at h
  split at h
  · cases h
  · rename_i dss e
    split at h
    · rename_i na
      cases h
      exact ⟨rfl, (List.getElem?_eq_some_iff.mp e).1, fun _ _ => na⟩
    · cases h
  · cases h
  · cases h
  · rename_i s' a1 a2 a3 e
    cases h
    refine ⟨rfl, (List.getElem?_eq_some_iff.mp e).1, fun dss q => ?_⟩
    rw [e] at q
    exact absurd (Option.some.inj q) (a1 dss)
theorem getD_set_same {σ : L2.St} {i : Nat} {x : Option V} (h : i < σ.length) : (σ.set i x).getD i none = x := by
  rw [List.getD_eq_getElem?_getD, List.getElem?_set_self h]; rfl
theorem getD_set_ne {σ : L2.St} {i j : Nat} {x : Option V} (h : j ≠ i) : (σ.set i x).getD j none = σ.getD j none := by
  rw [List.getD_eq_getElem?_getD, List.getElem?_set_ne (Ne.symm h), List.getD_eq_getElem?_getD]
/-- a slot is stored, with what it owns -/
theorem Rel.put (R : Rel K pa G fp δ σ H) {i : Nat} {s : Slot} {v : V} {as : List Addr} (h : Fw.put δ i s = some δ') (ok : SlotOk K pa G H (some v) as s) (ns : ∀ j k, s ≠ .al j k)
    (nd : as.Nodup) (fr : ∀ a ∈ as, G a = none ∧ ¬ Owns fp a ∧ ∃ o, H a = some o) : Rel K pa G (cut fp i as) δ' (σ.set i (some v)) H := by
  obtain ⟨rfl, hi, n2⟩ := put_eq h
  have hσ : i < σ.length := by rw [R.len]; exact hi
  refine ⟨by simp [R.len], R.sub, fun j x e => ?_, fun j l k e => ?_, fun j => ?_, fun j l a m m' => ?_, fun j a m => ?_, fun j a m => ?_, fun j hj => ?_, ?_⟩
  · by_cases q : j = i
    · subst q
      rw [List.getElem?_set_self hi] at e
      cases e
      rw [getD_set_same hσ, cut_same]
      exact ok
    · rw [List.getElem?_set_ne (Ne.symm q)] at e
      rw [getD_set_ne q, cut_ne q]
      exact R.slot j x e
  · by_cases q : j = i
    · subst q
      rw [List.getElem?_set_self hi] at e
      exact absurd (Option.some.inj e) (ns l k)
    · rw [List.getElem?_set_ne (Ne.symm q)] at e
      obtain ⟨b, dss, e1, e2, e3⟩ := R.als j l k e
      have ql : l ≠ i := fun z => by rw [z] at e3; exact noAl_ne (n2 dss e3) e z
      exact ⟨b, dss, by rw [List.getElem?_set_ne (Ne.symm q)]; exact e1, by rw [cut_ne ql]; exact e2, by rw [List.getElem?_set_ne (Ne.symm ql)]; exact e3⟩
  · by_cases q : j = i
    · subst q; rw [cut_same]; exact nd
    · rw [cut_ne q]; exact R.nod j
  · by_cases q : j = i
    · by_cases q' : l = i
      · rw [q, q']
      · rw [q, cut_same] at m
        rw [cut_ne q'] at m'
        exact absurd ⟨l, m'⟩ (fr a m).2.1
    · by_cases q' : l = i
      · rw [q', cut_same] at m'
        rw [cut_ne q] at m
        exact absurd ⟨j, m⟩ (fr a m').2.1
      · rw [cut_ne q] at m
        rw [cut_ne q'] at m'
        exact R.dis j l a m m'
  · by_cases q : j = i
    · rw [q, cut_same] at m; exact (fr a m).1
    · rw [cut_ne q] at m; exact R.free j a m
  · by_cases q : j = i
    · rw [q, cut_same] at m; exact (fr a m).2.2
    · rw [cut_ne q] at m; exact R.has j a m
  · have hj : δ.length ≤ j := by simpa using hj
    rw [cut_ne (by omega)]
    exact R.out j hj
  · exact R.siz
theorem Rel.putF (R : Rel K pa G fp δ σ H) {i : Nat} {d : PyData} {v : V} (h : Fw.put δ i (.fz d) = some δ') (r : Rp K G v d) : Rel K pa G (cut fp i []) δ' (σ.set i (some v)) H :=
  R.put h ⟨rfl, v, rfl, r⟩ (fun _ _ z => by cases z) .nil fun a m => by cases m
theorem Step.cut0 {i : Nat} : Step G (Owns fp) H G (Owns (cut fp i [])) H :=
  ⟨.refl G, fun _ _ h _ => h, fun _ _ _ => rfl, fun a ⟨j, m⟩ => .inl (by
    by_cases q : j = i
    · rw [q, cut_same] at m; cases m
    · rw [cut_ne q] at m; exact ⟨j, m⟩), fun _ h => h⟩
theorem Step.cut1 {G0 H0 : Hp} {i : Nat} {as : List Addr} (S : Step G0 (Owns fp) H0 G (Owns fp) H) (fr : ∀ a ∈ as, H0 a = none) : Step G0 (Owns fp) H0 G (Owns (cut fp i as)) H :=
  ⟨S.fz, S.keep, S.old, fun a ⟨j, m⟩ => by
    by_cases q : j = i
    · rw [q, cut_same] at m; exact .inr (fr a m)
    · rw [cut_ne q] at m; exact .inl ⟨j, m⟩, S.all⟩
end

/-! ### targets -/
abbrev FG := PyData → Env → Option Env
/-- only these slots are stored -/
def Chg (vs : List Nat) (σ σ' : L2.St) : Prop := σ'.length = σ.length ∧ ∀ j, j ∉ vs → σ'[j]? = σ[j]?
def cuts (fp : Foot) : List Nat → Foot
  | [] => fp
  | i :: r => cuts (cut fp i []) r
def tG (K : PySem.W.Frag) (vs : List Nat) (p : FG) : TG := fun v σ H Q => ∃ pa G fp δ d δ', Rel K pa G fp δ σ H ∧ Rp K G v d ∧ p d δ = some δ' ∧
  ∀ fp' σ', fp' = cuts fp vs → Chg vs σ σ' → Step G (Owns fp) H G (Owns fp') H → Rel K pa G fp' δ' σ' H → Q σ' H
abbrev FGs := List PyData → Env → Option Env
def tGs (K : PySem.W.Frag) (vs : List Nat) (p : FGs) : TGs := fun ws σ H Q => ∃ pa G fp δ ds δ', Rel K pa G fp δ σ H ∧ RpA K G ws ds ∧ p ds δ = some δ' ∧
  ∀ fp' σ', fp' = cuts fp vs → Chg vs σ σ' → Step G (Owns fp) H G (Owns fp') H → Rel K pa G fp' δ' σ' H → Q σ' H
def gN (i : Nat) : FG := fun d δ => put δ i (.fz d)
def gNil : FGs := fun ds δ => match ds with
  | [] => some δ
  | _ => none
def gCns (p : FG) (q : FGs) : FGs := fun ds δ => match ds with
  | d :: r => (match p d δ with
    | some δ1 => q r δ1
    | none => none)
  | [] => none
def gT (n : Nat) (q : FGs) : FG := fun d δ => match d with
  | .tuple ds => if ds.length = n then q ds δ else none
  | _ => none
theorem cuts_app (fp : Foot) : ∀ (a b : List Nat), cuts fp (a ++ b) = cuts (cuts fp a) b
  | [], _ => rfl
  | i :: r, b => by show cuts (cut fp i []) (r ++ b) = cuts (cuts (cut fp i []) r) b; rw [cuts_app]
section
variable {X : Cx} {pos : Pos}
theorem px_gN {i : Nat} {e : Expr} (h : PG X e (gName i)) : PG X e (tG X.K [i] (gN i)) := h.weak fun v σ H Q ⟨pa, G, fp, δ, d, δ', R, r, e, k⟩ =>
  k _ _ rfl ⟨by simp, fun j hj => List.getElem?_set_ne (fun z => hj (by simp [z]))⟩ .cut0 (R.putF e r)
theorem px_gnil : PGs X [] (tGs X.K [] gNil) := (pgs_nil (X := X)).weak fun ws σ H Q ⟨pa, G, fp, δ, ds, δ', R, r, e, k⟩ => by
  cases r with
  | nil =>
    cases e
    exact ⟨rfl, k _ _ rfl ⟨rfl, fun _ _ => rfl⟩ .refl R⟩
  | cons a b => cases e
theorem px_gcons {e : Expr} {es : List Expr} {vs ws : List Nat} {p : FG} {q : FGs} (h1 : PG X e (tG X.K vs p)) (h2 : PGs X es (tGs X.K ws q)) (h : PGs X (e :: es) (gCons (tG X.K vs p) (tGs X.K ws q))) : PGs X (e :: es) (tGs X.K (vs ++ ws) (gCns p q)) := h.weak fun us σ H Q ⟨pa, G, fp, δ, ds, δ', R, r, e, k⟩ => by
  cases r with
  | nil => cases e
  | cons a b =>
    simp only [gCns] at e
    split at e
    · rename_i δ1 e1
      refine ⟨_, _, rfl, pa, G, fp, δ, _, δ1, R, a, e1, fun fp1 σ1 c1 g1 S1 R1 => ⟨pa, G, fp1, δ1, _, δ', R1, b, e, fun fp2 σ2 c2 g2 S2 R2 => ?_⟩⟩
      refine k fp2 σ2 ?_ ⟨g2.1.trans g1.1, fun j hj => ?_⟩ (S1.trans S2) R2
      · rw [cuts_app, ← c1, ← c2]
      · rw [g2.2 j fun z => hj (by simp [z]), g1.2 j fun z => hj (by simp [z])]
    · cases e
theorem px_gT {es : List Expr} {k0 : Nat} {vs : List Nat} {q : FGs} {n : Nat} (h : PG X (.Tuple es k0 pos) (gTup X.K n (tGs X.K vs q))) : PG X (.Tuple es k0 pos) (tG X.K vs (gT n q)) := h.weak fun v σ H Q ⟨pa, G, fp, δ, d, δ', R, r, e, k⟩ => by
  cases r with
  | @tup a xs ds ha ra =>
    simp only [gT] at e
    split at e
    · rename_i hl
      exact ⟨a, xs, rfl, .of (R.sub _ _ ha), ra.len.trans hl, pa, G, fp, δ, ds, δ', R, ra, e, k⟩
    · cases e
  | _ => cases e
end

/-! ### statements -/
def xNil : FS := fun δ => some (.nx δ)
def xSeq (g h : FS) : FS := fun δ => match g δ with
  | some (.nx δ1) => h δ1
  | r => r
def xSet (i : Nat) (f : F) : FS := fun δ => match f δ with
  | some (d, δ1) => (match put δ1 i (.fz d) with
    | some δ2 => some (.nx δ2)
    | none => none)
  | none => none
def xSetL (i : Nat) (a : FA) : FS := fun δ => match a δ with
  | some (ds, δ1) => (match put δ1 i (.ow ds) with
    | some δ2 => some (.nx δ2)
    | none => none)
  | none => none
def xAsg (p : FG) (f : F) : FS := fun δ => match f δ with
  | some (d, δ1) => (match p d δ1 with
    | some δ2 => some (.nx δ2)
    | none => none)
  | none => none
def xRet (f : F) : FS := fun δ => match f δ with
  | some (d, δ1) => some (.rt d δ1)
  | none => none
def xRetL (a : FA) : FS := fun δ => match a δ with
  | some (ds, δ1) => some (.rl ds δ1)
  | none => none
def xRetN : FS := fun δ => some (.rt .none δ)
def xIf (c : FT) (g h : FS) : FS := fun δ => match c δ with
  | some (true, δ1) => g δ1
  | some (false, δ1) => h δ1
  | none => none
def xDrop (f : F) : FS := fun δ => match f δ with
  | some (_, δ1) => some (.nx δ1)
  | none => none
def xBrk : FS := fun δ => some (.bk δ)
def xCnt : FS := fun δ => some (.ct δ)
/-- not gone through -/
def xNo : FS := fun _ => none
def xAug (i : Nat) (r : Int → Int → Int) (f : F) : FS := fun δ => match δ[i]? with
  | some (.fz (.int a)) => (match f δ with
    | some (.int b, δ1) => (match put δ1 i (.fz (.int (r a b))) with
      | some δ2 => some (.nx δ2)
      | none => none)
    | _ => none)
  | _ => none
section
variable {X : Cx} {e : Expr} {st : Stmt} {rest : List Stmt} {f : F} {g h : FS} {pos : Pos}
theorem px_sn : PSs X [] (tS X.K xNil) := (pss_nil (X := X)).weak fun D σ H ⟨pa, G, fp, δ, o, R, q, k⟩ => by
  cases q
  exact k G fp σ H .refl R
theorem px_sc (h1 : PS X st (tS X.K g)) (h2 : PSs X rest (tS X.K h)) : PSs X (st :: rest) (tS X.K (xSeq g h)) := (pss_cons h1 h2).weak fun D σ H ⟨pa, G, fp, δ, o, R, q, k⟩ => by
  unfold xSeq at q
  split at q
  · rename_i δ1 e1
    exact ⟨pa, G, fp, δ, .nx δ1, R, e1, fun G1 fp1 σ1 H1 S1 R1 => ⟨pa, G1, fp1, δ1, o, R1, q, k.later S1⟩⟩
  · rename_i n
    refine ⟨pa, G, fp, δ, o, R, q, ?_⟩
    cases o with
    | nx δ2 => exact absurd q (n δ2)
    | rt d δ2 => exact k
    | rl ds δ2 => exact k
    | bk δ2 => exact k
    | ct δ2 => exact k
theorem px_s1 (h1 : PS X st (tS X.K g)) : PSs X [st] (tS X.K g) := pss_one h1
theorem px_ret (he : PE X e (tF X.K f)) : PS X (.Return (some e) pos) (tS X.K (xRet f)) := (ps_ret he).weak fun D σ H ⟨pa, G, fp, δ, o, R, q, k⟩ => by
  unfold xRet at q
  split at q
  · rename_i d δ1 e1
    cases q
    exact ⟨pa, G, fp, δ, d, δ1, R, e1, fun v G' H' S R' r => k v G' fp σ H' S R' r⟩
  · cases q
theorem px_retL {a : FA} (he : PE X e (tL X.K a)) : PS X (.Return (some e) pos) (tS X.K (xRetL a)) := (ps_ret he).weak fun D σ H ⟨pa, G, fp, δ, o, R, q, k⟩ => by
  unfold xRetL at q
  split at q
  · rename_i d δ1 e1
    cases q
    exact ⟨pa, G, fp, δ, d, δ1, R, e1, fun v vs G' H' S R' ha r hg hn hz => k v vs G' fp σ H' S R' ha r hg hn hz⟩
  · cases q
theorem px_retN : PS X (.Return none pos) (tS X.K xRetN) := (ps_retN (X := X)).weak fun D σ H ⟨pa, G, fp, δ, o, R, q, k⟩ => by
  cases q
  exact k .non G fp σ H .refl R .non
theorem px_drop (he : PE X e (tF X.K f)) (hs : PS X (.Expr e pos) (tDrop (tF X.K f))) : PS X (.Expr e pos) (tS X.K (xDrop f)) := hs.weak fun D σ H ⟨pa, G, fp, δ, o, R, q, k⟩ => by
  unfold xDrop at q
  split at q
  · rename_i d δ1 e1
    cases q
    exact ⟨pa, G, fp, δ, d, δ1, R, e1, fun v G' H' S R' r => k G' fp σ H' S R'⟩
  · cases q
theorem px_ifS {c : Expr} {a b : List Stmt} {t : FT} (hc : PT X c (tT X.K t)) (ha : PSs X a (tS X.K g)) (hb : PSs X b (tS X.K h)) : PS X (.If c a b pos) (tS X.K (xIf t g h)) := (ps_if hc ha hb).weak fun D σ H ⟨pa, G, fp, δ, o, R, q, k⟩ => by
  unfold xIf at q
  split at q
  · rename_i δ1 e1
    refine ⟨pa, G, fp, δ, _, δ1, R, e1, fun G1 H1 S1 R1 => iteT ?_⟩
    exact ⟨pa, G1, fp, δ1, o, R1, q, k.later S1⟩
  · rename_i δ1 e1
    refine ⟨pa, G, fp, δ, _, δ1, R, e1, fun G1 H1 S1 R1 => iteF ?_⟩
    exact ⟨pa, G1, fp, δ1, o, R1, q, k.later S1⟩
  · cases q
theorem px_brk : PS X (.Break pos) (tS X.K xBrk) := (ps_break (X := X)).weak fun D σ H ⟨pa, G, fp, δ, o, R, q, k⟩ => by
  cases q
  exact k G fp σ H .refl R
theorem px_cnt : PS X (.Continue pos) (tS X.K xCnt) := (ps_continue (X := X)).weak fun D σ H ⟨pa, G, fp, δ, o, R, q, k⟩ => by
  cases q
  exact k G fp σ H .refl R
theorem px_pass : PS X (.Pass pos) (tS X.K xNil) := (ps_pass (X := X)).weak fun D σ H ⟨pa, G, fp, δ, o, R, q, k⟩ => by
  cases q
  exact k G fp σ H .refl R
theorem px_no : PS X st (tS X.K xNo) := (ps_never (X := X)).weak fun D σ H ⟨pa, G, fp, δ, o, R, q, k⟩ => by cases q
theorem px_nos {sts : List Stmt} : PSs X sts (tS X.K xNo) := (pss_never (X := X)).weak fun D σ H ⟨pa, G, fp, δ, o, R, q, k⟩ => by cases q
theorem px_set {i : Nat} (hs : PS X st (tAsg (tF X.K f) (gName i))) : PS X st (tS X.K (xSet i f)) := hs.weak fun D σ H ⟨pa, G, fp, δ, o, R, q, k⟩ => by
  unfold xSet at q
  split at q
  · rename_i d δ1 e1
    split at q
    · rename_i δ2 e2
      cases q
      exact ⟨pa, G, fp, δ, d, δ1, R, e1, fun v G' H' S R' r => k G' _ _ H' (S.trans .cut0) (R'.putF e2 r)⟩
    · cases q
  · cases q
theorem px_setL {i : Nat} {a : FA} (hs : PS X st (tAsg (tL X.K a) (gName i))) : PS X st (tS X.K (xSetL i a)) := hs.weak fun D σ H ⟨pa, G, fp, δ, o, R, q, k⟩ => by
  unfold xSetL at q
  split at q
  · rename_i ds δ1 e1
    split at q
    · rename_i δ2 e2
      cases q
      refine ⟨pa, G, fp, δ, ds, δ1, R, e1, fun a vs G' H' S R' ha r hg hn hz => k G' _ _ H' (S.cut1 (as := [a]) fun b m => ?_) (R'.put e2 ⟨a, vs, rfl, rfl, ha, r, hz⟩ (fun _ _ z => by cases z) (by simp) fun b m => ?_)⟩
      · have : b = a := by simpa using m
        subst this; exact hn
      · have : b = a := by simpa using m
        subst this
        refine ⟨hg, fun ⟨j, m⟩ => ?_, _, ha⟩
        obtain ⟨u, hu⟩ := R.has j b m
        rw [hn] at hu; cases hu
    · cases q
  · cases q
theorem px_asg {vs : List Nat} {p : FG} (hs : PS X st (tAsg (tF X.K f) (tG X.K vs p))) : PS X st (tS X.K (xAsg p f)) := hs.weak fun D σ H ⟨pa, G, fp, δ, o, R, q, k⟩ => by
  unfold xAsg at q
  split at q
  · rename_i d δ1 e1
    split at q
    · rename_i δ2 e2
      cases q
      exact ⟨pa, G, fp, δ, d, δ1, R, e1, fun v G' H' S R' r => ⟨pa, G', fp, δ1, d, δ2, R', r, e2, fun fp' σ' _ _ S' R'' => k G' fp' σ' H' (S.trans S') R''⟩⟩
    · cases q
  · cases q
theorem px_aug {i : Nat} {r : Int → Int → Int} (hs : PS X st (tAug i (tF X.K f) (ipI r))) : PS X st (tS X.K (xAug i r f)) := hs.weak fun D σ H ⟨pa, G, fp, δ, o, R, q, k⟩ => by
  unfold xAug at q
  split at q
  · rename_i a e0
    split at q
    · rename_i b δ1 e1
      split at q
      · rename_i δ2 e2
        cases q
        obtain ⟨v, ev, rv⟩ := R.val e0
        cases rv
        refine ⟨_, ev, pa, G, fp, δ, _, δ1, R, e1, fun v G' H' S R' rr => ?_⟩
        cases rr
        exact ⟨_, _, rfl, rfl, k G' _ _ H' (S.trans .cut0) (R'.putF e2 (.int _))⟩
      · cases q
    · cases q
  · cases q
end

/-! ### what is walked -/
structure Ylds (K : PySem.W.Frag) (pa : Addr) (J : It) (G1 : Hp) (O1 : Addr → Prop) (H1 : Hp) (ds : List PyData) : Prop where
  go : ∀ (G : Hp) (fp : Foot) (δ : Env) (σ : L2.St) (H : Hp) (i : Nat) (d : PyData), Step G1 O1 H1 G (Owns fp) H → Rel K pa G fp δ σ H → ds[i]? = some d →
    J.go i H ∧ ∀ x H', J.yld i H x H' → ∃ G', Step G (Owns fp) H G' (Owns fp) H' ∧ Rel K pa G' fp δ σ H' ∧ Rp K G' x d
  stop : ∀ (G : Hp) (fp : Foot) (δ : Env) (σ : L2.St) (H : Hp), Step G1 O1 H1 G (Owns fp) H → Rel K pa G fp δ σ H → J.stop ds.length H
  siz : ds.length ≤ sizeLine
def tI (K : PySem.W.Frag) (it : FA) : TI := fun σ H Q => ∃ pa G fp δ ds δ', Rel K pa G fp δ σ H ∧ it δ = some (ds, δ') ∧
  ∀ J G' H', Step G (Owns fp) H G' (Owns fp) H' → Rel K pa G' fp δ' σ H' → Ylds K pa J G' (Owns fp) H' ds → Q J H'
/-- the items of what a value shows -/
def itD : PyData → Option (List PyData)
  | .list ds => some ds
  | .tuple ds => some ds
  | _ => none
def wIt (f : F) : FA := fun δ => match f δ with
  | some (.list ds, δ1) => some (ds, δ1)
  | _ => none
def wItT (f : F) : FA := fun δ => match f δ with
  | some (.tuple ds, δ1) => some (ds, δ1)
  | _ => none
/-- lo, lo + 1, .. below hi -/
def rangeD (lo hi : Int) : List PyData := (List.range (hi - lo).toNat).map fun i => .int (lo + (i : Nat))
def wRng1 (a : FA) : FA := fun δ => match a δ with
  | some ([.int n], δ1) => if -(2 ^ 62) ≤ n ∧ n ≤ sizeLine then some (rangeD 0 n, δ1) else none
  | _ => none
def wRng2 (a : FA) : FA := fun δ => match a δ with
  | some ([.int m, .int n], δ1) => if 0 ≤ m ∧ m < 2 ^ 62 ∧ -(2 ^ 62) ≤ n ∧ n ≤ sizeLine then some (rangeD m n, δ1) else none
  | _ => none
theorem rangeD_get {lo hi : Int} {i : Nat} {d : PyData} (h : (rangeD lo hi)[i]? = some d) : i < (hi - lo).toNat ∧ d = .int (lo + (i : Nat)) := by
  unfold rangeD at h
  rw [List.getElem?_map] at h
  cases q : (List.range (hi - lo).toNat)[i]? with
  | none => rw [q] at h; cases h
  | some j =>
    rw [q] at h
    obtain ⟨l, e⟩ := List.getElem?_eq_some_iff.mp q
    rw [List.getElem_range] at e
    subst e
    exact ⟨by simpa using l, (Option.some.inj h).symm⟩
theorem rangeD_len (lo hi : Int) : (rangeD lo hi).length = (hi - lo).toNat := by unfold rangeD; simp
section
variable {X : Cx} {tg e : Expr} {f : F} {a : FA}
theorem px_iL (h : PI X tg e (iList X.K (tF X.K f))) : PI X tg e (tI X.K (wIt f)) := h.weak fun σ H Q ⟨pa, G, fp, δ, ds, δ', R, q, k⟩ => by
  unfold wIt at q
  split at q
  · rename_i ds' δ1 e1
    cases q
    refine ⟨pa, G, fp, δ, _, _, R, e1, fun v G' H' S R' r => ?_⟩
    cases r with
    | @lst a xs _ ha ra =>
      refine ⟨a, rfl, ⟨xs, .of (R'.sub _ _ ha)⟩, k _ G' H' S R' ⟨fun G2 fp2 δ2 σ2 H2 i d S2 R2 ed => ?_, fun G2 fp2 δ2 σ2 H2 S2 R2 => ?_, by rw [← ra.len]; exact R'.siz _ _ ha⟩⟩
      · obtain ⟨v, ev, rv⟩ := ra.get ed
        have h2 : SqL X.K H2 a xs := .of (R2.sub _ _ (S2.fz _ _ ha))
        refine ⟨⟨xs, v, h2, ev⟩, fun x H' y => ?_⟩
        obtain ⟨rfl, y⟩ := y
        have := Option.some.inj ((y xs h2).symm.trans ev)
        subst this
        exact ⟨G2, .refl, R2, rv.mono S2.fz⟩
      · exact ⟨xs, .of (R2.sub _ _ (S2.fz _ _ ha)), by rw [ra.len]; exact Nat.le_refl _⟩
  · cases q
theorem px_iT (h : PI X tg e (iTup X.K (tF X.K f))) : PI X tg e (tI X.K (wItT f)) := h.weak fun σ H Q ⟨pa, G, fp, δ, ds, δ', R, q, k⟩ => by
  unfold wItT at q
  split at q
  · rename_i ds' δ1 e1
    cases q
    refine ⟨pa, G, fp, δ, _, _, R, e1, fun v G' H' S R' r => ?_⟩
    cases r with
    | @tup a xs _ ha ra =>
      refine ⟨a, rfl, ⟨xs, .of (R'.sub _ _ ha)⟩, k _ G' H' S R' ⟨fun G2 fp2 δ2 σ2 H2 i d S2 R2 ed => ?_, fun G2 fp2 δ2 σ2 H2 S2 R2 => ?_, by rw [← ra.len]; exact R'.siz _ _ ha⟩⟩
      · obtain ⟨v, ev, rv⟩ := ra.get ed
        have h2 : SqT X.K H2 a xs := .of (R2.sub _ _ (S2.fz _ _ ha))
        refine ⟨⟨xs, v, h2, ev⟩, fun x H' y => ?_⟩
        obtain ⟨rfl, y⟩ := y
        have := Option.some.inj ((y xs h2).symm.trans ev)
        subst this
        exact ⟨G2, .refl, R2, rv.mono S2.fz⟩
      · exact ⟨xs, .of (R2.sub _ _ (S2.fz _ _ ha)), by rw [ra.len]; exact Nat.le_refl _⟩
  · cases q
theorem ylds_range {K : PySem.W.Frag} {pa : Addr} {G : Hp} {O : Addr → Prop} {H : Hp} (lo hi : Int) (hz : (hi - lo).toNat ≤ sizeLine) : Ylds K pa (Itr lo (hi - lo).toNat) G O H (rangeD lo hi) := by
  refine ⟨fun G2 fp2 δ2 σ2 H2 i d S2 R2 ed => ?_, fun G2 fp2 δ2 σ2 H2 S2 R2 => ?_, by rw [rangeD_len]; exact hz⟩
  · obtain ⟨l, rfl⟩ := rangeD_get ed
    refine ⟨l, fun x H' y => ?_⟩
    obtain ⟨rfl, rfl⟩ := y
    exact ⟨G2, .refl, R2, .int _⟩
  · show (hi - lo).toNat ≤ _
    rw [rangeD_len]; exact Nat.le_refl _
theorem px_iR1 (h : PI X tg e (iRng1 (tA X.K a))) : PI X tg e (tI X.K (wRng1 a)) := h.weak fun σ H Q ⟨pa, G, fp, δ, ds, δ', R, q, k⟩ => by
  unfold wRng1 at q
  split at q
  · rename_i n δ1 e1
    split at q
    · rename_i hn
      cases q
      refine ⟨pa, G, fp, δ, _, _, R, e1, fun vs G' H' S R' r => ?_⟩
      cases r with
      | cons r1 r2 =>
        cases r1; cases r2
        have e0 : n.toNat = (n - 0).toNat := by simp
        refine ⟨_, rfl, hn.1, Int.lt_of_le_of_lt hn.2 (by decide), ?_⟩
        rw [e0]
        exact k _ G' H' S R' (ylds_range 0 n (by have := hn.2; omega))
    · cases q
  · cases q
theorem px_iR2 (h : PI X tg e (iRng2 (tA X.K a))) : PI X tg e (tI X.K (wRng2 a)) := h.weak fun σ H Q ⟨pa, G, fp, δ, ds, δ', R, q, k⟩ => by
  unfold wRng2 at q
  split at q
  · rename_i m n δ1 e1
    split at q
    · rename_i hn
      cases q
      refine ⟨pa, G, fp, δ, _, _, R, e1, fun vs G' H' S R' r => ?_⟩
      cases r with
      | cons r1 r2 =>
        cases r1
        cases r2 with
        | cons r3 r4 =>
          cases r3; cases r4
          exact ⟨_, _, rfl, ⟨Int.le_trans (by decide) hn.1, hn.2.1, hn.2.2.1, Int.lt_of_le_of_lt hn.2.2.2 (by decide)⟩, k _ G' H' S R' (ylds_range m n (by have := hn.2.2.2; have := hn.1; omega))⟩
    · cases q
  · cases q
end

/-! ### for -/
def forL (p : FG) (body : FS) : List PyData → FS
  | [], δ => some (.nx δ)
  | d :: r, δ => match p d δ with
    | none => none
    | some δ1 => match body δ1 with
      | some (.nx δ2) => forL p body r δ2
      | some (.ct δ2) => forL p body r δ2
      | some (.bk δ2) => some (.nx δ2)
      | some (.rt v δ2) => some (.rt v δ2)
      | some (.rl v δ2) => some (.rl v δ2)
      | none => none
def xFor (it : FA) (p : FG) (body : FS) : FS := fun δ => match it δ with
  | some (ds, δ1) => forL p body ds δ1
  | none => none
theorem px_for {X : Cx} {st : Stmt} {it : FA} {vs : List Nat} {p : FG} {body : FS} (h : PS X st (tFor (tI X.K it) (tG X.K vs p) (tS X.K body))) : PS X st (tS X.K (xFor it p body)) := h.weak fun D σ H ⟨pa, G, fp, δ, o, R, q, k⟩ => by
  unfold xFor at q
  split at q
  · rename_i ds δ1 e1
    refine ⟨pa, G, fp, δ, ds, δ1, R, e1, fun J G1 H1 S1 R1 Y => ?_⟩
    have k1 := k.later S1
    refine ⟨fun i m σ2 H2 => m = ds.length - i ∧ i ≤ ds.length ∧ ∃ G2 fp2 δ2, Step G1 (Owns fp) H1 G2 (Owns fp2) H2 ∧ Rel X.K pa G2 fp2 δ2 σ2 H2 ∧ forL p body (ds.drop i) δ2 = some o,
      ⟨ds.length, by simp, Nat.zero_le _, G1, fp, δ1, .refl, R1, by simpa using q⟩, ?_⟩
    rintro i m σ2 H2 ⟨rfl, hi, G2, fp2, δ2, S2, R2, e2⟩
    have k2 := k1.later S2
    by_cases hlt : i < ds.length
    · right
      have ed : ds[i]? = some ds[i] := List.getElem?_eq_getElem hlt
      obtain ⟨go, yl⟩ := Y.go G2 fp2 δ2 σ2 H2 i _ S2 R2 ed
      rw [List.drop_eq_getElem_cons hlt] at e2
      unfold forL at e2
      split at e2
      · cases e2
      · rename_i δ3 e3
        refine ⟨go, fun σ4 H4 => ∃ G4 fp4 δ4, Step G1 (Owns fp) H1 G4 (Owns fp4) H4 ∧ Rel X.K pa G4 fp4 δ4 σ4 H4 ∧ forL p body (ds.drop (i + 1)) δ4 = some o, fun σ4 H4 n => ⟨ds.length - (i + 1), by omega, rfl, hlt, n⟩, fun x H3 y => ?_⟩
        obtain ⟨G3, S3, R3, r3⟩ := yl x H3 y
        refine ⟨pa, G3, fp2, δ2, _, δ3, R3, r3, e3, fun fp4 σ4 _ _ S4 R4 => ?_⟩
        have S24 := (S2.trans S3).trans S4
        have k4 := k2.later (S3.trans S4)
        split at e2
        · rename_i δ5 e5
          exact ⟨pa, G3, fp4, δ3, .nx δ5, R4, e5, fun G6 fp6 σ6 H6 S6 R6 => ⟨G6, fp6, δ5, S24.trans S6, R6, e2⟩⟩
        · rename_i δ5 e5
          exact ⟨pa, G3, fp4, δ3, .ct δ5, R4, e5, fun G6 fp6 σ6 H6 S6 R6 => ⟨G6, fp6, δ5, S24.trans S6, R6, e2⟩⟩
        · rename_i δ5 e5
          cases e2
          exact ⟨pa, G3, fp4, δ3, .bk δ5, R4, e5, fun G6 fp6 σ6 H6 S6 R6 => k4 G6 fp6 σ6 H6 S6 R6⟩
        · rename_i v δ5 e5
          cases e2
          exact ⟨pa, G3, fp4, δ3, .rt v δ5, R4, e5, k4⟩
        · rename_i v δ5 e5
          cases e2
          exact ⟨pa, G3, fp4, δ3, .rl v δ5, R4, e5, k4⟩
        · cases e2
    · left
      have ei : i = ds.length := by omega
      subst ei
      rw [List.drop_length] at e2
      cases e2
      exact ⟨Y.stop G2 fp2 δ2 σ2 H2 S2 R2, k2 G2 fp2 σ2 H2 .refl R2⟩
  · cases q

/-! ### while -/
def whl (c : FT) (body : FS) : Nat → FS
  | 0, _ => none
  | n + 1, δ => match c δ with
    | some (false, δ1) => some (.nx δ1)
    | some (true, δ1) => (match body δ1 with
      | some (.nx δ2) => whl c body n δ2
      | some (.ct δ2) => whl c body n δ2
      | some (.bk δ2) => some (.nx δ2)
      | some (.rt v δ2) => some (.rt v δ2)
      | some (.rl v δ2) => some (.rl v δ2)
      | none => none)
    | none => none
open Classical in
noncomputable def xWhile (c : FT) (body : FS) : FS := fun δ => if h : ∃ n o, whl c body n δ = some o then whl c body (Classical.choose h) δ else none
theorem whl_mono {c : FT} {body : FS} : ∀ {n m : Nat} {δ : Env} {o : Out}, n ≤ m → whl c body n δ = some o → whl c body m δ = some o
  | 0, _, _, _, _, h => by cases h
  | n + 1, 0, _, _, l, _ => by omega
  | n + 1, m + 1, δ, o, l, h => by
    unfold whl at h ⊢
    split at h
    · exact h
    · split at h
      · exact whl_mono (by omega) h
      · exact whl_mono (by omega) h
      · exact h
      · exact h
      · exact h
      · cases h
    · cases h
theorem xWhile_of {c : FT} {body : FS} {n : Nat} {δ : Env} {o : Out} (h : whl c body n δ = some o) : xWhile c body δ = some o := by
  have hx : ∃ n o, whl c body n δ = some o := ⟨n, o, h⟩
  unfold xWhile
  rw [dif_pos hx]
  obtain ⟨o', e⟩ := Classical.choose_spec hx
  have a := whl_mono (Nat.le_max_left n (Classical.choose hx)) h
  have b := whl_mono (Nat.le_max_right n (Classical.choose hx)) e
  rw [a] at b
  rw [e, Option.some.inj b]
theorem of_xWhile {c : FT} {body : FS} {δ : Env} {o : Out} (h : xWhile c body δ = some o) : ∃ n, whl c body n δ = some o := by
  unfold xWhile at h
  split at h
  · exact ⟨_, h⟩
  · cases h
/-- one turn -/
theorem xWhile_step {c : FT} {body : FS} {δ δ1 δ2 : Env} {o : Out} (h1 : c δ = some (true, δ1)) (h2 : body δ1 = some (.nx δ2)) (h3 : xWhile c body δ2 = some o) : xWhile c body δ = some o := by
  obtain ⟨n, e⟩ := of_xWhile h3
  refine xWhile_of (n := n + 1) ?_
  unfold whl
  rw [h1]
  dsimp only
  rw [h2]
  exact e
theorem xWhile_stop {c : FT} {body : FS} {δ δ1 : Env} (h1 : c δ = some (false, δ1)) : xWhile c body δ = some (.nx δ1) := by
  refine xWhile_of (n := 1) ?_
  unfold whl
  rw [h1]
theorem xWhile_ret {c : FT} {body : FS} {δ δ1 δ2 : Env} {d : PyData} (h1 : c δ = some (true, δ1)) (h2 : body δ1 = some (.rt d δ2)) : xWhile c body δ = some (.rt d δ2) := by
  refine xWhile_of (n := 1) ?_
  unfold whl
  rw [h1]
  dsimp only
  rw [h2]
theorem px_while {X : Cx} {st : Stmt} {c : FT} {body : FS} (h : PS X st (tWhile (tT X.K c) (tS X.K body))) : PS X st (tS X.K (xWhile c body)) := h.weak fun D σ H ⟨pa, G, fp, δ, o, R, q, k⟩ => by
  obtain ⟨n, e⟩ := of_xWhile q
  refine ⟨fun m σ2 H2 => ∃ G2 fp2 δ2, Step G (Owns fp) H G2 (Owns fp2) H2 ∧ Rel X.K pa G2 fp2 δ2 σ2 H2 ∧ whl c body m δ2 = some o, ⟨n, G, fp, δ, .refl, R, e⟩, ?_⟩
  rintro m σ2 H2 ⟨G2, fp2, δ2, S2, R2, e2⟩
  have k2 := k.later S2
  cases m with
  | zero => cases e2
  | succ m =>
    unfold whl at e2
    split at e2
    · rename_i δ3 e3
      cases e2
      exact ⟨pa, G2, fp2, δ2, _, δ3, R2, e3, fun G4 H4 S4 R4 => iteF (k2 G4 fp2 σ2 H4 S4 R4)⟩
    · rename_i δ3 e3
      refine ⟨pa, G2, fp2, δ2, _, δ3, R2, e3, fun G4 H4 S4 R4 => iteT ?_⟩
      refine ⟨fun σ5 H5 => ∃ G5 fp5 δ5, Step G (Owns fp) H G5 (Owns fp5) H5 ∧ Rel X.K pa G5 fp5 δ5 σ5 H5 ∧ whl c body m δ5 = some o, fun σ5 H5 w => ⟨m, by omega, w⟩, ?_⟩
      have S24 := S2.trans S4
      have k4 := k2.later S4
      split at e2
      · rename_i δ5 e5
        exact ⟨pa, G4, fp2, δ3, .nx δ5, R4, e5, fun G6 fp6 σ6 H6 S6 R6 => ⟨G6, fp6, δ5, S24.trans S6, R6, e2⟩⟩
      · rename_i δ5 e5
        exact ⟨pa, G4, fp2, δ3, .ct δ5, R4, e5, fun G6 fp6 σ6 H6 S6 R6 => ⟨G6, fp6, δ5, S24.trans S6, R6, e2⟩⟩
      · rename_i δ5 e5
        cases e2
        exact ⟨pa, G4, fp2, δ3, .bk δ5, R4, e5, fun G6 fp6 σ6 H6 S6 R6 => k4 G6 fp6 σ6 H6 S6 R6⟩
      · rename_i v δ5 e5
        cases e2
        exact ⟨pa, G4, fp2, δ3, .rt v δ5, R4, e5, k4⟩
      · rename_i v δ5 e5
        cases e2
        exact ⟨pa, G4, fp2, δ3, .rl v δ5, R4, e5, k4⟩
      · cases e2
    · cases e2
end Fw

end
section
set_option Elab.async false
set_option linter.all false
set_option maxRecDepth 100000
/-! Lists of a def's own: grown, shortened, stored into, read, frozen; several at once; comprehensions. -/
namespace Fw
open PySem PySem.Spec PyProof.Rows L2

/-! ### the list that a slot stands for -/
def lstOf (δ : Env) (i : Nat) : Option (List PyData) := match δ[i]? with
  | some (.ow ds) => some ds
  | some (.pm ds) => some ds
  | some (.al j k) => (match δ[j]? with
    | some (.ow2 dss) => dss[k]?
    | _ => none)
  | _ => none
def setLst (δ : Env) (i : Nat) (ds : List PyData) : Env := match δ[i]? with
  | some (.ow _) => δ.set i (.ow ds)
  | some (.pm _) => δ.set i (.pm ds)
  | some (.al j k) => (match δ[j]? with
    | some (.ow2 dss) => δ.set j (.ow2 (dss.set k ds))
    | _ => δ)
  | _ => δ
section
variable {K : PySem.W.Frag} {pa : Addr} {G H : Hp} {fp : Foot} {δ δ' : Env} {σ : L2.St}
theorem getD_some {σ : L2.St} {i : Nat} {v : V} (h : σ.getD i none = some v) : σ[i]? = some (some v) := by
  rw [List.getD_eq_getElem?_getD] at h
  cases q : σ[i]? with
  | none => rw [q] at h; cases h
  | some u => rw [q] at h; exact congrArg some h
theorem Paired.at {α β : Type} {F : α → β → Prop} : ∀ {xs : List α} {ys : List β} {k : Nat} {y : β}, Paired F xs ys → ys[k]? = some y → ∃ x, xs[k]? = some x ∧ F x y
  | _, _, _, _, .nil, e => by simp at e
  | _, _, 0, _, .cons r _, e => by simp at e; subst e; exact ⟨_, rfl, r⟩
  | _, _, k + 1, _, .cons _ t, e => by
    obtain ⟨x, h1, h2⟩ := Paired.at (k := k) t (by simpa using e)
    exact ⟨x, by simpa using h1, h2⟩
theorem Rel.lst (R : Rel K pa G fp δ σ H) {i : Nat} {ds : List PyData} (h : lstOf δ i = some ds) : ∃ a vs, σ[i]? = some (some (.ref a)) ∧ H a = some (.lst vs) ∧ RpA K G vs ds ∧ Owns fp a ∧ vs.length ≤ sizeLine := by
  unfold lstOf at h
  split at h
  · rename_i ds' e
    cases h
    obtain ⟨a, vs, e1, e2, e3, e4, e5⟩ := R.slot i _ e
    exact ⟨a, vs, getD_some e2, e3, e4, ⟨i, by rw [e1]; simp⟩, e5⟩
  · rename_i ds' e
    cases h
    obtain ⟨vs, e1, e2, e3, e4, e5⟩ := R.slot i _ e
    exact ⟨pa, vs, getD_some e2, e3, e4, ⟨i, by rw [e1]; simp⟩, e5⟩
  · rename_i j k e
    split at h
    · rename_i dss e'
      obtain ⟨a, bs, e1, e2, e3, e4, e5⟩ := R.slot j _ e'
      obtain ⟨b, dss', f1, f2, f3⟩ := R.als i j k e
      obtain ⟨b', g1, vs, g2, g3, g4⟩ := Paired.at e4 h
      rw [e1] at f2
      have : b' = b := by
        have : bs[k]? = some b := by simpa using f2
        rw [g1] at this
        exact Option.some.inj this
      subst this
      exact ⟨b', vs, f1, g2, g3, ⟨j, by rw [e1]; exact List.mem_cons_of_mem _ (List.mem_of_getElem? g1)⟩, g4⟩
    · cases h
  · cases h
theorem Paired.put {α β : Type} {F F' : α → β → Prop} {y' : β} : ∀ {xs : List α} {ys : List β} {k : Nat} {x : α}, Paired F xs ys → xs.Nodup → xs[k]? = some x → F' x y' → (∀ z y, z ≠ x → F z y → F' z y) → Paired F' xs (ys.set k y')
  | _, _, _, _, .nil, _, e, _, _ => by simp at e
  | a :: xs, _ :: ys, 0, _, .cons r t, n, e, f, o => by
    simp at e; subst e
    have n' := List.nodup_cons.mp n
    refine .cons f ?_
    have go : ∀ {xs : List α} {ys : List β}, a ∉ xs → Paired F xs ys → Paired F' xs ys := by
      intro xs ys hn p
      induction p with
      | nil => exact .nil
      | cons r t ih => exact .cons (o _ _ (fun z => hn (by simp [z])) r) (ih fun m => hn (by simp [m]))
    exact go n'.1 t
  | a :: xs, _ :: ys, k + 1, x, .cons r t, n, e, f, o => by
    have n' := List.nodup_cons.mp n
    have ex : xs[k]? = some x := by simpa using e
    exact .cons (o _ _ (fun z => n'.1 (by rw [z]; exact List.mem_of_getElem? ex)) r) (Paired.put t n'.2 ex f o)
theorem stepW {a : Addr} {o : HO} (h : Owns fp a) : Step G (Owns fp) H G (Owns fp) (upd H a o) :=
  ⟨.refl G, fun b u e n => by rw [upd_ne (fun z => n (by rw [z]; exact h))]; exact e, fun _ _ _ => rfl, fun _ q => .inl q, new_all⟩
theorem Rel.setLst (R : Rel K pa G fp δ σ H) {i : Nat} {ds ds' : List PyData} {a : Addr} {vs : List V} (h : lstOf δ i = some ds) (ea : σ[i]? = some (some (.ref a))) (r : RpA K G vs ds') (hz : vs.length ≤ sizeLine) :
    Rel K pa G fp (Fw.setLst δ i ds') σ (upd H a (.lst vs)) := by
  -- the slots but one stand as they stood
  have main : ∀ (j : Nat) (s : Slot) (hj : j < δ.length), a ∈ fp j → (∀ l k, s ≠ .al l k) → (∀ l k, δ[j]? ≠ some (.al l k)) → ((∃ dss, δ[j]? = some (.ow2 dss)) → ∃ dss, s = .ow2 dss) → SlotOk K pa G (upd H a (.lst vs)) (σ.getD j none) (fp j) s → Rel K pa G fp (δ.set j s) σ (upd H a (.lst vs)) := by
    intro j s hj ma ns na no ok
    have oth : ∀ l b, l ≠ j → b ∈ fp l → upd H a (.lst vs) b = H b := fun l b hl m => upd_ne fun z => hl (R.dis l j a (by rw [← z]; exact m) ma)
    have ga : G a = none := R.free j a ma
    refine ⟨by simp [R.len], fun b u e => ?_, fun l x e => ?_, fun l m k e => ?_, R.nod, R.dis, R.free, fun l b m => ?_, fun l hl => R.out l (by simpa using hl), R.siz⟩
    · rw [upd_ne (ne_of_none e ga)]; exact R.sub b u e
    · by_cases q : l = j
      · subst q; rw [List.getElem?_set_self hj] at e; cases e; exact ok
      · rw [List.getElem?_set_ne (Ne.symm q)] at e
        exact (R.slot l x e).move (.refl G) fun b m => oth l b q m
    · by_cases q : l = j
      · subst q; rw [List.getElem?_set_self hj] at e; exact absurd (Option.some.inj e) (ns m k)
      · rw [List.getElem?_set_ne (Ne.symm q)] at e
        obtain ⟨b, dss, e1, e2, e3⟩ := R.als l m k e
        by_cases q' : m = j
        · subst q'
          obtain ⟨dss', rfl⟩ := no ⟨dss, e3⟩
          exact ⟨b, dss', e1, e2, List.getElem?_set_self hj⟩
        · exact ⟨b, dss, e1, e2, by rw [List.getElem?_set_ne (Ne.symm q')]; exact e3⟩
    · by_cases q : b = a
      · subst q; exact ⟨_, upd_same⟩
      · rw [upd_ne q]; exact R.has l b m
  unfold lstOf at h
  unfold Fw.setLst
  split at h
  · rename_i ds0 e
    cases h
    obtain ⟨a', ws, e1, e2, e3, e4, e5⟩ := R.slot i _ e
    have : a' = a := by
      rw [getD_some e2] at ea
      cases ea; rfl
    subst this
    exact main i (.ow ds') (List.getElem?_eq_some_iff.mp e).1 (by rw [e1]; simp) (fun _ _ z => by cases z) (fun _ _ z => by rw [e] at z; cases z) (fun ⟨_, z⟩ => by rw [e] at z; cases z) ⟨a', vs, e1, e2, upd_same, r, hz⟩
  · rename_i ds0 e
    cases h
    obtain ⟨ws, e1, e2, e3, e4, e5⟩ := R.slot i _ e
    have : pa = a := by
      rw [getD_some e2] at ea
      cases ea; rfl
    subst this
    exact main i (.pm ds') (List.getElem?_eq_some_iff.mp e).1 (by rw [e1]; simp) (fun _ _ z => by cases z) (fun _ _ z => by rw [e] at z; cases z) (fun ⟨_, z⟩ => by rw [e] at z; cases z) ⟨vs, e1, e2, upd_same, r, hz⟩
  · rename_i j k e
    split at h
    · rename_i dss e'
      obtain ⟨a0, bs, e1, e2, e3, e4, e5⟩ := R.slot j _ e'
      obtain ⟨b, dss', f1, f2, f3⟩ := R.als i j k e
      have : b = a := by rw [f1] at ea; cases ea; rfl
      subst this
      rw [e1] at f2
      have g1 : bs[k]? = some b := by simpa using f2
      have nd := R.nod j
      rw [e1] at nd
      have nd' := List.nodup_cons.mp nd
      have mb : b ∈ bs := List.mem_of_getElem? g1
      have nb : a0 ≠ b := fun z => nd'.1 (by rw [z]; exact mb)
      refine main j _ (List.getElem?_eq_some_iff.mp e').1 (by rw [e1]; exact List.mem_cons_of_mem _ mb) (fun _ _ z => by cases z) (fun _ _ z => by rw [e'] at z; cases z) (fun _ => ⟨_, rfl⟩) ⟨a0, bs, e1, e2, by rw [upd_ne nb]; exact e3, ?_, e5⟩
      refine Paired.put e4 nd'.2 g1 ⟨vs, upd_same, r, hz⟩ fun c y hc ⟨ws, h1, h2⟩ => ⟨ws, by rw [upd_ne hc]; exact h1, h2⟩
    · cases h
  · cases h
end

/-! ### reading and changing such a list -/
def sLenO (i : Nat) : F := fun δ => match lstOf δ i with
  | some ds => some (.int ds.length, δ)
  | none => none
def sIxO (i : Nat) (g : F) : F := fun δ => match lstOf δ i with
  | none => none
  | some _ => (match g δ with
    | some (.int k, δ1) => (match lstOf δ1 i with
      | some ds => (match atI ds k with
        | some d => some (d, δ1)
        | none => none)
      | none => none)
    | _ => none)
/-- == or != of such a list and a value -/
def sCmpO (i : Nat) (r : PyData → PyData → Option PyData) (g : F) : F := fun δ => match lstOf δ i with
  | none => none
  | some _ => (match g δ with
    | some (y, δ1) => (match lstOf δ1 i with
      | some ds => (match r (.list ds) y with
        | some (.bool b) => some (.bool b, δ1)
        | _ => none)
      | none => none)
    | none => none)
def sPop (i : Nat) : F := fun δ => match lstOf δ i with
  | some ds => (match ds[ds.length - 1]? with
    | some d => some (d, setLst δ i ds.dropLast)
    | none => none)
  | none => none
def xApp (i : Nat) (f : F) : FS := fun δ => match lstOf δ i with
  | none => none
  | some _ => (match f δ with
    | some (d, δ1) => (match lstOf δ1 i with
      | some ds => if ds.length < sizeLine then some (.nx (setLst δ1 i (ds ++ [d]))) else none
      | none => none)
    | none => none)
def xExt (i : Nat) (f : F) : FS := fun δ => match lstOf δ i with
  | none => none
  | some _ => (match f δ with
    | some (.list es, δ1) => (match lstOf δ1 i with
      | some ds => if ds.length + es.length ≤ sizeLine then some (.nx (setLst δ1 i (ds ++ es))) else none
      | none => none)
    | _ => none)
/-- x[e] = f, f first -/
def xSetIx (i : Nat) (f g : F) : FS := fun δ => match f δ with
  | some (d, δ1) => (match lstOf δ1 i with
    | none => none
    | some _ => (match g δ1 with
      | some (.int k, δ2) => (match lstOf δ2 i with
        | some ds => (match ixN ds.length k with
          | some j => some (.nx (setLst δ2 i (ds.set j d)))
          | none => none)
        | none => none)
      | _ => none))
  | none => none
section
variable {X : Cx} {e : Expr} {st : Stmt} {i : Nat} {f g : F} {fa : FA}
theorem px_lenO (h : PE X e (tCB (fun xs H Q => ∃ p ys, xs = [.ref p] ∧ (SqL X.K H p ys ∨ SqT X.K H p ys) ∧ Q (.int ys.length) H) (tCons (tVar i) tNil))) : PE X e (tF X.K (sLenO i)) := h.weak fun σ H Q ⟨pa, G, fp, δ, d, δ', R, q, k⟩ => by
  unfold sLenO at q
  split at q
  · rename_i ds e1
    cases q
    obtain ⟨a, vs, ea, ha, r, _, _⟩ := R.lst e1
    refine ⟨_, ea, a, vs, rfl, .inl (.of ha), ?_⟩
    rw [r.len]
    exact k _ G H .refl R (.int _)
  · cases q
theorem px_ixO (h : PE X e (tOp (rIx X.K) (tVar i) (tF X.K g))) : PE X e (tF X.K (sIxO i g)) := h.weak fun σ H Q ⟨pa, G, fp, δ, d, δ', R, q, k⟩ => by
  unfold sIxO at q
  split at q
  · cases q
  · rename_i ds0 e0
    split at q
    · rename_i j δ1 e1
      split at q
      · rename_i ds e2
        split at q
        · rename_i d' e3
          cases q
          obtain ⟨a0, vs0, ea0, _⟩ := R.lst e0
          refine ⟨_, ea0, pa, G, fp, δ, _, _, R, e1, fun v G1 H1 S1 R1 r1 => ?_⟩
          cases r1
          obtain ⟨a, vs, ea, ha, r, _, _⟩ := R1.lst e2
          rw [ea0] at ea
          cases ea
          obtain ⟨v, ev, rv⟩ := atI_rp r e3
          exact .inl ⟨_, _, _, _, rfl, rfl, .of ha, ev, k v G1 H1 S1 R1 rv⟩
        · cases q
      · cases q
    · cases q
theorem px_cmpO {rr : R2} {r : PyData → PyData → Option PyData} (h : PE X e (tOp rr (tVar i) (tF X.K g)))
    (o : ∀ H vx vy dx dy b (Q : VK), Dp X.K H vx dx → Dp X.K H vy dy → r dx dy = some (.bool b) → Q (.bl b) H → rr vx vy H Q) : PE X e (tF X.K (sCmpO i r g)) := h.weak fun σ H Q ⟨pa, G, fp, δ, d, δ', R, q, k⟩ => by
  unfold sCmpO at q
  split at q
  · cases q
  · rename_i ds0 e0
    split at q
    · rename_i y δ1 e1
      split at q
      · rename_i ds e2
        split at q
        · rename_i b e3
          cases q
          obtain ⟨a0, vs0, ea0, _⟩ := R.lst e0
          refine ⟨_, ea0, pa, G, fp, δ, _, _, R, e1, fun v G1 H1 S1 R1 r1 => ?_⟩
          obtain ⟨a, vs, ea, ha, r2, _, _⟩ := R1.lst e2
          rw [ea0] at ea
          cases ea
          exact o H1 _ _ _ _ _ Q (.lst (.of ha) (r2.dp R1.sub)) (r1.dp R1.sub) e3 (k _ G1 H1 S1 R1 (.bl _))
        · cases q
      · cases q
    · cases q
theorem oo_eq (H : Hp) (vx vy : V) (dx dy : PyData) (b : Bool) (Q : VK) (hx : Dp X.K H vx dx) (hy : Dp X.K H vy dy) (e : eqR dx dy = some (.bool b)) (q : Q (.bl b) H) : rEqD X.K vx vy H Q := by
  obtain ⟨h1, h2, h3⟩ := eqR_spec e
  cases h3
  exact ⟨dx, dy, hx, hy, h1, h2, q⟩
theorem oo_ne (H : Hp) (vx vy : V) (dx dy : PyData) (b : Bool) (Q : VK) (hx : Dp X.K H vx dx) (hy : Dp X.K H vy dy) (e : neR dx dy = some (.bool b)) (q : Q (.bl b) H) : rNeD X.K vx vy H Q := by
  obtain ⟨h1, h2, h3⟩ := neR_spec e
  cases h3
  exact ⟨dx, dy, hx, hy, h1, h2, q⟩
theorem px_pop (h : PE X e (tBM0 X.K "list" rPop (tVar i))) : PE X e (tF X.K (sPop i)) := h.weak fun σ H Q ⟨pa, G, fp, δ, d, δ', R, q, k⟩ => by
  unfold sPop at q
  split at q
  · rename_i ds e1
    split at q
    · rename_i d' e2
      cases q
      obtain ⟨a, vs, ea, ha, r, ho, hz⟩ := R.lst e1
      obtain ⟨v, ev, rv⟩ := r.get e2
      refine ⟨_, ea, .inl ⟨rfl, vs, .of ha⟩, a, vs, v, rfl, rfl, ha, by rw [r.len]; exact ev, ?_⟩
      exact k v G _ (stepW ho) (R.setLst e1 ea r.init (by rw [List.length_dropLast]; omega)) rv
    · cases q
  · cases q
theorem px_app (h : PS X st (tDrop (tBM X.K "list" rAppend (tVar i) (tCons (tF X.K f) tNil)))) : PS X st (tS X.K (xApp i f)) := h.weak fun D σ H ⟨pa, G, fp, δ, o, R, q, k⟩ => by
  unfold xApp at q
  split at q
  · cases q
  · rename_i ds0 e0
    split at q
    · rename_i d δ1 e1
      split at q
      · rename_i ds e2
        split at q
        · rename_i hz
          cases q
          obtain ⟨a0, vs0, ea0, ha0, _⟩ := R.lst e0
          refine ⟨_, ea0, .inl ⟨rfl, vs0, .of ha0⟩, pa, G, fp, δ, _, _, R, e1, fun v G1 H1 S1 R1 r1 => ?_⟩
          obtain ⟨a, vs, ea, ha, r, ho, _⟩ := R1.lst e2
          have : a = a0 := by rw [ea0] at ea; cases ea; rfl
          subst this
          have lz : (vs ++ [v]).length ≤ sizeLine := by rw [List.length_append, r.len]; exact hz
          refine ⟨a, vs, v, rfl, rfl, ha, by rw [r.len]; exact hz, ?_⟩
          exact k G1 fp σ _ (S1.trans (stepW ho)) (R1.setLst e2 ea (r.app (.cons r1 .nil)) lz)
        · cases q
      · cases q
    · cases q
theorem px_ext (h : PS X st (tDrop (tBM X.K "list" rExtend (tVar i) (tCons (tF X.K f) tNil)))) : PS X st (tS X.K (xExt i f)) := h.weak fun D σ H ⟨pa, G, fp, δ, o, R, q, k⟩ => by
  unfold xExt at q
  split at q
  · cases q
  · rename_i ds0 e0
    split at q
    · rename_i es δ1 e1
      split at q
      · rename_i ds e2
        split at q
        · rename_i hz
          cases q
          obtain ⟨a0, vs0, ea0, ha0, _⟩ := R.lst e0
          refine ⟨_, ea0, .inl ⟨rfl, vs0, .of ha0⟩, pa, G, fp, δ, _, _, R, e1, fun v G1 H1 S1 R1 r1 => ?_⟩
          cases r1 with
          | @lst b ws _ hb rb =>
            obtain ⟨a, vs, ea, ha, r, ho, _⟩ := R1.lst e2
            have : a = a0 := by rw [ea0] at ea; cases ea; rfl
            subst this
            have lz : (vs ++ ws).length ≤ sizeLine := by rw [List.length_append, r.len, rb.len]; exact hz
            refine ⟨a, b, vs, ws, rfl, rfl, ha, R1.sub _ _ hb, by rw [r.len, rb.len]; exact hz, ?_⟩
            exact k G1 fp σ _ (S1.trans (stepW ho)) (R1.setLst e2 ea (r.app rb) lz)
        · cases q
      · cases q
    · cases q
theorem px_setIx (h : PS X st (tAsg (tF X.K f) (gSub (tVar i) (tF X.K g) rSetL))) : PS X st (tS X.K (xSetIx i f g)) := h.weak fun D σ H ⟨pa, G, fp, δ, o, R, q, k⟩ => by
  unfold xSetIx at q
  split at q
  · rename_i d δ1 e1
    split at q
    · cases q
    · rename_i ds0 e0
      split at q
      · rename_i j δ2 e2
        split at q
        · rename_i ds e3
          split at q
          · rename_i m e4
            cases q
            refine ⟨pa, G, fp, δ, d, δ1, R, e1, fun v G1 H1 S1 R1 r1 => ?_⟩
            obtain ⟨a0, vs0, ea0, _⟩ := R1.lst e0
            refine ⟨_, ea0, pa, G1, fp, δ1, _, _, R1, e2, fun v2 G2 H2 S2 R2 r2 => ?_⟩
            cases r2
            obtain ⟨a, vs, ea, ha, r, ho, hz⟩ := R2.lst e3
            have : a = a0 := by rw [ea0] at ea; cases ea; rfl
            subst this
            refine ⟨a, vs, _, m, rfl, rfl, ha, by rw [r.len]; exact e4, ?_⟩
            exact k G2 fp σ _ ((S1.trans S2).trans (stepW ho)) (R2.setLst e3 ea (RpA.set (r1.mono S2.fz) m r) (by rw [List.length_set]; exact hz))
          · cases q
        · cases q
      · cases q
  · cases q
end

/-! ### frozen from here on -/
def ice (δ : Env) (i : Nat) : Option Env := match δ[i]? with
  | some (.ow ds) => some (δ.set i (.fz (.list ds)))
  | some (.ow2 dss) => if noAl δ i = true then some (δ.set i (.fz (.list (dss.map .list)))) else none
  | _ => none
def xIce (i : Nat) (g : FS) : FS := fun δ => match ice δ i with
  | some δ1 => g δ1
  | none => none
section
variable {K : PySem.W.Frag} {pa : Addr} {G H : Hp} {fp : Foot} {δ δ' : Env} {σ : L2.St}
def iced (G H : Hp) (as : List Addr) : Hp := fun x => if x ∈ as then H x else G x
theorem iced_in {as : List Addr} {a : Addr} (h : a ∈ as) : iced G H as a = H a := if_pos h
theorem iced_out {as : List Addr} {a : Addr} (h : a ∉ as) : iced G H as a = G a := if_neg h
/-- the slot's lists are frozen -/
theorem iceR {i : Nat} {d : PyData} {a : Addr} {bs : List Addr} (R : Rel K pa G fp δ σ H) (pt : put δ i (.fz d) = some δ') (e1 : fp i = a :: bs) (e2 : σ[i]? = some (some (.ref a)))
    (hz : ∀ b ∈ a :: bs, ∃ o, H b = some o ∧ Szd o) (r : Rp K (iced G H (a :: bs)) (.ref a) d) : ∃ G', Step G (Owns fp) H G' (Owns (cut fp i [])) H ∧ Rel K pa G' (cut fp i []) δ' σ H := by
  have gn : ∀ b ∈ a :: bs, G b = none := fun b m => R.free i b (by rw [e1]; exact m)
  have sub : Sub G (iced G H (a :: bs)) := fun b o e => by
    rw [iced_out fun m => by rw [gn b m] at e; cases e]; exact e
  refine ⟨iced G H (a :: bs), ⟨sub, fun _ _ h _ => h, fun b hb nb => iced_out fun m => nb ⟨i, by rw [e1]; exact m⟩, fun b ⟨j, m⟩ => .inl ?_, fun _ h => h⟩, ?_⟩
  · by_cases q : j = i
    · rw [q, cut_same] at m; cases m
    · rw [cut_ne q] at m; exact ⟨j, m⟩
  · obtain ⟨rfl, hi, na⟩ := put_eq pt
    have hσ : i < σ.length := by rw [R.len]; exact hi
    have es : σ.set i (some (.ref a)) = σ := by
      obtain ⟨h1, h2⟩ := List.getElem?_eq_some_iff.mp e2
      rw [← h2]; exact List.set_getElem_self h1
    have pu : put δ i .un = some (δ.set i .un) := by
      unfold put at pt ⊢
      split at pt <;> simp_all
    have R1 : Rel K pa G (cut fp i []) (δ.set i .un) (σ.set i (some (.ref a))) H := R.put (s := .un) pu rfl (fun _ _ z => by cases z) .nil fun b m => by cases m
    have R2 : Rel K pa (iced G H (a :: bs)) (cut fp i []) (δ.set i .un) (σ.set i (some (.ref a))) H := by
      refine R1.move sub (fun b o e => ?_) (fun _ _ _ => rfl) (fun j b m => ?_) fun b o e => ?_
      · by_cases q : b ∈ a :: bs
        · rw [iced_in q] at e; exact e
        · rw [iced_out q] at e; exact R.sub b o e
      · by_cases q : j = i
        · rw [q, cut_same] at m; cases m
        · rw [cut_ne q] at m
          rw [iced_out fun z => q (R.dis j i b m (by rw [e1]; exact z))]
          exact R.free j b m
      · by_cases q : b ∈ a :: bs
        · rw [iced_in q] at e
          obtain ⟨u, hu, z⟩ := hz b q
          rw [hu] at e; cases e; exact z
        · rw [iced_out q] at e; exact R.siz b o e
    have R3 := R2.putF (i := i) (d := d) (v := .ref a) (δ' := (δ.set i .un).set i (.fz d)) (by unfold put; rw [List.getElem?_set_self hi]) r
    rw [cut_self (cut_same), List.set_set, List.set_set, es] at R3
    exact R3
theorem iceO {i : Nat} (R : Rel K pa G fp δ σ H) (h : ice δ i = some δ') : ∃ G', Step G (Owns fp) H G' (Owns (cut fp i [])) H ∧ Rel K pa G' (cut fp i []) δ' σ H := by
  unfold ice at h
  split at h
  · rename_i ds e
    cases h
    obtain ⟨a, vs, e1, e2, e3, e4, e5⟩ := R.slot i _ e
    have gn : ∀ b, b ∈ [a] → G b = none := fun b m => R.free i b (by rw [e1]; exact m)
    refine iceR R (by unfold put; rw [e]) e1 (getD_some e2) (fun b m => ?_) (.lst (by rw [iced_in (by simp)]; exact e3) (e4.mono fun b o e => by rw [iced_out fun m => by rw [gn b m] at e; cases e]; exact e))
    have : b = a := by simpa using m
    subst this
    exact ⟨_, e3, e5⟩
  · rename_i dss e
    split at h
    · rename_i na
      cases h
      obtain ⟨a, bs, e1, e2, e3, e4, e5⟩ := R.slot i _ e
      have gn : ∀ b, b ∈ a :: bs → G b = none := fun b m => R.free i b (by rw [e1]; exact m)
      have sub : Sub G (iced G H (a :: bs)) := fun b o e => by
        rw [iced_out fun m => by rw [gn b m] at e; cases e]; exact e
      have all : ∀ {cs : List Addr} {dss : List (List PyData)}, (∀ b ∈ cs, b ∈ bs) → Paired (fun b ds => ∃ vs, H b = some (.lst vs) ∧ RpA K G vs ds ∧ vs.length ≤ sizeLine) cs dss → RpA K (iced G H (a :: bs)) (cs.map V.ref) (dss.map .list) ∧ ∀ b ∈ cs, ∃ o, H b = some o ∧ Szd o := by
        intro cs dss hm p
        induction p with
        | nil => exact ⟨.nil, fun _ m => by cases m⟩
        | cons r t ih =>
          obtain ⟨vs, q1, q2, q3⟩ := r
          obtain ⟨h1, h2⟩ := ih fun b m => hm b (by simp [m])
          refine ⟨.cons (.lst (by rw [iced_in (List.mem_cons_of_mem _ (hm _ (by simp)))]; exact q1) (q2.mono sub)) h1, fun b m => ?_⟩
          rcases List.mem_cons.mp m with z | z
          · subst z; exact ⟨_, q1, q3⟩
          · exact h2 b z
      obtain ⟨h1, h2⟩ := all (fun b m => m) e4
      refine iceR R (by unfold put; rw [e]; exact if_pos na) e1 (getD_some e2) (fun b m => ?_) (.lst (by rw [iced_in (by simp)]; exact e3) h1)
      rcases List.mem_cons.mp m with z | z
      · subst z; exact ⟨_, e3, by show (bs.map V.ref).length ≤ sizeLine; rw [List.length_map]; exact e5⟩
      · exact h2 b z
    · cases h
  · cases h
end
theorem px_ice {X : Cx} {sts : List Stmt} {i : Nat} {g : FS} (h : PSs X sts (tS X.K g)) : PSs X sts (tS X.K (xIce i g)) := h.weak fun D σ H ⟨pa, G, fp, δ, o, R, q, k⟩ => by
  unfold xIce at q
  split at q
  · rename_i δ1 e1
    obtain ⟨G1, S1, R1⟩ := iceO R e1
    exact ⟨pa, G1, _, δ1, o, R1, q, k.later S1⟩
  · cases q
/-- what a slot holds is not known any more -/
def xUn (i : Nat) (g : FS) : FS := fun δ => match put δ i .un with
  | some δ1 => g δ1
  | none => none
theorem px_lose {X : Cx} {sts : List Stmt} {i : Nat} {g : FS} (h : PSs X sts (tS X.K g)) : PSs X sts (tS X.K (xUn i g)) := h.weak fun D σ H ⟨pa, G, fp, δ, o, R, q, k⟩ => by
  unfold xUn at q
  split at q
  · rename_i δ1 e1
    obtain ⟨rfl, hi, na⟩ := put_eq e1
    have hσ : i < σ.length := by rw [R.len]; exact hi
    have R1 : Rel X.K pa G (cut fp i []) (δ.set i .un) σ H := by
      have := R.put (s := .un) (v := .non) (as := []) e1 rfl (fun _ _ z => by cases z) .nil fun b m => by cases m
      refine ⟨by simp [R.len], R.sub, fun j x e => ?_, fun j l k e => ?_, this.nod, this.dis, this.free, this.has, this.out, R.siz⟩
      · by_cases qq : j = i
        · subst qq; rw [List.getElem?_set_self hi] at e; cases e; exact cut_same
        · have := this.slot j x e
          rw [getD_set_ne qq] at this
          exact this
      · by_cases qq : j = i
        · subst qq; rw [List.getElem?_set_self hi] at e; cases e
        · obtain ⟨b, dss, a1, a2, a3⟩ := this.als j l k e
          rw [List.getElem?_set_ne (Ne.symm qq)] at a1
          exact ⟨b, dss, a1, a2, a3⟩
    exact ⟨pa, G, _, _, o, R1, q, k.later .cut0⟩
  · cases q
/-- y = x[e], x a list of lists of the def's own -/
def xAl (i j : Nat) (g : F) : FS := fun δ => match δ[j]? with
  | some (.ow2 _) => (match g δ with
    | some (.int k, δ1) => (match δ1[j]? with
      | some (.ow2 dss) => (match ixN dss.length k with
        | some m => if i = j then none else (match put δ1 i (.al j m) with
          | some δ2 => some (.nx δ2)
          | none => none)
        | none => none)
      | _ => none)
    | _ => none)
  | _ => none
theorem px_al {X : Cx} {st : Stmt} {i j : Nat} {g : F} (h : PS X st (tAsg (tOp (rIx X.K) (tVar j) (tF X.K g)) (gName i))) : PS X st (tS X.K (xAl i j g)) := h.weak fun D σ H ⟨pa, G, fp, δ, o, R, q, k⟩ => by
  unfold xAl at q
  split at q
  · rename_i dss0 e0
    split at q
    · rename_i m0 δ1 e1
      split at q
      · rename_i dss e2
        split at q
        · rename_i m e3
          split at q
          · cases q
          · rename_i hij
            split at q
            · rename_i δ2 e4
              cases q
              obtain ⟨a0, _, _, e02, _⟩ := R.slot j _ e0
              refine ⟨_, getD_some e02, pa, G, fp, δ, _, _, R, e1, fun v G1 H1 S1 R1 r1 => ?_⟩
              cases r1
              obtain ⟨a, bs, f1, f2, f3, f4, f5⟩ := R1.slot j _ e2
              have : a = a0 := by rw [f2] at e02; cases e02; rfl
              subst this
              have hl : bs.length = dss.length := Paired.length f4
              have hm : m < bs.length := by rw [hl]; exact (ixN_seq e3).2.1
              have gb : bs[m]? = some bs[m] := List.getElem?_eq_getElem hm
              refine .inl ⟨_, _, _, .ref bs[m], rfl, rfl, .of f3, ?_, ?_⟩
              · unfold atI
                rw [List.length_map, hl, e3]
                show (bs.map V.ref)[m]? = _
                rw [List.getElem?_map, gb]; rfl
              · obtain ⟨rfl, hi, na⟩ := put_eq e4
                have hσ : i < σ.length := by rw [R1.len]; exact hi
                have pu : put δ1 i .un = some (δ1.set i .un) := by
                  unfold put at e4 ⊢
                  split at e4 <;> simp_all
                have R2 := R1.put (s := .un) (v := .ref bs[m]) (as := []) pu rfl (fun _ _ z => by cases z) .nil fun b m => by cases m
                refine k G1 (cut fp i []) _ H1 (S1.trans .cut0) ⟨by simp [R1.len], R2.sub, fun l x e => ?_, fun l p n e => ?_, R2.nod, R2.dis, R2.free, R2.has, fun l hl => R2.out l (by simpa using hl), R2.siz⟩
                · by_cases qq : l = i
                  · subst qq; rw [List.getElem?_set_self hi] at e; cases e; exact cut_same
                  · exact R2.slot l x (by rw [List.getElem?_set_ne (Ne.symm qq)] at e ⊢; exact e)
                · by_cases qq : l = i
                  · subst qq
                    rw [List.getElem?_set_self hi] at e
                    cases e
                    refine ⟨bs[m], dss, List.getElem?_set_self hσ, by rw [cut_ne (Ne.symm hij), f1]; exact gb, ?_⟩
                    rw [List.getElem?_set_ne hij]; exact e2
                  · obtain ⟨b, dss', a1, a2, a3⟩ := R2.als l p n (by rw [List.getElem?_set_ne (Ne.symm qq)] at e ⊢; exact e)
                    have hp : p ≠ i := fun z => by
                      subst z
                      rw [List.getElem?_set_self hi] at a3; cases a3
                    exact ⟨b, dss', a1, a2, by rw [List.getElem?_set_ne (Ne.symm hp)] at a3 ⊢; exact a3⟩
            · cases q
        · cases q
      · cases q
    · cases q
  · cases q
end Fw

end
section
set_option Elab.async false
set_option linter.all false
set_option maxRecDepth 100000
/-! Several values stored at once; comprehensions. -/
namespace Fw
open PySem PySem.Spec PyProof.Rows L2

/-! ### values that are new or frozen, side by side -/
abbrev FR := Env → Option (List Slot × Env)
/-- as: what the new ones are, the addresses of each value's own -/
inductive Res (K : PySem.W.Frag) (G H : Hp) : List V → List (List Addr) → List Slot → Prop
  | nil : Res K G H [] [] []
  | fz {v : V} {d : PyData} {vs ass ss} : Rp K G v d → Res K G H vs ass ss → Res K G H (v :: vs) ([] :: ass) (.fz d :: ss)
  | ow {a : Addr} {ws : List V} {ds : List PyData} {vs ass ss} : H a = some (.lst ws) → RpA K G ws ds → ws.length ≤ sizeLine → Res K G H vs ass ss → Res K G H (.ref a :: vs) ([a] :: ass) (.ow ds :: ss)
  | ow2 {a : Addr} {bs : List Addr} {dss : List (List PyData)} {vs ass ss} : H a = some (.lst (bs.map V.ref)) → Paired (fun b ds => ∃ vs, H b = some (.lst vs) ∧ RpA K G vs ds ∧ vs.length ≤ sizeLine) bs dss → bs.length ≤ sizeLine →
      Res K G H vs ass ss → Res K G H (.ref a :: vs) ((a :: bs) :: ass) (.ow2 dss :: ss)
/-- the new ones are new, each by itself -/
structure New (G H0 H : Hp) (as : List Addr) : Prop where
  nd : as.Nodup
  fr : ∀ a ∈ as, G a = none ∧ H0 a = none ∧ ∃ o, H a = some o
def tR (K : PySem.W.Frag) (f : FR) : TA := fun σ H Q => ∃ pa G fp δ ss δ', Rel K pa G fp δ σ H ∧ f δ = some (ss, δ') ∧
  ∀ vs ass G' H', Step G (Owns fp) H G' (Owns fp) H' → Rel K pa G' fp δ' σ H' → Res K G' H' vs ass ss → New G' H H' ass.flatten → Q vs H'
/-- a new list of new lists -/
def tLL (K : PySem.W.Frag) (f : Env → Option (List (List PyData) × Env)) : TE := fun σ H Q => ∃ pa G fp δ dss δ', Rel K pa G fp δ σ H ∧ f δ = some (dss, δ') ∧
  ∀ a bs G' H', Step G (Owns fp) H G' (Owns fp) H' → Rel K pa G' fp δ' σ H' → H' a = some (.lst (bs.map V.ref)) → Paired (fun b ds => ∃ vs, H' b = some (.lst vs) ∧ RpA K G' vs ds ∧ vs.length ≤ sizeLine) bs dss → bs.length ≤ sizeLine → New G' H H' (a :: bs) → Q (.ref a) H'
def rNil : FR := fun δ => some ([], δ)
def rF (f : F) (r : FR) : FR := fun δ => match f δ with
  | some (d, δ1) => (match r δ1 with
    | some (ss, δ2) => some (.fz d :: ss, δ2)
    | none => none)
  | none => none
def rL (f : FA) (r : FR) : FR := fun δ => match f δ with
  | some (ds, δ1) => (match r δ1 with
    | some (ss, δ2) => some (.ow ds :: ss, δ2)
    | none => none)
  | none => none
def rLL (f : Env → Option (List (List PyData) × Env)) (r : FR) : FR := fun δ => match f δ with
  | some (dss, δ1) => (match r δ1 with
    | some (ss, δ2) => some (.ow2 dss :: ss, δ2)
    | none => none)
  | none => none
section
variable {X : Cx} {e : Expr} {es : List Expr} {f : F} {fa : FA} {r : FR} {fl : Env → Option (List (List PyData) × Env)}
theorem Owns.not {K : PySem.W.Frag} {pa : Addr} {G H : Hp} {fp : Foot} {δ : Env} {σ : L2.St} (R : Rel K pa G fp δ σ H) {a : Addr} (h : H a = none) : ¬ Owns fp a := fun ⟨i, m⟩ => by
  obtain ⟨o, e⟩ := R.has i a m
  rw [h] at e; cases e
theorem Step.fresh {G H G' H' : Hp} {O O' : Addr → Prop} (S : Step G O H G' O' H') {a : Addr} (n : ¬ O a) (h : H' a = none) : H a = none := by
  cases q : H a with
  | none => rfl
  | some o => rw [S.keep a o q n] at h; cases h
theorem px_rnil : PA X [] (tR X.K rNil) := (pa_nil (X := X)).weak fun σ H Q ⟨pa, G, fp, δ, d, δ', R, q, k⟩ => by
  cases q
  exact k [] [] G H .refl R .nil ⟨.nil, fun _ m => by cases m⟩
theorem px_rF (h : PA X (e :: es) (tCons (tF X.K f) (tR X.K r))) : PA X (e :: es) (tR X.K (rF f r)) := h.weak fun σ H Q ⟨pa, G, fp, δ, ss, δ', R, q, k⟩ => by
  unfold rF at q
  split at q
  · rename_i d δ1 e1
    split at q
    · rename_i ss' δ2 e2
      cases q
      refine ⟨pa, G, fp, δ, d, δ1, R, e1, fun v G1 H1 S1 R1 r1 => ⟨pa, G1, fp, δ1, _, _, R1, e2, fun vs ass G2 H2 S2 R2 rs nw => ?_⟩⟩
      exact k (v :: vs) ([] :: ass) G2 H2 (S1.trans S2) R2 (.fz (r1.mono S2.fz) rs) ⟨nw.nd, fun a m => ⟨(nw.fr a m).1, S1.fresh (Owns.not R1 (nw.fr a m).2.1) (nw.fr a m).2.1, (nw.fr a m).2.2⟩⟩
    · cases q
  · cases q
theorem px_rL (h : PA X (e :: es) (tCons (tL X.K fa) (tR X.K r))) : PA X (e :: es) (tR X.K (rL fa r)) := h.weak fun σ H Q ⟨pa, G, fp, δ, ss, δ', R, q, k⟩ => by
  unfold rL at q
  split at q
  · rename_i ds δ1 e1
    split at q
    · rename_i ss' δ2 e2
      cases q
      refine ⟨pa, G, fp, δ, ds, δ1, R, e1, fun a ws G1 H1 S1 R1 ha r1 hg hn hz => ⟨pa, G1, fp, δ1, _, _, R1, e2, fun vs ass G2 H2 S2 R2 rs nw => ?_⟩⟩
      have na : ¬ Owns fp a := Owns.not R hn
      have ha2 := S2.keep a _ ha na
      have hg2 : G2 a = none := by rw [S2.old a (by rw [ha]; simp) na]; exact hg
      refine k (.ref a :: vs) ([a] :: ass) G2 H2 (S1.trans S2) R2 (.ow ha2 (r1.mono S2.fz) hz rs) ⟨?_, fun b m => ?_⟩
      · refine List.nodup_cons.mpr ⟨fun m => ?_, nw.nd⟩
        have := (nw.fr a m).2.1
        rw [ha] at this; cases this
      · rcases List.mem_cons.mp m with z | z
        · subst z; exact ⟨hg2, hn, _, ha2⟩
        · exact ⟨(nw.fr b z).1, S1.fresh (Owns.not R1 (nw.fr b z).2.1) (nw.fr b z).2.1, (nw.fr b z).2.2⟩
    · cases q
  · cases q
theorem px_rLL (h : PA X (e :: es) (tCons (tLL X.K fl) (tR X.K r))) : PA X (e :: es) (tR X.K (rLL fl r)) := h.weak fun σ H Q ⟨pa, G, fp, δ, ss, δ', R, q, k⟩ => by
  unfold rLL at q
  split at q
  · rename_i dss δ1 e1
    split at q
    · rename_i ss' δ2 e2
      cases q
      refine ⟨pa, G, fp, δ, dss, δ1, R, e1, fun a bs G1 H1 S1 R1 ha r1 hz n1 => ⟨pa, G1, fp, δ1, _, _, R1, e2, fun vs ass G2 H2 S2 R2 rs nw => ?_⟩⟩
      have no : ∀ b ∈ a :: bs, ¬ Owns fp b := fun b m => Owns.not R (n1.fr b m).2.1
      have kp : ∀ b ∈ a :: bs, ∀ o, H1 b = some o → H2 b = some o := fun b m o e => S2.keep b o e (no b m)
      have gn : ∀ b ∈ a :: bs, G2 b = none := fun b m => by
        obtain ⟨h1, _, o, h3⟩ := n1.fr b m
        rw [S2.old b (by rw [h3]; simp) (no b m)]; exact h1
      have go : ∀ {cs : List Addr} {dss : List (List PyData)}, (∀ b ∈ cs, b ∈ a :: bs) → Paired (fun b ds => ∃ vs, H1 b = some (.lst vs) ∧ RpA X.K G1 vs ds ∧ vs.length ≤ sizeLine) cs dss → Paired (fun b ds => ∃ vs, H2 b = some (.lst vs) ∧ RpA X.K G2 vs ds ∧ vs.length ≤ sizeLine) cs dss := by
        intro cs dss hm p
        induction p with
        | nil => exact .nil
        | cons r t ih =>
          obtain ⟨vs, q1, q2, q3⟩ := r
          exact .cons ⟨vs, kp _ (hm _ (by simp)) _ q1, q2.mono S2.fz, q3⟩ (ih fun b m => hm b (by simp [m]))
      refine k (.ref a :: vs) ((a :: bs) :: ass) G2 H2 (S1.trans S2) R2 (.ow2 (kp a (by simp) _ ha) (go (fun b m => by simp [m]) r1) hz rs) ⟨?_, fun b m => ?_⟩
      · refine List.nodup_append.mpr ⟨n1.nd, nw.nd, fun x hx y hy z => ?_⟩
        subst z
        obtain ⟨_, _, o, h3⟩ := n1.fr x hx
        have := (nw.fr x hy).2.1
        rw [h3] at this; cases this
      · rcases List.mem_append.mp m with z | z
        · obtain ⟨_, h2, o, h3⟩ := n1.fr b z
          exact ⟨gn b z, h2, o, kp b z o h3⟩
        · exact ⟨(nw.fr b z).1, S1.fresh (Owns.not R1 (nw.fr b z).2.1) (nw.fr b z).2.1, (nw.fr b z).2.2⟩
    · cases q
  · cases q
end

/-! ### stored, one after another -/
def puts : List Nat → List Slot → Env → Option Env
  | [], [], δ => some δ
  | i :: is, s :: ss, δ => (match put δ i s with
    | some δ1 => puts is ss δ1
    | none => none)
  | _, _, _ => none
def setsV : List Nat → List V → L2.St → L2.St
  | i :: is, v :: vs, σ => setsV is vs (σ.set i (some v))
  | _, _, σ => σ
def xPar (is : List Nat) (f : FR) : FS := fun δ => match f δ with
  | some (ss, δ1) => (match puts is ss δ1 with
    | some δ2 => some (.nx δ2)
    | none => none)
  | none => none
theorem puts_ok {K : PySem.W.Frag} {pa : Addr} {G H G0 H0 : Hp} {O : Addr → Prop} : ∀ {is : List Nat} {ss : List Slot} {vs : List V} {ass : List (List Addr)} {fp : Foot} {δ δ' : Env} {σ : L2.St}, Rel K pa G fp δ σ H → Res K G H vs ass ss →
    ass.flatten.Nodup → (∀ a ∈ ass.flatten, G a = none ∧ ¬ Owns fp a ∧ H0 a = none ∧ ∃ o, H a = some o) → puts is ss δ = some δ' → Step G0 O H0 G (Owns fp) H → ∃ fp', Step G0 O H0 G (Owns fp') H ∧ Rel K pa G fp' δ' (setsV is vs σ) H ∧ vs.length = is.length
  | [], [], _, _, fp, δ, δ', σ, R, .nil, _, _, e, S => by cases e; exact ⟨fp, S, R, rfl⟩
  | i :: is, s :: ss, _, _, fp, δ, δ', σ, R, r, nd, fr, e, S => by
    simp only [puts] at e
    split at e
    · rename_i δ1 e1
      have stp : ∀ {v : V} {vs : List V} {as : List Addr} {ass : List (List Addr)}, SlotOk K pa G H (some v) as s → (∀ j k, s ≠ .al j k) → Res K G H vs ass ss → (as ++ ass.flatten).Nodup → (∀ a ∈ as ++ ass.flatten, G a = none ∧ ¬ Owns fp a ∧ H0 a = none ∧ ∃ o, H a = some o) →
          ∃ fp', Step G0 O H0 G (Owns fp') H ∧ Rel K pa G fp' δ' (setsV (i :: is) (v :: vs) σ) H ∧ (v :: vs).length = (i :: is).length := by
        intro v vs as ass ok ns rs nd fr
        obtain ⟨n1, n2, n3⟩ := List.nodup_append.mp nd
        have R1 := R.put e1 ok ns n1 fun a m => let h := fr a (by simp [m]); ⟨h.1, h.2.1, h.2.2.2⟩
        have S1 : Step G0 O H0 G (Owns (cut fp i as)) H := ⟨S.fz, S.keep, S.old, fun a ⟨j, m⟩ => by
          by_cases q : j = i
          · rw [q, cut_same] at m; exact .inr (fr a (by simp [m])).2.2.1
          · rw [cut_ne q] at m; exact S.own a ⟨j, m⟩, S.all⟩
        obtain ⟨fp', S2, R2, l2⟩ := puts_ok R1 rs n2 (fun a m => by
          obtain ⟨h1, h2, h3, h4⟩ := fr a (by simp only [List.mem_append]; exact .inr m)
          refine ⟨h1, fun ⟨j, m'⟩ => ?_, h3, h4⟩
          by_cases q : j = i
          · rw [q, cut_same] at m'; exact n3 a m' a m rfl
          · rw [cut_ne q] at m'; exact h2 ⟨j, m'⟩) e S1
        exact ⟨fp', S2, R2, by simp [l2]⟩
      cases r with
      | @fz v d vs ass _ h rs => exact stp (as := []) ⟨rfl, v, rfl, h⟩ (fun _ _ z => by cases z) rs nd fr
      | @ow a ws ds vs ass _ h1 h2 h3 rs => exact stp (as := [a]) ⟨a, ws, rfl, rfl, h1, h2, h3⟩ (fun _ _ z => by cases z) rs nd fr
      | @ow2 a bs dss vs ass _ h1 h2 h3 rs => exact stp (as := a :: bs) ⟨a, bs, rfl, rfl, h1, h2, h3⟩ (fun _ _ z => by cases z) rs nd fr
    · cases e
  | [], _ :: _, _, _, _, _, _, _, _, _, _, _, e, _ => by cases e
  | _ :: _, [], _, _, _, _, _, _, _, _, _, _, e, _ => by cases e
theorem par_ok {K : PySem.W.Frag} {D : Ends} {σ : L2.St} {H : Hp} {is : List Nat} {f : FR} (h : tS K (xPar is f) D σ H) : tR K f σ H fun vs H1 => vs.length = is.length ∧ D.nx (setsV is vs σ) H1 := by
  obtain ⟨pa, G, fp, δ, o, R, q, k⟩ := h
  unfold xPar at q
  split at q
  · rename_i ss δ1 e1
    split at q
    · rename_i δ2 e2
      cases q
      refine ⟨pa, G, fp, δ, ss, δ1, R, e1, fun vs ass G' H' S R' rs nw => ?_⟩
      obtain ⟨fp', S', R'', l⟩ := puts_ok R' rs nw.nd (fun a m => ⟨(nw.fr a m).1, Owns.not R (nw.fr a m).2.1, (nw.fr a m).2.1, (nw.fr a m).2.2⟩) e2 S
      exact ⟨l, k G' fp' _ H' S' R''⟩
    · cases q
  · cases q
theorem px_par2 {X : Cx} {st : Stmt} {i j : Nat} {f : FR} (h : PS X st (tPar i j (tR X.K f))) : PS X st (tS X.K (xPar [i, j] f)) := h.weak fun D σ H q => by
  obtain ⟨pa, G, fp, δ, ss, δ', R, e, k⟩ := par_ok q
  refine ⟨pa, G, fp, δ, ss, δ', R, e, fun vs ass G' H' S R' rs nw => ?_⟩
  obtain ⟨l, n⟩ := k vs ass G' H' S R' rs nw
  match vs, l, n with
  | [v, w], _, n => exact ⟨v, w, rfl, n⟩
theorem px_par3 {X : Cx} {st : Stmt} {i j l : Nat} {f : FR} (h : PS X st (tPar3 i j l (tR X.K f))) : PS X st (tS X.K (xPar [i, j, l] f)) := h.weak fun D σ H q => by
  obtain ⟨pa, G, fp, δ, ss, δ', R, e, k⟩ := par_ok q
  refine ⟨pa, G, fp, δ, ss, δ', R, e, fun vs ass G' H' S R' rs nw => ?_⟩
  obtain ⟨l, n⟩ := k vs ass G' H' S R' rs nw
  match vs, l, n with
  | [u, v, w], _, n => exact ⟨u, v, w, rfl, n⟩
/-- names of a tuple of any length, by a tuple that is made on the way -/
def gNs : List Nat → TGs
  | [] => gNil'
  | i :: r => gCons (gName i) (gNs r)
where gNil' : TGs := L2.gNil
theorem gNs_ok {Q : L2.St → Hp → Prop} : ∀ {is : List Nat} {vs : List V} {σ : L2.St} {H : Hp}, vs.length = is.length → Q (setsV is vs σ) H → gNs is vs σ H Q
  | [], [], σ, H, _, q => ⟨rfl, q⟩
  | i :: is, v :: vs, σ, H, l, q => ⟨v, vs, rfl, gNs_ok (by simpa using l) q⟩
theorem px_parN {X : Cx} {st : Stmt} {is : List Nat} {f : FR} {n : Nat} (hn : n = is.length) (h : PS X st (tAsg (tTup (tR X.K f)) (gTup X.K n (gNs is)))) (hl : n ≤ 1000) : PS X st (tS X.K (xPar is f)) := h.weak fun D σ H q => by
  subst hn
  obtain ⟨pa, G, fp, δ, o, R, e, k0⟩ := q
  unfold xPar at e
  split at e
  · rename_i ss δ1 e1
    split at e
    · rename_i δ2 e2
      cases e
      refine ⟨pa, G, fp, δ, ss, δ1, R, e1, fun vs ass G' H' S R' rs nw => ?_⟩
      obtain ⟨fp', S', R'', l⟩ := puts_ok R' rs nw.nd (fun a m => ⟨(nw.fr a m).1, Owns.not R (nw.fr a m).2.1, (nw.fr a m).2.1, (nw.fr a m).2.2⟩) e2 S
      refine ⟨by rw [l]; exact Nat.le_of_lt (small1000 hl), fun p hp => ⟨p, vs, rfl, .of upd_same, l, gNs_ok l ?_⟩⟩
      exact k0 G' fp' _ _ (S'.trans (.lay hp)) (R''.lay hp)
    · cases e
  · cases e
/-- one name, a new list of new lists -/
def xSetLL (i : Nat) (f : Env → Option (List (List PyData) × Env)) : FS := xPar [i] (rLL f rNil)
theorem px_setLL {X : Cx} {st : Stmt} {i : Nat} {f : Env → Option (List (List PyData) × Env)} (h : PS X st (tAsg (tLL X.K f) (gName i))) : PS X st (tS X.K (xSetLL i f)) := h.weak fun D σ H q => by
  obtain ⟨pa, G, fp, δ, o, R, e, k0⟩ := q
  unfold xSetLL xPar at e
  split at e
  · rename_i ss δ1 e1
    split at e
    · rename_i δ2 e2
      cases e
      unfold rLL rNil at e1
      split at e1
      · rename_i dss δ3 e3
        cases e1
        refine ⟨pa, G, fp, δ, dss, _, R, e3, fun a bs G' H' S R' ha r1 hz n1 => ?_⟩
        obtain ⟨fp', S', R'', l⟩ := puts_ok (ass := [a :: bs]) R' (.ow2 ha r1 hz .nil) (by simpa using n1.nd) (fun b m => by
          have m' : b ∈ a :: bs := by simpa using m
          exact ⟨(n1.fr b m').1, Owns.not R (n1.fr b m').2.1, (n1.fr b m').2.1, (n1.fr b m').2.2⟩) e2 S
        exact k0 G' fp' _ H' S' R''
      · cases e1
    · cases e
  · cases e

/-! ### comprehensions -/
/-- the block's own slots -/
def wipeE (δ : Env) (vs : List Nat) : Env := vs.foldl (fun δ i => δ.set i .un) δ
def backE (δ0 : Env) (vs : List Nat) (δ : Env) : Env := vs.foldl (fun δ i => δ.set i (δ0.getD i .un)) δ
/-- they hold nothing that is owned -/
def idle (δ : Env) (vs : List Nat) : Bool := vs.all fun i => match δ[i]? with
  | some .un => true
  | some (.fz _) => true
  | _ => false
def lcL (vs : List Nat) (p : FG) (c : FT) (e : F) : List PyData → FA
  | [], δ => some ([], δ)
  | d :: r, δ => match p d δ with
    | none => none
    | some δ1 => match c δ1 with
      | some (true, δ2) => (match e δ2 with
        | some (y, δ3) => (match lcL vs p c e r (wipeE δ3 vs) with
          | some (ys, δ4) => some (y :: ys, δ4)
          | none => none)
        | none => none)
      | some (false, δ2) => lcL vs p c e r (wipeE δ2 vs)
      | none => none
def sLc (vs : List Nat) (it : FA) (p : FG) (c : FT) (e : F) : FA := fun δ => match it δ with
  | some (ds, δ1) => if idle δ1 vs = true then (match lcL vs p c e ds (wipeE δ1 vs) with
      | some (ys, δ2) => some (ys, backE δ1 vs δ2)
      | none => none) else none
  | none => none
def sYes : FT := fun δ => some (true, δ)
theorem wipeE_len (δ : Env) : ∀ vs : List Nat, (wipeE δ vs).length = δ.length := by
  intro vs
  induction vs generalizing δ with
  | nil => rfl
  | cons i r ih => show (wipeE (δ.set i .un) r).length = _; rw [ih]; simp
theorem wipeE_out : ∀ (vs : List Nat) (δ : Env) (j : Nat), j ∉ vs → (wipeE δ vs)[j]? = δ[j]? := by
  intro vs
  induction vs with
  | nil => intros; rfl
  | cons i r ih =>
    intro δ j h
    show (wipeE (δ.set i .un) r)[j]? = _
    rw [ih _ _ (fun z => h (by simp [z])), List.getElem?_set_ne (fun z => h (by simp [z]))]
theorem wipeE_in : ∀ (vs : List Nat) (δ : Env) (j : Nat), j ∈ vs → j < δ.length → (wipeE δ vs)[j]? = some .un := by
  intro vs
  induction vs with
  | nil => intro _ _ h; cases h
  | cons i r ih =>
    intro δ j h hl
    show (wipeE (δ.set i .un) r)[j]? = _
    by_cases q : j ∈ r
    · exact ih _ _ q (by simpa using hl)
    · have : j = i := (List.mem_cons.mp h).resolve_right q
      subst this
      rw [wipeE_out r _ _ q]
      exact List.getElem?_set_self hl
theorem backE_len (δ0 δ : Env) : ∀ vs : List Nat, (backE δ0 vs δ).length = δ.length := by
  intro vs
  induction vs generalizing δ with
  | nil => rfl
  | cons i r ih => show (backE δ0 r (δ.set i _)).length = _; rw [ih]; simp
theorem backE_out (δ0 : Env) : ∀ (vs : List Nat) (δ : Env) (j : Nat), j ∉ vs → (backE δ0 vs δ)[j]? = δ[j]? := by
  intro vs
  induction vs with
  | nil => intros; rfl
  | cons i r ih =>
    intro δ j h
    show (backE δ0 r (δ.set i _))[j]? = _
    rw [ih _ _ (fun z => h (by simp [z])), List.getElem?_set_ne (fun z => h (by simp [z]))]
theorem backE_in (δ0 : Env) : ∀ (vs : List Nat) (δ : Env) (j : Nat), j ∈ vs → j < δ.length → (backE δ0 vs δ)[j]? = some (δ0.getD j .un) := by
  intro vs
  induction vs with
  | nil => intro _ _ h; cases h
  | cons i r ih =>
    intro δ j h hl
    show (backE δ0 r (δ.set i _))[j]? = _
    by_cases q : j ∈ r
    · exact ih _ _ q (by simpa using hl)
    · have : j = i := (List.mem_cons.mp h).resolve_right q
      subst this
      rw [backE_out δ0 r _ _ q]
      exact List.getElem?_set_self hl
theorem wipe_in {σ : L2.St} {i : Nat} : ∀ {vs : List Nat}, i ∈ vs → ∀ x, (wipe σ vs)[i]? ≠ some (some x) := fun h x e => (wipe_some e).2 h
section
variable {K : PySem.W.Frag} {pa : Addr} {G H : Hp} {fp : Foot} {δ δ' : Env} {σ σ' : L2.St} {vs : List Nat}
theorem idle_at (h : idle δ vs = true) {i : Nat} (m : i ∈ vs) : δ[i]? = some .un ∨ ∃ d, δ[i]? = some (.fz d) := by
  have := List.all_eq_true.mp h i m
  split at this
  · exact .inl (by assumption)
  · rename_i d e; exact .inr ⟨d, e⟩
  · cases this
/-- into the block: the frame's other slots -/
theorem Rel.blk (R : Rel K pa G fp δ σ H) (fr : ∀ i ∈ vs, fp i = []) (hl : σ'.length = σ.length) (ho : ∀ j, j ∉ vs → σ'[j]? = σ[j]?) (na : ∀ (j l k : Nat), δ[j]? = some (.al l k) → l ∉ vs) : Rel K pa G fp (wipeE δ vs) σ' H := by
  refine ⟨by rw [hl, R.len, wipeE_len], R.sub, fun j x e => ?_, fun j l k e => ?_, R.nod, R.dis, R.free, R.has, fun j hj => R.out j (by rw [wipeE_len] at hj; exact hj), R.siz⟩
  · have lj : j < δ.length := by
      have := (List.getElem?_eq_some_iff.mp e).1
      rw [wipeE_len] at this; exact this
    by_cases q : j ∈ vs
    · rw [wipeE_in vs δ j q lj] at e
      cases e
      exact fr j q
    · rw [wipeE_out vs δ j q] at e
      have := R.slot j x e
      rw [List.getD_eq_getElem?_getD] at this ⊢
      rw [ho j q]; exact this
  · have lj : j < δ.length := by
      have := (List.getElem?_eq_some_iff.mp e).1
      rw [wipeE_len] at this; exact this
    by_cases q : j ∈ vs
    · rw [wipeE_in vs δ j q lj] at e; cases e
    · rw [wipeE_out vs δ j q] at e
      obtain ⟨b, dss, e1, e2, e3⟩ := R.als j l k e
      exact ⟨b, dss, by rw [ho j q]; exact e1, e2, by rw [wipeE_out vs δ l (na j l k e)]; exact e3⟩
/-- no slot stands for a list within one of these -/
theorem no_al (R : Rel K pa G fp δ σ H) (fr : ∀ i ∈ vs, fp i = []) : ∀ (j l k : Nat), δ[j]? = some (.al l k) → l ∉ vs := fun j l k e m => by
  obtain ⟨b, dss, _, e2, _⟩ := R.als j l k e
  rw [fr l m] at e2
  simp at e2
theorem idle_fp (R : Rel K pa G fp δ σ H) (h : idle δ vs = true) : ∀ i ∈ vs, fp i = [] := fun i m => by
  rcases idle_at h m with e | ⟨d, e⟩
  · exact R.slot i _ e
  · exact (R.slot i _ e).1
end
theorem cuts_nil {fp : Foot} : ∀ {vs : List Nat}, (∀ i ∈ vs, fp i = []) → cuts fp vs = fp
  | [], _ => rfl
  | i :: r, h => by
    show cuts (cut fp i []) r = fp
    rw [cut_self (h i (by simp))]
    exact cuts_nil fun j m => h j (by simp [m])
theorem wipe_len' (σ : L2.St) (vs : List Nat) : (wipe σ vs).length = σ.length := wipe_length σ vs
theorem wipe_eq {σ σ' : L2.St} : ∀ {vs : List Nat}, σ'.length = σ.length → (∀ j, j ∉ vs → σ'[j]? = σ[j]?) → wipe σ' vs = wipe σ vs := by
  intro vs hl ho
  apply List.ext_getElem?
  intro j
  by_cases q : j ∈ vs
  · have n : ∀ (ρ : L2.St), ρ.length = σ.length → (wipe ρ vs)[j]? = if j < σ.length then some none else none := by
      intro ρ hρ
      by_cases lt : j < σ.length
      · rw [if_pos lt]
        cases e : (wipe ρ vs)[j]? with
        | none => rw [List.getElem?_eq_none_iff, wipe_length, hρ] at e; omega
        | some x =>
          cases x with
          | none => rfl
          | some v => exact absurd e (wipe_in q v)
      · rw [if_neg lt]
        exact List.getElem?_eq_none_iff.mpr (by rw [wipe_length, hρ]; omega)
    rw [n σ' hl, n σ rfl]
  · rw [wipe_out q, wipe_out q, ho j q]
section
variable {K : PySem.W.Frag} {pa : Addr} {G G1 H H1 : Hp} {fp : Foot} {δ δ1 : Env} {σ : L2.St} {vs : List Nat}
theorem Step.over {G0 H0 : Hp} {O O' : Addr → Prop} {D : Addr} {o : HO} (S : Step G0 O H0 G O' H) (n : H0 D = none) : Step G0 O H0 G O' (upd H D o) :=
  ⟨S.fz, fun a u e q => by rw [upd_ne (ne_of_none e n)]; exact S.keep a u e q, S.old, S.own, fun a e => S.all a (new_all a e)⟩
theorem Rel.over {D : Addr} {o : HO} (R : Rel K pa G fp δ σ H) (g : G D = none) (n : ¬ Owns fp D) : Rel K pa G fp δ σ (upd H D o) :=
  R.move (.refl G) (fun a u e => by rw [upd_ne (ne_of_none e g)]; exact R.sub a u e) (fun i a m => upd_ne fun z => n ⟨i, by rw [← z]; exact m⟩) R.free R.siz
theorem Rel.unblk (R1 : Rel K pa G1 fp δ1 σ H1) (R : Rel K pa G fp δ (wipe σ vs) H) (s : Sub G1 G) (h : idle δ1 vs = true) : Rel K pa G fp (backE δ1 vs δ) σ H := by
  have fr := idle_fp R1 h
  have hl : δ.length = δ1.length := by rw [← R.len, wipe_length, R1.len]
  refine ⟨by rw [backE_len, hl, R1.len], R.sub, fun j x e => ?_, fun j l k e => ?_, R.nod, R.dis, R.free, R.has, fun j hj => R.out j (by rw [backE_len] at hj; exact hj), R.siz⟩
  · have lj : j < δ.length := by
      have := (List.getElem?_eq_some_iff.mp e).1
      rw [backE_len] at this; exact this
    by_cases q : j ∈ vs
    · rw [backE_in δ1 vs δ j q lj] at e
      cases e
      have l1 : j < δ1.length := by rw [← hl]; exact lj
      have eD : List.getD δ1 j Slot.un = δ1[j] := by rw [List.getD_eq_getElem?_getD, List.getElem?_eq_getElem l1]; rfl
      rw [eD]
      have := R1.slot j _ (List.getElem?_eq_getElem l1)
      rcases idle_at h q with z | ⟨d, z⟩
      · rw [List.getElem?_eq_getElem l1] at z
        rw [Option.some.inj z]
        exact fr j q
      · rw [List.getElem?_eq_getElem l1] at z
        rw [Option.some.inj z] at this ⊢
        obtain ⟨a, v, b, r⟩ := this
        exact ⟨a, v, b, r.mono s⟩
    · rw [backE_out δ1 vs δ j q] at e
      have := R.slot j x e
      rw [List.getD_eq_getElem?_getD] at this ⊢
      rw [wipe_out q] at this; exact this
  · have lj : j < δ.length := by
      have := (List.getElem?_eq_some_iff.mp e).1
      rw [backE_len] at this; exact this
    by_cases q : j ∈ vs
    · rw [backE_in δ1 vs δ j q lj] at e
      have l1 : j < δ1.length := by rw [← hl]; exact lj
      rw [List.getD_eq_getElem?_getD] at e
      rcases idle_at h q with z | ⟨d, z⟩ <;> (rw [z] at e; cases e)
    · rw [backE_out δ1 vs δ j q] at e
      obtain ⟨b, dss, e1, e2, e3⟩ := R.als j l k e
      rw [wipe_out q] at e1
      exact ⟨b, dss, e1, e2, by rw [backE_out δ1 vs δ l (no_al R fr j l k e)]; exact e3⟩
end
section
variable {X : Cx} {it : FA} {vs ws : List Nat} {p : FG} {c : FT} {f : F}
/-- the reading of a comprehension of frozen items -/
theorem lc_ok {K : PySem.W.Frag} (sub : ∀ i ∈ ws, i ∈ vs) {σ : L2.St} {H : Hp} {Q : VK} (h : tL K (sLc vs it p c f) σ H Q) : tLc (tI K it) (tG K ws p) (tT K c) (tF K f) vs σ H Q := by
  obtain ⟨pa, G, fp, δ, ys, δ', R, q, k⟩ := h
  unfold sLc at q
  split at q
  · rename_i ds δ1 e1
    split at q
    · rename_i hid
      split at q
      · rename_i ys' δ2 e2
        cases q
        refine ⟨pa, G, fp, δ, ds, δ1, R, e1, fun J G1 H1 S1 R1 Y D hD => ?_⟩
        have fr := idle_fp R1 hid
        have frw : ∀ i ∈ ws, fp i = [] := fun i m => fr i (sub i m)
        have nD : ¬ Owns fp D := Owns.not R1 hD
        have hD0 : H D = none := S1.fresh nD hD
        refine ⟨fun i m H2 => m = ds.length - i ∧ i ≤ ds.length ∧ ∃ G2 δ3 acc done rest, Step G1 (Owns fp) H1 G2 (Owns fp) H2 ∧ Rel K pa G2 fp δ3 (wipe σ vs) H2 ∧ H2 D = some (.lst acc) ∧ G2 D = none ∧ RpA K G2 acc done ∧ acc.length ≤ i ∧ lcL vs p c f (ds.drop i) δ3 = some (rest, δ2) ∧ ys = done ++ rest,
          ⟨ds.length, by simp, Nat.zero_le _, G1, wipeE δ1 vs, [], [], ys, .lay hD, ?_, upd_same, R1.sub.none hD, .nil, Nat.le_refl _, by simpa using e2, rfl⟩, ?_⟩
        · exact (R1.lay hD).blk fr (wipe_length σ vs) (fun j hj => wipe_out hj) (no_al R1 fr)
        rintro i m H2 ⟨rfl, hi, G2, δ3, acc, done, rest, S2, R2, hD2, gD2, rA, lA, e3, ey⟩
        by_cases hlt : i < ds.length
        · right
          obtain ⟨go, yl⟩ := Y.go G2 fp δ3 _ H2 i _ S2 R2 (List.getElem?_eq_getElem hlt)
          rw [List.drop_eq_getElem_cons hlt] at e3
          unfold lcL at e3
          split at e3
          · cases e3
          · rename_i δ4 e4
            refine ⟨go, fun H9 => ∃ G2 δ3 acc done rest, Step G1 (Owns fp) H1 G2 (Owns fp) H9 ∧ Rel K pa G2 fp δ3 (wipe σ vs) H9 ∧ H9 D = some (.lst acc) ∧ G2 D = none ∧ RpA K G2 acc done ∧ acc.length ≤ i + 1 ∧ lcL vs p c f (ds.drop (i + 1)) δ3 = some (rest, δ2) ∧ ys = done ++ rest,
              fun H9 n => ⟨ds.length - (i + 1), by omega, rfl, hlt, n⟩, fun x H3 y => ?_⟩
            obtain ⟨G3, S3, R3, r3⟩ := yl x H3 y
            refine ⟨pa, G3, fp, δ3, _, δ4, R3, r3, e4, fun fp4 σ4 c4 g4 S4 R4 => ?_⟩
            have efp : fp4 = fp := c4.trans (cuts_nil frw)
            rw [efp] at S4 R4
            have sw : ∀ j, j ∉ vs → σ4[j]? = (wipe σ vs)[j]? := fun j hj => g4.2 j fun z => hj (sub j z)
            have ww : wipe σ4 vs = wipe σ vs := by
              rw [wipe_eq g4.1 sw]
              exact wipe_eq (wipe_length σ vs) fun j hj => wipe_out hj
            refine ⟨ww, ?_⟩
            -- D stands
            have kD : ∀ {G9 H9 : Hp}, Step G2 (Owns fp) H2 G9 (Owns fp) H9 → H9 D = some (.lst acc) ∧ G9 D = none := fun S => ⟨S.keep D _ hD2 nD, by rw [S.old D (by rw [hD2]; simp) nD]; exact gD2⟩
            have S24 := S3.trans S4
            have back : ∀ {G9 H9 : Hp} {δ9 : Env}, Rel K pa G9 fp δ9 σ4 H9 → Rel K pa G9 fp (wipeE δ9 vs) (wipe σ vs) H9 := fun R9 =>
              R9.blk fr (by rw [wipe_length, g4.1, wipe_length]) (fun j hj => (sw j hj).symm) (no_al R9 fr)
            split at e3
            · rename_i δ5 e5
              refine ⟨pa, G3, fp, δ4, _, δ5, R4, e5, fun G5 H5 S5 R5 => iteT ?_⟩
              split at e3
              · rename_i y δ6 e6
                split at e3
                · rename_i yr δ7 e7
                  cases e3
                  refine ⟨pa, G5, fp, δ5, y, δ6, R5, e6, fun v G6 H6 S6 R6 r6 => ?_⟩
                  have S26 := S24.trans (S5.trans S6)
                  obtain ⟨d1, d2⟩ := kD S26
                  have lz : acc.length < sizeLine := Nat.lt_of_lt_of_le (Nat.lt_of_le_of_lt lA hlt) Y.siz
                  have R7 := back R6
                  refine ⟨acc, d1, lz, G6, wipeE δ6 vs, acc ++ [v], done ++ [y], yr, (S2.trans S26).over hD, R7.over d2 nD, upd_same, d2, (rA.mono S26.fz).app (.cons r6 .nil), by simp; omega, e7, by rw [ey]; simp⟩
                · cases e3
              · cases e3
            · rename_i δ5 e5
              refine ⟨pa, G3, fp, δ4, _, δ5, R4, e5, fun G5 H5 S5 R5 => iteF ?_⟩
              have S25 := S24.trans S5
              obtain ⟨d1, d2⟩ := kD S25
              exact ⟨G5, wipeE δ5 vs, acc, done, rest, S2.trans S25, back R5, d1, d2, rA.mono S25.fz, by omega, e3, ey⟩
            · cases e3
        · left
          have ei : i = ds.length := by omega
          subst ei
          rw [List.drop_length] at e3
          cases e3
          refine ⟨Y.stop G2 fp _ _ H2 S2 R2, ?_⟩
          rw [List.append_nil] at ey
          subst ey
          exact k D acc G2 H2 (S1.trans S2) (Rel.unblk R1 R2 S2.fz hid) hD2 rA gD2 hD0 (Nat.le_trans lA Y.siz)
      · cases q
    · cases q
  · cases q
end
end Fw

end
section
set_option Elab.async false
set_option linter.all false
set_option maxRecDepth 100000
/-! Comprehensions as rules; defs: what a def does to data; its call, its body. Nothing is being shown (repr) around such a call. -/
namespace Fw
open PySem PySem.Spec PyProof.Rows L2

/-! ### comprehensions -/
section
variable {X : Cx} {e : Expr} {st : Stmt} {it : FA} {vs ws : List Nat} {p : FG} {c : FT} {f : F}
theorem px_lc (h : PE X e (tLc (tI X.K it) (tG X.K ws p) (tT X.K c) (tF X.K f) vs)) (sub : ∀ i ∈ ws, i ∈ vs := by decide) : PE X e (tL X.K (sLc vs it p c f)) := h.weak fun σ H Q q => lc_ok sub q
theorem px_slc {i : Nat} (h : PS X st (tAsg (tLc (tI X.K it) (tG X.K ws p) (tT X.K c) (tF X.K f) vs) (gName i))) (sub : ∀ i ∈ ws, i ∈ vs := by decide) : PS X st (tS X.K (xSetL i (sLc vs it p c f))) :=
  px_setL (h.weak fun D σ H q => lc_ok sub q)
/-- frozen at once -/
theorem px_slcF {i : Nat} (h : PS X st (tAsg (tLc (tI X.K it) (tG X.K ws p) (tT X.K c) (tF X.K f) vs) (gName i))) (sub : ∀ i ∈ ws, i ∈ vs := by decide) : PS X st (tS X.K (xSet i (sFz (sLc vs it p c f)))) := by
  refine px_set (h.weak fun D σ H q => lc_ok (Q := fun x H1 => gName i x σ H1 D.nx) sub ?_)
  obtain ⟨pa, G, fp, δ, d, δ', R, q, k⟩ := q
  unfold sFz at q
  split at q
  · rename_i xs δ1 e1
    cases q
    refine ⟨pa, G, fp, δ, xs, _, R, e1, fun a vs G' H' S R' ha r hg hn hz => ?_⟩
    exact k (.ref a) _ H' (S.ice hg hn) (R'.ice ha hg (Owns.not R hn) hz) (.lst upd_same (r.mono (.new hg)))
  · cases q
theorem px_ty : PTs X [] (tT X.K sYes) := ⟨fun pins s σ H Q I h => (pts_nil (X := X)).run pins s σ H Q I (by
  obtain ⟨pa, G, fp, δ, b, δ', R, q, k⟩ := h
  cases q
  exact k G H .refl R)⟩
theorem px_t1 {e : Expr} {t : FT} (h : PT X e (tT X.K t)) : PTs X [e] (tT X.K t) := pts_one h
end

/-! .. of new lists -/
def llL (vs : List Nat) (p : FG) (e : FA) : List PyData → Env → Option (List (List PyData) × Env)
  | [], δ => some ([], δ)
  | d :: r, δ => match p d δ with
    | none => none
    | some δ1 => match e δ1 with
      | some (y, δ3) => (match llL vs p e r (wipeE δ3 vs) with
        | some (ys, δ4) => some (y :: ys, δ4)
        | none => none)
      | none => none
def sLL (vs : List Nat) (it : FA) (p : FG) (e : FA) : Env → Option (List (List PyData) × Env) := fun δ => match it δ with
  | some (ds, δ1) => if idle δ1 vs = true then (match llL vs p e ds (wipeE δ1 vs) with
      | some (ys, δ2) => some (ys, backE δ1 vs δ2)
      | none => none) else none
  | none => none
theorem Paired.snoc {α β : Type} {F : α → β → Prop} {x : α} {y : β} (h : F x y) : ∀ {xs : List α} {ys : List β}, Paired F xs ys → Paired F (xs ++ [x]) (ys ++ [y])
  | _, _, .nil => .cons h .nil
  | _, _, .cons r t => .cons r (Paired.snoc h t)
theorem Paired.imp {α β : Type} {F F' : α → β → Prop} : ∀ {xs : List α} {ys : List β}, Paired F xs ys → (∀ x y, x ∈ xs → F x y → F' x y) → Paired F' xs ys
  | _, _, .nil, _ => .nil
  | _, _, .cons r t, h => .cons (h _ _ (by simp) r) (Paired.imp t fun x y m => h x y (by simp [m]))
theorem ll_ok {K : PySem.W.Frag} {it : FA} {vs ws : List Nat} {p : FG} {f : FA} (sub : ∀ i ∈ ws, i ∈ vs) {σ : L2.St} {H : Hp} {Q : VK} (h : tLL K (sLL vs it p f) σ H Q) : tLc (tI K it) (tG K ws p) (tT K sYes) (tL K f) vs σ H Q := by
  obtain ⟨pa, G, fp, δ, ys, δ', R, q, k⟩ := h
  unfold sLL at q
  split at q
  · rename_i ds δ1 e1
    split at q
    · rename_i hid
      split at q
      · rename_i ys' δ2 e2
        cases q
        refine ⟨pa, G, fp, δ, ds, δ1, R, e1, fun J G1 H1 S1 R1 Y D hD => ?_⟩
        have fr := idle_fp R1 hid
        have frw : ∀ i ∈ ws, fp i = [] := fun i m => fr i (sub i m)
        have nD : ¬ Owns fp D := Owns.not R1 hD
        refine ⟨fun i m H2 => m = ds.length - i ∧ i ≤ ds.length ∧ ∃ G2 δ3 bs done rest, Step G1 (Owns fp) H1 G2 (Owns fp) H2 ∧ Rel K pa G2 fp δ3 (wipe σ vs) H2 ∧ H2 D = some (.lst (bs.map V.ref)) ∧ G2 D = none ∧
            Paired (fun b ds => ∃ vs, H2 b = some (.lst vs) ∧ RpA K G2 vs ds ∧ vs.length ≤ sizeLine) bs done ∧ (∀ b ∈ bs, G2 b = none ∧ H1 b = none ∧ b ≠ D) ∧ bs.Nodup ∧ bs.length ≤ i ∧ llL vs p f (ds.drop i) δ3 = some (rest, δ2) ∧ ys = done ++ rest,
          ⟨ds.length, by simp, Nat.zero_le _, G1, wipeE δ1 vs, [], [], ys, .lay hD, ?_, upd_same, R1.sub.none hD, .nil, fun _ m => (by cases m), .nil, Nat.le_refl _, by simpa using e2, rfl⟩, ?_⟩
        · exact (R1.lay hD).blk fr (wipe_length σ vs) (fun j hj => wipe_out hj) (no_al R1 fr)
        rintro i m H2 ⟨rfl, hi, G2, δ3, bs, done, rest, S2, R2, hD2, gD2, rA, fb, ndb, lA, e3, ey⟩
        by_cases hlt : i < ds.length
        · right
          obtain ⟨go, yl⟩ := Y.go G2 fp δ3 _ H2 i _ S2 R2 (List.getElem?_eq_getElem hlt)
          rw [List.drop_eq_getElem_cons hlt] at e3
          unfold llL at e3
          split at e3
          · cases e3
          · rename_i δ4 e4
            refine ⟨go, fun H9 => ∃ G2 δ3 bs done rest, Step G1 (Owns fp) H1 G2 (Owns fp) H9 ∧ Rel K pa G2 fp δ3 (wipe σ vs) H9 ∧ H9 D = some (.lst (bs.map V.ref)) ∧ G2 D = none ∧
              Paired (fun b ds => ∃ vs, H9 b = some (.lst vs) ∧ RpA K G2 vs ds ∧ vs.length ≤ sizeLine) bs done ∧ (∀ b ∈ bs, G2 b = none ∧ H1 b = none ∧ b ≠ D) ∧ bs.Nodup ∧ bs.length ≤ i + 1 ∧ llL vs p f (ds.drop (i + 1)) δ3 = some (rest, δ2) ∧ ys = done ++ rest,
              fun H9 n => ⟨ds.length - (i + 1), by omega, rfl, hlt, n⟩, fun x H3 y => ?_⟩
            obtain ⟨G3, S3, R3, r3⟩ := yl x H3 y
            refine ⟨pa, G3, fp, δ3, _, δ4, R3, r3, e4, fun fp4 σ4 c4 g4 S4 R4 => ?_⟩
            have efp : fp4 = fp := c4.trans (cuts_nil frw)
            rw [efp] at S4 R4
            have sw : ∀ j, j ∉ vs → σ4[j]? = (wipe σ vs)[j]? := fun j hj => g4.2 j fun z => hj (sub j z)
            have ww : wipe σ4 vs = wipe σ vs := by
              rw [wipe_eq g4.1 sw]
              exact wipe_eq (wipe_length σ vs) fun j hj => wipe_out hj
            refine ⟨ww, pa, G3, fp, δ4, _, δ4, R4, rfl, fun G5 H5 S5 R5 => iteT ?_⟩
            split at e3
            · rename_i y δ6 e6
              split at e3
              · rename_i yr δ7 e7
                cases e3
                refine ⟨pa, G5, fp, δ4, y, δ6, R5, e6, fun b vb G6 H6 S6 R6 hb r6 hg hn hz => ?_⟩
                have S26 := (S3.trans S4).trans (S5.trans S6)
                have d1 := S26.keep D _ hD2 nD
                have d2 : G6 D = none := by rw [S26.old D (by rw [hD2]; simp) nD]; exact gD2
                have lz : (bs.map V.ref).length < sizeLine := by rw [List.length_map]; exact Nat.lt_of_lt_of_le (Nat.lt_of_le_of_lt lA hlt) Y.siz
                have R7 : Rel K pa G6 fp (wipeE δ6 vs) (wipe σ vs) H6 := R6.blk fr (by rw [wipe_length, g4.1, wipe_length]) (fun j hj => (sw j hj).symm) (no_al R6 fr)
                have n2 : H2 b = none := (S3.trans (S4.trans S5)).all b hn
                have bD : b ≠ D := fun z => by rw [z, hD2] at n2; cases n2
                have nb : b ∉ bs := fun m => by
                  obtain ⟨j, lj, ej⟩ := List.getElem_of_mem m
                  have lk : bs.length = done.length := Paired.length rA
                  obtain ⟨b', g1, vs', g2, _⟩ := Paired.at (k := j) rA (List.getElem?_eq_getElem (by omega))
                  rw [List.getElem?_eq_getElem lj, ej] at g1
                  cases g1
                  rw [n2] at g2; cases g2
                refine ⟨bs.map V.ref, d1, lz, G6, wipeE δ6 vs, bs ++ [b], done ++ [y], yr, (S2.trans S26).over hD, R7.over d2 nD, by rw [upd_same, List.map_append]; rfl, d2, ?_, fun c m => ?_, ?_, by simp; omega, e7, by rw [ey]; simp⟩
                · refine Paired.snoc ⟨vb, by rw [upd_ne bD]; exact hb, r6, hz⟩ (Paired.imp rA fun c cs m ⟨vs', h1, h2, h3⟩ => ⟨vs', ?_, h2.mono S26.fz, h3⟩)
                  rw [upd_ne (fb c m).2.2]
                  exact S26.keep c _ h1 (Owns.not R1 (fb c m).2.1)
                · rcases List.mem_append.mp m with z | z
                  · refine ⟨?_, (fb c z).2.1, (fb c z).2.2⟩
                    obtain ⟨j, lj, ej⟩ := List.getElem_of_mem z
                    have lk : bs.length = done.length := Paired.length rA
                    obtain ⟨b', g1, vs', g2, _⟩ := Paired.at (k := j) rA (List.getElem?_eq_getElem (by omega))
                    rw [List.getElem?_eq_getElem lj, ej] at g1
                    cases g1
                    rw [S26.old c (by rw [g2]; simp) (Owns.not R1 (fb c z).2.1)]
                    exact (fb c z).1
                  · have : c = b := by simpa using z
                    subst this
                    exact ⟨hg, S2.all c n2, bD⟩
                · exact List.nodup_append.mpr ⟨ndb, by simp, fun x hx y hy z => by
                    have : y = b := by simpa using hy
                    subst this; subst z; exact nb hx⟩
              · cases e3
            · cases e3
        · left
          have ei : i = ds.length := by omega
          subst ei
          rw [List.drop_length] at e3
          cases e3
          refine ⟨Y.stop G2 fp _ _ H2 S2 R2, ?_⟩
          rw [List.append_nil] at ey
          subst ey
          refine k D bs G2 H2 (S1.trans S2) (Rel.unblk R1 R2 S2.fz hid) hD2 rA (Nat.le_trans lA Y.siz) ⟨List.nodup_cons.mpr ⟨fun m => (fb D m).2.2 rfl, ndb⟩, fun b m => ?_⟩
          rcases List.mem_cons.mp m with z | z
          · subst z; exact ⟨gD2, S1.all b hD, _, hD2⟩
          · obtain ⟨j, lj, ej⟩ := List.getElem_of_mem z
            have lk : bs.length = ys.length := Paired.length rA
            obtain ⟨b', g1, vs', g2, _⟩ := Paired.at (k := j) rA (List.getElem?_eq_getElem (by omega))
            rw [List.getElem?_eq_getElem lj, ej] at g1
            cases g1
            exact ⟨(fb b z).1, S1.all b (fb b z).2.1, _, g2⟩
      · cases q
    · cases q
  · cases q
section
variable {X : Cx} {e : Expr} {st : Stmt} {it : FA} {vs ws : List Nat} {p : FG} {f : FA}
theorem px_ll (h : PE X e (tLc (tI X.K it) (tG X.K ws p) (tT X.K sYes) (tL X.K f) vs)) (sub : ∀ i ∈ ws, i ∈ vs := by decide) : PE X e (tLL X.K (sLL vs it p f)) := h.weak fun σ H Q q => ll_ok sub q
theorem px_sll {i : Nat} (h : PS X st (tAsg (tLc (tI X.K it) (tG X.K ws p) (tT X.K sYes) (tL X.K f) vs) (gName i))) (sub : ∀ i ∈ ws, i ∈ vs := by decide) : PS X st (tS X.K (xSetLL i (sLL vs it p f))) :=
  px_setLL (h.weak fun D σ H q => ll_ok sub q)
end

/-! ### defs -/
structure FnG (P : Program) (w : World) (K : PySem.W.Frag) (mg : Str → Option Value) (base : Heap) (k : Nat) (f : Addr) (fd : FuncData) (ps : List Str) (sp : Sp) : Prop where
  len : ∀ vs H Q E, sp vs H Q E → vs.length = ps.length
  go : ∀ {A : Around} {out : List PySem.Env} {s : Shared} {H : Hp} {ar : Args} {us : List Value} {vs : List V} {Q : VK}, A.guards = some [] → Room k A → Env0 P w K mg base A out s H → BindsTo s fd ar (ps.zip us) → Vals vs us → sp vs H Q E0 →
    codeAny (model P w) A (.call (.ref f) ar) (CR CX0 out P w H s Q E0) s
theorem FnG.mono {P : Program} {w : World} {K : PySem.W.Frag} {mg : Str → Option Value} {base : Heap} {j k : Nat} {f : Addr} {fd : FuncData} {ps : List Str} {sp : Sp} (F : FnG P w K mg base j f fd ps sp) (h : j ≤ k) : FnG P w K mg base k f fd ps sp :=
  ⟨F.len, fun g r => F.go g (r.mono h)⟩
/-- the context of a body -/
abbrev bodyX (P : Program) (w : World) (K : PySem.W.Frag) (mg : Str → Option Value) (base : Heap) (N : List Str) (x : Str) (sc : Scope) (f : Addr) (cd : Value) (A : Around) (out : List PySem.Env) (s : Shared) (H : Hp) : Cx := (cxOf CX0 P w K mg base N x sc f cd A out s H E0).nox
theorem guards_deeper (A : Around) (env : PySem.Env) (h : A.guards = some []) : (A.deeper env).guards = some [] := by
  first
  | exact h
  | (simp only [Around.deeper]; exact h)
  | simp [Around.deeper, Around.under, pushGuards, Code.guards, Code.isGuard, h]
theorem FnG.of {P : Program} {w : World} {K : PySem.W.Frag} {mg : Str → Option Value} {base : Heap} {x : Str} {pr : Arguments} {body : List Stmt} {sc : Scope} {dvs : List V} {kws : List (Str × V)} {f : Addr} {fd : FuncData} {N ps : List Str} {k : Nat} {sp : Sp}
    (F : FunD K x x pr body sc dvs kws f fd) (S : FnScope N ps sc) (len : ∀ vs H Q E, sp vs H Q E → vs.length = ps.length)
    (hb : ∀ (cd : Value) (A : Around) (out : List PySem.Env) (s : Shared) (H : Hp) (vs : List V) (Q : VK), (A.deeper (envOfC x sc s.heap.objs.size f cd)).guards = some [] → Room k (A.deeper (envOfC x sc s.heap.objs.size f cd)) → sp vs H Q E0 →
      ∃ t, PSs (bodyX P w K mg base N x sc f cd A out s H) body t ∧ t { nx := fun _ H' => Q .non H', rt := Q } (start N vs) H) : FnG P w K mg base (k + 1) f fd ps sp := by
  obtain ⟨oc, od, dV, kV, doc, pm, an, cd, ct, osl, efd, lk, hcd, _, _⟩ := F.ex
  subst efd
  constructor
  · exact len
  · intro A out s H ar us vs Q hg hr e0 hbind rv hsp
    have hlen := len _ _ _ _ hsp
    have kin : K.In s.heap := e0.mod.kin.keeps fun b o h => (e0.bs b o h).1
    have nol : s.heap.NoLimit := e0.mod.nolimit.keeps fun b o h => (e0.bs b o h).1
    apply codeAny_call_function hr.depth (kin _ _ lk) rfl S.co S.gen rfl (PySem.W.codeRec_of kin hcd)
    apply hbind
    apply wpAny_newFunctionEnv_cells S.kind
    · rintro ⟨n, v⟩ m
      have par := S.par n (List.of_mem_zip m).1
      exact par.imp id fun q => ⟨q, PySem.W.cellsFrom_some _ _ _ (.inl q)⟩
    · rintro env he s1 ic
      subst he
      refine ⟨nol.keeps ic.toInCall.keep, codeAny_func ?_⟩
      obtain ⟨t, ht, hq⟩ := hb cd A out s H vs Q (guards_deeper A _ hg) (hr.deeper _) hsp
      have I := inv_start (CX := CX0) (E := E0) S hr.hd e0 hlen rv ic
      have fin : ∀ {σ' : L2.St} {H' : Hp} {v : V} {u : Value} {s' : Shared}, Inv (cxOf CX0 P w K mg base N x sc f cd A out s H E0) [] σ' H' s' → RelV v u → Q v H' → CE out P w H s Q u s' :=
        fun {σ' H' v u s'} J r q => ⟨v, H', J.os, J.bare, J.base, J.hok, r, q⟩
      refine wpAny_mono (ht.nox.run [] s1 (start N vs) H _ I hq) ?_ fun e s' h => h
      intro fl s' hs
      cases fl with
      | ret u => exact let ⟨v, σ', H', J, r, q⟩ := hs; fin J r q
      | next => exact let ⟨σ', H', J, q⟩ := hs; fin (v := .non) (u := .none) J rfl q
      | brk => exact let ⟨_, _, _, q⟩ := hs; q.elim
      | cont => exact let ⟨_, _, _, q⟩ := hs; q.elim

/-! ### promises by data -/
def siz (G : Hp) : Prop := ∀ a o, G a = some o → Szd o
/-- data in, data out -/
def spF (K : PySem.W.Frag) (n : Nat) (den : List PyData → Option PyData) : Sp := fun vs H Q _ => vs.length = n ∧ ∃ G ds d, Sub G H ∧ siz G ∧ RpA K G vs ds ∧ den ds = some d ∧
  ∀ v G' H', Sub G' H' → siz G' → Step G (fun _ => False) H G' (fun _ => False) H' → Rp K G' v d → Q v H'
/-- the first one a list that is changed -/
def spM (K : PySem.W.Frag) (n : Nat) (den : List PyData → List PyData → Option (PyData × List PyData)) : Sp := fun vs H Q _ => vs.length = n + 1 ∧ ∃ a ws G es ds d es', Sub G H ∧ siz G ∧ G a = none ∧ vs.head? = some (.ref a) ∧ H a = some (.lst ws) ∧ ws.length ≤ sizeLine ∧ RpA K G ws es ∧ RpA K G vs.tail ds ∧ den es ds = some (d, es') ∧
  ∀ v ws' G' H', Sub G' H' → siz G' → Step G (fun b => b = a) H G' (fun b => b = a) H' → G' a = none → H' a = some (.lst ws') → ws'.length ≤ sizeLine → RpA K G' ws' es' → Rp K G' v d → Q v H'
/-- the first one the script -/
def spS (K : PySem.W.Frag) (n : Nat) (den : List Int → List PyData → Option PyData) : Sp := fun vs H Q _ => vs.length = n + 1 ∧ ∃ a ns G ds d, Sub G H ∧ siz G ∧ vs.head? = some (.ref a) ∧ SqL K G a (ns.map V.int) ∧ RpA K G vs.tail ds ∧ den ns ds = some d ∧
  ∀ v G' H', Sub G' H' → siz G' → Step G (fun _ => False) H G' (fun _ => False) H' → Rp K G' v d → Q v H'
/-- .. and a new list handed out -/
def spSL (K : PySem.W.Frag) (n : Nat) (den : List Int → List PyData → Option (List PyData)) : Sp := fun vs H Q _ => vs.length = n + 1 ∧ ∃ a ns G ds d, Sub G H ∧ siz G ∧ vs.head? = some (.ref a) ∧ SqL K G a (ns.map V.int) ∧ RpA K G vs.tail ds ∧ den ns ds = some d ∧
  ∀ b ws G' H', Sub G' H' → siz G' → Step G (fun _ => False) H G' (fun _ => False) H' → H' b = some (.lst ws) → RpA K G' ws d → G' b = none → H b = none → ws.length ≤ sizeLine → Q (.ref b) H'
def uns (m : Nat) : Env := List.replicate m .un
def denF (n m : Nat) (g : FS) : List PyData → Option PyData := fun ds => if ds.length = n then (match g (ds.map .fz ++ uns m) with
  | some (.rt d _) => some d
  | some (.rl ds _) => some (.list ds)
  | some (.nx _) => some .none
  | _ => none) else none
def denM (n m : Nat) (g : FS) : List PyData → List PyData → Option (PyData × List PyData) := fun es ds => if ds.length = n then (match g (.pm es :: (ds.map .fz ++ uns m)) with
  | some (.rt d (.pm es' :: _)) => some (d, es')
  | some (.nx (.pm es' :: _)) => some (.none, es')
  | _ => none) else none
def denS (n m : Nat) (g : FS) : List Int → List PyData → Option PyData := fun ns ds => if ds.length = n then (match g (.sc ns :: (ds.map .fz ++ uns m)) with
  | some (.rt d _) => some d
  | some (.rl ds _) => some (.list ds)
  | some (.nx _) => some .none
  | _ => none) else none
def denSL (n m : Nat) (g : FS) : List Int → List PyData → Option (List PyData) := fun ns ds => if ds.length = n then (match g (.sc ns :: (ds.map .fz ++ uns m)) with
  | some (.rl ds _) => some ds
  | _ => none) else none
section
variable {K : PySem.W.Frag} {pa : Addr} {G G' H H' : Hp} {fp : Foot} {δ : Env} {σ : L2.St}
def noF : Foot := fun _ => []
theorem noF_owns {a : Addr} : ¬ Owns noF a := fun ⟨_, m⟩ => by cases m
theorem noF_eq : Owns noF = fun _ => False := funext fun a => propext ⟨noF_owns, False.elim⟩
theorem getD_left {l r : L2.St} {i : Nat} (h : i < l.length) : (l ++ r).getD i none = l.getD i none := by
  rw [List.getD_eq_getElem?_getD, List.getElem?_append_left h, List.getD_eq_getElem?_getD]
/-- the slots at a def's begin -/
theorem slot0 {ps : List V} {ss : Env} {ms : Nat} {m : Nat} (hss : ∀ (i : Nat) (s : Slot), ss[i]? = some s → SlotOk K pa G H (ps.map some |>.getD i none) (fp i) s) (hl : ps.length = ss.length) (hf : ∀ i, ss.length ≤ i → fp i = []) :
    ∀ (i : Nat) (s : Slot), (ss ++ uns m)[i]? = some s → SlotOk K pa G H ((ps.map some ++ List.replicate ms none).getD i none) (fp i) s := fun i s e => by
  by_cases q : i < ss.length
  · rw [List.getElem?_append_left q] at e
    rw [getD_left (by rw [List.length_map, hl]; exact q)]
    exact hss i s e
  · rw [List.getElem?_append_right (by omega)] at e
    unfold uns at e
    rw [List.getElem?_replicate] at e
    split at e
    · cases e; exact hf i (by omega)
    · cases e
theorem fz_slots {vs : List V} {ds : List PyData} (r : RpA K G vs ds) (i : Nat) (s : Slot) (e : (ds.map Slot.fz)[i]? = some s) : SlotOk K pa G H ((vs.map some).getD i none) [] s := by
  rw [List.getElem?_map] at e
  cases q : ds[i]? with
  | none => rw [q] at e; cases e
  | some d =>
    rw [q] at e
    cases e
    obtain ⟨v, ev, rv⟩ := r.get q
    refine ⟨rfl, v, ?_, rv⟩
    rw [List.getD_eq_getElem?_getD, List.getElem?_map, ev]; rfl
theorem no_als {ss : Env} {m : Nat} (h : ∀ s ∈ ss, ∀ j k, s ≠ .al j k) (i j k : Nat) (e : (ss ++ uns m)[i]? = some (.al j k)) : False := by
  rcases List.mem_append.mp (List.mem_of_getElem? e) with z | z
  · exact h _ z j k rfl
  · exact absurd (List.eq_of_mem_replicate z) (fun q => by cases q)
theorem relF {N : List Str} {vs : List V} {ds : List PyData} {m : Nat} (s : Sub G H) (z : siz G) (r : RpA K G vs ds) (hN : N.length = ds.length + m) : Rel K pa G noF (ds.map .fz ++ uns m) (start N vs) H := by
  have hl := r.len
  refine ⟨?_, s, slot0 (fun i s e => fz_slots r i s e) (by simpa using hl) (fun _ _ => rfl), fun i j k e => (no_als (fun s m => ?_) i j k e).elim, fun _ => .nil, fun _ _ _ m => (nomatch m), fun _ _ m => (nomatch m), fun _ _ m => (nomatch m), fun _ _ => rfl, z⟩
  · unfold L2.start uns; simp; omega
  · obtain ⟨d, _, rfl⟩ := List.mem_map.mp m
    exact fun _ _ z => by cases z
theorem relM {N : List Str} {a : Addr} {vs ws : List V} {ds es : List PyData} {m : Nat} (s : Sub G H) (z : siz G) (ga : G a = none) (ha : H a = some (.lst ws)) (hz : ws.length ≤ sizeLine) (re : RpA K G ws es) (r : RpA K G vs ds) (hN : N.length = ds.length + 1 + m) :
    Rel K a G (cut noF 0 [a]) (.pm es :: (ds.map .fz ++ uns m)) (start N (.ref a :: vs)) H := by
  have hl := r.len
  have hf : ∀ i b, b ∈ cut noF 0 [a] i → i = 0 ∧ b = a := fun i b m => by
    by_cases q : i = 0
    · subst q; rw [cut_same] at m; exact ⟨rfl, by simpa using m⟩
    · rw [cut_ne q] at m; cases m
  have sl : ∀ (i : Nat) (s : Slot), ((.pm es :: ds.map .fz) ++ uns m)[i]? = some s → SlotOk K a G H (((V.ref a :: vs).map some ++ List.replicate (N.length - (V.ref a :: vs).length) none).getD i none) (cut noF 0 [a] i) s := by
    refine slot0 (fun i s e => ?_) (by simpa using hl) (fun i h => ?_)
    · cases i with
      | zero =>
        cases e
        exact ⟨ws, cut_same, rfl, ha, re, hz⟩
      | succ i =>
        rw [cut_ne (Nat.succ_ne_zero i)]
        exact fz_slots r i s e
    · rw [cut_ne (by simp at h; omega)]; rfl
  refine ⟨?_, s, sl, fun i j k e => (no_als (ss := .pm es :: ds.map .fz) (m := m) (fun s m => ?_) i j k e).elim, fun i => ?_, fun i j b m m' => ?_, fun i b m => ?_, fun i b m => ?_, fun i h => ?_, z⟩
  · unfold L2.start uns; simp; omega
  · rcases List.mem_cons.mp m with q | q
    · rw [q]; exact fun _ _ z => by cases z
    · obtain ⟨d, _, rfl⟩ := List.mem_map.mp q
      exact fun _ _ z => by cases z
  · by_cases q : i = 0
    · subst q; rw [cut_same]; simp
    · rw [cut_ne q]; exact .nil
  · rw [(hf i b m).1, (hf j b m').1]
  · rw [(hf i b m).2]; exact ga
  · rw [(hf i b m).2]; exact ⟨_, ha⟩
  · rw [cut_ne (by simp at h; omega)]; rfl
theorem relS {N : List Str} {a : Addr} {vs : List V} {ds : List PyData} {ns : List Int} {m : Nat} (s : Sub G H) (z : siz G) (ha : SqL K G a (ns.map V.int)) (r : RpA K G vs ds) (hN : N.length = ds.length + 1 + m) :
    Rel K pa G noF (.sc ns :: (ds.map .fz ++ uns m)) (start N (.ref a :: vs)) H := by
  have hl := r.len
  have sl : ∀ (i : Nat) (s : Slot), ((.sc ns :: ds.map .fz) ++ uns m)[i]? = some s → SlotOk K pa G H (((V.ref a :: vs).map some ++ List.replicate (N.length - (V.ref a :: vs).length) none).getD i none) (noF i) s := by
    refine slot0 (fun i s e => ?_) (by simpa using hl) (fun i h => rfl)
    cases i with
    | zero => cases e; exact ⟨rfl, a, rfl, ha⟩
    | succ i => exact fz_slots r i s e
  refine ⟨?_, s, sl, fun i j k e => (no_als (ss := .sc ns :: ds.map .fz) (m := m) (fun s m => ?_) i j k e).elim, fun _ => .nil, fun _ _ _ m => (nomatch m), fun _ _ m => (nomatch m), fun _ _ m => (nomatch m), fun _ _ => rfl, z⟩
  · unfold L2.start uns; simp; omega
  · rcases List.mem_cons.mp m with q | q
    · rw [q]; exact fun _ _ z => by cases z
    · obtain ⟨d, _, rfl⟩ := List.mem_map.mp q
      exact fun _ _ z => by cases z
theorem Step.forget {O O' : Addr → Prop} (S : Step G O H G' O' H') : Step G O H G' O H' := ⟨S.fz, S.keep, S.old, fun _ q => .inl q, S.all⟩
end

section
variable {P : Program} {w : World} {K : PySem.W.Frag} {mg : Str → Option Value} {base : Heap} {x : Str} {pr : Arguments} {body : List Stmt} {sc : Scope} {dvs : List V} {kws : List (Str × V)} {f : Addr} {fd : FuncData} {N ps : List Str} {k n m : Nat} {g : FS}
theorem fn_F (F : FunD K x x pr body sc dvs kws f fd) (S : FnScope N ps sc) (hn : ps.length = n) (hm : N.length = n + m)
    (hb : ∀ (cd : Value) (A : Around) (out : List PySem.Env) (s : Shared) (H : Hp), (A.deeper (envOfC x sc s.heap.objs.size f cd)).guards = some [] → Room k (A.deeper (envOfC x sc s.heap.objs.size f cd)) → PSs (bodyX P w K mg base N x sc f cd A out s H) body (tS K g)) :
    FnG P w K mg base (k + 1) f fd ps (spF K n (denF n m g)) := by
  refine FnG.of F S (fun vs H Q E h => h.1.trans hn.symm) fun cd A out s H vs Q hg hr ⟨hl, G, ds, d, hs, hz, r, e, q⟩ => ⟨tS K g, hb cd A out s H hg hr, ?_⟩
  unfold denF at e
  split at e
  · rename_i el
    have R : Rel K 0 G noF (ds.map .fz ++ uns m) (start N vs) H := relF hs hz r (by rw [el]; exact hm)
    split at e
    · rename_i d' δ' eg
      cases e
      refine ⟨0, G, noF, _, _, R, eg, fun v G' fp' σ' H' S' R' rv => q v G' H' R'.sub R'.siz ?_ rv⟩
      rw [noF_eq] at S'
      exact S'.forget
    · rename_i ds' δ' eg
      cases e
      refine ⟨0, G, noF, _, _, R, eg, fun a vs G' fp' σ' H' S' R' ha rv hg hn hz => ?_⟩
      rw [noF_eq] at S'
      have no : ¬ Owns fp' a ∨ Owns fp' a := (Classical.em _).symm
      -- what is handed out is frozen
      have S2 := S'.forget.ice (p := a) (o := .lst vs) hg hn
      refine q (.ref a) (upd G' a (.lst vs)) H' (fun b o h => ?_) (siz_upd R'.siz hz) S2 (.lst upd_same (rv.mono (.new hg)))
      by_cases z : b = a
      · subst z; rw [upd_same] at h; rw [ha]; exact h
      · rw [upd_ne z] at h; exact R'.sub b o h
    · rename_i δ' eg
      cases e
      refine ⟨0, G, noF, _, _, R, eg, fun G' fp' σ' H' S' R' => q .non G' H' R'.sub R'.siz ?_ .non⟩
      rw [noF_eq] at S'
      exact S'.forget
    · cases e
  · cases e
theorem fn_S (F : FunD K x x pr body sc dvs kws f fd) (S : FnScope N ps sc) (hn : ps.length = n + 1) (hm : N.length = n + 1 + m)
    (hb : ∀ (cd : Value) (A : Around) (out : List PySem.Env) (s : Shared) (H : Hp), (A.deeper (envOfC x sc s.heap.objs.size f cd)).guards = some [] → Room k (A.deeper (envOfC x sc s.heap.objs.size f cd)) → PSs (bodyX P w K mg base N x sc f cd A out s H) body (tS K g)) :
    FnG P w K mg base (k + 1) f fd ps (spS K n (denS n m g)) := by
  refine FnG.of F S (fun vs H Q E h => h.1.trans hn.symm) fun cd A out s H vs Q hg hr ⟨hl, a, ns, G, ds, d, hs, hz, hv, ha, r, e, q⟩ => ⟨tS K g, hb cd A out s H hg hr, ?_⟩
  cases vs with
  | nil => cases hv
  | cons v vs =>
  cases hv
  unfold denS at e
  split at e
  · rename_i el
    have R : Rel K 0 G noF (.sc ns :: (ds.map .fz ++ uns m)) (start N (.ref a :: vs)) H := relS hs hz ha r (by rw [el]; exact hm)
    split at e
    · rename_i d' δ' eg
      cases e
      refine ⟨0, G, noF, _, _, R, eg, fun v G' fp' σ' H' S' R' rv => q v G' H' R'.sub R'.siz ?_ rv⟩
      rw [noF_eq] at S'
      exact S'.forget
    · rename_i ds' δ' eg
      cases e
      refine ⟨0, G, noF, _, _, R, eg, fun a vs G' fp' σ' H' S' R' ha rv hg hn hz => ?_⟩
      rw [noF_eq] at S'
      have S2 := S'.forget.ice (p := a) (o := .lst vs) hg hn
      refine q (.ref a) (upd G' a (.lst vs)) H' (fun b o h => ?_) (siz_upd R'.siz hz) S2 (.lst upd_same (rv.mono (.new hg)))
      by_cases z : b = a
      · subst z; rw [upd_same] at h; rw [ha]; exact h
      · rw [upd_ne z] at h; exact R'.sub b o h
    · rename_i δ' eg
      cases e
      refine ⟨0, G, noF, _, _, R, eg, fun G' fp' σ' H' S' R' => q .non G' H' R'.sub R'.siz ?_ .non⟩
      rw [noF_eq] at S'
      exact S'.forget
    · cases e
  · cases e
theorem fn_SL (F : FunD K x x pr body sc dvs kws f fd) (S : FnScope N ps sc) (hn : ps.length = n + 1) (hm : N.length = n + 1 + m)
    (hb : ∀ (cd : Value) (A : Around) (out : List PySem.Env) (s : Shared) (H : Hp), (A.deeper (envOfC x sc s.heap.objs.size f cd)).guards = some [] → Room k (A.deeper (envOfC x sc s.heap.objs.size f cd)) → PSs (bodyX P w K mg base N x sc f cd A out s H) body (tS K g)) :
    FnG P w K mg base (k + 1) f fd ps (spSL K n (denSL n m g)) := by
  refine FnG.of F S (fun vs H Q E h => h.1.trans hn.symm) fun cd A out s H vs Q hg hr ⟨hl, a, ns, G, ds, d, hs, hz, hv, ha, r, e, q⟩ => ⟨tS K g, hb cd A out s H hg hr, ?_⟩
  cases vs with
  | nil => cases hv
  | cons v vs =>
  cases hv
  unfold denSL at e
  split at e
  · rename_i el
    have R : Rel K 0 G noF (.sc ns :: (ds.map .fz ++ uns m)) (start N (.ref a :: vs)) H := relS hs hz ha r (by rw [el]; exact hm)
    split at e
    · rename_i d' δ' eg
      cases e
      refine ⟨0, G, noF, _, _, R, eg, fun a vs G' fp' σ' H' S' R' ha rv hg hn hz => ?_⟩
      rw [noF_eq] at S'
      exact q a vs G' H' R'.sub R'.siz S'.forget ha rv hg hn hz
    · cases e
  · cases e
theorem fn_M (F : FunD K x x pr body sc dvs kws f fd) (S : FnScope N ps sc) (hn : ps.length = n + 1) (hm : N.length = n + 1 + m)
    (hb : ∀ (cd : Value) (A : Around) (out : List PySem.Env) (s : Shared) (H : Hp), (A.deeper (envOfC x sc s.heap.objs.size f cd)).guards = some [] → Room k (A.deeper (envOfC x sc s.heap.objs.size f cd)) → PSs (bodyX P w K mg base N x sc f cd A out s H) body (tS K g)) :
    FnG P w K mg base (k + 1) f fd ps (spM K n (denM n m g)) := by
  refine FnG.of F S (fun vs H Q E h => h.1.trans hn.symm) fun cd A out s H vs Q hg hr ⟨hl, a, ws, G, es, ds, d, es', hs, hz, ga, hv, ha, hw, re, r, e, q⟩ => ⟨tS K g, hb cd A out s H hg hr, ?_⟩
  cases vs with
  | nil => cases hv
  | cons v vs =>
  cases hv
  have eO : Owns (cut noF 0 [a]) = fun b => b = a := funext fun b => propext ⟨fun ⟨i, m⟩ => (by
    by_cases z : i = 0
    · subst z; rw [cut_same] at m; simpa using m
    · rw [cut_ne z] at m; cases m), fun z => ⟨0, by rw [cut_same]; simp [z]⟩⟩
  unfold denM at e
  split at e
  · rename_i el
    have R := relM (N := N) (m := m) hs hz ga ha hw re r (by rw [el]; exact hm)
    have fin : ∀ {G' : Hp} {fp' : Foot} {σ' : L2.St} {H' : Hp} {δ' : Env}, Rel K a G' fp' (.pm es' :: δ') σ' H' → ∃ ws', G' a = none ∧ H' a = some (.lst ws') ∧ ws'.length ≤ sizeLine ∧ RpA K G' ws' es' := fun {G' fp' σ' H' δ'} R' => by
      obtain ⟨ws', f1, f2, f3, f4, f5⟩ := R'.slot 0 _ rfl
      exact ⟨ws', R'.free 0 a (by rw [f1]; simp), f3, f5, f4⟩
    split at e
    · rename_i d' es2 δ' eg
      cases e
      refine ⟨a, G, _, _, _, R, eg, fun v G' fp' σ' H' S' R' rv => ?_⟩
      rw [eO] at S'
      obtain ⟨ws', f1, f2, f3, f4⟩ := fin R'
      exact q v ws' G' H' R'.sub R'.siz S'.forget f1 f2 f3 f4 rv
    · rename_i es2 δ' eg
      cases e
      refine ⟨a, G, _, _, _, R, eg, fun G' fp' σ' H' S' R' => ?_⟩
      rw [eO] at S'
      obtain ⟨ws', f1, f2, f3, f4⟩ := fin R'
      exact q .non ws' G' H' R'.sub R'.siz S'.forget f1 f2 f3 f4 .non
    · cases e
  · cases e
end
end Fw

end
section
set_option Elab.async false
set_option linter.all false
set_option maxRecDepth 100000
/-! Calls of defs; the built-in calls on data. -/
namespace Fw
open PySem PySem.Spec PyProof.Rows L2

/-! ### a def of the module -/
structure Cg (P : Program) (w : World) (K : PySem.W.Frag) (mg : Str → Option Value) (base : Heap) (k : Nat) (x : Str) (sp : Sp) : Prop where
  ex : ∃ f fd ps, FnG P w K mg base k f fd ps sp ∧ mg x = some (.ref f) ∧ PySem.W.keepIn K (.ref f) = true ∧ Binds K fd ps []
theorem Cg.mono {P : Program} {w : World} {K : PySem.W.Frag} {mg : Str → Option Value} {base : Heap} {j k : Nat} {x : Str} {sp : Sp} (c : Cg P w K mg base j x sp) (h : j ≤ k) : Cg P w K mg base k x sp :=
  let ⟨f, fd, ps, F, a, b, d⟩ := c.ex
  ⟨f, fd, ps, F.mono h, a, b, d⟩
def tCg (sp : Sp) (t : TA) : TE := fun σ H Q => t σ H fun vs H1 => sp vs H1 Q E0
section
variable {X : Cx} {k : Nat} {x : Str} {sp : Sp} {p pos : Pos} {e : Expr} {es : List Expr} {t : TA}
theorem pe_cg (c : Cg X.prog X.w X.K X.mg X.base k x sp) (gd : X.A.guards = some []) (hr : Room k X.A) (hg : Gl X x) (ha : PA X (e :: es) t) (hdb : (x == ("__debug__" : Str)) = false := by decide)
    (st : starEach (e :: es) X.env = (false, eval e X.env) :: starEach es X.env := by rfl) (pl : (backTo pos (starEach es X.env)).any (·.1) = false := by rfl) :
    PE X (.Call (.Name x p) (e :: es) [] pos) (tCg sp t) := by
  obtain ⟨f, fd, ps, F, hm, hk, hb⟩ := c.ex
  constructor
  intro pins s σ H Q I h
  apply wpAny_Call_Name_kw
  apply ld_glob I hg hm _ hdb
  refine PySem.W.callWith_K (h₀ := X.base) I.ok.mod.kin hk (thn (ha.run pos pins s σ H _ I h) ?_) st pl
  rintro us s1 ⟨vs, H1, I1, r, q⟩
  have hl : (us ++ []).length = ps.length := by rw [List.append_nil, ← r.length]; exact F.len _ _ _ _ q
  have hbind := hb s1 us I1.kIn hl
  rw [List.append_nil] at hbind
  refine ⟨I1.kIn, wpAny_call (codeAny_mono (F.go (Q := Q) gd hr I1.env0 hbind r q) ?_)⟩
  intro res s' hq
  match res, hq with
  | .ok (.ret u), hq => exact I1.after hq
end

/-! .. by data -/
section
variable {X : Cx} {k n m i : Nat} {x : Str} {e : Expr} {fa : FA} {den : List PyData → Option PyData} {denM : List PyData → List PyData → Option (PyData × List PyData)} {denS : List Int → List PyData → Option PyData} {denSL : List Int → List PyData → Option (List PyData)}
theorem step_no {G H G' H' : Hp} {O : Addr → Prop} (S : Step G (fun _ => False) H G' (fun _ => False) H') : Step G O H G' O H' :=
  ⟨S.fz, fun a o h _ => S.keep a o h (fun z => z), fun a h _ => S.old a h (fun z => z), fun a h => .inl h, S.all⟩
/-- over a call that changes nothing of ours -/
theorem Rel.over_call {K : PySem.W.Frag} {pa : Addr} {G H G' H' : Hp} {fp : Foot} {δ : Env} {σ : L2.St} (R : Rel K pa G fp δ σ H) (s : Sub G' H') (z : Fw.siz G') (S : Step G (fun _ => False) H G' (fun _ => False) H') : Rel K pa G' fp δ σ H' := by
  refine R.move S.fz s (fun i a m => ?_) (fun i a m => ?_) z
  · obtain ⟨o, e⟩ := R.has i a m
    rw [e, S.keep a o e (fun z => z)]
  · obtain ⟨o, e⟩ := R.has i a m
    rw [S.old a (by rw [e]; simp) (fun z => z)]
    exact R.free i a m
theorem px_callF (hn : ∀ ds d, den ds = some d → ds.length = n) (h : PE X e (tCg (spF X.K n den) (tA X.K fa))) : PE X e (tF X.K (sCall den fa)) := h.weak fun σ H Q ⟨pa, G, fp, δ, d, δ', R, q, kk⟩ => by
  unfold sCall at q
  split at q
  · rename_i xs δ1 e1
    split at q
    · rename_i z e2
      cases q
      refine ⟨pa, G, fp, δ, xs, _, R, e1, fun vs G1 H1 S1 R1 p1 => ?_⟩
      refine ⟨p1.len.trans (hn _ _ e2), G1, xs, d, R1.sub, R1.siz, p1, e2, fun v G' H' s z S r => ?_⟩
      exact kk v G' H' (S1.trans (step_no S)) (R1.over_call s z S) r
    · cases q
  · cases q
def lstAt (δ : Env) (i : Nat) : Bool := (lstOf δ i).isSome
/-- a call that changes the list of slot i -/
def sCallM (i : Nat) (r : List PyData → List PyData → Option (PyData × List PyData)) (a : FA) : F := fun δ => match lstOf δ i with
  | none => none
  | some _ => (match a δ with
    | some (xs, δ1) => (match lstOf δ1 i with
      | some es => (match r es xs with
        | some (d, es') => some (d, Fw.setLst δ1 i es')
        | none => none)
      | none => none)
    | none => none)
theorem px_callM (hn : ∀ es ds d, denM es ds = some d → ds.length = n) (h : PE X e (tCg (spM X.K n denM) (tCons (tVar i) (tA X.K fa)))) : PE X e (tF X.K (sCallM i denM fa)) := h.weak fun σ H Q ⟨pa, G, fp, δ, d, δ', R, q, kk⟩ => by
  unfold sCallM at q
  split at q
  · cases q
  · rename_i es0 e0
    split at q
    · rename_i xs δ1 e1
      split at q
      · rename_i es e2
        split at q
        · rename_i d' es' e3
          cases q
          obtain ⟨a0, vs0, ea0, ha0, _⟩ := R.lst e0
          refine ⟨.ref a0, ea0, pa, G, fp, δ, xs, δ1, R, e1, fun vs G1 H1 S1 R1 p1 => ?_⟩
          obtain ⟨a, ws, ea, ha, r, ho, hz⟩ := R1.lst e2
          have : a = a0 := by rw [ea0] at ea; cases ea; rfl
          subst this
          obtain ⟨i0, m0⟩ := ho
          refine ⟨by show vs.length + 1 = n + 1; rw [p1.len, hn _ _ _ e3], a, ws, G1, es, xs, d, es', R1.sub, R1.siz, R1.free i0 a m0, rfl, ha, hz, r, p1, e3, fun v ws' G' H' s z S ga ha' hz' r' rv => ?_⟩
          -- what is not a keeps its place
          have ka : ∀ b o, H1 b = some o → b ≠ a → H' b = some o := fun b o h n => S.keep b o h n
          have oa : ∀ b, H1 b ≠ none → b ≠ a → G' b = G1 b := fun b h n => S.old b h n
          let H0 : Hp := upd H' a (.lst ws)
          have R2 : Rel X.K pa G' fp δ1 σ H0 := by
            refine R1.move S.fz (fun b o h => ?_) (fun j b m => ?_) (fun j b m => ?_) z
            · by_cases q : b = a
              · subst q; rw [ga] at h; cases h
              · show upd H' a _ b = _; rw [upd_ne q]; exact s b o h
            · show upd H' a _ b = _
              by_cases q : b = a
              · subst q; rw [upd_same, ha]
              · obtain ⟨o, eo⟩ := R1.has j b m
                rw [upd_ne q, eo]; exact ka b o eo q
            · by_cases q : b = a
              · subst q; exact ga
              · obtain ⟨o, eo⟩ := R1.has j b m
                rw [oa b (by rw [eo]; simp) q]; exact R1.free j b m
          have R3 := R2.setLst e2 ea r' hz'
          have eH : upd H0 a (.lst ws') = H' := funext fun b => by
            by_cases q : b = a
            · subst q; rw [upd_same, ha']
            · rw [upd_ne q]; exact upd_ne q
          rw [eH] at R3
          refine kk v G' H' (S1.trans ⟨S.fz, fun b o h n => ka b o h fun q => n (q ▸ ⟨i0, m0⟩), fun b h n => oa b h fun q => n (q ▸ ⟨i0, m0⟩), fun b m => .inl m, fun b h => S.all b h⟩) R3 rv
        · cases q
      · cases q
    · cases q
/-- a call on the script -/
def sCallS (i : Nat) (r : List Int → List PyData → Option PyData) (a : FA) : F := fun δ => match δ[i]? with
  | some (.sc ns) => (match a δ with
    | some (xs, δ1) => (match r ns xs with
      | some d => some (d, δ1)
      | none => none)
    | none => none)
  | _ => none
def sCallSL (i : Nat) (r : List Int → List PyData → Option (List PyData)) (a : FA) : FA := fun δ => match δ[i]? with
  | some (.sc ns) => (match a δ with
    | some (xs, δ1) => (match r ns xs with
      | some d => some (d, δ1)
      | none => none)
    | none => none)
  | _ => none
theorem px_callS (hn : ∀ es ds d, denS es ds = some d → ds.length = n) (h : PE X e (tCg (spS X.K n denS) (tCons (tVar i) (tA X.K fa)))) : PE X e (tF X.K (sCallS i denS fa)) := h.weak fun σ H Q ⟨pa, G, fp, δ, d, δ', R, q, kk⟩ => by
  unfold sCallS at q
  split at q
  · rename_i ns e0
    split at q
    · rename_i xs δ1 e1
      split at q
      · rename_i d' e3
        cases q
        obtain ⟨_, a, ea, ha⟩ := R.slot i _ e0
        refine ⟨.ref a, getD_some ea, pa, G, fp, δ, xs, _, R, e1, fun vs G1 H1 S1 R1 p1 => ?_⟩
        refine ⟨by show vs.length + 1 = n + 1; rw [p1.len, hn _ _ _ e3], a, ns, G1, xs, d, R1.sub, R1.siz, rfl, S1.fz.sqL ha, p1, e3, fun v G' H' s z S r => ?_⟩
        exact kk v G' H' (S1.trans (step_no S)) (R1.over_call s z S) r
      · cases q
    · cases q
  · cases q
theorem px_callSL (hn : ∀ es ds d, denSL es ds = some d → ds.length = n) (h : PE X e (tCg (spSL X.K n denSL) (tCons (tVar i) (tA X.K fa)))) : PE X e (tL X.K (sCallSL i denSL fa)) := h.weak fun σ H Q ⟨pa, G, fp, δ, d, δ', R, q, kk⟩ => by
  unfold sCallSL at q
  split at q
  · rename_i ns e0
    split at q
    · rename_i xs δ1 e1
      split at q
      · rename_i d' e3
        cases q
        obtain ⟨_, a, ea, ha⟩ := R.slot i _ e0
        refine ⟨.ref a, getD_some ea, pa, G, fp, δ, xs, _, R, e1, fun vs G1 H1 S1 R1 p1 => ?_⟩
        refine ⟨by show vs.length + 1 = n + 1; rw [p1.len, hn _ _ _ e3], a, ns, G1, xs, d, R1.sub, R1.siz, rfl, S1.fz.sqL ha, p1, e3, fun b ws G' H' s z S hb r hg hn' hz => ?_⟩
        refine kk b ws G' H' (S1.trans (step_no S)) (R1.over_call s z S) hb r hg ?_ hz
        exact S1.fresh (Owns.not R1 hn') hn'
      · cases q
    · cases q
  · cases q
end
theorem denF_len {n m : Nat} {g : FS} : ∀ ds d, denF n m g ds = some d → ds.length = n := fun ds d h => by
  unfold denF at h
  split at h
  · assumption
  · cases h
theorem denM_len {n m : Nat} {g : FS} : ∀ es ds d, denM n m g es ds = some d → ds.length = n := fun es ds d h => by
  unfold denM at h
  split at h
  · assumption
  · cases h
theorem denS_len {n m : Nat} {g : FS} : ∀ es ds d, denS n m g es ds = some d → ds.length = n := fun es ds d h => by
  unfold denS at h
  split at h
  · assumption
  · cases h
theorem denSL_len {n m : Nat} {g : FS} : ∀ es ds d, denSL n m g es ds = some d → ds.length = n := fun es ds d h => by
  unfold denSL at h
  split at h
  · assumption
  · cases h
end Fw

end
section
set_option Elab.async false
set_option linter.all false
set_option maxRecDepth 100000
/-! Built-in calls and slices on data. -/
namespace Fw
open PySem PySem.Spec PyProof.Rows L2

/-- a built-in name and what its call does to data -/
structure BiD (X : Cx) (x : Str) (r : List PyData → Option PyData) : Prop where
  ex : ∃ rr, CaD X.K rr r ∧ ((∃ id, bootBuiltins x = some (.builtin id) ∧ CallR X (.builtin id) rr) ∨ ∃ T, bootBuiltins x = some (.type T) ∧ CallR X (.type T) rr)
/-- .. that gives a new list -/
structure BiL (X : Cx) (x : Str) (r : List PyData → Option (List PyData)) : Prop where
  ex : ∃ rr, CaL X.K rr r ∧ ((∃ id, bootBuiltins x = some (.builtin id) ∧ CallR X (.builtin id) rr) ∨ ∃ T, bootBuiltins x = some (.type T) ∧ CallR X (.type T) rr)
section
variable {X : Cx} {x : Str} {r : List PyData → Option PyData} {rl : List PyData → Option (List PyData)} {fa : FA} {e : Expr} {es : List Expr} {p pos : Pos}
theorem px_bi (c : BiD X x r) (hg : Gl X x) (hm : X.mg x = none) (ha : PA X (e :: es) (tA X.K fa)) (hn : x ≠ "__name__" := by decide) (hdb : (x == ("__debug__" : Str)) = false := by decide)
    (he : starEach (e :: es) X.env = (false, eval e X.env) :: starEach es X.env := by rfl) (hpl : (backTo pos (starEach es X.env)).any (·.1) = false := by rfl) : PE X (.Call (.Name x p) (e :: es) [] pos) (tF X.K (sCall r fa)) := by
  obtain ⟨rr, h, ⟨id, hv, k⟩ | ⟨T, hv, k⟩⟩ := c.ex
  · exact px_cb (pe_callB k hg hm hv ha hn hdb he hpl) h
  · exact px_cb (pe_callTy k hg hm hv ha hn hdb he hpl) h
theorem px_biL (c : BiL X x rl) (hg : Gl X x) (hm : X.mg x = none) (ha : PA X (e :: es) (tA X.K fa)) (hn : x ≠ "__name__" := by decide) (hdb : (x == ("__debug__" : Str)) = false := by decide)
    (he : starEach (e :: es) X.env = (false, eval e X.env) :: starEach es X.env := by rfl) (hpl : (backTo pos (starEach es X.env)).any (·.1) = false := by rfl) : PE X (.Call (.Name x p) (e :: es) [] pos) (tL X.K (sCallL rl fa)) := by
  obtain ⟨rr, h, ⟨id, hv, k⟩ | ⟨T, hv, k⟩⟩ := c.ex
  · exact px_cl (pe_callB k hg hm hv ha hn hdb he hpl) h
  · exact px_cl (pe_callTy k hg hm hv ha hn hdb he hpl) h
end

/-! ### what they answer -/
def lenR : List PyData → Option PyData
  | [.list ds] => some (.int ds.length)
  | [.tuple ds] => some (.int ds.length)
  | _ => none
def allR : List PyData → Option PyData
  | [.list ds] => (match boolsD ds with
    | some bs => some (.bool (bs.all id))
    | none => none)
  | _ => none
def anyR : List PyData → Option PyData
  | [.list ds] => (match boolsD ds with
    | some bs => some (.bool (bs.any id))
    | none => none)
  | _ => none
def sumR : List PyData → Option PyData
  | [.list ds] => (match intsD ds with
    | some ns => some (.int ns.sum)
    | none => none)
  | [.tuple ds] => (match intsD ds with
    | some ns => some (.int ns.sum)
    | none => none)
  | _ => none
def absR : List PyData → Option PyData
  | [.int i] => some (.int (if i < 0 then -i else i))
  | _ => none
def intR : List PyData → Option PyData
  | [.int i] => some (.int i)
  | [.bool b] => some (.int (if b then 1 else 0))
  | _ => none
def leastOf : Int → List Int → Int
  | i, [] => i
  | i, j :: r => leastOf (if j < i then j else i) r
def mostOf : Int → List Int → Int
  | i, [] => i
  | i, j :: r => mostOf (if i < j then j else i) r
theorem leastOf_spec : ∀ (r : List Int) (i : Int), leastOf i r ∈ i :: r ∧ ∀ y ∈ i :: r, leastOf i r ≤ y
  | [], i => ⟨by simp [leastOf], by simp [leastOf]⟩
  | j :: r, i => by
    obtain ⟨h1, h2⟩ := leastOf_spec r (if j < i then j else i)
    refine ⟨?_, fun y hy => ?_⟩
    · show leastOf _ r ∈ _
      rcases List.mem_cons.mp h1 with q | q
      · rw [q]; split <;> simp
      · simp [q]
    · have a := h2 (if j < i then j else i) (by simp)
      have b : (if j < i then j else i) ≤ i ∧ (if j < i then j else i) ≤ j := by split <;> omega
      show leastOf _ r ≤ y
      rcases List.mem_cons.mp hy with q | q
      · rw [q]; omega
      · rcases List.mem_cons.mp q with q | q
        · rw [q]; omega
        · exact h2 y (by simp [q])
theorem mostOf_spec : ∀ (r : List Int) (i : Int), mostOf i r ∈ i :: r ∧ ∀ y ∈ i :: r, y ≤ mostOf i r
  | [], i => ⟨by simp [mostOf], by simp [mostOf]⟩
  | j :: r, i => by
    obtain ⟨h1, h2⟩ := mostOf_spec r (if i < j then j else i)
    refine ⟨?_, fun y hy => ?_⟩
    · show mostOf _ r ∈ _
      rcases List.mem_cons.mp h1 with q | q
      · rw [q]; split <;> simp
      · simp [q]
    · have a := h2 (if i < j then j else i) (by simp)
      have b : i ≤ (if i < j then j else i) ∧ j ≤ (if i < j then j else i) := by split <;> omega
      show y ≤ mostOf _ r
      rcases List.mem_cons.mp hy with q | q
      · rw [q]; omega
      · rcases List.mem_cons.mp q with q | q
        · rw [q]; omega
        · exact h2 y (by simp [q])
def minR : List PyData → Option PyData
  | [.int i, .int j] => some (.int (if j < i then j else i))
  | [.list ds] => (match intsD ds with
    | some (n :: ns) => some (.int (leastOf n ns))
    | _ => none)
  | _ => none
def maxR : List PyData → Option PyData
  | [.int i, .int j] => some (.int (if i < j then j else i))
  | [.list ds] => (match intsD ds with
    | some (n :: ns) => some (.int (mostOf n ns))
    | _ => none)
  | _ => none
def tupleR : List PyData → Option PyData
  | [.list ds] => some (.tuple ds)
  | [.tuple ds] => some (.tuple ds)
  | _ => none
def listR : List PyData → Option (List PyData)
  | [.list ds] => some ds
  | [.tuple ds] => some ds
  | _ => none
def isort (ns : List Int) : List Int := ns.mergeSort fun i j => decide (i ≤ j)
def lexLe (p q : Int × Int) : Bool := decide (p.1 < q.1) || (decide (p.1 = q.1) && decide (p.2 ≤ q.2))
def psort (ns : List (Int × Int)) : List (Int × Int) := ns.mergeSort lexLe
def sortedR : List PyData → Option (List PyData)
  | [.list ds] => (match intsD ds with
    | some ns => some ((isort ns).map .int)
    | none => (match pairsD ds with
      | some ps => some ((psort ps).map pD)
      | none => none))
  | _ => none

theorem perm_unique {α : Type} {R : α → α → Prop} (anti : ∀ a b, R a b → R b a → a = b) {l l' : List α} (p : l.Perm l') (s : l.Pairwise R) (s' : l'.Pairwise R) : l = l' := by
  induction l generalizing l' with
  | nil => exact (List.nil_perm.mp p).symm
  | cons a l ih =>
    cases l' with
    | nil => exact absurd (p.length_eq) (by simp)
    | cons b l' =>
      have hs := List.pairwise_cons.mp s
      have hs' := List.pairwise_cons.mp s'
      have e : a = b := by
        have m1 : a ∈ b :: l' := p.subset (by simp)
        have m2 : b ∈ a :: l := p.symm.subset (by simp)
        rcases List.mem_cons.mp m1 with q | q
        · exact q
        · rcases List.mem_cons.mp m2 with z | z
          · exact z.symm
          · exact anti a b (hs.1 b z) (hs'.1 a q)
      subst e
      rw [ih ((List.perm_cons a).mp p) hs.2 hs'.2]
theorem isort_perm (ns : List Int) : (isort ns).Perm ns := List.mergeSort_perm ..
theorem isort_sorted (ns : List Int) : (isort ns).Pairwise (· ≤ ·) := by
  have h := List.pairwise_mergeSort (le := fun i j : Int => decide (i ≤ j)) (fun a b c h1 h2 => by simp at *; omega) (fun a b => by simp; omega) ns
  exact h.imp fun h => by simpa using h
theorem isort_eq {ns ms : List Int} (p : ms.Perm ns) (s : ms.Pairwise (· ≤ ·)) : ms = isort ns :=
  perm_unique (fun a b h1 h2 => by omega) (p.trans (isort_perm ns).symm) s (isort_sorted ns)
def lexR (p q : Int × Int) : Prop := p.1 < q.1 ∨ (p.1 = q.1 ∧ p.2 ≤ q.2)
theorem lexLe_iff {p q : Int × Int} : lexLe p q = true ↔ lexR p q := by unfold lexLe lexR; simp
theorem psort_perm (ns : List (Int × Int)) : (psort ns).Perm ns := List.mergeSort_perm ..
theorem psort_sorted (ns : List (Int × Int)) : (psort ns).Pairwise lexR := by
  have h := List.pairwise_mergeSort (le := lexLe) (fun a b c h1 h2 => by rw [lexLe_iff] at *; unfold lexR at *; omega) (fun a b => by
    have : lexR a b ∨ lexR b a := by unfold lexR; omega
    rcases this with h | h
    · rw [lexLe_iff.mpr h]; rfl
    · rw [lexLe_iff.mpr h, Bool.or_true]) ns
  exact h.imp fun h => lexLe_iff.mp h
theorem psort_eq {ns ms : List (Int × Int)} (p : ms.Perm ns) (s : ms.Pairwise lexR) : ms = psort ns :=
  perm_unique (fun a b h1 h2 => Prod.ext (by unfold lexR at *; omega) (by unfold lexR at *; omega)) (p.trans (psort_perm ns).symm) s (psort_sorted ns)

/-! ### the rules by values meet them -/
section
variable {X : Cx}
theorem bi_len (hu : bootBuiltins "len" = some (.builtin "len") := by decide +kernel) : BiD X "len" lenR := by
  refine ⟨_, ?_, .inl ⟨_, hu, call_len_seq⟩⟩
  intro pa G fp δ σ H vs ds dz Q R r e k
  unfold lenR at e
  split at e
  · cases e
    cases r with
    | cons h t =>
    cases t
    cases h with
    | lst ha ra => exact ⟨_, _, rfl, .inl (.of (R.sub _ _ ha)), by rw [ra.len]; exact step0 R k (.int _)⟩
  · cases e
    cases r with
    | cons h t =>
    cases t
    cases h with
    | tup ha ra => exact ⟨_, _, rfl, .inr (.of (R.sub _ _ ha)), by rw [ra.len]; exact step0 R k (.int _)⟩
  · cases e
theorem bi_all (hc : X.calm = true) (hu : bootBuiltins "all" = some (.builtin "all") := by decide +kernel) : BiD X "all" allR := by
  refine ⟨_, ?_, .inl ⟨_, hu, cr_all hc⟩⟩
  intro pa G fp δ σ H vs ds dz Q R r e k
  unfold allR at e
  split at e
  · split at e
    · rename_i bs eb
      cases e
      cases r with
      | cons h t =>
      cases t
      cases h with
      | lst ha ra =>
        have := boolsD_eq eb
        subst this
        have := bools_vals ra
        subst this
        exact ⟨_, bs, rfl, .inl (.of (R.sub _ _ ha)), step0 R k (.bl _)⟩
    · cases e
  · cases e
theorem bi_any (hc : X.calm = true) (hu : bootBuiltins "any" = some (.builtin "any") := by decide +kernel) : BiD X "any" anyR := by
  refine ⟨_, ?_, .inl ⟨_, hu, cr_any hc⟩⟩
  intro pa G fp δ σ H vs ds dz Q R r e k
  unfold anyR at e
  split at e
  · split at e
    · rename_i bs eb
      cases e
      cases r with
      | cons h t =>
      cases t
      cases h with
      | lst ha ra =>
        have := boolsD_eq eb
        subst this
        have := bools_vals ra
        subst this
        exact ⟨_, bs, rfl, .inl (.of (R.sub _ _ ha)), step0 R k (.bl _)⟩
    · cases e
  · cases e
/-- sum(t), t a tuple of ints -/
def rSumT (K : PySem.W.Frag) : List V → Hp → VK → Prop := fun vs H Q => ∃ (a : Addr) (ns : List Int), vs = [V.ref a] ∧ SqT K H a (ns.map V.int) ∧ Q (.int ns.sum) H
theorem cr_sumT (hc : X.calm = true) : CallR X (.builtin "sum") (rSumT X.K) := by
  rintro pins s σ H vs us Q I r ⟨a, ns, rfl, hs, q⟩
  obtain ⟨its, rv, pl, hz⟩ := I.tuple hs
  rw [Vals.ref1 r]
  have hi := rv.ints
  obtain ⟨xs, ex⟩ := hi.allInts.items
  have hn : numsOf (intItems xs).toList = ns := (congrArg (fun z : Array Value => numsOf z.toList) ex.symm).trans hi.numsOf
  rw [nums_intItems] at hn
  rw [ex] at pl
  refine PySem.W.ktm_sumG (I.ok.hd hc) pl fun h' tk t' hk => ⟨.int _, H, I.kept hk, ⟨t', ?_⟩, q⟩
  rw [preSum_eq, List.take_of_length_le (by simp), hn]
theorem bi_sum (hc : X.calm = true) (hu : bootBuiltins "sum" = some (.builtin "sum") := by decide +kernel) : BiD X "sum" sumR := by
  refine ⟨_, ?_, .inl ⟨_, hu, (cr_sum hc).or (cr_sumT hc)⟩⟩
  intro pa G fp δ σ H vs ds dz Q R r e k
  unfold sumR at e
  split at e
  · split at e
    · rename_i bs eb
      cases e
      cases r with
      | cons h t =>
      cases t
      cases h with
      | lst ha ra =>
        have := intsD_eq eb
        subst this
        have := ra.ints
        subst this
        exact .inl ⟨_, bs, rfl, .inl (.of (R.sub _ _ ha)), step0 R k (.int _)⟩
    · cases e
  · split at e
    · rename_i bs eb
      cases e
      cases r with
      | cons h t =>
      cases t
      cases h with
      | tup ha ra =>
        have := intsD_eq eb
        subst this
        have := ra.ints
        subst this
        exact .inr ⟨_, bs, rfl, .inl (.of (R.sub _ _ ha)), step0 R k (.int _)⟩
    · cases e
  · cases e
theorem bi_abs (hu : bootBuiltins "abs" = some (.builtin "abs") := by decide +kernel) : BiD X "abs" absR := by
  refine ⟨_, ?_, .inl ⟨_, hu, call_abs⟩⟩
  intro pa G fp δ σ H vs ds dz Q R r e k
  unfold absR at e
  split at e
  · cases e
    cases r with
    | cons h t => cases t; cases h; exact ⟨_, rfl, step0 R k (.int _)⟩
  · cases e
theorem bi_int (hu : bootBuiltins "int" = some (.type "int") := by decide +kernel) : BiD X "int" intR := by
  refine ⟨_, ?_, .inr ⟨_, hu, call_int1⟩⟩
  intro pa G fp δ σ H vs ds dz Q R r e k
  unfold intR at e
  split at e
  · cases e
    cases r with
    | cons h t => cases t; cases h; exact .inl ⟨_, rfl, step0 R k (.int _)⟩
  · cases e
    cases r with
    | cons h t => cases t; cases h; exact .inr ⟨_, rfl, step0 R k (.int _)⟩
  · cases e
theorem bi_min (hc : X.calm = true) (hu : bootBuiltins "min" = some (.builtin "min") := by decide +kernel) : BiD X "min" minR := by
  refine ⟨_, ?_, .inl ⟨_, hu, (call_min2 hc).or (cr_min hc)⟩⟩
  intro pa G fp δ σ H vs ds dz Q R r e k
  unfold minR at e
  split at e
  · cases e
    cases r with
    | cons h t => cases h; cases t with
      | cons h t => cases h; cases t; exact .inl ⟨_, _, rfl, step0 R k (.int _)⟩
  · split at e
    · rename_i n ns eb
      cases e
      cases r with
      | cons h t =>
      cases t
      cases h with
      | lst ha ra =>
        have := intsD_eq eb
        subst this
        have := ra.ints
        subst this
        refine .inr ⟨_, n :: ns, rfl, .inl (.of (R.sub _ _ ha)), by simp, fun m hm hl => ?_⟩
        obtain ⟨h1, h2⟩ := leastOf_spec ns n
        have : m = leastOf n ns := Int.le_antisymm (hl _ h1) (h2 _ hm)
        rw [this]
        exact step0 R k (.int _)
    · cases e
  · cases e
theorem bi_max (hc : X.calm = true) (hu : bootBuiltins "max" = some (.builtin "max") := by decide +kernel) : BiD X "max" maxR := by
  refine ⟨_, ?_, .inl ⟨_, hu, (call_max2 hc).or (cr_max hc)⟩⟩
  intro pa G fp δ σ H vs ds dz Q R r e k
  unfold maxR at e
  split at e
  · cases e
    cases r with
    | cons h t => cases h; cases t with
      | cons h t => cases h; cases t; exact .inl ⟨_, _, rfl, step0 R k (.int _)⟩
  · split at e
    · rename_i n ns eb
      cases e
      cases r with
      | cons h t =>
      cases t
      cases h with
      | lst ha ra =>
        have := intsD_eq eb
        subst this
        have := ra.ints
        subst this
        refine .inr ⟨_, n :: ns, rfl, .inl (.of (R.sub _ _ ha)), by simp, fun m hm hl => ?_⟩
        obtain ⟨h1, h2⟩ := mostOf_spec ns n
        have : m = mostOf n ns := Int.le_antisymm (h2 _ hm) (hl _ h1)
        rw [this]
        exact step0 R k (.int _)
    · cases e
  · cases e
theorem Rel.lenL {K : PySem.W.Frag} {pa : Addr} {G H : Hp} {fp : Foot} {δ : Env} {σ : L2.St} (R : Rel K pa G fp δ σ H) {a : Addr} {xs : List V} (h : G a = some (.lst xs)) : xs.length ≤ sizeLine := R.siz _ _ h
theorem Rel.lenT {K : PySem.W.Frag} {pa : Addr} {G H : Hp} {fp : Foot} {δ : Env} {σ : L2.St} (R : Rel K pa G fp δ σ H) {a : Addr} {xs : List V} (h : G a = some (.tup xs)) : xs.length ≤ sizeLine := R.siz _ _ h
theorem bi_tuple (hu : bootBuiltins "tuple" = some (.type "tuple") := by decide +kernel) : BiD X "tuple" tupleR := by
  refine ⟨_, ?_, .inr ⟨_, hu, call_tuple_of⟩⟩
  intro pa G fp δ σ H vs ds dz Q R r e k
  unfold tupleR at e
  split at e
  · cases e
    cases r with
    | cons h t =>
    cases t
    cases h with
    | lst ha ra => exact ⟨_, _, rfl, .inl ⟨.inl (.of (R.sub _ _ ha)), fun p hp => stepT R k hp (R.lenL ha) ra⟩⟩
  · cases e
    cases r with
    | cons h t =>
    cases t
    cases h with
    | tup ha ra => exact ⟨_, _, rfl, .inr ⟨.inl (.of (R.sub _ _ ha)), step0 R k (.tup ha ra)⟩⟩
  · cases e
theorem bl_list (hu : bootBuiltins "list" = some (.type "list") := by decide +kernel) : BiL X "list" listR := by
  refine ⟨_, ?_, .inr ⟨_, hu, call_list_of⟩⟩
  intro pa G fp δ σ H vs ds dz Q R r e k
  have fin : ∀ {xs : List V} {l : Addr}, H l = none → RpA X.K G xs dz → xs.length ≤ sizeLine → Q (.ref l) (upd H l (.lst xs)) := fun {xs l} hl ra hz =>
    k l xs G _ (.lay hl) (R.lay hl) upd_same ra (R.sub.none hl) hl hz
  unfold listR at e
  split at e
  · cases e
    cases r with
    | cons h t =>
    cases t
    cases h with
    | lst ha ra => exact ⟨_, _, rfl, .inl (.inl (.of (R.sub _ _ ha))), fun l hl => fin hl ra (R.lenL ha)⟩
  · cases e
    cases r with
    | cons h t =>
    cases t
    cases h with
    | tup ha ra => exact ⟨_, _, rfl, .inr (.inl (.of (R.sub _ _ ha))), fun l hl => fin hl ra (R.lenT ha)⟩
  · cases e
theorem rpa_pair {K : PySem.W.Frag} {G : Hp} {x : V} {p : Int × Int} (h : Rp K G x (pD p)) : ∃ a, x = .ref a ∧ G a = some (.tup [.int p.1, .int p.2]) := by
  obtain ⟨i, j⟩ := p
  cases h with
  | tup e1 r1 =>
    cases r1 with
    | cons a b =>
      cases a
      cases b with
      | cons a b => cases a; cases b; exact ⟨_, rfl, e1⟩
theorem rpa_mem {K : PySem.W.Frag} {G : Hp} : ∀ {ps : List (Int × Int)} {vs : List V}, RpA K G vs (ps.map pD) → ∃ k : V → Int × Int, vs.map k = ps ∧ ∀ x ∈ vs, Rp K G x (pD (k x))
  | ps, vs, h => by
    have fn : ∀ {x : V} {p q : Int × Int}, Rp K G x (pD p) → Rp K G x (pD q) → p = q := by
      intro x p q h1 h2
      obtain ⟨a, e1⟩ := rpa_pair h1
      obtain ⟨b, e2⟩ := rpa_pair h2
      obtain ⟨rfl, e1⟩ := e1
      obtain ⟨e3, e2⟩ := e2
      cases e3
      rw [e1] at e2
      have := Option.some.inj e2
      injection this with this
      injection this with h1 h2
      injection h1 with h1
      injection h2 with h2
      injection h2 with h2
      exact Prod.ext h1 h2
    open Classical in
    refine ⟨fun x => if h : ∃ p, Rp K G x (pD p) then Classical.choose h else (0, 0), ?_, ?_⟩
    · induction ps generalizing vs with
      | nil => cases h; rfl
      | cons p ps ih =>
        cases h with
        | cons a b =>
          have hx : ∃ p, Rp K G _ (pD p) := ⟨p, a⟩
          rw [List.map_cons, ih _ b, dif_pos hx, fn (Classical.choose_spec hx) a]
    · intro x m
      have hx : ∃ p, Rp K G x (pD p) := by
        obtain ⟨i, hi, e⟩ := List.getElem_of_mem m
        obtain ⟨d, e1, r⟩ := h.getV (i := i) (by rw [List.getElem?_eq_getElem hi, e])
        rw [List.getElem?_map] at e1
        cases q : ps[i]? with
        | none => rw [q] at e1; cases e1
        | some p => rw [q] at e1; cases e1; exact ⟨p, r⟩
      simp only [dif_pos hx]
      exact Classical.choose_spec hx
theorem rpa_of_map {K : PySem.W.Frag} {G : Hp} {k : V → Int × Int} : ∀ {ys : List V}, (∀ y ∈ ys, Rp K G y (pD (k y))) → RpA K G ys ((ys.map k).map pD)
  | [], _ => .nil
  | y :: ys, h => .cons (h y (by simp)) (rpa_of_map fun z m => h z (by simp [m]))
theorem bl_sorted (hu : bootBuiltins "sorted" = some (.builtin "sorted") := by decide +kernel) : BiL X "sorted" sortedR := by
  refine ⟨_, ?_, .inl ⟨_, hu, cr_sortedI.or cr_sortedPO⟩⟩
  intro pa G fp δ σ H vs ds dz Q R r e k
  have fin : ∀ {xs : List V} {l : Addr}, H l = none → RpA X.K G xs dz → xs.length ≤ sizeLine → Q (.ref l) (upd H l (.lst xs)) := fun {xs l} hl ra hz =>
    k l xs G _ (.lay hl) (R.lay hl) upd_same ra (R.sub.none hl) hl hz
  unfold sortedR at e
  split at e
  · cases r with
    | cons h t =>
    cases t
    cases h with
    | @lst a xs ds ha ra =>
      have hz := R.lenL ha
      split at e
      · rename_i ns en
        cases e
        have := intsD_eq en
        subst this
        have := ra.ints
        subst this
        refine .inl ⟨a, ns, rfl, .inl (.of (R.sub _ _ ha)), fun ms p h1 h2 hp => ?_⟩
        have := isort_eq h1 h2
        subst this
        refine fin hp (RpA.of_ints _) ?_
        rw [List.length_map, (isort_perm ns).length_eq]
        rw [List.length_map] at hz
        exact hz
      · split at e
        · rename_i ps ep
          cases e
          have := pairsD_eq ep
          subst this
          obtain ⟨kf, hk1, hk2⟩ := rpa_mem ra
          refine .inr ⟨a, xs, kf, rfl, .inl (.of (R.sub _ _ ha)), fun x m => ?_, fun ys p h1 h2 hp => ?_⟩
          · have := hk2 x m
            cases this with
            | tup e1 r1 =>
              cases r1 with
              | cons a b => cases a; cases b with
                | cons a b => cases a; cases b; exact ⟨_, rfl, R.sub _ _ e1⟩
          · have pm := h2.perm
            have e1 : ys.map kf = psort ps := by
              refine psort_eq ?_ ?_
              · rw [← hk1]; exact pm.map kf
              · refine List.pairwise_map.mpr (h1.imp fun {x y} h => ?_)
                have := SrtO.lexB_no.mp h
                unfold lexR
                omega
            refine fin hp ?_ (by rw [pm.length_eq]; exact hz)
            rw [← e1]
            exact rpa_of_map fun y m => hk2 y (pm.mem_iff.mp m)
        · cases e
  · cases e

/-! ### isinstance -/
def subTy (t T : String) : Bool := t == T || (t == "bool" && T == "int")
def tyD : PyData → String
  | .none => "NoneType"
  | .bool _ => "bool"
  | .int _ => "int"
  | .str _ => "str"
  | .list _ => "list"
  | .tuple _ => "tuple"
  | .dict _ => "dict"
structure Isi (K : PySem.W.Frag) (T : String) : Prop where
  ok : ∀ t ∈ ["NoneType", "bool", "int", "str", "list", "tuple"], PySem.W.kitOne K (.type t) (.type T) = some (subTy t T)
def isiR (T : String) (d : PyData) : Option PyData := some (.bool (subTy (tyD d) T))
theorem px_isi {f : F} {T : String} {e : Expr} (K1 : Isi X.K T) (h : PE X e (tCB (rIsi X.K) (tCons (tF X.K f) (tCons (tC (.ty T)) tNil)))) : PE X e (tF X.K (s1 (isiR T) f)) := h.weak fun σ H Q ⟨pa, G, fp, δ, d, δ', R, q, k⟩ => by
  unfold s1 at q
  split at q
  · rename_i x δ1 e1
    cases q
    refine ⟨pa, G, fp, δ, x, _, R, e1, fun v G' H' S R' r => ⟨v, .ty T, .type (tyD x), .type T, subTy (tyD x) T, rfl, .ty T, ?_, ?_, k _ G' H' S R' (.bl _)⟩⟩
    · cases r with
      | non => exact .base .non
      | bl b => exact .base (.bl b)
      | int i => exact .base (.int i)
      | str y => exact .base (.str y)
      | lst ha _ => exact .base (.lst (R'.sub _ _ ha))
      | tup ha _ => exact .base (.tup (R'.sub _ _ ha))
    · exact K1.ok _ (by cases r <;> simp [tyD])
  · cases q

/-! ### slices -/
def tO (K : PySem.W.Frag) (f : Env → Option (Option Int × Env)) : L2.TO := fun σ H Q => ∃ pa G fp δ o δ', Rel K pa G fp δ σ H ∧ f δ = some (o, δ') ∧
  ∀ G' H', Step G (Owns fp) H G' (Owns fp) H' → Rel K pa G' fp δ' σ H' → Q o H'
def oN : Env → Option (Option Int × Env) := fun δ => some (none, δ)
def oS (f : F) : Env → Option (Option Int × Env) := fun δ => match f δ with
  | some (.int i, δ1) => some (some i, δ1)
  | _ => none
theorem _root_.L2.PO.weak {e : Option Expr} {t t' : L2.TO} (h : PO X e t) (w : ∀ σ H Q, t' σ H Q → t σ H Q) : PO X e t' := ⟨fun pins s σ H Q I q => h.run pins s σ H Q I (w σ H Q q)⟩
theorem px_oN : PO X none (tO X.K oN) := (po_none (X := X)).weak fun σ H Q ⟨pa, G, fp, δ, d, δ', R, q, k⟩ => by
  cases q
  exact k G H .refl R
theorem px_oS {e : Expr} {f : F} (h : PE X e (tF X.K f)) : PO X (some e) (tO X.K (oS f)) := (po_some h).weak fun σ H Q ⟨pa, G, fp, δ, d, δ', R, q, k⟩ => by
  unfold oS at q
  split at q
  · rename_i i δ1 e1
    cases q
    refine ⟨pa, G, fp, δ, _, _, R, e1, fun v G' H' S R' r => ?_⟩
    cases r
    exact ⟨i, rfl, k G' H' S R'⟩
  · cases q
def cutD {α : Type} (xs : List α) (lo hi : Option Int) : List α := (xs.drop (HT.sIx xs.length 0 lo)).take (HT.sIx xs.length xs.length hi - HT.sIx xs.length 0 lo)
theorem RpA.cut {K : PySem.W.Frag} {G : Hp} {ds : List PyData} {vs : List V} (r : RpA K G vs ds) (lo hi : Option Int) : RpA K G (cutV vs lo hi) (cutD ds lo hi) := by
  unfold cutV cutD
  rw [r.len]
  exact (r.drop _).take _
def sSl (f : F) (lo hi : Env → Option (Option Int × Env)) : F := fun δ => match f δ with
  | some (x, δ1) => (match lo δ1 with
    | some (l, δ2) => (match hi δ2 with
      | some (u, δ3) => (match x with
        | .list ds => some (.list (cutD ds l u), δ3)
        | .tuple ds => some (.tuple (cutD ds l u), δ3)
        | _ => none)
      | none => none)
    | none => none)
  | none => none
theorem px_sl {e : Expr} {lo hi : Option Expr} {f : F} {ol oh : Env → Option (Option Int × Env)} {p2 pos : Pos} (he : PE X e (tF X.K f)) (hl : PO X lo (tO X.K ol)) (hh : PO X hi (tO X.K oh)) : PE X (.Subscript e (.Slice lo hi none p2) pos) (tF X.K (sSl f ol oh)) :=
  (pe_slice (sl_list.or sl_tupA) he hl hh).weak fun σ H Q ⟨pa, G, fp, δ, d, δ', R, q, k⟩ => by
  unfold sSl at q
  split at q
  · rename_i x δ1 e1
    split at q
    · rename_i l δ2 e2
      split at q
      · rename_i u δ3 e3
        refine ⟨pa, G, fp, δ, x, δ1, R, e1, fun v G1 H1 S1 R1 r1 => ⟨pa, G1, fp, δ1, l, δ2, R1, e2, fun G2 H2 S2 R2 => ⟨pa, G2, fp, δ2, u, δ3, R2, e3, fun G3 H3 S3 R3 => ?_⟩⟩⟩
        have S13 := (S1.trans S2).trans S3
        have r3 := r1.mono (S2.fz.trans S3.fz)
        have k3 : ∀ v G' H', Step G3 (Owns fp) H3 G' (Owns fp) H' → Rel X.K pa G' fp δ3 σ H' → Rp X.K G' v d → Q v H' := fun v G' H' S R' r => by
          split at q
          · cases q; exact k v G' H' (S13.trans S) R' r
          · cases q; exact k v G' H' (S13.trans S) R' r
          · cases q
        split at q
        · cases q
          cases r3 with
          | @lst a xs ds ha ra => exact .inl ⟨a, xs, rfl, .inl (.of (R3.sub _ _ ha)), fun p hp => stepL R3 k3 hp (Nat.le_trans (cutV_length _ _ _) (R3.lenL ha)) (ra.cut l u)⟩
        · cases q
          cases r3 with
          | @tup a xs ds ha ra =>
            refine .inr ⟨a, xs, rfl, .inl (.of (R3.sub _ _ ha)), fun w => ?_, fun w p hp => stepT R3 k3 hp (Nat.le_trans (cutV_length _ _ _) (R3.lenT ha)) (ra.cut l u)⟩
            have e : cutV xs l u = xs := by
              unfold cutV
              rw [w.1, w.2]; simp
            refine step0 R3 k3 (.tup ha ?_)
            have := ra.cut l u
            rw [e] at this
            exact this
        · cases q
      · cases q
    · cases q
  · cases q
/-- a slice of the script -/
def sSlS (i : Nat) (lo hi : Env → Option (Option Int × Env)) : F := fun δ => match δ[i]? with
  | some (.sc ns) => (match lo δ with
    | some (l, δ2) => (match hi δ2 with
      | some (u, δ3) => if ((cutD ns l u).map PyData.int).length ≤ sizeLine then some (.list ((cutD ns l u).map .int), δ3) else none
      | none => none)
    | none => none)
  | _ => none
theorem cutV_map {ns : List Int} {l u : Option Int} : cutV (ns.map V.int) l u = (cutD ns l u).map V.int := by
  unfold cutV cutD
  rw [List.length_map, ← List.map_drop, ← List.map_take]
theorem px_slS {e : Expr} {lo hi : Option Expr} {i : Nat} {ol oh : Env → Option (Option Int × Env)} {p2 pos : Pos} (he : PE X e (tVar i)) (hl : PO X lo (tO X.K ol)) (hh : PO X hi (tO X.K oh)) :
    PE X (.Subscript e (.Slice lo hi none p2) pos) (tF X.K (sSlS i ol oh)) :=
  (pe_slice sl_list he hl hh).weak fun σ H Q ⟨pa, G, fp, δ, d, δ', R, q, k⟩ => by
  unfold sSlS at q
  split at q
  · rename_i ns e0
    split at q
    · rename_i l δ2 e2
      split at q
      · rename_i u δ3 e3
        split at q
        · rename_i hz
          cases q
          obtain ⟨_, a, ea, ha⟩ := R.slot i _ e0
          refine ⟨.ref a, getD_some ea, pa, G, fp, δ, l, δ2, R, e2, fun G2 H2 S2 R2 => ⟨pa, G2, fp, δ2, u, _, R2, e3, fun G3 H3 S3 R3 => ?_⟩⟩
          have hs := (R3.sub.sqL ((S2.fz.trans S3.fz).sqL ha))
          refine ⟨a, _, rfl, hs, fun p hp => ?_⟩
          rw [cutV_map]
          refine stepL R3 (fun v G' H' S R' r => k v G' H' ((S2.trans S3).trans S) R' r) hp ?_ (RpA.of_ints _)
          rw [List.length_map] at hz ⊢
          exact hz
        · cases q
      · cases q
    · cases q
  · cases q
/-- x[::-1] of a list of the def's own -/
def sRevO (i : Nat) : FA := fun δ => match lstOf δ i with
  | some ds => some (ds.reverse, δ)
  | none => none
theorem px_revO {e : Expr} {i : Nat} (h : PE X e (tRevL X.K (tVar i))) : PE X e (tL X.K (sRevO i)) := h.weak fun σ H Q ⟨pa, G, fp, δ, d, δ', R, q, k⟩ => by
  unfold sRevO at q
  split at q
  · rename_i ds e0
    cases q
    obtain ⟨a, vs, ea, ha, r, ho, hz⟩ := R.lst e0
    exact ⟨_, ea, a, vs, rfl, .inl (.of ha), fun p hp => k p _ G _ (.lay hp) (R.lay hp) upd_same r.rev (R.sub.none hp) hp (by rw [List.length_reverse]; exact hz)⟩
  · cases q
/-- .. of a list that is data -/
def sRevD (f : F) : FA := fun δ => match f δ with
  | some (.list ds, δ1) => some (ds.reverse, δ1)
  | _ => none
theorem px_revD {e : Expr} {f : F} (h : PE X e (tRevL X.K (tF X.K f))) : PE X e (tL X.K (sRevD f)) := h.weak fun σ H Q ⟨pa, G, fp, δ, d, δ', R, q, k⟩ => by
  unfold sRevD at q
  split at q
  · rename_i ds δ1 e0
    cases q
    refine ⟨pa, G, fp, δ, _, _, R, e0, fun v G1 H1 S1 R1 r1 => ?_⟩
    cases r1 with
    | lst ha ra =>
      refine ⟨_, _, rfl, .inl (.of (R1.sub _ _ ha)), fun p hp => k p _ G1 _ (S1.trans (.lay hp)) (R1.lay hp) upd_same ra.rev (R1.sub.none hp) (S1.fresh (Owns.not R1 hp) hp) (by rw [List.length_reverse]; exact R1.lenL ha)⟩
  · cases q
end
end Fw

end
section
set_option Elab.async false
set_option linter.all false
set_option maxRecDepth 100000
/-! zip and enumerate of lists and tuples alike. -/
namespace Fw
open PySem PySem.Spec PyProof.Rows L2

/-! ### a list (true) or a tuple (false) -/
def SqK (b : Bool) (K : PySem.W.Frag) (H : Hp) (a : Addr) (xs : List V) : Prop := match b with
  | true => SqL K H a xs
  | false => SqT K H a xs
def IsK (b : Bool) (h : Heap) (a : Addr) (its : Array Value) : Prop := match b with
  | true => h.IsList a its
  | false => h.IsTuple a its
def ItAt (b : Bool) (h : Heap) (it a : Addr) (i : Nat) : Prop := match b with
  | true => h.IsListIter it a i
  | false => h.IsTupleIter it a i
def itO (b : Bool) (a : Addr) : Obj := match b with
  | true => { cls := .type "list_iterator", data := .fields #[.ref a, .int 0 0] }
  | false => { cls := .type "tuple_iterator", data := .fields #[.ref a, .int 0 0] }
theorem sqk_get {X : Cx} {pins : List (Addr × Obj)} {σ : L2.St} {H : Hp} {s : Shared} (I : Inv X pins σ H s) : ∀ {b : Bool} {a : Addr} {xs : List V}, SqK b X.K H a xs → ∃ its : List Value, Vals xs its ∧ IsK b s.heap a its.toArray ∧ xs.length ≤ sizeLine
  | true, _, _, h => let ⟨its, r, p, z⟩ := I.list h; ⟨its, r, p.isList, z⟩
  | false, _, _, h => let ⟨its, r, p, z⟩ := I.tuple h; ⟨its, r, p, z⟩
theorem sqk_inj {X : Cx} {pins : List (Addr × Obj)} {σ : L2.St} {H : Hp} {s : Shared} (I : Inv X pins σ H s) : ∀ {b : Bool} {a : Addr} {xs ys : List V}, SqK b X.K H a xs → SqK b X.K H a ys → xs = ys
  | true, _, _, _, h, h' => I.list_inj h h'
  | false, _, _, _, h, h' => I.tuple_inj h h'
theorem isk_lt {h : Heap} {a : Addr} {its : Array Value} : ∀ {b : Bool}, IsK b h a its → a < h.objs.size
  | true, q => by obtain ⟨o, e, _⟩ := id q; exact Heap.lt_size e
  | false, q => by obtain ⟨o, e, _⟩ := id q; exact Heap.lt_size e
theorem itat_obj {h : Heap} {it a : Addr} {i : Nat} : ∀ {b : Bool}, ItAt b h it a i → ∃ o, h.get? it = some o ∧ ∀ v, o.data ≠ .cell v
  | true, ⟨o, e, _, d⟩ => ⟨o, e, fun v q => by rw [d] at q; cases q⟩
  | false, ⟨o, e, _, d⟩ => ⟨o, e, fun v q => by rw [d] at q; cases q⟩
theorem itat_at {h h' : Heap} {it a : Addr} {i : Nat} (k : ∀ o, h.get? it = some o → h'.get? it = some o) : ∀ {b : Bool}, ItAt b h it a i → ItAt b h' it a i
  | true, q => Heap.IsListIter.at q k
  | false, q => Heap.IsTupleIter.at q k
theorem itat_0 {h : Heap} {it a : Addr} : ∀ {b : Bool}, h.get? it = some (itO b a) → ItAt b h it a 0
  | true, e => ⟨_, e, rfl, rfl⟩
  | false, e => ⟨_, e, rfl, rfl⟩
theorem sqk_draws {prog : Program} {w : World} {A : Around} (hh : A.handled = none) (it a : Addr) (hne : a ≠ it) (its : Array Value) : ∀ b : Bool, Draws prog w A it [it, a] its.size (fun i v => its[i]? = some v) (fun i h => ItAt b h it a i ∧ IsK b h a its)
  | true => Draws.list hh it a hne its
  | false => Draws.tuple hh it a hne its
theorem sqk_begins (a : Addr) (its : Array Value) : ∀ b : Bool, Begins (.ref a) (itO b a) fun h => IsK b h a its
  | true => begins_list a its
  | false => begins_tuple a its

/-! ### zip -/
structure Apart (z TI TO i1 i2 a b : Addr) : Prop where
  sep : ZipSep2 z TI TO i1 i2 [i1, a] [i2, b]
  a1 : a ≠ i1
  b2 : b ≠ i2
  n12 : i1 ≠ i2
def Izm (K : PySem.W.Frag) (p q : Bool) (a b : Addr) : It :=
  ⟨fun i H => ∃ (xs ys : List V) (x y : V), SqK p K H a xs ∧ SqK q K H b ys ∧ xs[i]? = some x ∧ ys[i]? = some y,
    fun i H v H' => ∃ T x y, v = .ref T ∧ H T = none ∧ H' = upd H T (.tup [x, y]) ∧ (∀ xs, SqK p K H a xs → xs[i]? = some x) ∧ ∀ ys, SqK q K H b ys → ys[i]? = some y,
    fun i H => ∃ xs ys : List V, SqK p K H a xs ∧ SqK q K H b ys ∧ i ≤ xs.length ∧ i ≤ ys.length ∧ (i = xs.length ∨ i = ys.length)⟩
theorem turn_zm {P : Program} {w : World} {K : PySem.W.Frag} {elts : List Expr} {kk : Nat} {tpos : Pos} {p q : Bool} {a b z TI TO i1 i2 : Addr} (D : Apart z TI TO i1 i2 a b) :
    Turn P w K (.Tuple elts kk tpos) (Izm K p q a b) [z, TI, TO, i1, i2] z (fun i h => IsZip h z TI TO .none ∧ IsTupOf2 h TI (.ref i1) (.ref i2) ∧ (∃ x y, IsTupOf2 h TO x y) ∧ ItAt p h i1 a i ∧ ItAt q h i2 b i) := by
  have cases5 : ∀ {c : Addr}, c ∈ [z, TI, TO, i1, i2] → c = z ∨ c = TI ∨ c = TO ∨ c = i1 ∨ c = i2 := fun h => by simpa using h
  constructor
  · simp
  · rintro i h ⟨hz, hTI, ⟨x, y, hTO⟩, h1, h2⟩ c hc
    rcases cases5 hc with rfl | rfl | rfl | rfl | rfl
    · exact ⟨_, hz, fun v q => nomatch q⟩
    · exact ⟨_, hTI, fun v q => nomatch q⟩
    · exact ⟨_, hTO, fun v q => nomatch q⟩
    · exact itat_obj h1
    · exact itat_obj h2
  · rintro i h h' ⟨hz, hTI, ⟨x, y, hTO⟩, h1, h2⟩ k
    exact ⟨k z (by simp) _ hz, k TI (by simp) _ hTI, ⟨x, y, k TO (by simp) _ hTO⟩, itat_at (k i1 (by simp)) h1, itat_at (k i2 (by simp)) h2⟩
  · intro X hP hw hK hc i pins s σ H E I hf st hg
    subst hP hw hK
    obtain ⟨hz, hTI, ⟨x0, y0, hTO⟩, h1, h2⟩ := st
    obtain ⟨xs, ys, x, y, hqx, hqy, hx, hy⟩ := hg
    obtain ⟨its, rv, g1, _⟩ := sqk_get I hqx
    obtain ⟨its2, rv2, g2, _⟩ := sqk_get I hqy
    obtain ⟨u, hu, ru⟩ := rv.get hx
    obtain ⟨u2, hu2, ru2⟩ := rv2.get hy
    have zl : z < s.heap.objs.size := Heap.lt_size hz
    have hh : X.A.in1.handled = none := I.ok.hd hc
    have l1 : i < its.toArray.size := by
      rw [List.size_toArray]; exact (List.getElem?_eq_some_iff.mp hu).1
    have l2 : i < its2.toArray.size := by
      rw [List.size_toArray]; exact (List.getElem?_eq_some_iff.mp hu2).1
    refine wpAny_pyNext_zipD2_item D.sep (sqk_draws hh i1 a D.a1 its.toArray p) (sqk_draws hh i2 b D.b2 its2.toArray q) hz hTI hTO ⟨h1, g1⟩ ⟨h2, g2⟩ l1 l2 fun x1 x2 h' tk e1 e2 z' TO' st1 st2 hT hsz hk => ?_
    have : x1 = u := by
      have e1' : its[i]? = some x1 := by simpa using e1
      exact Option.some.inj (e1'.symm.trans hu)
    subst this
    have : x2 = u2 := by
      have e2' : its2[i]? = some x2 := by simpa using e2
      exact Option.some.inj (e2'.symm.trans hu2)
    subst this
    refine ⟨_, rfl, wpAny_letOwnedTupleGo_zip (s := { s with heap := h', toks := tk }) z' fun h'' z'' sb => ?_⟩
    have hT2 : h''.get? s.heap.objs.size = some { cls := .type "tuple", data := .seq #[x1, x2] } := (sb.2 _ (Nat.ne_of_gt zl)).trans hT
    have back : ∀ c, c ∉ [z, TI, TO, i1, i2] → c ≠ z ∧ c ≠ TI ∧ c ≠ TO ∧ c ≠ i1 ∧ c ≠ i2 := fun c hc => by simpa using hc
    have new : ObjOk X.prog X.w (upd H s.heap.objs.size (.tup [x, y])) h'' s.heap.objs.size (.tup [x, y]) := ⟨by show 2 ≤ sizeLine; decide, [x1, x2], .cons ru (.cons ru2 .nil), ⟨_, hT2, rfl, _, rfl⟩⟩
    have I1 : Inv X pins σ (upd H s.heap.objs.size (.tup [x, y])) { s with heap := h'', toks := tk } :=
      I.turnedNew (ch := [z, TI, TO, i1, i2]) (fun c o hb e => by
        obtain ⟨n1, _, n3, n4, n5⟩ := back c hb
        exact (sb.2 c n1).trans (hk c o n1 n3 n4 n5 e)) hf (Nat.le_refl _) new
    refine ⟨.ref s.heap.objs.size, _, I1, rfl, ⟨_, x, y, rfl, I.hok.fresh (Nat.le_refl _), rfl, fun l hl => ?_, fun l hl => ?_⟩, ⟨z'', ?_, ⟨x1, x2, ?_⟩, ?_, ?_⟩, fun c hcm => ?_⟩
    · rw [sqk_inj I hl hqx]; exact hx
    · rw [sqk_inj I hl hqy]; exact hy
    · exact (sb.2 _ D.sep.TIz).trans (hk _ _ D.sep.TIz D.sep.TITO D.sep.TIi1 D.sep.TIi2 hTI)
    · exact (sb.2 _ D.sep.TOz).trans TO'
    · exact itat_at (fun o e => (sb.2 _ D.sep.zi1.symm).trans e) st1.1
    · exact itat_at (fun o e => (sb.2 _ D.sep.zi2.symm).trans e) st2.1
    · have lt : c < s.heap.objs.size := by
        rcases cases5 hcm with rfl | rfl | rfl | rfl | rfl
        · exact zl
        · exact Heap.lt_size hTI
        · exact Heap.lt_size hTO
        · obtain ⟨_, e1, _⟩ := itat_obj h1; exact Heap.lt_size e1
        · obtain ⟨_, e2, _⟩ := itat_obj h2; exact Heap.lt_size e2
      rw [upd_ne (Nat.ne_of_lt lt)]
      exact (hf c hcm).1
  · intro X hP hw hK hc i pins s σ H E I hf st hg
    subst hP hw hK
    obtain ⟨hz, hTI, ⟨x0, y0, hTO⟩, h1, h2⟩ := st
    obtain ⟨xs, ys, hqx, hqy, le1, le2, hend⟩ := hg
    obtain ⟨its, rv, g1, _⟩ := sqk_get I hqx
    obtain ⟨its2, rv2, g2, _⟩ := sqk_get I hqy
    have l1 := rv.length
    have l2 := rv2.length
    have hh : X.A.in1.handled = none := I.ok.hd hc
    refine wpAny_pyNext_zipD2_end D.sep (sqk_draws hh i1 a D.a1 its.toArray p) (sqk_draws hh i2 b D.b2 its2.toArray q) hz hTI hTO ⟨h1, g1⟩ ⟨h2, g2⟩ (by rw [List.size_toArray]; omega) (by rw [List.size_toArray]; omega) (by rw [List.size_toArray, List.size_toArray]; omega) fun h' tk hk => ⟨rfl, ?_⟩
    refine I.turnedL (ch := [z, TI, TO, i1, i2]) (fun c o hb e => ?_) hf
    have n : c ≠ z ∧ c ≠ TI ∧ c ≠ TO ∧ c ≠ i1 ∧ c ≠ i2 := by simpa using hb
    exact hk c o n.1 n.2.2.1 n.2.2.2.1 n.2.2.2.2 e
  · exact fun A i s Q E st h => wpAny_pyIter_zip st.1 h
theorem apart_of (n a b : Nat) (ha : a < n) (hb : b < n) : Apart (n + 4) (n + 2) (n + 3) n (n + 1) a b := by
  have mem2 : ∀ c x y : Nat, c ≠ x → c ≠ y → c ∉ [x, y] := fun c x y h1 h2 => by simp [h1, h2]
  have ne : ∀ x y : Nat, x < y ∨ y < x → x ≠ y := fun x y h => by omega
  exact ⟨⟨ne _ _ (by omega), ne _ _ (by omega), ne _ _ (by omega), ne _ _ (by omega), by simp, mem2 _ _ _ (ne _ _ (by omega)) (ne _ _ (by omega)), mem2 _ _ _ (ne _ _ (by omega)) (ne _ _ (by omega)), ne _ _ (by omega), by simp, mem2 _ _ _ (ne _ _ (by omega)) (ne _ _ (by omega)), mem2 _ _ _ (ne _ _ (by omega)) (ne _ _ (by omega)), mem2 _ _ _ (ne _ _ (by omega)) (ne _ _ (by omega)), mem2 _ _ _ (ne _ _ (by omega)) (ne _ _ (by omega))⟩, ne _ _ (by omega), ne _ _ (by omega), ne _ _ (by omega)⟩
theorem le_of5 (n c : Nat) (h : c ∈ [n + 4, n + 2, n + 3, n, n + 1]) : n ≤ c := by
  have : c = n + 4 ∨ c = n + 2 ∨ c = n + 3 ∨ c = n ∨ c = n + 1 := by simpa using h
  omega
theorem le_of2 (n c : Nat) (h : c ∈ [n + 1, n]) : n ≤ c := by
  have : c = n + 1 ∨ c = n := by simpa using h
  omega
theorem enum_apart (n a : Nat) (h : a < n) : n + 1 ≠ a ∧ n + 1 ≠ n ∧ a ≠ n := by omega
def iZm (K : PySem.W.Frag) (ta : TA) : TI := fun σ H R => ta σ H fun vs H1 => ∃ p q a b xs ys, vs = [.ref a, .ref b] ∧ SqK p K H1 a xs ∧ SqK q K H1 b ys ∧ R (Izm K p q a b) H1
theorem pi_zm {X : Cx} {e e2 : Expr} {ta : TA} {p pos tpos : Pos} {elts : List Expr} {kk : Nat} (hg : Gl X "zip") (hm : X.mg "zip" = none) (ha : PA X [e, e2] ta)
    (st : starEach [e, e2] X.env = (false, eval e X.env) :: starEach [e2] X.env := by rfl) (pl : (backTo pos (starEach [e2] X.env)).any (·.1) = false := by rfl) :
    PI X (.Tuple elts kk tpos) (.Call (.Name "zip" p) [e, e2] [] pos) (iZm X.K ta) := by
  constructor
  intro pins s σ H R I h
  refine Call_ (ld_blt I hg hm boot_zip (callWith_type1 (thn (ha.run pos pins s σ H _ I h) ?_) st pl))
  rintro us s1 ⟨vs, H1, I1, r1, k1, k2, a, b, xs, ys, rfl, hqx, hqy, q⟩
  match us, r1 with
  | [_, _], .cons r (.cons r' .nil) =>
    cases r
    cases r'
    obtain ⟨its, rv, g1, _⟩ := sqk_get I1 hqx
    obtain ⟨its2, rv2, g2, _⟩ := sqk_get I1 hqy
    refine zip_begins2 (sqk_begins a its.toArray k1) (sqk_begins b its2.toArray k2) g1 g2 fun h' hz hTI hTO h1 h2 hsz hk => wpAny_pyIter_zip hz ?_
    have I2 : Inv X pins σ H1 { s1 with heap := h' } := I1.kept (t' := s1.toks) hk
    have la := isk_lt g1
    have lb := isk_lt g2
    have D := apart_of s1.heap.objs.size a b la lb
    refine ⟨s1.heap.objs.size + 4, [s1.heap.objs.size + 4, s1.heap.objs.size + 2, s1.heap.objs.size + 3, s1.heap.objs.size, s1.heap.objs.size + 1], _, _, H1, rfl, I2, turn_zm (p := k1) (q := k2) D, ⟨hz, hTI, ⟨_, _, hTO⟩, itat_0 h1, itat_0 h2⟩, fun c hcm => ?_, q⟩
    have le := le_of5 s1.heap.objs.size c hcm
    exact I1.fpOk le (I1.hok.fresh le)

/-! ### enumerate -/
def Iem (K : PySem.W.Frag) (p : Bool) (a : Addr) (c : Int) : It :=
  ⟨fun i H => ∃ (xs : List V) (x : V), SqK p K H a xs ∧ xs[i]? = some x,
    fun i H v H' => ∃ T x, v = .ref T ∧ H T = none ∧ H' = upd H T (.tup [.int (c + (i : Nat)), x]) ∧ ∀ xs, SqK p K H a xs → xs[i]? = some x,
    fun i H => ∃ xs : List V, SqK p K H a xs ∧ i = xs.length⟩
theorem turn_em {P : Program} {w : World} {K : PySem.W.Frag} {elts : List Expr} {kk : Nat} {tpos : Pos} {p : Bool} {c : Int} {a e it : Addr} (ea : e ≠ a) (ei : e ≠ it) (ai : a ≠ it) :
    Turn P w K (.Tuple elts kk tpos) (Iem K p a c) [e, it] e (fun i h => (∃ old, IsEnum h e it (c + (i : Nat)) old) ∧ ItAt p h it a i) := by
  have cases2 : ∀ {b : Addr}, b ∈ [e, it] → b = e ∨ b = it := fun h => by simpa using h
  have nin : e ∉ [it, a] := by simp [ei, ea]
  constructor
  · simp
  · rintro i h ⟨⟨old, he⟩, hi⟩ b hb
    rcases cases2 hb with rfl | rfl
    · exact ⟨_, he, fun v q => nomatch q⟩
    · exact itat_obj hi
  · rintro i h h' ⟨⟨old, he⟩, hi⟩ k
    exact ⟨⟨old, k e (by simp) _ he⟩, itat_at (k it (by simp)) hi⟩
  · intro X hP hw hK hc i pins s σ H E I hf st hg
    subst hP hw hK
    obtain ⟨⟨old, he⟩, hi⟩ := st
    obtain ⟨xs, x, hq, hx⟩ := hg
    obtain ⟨its, rv, g1, _⟩ := sqk_get I hq
    obtain ⟨u, hu, ru⟩ := rv.get hx
    have hh : X.A.in1.handled = none := I.ok.hd hc
    have el : e < s.heap.objs.size := Heap.lt_size he
    have il : it < s.heap.objs.size := by obtain ⟨_, q, _⟩ := itat_obj hi; exact Heap.lt_size q
    have l1 : i < its.toArray.size := by
      rw [List.size_toArray]; exact (List.getElem?_eq_some_iff.mp hu).1
    refine wpAny_pyNext_enum_itemC (sqk_draws hh it a ai its.toArray p) he ⟨hi, g1⟩ l1 ei nin fun x1 h' tk e1 ho st1 hT hsz hk => ?_
    have : x1 = u := by
      have e1' : its[i]? = some x1 := by simpa using e1
      exact Option.some.inj (e1'.symm.trans hu)
    subst this
    refine ⟨_, rfl, wpAny_letOwnedTupleGo_enum (s := { s with heap := h', toks := tk + 1 }) ho fun h'' he' sb => ?_⟩
    have hT2 : h''.get? s.heap.objs.size = some { cls := .type "tuple", data := .seq #[.int (c + (i : Nat)) tk, x1] } := (sb.2 _ (Nat.ne_of_gt el)).trans hT
    have new : ObjOk X.prog X.w (upd H s.heap.objs.size (.tup [.int (c + (i : Nat)), x])) h'' s.heap.objs.size (.tup [.int (c + (i : Nat)), x]) :=
      ⟨by show 2 ≤ sizeLine; decide, [.int (c + (i : Nat)) tk, x1], .cons ⟨_, rfl⟩ (.cons ru .nil), ⟨_, hT2, rfl, _, rfl⟩⟩
    have I1 : Inv X pins σ (upd H s.heap.objs.size (.tup [.int (c + (i : Nat)), x])) { s with heap := h'', toks := tk + 1 } :=
      I.turnedNew (ch := [e, it]) (fun b ob hb q => by
        have n : b ≠ e ∧ b ≠ it := by simpa using hb
        exact (sb.2 b n.1).trans (hk b ob n.1 n.2 q)) hf (Nat.le_refl _) new
    refine ⟨.ref s.heap.objs.size, _, I1, rfl, ⟨_, x, rfl, I.hok.fresh (Nat.le_refl _), rfl, fun ys hy => by rw [sqk_inj I hy hq]; exact hx⟩, ⟨⟨x1, ?_⟩, itat_at (fun o q => (sb.2 it ei.symm).trans q) st1.1⟩, fun b hb => ?_⟩
    · have e1 : c + ((i + 1 : Nat) : Int) = c + (i : Int) + 1 := by omega
      rw [e1]; exact he'
    · have lt : b < s.heap.objs.size := by
        rcases cases2 hb with rfl | rfl
        · exact el
        · exact il
      rw [upd_ne (Nat.ne_of_lt lt)]
      exact (hf b hb).1
  · intro X hP hw hK hc i pins s σ H E I hf st hg
    subst hP hw hK
    obtain ⟨⟨old, he⟩, hi⟩ := st
    obtain ⟨xs, hq, hx⟩ := hg
    obtain ⟨its, rv, g1, _⟩ := sqk_get I hq
    have hh : X.A.in1.handled = none := I.ok.hd hc
    have l1 := rv.length
    subst hx
    have D := sqk_draws (prog := X.prog) (w := X.w) hh it a ai its.toArray p
    rw [List.size_toArray, ← l1] at D
    refine wpAny_pyNext_enum_endD D he ⟨hi, g1⟩ fun h' eb => ⟨rfl, ?_⟩
    refine I.turnedL (t' := s.toks) (ch := [e, it]) (fun b o hb q => ?_) hf
    have n : b ≠ e ∧ b ≠ it := by simpa using hb
    exact eb b o n.2 q
  · exact fun A i s Q E st h => let ⟨⟨_, he⟩, _⟩ := st; wpAny_pyIter_enum he h
set_option maxHeartbeats 1000000 in
theorem meets_enum1 {v : Value} {o : Obj} {H : Heap → Prop} (B : Begins v o H) :
    Meets (Builtin.«enumerate.__new__» ⟨[.type "enumerate", v], []⟩) (fun _ R s => H s.heap ∧ R (.ok (.ret (.ref (s.heap.push o).objs.size))) { s with heap := (s.heap.push o).push { cls := .type "enumerate", data := .fields #[.none, .bool false, .ref s.heap.objs.size, rawInt 0, .none, .none] } }) := by
  refine .of_wp fun prog w A R s h => ?_
  obtain ⟨hp, g, d, tk, os⟩ := s
  obtain ⟨h1, h⟩ := h
  have hsub := sub_enumerate
  have walk : ∀ {A' : Around} {E Q : Value → Shared → Prop}, Q (.ref hp.objs.size) ⟨hp.push o, g, d, tk, os⟩ → wpAny (model prog w) A' (pyIter v) Q E ⟨hp, g, d, tk, os⟩ := fun q => B.iter prog w _ _ _ _ h1 q
  wp_walk using walk
  refine wpAny_stack_any fun st => wpAny_pure ?_
  split
  · rename_i c _ _ _ _ _
    cases (c == Value.type "enumerate") <;> (wp_walk using walk; exact ⟨_, rfl, h⟩)
  · wp_walk using walk
    exact ⟨_, rfl, h⟩
theorem enum1_begins {prog : Program} {w : World} {A : Around} {E : Value → Shared → Prop} {s : Shared} {v : Value} {o : Obj} {H : Heap → Prop} {Q : Value → Shared → Prop} (B : Begins v o H) (h1 : H s.heap)
    (h : ∀ h', IsEnum h' (s.heap.objs.size + 1) s.heap.objs.size 0 .none → h'.get? s.heap.objs.size = some o → (∀ b o, s.heap.get? b = some o → h'.get? b = some o) → Q (.ref (s.heap.objs.size + 1)) { s with heap := h' }) :
    wpAny (model prog w) A (call (.type "enumerate") [v]) Q E s := by
  refine callType_new F.called_enumerate (by decide) (F.typeCall_enumerate_1 _) (F.newCall_enumerate_1 _) (fun obj => F.args_object_init_2 obj _) F.entry_enumerate_new (meets_enum1 B) ⟨h1, ?_⟩
  have sz : (s.heap.push o).objs.size = s.heap.objs.size + 1 := Heap.size_push ..
  have g := Heap.get?_push_size (s.heap.push o) (o := { cls := .type "enumerate", data := .fields #[.none, .bool false, .ref s.heap.objs.size, rawInt 0, .none, .none] }) rfl
  show _ ∧ _
  rw [sz] at g ⊢
  exact ⟨⟨_, g, rfl⟩, h _ g (Heap.get?_push_of_some _ (Heap.get?_push_size _ B.free)) fun b o x => Heap.get?_push_of_some _ (Heap.get?_push_of_some _ x)⟩
def iEm (K : PySem.W.Frag) (ta : TA) : TI := fun σ H R => ta σ H fun vs H1 => ∃ p a xs, vs = [.ref a] ∧ SqK p K H1 a xs ∧ R (Iem K p a 0) H1
theorem pi_em {X : Cx} {e : Expr} {ta : TA} {p pos tpos : Pos} {elts : List Expr} {kk : Nat} (hg : Gl X "enumerate") (hm : X.mg "enumerate" = none) (ha : PA X [e] ta) (st : starEach [e] X.env = [(false, eval e X.env)] := by rfl) :
    PI X (.Tuple elts kk tpos) (.Call (.Name "enumerate" p) [e] [] pos) (iEm X.K ta) := by
  constructor
  intro pins s σ H R I h
  refine Call_ (ld_blt I hg hm boot_enumerate (callWith_type1 (thn (ha.run pos pins s σ H _ I h) ?_) st rfl))
  rintro us s1 ⟨vs, H1, I1, r1, k1, a, xs, rfl, hq, q⟩
  match us, r1 with
  | [_], .cons r .nil =>
    cases r
    obtain ⟨its, rv, g1, _⟩ := sqk_get I1 hq
    have la := isk_lt g1
    refine enum1_begins (sqk_begins a its.toArray k1) g1 fun h' he h1 hk => wpAny_pyIter_enum he ?_
    have I2 : Inv X pins σ H1 { s1 with heap := h' } := I1.kept (t' := s1.toks) hk
    refine ⟨s1.heap.objs.size + 1, [s1.heap.objs.size + 1, s1.heap.objs.size], _, _, H1, rfl, I2, turn_em (p := k1) (c := 0) (a := a) (enum_apart _ a la).1 (enum_apart _ a la).2.1 (enum_apart _ a la).2.2, ⟨⟨.none, by simpa using he⟩, itat_0 h1⟩, fun b hb => ?_, q⟩
    have le := le_of2 s1.heap.objs.size b hb
    exact I1.fpOk le (I1.hok.fresh le)

/-! ### .. by data -/
def zipD (xs ys : List PyData) : List PyData := List.zipWith (fun x y => .tuple [x, y]) xs ys
def enumD (c : Int) : List PyData → List PyData
  | [] => []
  | x :: xs => .tuple [.int c, x] :: enumD (c + 1) xs
theorem enumD_get : ∀ {xs : List PyData} {c : Int} {i : Nat} {d : PyData}, (enumD c xs)[i]? = some d → ∃ x, xs[i]? = some x ∧ d = .tuple [.int (c + (i : Nat)), x]
  | [], _, _, _, h => by simp [enumD] at h
  | x :: xs, c, 0, d, h => by
    have : PyData.tuple [.int c, x] = d := Option.some.inj h
    exact ⟨x, rfl, by rw [← this]; simp⟩
  | x :: xs, c, i + 1, d, h => by
    obtain ⟨y, h1, h2⟩ := enumD_get (xs := xs) (c := c + 1) (i := i) (d := d) (by simpa [enumD] using h)
    refine ⟨y, by simpa using h1, ?_⟩
    rw [h2]
    have : c + 1 + (i : Int) = c + ((i + 1 : Nat) : Int) := by omega
    rw [this]
theorem enumD_len : ∀ (xs : List PyData) (c : Int), (enumD c xs).length = xs.length
  | [], _ => rfl
  | x :: xs, c => by show (enumD (c + 1) xs).length + 1 = _; rw [enumD_len xs]; rfl
def wZip (a : FA) : FA := fun δ => match a δ with
  | some ([x, y], δ1) => (match itD x with
    | some xs => (match itD y with
      | some ys => some (zipD xs ys, δ1)
      | none => none)
    | none => none)
  | _ => none
def wEnum (a : FA) : FA := fun δ => match a δ with
  | some ([x], δ1) => (match itD x with
    | some xs => some (enumD 0 xs, δ1)
    | none => none)
  | _ => none
theorem itD_sq {K : PySem.W.Frag} {pa : Addr} {G H : Hp} {fp : Foot} {δ : Env} {σ : L2.St} (R : Rel K pa G fp δ σ H) {v : V} {d : PyData} {ds : List PyData} (r : Rp K G v d) (e : itD d = some ds) : ∃ b a xs, v = .ref a ∧ RpA K G xs ds ∧ xs.length ≤ sizeLine ∧ ∀ {G2 H2 : Hp}, Sub G G2 → Sub G2 H2 → SqK b K H2 a xs := by
  cases r with
  | lst ha ra => cases e; exact ⟨true, _, _, rfl, ra, R.siz _ _ ha, fun s t => .inl (.of (t _ _ (s _ _ ha)))⟩
  | tup ha ra => cases e; exact ⟨false, _, _, rfl, ra, R.siz _ _ ha, fun s t => .inl (.of (t _ _ (s _ _ ha)))⟩
  | _ => cases e
section
variable {X : Cx} {tg e : Expr} {fa : FA}
theorem px_iZ (h : PI X tg e (iZm X.K (tA X.K fa))) : PI X tg e (tI X.K (wZip fa)) := h.weak fun σ H Q ⟨pa, G, fp, δ, ds, δ', R, q, k⟩ => by
  unfold wZip at q
  split at q
  · rename_i x y δ1 e1
    split at q
    · rename_i xs ex
      split at q
      · rename_i ys ey
        cases q
        refine ⟨pa, G, fp, δ, _, _, R, e1, fun v G' H' S R' r => ?_⟩
        cases r with
        | cons r r2 =>
        cases r2 with
        | cons r2 r3 =>
        cases r3
        obtain ⟨b1, a1, v1, rfl, ra, z1, g1⟩ := itD_sq R' r ex
        obtain ⟨b2, a2, v2, rfl, rb, z2, g2⟩ := itD_sq R' r2 ey
        refine ⟨b1, b2, a1, a2, v1, v2, rfl, g1 (.refl _) R'.sub, g2 (.refl _) R'.sub, k _ G' H' S R' ⟨fun G2 fp2 δ2 σ2 H2 i d S2 R2 ed => ?_, fun G2 fp2 δ2 σ2 H2 S2 R2 => ?_, ?_⟩⟩
        · unfold zipD at ed
          rw [List.getElem?_zipWith] at ed
          cases q1 : xs[i]? with
          | none => rw [q1] at ed; cases ed
          | some dx =>
            cases q2 : ys[i]? with
            | none => rw [q1, q2] at ed; cases ed
            | some dy =>
              rw [q1, q2] at ed
              have ed : PyData.tuple [dx, dy] = d := by simpa using ed
              subst ed
              obtain ⟨u1, eu1, ru1⟩ := ra.get q1
              obtain ⟨u2, eu2, ru2⟩ := rb.get q2
              have s1 := g1 S2.fz R2.sub
              have s2 := g2 S2.fz R2.sub
              refine ⟨⟨v1, v2, u1, u2, s1, s2, eu1, eu2⟩, fun w H' yy => ?_⟩
              obtain ⟨T, w1, w2, rfl, hT, rfl, f1, f2⟩ := yy
              have : w1 = u1 := Option.some.inj ((f1 _ s1).symm.trans eu1)
              subst this
              have : w2 = u2 := Option.some.inj ((f2 _ s2).symm.trans eu2)
              subst this
              have sN := Sub.new (o := .tup [w1, w2]) (R2.sub.none hT)
              exact ⟨_, .new R2.sub hT, R2.new hT (by show 2 ≤ sizeLine; decide), .tup upd_same (.cons ((ru1.mono S2.fz).mono sN) (.cons ((ru2.mono S2.fz).mono sN) .nil))⟩
        · have l1 := ra.len
          have l2 := rb.len
          have lz : (zipD xs ys).length = min xs.length ys.length := by unfold zipD; simp
          exact ⟨v1, v2, g1 S2.fz R2.sub, g2 S2.fz R2.sub, by omega, by omega, by omega⟩
        · have l1 := ra.len
          have lz : (zipD xs ys).length = min xs.length ys.length := by unfold zipD; simp
          omega
      · cases q
    · cases q
  · cases q
theorem px_iE (h : PI X tg e (iEm X.K (tA X.K fa))) : PI X tg e (tI X.K (wEnum fa)) := h.weak fun σ H Q ⟨pa, G, fp, δ, ds, δ', R, q, k⟩ => by
  unfold wEnum at q
  split at q
  · rename_i x δ1 e1
    split at q
    · rename_i xs ex
      cases q
      refine ⟨pa, G, fp, δ, _, _, R, e1, fun v G' H' S R' r => ?_⟩
      cases r with
      | cons r r2 =>
      cases r2
      obtain ⟨b1, a1, v1, rfl, ra, z1, g1⟩ := itD_sq R' r ex
      refine ⟨b1, a1, v1, rfl, g1 (.refl _) R'.sub, k _ G' H' S R' ⟨fun G2 fp2 δ2 σ2 H2 i d S2 R2 ed => ?_, fun G2 fp2 δ2 σ2 H2 S2 R2 => ?_, ?_⟩⟩
      · obtain ⟨dx, q1, rfl⟩ := enumD_get ed
        obtain ⟨u1, eu1, ru1⟩ := ra.get q1
        have s1 := g1 S2.fz R2.sub
        refine ⟨⟨v1, u1, s1, eu1⟩, fun w H' yy => ?_⟩
        obtain ⟨T, w1, rfl, hT, rfl, f1⟩ := yy
        have : w1 = u1 := Option.some.inj ((f1 _ s1).symm.trans eu1)
        subst this
        have sN := Sub.new (o := .tup [.int (0 + (i : Nat)), w1]) (R2.sub.none hT)
        exact ⟨_, .new R2.sub hT, R2.new hT (by show 2 ≤ sizeLine; decide), .tup upd_same (.cons (.int _) (.cons ((ru1.mono S2.fz).mono sN) .nil))⟩
      · exact ⟨v1, g1 S2.fz R2.sub, by rw [enumD_len, ra.len]⟩
      · rw [enumD_len, ← ra.len]; exact z1
    · cases q
  · cases q
/-- over a list or a tuple -/
def wIx (f : F) : FA := fun δ => match f δ with
  | some (d, δ1) => (match itD d with
    | some ds => some (ds, δ1)
    | none => none)
  | none => none
theorem _root_.L2.PI.either {t1 t2 : L2.TI} (h1 : PI X tg e t1) (h2 : PI X tg e t2) : PI X tg e (fun σ H R => t1 σ H R ∨ t2 σ H R) :=
  ⟨fun pins s σ H R I q => q.elim (h1.run pins s σ H R I) (h2.run pins s σ H R I)⟩
theorem px_iX {f : F} (h1 : PI X tg e (iList X.K (tF X.K f))) (h2 : PI X tg e (iTup X.K (tF X.K f))) : PI X tg e (tI X.K (wIx f)) :=
  ((px_iL h1).either (px_iT h2)).weak fun σ H Q ⟨pa, G, fp, δ, ds, δ', R, q, k⟩ => by
  unfold wIx at q
  split at q
  · rename_i d δ1 e1
    split at q
    · rename_i ds' e2
      cases q
      cases d with
      | list xs => cases e2; exact .inl ⟨pa, G, fp, δ, _, _, R, by unfold wIt; rw [e1], k⟩
      | tuple xs => cases e2; exact .inr ⟨pa, G, fp, δ, _, _, R, by unfold wItT; rw [e1], k⟩
      | _ => cases e2
    · cases q
  · cases q
end
end Fw

end
section
set_option Elab.async false
set_option linter.all false
set_option maxRecDepth 100000
/-! repr, == of texts, len(set(..)), t[::-1]. -/
namespace Fw
open PySem PySem.Spec PyProof.Rows L2

/-! ### repr -/
def reprOk (d : PyData) : Bool := d.showable && !d.hasDict && decide (d.depth ≤ 64) && decide (d.shown.length ≤ sizeLine)
def reprR : List PyData → Option PyData
  | [.list ds] => if reprOk (.list ds) = true then some (.str (PyData.list ds).shown) else none
  | [.tuple ds] => if reprOk (.tuple ds) = true then some (.str (PyData.tuple ds).shown) else none
  | _ => none
def rRepr (K : PySem.W.Frag) : List V → Hp → VK → Prop := fun vs H Q => ∃ a d, vs = [V.ref a] ∧ Dp K H (.ref a) d ∧ reprOk d = true ∧ Q (.str d.shown) H
section
variable {X : Cx}
theorem cr_repr (gd : X.A.guards = some []) (hu : X.A.units + 80 < cLine) : CallR X (.builtin "repr") (rRepr X.K) := by
  rintro pins s σ H vs us Q I r ⟨a, d, rfl, hd, hok, q⟩
  rw [Vals.ref1 r]
  obtain ⟨as, rd⟩ := hd.reads I d (.ref a) (.ref a) rfl
  unfold reprOk at hok
  simp only [Bool.and_eq_true, Bool.not_eq_true', decide_eq_true_eq] at hok
  refine PySem.repr_of_reads' rd hok.1.1.1 (PyData.noDict_hsm hok.1.1.2) gd (by omega) (fun b o e => e) (fun h' u tk hk => ?_) hok.2
  exact ⟨.str _, H, I.kept hk, ⟨u, rfl⟩, q⟩
theorem bi_repr (gd : X.A.guards = some []) (hu : X.A.units + 80 < cLine) (hb : bootBuiltins "repr" = some (.builtin "repr") := by decide +kernel) : BiD X "repr" reprR := by
  refine ⟨_, ?_, .inl ⟨_, hb, cr_repr gd hu⟩⟩
  intro pa G fp δ σ H vs ds dz Q R r e k
  unfold reprR at e
  split at e
  · split at e
    · rename_i ok
      cases e
      cases r with
      | cons h t =>
      cases t
      have := h.dp R.sub
      cases h with
      | lst ha ra => exact ⟨_, _, rfl, this, ok, step0 R k (.str _)⟩
    · cases e
  · split at e
    · rename_i ok
      cases e
      cases r with
      | cons h t =>
      cases t
      have := h.dp R.sub
      cases h with
      | tup ha ra => exact ⟨_, _, rfl, this, ok, step0 R k (.str _)⟩
    · cases e
  · cases e

/-! ### texts -/
def eqSR : PyData → PyData → Option PyData
  | .str a, .str b => some (.bool (a == b))
  | _, _ => none
def neSR : PyData → PyData → Option PyData
  | .str a, .str b => some (.bool (!(a == b)))
  | _, _ => none
theorem od_eqS {K : PySem.W.Frag} : OpD K rEq eqSR := by
  intro pa G fp δ σ H vx vy dx dy dz Q R hx hy e k
  cases hx <;> cases hy <;> cases e
  refine ⟨rfl, ?_⟩
  rw [dec_str]
  exact step0 R k (.bl _)
theorem od_neS {K : PySem.W.Frag} : OpD K rNe neSR := by
  intro pa G fp δ σ H vx vy dx dy dz Q R hx hy e k
  cases hx <;> cases hy <;> cases e
  refine ⟨rfl, ?_⟩
  rw [dec_str]
  exact step0 R k (.bl _)
theorem cd_eqS {b : Expr} : CmpD X .Eq b eqSR := ⟨⟨_, op_eq, od_eqS⟩, nomark _⟩
theorem cd_neS {b : Expr} : CmpD X .NotEq b neSR := ⟨⟨_, op_ne, od_neS⟩, nomark _⟩

/-! ### len(set(t)) of ints that differ -/
def lenSetR : PyData → Option PyData
  | .tuple ds => (match intsD ds with
    | some ns => if ns.Nodup ∧ ns.length < 4000 then some (.int ns.length) else none
    | none => none)
  | _ => none
def tLenSetT (K : PySem.W.Frag) (ta : TE) : TE := fun σ H Q => ta σ H fun x H1 => ∃ (l : Addr) (ns : List Int), x = V.ref l ∧ SqT K H1 l (ns.map V.int) ∧ ns.length < 4000 ∧ ns.Nodup ∧ Q (.int ns.length) H1
theorem nodup_len {α : Type} [DecidableEq α] {l m : List α} (h1 : l.Nodup) (h2 : m.Nodup) (h : ∀ x, x ∈ l ↔ x ∈ m) : l.length = m.length :=
  ((List.perm_ext_iff_of_nodup h1 h2).mpr h).length_eq
theorem pe_lenSetT {a : Expr} {ta : TE} {p p2 q pos : Pos} (hc : X.calm = true) (hg : Gl X "len") (hm : X.mg "len" = none) (hg2 : Gl X "set") (hm2 : X.mg "set" = none) (ha : PE X a ta)
    (na : starEach [a] X.env = (false, eval a X.env) :: starEach [] X.env := by rfl) : PE X (.Call (.Name "len" p) [.Call (.Name "set" p2) [a] [] q] [] pos) (tLenSetT X.K ta) := by
  constructor
  intro pins s σ H Q I h
  refine Call_ (ld_blt I hg hm boot_len (callWith_builtin1 (args_cons (Call_ ?_) rfl) rfl rfl))
  apply ld_blt I hg2 hm2 boot_set
  apply callWith_type1 (args_cons (thn (ha.run pins s σ H _ I h) _) na) na
  rintro v s1 ⟨x, H1, I1, r1, l, ns, rfl, hq, h1, hnd, q1⟩
  apply args_nil
  cases r1
  obtain ⟨its, r, pt, hz⟩ := I1.tuple hq
  refine call_set_tupI ns (I1.ok.hd hc) pt (by simpa using r.ints) (by unfold scanBound; omega) fun h' tk c hS hle hk => args_nil ?_
  obtain ⟨o, es, ep, t, ho, hex, hd, hge, hnk, hmem, _, hf, hn, _⟩ := hS
  have I2 : Inv X pins σ H1 { s1 with heap := h', toks := tk } := I1.kept hk
  have e : es.size = ns.length := by
    have := nodup_len hnk hnd fun k => by rw [← hmem k]; simp
    rw [← this]; simp
  refine call_len_set ho hex hd hf (by omega) ⟨.int ns.length, H1, I2.tok _, ⟨_, by rw [e]⟩, q1⟩
theorem px_lenSet {e : Expr} {f : F} (h : PE X e (tLenSetT X.K (tF X.K f))) : PE X e (tF X.K (s1 lenSetR f)) := h.weak fun σ H Q ⟨pa, G, fp, δ, d, δ', R, q, k⟩ => by
  unfold s1 at q
  split at q
  · rename_i x δ1 e1
    split at q
    · rename_i z e2
      cases q
      refine ⟨pa, G, fp, δ, x, _, R, e1, fun v G' H' S R' r => ?_⟩
      unfold lenSetR at e2
      split at e2
      · split at e2
        · rename_i ds ns en
          split at e2
          · rename_i hn
            cases e2
            cases r with
            | tup ha ra =>
              have := intsD_eq en
              subst this
              have := ra.ints
              subst this
              exact ⟨_, ns, rfl, .inl (.of (R'.sub _ _ ha)), hn.2, hn.1, k _ G' H' S R' (.int _)⟩
          · cases e2
        · cases e2
      · cases e2
    · cases q
  · cases q
end

/-! ### t[::-1] -/
section
variable {prog : Program} {w : World} {A : Around} {E : Value → Shared → Prop} {s : Shared}
theorem places_rev (n : Nat) : Builtin.Slice.slicePlaces ((n : Int) - 1) (-1) (-1) = n := by
  unfold Builtin.Slice.slicePlaces
  simp
  omega
theorem adjust_rev (n : Nat) : Builtin.Slice.sliceAdjust none none (-1) (n : Int) = ((n : Int) - 1, -1) := by
  unfold Builtin.Slice.sliceAdjust
  simp
theorem rev_applied {sl : Addr} {vl vu vs : Value} {n : Nat} {Q : Int × Int × Nat → Shared → Prop} (hs : s.heap.IsSliceOf sl vl vu vs) (pl : IsPart vl none) (pu : IsPart vu none) (ps : IsPart vs (some (-1)))
    (h : Q ((n : Int) - 1, -1, n) s) : wpAny (model prog w) A (Builtin.Slice.sliceApplied (.ref sl) (pure (n : Int))) Q E s := by
  obtain ⟨os, g1, g2, g3⟩ := hs
  unfold Builtin.Slice.sliceApplied Builtin.Slice.sliceFields
  apply wpAny_bind
  apply wpAny_bind
  apply wpAny_field g1 g3 (x := vl) rfl
  apply wpAny_bind
  apply wpAny_field g1 g3 (x := vu) rfl
  apply wpAny_bind
  apply wpAny_field g1 g3 (x := vs) rfl
  apply wpAny_pure
  apply wpAny_bind
  apply HT.slicePart_ ps
  show wpAny _ _ (if (((-1 : Int)) == 0) = true then _ else _) _ _ s
  rw [if_neg (by decide)]
  refine wpAny_bind (HT.slicePart_ pl (wpAny_bind (HT.slicePart_ pu (wpAny_bind (wpAny_pure ?_)))))
  show wpAny _ _ (match Builtin.Slice.sliceAdjust none none (-1) (n : Int) with | (a, b) => pure (a, (-1 : Int), Builtin.Slice.slicePlaces a b (-1))) _ _ s
  rw [adjust_rev]
  show wpAny _ _ (pure ((n : Int) - 1, (-1 : Int), Builtin.Slice.slicePlaces ((n : Int) - 1) (-1) (-1))) _ _ s
  rw [places_rev]
  exact wpAny_pure h
theorem fm_congr {α β : Type} {f : α → Option β} {g : α → β} : ∀ l : List α, (∀ m, m ∈ l → f m = some (g m)) → l.filterMap f = l.map g
  | [], _ => rfl
  | x :: l, h => by rw [List.filterMap_cons_some (h x (by simp)), fm_congr l fun m z => h m (by simp [z])]; rfl
theorem pick_rev (xs : Array Value) : ((List.range xs.size).filterMap fun (m : Nat) => xs[((xs.size : Int) - 1 + (m : Int) * (-1)).toNat]?).toArray = xs.toList.reverse.toArray := by
  congr 1
  apply List.ext_getElem?
  intro i
  have e1 : ∀ m, m ∈ List.range xs.size → xs[((xs.size : Int) - 1 + (m : Int) * (-1)).toNat]? = some (xs[xs.size - 1 - m]!) := fun m hm => by
    have hm := List.mem_range.mp hm
    have : ((xs.size : Int) - 1 + (m : Int) * (-1)).toNat = xs.size - 1 - m := by omega
    rw [this, Array.getElem?_eq_getElem (by omega), getElem!_pos xs _ (by omega)]
  rw [fm_congr _ e1]
  by_cases h : i < xs.size
  · rw [List.getElem?_map, List.getElem?_range h, List.getElem?_reverse (by simpa using h)]
    simp only [Option.map_some, Array.length_toList, Array.getElem?_toList]
    rw [Array.getElem?_eq_getElem (by omega), getElem!_pos xs _ (by omega)]
  · rw [List.getElem?_eq_none (by simp; omega), List.getElem?_eq_none (by simp; omega)]
theorem rev_tuple {t sl : Addr} {its : Array Value} {vl vu vs : Value} {Q : Value → Shared → Prop} (tp : IsTup s.heap t its) (hs : s.heap.IsSliceOf sl vl vu vs) (pl : IsPart vl none) (pu : IsPart vu none) (ps : IsPart vs (some (-1)))
    (h : Q (.ref s.heap.objs.size) { s with heap := s.heap.push { cls := .type "tuple", data := .seq its.toList.reverse.toArray } }) (hz : its.size ≤ sizeLine) : wpAny (model prog w) A (getItem (.ref t) (.ref sl)) Q E s := by
  have fits : sizeOk (.seq its.toList.reverse.toArray) := by
    show its.toList.reverse.toArray.size ≤ sizeLine
    simpa using hz
  obtain ⟨os, g1, g2, g3⟩ := id hs
  have ty : s.TypeIs (.ref sl) "slice" := ⟨os, g1, g2⟩
  unfold getItem
  try with_reducible apply wpAny_holding
  first | apply wpAny_bind (wpAny_pure _) | skip
  apply wpAny_bind (wpAny_sequenceKey tp.typeIs (by decide) _)
  refine wpAny_bind (wpAny_callSpecial?_slot (name := Str.ofString "__getitem__") tp.typeIs slot_tuple_getitem (wpAny_call_entry slot_tuple_getitem tp.typeIs entry_tuple_getitem ?_ (args_tuple_getitem _ _)))
  show wpAny _ _ (Builtin.Tuple.tupleItemsOf (.ref t) >>= _) _ _ s
  apply wpAny_bind (tupleItemsOf_ tp _)
  apply wpAny_bind (wpAny_typeOf ty _)
  rw [if_pos (by decide)]
  apply wpAny_bind (rev_applied hs pl pu ps _)
  have no : ¬ ((((its.size : Int) - 1) == 0 && (-1 : Int) == 1 && its.size == its.size) = true) := by simp
  show wpAny _ _ (if ((((its.size : Int) - 1) == 0 && (-1 : Int) == 1 && its.size == its.size) = true) then _ else _) _ _ s
  rw [if_neg no, pick_rev]
  first
    | exact wpAny_bind (m := Builtin.Tuple.tupleExact _) (wpAny_newObj_type (wpAny_pure ⟨_, rfl, wpAny_pure h⟩) fits)
    | exact wpAny_bind (m := Builtin.Tuple.tupleExact _) (wpAny_newObj_type (wpAny_bind (wpAny_pure (wpAny_pure ⟨_, rfl, wpAny_pure h⟩))) fits)
    | exact wpAny_bind (wpAny_bind (m := Builtin.Tuple.tupleExact _) (wpAny_newObj_type (wpAny_pure (wpAny_pure ⟨_, rfl, wpAny_pure h⟩)) fits))
    | exact wpAny_bind (wpAny_bind (m := Builtin.Tuple.tupleExact _) (wpAny_newObj_type (wpAny_pure ⟨_, rfl, wpAny_pure h⟩) fits))
end
def tRevT (K : PySem.W.Frag) (te : TE) : TE := fun σ H Q => te σ H fun x H1 => ∃ a xs, x = .ref a ∧ SqT K H1 a xs ∧ ∀ p, H1 p = none → Q (.ref p) (upd H1 p (.tup xs.reverse))
section
variable {X : Cx}
theorem pe_revT {e : Expr} {te : TE} {k : Nat} {p1 p2 p3 pos : Pos} (he : PE X e te) : PE X (.Subscript e (.Slice none none (some (.UnaryOp .USub (.Constant (.int 1) k p1) p2)) p3) pos) (tRevT X.K te) := by
  constructor
  intro pins s σ H Q I h
  apply Subscript_ (thn (he.run pins s σ H _ I h) _)
  rintro v s1 ⟨x, H1, I1, r1, a, xs, rfl, hx, q⟩
  cases r1
  have step : PO X (some (.UnaryOp .USub (.Constant (.int 1) k p1) p2)) (tPart (tUn (rU fun i => .int (-i)) (tC (.int 1)))) := po_some (pe_un un_neg pe_int)
  apply wpAny_Slice (thn (po_none.run pins s1 σ H1 (fun o G => o = none ∧ G = H1) I1 ⟨rfl, rfl⟩) _)
  rintro vl s2 ⟨l, H2, I2, pl, rfl, rfl⟩
  apply thn (po_none.run pins s2 σ H2 (fun o G => o = none ∧ G = H2) I2 ⟨rfl, rfl⟩)
  rintro vu s3 ⟨u, H3, I3, pu, rfl, rfl⟩
  apply thn (step.run pins s3 σ H3 (fun o G => o = some (-1) ∧ G = H3) I3 ⟨1, rfl, -1, rfl, rfl, rfl⟩)
  rintro vs s4 ⟨o, H4, I4, ps, rfl, rfl⟩
  have I5 : Inv X pins σ H4 { s4 with heap := s4.heap.push { cls := .type "slice", data := .fields #[vl, vu, vs] } } := I4.kept (t' := s4.toks) fun b ob z => Heap.get?_push_of_some _ z
  obtain ⟨its, r, pt, hz⟩ := I5.tuple hx
  have hlen := r.length
  show wpAny (model X.prog X.w) X.A (subscriptTail e (.Slice none none (some (.UnaryOp .USub (.Constant (.int 1) k p1) p2)) p3) (.ref a) (.ref s4.heap.objs.size)) (EP X pins σ Q) X.xe _
  apply tail_any (ops := [.ref a, .ref s4.heap.objs.size]) pt.typeIs (slot_tuple_getitem.lookup) _ (by with_unfolding_all rfl)
  apply rev_tuple pt (Heap.IsSliceOf.new _ vl vu vs) pl pu ps _ (by rw [List.size_toArray]; omega)
  refine ⟨.ref _, _, I5.laid (t' := s4.toks) (o := .tup xs.reverse) (fun b ob z => Heap.get?_push_of_some _ z) (Nat.le_refl _) ?_, rfl, q _ (I5.hok.fresh (Nat.le_refl _))⟩
  exact ⟨by rw [List.length_reverse]; exact hz, _, r.reverse, IsTup.new _ _⟩
def revTR : PyData → Option PyData
  | .tuple ds => some (.tuple ds.reverse)
  | _ => none
theorem px_revT {e : Expr} {f : F} (h : PE X e (tRevT X.K (tF X.K f))) : PE X e (tF X.K (s1 revTR f)) := h.weak fun σ H Q ⟨pa, G, fp, δ, d, δ', R, q, k⟩ => by
  unfold s1 at q
  split at q
  · rename_i x δ1 e1
    split at q
    · rename_i z e2
      cases q
      refine ⟨pa, G, fp, δ, x, _, R, e1, fun v G' H' S R' r => ?_⟩
      unfold revTR at e2
      split at e2
      · cases e2
        cases r with
        | tup ha ra =>
          refine ⟨_, _, rfl, .inl (.of (R'.sub _ _ ha)), fun p hp => ?_⟩
          exact stepT R' (fun v G2 H2 S2 R2 r2 => k v G2 H2 (S.trans S2) R2 r2) hp (by rw [List.length_reverse]; exact R'.lenT ha) ra.rev
      · cases e2
    · cases q
  · cases q
end
end Fw

end
section
set_option Elab.async false
set_option linter.all false
set_option maxRecDepth 100000
/-! Chains of comparisons; small rules; how a def is told. -/
namespace Fw
open PySem PySem.Spec PyProof.Rows L2
section
variable {X : Cx} {a b c e : Expr} {f g h : F} {pos : Pos}
theorem px_one {op : BoolOp} (k : PE X a (tF X.K f)) : PE X (.BoolOp op [a] pos) (tF X.K f) := pe_one k
def sChain (r1 r2 : PyData → PyData → Option PyData) (f g h : F) : F := fun δ => match f δ with
  | some (x, δ1) => (match g δ1 with
    | some (y, δ2) => (match r1 x y with
      | some (.bool true) => (match h δ2 with
        | some (z, δ3) => (match r2 y z with
          | some w => some (w, δ3)
          | none => none)
        | none => none)
      | some (.bool false) => some (.bool false, δ2)
      | _ => none)
    | none => none)
  | none => none
theorem chain_ok {K : PySem.W.Frag} {rr rr' : R2} {r1 r2 : PyData → PyData → Option PyData} (o1 : OpD K rr r1) (o2 : OpD K rr' r2) {σ : L2.St} {H : Hp} {Q : VK} (q : tF K (sChain r1 r2 f g h) σ H Q) : tChain rr rr' (tF K f) (tF K g) (tF K h) σ H Q := by
  obtain ⟨pa, G, fp, δ, d, δ', R, q, k⟩ := q
  unfold sChain at q
  split at q
  · rename_i x δ1 e1
    split at q
    · rename_i y δ2 e2
      refine ⟨pa, G, fp, δ, x, δ1, R, e1, fun v1 G1 H1 S1 R1 p1 => ⟨pa, G1, fp, δ1, y, δ2, R1, e2, fun v2 G2 H2 S2 R2 p2 => ?_⟩⟩
      split at q
      · rename_i e3
        refine o1 pa G2 fp _ σ H2 v1 v2 x y _ _ R2 (p1.mono S2.fz) p2 e3 fun v G' H' S3 R3 p3 => ?_
        cases p3
        refine ⟨true, rfl, ?_⟩
        refine iteT ?_
        split at q
        · rename_i z δ3 e4
          split at q
          · rename_i w e5
            cases q
            refine ⟨pa, G', fp, δ2, z, _, R3, e4, fun v4 G4 H4 S4 R4 p4 => ?_⟩
            exact o2 pa G4 fp _ σ H4 v2 v4 y z _ _ R4 ((p2.mono S3.fz).mono S4.fz) p4 e5 fun v5 G5 H5 S5 R5 p5 => k v5 G5 H5 ((((S1.trans S2).trans S3).trans S4).trans S5) R5 p5
          · cases q
        · cases q
      · rename_i e3
        cases q
        refine o1 pa G2 fp _ σ H2 v1 v2 x y _ _ R2 (p1.mono S2.fz) p2 e3 fun v G' H' S3 R3 p3 => ?_
        cases p3
        refine ⟨false, rfl, ?_⟩
        refine iteF ?_
        exact k _ G' H' ((S1.trans S2).trans S3) R3 (.bl _)
      · cases q
    · cases q
  · cases q
theorem px_ch {op op' : CmpOp} {r1 r2 : PyData → PyData → Option PyData} (c1 : CmpD X op b r1) (c2 : CmpD X op' c r2) (ha : PE X a (tF X.K f)) (hb : PE X b (tF X.K g)) (hc : PE X c (tF X.K h)) (hm : lastMarks [op, op'] [b, c] = false := by with_unfolding_all rfl) :
    PE X (.Compare a [op, op'] [b, c] pos) (tF X.K (sChain r1 r2 f g h)) := by
  obtain ⟨⟨rr, h1, o1⟩, _⟩ := c1
  obtain ⟨⟨rr', h2, o2⟩, _⟩ := c2
  exact (pe_chain h1 h2 ha hb hc hm).weak fun σ H Q q => chain_ok o1 o2 q
theorem px_tch {op op' : CmpOp} {r1 r2 : PyData → PyData → Option PyData} (c1 : CmpD X op b r1) (c2 : CmpD X op' c r2) (ha : PE X a (tF X.K f)) (hb : PE X b (tF X.K g)) (hc : PE X c (tF X.K h)) (hm : lastMarks [op, op'] [b, c] = false := by with_unfolding_all rfl) :
    PT X (.Compare a [op, op'] [b, c] pos) (tT X.K (sB (sChain r1 r2 f g h))) := by
  obtain ⟨⟨rr, h1, o1⟩, _⟩ := c1
  obtain ⟨⟨rr', h2, o2⟩, _⟩ := c2
  refine (pt_chain h1 h2 ha hb hc hm).weak fun σ H Q ⟨pa, G, fp, δ, d, δ', R, q, k⟩ => ?_
  refine chain_ok (f := f) (g := g) (h := h) o1 o2 ?_
  unfold sB at q
  split at q
  · rename_i b0 δ1 e1
    cases q
    exact ⟨pa, G, fp, δ, _, _, R, e1, fun v G' H' S R' r => by cases r; exact ⟨_, rfl, k G' H' S R'⟩⟩
  · cases q
/-- a built-in type as a value -/
theorem pe_tyv {x : Str} {T : String} (hg : Gl X x) (hm : X.mg x = none) (hv : bootBuiltins x = some (.type T)) (hn : x ≠ "__name__" := by decide) (hd : (x == ("__debug__" : Str)) = false := by decide) : PE X (.Name x pos) (tC (.ty T)) :=
  pe_bltn hg hm hv rfl hn hd
end
/-- a def of the module -/
structure DefAt (K : PySem.W.Frag) (mg : Str → Option Value) (x : Str) (st : Stmt) : Prop where
  ex : ∃ f fd, FunD K x x (defArgs st) (defBody st) (defScope st) [] [] f fd ∧ mg x = some (.ref f)
theorem DefAt.cg {P : Program} {w : World} {K : PySem.W.Frag} {mg : Str → Option Value} {base : Heap} {k : Nat} {x : Str} {sp : Sp} {st : Stmt} {ps : List Str} (D : DefAt K mg x st)
    (hb : ∀ (kV doc pm : Value) (an : Option Addr) (cd ct : Value) (us : List Value), us.length = ps.length → bindArgs (PySem.W.fnOf x x (defArgs st) (defBody st) (defScope st) .none kV doc pm an cd ct) ⟨us, []⟩ = pure (ps.zip us))
    (h : ∀ f fd, FunD K x x (defArgs st) (defBody st) (defScope st) [] [] f fd → FnG P w K mg base k f fd ps sp) : Cg P w K mg base k x sp := by
  obtain ⟨f, fd, F, hm⟩ := D.ex
  exact ⟨f, fd, ps, h f fd F, hm, F.kp, F.bindsN hb⟩
end Fw

end
section
set_option Elab.async false
set_option linter.all false
set_option maxRecDepth 100000
/-! Short forms of the rules, as the printed terms use them. -/
namespace Fw
open PySem PySem.Spec PyProof.Rows L2
theorem hu64 {A : Around} {k : Nat} (hr : Room k A) : A.units + 64 < cLine := by have := hr.un; omega
theorem hu80 {A : Around} {k : Nat} (hr : Room k A) : A.units + 80 < cLine := by have := hr.un; omega
section
variable {X : Cx} {a b c e : Expr} {es : List Expr} {f g h : F} {fa : FA} {pos : Pos} {i : Nat}
theorem px_c2 (he : PE X e (tF X.K f)) (hs : PA X es (tA X.K fa)) (st : starEach (e :: es) X.env = (false, eval e X.env) :: starEach es X.env := by rfl) : PA X (e :: es) (tA X.K (sA1 f fa)) := px_cons he hs (pa_cons he hs st)
theorem px_r2F {r : FR} (he : PE X e (tF X.K f)) (hs : PA X es (tR X.K r)) (st : starEach (e :: es) X.env = (false, eval e X.env) :: starEach es X.env := by rfl) : PA X (e :: es) (tR X.K (rF f r)) := px_rF (pa_cons he hs st)
theorem px_r2L {r : FR} (he : PE X e (tL X.K fa)) (hs : PA X es (tR X.K r)) (st : starEach (e :: es) X.env = (false, eval e X.env) :: starEach es X.env := by rfl) : PA X (e :: es) (tR X.K (rL fa r)) := px_rL (pa_cons he hs st)
theorem px_r2LL {fl : Env → Option (List (List PyData) × Env)} {r : FR} (he : PE X e (tLL X.K fl)) (hs : PA X es (tR X.K r)) (st : starEach (e :: es) X.env = (false, eval e X.env) :: starEach es X.env := by rfl) : PA X (e :: es) (tR X.K (rLL fl r)) := px_rLL (pa_cons he hs st)
theorem px_g2 {vs ws : List Nat} {p : FG} {q : FGs} (h1 : PG X e (tG X.K vs p)) (h2 : PGs X es (tGs X.K ws q)) (st : (assignEach (e :: es) X.env).map (·.2) = assign e X.env :: (assignEach es X.env).map (·.2) := by rfl) : PGs X (e :: es) (tGs X.K (vs ++ ws) (gCns p q)) :=
  px_gcons h1 h2 (pgs_cons h1 h2 st)
theorem px_ex (he : PE X e (tF X.K f)) (hs : swapsWith e none pos.line X.env = pure false := by rfl) : PS X (.Expr e pos) (tS X.K (xDrop f)) := px_drop he (ps_expr he hs)
theorem px_tp {k0 : Nat} (h : PA X es (tA X.K fa)) : PE X (.Tuple es k0 pos) (tF X.K (sTup fa)) := px_tup (pe_tup h)
theorem px_ls (h : PA X es (tA X.K fa)) : PE X (.List es pos) (tL X.K (sLst fa)) := px_lst (pe_lst h)
theorem cmpO_ok {K : PySem.W.Frag} {rr : R2} {r : PyData → PyData → Option PyData} (o : ∀ H vx vy dx dy b (Q : VK), Dp K H vx dx → Dp K H vy dy → r dx dy = some (.bool b) → Q (.bl b) H → rr vx vy H Q) {σ : L2.St} {H : Hp} {Q : VK} (q : tF K (sCmpO i r g) σ H Q) : tOp rr (tVar i) (tF K g) σ H Q := by
  obtain ⟨pa, G, fp, δ, d, δ', R, q, k⟩ := q
  unfold sCmpO at q
  split at q
  · cases q
  · rename_i ds0 e0
    split at q
    · rename_i y δ1 e1
      split at q
      · rename_i ds e2
        split at q
        · rename_i b e3
          cases q
          obtain ⟨a0, vs0, ea0, _⟩ := R.lst e0
          refine ⟨_, ea0, pa, G, fp, δ, _, _, R, e1, fun v G1 H1 S1 R1 r1 => ?_⟩
          obtain ⟨a, vs, ea, ha, r2, _, _⟩ := R1.lst e2
          rw [ea0] at ea
          cases ea
          exact o H1 _ _ _ _ _ Q (.lst (.of ha) (r2.dp R1.sub)) (r1.dp R1.sub) e3 (k _ G1 H1 S1 R1 (.bl _))
        · cases q
      · cases q
    · cases q
theorem px_eqO (hu : X.A.units + 64 < cLine) (ha : PE X a (tVar i)) (hb : PE X b (tF X.K g)) : PE X (.Compare a [.Eq] [b] pos) (tF X.K (sCmpO i eqR g)) := (pe_cmpR (op_eqD hu) ha hb (nomark _)).weak fun σ H Q q => cmpO_ok oo_eq q
theorem px_neO (hu : X.A.units + 64 < cLine) (ha : PE X a (tVar i)) (hb : PE X b (tF X.K g)) : PE X (.Compare a [.NotEq] [b] pos) (tF X.K (sCmpO i neR g)) := (pe_cmpR (op_neD hu) ha hb (nomark _)).weak fun σ H Q q => cmpO_ok oo_ne q
theorem tt_ok {K : PySem.W.Frag} {t : TE} (w : ∀ σ H Q, tF K f σ H Q → t σ H Q) {σ : L2.St} {H : Hp} {Q : Bool → Hp → Prop} (q : tT K (sB f) σ H Q) : tTest t σ H Q := by
  obtain ⟨pa, G, fp, δ, d, δ', R, q, k⟩ := q
  unfold sB at q
  split at q
  · rename_i b0 δ1 e1
    cases q
    exact w σ H _ ⟨pa, G, fp, δ, _, _, R, e1, fun v G' H' S R' r => by cases r; exact ⟨_, rfl, k G' H' S R'⟩⟩
  · cases q
theorem px_teqO (hu : X.A.units + 64 < cLine) (ha : PE X a (tVar i)) (hb : PE X b (tF X.K g)) : PT X (.Compare a [.Eq] [b] pos) (tT X.K (sB (sCmpO i eqR g))) :=
  (pt_cmpR (op_eqD hu) ha hb (nomark _)).weak fun σ H Q q => tt_ok (fun σ H Q q => cmpO_ok oo_eq q) q
theorem px_tneO (hu : X.A.units + 64 < cLine) (ha : PE X a (tVar i)) (hb : PE X b (tF X.K g)) : PT X (.Compare a [.NotEq] [b] pos) (tT X.K (sB (sCmpO i neR g))) :=
  (pt_cmpR (op_neD hu) ha hb (nomark _)).weak fun σ H Q q => tt_ok (fun σ H Q q => cmpO_ok oo_ne q) q
theorem px_appS {x : Expr} {apos cpos pos : Pos} (ho : PE X x (tVar i)) (he : PE X e (tF X.K f)) (hbase : attributeBase x "append" X.env (eval x X.env) = eval x X.env := by rfl)
    (hfew : ((backTo cpos (starEach [e] X.env)).all (fun x => !x.1) && (backToKw cpos (keywordEach [] X.env)).all (fun x => x.1.isSome) && decide ([e].length + ([] : List Keyword).length + (if ([] : List Keyword).isEmpty then 0 else 1) < 30)) = true := by rfl)
    (hline : (apos.endLine == cpos.line) = true := by rfl) (st : starEach [e] X.env = (false, eval e X.env) :: starEach [] X.env := by rfl) (pl : (backTo cpos (starEach [] X.env)).any (·.1) = false := by rfl) (hs : swapsWith (.Call (.Attribute x "append" apos) [e] [] cpos) none pos.line X.env = pure false := by rfl) :
    PS X (.Expr (.Call (.Attribute x "append" apos) [e] [] cpos) pos) (tS X.K (xApp i f)) :=
  px_app (ps_expr (pe_bm PySem.F.plainAttrs_list PySem.F.slot_list_append PySem.F.type_list_append mt_append ho (pa_cons he pa_nil st) hbase hfew hline st pl) hs)
theorem px_popE {x : Expr} {apos cpos : Pos} (ho : PE X x (tVar i)) (hbase : attributeBase x "pop" X.env (eval x X.env) = eval x X.env := by rfl) (hline : (apos.endLine == cpos.line) = true := by rfl) : PE X (.Call (.Attribute x "pop" apos) [] [] cpos) (tF X.K (sPop i)) :=
  px_pop (pe_bm0 PySem.F.plainAttrs_list PySem.F.slot_list_pop PySem.F.type_list_pop mt_pop ho hbase hline)
theorem px_call {k n : Nat} {x : Str} {p : Pos} {den : List PyData → Option PyData} {fa : FA} (c : Cg X.prog X.w X.K X.mg X.base k x (spF X.K n den)) (hn : ∀ ds d, den ds = some d → ds.length = n) (gd : X.A.guards = some []) (hr : Room k X.A) (hg : Gl X x) (ha : PA X (e :: es) (tA X.K fa)) (hdb : (x == ("__debug__" : Str)) = false := by decide)
    (st : starEach (e :: es) X.env = (false, eval e X.env) :: starEach es X.env := by rfl) (pl : (backTo pos (starEach es X.env)).any (·.1) = false := by rfl) : PE X (.Call (.Name x p) (e :: es) [] pos) (tF X.K (sCall den fa)) :=
  px_callF hn (pe_cg c gd hr hg ha hdb st pl)
theorem px_calm {k n : Nat} {x : Str} {p : Pos} {den : List PyData → List PyData → Option (PyData × List PyData)} {fa : FA} (c : Cg X.prog X.w X.K X.mg X.base k x (spM X.K n den)) (hn : ∀ xs ds d, den xs ds = some d → ds.length = n) (gd : X.A.guards = some []) (hr : Room k X.A) (hg : Gl X x) (he : PE X e (tVar i)) (ha : PA X es (tA X.K fa))
    (hdb : (x == ("__debug__" : Str)) = false := by decide) (st : starEach (e :: es) X.env = (false, eval e X.env) :: starEach es X.env := by rfl) (pl : (backTo pos (starEach es X.env)).any (·.1) = false := by rfl) : PE X (.Call (.Name x p) (e :: es) [] pos) (tF X.K (sCallM i den fa)) :=
  px_callM hn (pe_cg c gd hr hg (pa_cons he ha st) hdb st pl)
theorem px_cals {k n : Nat} {x : Str} {p : Pos} {den : List Int → List PyData → Option PyData} {fa : FA} (c : Cg X.prog X.w X.K X.mg X.base k x (spS X.K n den)) (hn : ∀ xs ds d, den xs ds = some d → ds.length = n) (gd : X.A.guards = some []) (hr : Room k X.A) (hg : Gl X x) (he : PE X e (tVar i)) (ha : PA X es (tA X.K fa))
    (hdb : (x == ("__debug__" : Str)) = false := by decide) (st : starEach (e :: es) X.env = (false, eval e X.env) :: starEach es X.env := by rfl) (pl : (backTo pos (starEach es X.env)).any (·.1) = false := by rfl) : PE X (.Call (.Name x p) (e :: es) [] pos) (tF X.K (sCallS i den fa)) :=
  px_callS hn (pe_cg c gd hr hg (pa_cons he ha st) hdb st pl)
theorem px_calsl {k n : Nat} {x : Str} {p : Pos} {den : List Int → List PyData → Option (List PyData)} {fa : FA} (c : Cg X.prog X.w X.K X.mg X.base k x (spSL X.K n den)) (hn : ∀ xs ds d, den xs ds = some d → ds.length = n) (gd : X.A.guards = some []) (hr : Room k X.A) (hg : Gl X x) (he : PE X e (tVar i)) (ha : PA X es (tA X.K fa))
    (hdb : (x == ("__debug__" : Str)) = false := by decide) (st : starEach (e :: es) X.env = (false, eval e X.env) :: starEach es X.env := by rfl) (pl : (backTo pos (starEach es X.env)).any (·.1) = false := by rfl) : PE X (.Call (.Name x p) (e :: es) [] pos) (tL X.K (sCallSL i den fa)) :=
  px_callSL hn (pe_cg c gd hr hg (pa_cons he ha st) hdb st pl)
theorem px_isiC {x T : String} {p q r : Pos} (K1 : Isi X.K T) (hg : Gl X "isinstance") (hm : X.mg "isinstance" = none) (hg2 : Gl X (Str.ofString x)) (hm2 : X.mg (Str.ofString x) = none) (he : PE X a (tF X.K f)) (hv : bootBuiltins (Str.ofString x) = some (.type T) := by decide +kernel)
    (hu : bootBuiltins "isinstance" = some (.builtin "isinstance") := by decide +kernel) (hn : Str.ofString x ≠ "__name__" := by decide) (hd : (Str.ofString x == ("__debug__" : Str)) = false := by decide)
    (st1 : starEach [a, .Name (Str.ofString x) q] X.env = (false, eval a X.env) :: starEach [.Name (Str.ofString x) q] X.env := by rfl) (st2 : starEach [.Name (Str.ofString x) q] X.env = (false, eval (.Name (Str.ofString x) q) X.env) :: starEach [] X.env := by rfl)
    (pl : (backTo r (starEach [.Name (Str.ofString x) q] X.env)).any (·.1) = false := by rfl) : PE X (.Call (.Name "isinstance" p) [a, .Name (Str.ofString x) q] [] r) (tF X.K (s1 (isiR T) f)) :=
  px_isi K1 (pe_callB call_isi hg hm hu (pa_cons he (pa_cons (pe_tyv hg2 hm2 hv hn hd) pa_nil st2) st1) (by decide) (by decide) st1 pl)
theorem px_bi1 {x : Str} {r : List PyData → Option PyData} {p : Pos} (c : BiD X x r) (hg : Gl X x) (hm : X.mg x = none) (he : PE X e (tF X.K f)) (hn : x ≠ "__name__" := by decide) (hdb : (x == ("__debug__" : Str)) = false := by decide)
    (st : starEach [e] X.env = (false, eval e X.env) :: starEach [] X.env := by rfl) (pl : (backTo pos (starEach [] X.env)).any (·.1) = false := by rfl) : PE X (.Call (.Name x p) [e] [] pos) (tF X.K (sCall r (sA1 f sA0))) := px_bi c hg hm (px_c2 he px_nil st) hn hdb st pl
theorem px_len1 {p : Pos} (hg : Gl X "len") (hm : X.mg "len" = none) (he : PE X e (tVar i)) (hu : bootBuiltins "len" = some (.builtin "len") := by decide +kernel) (st : starEach [e] X.env = (false, eval e X.env) :: starEach [] X.env := by rfl) (pl : (backTo pos (starEach [] X.env)).any (·.1) = false := by rfl) :
    PE X (.Call (.Name "len" p) [e] [] pos) (tF X.K (sLenO i)) := px_lenO (pe_callB call_len_seq hg hm hu (pa_cons he pa_nil st) (by decide) (by decide) st pl)
end
end Fw

end
section
set_option Elab.async false
set_option linter.all false
set_option maxRecDepth 100000
/-! Walks over any data; tuple(range(..)), list(range(..)). -/
namespace Fw
open PySem PySem.Spec PyProof.Rows L2
section
variable {X : Cx} {tg e a b : Expr} {f g : F} {fa : FA}
theorem px_i1 (h : PE X e (tF X.K f)) : PI X tg e (tI X.K (wIx f)) := px_iX (pi_list h) (pi_tup h)
def rgOk (a b : Int) : Prop := -(2 ^ 62) ≤ a ∧ a < 2 ^ 62 ∧ -(2 ^ 62) ≤ b ∧ b < 2 ^ 62 ∧ (b - a).toNat ≤ 2 ^ 24
instance (a b : Int) : Decidable (rgOk a b) := by unfold rgOk; exact inferInstance
/-- the items of range(..), the arguments' values given -/
def rgOf : List PyData → Option (List PyData)
  | [.int n] => if rgOk 0 n then some (rangeD 0 n) else none
  | [.int m, .int n] => if rgOk m n then some (rangeD m n) else none
  | _ => none
def tRg (K : PySem.W.Frag) (a : FA) : L2.St → Hp → (Int → Int → Hp → Prop) → Prop := fun σ H Q => ∃ pa G fp δ ds δ' m n, Rel K pa G fp δ σ H ∧ a δ = some (ds, δ') ∧ (ds = [.int n] ∧ m = 0 ∨ ds = [.int m, .int n]) ∧
  ∀ G' H', Step G (Owns fp) H G' (Owns fp) H' → Rel K pa G' fp δ' σ H' → Q m n H'
theorem rel_rg {K : PySem.W.Frag} {G : Hp} (m n : Int) : RpA K G (rgV m n) (rangeD m n) := by
  unfold rgV rangeD
  generalize List.range (n - m).toNat = l
  induction l with
  | nil => exact .nil
  | cons i l ih => exact .cons (.int _) ih
theorem prg_w {t t' : L2.St → Hp → (Int → Int → Hp → Prop) → Prop} (h : PRg X e t) (w : ∀ σ H Q, t' σ H Q → t σ H Q) : PRg X e t' := fun pins s σ H Q I q => h pins s σ H Q I (w σ H Q q)
theorem px_rg1 (h : PRg X e (tRg1 (tF X.K f))) : PRg X e (tRg X.K (sA1 f sA0)) := prg_w h fun σ H Q ⟨pa, G, fp, δ, ds, δ', m, n, R, q, c, k⟩ => by
  unfold sA1 sA0 at q
  split at q
  · rename_i x δ1 e1
    cases q
    rcases c with ⟨c, rfl⟩ | c
    · cases c
      refine ⟨pa, G, fp, δ, _, _, R, e1, fun v G' H' S R' r => ?_⟩
      cases r
      exact ⟨n, rfl, k G' H' S R'⟩
    · cases c
  · cases q
theorem px_rg2 (h : PRg X e (tRg2 (tF X.K f) (tF X.K g))) : PRg X e (tRg X.K (sA1 f (sA1 g sA0))) := prg_w h fun σ H Q ⟨pa, G, fp, δ, ds, δ', m, n, R, q, c, k⟩ => by
  unfold sA1 sA0 at q
  split at q
  · rename_i x δ1 e1
    split at q
    · rename_i xs δ2 e2
      split at e2
      · rename_i y δ3 e3
        cases e2
        cases q
        rcases c with ⟨c, rfl⟩ | c
        · cases c
        · cases c
          refine ⟨pa, G, fp, δ, _, _, R, e1, fun v G' H' S R' r => ?_⟩
          cases r
          refine ⟨pa, G', fp, _, _, _, R', e3, fun v2 G2 H2 S2 R2 r2 => ?_⟩
          cases r2
          exact ⟨m, n, rfl, rfl, k G2 H2 (S.trans S2) R2⟩
      · cases e2
    · cases q
  · cases q
theorem rg_cases {ds xs : List PyData} (h : rgOf ds = some xs) : ∃ m n : Int, (ds = [.int n] ∧ m = 0 ∨ ds = [.int m, .int n]) ∧ rgOk m n ∧ xs = rangeD m n := by
  unfold rgOf at h
  split at h
  · split at h
    · rename_i n hk; cases h; exact ⟨0, n, .inl ⟨rfl, rfl⟩, hk, rfl⟩
    · cases h
  · split at h
    · rename_i m n hk; cases h; exact ⟨m, n, .inr rfl, hk, rfl⟩
    · cases h
  · cases h
def tupRg (ds : List PyData) : Option PyData := match rgOf ds with
  | some xs => some (.tuple xs)
  | none => none
theorem rgz {m n : Int} (h : rgOk m n) : (rgV m n).length ≤ sizeLine := by rw [rgV_length, sizeLine_eq]; unfold rgOk at h; omega
theorem px_tupRg (h : PE X e (tTupRg (tRg X.K fa))) : PE X e (tF X.K (sCall tupRg fa)) := h.weak fun σ H Q ⟨pa, G, fp, δ, d, δ', R, q, k⟩ => by
  unfold sCall at q
  split at q
  · rename_i ds δ1 e1
    split at q
    · rename_i z e2
      cases q
      unfold tupRg at e2
      split at e2
      · rename_i xs e3
        cases e2
        obtain ⟨m, n, c, ok, rfl⟩ := rg_cases e3
        refine ⟨pa, G, fp, δ, ds, _, m, n, R, e1, c, fun G' H' S R' => ⟨ok, fun p hp => ?_⟩⟩
        exact stepT R' (fun v G2 H2 S2 R2 r => k v G2 H2 (S.trans S2) R2 r) hp (rgz ok) (rel_rg m n)
      · cases e2
    · cases q
  · cases q
theorem px_lstRg (h : PE X e (tLstRg (tRg X.K fa))) : PE X e (tL X.K (sCallL rgOf fa)) := h.weak fun σ H Q ⟨pa, G, fp, δ, d, δ', R, q, k⟩ => by
  unfold sCallL at q
  split at q
  · rename_i ds δ1 e1
    split at q
    · rename_i xs e3
      cases q
      obtain ⟨m, n, c, ok, rfl⟩ := rg_cases e3
      refine ⟨pa, G, fp, δ, ds, _, m, n, R, e1, c, fun G' H' S R' => ⟨ok, fun p hp => ?_⟩⟩
      exact k p _ G' _ (S.trans (.lay hp)) (R'.lay hp) upd_same (rel_rg m n) (R'.sub.none hp) (S.fresh (Owns.not R' hp) hp) (rgz ok)
    · cases q
  · cases q
end
end Fw

end
section
set_option Elab.async false
set_option linter.all false
set_option maxRecDepth 100000
/-! The law's call, where nothing is being shown. -/
namespace Fw
open PySem PySem.Spec PyProof.Rows L2
/-- at most the script is tracked, known to the object -/
structure Scr (K : PySem.W.Frag) (H : Hp) (a : Addr) (ns : List Int) : Prop where
  only : ∀ b, H b ≠ none → b = a ∧ ∃ o xs, H b = some (.frz o (.lst xs))
  sq : SqL K H a (ns.map V.int)
  out : H a ≠ none → K.lookup a = none
theorem Scr.siz {K : PySem.W.Frag} {H : Hp} {a : Addr} {ns : List Int} (h : Scr K H a ns) : Fw.siz H := fun b o e => by
  obtain ⟨_, u, xs, q⟩ := h.only b (by rw [e]; simp)
  rw [e] at q; cases q; exact trivial
theorem spS_law {K : PySem.W.Frag} {H : Hp} {a : Addr} {ns : List Int} {den : List Int → List PyData → Option PyData} (h : Scr K H a ns) (e : den ns [] = some (.bool true)) : spS K 0 den [.ref a] H (fun v _ => v = .bl true) E0 :=
  ⟨rfl, a, ns, H, [], .bool true, .refl H, h.siz, rfl, h.sq, .nil, e, fun v G' H' _ _ _ r => by cases r; rfl⟩
theorem run_scr {P : Program} {w : World} {K : PySem.W.Frag} {mg mb : Str → Option Value} {k : Nat} {fa a : Addr} {fd : FuncData} {x : Str} {sp : Sp} {s : Shared} {vs : List Value} {ns : List Int} {H : Hp}
    (KX : K.In s.heap) (nsg : s.heap.Ns mainGlobals mg) (nsb : s.heap.Ns builtinsNs mb) (bb : ∀ x : Str, x ≠ "__name__" → mb x = bootBuiltins x) (lim : s.heap.NoLimit) (gn : s.gens = #[])
    (ea : s.heap.get? a = some { cls := .type "list", data := .seq vs.toArray }) (room : Room k callerA)
    (F : ∀ base : Heap, K.In base → base.Ns mainGlobals mg → FnG P w K mg base k fa fd [x] sp) (bind : ∀ (s : Shared) (u : Value), BindsTo s fd ⟨[u], []⟩ [(x, u)])
    (S : Scr K H a ns) (hok : HOk P w H s.heap) (hs : sp [.ref a] H (fun v _ => v = .bl true) E0) :
    codeAny (model P w) callerA (.call (.ref fa) ⟨[.ref a], []⟩) (fun r s' => r = .ok (.ret (.bool true)) ∧ OldK s.heap s'.heap ∧ s'.os = s.os ∧ AllBare s'.gens) s := by
  have dict_none : ∀ {b : Addr} {o : Obj} {es : Array DictEntry} {ep : Nat}, s.heap.get? b = some o → o.data = .dict es ep → H b = none := by
    intro b o es ep e d
    by_cases q : H b = none
    · exact q
    · have := (S.only b q).1
      subst this
      rw [ea] at e
      cases e
      cases d
  have names : ∀ {b : Addr} {m : Str → Option Value}, s.heap.Ns b m → (hidT s.heap H).Ns b m := by
    rintro b m ⟨o, es, ep, e, d, r⟩
    exact ⟨o, es, ep, hidT_get e (dict_none e d), d, r⟩
  have kin : K.In (hidT s.heap H) := by
    intro b o e
    apply hidT_get (KX b o e)
    by_cases q : H b = none
    · exact q
    · have := (S.only b q).1
      subst this
      rw [S.out q] at e
      cases e
  obtain ⟨mc, l1, l2⟩ := lim
  have md : Mod K mg (hidT s.heap H) := ⟨kin, names nsg, ⟨mb, names nsb, bb⟩, ⟨mc, names l1, l2⟩⟩
  have nil_no : ∀ b : Addr, b ∉ ([] : List Addr) := fun b z => by cases z
  have e0 : Env0 P w K mg (hidT s.heap H) callerA [] s H := ⟨rfl, md, fun b o e => of_hidT e, Nat.le_of_eq (hidT_size _ _), trivial, fun b z => absurd z (nil_no b), hok, .of_eq gn⟩
  apply codeAny_mono ((F _ kin (names nsg)).go (Q := fun v _ => v = .bl true) (show callerA.guards = some [] from rfl) room e0 (bind s (.ref a)) (us := [.ref a]) (vs := [.ref a]) (.cons (show RelV (.ref a) (.ref a) from rfl) .nil) hs)
  intro r s' h
  match r, h with
  | .ok (.ret u), ⟨v, H', os, bare, un, hok', r', q⟩ =>
    have q' : v = .bl true := q
    subst q'
    obtain rfl : u = Value.bool true := r'
    refine ⟨rfl, OldK.of_keep fun b o e => ?_, os, bare⟩
    by_cases q : H b = none
    · exact un.keep b o e q (nil_no b) (by simp)
    · obtain ⟨_, u, xs, z⟩ := S.only b q
      have g1 := (hok b _ z).1
      have g2 := (hok' b _ (un.frzs b u _ z)).1
      rw [e] at g1
      rw [g2, ← g1]
theorem run_law {P : Program} {w : World} {K : PySem.W.Frag} {mg mb : Str → Option Value} {k : Nat} {fa a : Addr} {fd : FuncData} {x : Str} {den : List Int → List PyData → Option PyData} {s : Shared} {vs : List Value} {ns : List Int}
    (KX : K.In s.heap) (nsg : s.heap.Ns mainGlobals mg) (nsb : s.heap.Ns builtinsNs mb) (bb : ∀ x : Str, x ≠ "__name__" → mb x = bootBuiltins x) (lim : s.heap.NoLimit) (gn : s.gens = #[])
    (ea : s.heap.get? a = some { cls := .type "list", data := .seq vs.toArray }) (hi : IntsAre vs ns) (hl : ns.length ≤ sizeLine) (room : Room k callerA)
    (F : ∀ base : Heap, K.In base → base.Ns mainGlobals mg → FnG P w K mg base k fa fd [x] (spS K 0 den)) (bind : ∀ (s : Shared) (u : Value), BindsTo s fd ⟨[u], []⟩ [(x, u)]) (hd : den ns [] = some (.bool true)) :
    codeAny (model P w) callerA (.call (.ref fa) ⟨[.ref a], []⟩) (fun r s' => r = .ok (.ret (.bool true)) ∧ OldK s.heap s'.heap ∧ s'.os = s.os ∧ AllBare s'.gens) s := by
  have rv := vals_ints hi
  have lv := hi.length
  by_cases hk : ∃ o, K.lookup a = some o
  · obtain ⟨o, hk⟩ := hk
    have e := (KX a o hk).symm.trans ea
    cases e
    have S : Scr K (fun _ => none) a ns := ⟨fun b z => absurd rfl z, .inr ⟨_, vs.toArray, _, hk, rfl, rfl, rfl, by rw [List.size_toArray, lv]; exact hl, by simpa using rv⟩, fun z => absurd rfl z⟩
    exact run_scr KX nsg nsb bb lim gn ea room F bind S (fun b u z => nomatch z) (spS_law S hd)
  · have hn : K.lookup a = none := by
      cases q : K.lookup a with
      | none => rfl
      | some o => exact absurd ⟨o, q⟩ hk
    let ob : Obj := { cls := .type "list", data := .seq vs.toArray }
    let H : Hp := fun b => if b = a then some (.frz ob (.lst (ns.map V.int))) else none
    have at_a : H a = some (.frz ob (.lst (ns.map V.int))) := if_pos rfl
    have no : ∀ b, b ≠ a → H b = none := fun b z => if_neg z
    have S : Scr K H a ns := ⟨fun b z => by
      by_cases q : b = a
      · subst q; exact ⟨rfl, _, _, at_a⟩
      · exact absurd (no b q) z, .inl (.inr ⟨ob, at_a⟩), fun _ => hn⟩
    refine run_scr KX nsg nsb bb lim gn ea room F bind S (fun b u z => ?_) (spS_law S hd)
    by_cases q : b = a
    · subst q
      rw [at_a] at z
      cases z
      exact ⟨ea, by rw [List.length_map]; exact hl, vs, _, rv, ea⟩
    · rw [no b q] at z; cases z
/-- what the head leaves, from the walk and the plain law -/
theorem walk_g {l : PySem.W.OpenLaw} {n k : Nat} {q : Program} {loose : List Str} {XP : (Str → Option Value) → Heap → Prop} {YP : World → Heap → Prop} {d : DefRec} {x : Str} {den : List Int → List PyData → Option PyData}
    (hn : l.most = some n) (hn2 : n ≤ sizeLine) (hdf : d.params.defaults = []) (room : Room k callerA)
    (F : ∀ (w : World) (mg : Str → Option Value) (fa : Addr) (h : Heap), YP w h → h.Ns mainGlobals mg → mg d.name = some (.ref fa) →
      ∃ (K : PySem.W.Frag) (fd : FuncData), K.In h ∧ (∀ (s : Shared) (u : Value), BindsTo s fd ⟨[u], []⟩ [(x, u)]) ∧ ∀ base : Heap, K.In base → base.Ns mainGlobals mg → FnG l.prog w K mg base k fa fd [x] (spS K 0 den))
    (law : ∀ ns : List Int, ns.length ≤ n → den ns [] = some (.bool true)) : PySem.W.WalkO q loose XP YP l.row.toRowW d [] (fun f vs => PySem.call f vs) := by
  apply Att.attach_call hn hdf
  intro w s₀ s₁ mg mb fa o pm cd doc a vs ns G Y ho hd hcd hmg hobj hints hlen hg
  obtain ⟨K, fd, KX, hb, hF⟩ := F w mg fa _ Y G.T.g hmg
  exact run_law KX G.T.g G.T.b G.T.builtins G.T.nolimit hg hobj hints (Nat.le_trans hlen hn2) room hF hb (law ns hlen)
theorem isi_any (K : PySem.W.Frag) : Isi K "int" ∧ Isi K "bool" ∧ Isi K "tuple" ∧ Isi K "list" ∧ Isi K "str" := by
  refine ⟨⟨fun t h => ?_⟩, ⟨fun t h => ?_⟩, ⟨fun t h => ?_⟩, ⟨fun t h => ?_⟩, ⟨fun t h => ?_⟩⟩ <;>
  · simp only [List.mem_cons, List.not_mem_nil, or_false] at h
    rcases h with rfl | rfl | rfl | rfl | rfl | rfl <;> first | rfl | decide +kernel
end Fw

end
section
set_option Elab.async false
set_option linter.all false
set_option maxRecDepth 100000
namespace L95
open PySem PySem.Spec PyProof.Rows L2 Fw
/-- slots: 0 script 1 salt 2 many 3 pool 4 seed 5 cell 6 left 7 k -/
noncomputable def i_law_pool : FS :=
    (xSeq (xPar [3, 4] (rL (sLst sA0) (rF (sV 1) rNil)))
    (xSeq (xFor (wIx (sSlS 0 oN (oS (sC (.int 63))))) (gN 5) (xSeq (xSet 6 (sCall absR (sA1 (sCall intR (sA1 (sV 5) sA0)) sA0)))
    (xSeq (xSet 4 (s2 modR (sCall intR (sA1 (s2 addR (s2 addR (s2 addR (s2 mulR (sV 4) (sC (.int 16807))) (s2 modR (sCall intR (sA1 (sV 6) sA0)) (sC (.int 2147483587)))) (s2 mulR (sC (.int 5)) (sCall intR (sA1 (s2 ltR (sV 5) (sC (.int 0))) sA0)))) (sC (.int 1))) sA0)) (sC (.int 2147483629))))
    (xIf (sB (s2 geR (sV 6) (s2 powR (sC (.int 10)) (sC (.int 18))))) (xFor (wRng1 (sA1 (sC (.int 45)) sA0)) (gN 7) (xIf (sB (s2 gtR (sV 6) (sC (.int 0)))) (xSeq (xApp 3 (s2 modR (sCall intR (sA1 (sV 6) sA0)) (sC (.int 10000))))
    (xSet 6 (s2 fdivR (sV 6) (sC (.int 10000))))) xNil)) xNil))))
    (xSeq (xFor (wRng1 (sA1 (sV 2) sA0)) (gN 7) (xSeq (xSet 4 (s2 modR (sCall intR (sA1 (s2 addR (s2 addR (s2 mulR (sV 4) (sC (.int 48271))) (s2 mulR (sV 7) (sV 7))) (sC (.int 13))) sA0)) (sC (.int 2147483629))))
    (xApp 3 (s2 modR (sCall intR (sA1 (s2 fdivR (s2 modR (sCall intR (sA1 (s2 mulR (sV 4) (s2 addR (sV 4) (sC (.int 3)))) sA0)) (sC (.int 2147483587))) (sC (.int 997))) sA0)) (sC (.int 10000))))))
    (xRetL (sRevO 3)))))
noncomputable abbrev d_law_pool : List Int → List PyData → Option (List PyData) := denSL 2 5 i_law_pool
/-- slots: 0 pool 1 limit -/
noncomputable def i_law_take : FS :=
    (xSeq (xIf (sB (sCmpO 0 eqR (sFz (sLst sA0)))) (xRet (sC (.int 0))) xNil)
    (xRet (s2 modR (sCall intR (sA1 (sPop 0) sA0)) (sV 1))))
noncomputable abbrev d_law_take : List PyData → List PyData → Option (PyData × List PyData) := denM 1 0 i_law_take
/-- slots: 0 pool 1 most 2 widest 3 many 4 stairs 5 at -/
noncomputable def i_law_path : FS :=
    (xSeq (xSet 3 (s2 addR (sC (.int 2)) (sCallM 0 d_law_take (sA1 (s2 subR (sV 1) (sC (.int 1))) sA0))))
    (xSeq (xSet 4 (sFz (sLc [5] (wRng1 (sA1 (s2 subR (sV 3) (sC (.int 1))) sA0)) (gN 5) sYes (sTup (sA1 (sV 5) (sA1 (s2 addR (sV 5) (sC (.int 1))) (sA1 (s2 addR (sC (.int 1)) (sCallM 0 d_law_take (sA1 (sC (.int 6)) sA0))) (sA1 (s2 addR (sC (.int 1)) (sCallM 0 d_law_take (sA1 (sV 2) sA0))) sA0))))))))
    (xRet (sTup (sA1 (sV 3) (sA1 (sCall tupleR (sA1 (sV 4) sA0)) sA0))))))
noncomputable abbrev d_law_path : List PyData → List PyData → Option (PyData × List PyData) := denM 2 3 i_law_path
/-- slots: 0 value 1 low 2 high -/
noncomputable def i_is_tuple : FS :=
    (xRet (sAnd (s1 (isiR "tuple") (sV 0)) (sChain leR leR (sV 1) (sCall lenR (sA1 (sV 0) sA0)) (sV 2))))
noncomputable abbrev d_is_tuple : List PyData → Option PyData := denF 3 0 i_is_tuple
/-- slots: 0 value -/
noncomputable def i_is_integer : FS :=
    (xRet (sAnd (s1 (isiR "int") (sV 0)) (s1 notR (s1 (isiR "bool") (sV 0)))))
noncomputable abbrev d_is_integer : List PyData → Option PyData := denF 1 0 i_is_integer
/-- slots: 0 value 1 low 2 high -/
noncomputable def i_is_between : FS :=
    (xRet (sAnd (sCall d_is_integer (sA1 (sV 0) sA0)) (sAnd (s2 leR (sV 1) (sV 0)) (sOr (s2 isNR (sV 2) (sC .none)) (s2 leR (sV 0) (sV 2))))))
noncomputable abbrev d_is_between : List PyData → Option PyData := denF 3 0 i_is_between
/-- slots: 0 many 1 value 2 item 3 begin 4 end 5 time 6 capacity -/
noncomputable def i_is_stair : FS :=
    (xSeq (xIf (sOrT (sNotT (sB (sCall d_is_tuple (sA1 (sV 1) (sA1 (sC (.int 4)) (sA1 (sC (.int 4)) sA0)))))) (sNotT (sB (sCall allR (sA1 (sFz (sLc [2] (wIx (sV 1)) (gN 2) sYes (sCall d_is_integer (sA1 (sV 2) sA0)))) sA0))))) (xRet (sC (.bool false))) xNil)
    (xSeq (xAsg (gT 4 (gCns (gN 3) (gCns (gN 4) (gCns (gN 5) (gCns (gN 6) gNil))))) (sV 1))
    (xSeq (xIf (sOrT (sNotT (sB (sCall d_is_between (sA1 (sV 3) (sA1 (sC (.int 0)) (sA1 (s2 subR (sV 0) (sC (.int 1))) sA0)))))) (sOrT (sNotT (sB (sCall d_is_between (sA1 (sV 4) (sA1 (sC (.int 0)) (sA1 (s2 subR (sV 0) (sC (.int 1))) sA0)))))) (sB (s2 eqR (sV 3) (sV 4))))) (xRet (sC (.bool false))) xNil)
    (xRet (sAnd (sCall d_is_between (sA1 (sV 5) (sA1 (sC (.int 1)) (sA1 (sC (.int 6)) sA0)))) (sCall d_is_between (sA1 (sV 6) (sA1 (sC (.int 1)) (sA1 (sC (.int 9)) sA0)))))))))
noncomputable abbrev d_is_stair : List PyData → Option PyData := denF 2 5 i_is_stair
/-- slots: 0 value 1 stair -/
noncomputable def i_is_hall : FS :=
    (xSeq (xIf (sOrT (sNotT (sB (sCall d_is_tuple (sA1 (sV 0) (sA1 (sC (.int 2)) (sA1 (sC (.int 2)) sA0)))))) (sOrT (sNotT (sB (sCall d_is_between (sA1 (s2 ixR (sV 0) (sC (.int 0))) (sA1 (sC (.int 1)) (sA1 (sC (.int 8)) sA0)))))) (sNotT (sB (sCall d_is_tuple (sA1 (s2 ixR (sV 0) (sC (.int 1))) (sA1 (sC (.int 0)) (sA1 (sC (.int 16)) sA0)))))))) (xRet (sC (.bool false))) xNil)
    (xRet (sCall allR (sA1 (sFz (sLc [1] (wIx (s2 ixR (sV 0) (sC (.int 1)))) (gN 1) sYes (sCall d_is_stair (sA1 (s2 ixR (sV 0) (sC (.int 0))) (sA1 (sV 1) sA0))))) sA0))))
noncomputable abbrev d_is_hall : List PyData → Option PyData := denF 1 1 i_is_hall
/-- slots: 0 hall -/
noncomputable def i_need_hall : FS :=
    (xIf (sNotT (sB (sCall d_is_hall (sA1 (sV 0) sA0)))) xNo xNil)
noncomputable abbrev d_need_hall : List PyData → Option PyData := denF 1 0 i_need_hall
/-- slots: 0 hall 1 value 2 own 3 one 4 other -/
noncomputable def i_is_this_route : FS :=
    (xSeq (xIf (sOrT (sNotT (sB (sCall d_is_tuple (sA1 (sV 1) (sA1 (sC (.int 1)) (sA1 (sC (.int 7)) sA0)))))) (sNotT (sB (sCall allR (sA1 (sFz (sLc [2] (wIx (sV 1)) (gN 2) sYes (sCall d_is_between (sA1 (sV 2) (sA1 (sC (.int 0)) (sA1 (s2 subR (sCall lenR (sA1 (s2 ixR (sV 0) (sC (.int 1))) sA0)) (sC (.int 1))) sA0)))))) sA0))))) (xRet (sC (.bool false))) xNil)
    (xSeq (xIf (sB (s2 neR (s1 lenSetR (sV 1)) (sCall lenR (sA1 (sV 1) sA0)))) (xRet (sC (.bool false))) xNil)
    (xRet (sCall allR (sA1 (sFz (sLc [3, 4] (wZip (sA1 (sV 1) (sA1 (sSl (sV 1) (oS (sC (.int 1))) oN) sA0))) (gT 2 (gCns (gN 3) (gCns (gN 4) gNil))) sYes (s2 eqR (s2 ixR (s2 ixR (s2 ixR (sV 0) (sC (.int 1))) (sV 3)) (sC (.int 1))) (s2 ixR (s2 ixR (s2 ixR (sV 0) (sC (.int 1))) (sV 4)) (sC (.int 0)))))) sA0)))))
noncomputable abbrev d_is_this_route : List PyData → Option PyData := denF 2 3 i_is_this_route
/-- slots: 0 hall 1 value -/
noncomputable def i_is_route : FS :=
    (xSeq (xDrop (sCall d_need_hall (sA1 (sV 0) sA0)))
    (xRet (sCall d_is_this_route (sA1 (sV 0) (sA1 (sV 1) sA0)))))
noncomputable abbrev d_is_route : List PyData → Option PyData := denF 2 0 i_is_route
/-- slots: 0 items 1 one 2 other -/
noncomputable def i_is_level : FS :=
    (xRet (sCall allR (sA1 (sFz (sLc [1, 2] (wZip (sA1 (sV 0) (sA1 (sSl (sV 0) (oS (sC (.int 1))) oN) sA0))) (gT 2 (gCns (gN 1) (gCns (gN 2) gNil))) sYes (s2 leR (sV 1) (sV 2)))) sA0)))
noncomputable abbrev d_is_level : List PyData → Option PyData := denF 1 2 i_is_level
/-- slots: 0 hall 1 value 2 own -/
noncomputable def i_are_people : FS :=
    (xSeq (xDrop (sCall d_need_hall (sA1 (sV 0) sA0)))
    (xSeq (xIf (sNotT (sB (sCall d_is_tuple (sA1 (sV 1) (sA1 (sC (.int 0)) (sA1 (sC (.int 40)) sA0)))))) (xRet (sC (.bool false))) xNil)
    (xSeq (xFor (wIx (sV 1)) (gN 2) (xIf (sOrT (sNotT (sB (sCall d_is_tuple (sA1 (sV 2) (sA1 (sC (.int 2)) (sA1 (sC (.int 2)) sA0)))))) (sOrT (sNotT (sB (sCall d_is_between (sA1 (s2 ixR (sV 2) (sC (.int 0))) (sA1 (sC (.int 0)) (sA1 (sC (.int 40)) sA0)))))) (sNotT (sB (sCall d_is_route (sA1 (sV 0) (sA1 (s2 ixR (sV 2) (sC (.int 1))) sA0))))))) (xRet (sC (.bool false))) xNil))
    (xRet (sCall d_is_level (sA1 (sFz (sLc [2] (wIx (sV 1)) (gN 2) sYes (s2 ixR (sV 2) (sC (.int 0))))) sA0))))))
noncomputable abbrev d_are_people : List PyData → Option PyData := denF 2 1 i_are_people
/-- slots: 0 hall 1 people -/
noncomputable def i_need_people : FS :=
    (xIf (sNotT (sB (sCall d_are_people (sA1 (sV 0) (sA1 (sV 1) sA0))))) xNo xNil)
noncomputable abbrev d_need_people : List PyData → Option PyData := denF 2 0 i_need_people
/-- slots: 0 hall 1 stair -/
noncomputable def i_nobody : FS :=
    (xRet (sTup (sA1 (sC (.int 0)) (sA1 (sCall tupleR (sA1 (sFz (sLc [1] (wIx (s2 ixR (sV 0) (sC (.int 1)))) (gN 1) sYes (sTup sA0))) sA0)) (sA1 (sTup sA0) (sA1 (sTup sA0) sA0))))))
noncomputable abbrev d_nobody : List PyData → Option PyData := denF 1 1 i_nobody
/-- slots: 0 state 1 line -/
noncomputable def i_is_empty : FS :=
    (xRet (sAnd (s2 eqR (s2 ixR (sV 0) (sC (.int 2))) (sTup sA0)) (sCall allR (sA1 (sFz (sLc [1] (wIx (s2 ixR (sV 0) (sC (.int 1)))) (gN 1) sYes (s2 eqR (sV 1) (sTup sA0)))) sA0))))
noncomputable abbrev d_is_empty : List PyData → Option PyData := denF 1 1 i_is_empty
/-- slots: 0 routes 1 state 2 newcomers 3 tick 4 stand 5 ride 6 out 7 coming 8 end 9 person 10 step 11 lines 12 gone 13 line 14 route 15 still 16 own -/
noncomputable def i_come_in : FS :=
    (xSeq (xAsg (gT 4 (gCns (gN 3) (gCns (gN 4) (gCns (gN 5) (gCns (gN 6) gNil))))) (sV 1))
    (xSeq (xSet 7 (sFz (sLc [8, 9, 10] (wIx (sV 5)) (gT 3 (gCns (gN 8) (gCns (gN 9) (gCns (gN 10) gNil)))) (sB (s2 eqR (sV 8) (sV 3))) (sTup (sA1 (sV 9) (sA1 (s2 addR (sV 10) (sC (.int 1))) sA0))))))
    (xSeq (xSet 7 (sFz (sCallL sortedR (sA1 (s2 addR (sV 7) (sFz (sLc [9] (wIx (sV 2)) (gN 9) sYes (sTup (sA1 (sV 9) (sA1 (sC (.int 0)) sA0)))))) sA0))))
    (xSeq (xPar [11, 12] (rLL (sLL [13] (wIx (sV 4)) (gN 13) (sCallL listR (sA1 (sV 13) sA0))) (rL (sCallL listR (sA1 (sV 6) sA0)) rNil)))
    (xSeq (xFor (wIx (sV 7)) (gT 2 (gCns (gN 9) (gCns (gN 10) gNil))) (xSeq (xSet 14 (s2 ixR (sV 0) (s2 modR (sV 9) (sCall lenR (sA1 (sV 0) sA0)))))
    (xIf (sB (s2 eqR (sV 10) (sCall lenR (sA1 (sV 14) sA0)))) (xApp 12 (sTup (sA1 (sV 3) (sA1 (sV 9) sA0)))) (xSeq (xAl 13 11 (s2 ixR (sV 14) (sV 10)))
    (xApp 13 (sTup (sA1 (sV 9) (sA1 (sV 10) (sA1 (sV 3) sA0)))))))))
    (xSeq (xSet 15 (sCall tupleR (sA1 (sFz (sLc [16] (wIx (sV 5)) (gN 16) (sB (s2 gtR (s2 ixR (sV 16) (sC (.int 0))) (sV 3))) (sV 16))) sA0)))
    (xUn 13 (xIce 11 (xIce 12 (xRet (sTup (sA1 (sV 3) (sA1 (sCall tupleR (sA1 (sFz (sLc [13] (wIx (sV 11)) (gN 13) sYes (sCall tupleR (sA1 (sV 13) sA0)))) sA0)) (sA1 (sV 15) (sA1 (sCall tupleR (sA1 (sV 12) sA0)) sA0)))))))))))))))
noncomputable abbrev d_come_in : List PyData → Option PyData := denF 3 14 i_come_in
/-- slots: 0 hall 1 state 2 stopped 3 tick 4 stand 5 ride 6 out 7 riding 8 went 9 lines 10 index 11 line 12 begin 13 end 14 time 15 capacity 16 many 17 person 18 step 19 come -/
noncomputable def i_go_on : FS :=
    (xSeq (xAsg (gT 4 (gCns (gN 3) (gCns (gN 4) (gCns (gN 5) (gCns (gN 6) gNil))))) (sV 1))
    (xSeq (xPar [7, 8, 9] (rL (sCallL listR (sA1 (sV 5) sA0)) (rL (sLst sA0) (rL (sLst sA0) rNil))))
    (xSeq (xFor (wEnum (sA1 (sV 4) sA0)) (gT 2 (gCns (gN 10) (gCns (gN 11) gNil))) (xSeq (xAsg (gT 4 (gCns (gN 12) (gCns (gN 13) (gCns (gN 14) (gCns (gN 15) gNil))))) (s2 ixR (s2 ixR (sV 0) (sC (.int 1))) (sV 10)))
    (xSeq (xSet 16 (sIf (sB (s2 inR (sV 10) (sV 2))) (sC (.int 0)) (sCall minR (sA1 (sV 15) (sA1 (sCall lenR (sA1 (sV 11) sA0)) sA0)))))
    (xSeq (xFor (wIx (sSl (sV 11) oN (oS (sV 16)))) (gT 3 (gCns (gN 17) (gCns (gN 18) (gCns (gN 19) gNil)))) (xSeq (xApp 7 (sTup (sA1 (s2 addR (sV 3) (sV 14)) (sA1 (sV 17) (sA1 (sV 18) sA0)))))
    (xApp 8 (sTup (sA1 (sV 17) (sA1 (sV 10) (sA1 (sV 19) sA0)))))))
    (xApp 9 (sSl (sV 11) (oS (sV 16)) oN))))))
    (xIce 7 (xIce 8 (xIce 9 (xRet (sTup (sA1 (sTup (sA1 (s2 addR (sV 3) (sC (.int 1))) (sA1 (sCall tupleR (sA1 (sV 9) sA0)) (sA1 (sCall tupleR (sA1 (sV 7) sA0)) (sA1 (sV 6) sA0))))) (sA1 (sV 8) sA0))))))))))
noncomputable abbrev d_go_on : List PyData → Option PyData := denF 3 17 i_go_on
/-- slots: 0 hall 1 people 2 routes 3 tick 4 route 5 found 6 state 7 known 8 newcomers 9 k 10 went 11 person 12 stair 13 come 14 log -/
noncomputable def i_log_of : FS :=
    (xSeq (xSet 2 (sFz (sLc [3, 4] (wIx (sV 1)) (gT 2 (gCns (gN 3) (gCns (gN 4) gNil))) sYes (sV 4))))
    (xSeq (xPar [5, 6, 7] (rLL (sLL [4] (wIx (sV 2)) (gN 4) (sLst sA0)) (rF (sCall d_nobody (sA1 (sV 0) sA0)) (rF (sC (.int 0)) rNil))))
    (xSeq (xWhile (sOrT (sB (s2 ltR (sV 7) (sCall lenR (sA1 (sV 1) sA0)))) (sNotT (sB (sCall d_is_empty (sA1 (sV 6) sA0))))) (xSeq (xSet 8 (sFz (sLc [9] (wRng2 (sA1 (sV 7) (sA1 (sCall lenR (sA1 (sV 1) sA0)) sA0))) (gN 9) (sB (s2 eqR (s2 ixR (s2 ixR (sV 1) (sV 9)) (sC (.int 0))) (s2 ixR (sV 6) (sC (.int 0))))) (sV 9))))
    (xSeq (xSet 7 (s2 addR (sV 7) (sCall lenR (sA1 (sV 8) sA0))))
    (xSeq (xSet 6 (sCall d_come_in (sA1 (sV 2) (sA1 (sV 6) (sA1 (sV 8) sA0)))))
    (xSeq (xSet 3 (s2 ixR (sV 6) (sC (.int 0))))
    (xSeq (xAsg (gT 2 (gCns (gN 6) (gCns (gN 10) gNil))) (sCall d_go_on (sA1 (sV 0) (sA1 (sV 6) (sA1 (sTup sA0) sA0)))))
    (xFor (wIx (sV 10)) (gT 3 (gCns (gN 11) (gCns (gN 12) (gCns (gN 13) gNil)))) (xSeq (xAl 14 5 (sV 11))
    (xApp 14 (sTup (sA1 (sV 13) (sA1 (sV 3) sA0))))))))))))
    (xUn 14 (xIce 5 (xRet (sV 5)))))))
noncomputable abbrev d_log_of : List PyData → Option PyData := denF 2 13 i_log_of
/-- slots: 0 hall 1 people 2 log -/
noncomputable def i_rides_of : FS :=
    (xRet (sCall tupleR (sA1 (sFz (sLc [2] (wIx (sCall d_log_of (sA1 (sV 0) (sA1 (sV 1) sA0)))) (gN 2) sYes (sCall tupleR (sA1 (sV 2) sA0)))) sA0)))
noncomputable abbrev d_rides_of : List PyData → Option PyData := denF 2 1 i_rides_of
/-- slots: 0 hall 1 people 2 found 3 own 4 ride 5 last -/
noncomputable def i_outs_of : FS :=
    (xSeq (xSetL 2 (sLst sA0))
    (xSeq (xFor (wZip (sA1 (sV 1) (sA1 (sCall d_rides_of (sA1 (sV 0) (sA1 (sV 1) sA0))) sA0))) (gT 2 (gCns (gN 3) (gCns (gN 4) gNil))) (xSeq (xSet 5 (s2 ixR (s2 ixR (sV 3) (sC (.int 1))) (s1 negR (sC (.int 1)))))
    (xApp 2 (s2 addR (s2 ixR (s2 ixR (sV 4) (s1 negR (sC (.int 1)))) (sC (.int 1))) (s2 ixR (s2 ixR (s2 ixR (sV 0) (sC (.int 1))) (sV 5)) (sC (.int 2)))))))
    (xIce 2 (xRet (sCall tupleR (sA1 (sV 2) sA0))))))
noncomputable abbrev d_outs_of : List PyData → Option PyData := denF 2 4 i_outs_of
/-- slots: 0 hall 1 people -/
noncomputable def i_out_ticks : FS :=
    (xSeq (xDrop (sCall d_need_people (sA1 (sV 0) (sA1 (sV 1) sA0))))
    (xRet (sCall d_outs_of (sA1 (sV 0) (sA1 (sV 1) sA0)))))
noncomputable abbrev d_out_ticks : List PyData → Option PyData := denF 2 0 i_out_ticks
/-- slots: 0 hall 1 people 2 come 3 go 4 ride -/
noncomputable def i_waits : FS :=
    (xSeq (xDrop (sCall d_need_people (sA1 (sV 0) (sA1 (sV 1) sA0))))
    (xRet (sCall tupleR (sA1 (sFz (sLc [4] (wIx (sCall d_rides_of (sA1 (sV 0) (sA1 (sV 1) sA0)))) (gN 4) sYes (sCall tupleR (sA1 (sFz (sLc [2, 3] (wIx (sV 4)) (gT 2 (gCns (gN 2) (gCns (gN 3) gNil))) sYes (s2 subR (sV 3) (sV 2)))) sA0)))) sA0))))
noncomputable abbrev d_waits : List PyData → Option PyData := denF 2 3 i_waits
/-- slots: 0 value 1 item -/
noncomputable def i_is_beat : FS :=
    (xSeq (xIf (sOrT (sNotT (sB (sCall d_is_tuple (sA1 (sV 0) (sA1 (sC (.int 1)) (sA1 (sC (.int 6)) sA0)))))) (sNotT (sB (sCall allR (sA1 (sFz (sLc [1] (wIx (sV 0)) (gN 1) sYes (sCall d_is_between (sA1 (sV 1) (sA1 (sC (.int 0)) (sA1 (sC (.int 9)) sA0)))))) sA0))))) (xRet (sC (.bool false))) xNil)
    (xRet (s2 gtR (sCall sumR (sA1 (sV 0) sA0)) (sC (.int 0)))))
noncomputable abbrev d_is_beat : List PyData → Option PyData := denF 1 1 i_is_beat
/-- slots: 0 value 1 own -/
noncomputable def i_is_row : FS :=
    (xSeq (xIf (sNotT (sB (sCall d_is_tuple (sA1 (sV 0) (sA1 (sC (.int 1)) (sA1 (sC (.int 4)) sA0)))))) (xRet (sC (.bool false))) xNil)
    (xSeq (xFor (wIx (sV 0)) (gN 1) (xIf (sOrT (sNotT (sB (sCall d_is_tuple (sA1 (sV 1) (sA1 (sC (.int 2)) (sA1 (sC (.int 2)) sA0)))))) (sOrT (sNotT (sB (sCall d_is_between (sA1 (s2 ixR (sV 1) (sC (.int 0))) (sA1 (sC (.int 0)) (sA1 (sC (.int 6)) sA0)))))) (sNotT (sB (sCall d_is_beat (sA1 (s2 ixR (sV 1) (sC (.int 1))) sA0)))))) (xRet (sC (.bool false))) xNil))
    (xRet (sCall allR (sA1 (sFz (sLc [1] (wIx (sV 0)) (gN 1) sYes (s2 eqR (sCall lenR (sA1 (s2 ixR (sV 1) (sC (.int 1))) sA0)) (sCall lenR (sA1 (s2 ixR (s2 ixR (sV 0) (sC (.int 0))) (sC (.int 1))) sA0))))) sA0)))))
noncomputable abbrev d_is_row : List PyData → Option PyData := denF 1 1 i_is_row
/-- slots: 0 row -/
noncomputable def i_need_row : FS :=
    (xIf (sNotT (sB (sCall d_is_row (sA1 (sV 0) sA0)))) xNo xNil)
noncomputable abbrev d_need_row : List PyData → Option PyData := denF 1 0 i_need_row
/-- slots: 0 value 1 tick -/
noncomputable def i_are_ticks : FS :=
    (xSeq (xIf (sOrT (sNotT (sB (sCall d_is_tuple (sA1 (sV 0) (sA1 (sC (.int 0)) (sA1 (sC (.int 600)) sA0)))))) (sNotT (sB (sCall allR (sA1 (sFz (sLc [1] (wIx (sV 0)) (gN 1) sYes (sCall d_is_between (sA1 (sV 1) (sA1 (sC (.int 0)) (sA1 (sC (.int 10000)) sA0)))))) sA0))))) (xRet (sC (.bool false))) xNil)
    (xRet (sCall d_is_level (sA1 (sV 0) sA0))))
noncomputable abbrev d_are_ticks : List PyData → Option PyData := denF 1 1 i_are_ticks
/-- slots: 0 ticks -/
noncomputable def i_need_ticks : FS :=
    (xIf (sNotT (sB (sCall d_are_ticks (sA1 (sV 0) sA0)))) xNo xNil)
noncomputable abbrev d_need_ticks : List PyData → Option PyData := denF 1 0 i_need_ticks
/-- slots: 0 beat 1 comes 2 found 3 tick 4 used 5 come -/
noncomputable def i_beat_goes : FS :=
    (xSeq (xPar [2, 3, 4] (rL (sLst sA0) (rF (sC (.int 0)) (rF (sC (.int 0)) rNil))))
    (xSeq (xFor (wIx (sV 1)) (gN 5) (xSeq (xIf (sB (s2 gtR (sV 5) (sV 3))) (xPar [3, 4] (rF (sV 5) (rF (sC (.int 0)) rNil))) xNil)
    (xSeq (xWhile (sB (s2 eqR (sV 4) (s2 ixR (sV 0) (s2 modR (sV 3) (sCall lenR (sA1 (sV 0) sA0)))))) (xPar [3, 4] (rF (s2 addR (sV 3) (sC (.int 1))) (rF (sC (.int 0)) rNil))))
    (xSeq (xApp 2 (sV 3))
    (xAug 4 (fun i j => i + j) (sC (.int 1)))))))
    (xIce 2 (xRet (sV 2)))))
noncomputable abbrev d_beat_goes : List PyData → Option PyData := denF 2 4 i_beat_goes
/-- slots: 0 row 1 ticks 2 comes 3 time 4 beat 5 go -/
noncomputable def i_outs_in : FS :=
    (xSeq (xSet 2 (sFz (sCallL listR (sA1 (sV 1) sA0))))
    (xSeq (xFor (wIx (sV 0)) (gT 2 (gCns (gN 3) (gCns (gN 4) gNil))) (xSet 2 (sFz (sLc [5] (wIx (sCall d_beat_goes (sA1 (sV 4) (sA1 (sV 2) sA0)))) (gN 5) sYes (s2 addR (sV 5) (sV 3))))))
    (xRet (sV 2))))
noncomputable abbrev d_outs_in : List PyData → Option PyData := denF 2 4 i_outs_in
/-- slots: 0 row 1 ticks -/
noncomputable def i_row_out : FS :=
    (xSeq (xDrop (sCall d_need_row (sA1 (sV 0) sA0)))
    (xSeq (xDrop (sCall d_need_ticks (sA1 (sV 1) sA0)))
    (xRet (sCall tupleR (sA1 (sCall d_outs_in (sA1 (sV 0) (sA1 (sV 1) sA0))) sA0)))))
noncomputable abbrev d_row_out : List PyData → Option PyData := denF 2 0 i_row_out
/-- slots: 0 row 1 ticks 2 found 3 comes 4 time 5 beat 6 goes 7 go -/
noncomputable def i_goes_in : FS :=
    (xSeq (xPar [2, 3] (rL (sLst sA0) (rF (sFz (sCallL listR (sA1 (sV 1) sA0))) rNil)))
    (xSeq (xFor (wIx (sV 0)) (gT 2 (gCns (gN 4) (gCns (gN 5) gNil))) (xSeq (xSet 6 (sCall d_beat_goes (sA1 (sV 5) (sA1 (sV 3) sA0))))
    (xSeq (xApp 2 (sTup (sA1 (sV 3) (sA1 (sV 6) sA0))))
    (xSet 3 (sFz (sLc [7] (wIx (sV 6)) (gN 7) sYes (s2 addR (sV 7) (sV 4))))))))
    (xIce 2 (xRet (sV 2)))))
noncomputable abbrev d_goes_in : List PyData → Option PyData := denF 2 6 i_goes_in
/-- slots: 0 row 1 ticks 2 log 3 comes 4 goes 5 person -/
noncomputable def i_row_waits : FS :=
    (xSeq (xDrop (sCall d_need_row (sA1 (sV 0) sA0)))
    (xSeq (xDrop (sCall d_need_ticks (sA1 (sV 1) sA0)))
    (xSeq (xSet 2 (sCall d_goes_in (sA1 (sV 0) (sA1 (sV 1) sA0))))
    (xRet (sCall tupleR (sA1 (sFz (sLc [5] (wRng1 (sA1 (sCall lenR (sA1 (sV 1) sA0)) sA0)) (gN 5) sYes (sCall tupleR (sA1 (sFz (sLc [3, 4] (wIx (sV 2)) (gT 2 (gCns (gN 3) (gCns (gN 4) gNil))) sYes (s2 subR (s2 ixR (sV 4) (sV 5)) (s2 ixR (sV 3) (sV 5))))) sA0)))) sA0))))))
noncomputable abbrev d_row_waits : List PyData → Option PyData := denF 2 4 i_row_waits
/-- slots: 0 beat 1 dues 2 found 3 tick 4 used 5 due -/
noncomputable def i_latest_goes : FS :=
    (xSeq (xPar [2, 3, 4] (rL (sLst sA0) (rF (sIf (sB (s2 neR (sV 1) (sFz (sLst sA0)))) (s2 ixR (sV 1) (s1 negR (sC (.int 1)))) (sC (.int 0))) (rF (sC (.int 0)) rNil))))
    (xSeq (xFor (wIx (sFz (sRevD (sV 1)))) (gN 5) (xSeq (xIf (sB (s2 ltR (sV 5) (sV 3))) (xPar [3, 4] (rF (sV 5) (rF (sC (.int 0)) rNil))) xNil)
    (xSeq (xWhile (sAndT (sB (s2 geR (sV 3) (sC (.int 0)))) (sB (s2 eqR (sV 4) (s2 ixR (sV 0) (s2 modR (sV 3) (sCall lenR (sA1 (sV 0) sA0))))))) (xPar [3, 4] (rF (s2 subR (sV 3) (sC (.int 1))) (rF (sC (.int 0)) rNil))))
    (xSeq (xIf (sB (s2 ltR (sV 3) (sC (.int 0)))) (xRet (sC .none)) xNil)
    (xSeq (xApp 2 (sV 3))
    (xAug 4 (fun i j => i + j) (sC (.int 1))))))))
    (xRet (sFz (sRevO 2)))))
noncomputable abbrev d_latest_goes : List PyData → Option PyData := denF 2 4 i_latest_goes
/-- slots: 0 row 1 wanted 2 dues 3 time 4 beat 5 due -/
noncomputable def i_latest_in : FS :=
    (xSeq (xSet 2 (sFz (sCallL listR (sA1 (sV 1) sA0))))
    (xSeq (xFor (wIx (s1 revTR (sV 0))) (gT 2 (gCns (gN 3) (gCns (gN 4) gNil))) (xSeq (xSet 2 (sCall d_latest_goes (sA1 (sV 4) (sA1 (sFz (sLc [5] (wIx (sV 2)) (gN 5) sYes (s2 subR (sV 5) (sV 3)))) sA0))))
    (xIf (sB (s2 isNR (sV 2) (sC .none))) (xRet (sC .none)) xNil)))
    (xRet (sV 2))))
noncomputable abbrev d_latest_in : List PyData → Option PyData := denF 2 4 i_latest_in
/-- slots: 0 row 1 ticks -/
noncomputable def i_held_back : FS :=
    (xSeq (xDrop (sCall d_need_row (sA1 (sV 0) sA0)))
    (xSeq (xDrop (sCall d_need_ticks (sA1 (sV 1) sA0)))
    (xRet (sCall tupleR (sA1 (sCall d_latest_in (sA1 (sV 0) (sA1 (sCall d_outs_in (sA1 (sV 0) (sA1 (sV 1) sA0))) sA0))) sA0)))))
noncomputable abbrev d_held_back : List PyData → Option PyData := denF 2 0 i_held_back
/-- slots: 0 row 1 ticks 2 outs -/
noncomputable def i_least_inside : FS :=
    (xSeq (xDrop (sCall d_need_row (sA1 (sV 0) sA0)))
    (xSeq (xDrop (sCall d_need_ticks (sA1 (sV 1) sA0)))
    (xSeq (xSet 2 (sCall d_outs_in (sA1 (sV 0) (sA1 (sV 1) sA0))))
    (xRet (s2 subR (sCall sumR (sA1 (sV 2) sA0)) (sCall sumR (sA1 (sCall d_latest_in (sA1 (sV 0) (sA1 (sV 2) sA0))) sA0)))))))
noncomputable abbrev d_least_inside : List PyData → Option PyData := denF 2 1 i_least_inside
/-- slots: 0 row 1 ticks 2 come 3 out -/
noncomputable def i_inside : FS :=
    (xSeq (xDrop (sCall d_need_row (sA1 (sV 0) sA0)))
    (xSeq (xDrop (sCall d_need_ticks (sA1 (sV 1) sA0)))
    (xRet (sCall tupleR (sA1 (sFz (sLc [2, 3] (wZip (sA1 (sV 1) (sA1 (sCall d_outs_in (sA1 (sV 0) (sA1 (sV 1) sA0))) sA0))) (gT 2 (gCns (gN 2) (gCns (gN 3) gNil))) sYes (s2 subR (sV 3) (sV 2)))) sA0)))))
noncomputable abbrev d_inside : List PyData → Option PyData := denF 2 2 i_inside
/-- slots: 0 script 1 pool 2 turn 3 hall 4 route 5 row 6 begin 7 end 8 time 9 capacity 10 ticks 11 k 12 people 13 tick 14 outs 15 held 16 later 17 own 18 out 19 at 20 late 21 one 22 other -/
noncomputable def i_law : FS :=
    (xSeq (xSetL 1 (sCallSL 0 d_law_pool (sA1 (sC (.int 95549)) (sA1 (sC (.int 200)) sA0))))
    (xSeq (xFor (wRng1 (sA1 (sC (.int 5)) sA0)) (gN 2) (xSeq (xSet 3 (sCallM 1 d_law_path (sA1 (sC (.int 4)) (sA1 (sC (.int 3)) sA0))))
    (xSeq (xSet 4 (sCall tupRg (sA1 (sCall lenR (sA1 (s2 ixR (sV 3) (sC (.int 1))) sA0)) sA0)))
    (xSeq (xSet 5 (sCall tupleR (sA1 (sFz (sLc [6, 7, 8, 9] (wIx (s2 ixR (sV 3) (sC (.int 1)))) (gT 4 (gCns (gN 6) (gCns (gN 7) (gCns (gN 8) (gCns (gN 9) gNil))))) sYes (sTup (sA1 (sV 8) (sA1 (sTup (sA1 (sV 9) sA0)) sA0))))) sA0)))
    (xSeq (xSet 10 (sCall tupleR (sA1 (sFz (sCallL sortedR (sA1 (sFz (sLc [11] (wRng1 (sA1 (sCallM 1 d_law_take (sA1 (sC (.int 10)) sA0)) sA0)) (gN 11) sYes (sCallM 1 d_law_take (sA1 (sC (.int 9)) sA0)))) sA0))) sA0)))
    (xSeq (xSet 12 (sCall tupleR (sA1 (sFz (sLc [13] (wIx (sV 10)) (gN 13) sYes (sTup (sA1 (sV 13) (sA1 (sV 4) sA0))))) sA0)))
    (xSeq (xSet 14 (sCall d_out_ticks (sA1 (sV 3) (sA1 (sV 12) sA0))))
    (xSeq (xIf (sB (s2 neSR (sCall reprR (sA1 (sFz (sLst (sA1 (sV 14) (sA1 (sCall d_waits (sA1 (sV 3) (sA1 (sV 12) sA0))) sA0)))) sA0)) (sCall reprR (sA1 (sFz (sLst (sA1 (sCall d_row_out (sA1 (sV 5) (sA1 (sV 10) sA0))) (sA1 (sCall d_row_waits (sA1 (sV 5) (sA1 (sV 10) sA0))) sA0)))) sA0)))) (xRet (sC (.bool false))) xNil)
    (xSeq (xSet 15 (sCall d_held_back (sA1 (sV 5) (sA1 (sV 10) sA0))))
    (xSeq (xSet 16 (sCall tupleR (sA1 (sFz (sLc [13] (wIx (sV 15)) (gN 13) sYes (sTup (sA1 (sV 13) (sA1 (sV 4) sA0))))) sA0)))
    (xSeq (xIf (sOrT (sB (s2 neSR (sCall reprR (sA1 (sCall d_out_ticks (sA1 (sV 3) (sA1 (sV 16) sA0))) sA0)) (sCall reprR (sA1 (sV 14) sA0)))) (sB (s2 neR (sCall sumR (sA1 (sFz (sLc [17] (wIx (sCall d_waits (sA1 (sV 3) (sA1 (sV 16) sA0)))) (gN 17) sYes (sCall sumR (sA1 (sV 17) sA0)))) sA0)) (sC (.int 0))))) (xRet (sC (.bool false))) xNil)
    (xSeq (xIf (sOrT (sB (s2 neR (sCall d_least_inside (sA1 (sV 5) (sA1 (sV 10) sA0))) (sCall sumR (sA1 (sFz (sLc [18, 13] (wZip (sA1 (sV 14) (sA1 (sV 15) sA0))) (gT 2 (gCns (gN 18) (gCns (gN 13) gNil))) sYes (s2 subR (sV 18) (sV 13)))) sA0)))) (sB (s2 neR (sCall sumR (sA1 (sCall d_inside (sA1 (sV 5) (sA1 (sV 15) sA0))) sA0)) (sCall d_least_inside (sA1 (sV 5) (sA1 (sV 10) sA0)))))) (xRet (sC (.bool false))) xNil)
    (xFor (wRng1 (sA1 (sCall lenR (sA1 (sV 15) sA0)) sA0)) (gN 19) (xSeq (xSet 20 (sCall tupleR (sA1 (s2 addR (s2 mulR (sFz (sLst (sA1 (sTup (sA1 (sC (.int 0)) (sA1 (sV 4) sA0))) sA0))) (sV 19)) (s2 mulR (sFz (sLst (sA1 (sTup (sA1 (s2 addR (s2 ixR (sV 15) (sV 19)) (sC (.int 1))) (sA1 (sV 4) sA0))) sA0))) (s2 subR (sCall lenR (sA1 (sV 15) sA0)) (sV 19)))) sA0)))
    (xIf (sB (s2 eqR (sFz (sLc [21, 22] (wZip (sA1 (sCall d_out_ticks (sA1 (sV 3) (sA1 (sV 20) sA0))) (sA1 (sV 14) sA0))) (gT 2 (gCns (gN 21) (gCns (gN 22) gNil))) (sB (s2 gtR (sV 21) (sV 22))) (sC (.int 1)))) (sFz (sLst sA0)))) (xRet (sC (.bool false))) xNil)))))))))))))))
    (xRet (sC (.bool true)))))
noncomputable abbrev d_law : List Int → List PyData → Option PyData := denS 0 22 i_law
end L95

end
section
set_option Elab.async false
set_option linter.all false
set_option maxRecDepth 100000
set_option maxHeartbeats 4000000
namespace L95
open PySem PySem.Spec PyProof.Rows L2 Fw
def top (i : Nat) : Stmt := PySem.Challenge.pw_stairsintime_k95_whole_gates_on_a_path.main.body.getD i (.Pass ⟨0, 0, 0, 0⟩)
structure Facts (K : PySem.W.Frag) (mg : Str → Option Value) : Prop where
  n_abs : mg ("abs" : Str) = none
  n_all : mg ("all" : Str) = none
  n_bool : mg ("bool" : Str) = none
  n_enumerate : mg ("enumerate" : Str) = none
  n_int : mg ("int" : Str) = none
  n_isinstance : mg ("isinstance" : Str) = none
  n_len : mg ("len" : Str) = none
  n_list : mg ("list" : Str) = none
  n_min : mg ("min" : Str) = none
  n_range : mg ("range" : Str) = none
  n_repr : mg ("repr" : Str) = none
  n_set : mg ("set" : Str) = none
  n_sorted : mg ("sorted" : Str) = none
  n_sum : mg ("sum" : Str) = none
  n_tuple : mg ("tuple" : Str) = none
  n_zip : mg ("zip" : Str) = none
  i_LAST_COME : ∃ t, mg ("LAST_COME" : Str) = some (.int 10000 t)
  i_LAST_TICK : ∃ t, mg ("LAST_TICK" : Str) = some (.int 40 t)
  i_MOST_BEAT : ∃ t, mg ("MOST_BEAT" : Str) = some (.int 6 t)
  i_MOST_CAPACITY : ∃ t, mg ("MOST_CAPACITY" : Str) = some (.int 9 t)
  i_MOST_ITEM : ∃ t, mg ("MOST_ITEM" : Str) = some (.int 9 t)
  i_MOST_PEOPLE : ∃ t, mg ("MOST_PEOPLE" : Str) = some (.int 40 t)
  i_MOST_PLACES : ∃ t, mg ("MOST_PLACES" : Str) = some (.int 8 t)
  i_MOST_ROUTE : ∃ t, mg ("MOST_ROUTE" : Str) = some (.int 7 t)
  i_MOST_ROW : ∃ t, mg ("MOST_ROW" : Str) = some (.int 4 t)
  i_MOST_STAIRS : ∃ t, mg ("MOST_STAIRS" : Str) = some (.int 16 t)
  i_MOST_TICKS : ∃ t, mg ("MOST_TICKS" : Str) = some (.int 600 t)
  i_MOST_TIME_halls : ∃ t, mg ("MOST_TIME_halls" : Str) = some (.int 6 t)
  i_MOST_TIME_rows : ∃ t, mg ("MOST_TIME_rows" : Str) = some (.int 6 t)
  k_bool : Isi K "bool"
  k_int : Isi K "int"
  k_tuple : Isi K "tuple"
  d_law_pool : DefAt K mg "_law_pool" (top 63)
  d_law_take : DefAt K mg "_law_take" (top 64)
  d_law_path : DefAt K mg "_law_path" (top 65)
  d_is_tuple : DefAt K mg "is_tuple" (top 9)
  d_is_integer : DefAt K mg "is_integer" (top 7)
  d_is_between : DefAt K mg "is_between" (top 8)
  d_is_stair : DefAt K mg "is_stair" (top 42)
  d_is_hall : DefAt K mg "is_hall" (top 43)
  d_need_hall : DefAt K mg "need_hall" (top 44)
  d_is_this_route : DefAt K mg "is_this_route" (top 45)
  d_is_route : DefAt K mg "is_route" (top 46)
  d_is_level : DefAt K mg "is_level" (top 10)
  d_are_people : DefAt K mg "are_people" (top 56)
  d_need_people : DefAt K mg "need_people" (top 57)
  d_nobody : DefAt K mg "nobody" (top 48)
  d_is_empty : DefAt K mg "is_empty" (top 51)
  d_come_in : DefAt K mg "come_in" (top 49)
  d_go_on : DefAt K mg "go_on" (top 50)
  d_log_of : DefAt K mg "log_of" (top 52)
  d_rides_of : DefAt K mg "rides_of" (top 58)
  d_outs_of : DefAt K mg "outs_of" (top 59)
  d_out_ticks : DefAt K mg "out_ticks" (top 61)
  d_waits : DefAt K mg "waits" (top 60)
  d_is_beat : DefAt K mg "is_beat" (top 22)
  d_is_row : DefAt K mg "is_row" (top 23)
  d_need_row : DefAt K mg "need_row" (top 24)
  d_are_ticks : DefAt K mg "are_ticks" (top 15)
  d_need_ticks : DefAt K mg "need_ticks" (top 16)
  d_beat_goes : DefAt K mg "beat_goes" (top 25)
  d_outs_in : DefAt K mg "outs_in" (top 27)
  d_row_out : DefAt K mg "row_out" (top 28)
  d_goes_in : DefAt K mg "goes_in" (top 26)
  d_row_waits : DefAt K mg "row_waits" (top 29)
  d_latest_goes : DefAt K mg "latest_goes" (top 31)
  d_latest_in : DefAt K mg "latest_in" (top 32)
  d_held_back : DefAt K mg "held_back" (top 33)
  d_least_inside : DefAt K mg "least_inside" (top 35)
  d_inside : DefAt K mg "inside" (top 34)
  d_law : DefAt K mg "law" (top 66)
abbrev N_law_pool : List Str := ["script", "salt", "many", "pool", "seed", "cell", "left", "k"]
theorem sc_law_pool : FnScope N_law_pool ["script", "salt", "many"] (defScope (top 63)) := ⟨rfl, rfl, rfl, by decide +kernel, rfl, by decide +kernel, by decide +kernel⟩
theorem c_law_pool {P : Program} {w : World} {K : PySem.W.Frag} {mg : Str → Option Value} {base : Heap} (F : Facts K mg) : Cg P w K mg base 1 "_law_pool" (spSL K 2 d_law_pool) := by
  refine F.d_law_pool.cg (ps := ["script", "salt", "many"]) (fun _ _ _ _ _ _ us hl => match us, hl with | [_, _, _], _ => rfl) fun f fd D => fn_SL (m := 5) (k := 0) D sc_law_pool rfl rfl fun cd A out s H gd hr => ?_
  exact (px_sc (px_par2 (ps_par (i := 3) (j := 4) rfl sc_law_pool.nd rfl rfl (by decide) rfl rfl (px_r2L (px_ls px_nil) (px_r2F (px_var (pv 1)) px_rnil)) (by rfl)))
    (px_sc (px_for (ps_for PassesOwn.never rfl (px_i1 (px_slS (pv 0) px_oN (px_oS px_int))) (px_gN (pg_name (i := 5) sc_law_pool.nd rfl (.inl rfl))) (px_sc (px_set (ps_set (i := 6) sc_law_pool.nd rfl (.inl rfl) (px_bi bi_abs rfl F.n_abs (px_c2 (px_bi bi_int rfl F.n_int (px_c2 (px_var (pv 5)) px_nil)) px_nil))))
    (px_sc (px_set (ps_set (i := 4) sc_law_pool.nd rfl (.inl rfl) (px_mod (px_bi bi_int rfl F.n_int (px_c2 (px_add (px_add (px_add (px_mul (px_var (pv 4)) px_int) (px_mod (px_bi bi_int rfl F.n_int (px_c2 (px_var (pv 6)) px_nil)) px_int)) (px_mul px_int (px_bi bi_int rfl F.n_int (px_c2 (px_cp cd_lt (px_var (pv 5)) px_int) px_nil)))) px_int) px_nil)) px_int)))
    (px_s1 (px_ifS (px_tcp cd_ge (px_var (pv 6)) (px_pow px_int px_int)) (px_s1 (px_for (ps_for PassesOwn.never rfl (px_iR1 (pi_range1 rfl F.n_range (px_c2 px_int px_nil))) (px_gN (pg_name (i := 7) sc_law_pool.nd rfl (.inl rfl))) (px_s1 (px_ifS (px_tcp cd_gt (px_var (pv 6)) px_int) (px_sc (px_appS (pv 3) (px_mod (px_bi bi_int rfl F.n_int (px_c2 (px_var (pv 6)) px_nil)) px_int))
    (px_s1 (px_set (ps_set (i := 6) sc_law_pool.nd rfl (.inl rfl) (px_fdiv (px_var (pv 6)) px_int))))) px_sn))))) px_sn))))))
    (px_sc (px_for (ps_for PassesOwn.never rfl (px_iR1 (pi_range1 rfl F.n_range (px_c2 (px_var (pv 2)) px_nil))) (px_gN (pg_name (i := 7) sc_law_pool.nd rfl (.inl rfl))) (px_sc (px_set (ps_set (i := 4) sc_law_pool.nd rfl (.inl rfl) (px_mod (px_bi bi_int rfl F.n_int (px_c2 (px_add (px_add (px_mul (px_var (pv 4)) px_int) (px_mul (px_var (pv 7)) (px_var (pv 7)))) px_int) px_nil)) px_int)))
    (px_s1 (px_appS (pv 3) (px_mod (px_bi bi_int rfl F.n_int (px_c2 (px_fdiv (px_mod (px_bi bi_int rfl F.n_int (px_c2 (px_mul (px_var (pv 4)) (px_add (px_var (pv 4)) px_int)) px_nil)) px_int) px_int) px_nil)) px_int))))))
    (px_s1 (px_retL (px_revO (pe_revL (pv 3))))))))
abbrev N_law_take : List Str := ["pool", "limit"]
theorem sc_law_take : FnScope N_law_take ["pool", "limit"] (defScope (top 64)) := ⟨rfl, rfl, rfl, by decide +kernel, rfl, by decide +kernel, by decide +kernel⟩
theorem c_law_take {P : Program} {w : World} {K : PySem.W.Frag} {mg : Str → Option Value} {base : Heap} (F : Facts K mg) : Cg P w K mg base 1 "_law_take" (spM K 1 d_law_take) := by
  refine F.d_law_take.cg (ps := ["pool", "limit"]) (fun _ _ _ _ _ _ us hl => match us, hl with | [_, _], _ => rfl) fun f fd D => fn_M (m := 0) (k := 0) D sc_law_take rfl rfl fun cd A out s H gd hr => ?_
  exact (px_sc (px_ifS (px_teqO (hu64 hr) (pv 0) (px_fz (px_ls px_nil))) (px_s1 (px_ret px_int)) px_sn)
    (px_s1 (px_ret (px_mod (px_bi bi_int rfl F.n_int (px_c2 (px_popE (pv 0)) px_nil)) (px_var (pv 1))))))
abbrev N_law_path : List Str := ["pool", "most", "widest", "many", "stairs", "at"]
theorem sc_law_path : FnScope N_law_path ["pool", "most", "widest"] (defScope (top 65)) := ⟨rfl, rfl, rfl, by decide +kernel, rfl, by decide +kernel, by decide +kernel⟩
theorem c_law_path {P : Program} {w : World} {K : PySem.W.Frag} {mg : Str → Option Value} {base : Heap} (F : Facts K mg) : Cg P w K mg base 2 "_law_path" (spM K 2 d_law_path) := by
  refine F.d_law_path.cg (ps := ["pool", "most", "widest"]) (fun _ _ _ _ _ _ us hl => match us, hl with | [_, _, _], _ => rfl) fun f fd D => fn_M (m := 3) (k := 1) D sc_law_path rfl rfl fun cd A out s H gd hr => ?_
  exact (px_sc (px_set (ps_set (i := 3) sc_law_path.nd rfl (.inl rfl) (px_add px_int (px_calm (c_law_take F) denM_len gd (hr.mono (by decide)) rfl (pv 0) (px_c2 (px_sub (px_var (pv 1)) px_int) px_nil)))))
    (px_sc (px_slcF (ps_setLc (i := 4) (own := [("at", 5)]) rfl sc_law_path.nd rfl rfl (sw_true rfl rfl rfl (by decide +kernel)) (px_iR1 (pi_range1 rfl F.n_range (px_c2 (px_sub (px_var (pv 3)) px_int) px_nil))) (blkOk_by (own := [("at", 5)]) (N := N_law_path) (sc := defScope (top 65)) (by decide +kernel)) (fun _ _ _ _ _ => (px_gN (pg_name (i := 5) sc_law_path.nd rfl (.inl rfl)))) (fun _ _ _ _ _ => px_ty) (fun _ _ _ _ _ => (px_tp (px_c2 (px_var (pv 5)) (px_c2 (px_add (px_var (pv 5)) px_int) (px_c2 (px_add px_int (px_calm (c_law_take F) denM_len gd (hr.mono (by decide)) rfl (pv 0) (px_c2 px_int px_nil))) (px_c2 (px_add px_int (px_calm (c_law_take F) denM_len gd (hr.mono (by decide)) rfl (pv 0) (px_c2 (px_var (pv 2)) px_nil))) px_nil))))))))
    (px_s1 (px_ret (px_tp (px_c2 (px_var (pv 3)) (px_c2 (px_bi bi_tuple rfl F.n_tuple (px_c2 (px_var (pv 4)) px_nil)) px_nil)))))))
abbrev N_is_tuple : List Str := ["value", "low", "high"]
theorem sc_is_tuple : FnScope N_is_tuple ["value", "low", "high"] (defScope (top 9)) := ⟨rfl, rfl, rfl, by decide +kernel, rfl, by decide +kernel, by decide +kernel⟩
theorem c_is_tuple {P : Program} {w : World} {K : PySem.W.Frag} {mg : Str → Option Value} {base : Heap} (F : Facts K mg) : Cg P w K mg base 1 "is_tuple" (spF K 3 d_is_tuple) := by
  refine F.d_is_tuple.cg (ps := ["value", "low", "high"]) (fun _ _ _ _ _ _ us hl => match us, hl with | [_, _, _], _ => rfl) fun f fd D => fn_F (m := 0) (k := 0) D sc_is_tuple rfl rfl fun cd A out s H gd hr => ?_
  exact (px_s1 (px_ret (px_andV (px_isiC (x := "tuple") F.k_tuple rfl F.n_isinstance rfl F.n_tuple (px_var (pv 0))) (px_one (px_ch cd_le cd_le (px_var (pv 1)) (px_bi bi_len rfl F.n_len (px_c2 (px_var (pv 0)) px_nil)) (px_var (pv 2)))))))
abbrev N_is_integer : List Str := ["value"]
theorem sc_is_integer : FnScope N_is_integer ["value"] (defScope (top 7)) := ⟨rfl, rfl, rfl, by decide +kernel, rfl, by decide +kernel, by decide +kernel⟩
theorem c_is_integer {P : Program} {w : World} {K : PySem.W.Frag} {mg : Str → Option Value} {base : Heap} (F : Facts K mg) : Cg P w K mg base 1 "is_integer" (spF K 1 d_is_integer) := by
  refine F.d_is_integer.cg (ps := ["value"]) (fun _ _ _ _ _ _ us hl => match us, hl with | [_], _ => rfl) fun f fd D => fn_F (m := 0) (k := 0) D sc_is_integer rfl rfl fun cd A out s H gd hr => ?_
  exact (px_s1 (px_ret (px_andV (px_isiC (x := "int") F.k_int rfl F.n_isinstance rfl F.n_int (px_var (pv 0))) (px_one (px_notV (px_isiC (x := "bool") F.k_bool rfl F.n_isinstance rfl F.n_bool (px_var (pv 0))))))))
abbrev N_is_between : List Str := ["value", "low", "high"]
theorem sc_is_between : FnScope N_is_between ["value", "low", "high"] (defScope (top 8)) := ⟨rfl, rfl, rfl, by decide +kernel, rfl, by decide +kernel, by decide +kernel⟩
theorem c_is_between {P : Program} {w : World} {K : PySem.W.Frag} {mg : Str → Option Value} {base : Heap} (F : Facts K mg) : Cg P w K mg base 2 "is_between" (spF K 3 d_is_between) := by
  refine F.d_is_between.cg (ps := ["value", "low", "high"]) (fun _ _ _ _ _ _ us hl => match us, hl with | [_, _, _], _ => rfl) fun f fd D => fn_F (m := 0) (k := 1) D sc_is_between rfl rfl fun cd A out s H gd hr => ?_
  exact (px_s1 (px_ret (px_andV (px_call (c_is_integer F) denF_len gd (hr.mono (by decide)) rfl (px_c2 (px_var (pv 0)) px_nil)) (px_andV (px_cp cd_le (px_var (pv 1)) (px_var (pv 0))) (px_one (px_orV (px_cp cd_is (px_var (pv 2)) px_non) (px_one (px_cp cd_le (px_var (pv 0)) (px_var (pv 2))))))))))
abbrev N_is_stair : List Str := ["many", "value", "item", "begin", "end", "time", "capacity"]
theorem sc_is_stair : FnScope N_is_stair ["many", "value"] (defScope (top 42)) := ⟨rfl, rfl, rfl, by decide +kernel, rfl, by decide +kernel, by decide +kernel⟩
theorem c_is_stair {P : Program} {w : World} {K : PySem.W.Frag} {mg : Str → Option Value} {base : Heap} (F : Facts K mg) : Cg P w K mg base 3 "is_stair" (spF K 2 d_is_stair) := by
  refine F.d_is_stair.cg (ps := ["many", "value"]) (fun _ _ _ _ _ _ us hl => match us, hl with | [_, _], _ => rfl) fun f fd D => fn_F (m := 5) (k := 2) D sc_is_stair rfl rfl fun cd A out s H gd hr => ?_
  exact (px_sc (px_ifS (PW.pt (px_or (px_not (px_tval (px_call (c_is_tuple F) denF_len gd (hr.mono (by decide)) rfl (px_c2 (px_var (pv 1)) (px_c2 px_int (px_c2 px_int px_nil)))))) (px_or1 (px_not (px_tval (px_bi (bi_all rfl) rfl F.n_all (px_c2 (px_fz (px_lc (pe_lc (own := [("item", 2)]) rfl sc_is_stair.nd (px_i1 (px_var (pv 1))) (blkOk_by (own := [("item", 2)]) (N := N_is_stair) (sc := defScope (top 42)) (by decide +kernel)) (fun _ _ _ _ _ => (px_gN (pg_name (i := 2) sc_is_stair.nd rfl (.inl rfl)))) (fun _ _ _ _ _ => px_ty) (fun _ _ _ _ _ => (px_call (c_is_integer F) denF_len gd (hr.mono (by decide)) rfl (px_c2 (px_var (pv 2)) px_nil)))))) px_nil))))))) (px_s1 (px_ret px_bl)) px_sn)
    (px_sc (px_asg (ps_asg (px_var (pv 1)) (px_gT (pg_tup rfl (px_g2 (px_gN (pg_name (i := 3) sc_is_stair.nd rfl (.inl rfl))) (px_g2 (px_gN (pg_name (i := 4) sc_is_stair.nd rfl (.inl rfl))) (px_g2 (px_gN (pg_name (i := 5) sc_is_stair.nd rfl (.inl rfl))) (px_g2 (px_gN (pg_name (i := 6) sc_is_stair.nd rfl (.inl rfl))) px_gnil))))))))
    (px_sc (px_ifS (PW.pt (px_or (px_not (px_tval (px_call (c_is_between F) denF_len gd (hr.mono (by decide)) rfl (px_c2 (px_var (pv 3)) (px_c2 px_int (px_c2 (px_sub (px_var (pv 0)) px_int) px_nil)))))) (px_or (px_not (px_tval (px_call (c_is_between F) denF_len gd (hr.mono (by decide)) rfl (px_c2 (px_var (pv 4)) (px_c2 px_int (px_c2 (px_sub (px_var (pv 0)) px_int) px_nil)))))) (px_or1 (px_tcp (cd_eq (hu64 hr)) (px_var (pv 3)) (px_var (pv 4))))))) (px_s1 (px_ret px_bl)) px_sn)
    (px_s1 (px_ret (px_andV (px_call (c_is_between F) denF_len gd (hr.mono (by decide)) rfl (px_c2 (px_var (pv 5)) (px_c2 px_int (px_c2 (px_gi F.i_MOST_TIME_halls rfl) px_nil)))) (px_one (px_call (c_is_between F) denF_len gd (hr.mono (by decide)) rfl (px_c2 (px_var (pv 6)) (px_c2 px_int (px_c2 (px_gi F.i_MOST_CAPACITY rfl) px_nil)))))))))))
abbrev N_is_hall : List Str := ["value", "stair"]
theorem sc_is_hall : FnScope N_is_hall ["value"] (defScope (top 43)) := ⟨rfl, rfl, rfl, by decide +kernel, rfl, by decide +kernel, by decide +kernel⟩
theorem c_is_hall {P : Program} {w : World} {K : PySem.W.Frag} {mg : Str → Option Value} {base : Heap} (F : Facts K mg) : Cg P w K mg base 4 "is_hall" (spF K 1 d_is_hall) := by
  refine F.d_is_hall.cg (ps := ["value"]) (fun _ _ _ _ _ _ us hl => match us, hl with | [_], _ => rfl) fun f fd D => fn_F (m := 1) (k := 3) D sc_is_hall rfl rfl fun cd A out s H gd hr => ?_
  exact (px_sc (px_ifS (PW.pt (px_or (px_not (px_tval (px_call (c_is_tuple F) denF_len gd (hr.mono (by decide)) rfl (px_c2 (px_var (pv 0)) (px_c2 px_int (px_c2 px_int px_nil)))))) (px_or (px_not (px_tval (px_call (c_is_between F) denF_len gd (hr.mono (by decide)) rfl (px_c2 (px_ix (px_var (pv 0)) px_int) (px_c2 px_int (px_c2 (px_gi F.i_MOST_PLACES rfl) px_nil)))))) (px_or1 (px_not (px_tval (px_call (c_is_tuple F) denF_len gd (hr.mono (by decide)) rfl (px_c2 (px_ix (px_var (pv 0)) px_int) (px_c2 px_int (px_c2 (px_gi F.i_MOST_STAIRS rfl) px_nil)))))))))) (px_s1 (px_ret px_bl)) px_sn)
    (px_s1 (px_ret (px_bi (bi_all rfl) rfl F.n_all (px_c2 (px_fz (px_lc (pe_lc (own := [("stair", 1)]) rfl sc_is_hall.nd (px_i1 (px_ix (px_var (pv 0)) px_int)) (blkOk_by (own := [("stair", 1)]) (N := N_is_hall) (sc := defScope (top 43)) (by decide +kernel)) (fun _ _ _ _ _ => (px_gN (pg_name (i := 1) sc_is_hall.nd rfl (.inl rfl)))) (fun _ _ _ _ _ => px_ty) (fun _ _ _ _ _ => (px_call (c_is_stair F) denF_len gd (hr.mono (by decide)) rfl (px_c2 (px_ix (px_var (pv 0)) px_int) (px_c2 (px_var (pv 1)) px_nil))))))) px_nil)))))
abbrev N_need_hall : List Str := ["hall"]
theorem sc_need_hall : FnScope N_need_hall ["hall"] (defScope (top 44)) := ⟨rfl, rfl, rfl, by decide +kernel, rfl, by decide +kernel, by decide +kernel⟩
theorem c_need_hall {P : Program} {w : World} {K : PySem.W.Frag} {mg : Str → Option Value} {base : Heap} (F : Facts K mg) : Cg P w K mg base 5 "need_hall" (spF K 1 d_need_hall) := by
  refine F.d_need_hall.cg (ps := ["hall"]) (fun _ _ _ _ _ _ us hl => match us, hl with | [_], _ => rfl) fun f fd D => fn_F (m := 0) (k := 4) D sc_need_hall rfl rfl fun cd A out s H gd hr => ?_
  exact (px_s1 (px_ifS (px_not (px_tval (px_call (c_is_hall F) denF_len gd (hr.mono (by decide)) rfl (px_c2 (px_var (pv 0)) px_nil)))) (px_s1 px_no) px_sn))
abbrev N_is_this_route : List Str := ["hall", "value", "own", "one", "other"]
theorem sc_is_this_route : FnScope N_is_this_route ["hall", "value"] (defScope (top 45)) := ⟨rfl, rfl, rfl, by decide +kernel, rfl, by decide +kernel, by decide +kernel⟩
theorem c_is_this_route {P : Program} {w : World} {K : PySem.W.Frag} {mg : Str → Option Value} {base : Heap} (F : Facts K mg) : Cg P w K mg base 3 "is_this_route" (spF K 2 d_is_this_route) := by
  refine F.d_is_this_route.cg (ps := ["hall", "value"]) (fun _ _ _ _ _ _ us hl => match us, hl with | [_, _], _ => rfl) fun f fd D => fn_F (m := 3) (k := 2) D sc_is_this_route rfl rfl fun cd A out s H gd hr => ?_
  exact (px_sc (px_ifS (PW.pt (px_or (px_not (px_tval (px_call (c_is_tuple F) denF_len gd (hr.mono (by decide)) rfl (px_c2 (px_var (pv 1)) (px_c2 px_int (px_c2 (px_gi F.i_MOST_ROUTE rfl) px_nil)))))) (px_or1 (px_not (px_tval (px_bi (bi_all rfl) rfl F.n_all (px_c2 (px_fz (px_lc (pe_lc (own := [("own", 2)]) rfl sc_is_this_route.nd (px_i1 (px_var (pv 1))) (blkOk_by (own := [("own", 2)]) (N := N_is_this_route) (sc := defScope (top 45)) (by decide +kernel)) (fun _ _ _ _ _ => (px_gN (pg_name (i := 2) sc_is_this_route.nd rfl (.inl rfl)))) (fun _ _ _ _ _ => px_ty) (fun _ _ _ _ _ => (px_call (c_is_between F) denF_len gd (hr.mono (by decide)) rfl (px_c2 (px_var (pv 2)) (px_c2 px_int (px_c2 (px_sub (px_bi bi_len rfl F.n_len (px_c2 (px_ix (px_var (pv 0)) px_int) px_nil)) px_int) px_nil)))))))) px_nil))))))) (px_s1 (px_ret px_bl)) px_sn)
    (px_sc (px_ifS (px_tcp (cd_ne (hu64 hr)) (px_lenSet (pe_lenSetT rfl rfl F.n_len rfl F.n_set (px_var (pv 1)))) (px_bi bi_len rfl F.n_len (px_c2 (px_var (pv 1)) px_nil))) (px_s1 (px_ret px_bl)) px_sn)
    (px_s1 (px_ret (px_bi (bi_all rfl) rfl F.n_all (px_c2 (px_fz (px_lc (pe_lc (own := [("one", 3), ("other", 4)]) rfl sc_is_this_route.nd (px_iZ (pi_zm rfl F.n_zip (px_c2 (px_var (pv 1)) (px_c2 (px_sl (px_var (pv 1)) (px_oS px_int) px_oN) px_nil)))) (blkOk_by (own := [("one", 3), ("other", 4)]) (N := N_is_this_route) (sc := defScope (top 45)) (by decide +kernel)) (fun _ _ _ _ _ => (px_gT (pg_tup rfl (px_g2 (px_gN (pg_name (i := 3) sc_is_this_route.nd rfl (.inl rfl))) (px_g2 (px_gN (pg_name (i := 4) sc_is_this_route.nd rfl (.inl rfl))) px_gnil))))) (fun _ _ _ _ _ => px_ty) (fun _ _ _ _ _ => (px_cp (cd_eq (hu64 hr)) (px_ix (px_ix (px_ix (px_var (pv 0)) px_int) (px_var (pv 3))) px_int) (px_ix (px_ix (px_ix (px_var (pv 0)) px_int) (px_var (pv 4))) px_int)))))) px_nil))))))
abbrev N_is_route : List Str := ["hall", "value"]
theorem sc_is_route : FnScope N_is_route ["hall", "value"] (defScope (top 46)) := ⟨rfl, rfl, rfl, by decide +kernel, rfl, by decide +kernel, by decide +kernel⟩
theorem c_is_route {P : Program} {w : World} {K : PySem.W.Frag} {mg : Str → Option Value} {base : Heap} (F : Facts K mg) : Cg P w K mg base 6 "is_route" (spF K 2 d_is_route) := by
  refine F.d_is_route.cg (ps := ["hall", "value"]) (fun _ _ _ _ _ _ us hl => match us, hl with | [_, _], _ => rfl) fun f fd D => fn_F (m := 0) (k := 5) D sc_is_route rfl rfl fun cd A out s H gd hr => ?_
  exact (px_sc (px_ex (px_call (c_need_hall F) denF_len gd (hr.mono (by decide)) rfl (px_c2 (px_var (pv 0)) px_nil)))
    (px_s1 (px_ret (px_call (c_is_this_route F) denF_len gd (hr.mono (by decide)) rfl (px_c2 (px_var (pv 0)) (px_c2 (px_var (pv 1)) px_nil))))))
abbrev N_is_level : List Str := ["items", "one", "other"]
theorem sc_is_level : FnScope N_is_level ["items"] (defScope (top 10)) := ⟨rfl, rfl, rfl, by decide +kernel, rfl, by decide +kernel, by decide +kernel⟩
theorem c_is_level {P : Program} {w : World} {K : PySem.W.Frag} {mg : Str → Option Value} {base : Heap} (F : Facts K mg) : Cg P w K mg base 1 "is_level" (spF K 1 d_is_level) := by
  refine F.d_is_level.cg (ps := ["items"]) (fun _ _ _ _ _ _ us hl => match us, hl with | [_], _ => rfl) fun f fd D => fn_F (m := 2) (k := 0) D sc_is_level rfl rfl fun cd A out s H gd hr => ?_
  exact (px_s1 (px_ret (px_bi (bi_all rfl) rfl F.n_all (px_c2 (px_fz (px_lc (pe_lc (own := [("one", 1), ("other", 2)]) rfl sc_is_level.nd (px_iZ (pi_zm rfl F.n_zip (px_c2 (px_var (pv 0)) (px_c2 (px_sl (px_var (pv 0)) (px_oS px_int) px_oN) px_nil)))) (blkOk_by (own := [("one", 1), ("other", 2)]) (N := N_is_level) (sc := defScope (top 10)) (by decide +kernel)) (fun _ _ _ _ _ => (px_gT (pg_tup rfl (px_g2 (px_gN (pg_name (i := 1) sc_is_level.nd rfl (.inl rfl))) (px_g2 (px_gN (pg_name (i := 2) sc_is_level.nd rfl (.inl rfl))) px_gnil))))) (fun _ _ _ _ _ => px_ty) (fun _ _ _ _ _ => (px_cp cd_le (px_var (pv 1)) (px_var (pv 2))))))) px_nil))))
abbrev N_are_people : List Str := ["hall", "value", "own"]
theorem sc_are_people : FnScope N_are_people ["hall", "value"] (defScope (top 56)) := ⟨rfl, rfl, rfl, by decide +kernel, rfl, by decide +kernel, by decide +kernel⟩
theorem c_are_people {P : Program} {w : World} {K : PySem.W.Frag} {mg : Str → Option Value} {base : Heap} (F : Facts K mg) : Cg P w K mg base 7 "are_people" (spF K 2 d_are_people) := by
  refine F.d_are_people.cg (ps := ["hall", "value"]) (fun _ _ _ _ _ _ us hl => match us, hl with | [_, _], _ => rfl) fun f fd D => fn_F (m := 1) (k := 6) D sc_are_people rfl rfl fun cd A out s H gd hr => ?_
  exact (px_sc (px_ex (px_call (c_need_hall F) denF_len gd (hr.mono (by decide)) rfl (px_c2 (px_var (pv 0)) px_nil)))
    (px_sc (px_ifS (px_not (px_tval (px_call (c_is_tuple F) denF_len gd (hr.mono (by decide)) rfl (px_c2 (px_var (pv 1)) (px_c2 px_int (px_c2 (px_gi F.i_MOST_PEOPLE rfl) px_nil)))))) (px_s1 (px_ret px_bl)) px_sn)
    (px_sc (px_for (ps_for PassesOwn.never rfl (px_i1 (px_var (pv 1))) (px_gN (pg_name (i := 2) sc_are_people.nd rfl (.inl rfl))) (px_s1 (px_ifS (PW.pt (px_or (px_not (px_tval (px_call (c_is_tuple F) denF_len gd (hr.mono (by decide)) rfl (px_c2 (px_var (pv 2)) (px_c2 px_int (px_c2 px_int px_nil)))))) (px_or (px_not (px_tval (px_call (c_is_between F) denF_len gd (hr.mono (by decide)) rfl (px_c2 (px_ix (px_var (pv 2)) px_int) (px_c2 px_int (px_c2 (px_gi F.i_LAST_TICK rfl) px_nil)))))) (px_or1 (px_not (px_tval (px_call (c_is_route F) denF_len gd (hr.mono (by decide)) rfl (px_c2 (px_var (pv 0)) (px_c2 (px_ix (px_var (pv 2)) px_int) px_nil))))))))) (px_s1 (px_ret px_bl)) px_sn))))
    (px_s1 (px_ret (px_call (c_is_level F) denF_len gd (hr.mono (by decide)) rfl (px_c2 (px_fz (px_lc (pe_lc (own := [("own", 2)]) rfl sc_are_people.nd (px_i1 (px_var (pv 1))) (blkOk_by (own := [("own", 2)]) (N := N_are_people) (sc := defScope (top 56)) (by decide +kernel)) (fun _ _ _ _ _ => (px_gN (pg_name (i := 2) sc_are_people.nd rfl (.inl rfl)))) (fun _ _ _ _ _ => px_ty) (fun _ _ _ _ _ => (px_ix (px_var (pv 2)) px_int))))) px_nil)))))))
abbrev N_need_people : List Str := ["hall", "people"]
theorem sc_need_people : FnScope N_need_people ["hall", "people"] (defScope (top 57)) := ⟨rfl, rfl, rfl, by decide +kernel, rfl, by decide +kernel, by decide +kernel⟩
theorem c_need_people {P : Program} {w : World} {K : PySem.W.Frag} {mg : Str → Option Value} {base : Heap} (F : Facts K mg) : Cg P w K mg base 8 "need_people" (spF K 2 d_need_people) := by
  refine F.d_need_people.cg (ps := ["hall", "people"]) (fun _ _ _ _ _ _ us hl => match us, hl with | [_, _], _ => rfl) fun f fd D => fn_F (m := 0) (k := 7) D sc_need_people rfl rfl fun cd A out s H gd hr => ?_
  exact (px_s1 (px_ifS (px_not (px_tval (px_call (c_are_people F) denF_len gd (hr.mono (by decide)) rfl (px_c2 (px_var (pv 0)) (px_c2 (px_var (pv 1)) px_nil))))) (px_s1 px_no) px_sn))
abbrev N_nobody : List Str := ["hall", "stair"]
theorem sc_nobody : FnScope N_nobody ["hall"] (defScope (top 48)) := ⟨rfl, rfl, rfl, by decide +kernel, rfl, by decide +kernel, by decide +kernel⟩
theorem c_nobody {P : Program} {w : World} {K : PySem.W.Frag} {mg : Str → Option Value} {base : Heap} (F : Facts K mg) : Cg P w K mg base 1 "nobody" (spF K 1 d_nobody) := by
  refine F.d_nobody.cg (ps := ["hall"]) (fun _ _ _ _ _ _ us hl => match us, hl with | [_], _ => rfl) fun f fd D => fn_F (m := 1) (k := 0) D sc_nobody rfl rfl fun cd A out s H gd hr => ?_
  exact (px_s1 (px_ret (px_tp (px_c2 px_int (px_c2 (px_bi bi_tuple rfl F.n_tuple (px_c2 (px_fz (px_lc (pe_lc (own := [("stair", 1)]) rfl sc_nobody.nd (px_i1 (px_ix (px_var (pv 0)) px_int)) (blkOk_by (own := [("stair", 1)]) (N := N_nobody) (sc := defScope (top 48)) (by decide +kernel)) (fun _ _ _ _ _ => (px_gN (pg_name (i := 1) sc_nobody.nd rfl (.inl rfl)))) (fun _ _ _ _ _ => px_ty) (fun _ _ _ _ _ => (px_tp px_nil))))) px_nil)) (px_c2 (px_tp px_nil) (px_c2 (px_tp px_nil) px_nil)))))))
abbrev N_is_empty : List Str := ["state", "line"]
theorem sc_is_empty : FnScope N_is_empty ["state"] (defScope (top 51)) := ⟨rfl, rfl, rfl, by decide +kernel, rfl, by decide +kernel, by decide +kernel⟩
theorem c_is_empty {P : Program} {w : World} {K : PySem.W.Frag} {mg : Str → Option Value} {base : Heap} (F : Facts K mg) : Cg P w K mg base 1 "is_empty" (spF K 1 d_is_empty) := by
  refine F.d_is_empty.cg (ps := ["state"]) (fun _ _ _ _ _ _ us hl => match us, hl with | [_], _ => rfl) fun f fd D => fn_F (m := 1) (k := 0) D sc_is_empty rfl rfl fun cd A out s H gd hr => ?_
  exact (px_s1 (px_ret (px_andV (px_cp (cd_eq (hu64 hr)) (px_ix (px_var (pv 0)) px_int) (px_tp px_nil)) (px_one (px_bi (bi_all rfl) rfl F.n_all (px_c2 (px_fz (px_lc (pe_lc (own := [("line", 1)]) rfl sc_is_empty.nd (px_i1 (px_ix (px_var (pv 0)) px_int)) (blkOk_by (own := [("line", 1)]) (N := N_is_empty) (sc := defScope (top 51)) (by decide +kernel)) (fun _ _ _ _ _ => (px_gN (pg_name (i := 1) sc_is_empty.nd rfl (.inl rfl)))) (fun _ _ _ _ _ => px_ty) (fun _ _ _ _ _ => (px_cp (cd_eq (hu64 hr)) (px_var (pv 1)) (px_tp px_nil)))))) px_nil))))))
abbrev N_come_in : List Str := ["routes", "state", "newcomers", "tick", "stand", "ride", "out", "coming", "end", "person", "step", "lines", "gone", "line", "route", "still", "own"]
theorem sc_come_in : FnScope N_come_in ["routes", "state", "newcomers"] (defScope (top 49)) := ⟨rfl, rfl, rfl, by decide +kernel, rfl, by decide +kernel, by decide +kernel⟩
theorem c_come_in {P : Program} {w : World} {K : PySem.W.Frag} {mg : Str → Option Value} {base : Heap} (F : Facts K mg) : Cg P w K mg base 1 "come_in" (spF K 3 d_come_in) := by
  refine F.d_come_in.cg (ps := ["routes", "state", "newcomers"]) (fun _ _ _ _ _ _ us hl => match us, hl with | [_, _, _], _ => rfl) fun f fd D => fn_F (m := 14) (k := 0) D sc_come_in rfl rfl fun cd A out s H gd hr => ?_
  exact (px_sc (px_asg (ps_asg (px_var (pv 1)) (px_gT (pg_tup rfl (px_g2 (px_gN (pg_name (i := 3) sc_come_in.nd rfl (.inr rfl))) (px_g2 (px_gN (pg_name (i := 4) sc_come_in.nd rfl (.inl rfl))) (px_g2 (px_gN (pg_name (i := 5) sc_come_in.nd rfl (.inl rfl))) (px_g2 (px_gN (pg_name (i := 6) sc_come_in.nd rfl (.inl rfl))) px_gnil))))))))
    (px_sc (px_slcF (ps_setLc (i := 7) (own := [("end", 8), ("person", 9), ("step", 10)]) rfl sc_come_in.nd rfl rfl (sw_true rfl rfl rfl (by decide +kernel)) (px_i1 (px_var (pv 5))) (blkOk_by (own := [("end", 8), ("person", 9), ("step", 10)]) (N := N_come_in) (sc := defScope (top 49)) (by decide +kernel)) (fun _ _ _ _ _ => (px_gT (pg_tup rfl (px_g2 (px_gN (pg_name (i := 8) sc_come_in.nd rfl (.inl rfl))) (px_g2 (px_gN (pg_name (i := 9) sc_come_in.nd rfl (.inl rfl))) (px_g2 (px_gN (pg_name (i := 10) sc_come_in.nd rfl (.inl rfl))) px_gnil)))))) (fun _ _ _ _ _ => (px_t1 (px_tcp (cd_eq (hu64 hr)) (px_var (pv 8)) (px_var (pv 3))))) (fun _ _ _ _ _ => (px_tp (px_c2 (px_var (pv 9)) (px_c2 (px_add (px_var (pv 10)) px_int) px_nil))))))
    (px_sc (px_set (ps_set (i := 7) sc_come_in.nd rfl (.inl rfl) (px_fz (px_biL bl_sorted rfl F.n_sorted (px_c2 (px_add (px_var (pv 7)) (px_fz (px_lc (pe_lc (own := [("person", 9)]) rfl sc_come_in.nd (px_i1 (px_var (pv 2))) (blkOk_by (own := [("person", 9)]) (N := N_come_in) (sc := defScope (top 49)) (by decide +kernel)) (fun _ _ _ _ _ => (px_gN (pg_name (i := 9) sc_come_in.nd rfl (.inl rfl)))) (fun _ _ _ _ _ => px_ty) (fun _ _ _ _ _ => (px_tp (px_c2 (px_var (pv 9)) (px_c2 px_int px_nil)))))))) px_nil)))))
    (px_sc (px_par2 (ps_par (i := 11) (j := 12) rfl sc_come_in.nd rfl rfl (by decide) rfl rfl (px_r2LL (px_ll (pe_lc (own := [("line", 13)]) rfl sc_come_in.nd (px_i1 (px_var (pv 4))) (blkOk_by (own := [("line", 13)]) (N := N_come_in) (sc := defScope (top 49)) (by decide +kernel)) (fun _ _ _ _ _ => (px_gN (pg_name (i := 13) sc_come_in.nd rfl (.inl rfl)))) (fun _ _ _ _ _ => px_ty) (fun _ _ _ _ _ => (px_biL bl_list rfl F.n_list (px_c2 (px_var (pv 13)) px_nil))))) (px_r2L (px_biL bl_list rfl F.n_list (px_c2 (px_var (pv 6)) px_nil)) px_rnil)) (by rfl)))
    (px_sc (px_for (ps_for PassesOwn.never rfl (px_i1 (px_var (pv 7))) (px_gT (pg_tup rfl (px_g2 (px_gN (pg_name (i := 9) sc_come_in.nd rfl (.inl rfl))) (px_g2 (px_gN (pg_name (i := 10) sc_come_in.nd rfl (.inl rfl))) px_gnil)))) (px_sc (px_set (ps_set (i := 14) sc_come_in.nd rfl (.inl rfl) (px_ix (px_var (pv 0)) (px_mod (px_var (pv 9)) (px_bi bi_len rfl F.n_len (px_c2 (px_var (pv 0)) px_nil))))))
    (px_s1 (px_ifS (px_tcp (cd_eq (hu64 hr)) (px_var (pv 10)) (px_bi bi_len rfl F.n_len (px_c2 (px_var (pv 14)) px_nil))) (px_s1 (px_appS (pv 12) (px_tp (px_c2 (px_var (pv 3)) (px_c2 (px_var (pv 9)) px_nil))))) (px_sc (px_al (ps_set (i := 13) sc_come_in.nd rfl (.inl rfl) (pe_ix ix_seq (pv 11) (px_ix (px_var (pv 14)) (px_var (pv 10))) (fun _ _ => rfl))))
    (px_s1 (px_appS (pv 13) (px_tp (px_c2 (px_var (pv 9)) (px_c2 (px_var (pv 10)) (px_c2 (px_var (pv 3)) px_nil))))))))))))
    (px_sc (px_set (ps_set (i := 15) sc_come_in.nd rfl (.inl rfl) (px_bi bi_tuple rfl F.n_tuple (px_c2 (px_fz (px_lc (pe_lc (own := [("own", 16)]) rfl sc_come_in.nd (px_i1 (px_var (pv 5))) (blkOk_by (own := [("own", 16)]) (N := N_come_in) (sc := defScope (top 49)) (by decide +kernel)) (fun _ _ _ _ _ => (px_gN (pg_name (i := 16) sc_come_in.nd rfl (.inl rfl)))) (fun _ _ _ _ _ => (px_t1 (px_tcp cd_gt (px_ix (px_var (pv 16)) px_int) (px_var (pv 3))))) (fun _ _ _ _ _ => (px_var (pv 16)))))) px_nil))))
    (px_lose (i := 13) (px_ice (i := 11) (px_ice (i := 12) (px_s1 (px_ret (px_tp (px_c2 (px_var (pv 3)) (px_c2 (px_bi bi_tuple rfl F.n_tuple (px_c2 (px_fz (px_lc (pe_lc (own := [("line", 13)]) rfl sc_come_in.nd (px_i1 (px_var (pv 11))) (blkOk_by (own := [("line", 13)]) (N := N_come_in) (sc := defScope (top 49)) (by decide +kernel)) (fun _ _ _ _ _ => (px_gN (pg_name (i := 13) sc_come_in.nd rfl (.inl rfl)))) (fun _ _ _ _ _ => px_ty) (fun _ _ _ _ _ => (px_bi bi_tuple rfl F.n_tuple (px_c2 (px_var (pv 13)) px_nil)))))) px_nil)) (px_c2 (px_var (pv 15)) (px_c2 (px_bi bi_tuple rfl F.n_tuple (px_c2 (px_var (pv 12)) px_nil)) px_nil))))))))))))))))
abbrev N_go_on : List Str := ["hall", "state", "stopped", "tick", "stand", "ride", "out", "riding", "went", "lines", "index", "line", "begin", "end", "time", "capacity", "many", "person", "step", "come"]
theorem sc_go_on : FnScope N_go_on ["hall", "state", "stopped"] (defScope (top 50)) := ⟨rfl, rfl, rfl, by decide +kernel, rfl, by decide +kernel, by decide +kernel⟩
theorem c_go_on {P : Program} {w : World} {K : PySem.W.Frag} {mg : Str → Option Value} {base : Heap} (F : Facts K mg) : Cg P w K mg base 1 "go_on" (spF K 3 d_go_on) := by
  refine F.d_go_on.cg (ps := ["hall", "state", "stopped"]) (fun _ _ _ _ _ _ us hl => match us, hl with | [_, _, _], _ => rfl) fun f fd D => fn_F (m := 17) (k := 0) D sc_go_on rfl rfl fun cd A out s H gd hr => ?_
  exact (px_sc (px_asg (ps_asg (px_var (pv 1)) (px_gT (pg_tup rfl (px_g2 (px_gN (pg_name (i := 3) sc_go_on.nd rfl (.inl rfl))) (px_g2 (px_gN (pg_name (i := 4) sc_go_on.nd rfl (.inl rfl))) (px_g2 (px_gN (pg_name (i := 5) sc_go_on.nd rfl (.inl rfl))) (px_g2 (px_gN (pg_name (i := 6) sc_go_on.nd rfl (.inl rfl))) px_gnil))))))))
    (px_sc (px_par3 (ps_par3 (i := 7) (j := 8) (l := 9) rfl sc_go_on.nd rfl rfl rfl (by decide) (by decide) (by decide) rfl rfl rfl (px_r2L (px_biL bl_list rfl F.n_list (px_c2 (px_var (pv 5)) px_nil)) (px_r2L (px_ls px_nil) (px_r2L (px_ls px_nil) px_rnil))) (by rfl)))
    (px_sc (px_for (ps_for PassesOwn.never rfl (px_iE (pi_em rfl F.n_enumerate (px_c2 (px_var (pv 4)) px_nil))) (px_gT (pg_tup rfl (px_g2 (px_gN (pg_name (i := 10) sc_go_on.nd rfl (.inl rfl))) (px_g2 (px_gN (pg_name (i := 11) sc_go_on.nd rfl (.inl rfl))) px_gnil)))) (px_sc (px_asg (ps_asg (px_ix (px_ix (px_var (pv 0)) px_int) (px_var (pv 10))) (px_gT (pg_tup rfl (px_g2 (px_gN (pg_name (i := 12) sc_go_on.nd rfl (.inl rfl))) (px_g2 (px_gN (pg_name (i := 13) sc_go_on.nd rfl (.inl rfl))) (px_g2 (px_gN (pg_name (i := 14) sc_go_on.nd rfl (.inl rfl))) (px_g2 (px_gN (pg_name (i := 15) sc_go_on.nd rfl (.inl rfl))) px_gnil))))))))
    (px_sc (px_set (ps_set (i := 16) sc_go_on.nd rfl (.inl rfl) (px_if (px_tcp cd_in (px_var (pv 10)) (px_var (pv 2))) px_int (px_bi (bi_min rfl) rfl F.n_min (px_c2 (px_var (pv 15)) (px_c2 (px_bi bi_len rfl F.n_len (px_c2 (px_var (pv 11)) px_nil)) px_nil))))))
    (px_sc (px_for (ps_for PassesOwn.never rfl (px_i1 (px_sl (px_var (pv 11)) px_oN (px_oS (px_var (pv 16))))) (px_gT (pg_tup rfl (px_g2 (px_gN (pg_name (i := 17) sc_go_on.nd rfl (.inl rfl))) (px_g2 (px_gN (pg_name (i := 18) sc_go_on.nd rfl (.inl rfl))) (px_g2 (px_gN (pg_name (i := 19) sc_go_on.nd rfl (.inl rfl))) px_gnil))))) (px_sc (px_appS (pv 7) (px_tp (px_c2 (px_add (px_var (pv 3)) (px_var (pv 14))) (px_c2 (px_var (pv 17)) (px_c2 (px_var (pv 18)) px_nil)))))
    (px_s1 (px_appS (pv 8) (px_tp (px_c2 (px_var (pv 17)) (px_c2 (px_var (pv 10)) (px_c2 (px_var (pv 19)) px_nil)))))))))
    (px_s1 (px_appS (pv 9) (px_sl (px_var (pv 11)) (px_oS (px_var (pv 16))) px_oN))))))))
    (px_ice (i := 7) (px_ice (i := 8) (px_ice (i := 9) (px_s1 (px_ret (px_tp (px_c2 (px_tp (px_c2 (px_add (px_var (pv 3)) px_int) (px_c2 (px_bi bi_tuple rfl F.n_tuple (px_c2 (px_var (pv 9)) px_nil)) (px_c2 (px_bi bi_tuple rfl F.n_tuple (px_c2 (px_var (pv 7)) px_nil)) (px_c2 (px_var (pv 6)) px_nil))))) (px_c2 (px_var (pv 8)) px_nil)))))))))))
abbrev N_log_of : List Str := ["hall", "people", "routes", "tick", "route", "found", "state", "known", "newcomers", "k", "went", "person", "stair", "come", "log"]
theorem sc_log_of : FnScope N_log_of ["hall", "people"] (defScope (top 52)) := ⟨rfl, rfl, rfl, by decide +kernel, rfl, by decide +kernel, by decide +kernel⟩
theorem c_log_of {P : Program} {w : World} {K : PySem.W.Frag} {mg : Str → Option Value} {base : Heap} (F : Facts K mg) : Cg P w K mg base 2 "log_of" (spF K 2 d_log_of) := by
  refine F.d_log_of.cg (ps := ["hall", "people"]) (fun _ _ _ _ _ _ us hl => match us, hl with | [_, _], _ => rfl) fun f fd D => fn_F (m := 13) (k := 1) D sc_log_of rfl rfl fun cd A out s H gd hr => ?_
  exact (px_sc (px_slcF (ps_setLc (i := 2) (own := [("tick", 3), ("route", 4)]) rfl sc_log_of.nd rfl rfl (sw_true rfl rfl rfl (by decide +kernel)) (px_i1 (px_var (pv 1))) (blkOk_by (own := [("tick", 3), ("route", 4)]) (N := N_log_of) (sc := defScope (top 52)) (by decide +kernel)) (fun _ _ _ _ _ => (px_gT (pg_tup rfl (px_g2 (px_gN (pg_name (i := 3) sc_log_of.nd rfl (.inl rfl))) (px_g2 (px_gN (pg_name (i := 4) sc_log_of.nd rfl (.inl rfl))) px_gnil))))) (fun _ _ _ _ _ => px_ty) (fun _ _ _ _ _ => (px_var (pv 4)))))
    (px_sc (px_parN (n := 3) rfl (ps_asg (pe_tup (px_r2LL (px_ll (pe_lc (own := [("route", 4)]) rfl sc_log_of.nd (px_i1 (px_var (pv 2))) (blkOk_by (own := [("route", 4)]) (N := N_log_of) (sc := defScope (top 52)) (by decide +kernel)) (fun _ _ _ _ _ => (px_gN (pg_name (i := 4) sc_log_of.nd rfl (.inl rfl)))) (fun _ _ _ _ _ => px_ty) (fun _ _ _ _ _ => (px_ls px_nil)))) (px_r2F (px_call (c_nobody F) denF_len gd (hr.mono (by decide)) rfl (px_c2 (px_var (pv 0)) px_nil)) (px_r2F px_int px_rnil)))) (pg_tup rfl (pgs_cons (pg_name (i := 5) sc_log_of.nd rfl (.inl rfl)) (pgs_cons (pg_name (i := 6) sc_log_of.nd rfl (.inr rfl)) (pgs_cons (pg_name (i := 7) sc_log_of.nd rfl (.inl rfl)) pgs_nil))))) (by decide))
    (px_sc (px_while (ps_while PassesOwn.never (PW.pt (px_or (px_tcp cd_lt (px_var (pv 7)) (px_bi bi_len rfl F.n_len (px_c2 (px_var (pv 1)) px_nil))) (px_or1 (px_not (px_tval (px_call (c_is_empty F) denF_len gd (hr.mono (by decide)) rfl (px_c2 (px_var (pv 6)) px_nil))))))) (px_sc (px_slcF (ps_setLc (i := 8) (own := [("k", 9)]) rfl sc_log_of.nd rfl rfl (sw_true rfl rfl rfl (by decide +kernel)) (px_iR2 (pi_range2 rfl F.n_range (px_c2 (px_var (pv 7)) (px_c2 (px_bi bi_len rfl F.n_len (px_c2 (px_var (pv 1)) px_nil)) px_nil)))) (blkOk_by (own := [("k", 9)]) (N := N_log_of) (sc := defScope (top 52)) (by decide +kernel)) (fun _ _ _ _ _ => (px_gN (pg_name (i := 9) sc_log_of.nd rfl (.inl rfl)))) (fun _ _ _ _ _ => (px_t1 (px_tcp (cd_eq (hu64 hr)) (px_ix (px_ix (px_var (pv 1)) (px_var (pv 9))) px_int) (px_ix (px_var (pv 6)) px_int)))) (fun _ _ _ _ _ => (px_var (pv 9)))))
    (px_sc (px_set (ps_set (i := 7) sc_log_of.nd rfl (.inl rfl) (px_add (px_var (pv 7)) (px_bi bi_len rfl F.n_len (px_c2 (px_var (pv 8)) px_nil)))))
    (px_sc (px_set (ps_set (i := 6) sc_log_of.nd rfl (.inr rfl) (px_call (c_come_in F) denF_len gd (hr.mono (by decide)) rfl (px_c2 (px_var (pv 2)) (px_c2 (px_var (pv 6)) (px_c2 (px_var (pv 8)) px_nil))))))
    (px_sc (px_set (ps_set (i := 3) sc_log_of.nd rfl (.inl rfl) (px_ix (px_var (pv 6)) px_int)))
    (px_sc (px_asg (ps_asg (px_call (c_go_on F) denF_len gd (hr.mono (by decide)) rfl (px_c2 (px_var (pv 0)) (px_c2 (px_var (pv 6)) (px_c2 (px_tp px_nil) px_nil)))) (px_gT (pg_tup rfl (px_g2 (px_gN (pg_name (i := 6) sc_log_of.nd rfl (.inr rfl))) (px_g2 (px_gN (pg_name (i := 10) sc_log_of.nd rfl (.inl rfl))) px_gnil))))))
    (px_s1 (px_for (ps_for PassesOwn.never rfl (px_i1 (px_var (pv 10))) (px_gT (pg_tup rfl (px_g2 (px_gN (pg_name (i := 11) sc_log_of.nd rfl (.inl rfl))) (px_g2 (px_gN (pg_name (i := 12) sc_log_of.nd rfl (.inl rfl))) (px_g2 (px_gN (pg_name (i := 13) sc_log_of.nd rfl (.inl rfl))) px_gnil))))) (px_sc (px_al (ps_set (i := 14) sc_log_of.nd rfl (.inl rfl) (pe_ix ix_seq (pv 5) (px_var (pv 11)) (fun _ _ => rfl))))
    (px_s1 (px_appS (pv 14) (px_tp (px_c2 (px_var (pv 13)) (px_c2 (px_var (pv 3)) px_nil))))))))))))))))
    (px_lose (i := 14) (px_ice (i := 5) (px_s1 (px_ret (px_var (pv 5)))))))))
abbrev N_rides_of : List Str := ["hall", "people", "log"]
theorem sc_rides_of : FnScope N_rides_of ["hall", "people"] (defScope (top 58)) := ⟨rfl, rfl, rfl, by decide +kernel, rfl, by decide +kernel, by decide +kernel⟩
theorem c_rides_of {P : Program} {w : World} {K : PySem.W.Frag} {mg : Str → Option Value} {base : Heap} (F : Facts K mg) : Cg P w K mg base 3 "rides_of" (spF K 2 d_rides_of) := by
  refine F.d_rides_of.cg (ps := ["hall", "people"]) (fun _ _ _ _ _ _ us hl => match us, hl with | [_, _], _ => rfl) fun f fd D => fn_F (m := 1) (k := 2) D sc_rides_of rfl rfl fun cd A out s H gd hr => ?_
  exact (px_s1 (px_ret (px_bi bi_tuple rfl F.n_tuple (px_c2 (px_fz (px_lc (pe_lc (own := [("log", 2)]) rfl sc_rides_of.nd (px_i1 (px_call (c_log_of F) denF_len gd (hr.mono (by decide)) rfl (px_c2 (px_var (pv 0)) (px_c2 (px_var (pv 1)) px_nil)))) (blkOk_by (own := [("log", 2)]) (N := N_rides_of) (sc := defScope (top 58)) (by decide +kernel)) (fun _ _ _ _ _ => (px_gN (pg_name (i := 2) sc_rides_of.nd rfl (.inl rfl)))) (fun _ _ _ _ _ => px_ty) (fun _ _ _ _ _ => (px_bi bi_tuple rfl F.n_tuple (px_c2 (px_var (pv 2)) px_nil)))))) px_nil))))
abbrev N_outs_of : List Str := ["hall", "people", "found", "own", "ride", "last"]
theorem sc_outs_of : FnScope N_outs_of ["hall", "people"] (defScope (top 59)) := ⟨rfl, rfl, rfl, by decide +kernel, rfl, by decide +kernel, by decide +kernel⟩
theorem c_outs_of {P : Program} {w : World} {K : PySem.W.Frag} {mg : Str → Option Value} {base : Heap} (F : Facts K mg) : Cg P w K mg base 4 "outs_of" (spF K 2 d_outs_of) := by
  refine F.d_outs_of.cg (ps := ["hall", "people"]) (fun _ _ _ _ _ _ us hl => match us, hl with | [_, _], _ => rfl) fun f fd D => fn_F (m := 4) (k := 3) D sc_outs_of rfl rfl fun cd A out s H gd hr => ?_
  exact (px_sc (px_setL (ps_set (i := 2) sc_outs_of.nd rfl (.inl rfl) (px_ls px_nil)))
    (px_sc (px_for (ps_for PassesOwn.never rfl (px_iZ (pi_zm rfl F.n_zip (px_c2 (px_var (pv 1)) (px_c2 (px_call (c_rides_of F) denF_len gd (hr.mono (by decide)) rfl (px_c2 (px_var (pv 0)) (px_c2 (px_var (pv 1)) px_nil))) px_nil)))) (px_gT (pg_tup rfl (px_g2 (px_gN (pg_name (i := 3) sc_outs_of.nd rfl (.inl rfl))) (px_g2 (px_gN (pg_name (i := 4) sc_outs_of.nd rfl (.inl rfl))) px_gnil)))) (px_sc (px_set (ps_set (i := 5) sc_outs_of.nd rfl (.inl rfl) (px_ix (px_ix (px_var (pv 3)) px_int) (px_neg px_int))))
    (px_s1 (px_appS (pv 2) (px_add (px_ix (px_ix (px_var (pv 4)) (px_neg px_int)) px_int) (px_ix (px_ix (px_ix (px_var (pv 0)) px_int) (px_var (pv 5))) px_int)))))))
    (px_ice (i := 2) (px_s1 (px_ret (px_bi bi_tuple rfl F.n_tuple (px_c2 (px_var (pv 2)) px_nil)))))))
abbrev N_out_ticks : List Str := ["hall", "people"]
theorem sc_out_ticks : FnScope N_out_ticks ["hall", "people"] (defScope (top 61)) := ⟨rfl, rfl, rfl, by decide +kernel, rfl, by decide +kernel, by decide +kernel⟩
theorem c_out_ticks {P : Program} {w : World} {K : PySem.W.Frag} {mg : Str → Option Value} {base : Heap} (F : Facts K mg) : Cg P w K mg base 9 "out_ticks" (spF K 2 d_out_ticks) := by
  refine F.d_out_ticks.cg (ps := ["hall", "people"]) (fun _ _ _ _ _ _ us hl => match us, hl with | [_, _], _ => rfl) fun f fd D => fn_F (m := 0) (k := 8) D sc_out_ticks rfl rfl fun cd A out s H gd hr => ?_
  exact (px_sc (px_ex (px_call (c_need_people F) denF_len gd (hr.mono (by decide)) rfl (px_c2 (px_var (pv 0)) (px_c2 (px_var (pv 1)) px_nil))))
    (px_s1 (px_ret (px_call (c_outs_of F) denF_len gd (hr.mono (by decide)) rfl (px_c2 (px_var (pv 0)) (px_c2 (px_var (pv 1)) px_nil))))))
abbrev N_waits : List Str := ["hall", "people", "come", "go", "ride"]
theorem sc_waits : FnScope N_waits ["hall", "people"] (defScope (top 60)) := ⟨rfl, rfl, rfl, by decide +kernel, rfl, by decide +kernel, by decide +kernel⟩
theorem c_waits {P : Program} {w : World} {K : PySem.W.Frag} {mg : Str → Option Value} {base : Heap} (F : Facts K mg) : Cg P w K mg base 9 "waits" (spF K 2 d_waits) := by
  refine F.d_waits.cg (ps := ["hall", "people"]) (fun _ _ _ _ _ _ us hl => match us, hl with | [_, _], _ => rfl) fun f fd D => fn_F (m := 3) (k := 8) D sc_waits rfl rfl fun cd A out s H gd hr => ?_
  exact (px_sc (px_ex (px_call (c_need_people F) denF_len gd (hr.mono (by decide)) rfl (px_c2 (px_var (pv 0)) (px_c2 (px_var (pv 1)) px_nil))))
    (px_s1 (px_ret (px_bi bi_tuple rfl F.n_tuple (px_c2 (px_fz (px_lc (pe_lc (own := [("ride", 4)]) rfl sc_waits.nd (px_i1 (px_call (c_rides_of F) denF_len gd (hr.mono (by decide)) rfl (px_c2 (px_var (pv 0)) (px_c2 (px_var (pv 1)) px_nil)))) (blkOk_by (own := [("ride", 4)]) (N := N_waits) (sc := defScope (top 60)) (by decide +kernel)) (fun _ _ _ _ _ => (px_gN (pg_name (i := 4) sc_waits.nd rfl (.inl rfl)))) (fun _ _ _ _ _ => px_ty) (fun _ _ _ _ _ => (px_bi bi_tuple rfl F.n_tuple (px_c2 (px_fz (px_lc (pe_lc (own := [("come", 2), ("go", 3)]) rfl sc_waits.nd (px_i1 (px_var (pv 4))) (blkOk_by (own := [("come", 2), ("go", 3)]) (by kernel_rfl)) (fun _ _ _ _ _ => (px_gT (pg_tup rfl (px_g2 (px_gN (pg_name (i := 2) sc_waits.nd rfl (.inl rfl))) (px_g2 (px_gN (pg_name (i := 3) sc_waits.nd rfl (.inl rfl))) px_gnil))))) (fun _ _ _ _ _ => px_ty) (fun _ _ _ _ _ => (px_sub (px_var (pv 3)) (px_var (pv 2))))))) px_nil)))))) px_nil)))))
abbrev N_is_beat : List Str := ["value", "item"]
theorem sc_is_beat : FnScope N_is_beat ["value"] (defScope (top 22)) := ⟨rfl, rfl, rfl, by decide +kernel, rfl, by decide +kernel, by decide +kernel⟩
theorem c_is_beat {P : Program} {w : World} {K : PySem.W.Frag} {mg : Str → Option Value} {base : Heap} (F : Facts K mg) : Cg P w K mg base 3 "is_beat" (spF K 1 d_is_beat) := by
  refine F.d_is_beat.cg (ps := ["value"]) (fun _ _ _ _ _ _ us hl => match us, hl with | [_], _ => rfl) fun f fd D => fn_F (m := 1) (k := 2) D sc_is_beat rfl rfl fun cd A out s H gd hr => ?_
  exact (px_sc (px_ifS (PW.pt (px_or (px_not (px_tval (px_call (c_is_tuple F) denF_len gd (hr.mono (by decide)) rfl (px_c2 (px_var (pv 0)) (px_c2 px_int (px_c2 (px_gi F.i_MOST_BEAT rfl) px_nil)))))) (px_or1 (px_not (px_tval (px_bi (bi_all rfl) rfl F.n_all (px_c2 (px_fz (px_lc (pe_lc (own := [("item", 1)]) rfl sc_is_beat.nd (px_i1 (px_var (pv 0))) (blkOk_by (own := [("item", 1)]) (N := N_is_beat) (sc := defScope (top 22)) (by decide +kernel)) (fun _ _ _ _ _ => (px_gN (pg_name (i := 1) sc_is_beat.nd rfl (.inl rfl)))) (fun _ _ _ _ _ => px_ty) (fun _ _ _ _ _ => (px_call (c_is_between F) denF_len gd (hr.mono (by decide)) rfl (px_c2 (px_var (pv 1)) (px_c2 px_int (px_c2 (px_gi F.i_MOST_ITEM rfl) px_nil)))))))) px_nil))))))) (px_s1 (px_ret px_bl)) px_sn)
    (px_s1 (px_ret (px_cp cd_gt (px_bi (bi_sum rfl) rfl F.n_sum (px_c2 (px_var (pv 0)) px_nil)) px_int))))
abbrev N_is_row : List Str := ["value", "own"]
theorem sc_is_row : FnScope N_is_row ["value"] (defScope (top 23)) := ⟨rfl, rfl, rfl, by decide +kernel, rfl, by decide +kernel, by decide +kernel⟩
theorem c_is_row {P : Program} {w : World} {K : PySem.W.Frag} {mg : Str → Option Value} {base : Heap} (F : Facts K mg) : Cg P w K mg base 4 "is_row" (spF K 1 d_is_row) := by
  refine F.d_is_row.cg (ps := ["value"]) (fun _ _ _ _ _ _ us hl => match us, hl with | [_], _ => rfl) fun f fd D => fn_F (m := 1) (k := 3) D sc_is_row rfl rfl fun cd A out s H gd hr => ?_
  exact (px_sc (px_ifS (px_not (px_tval (px_call (c_is_tuple F) denF_len gd (hr.mono (by decide)) rfl (px_c2 (px_var (pv 0)) (px_c2 px_int (px_c2 (px_gi F.i_MOST_ROW rfl) px_nil)))))) (px_s1 (px_ret px_bl)) px_sn)
    (px_sc (px_for (ps_for PassesOwn.never rfl (px_i1 (px_var (pv 0))) (px_gN (pg_name (i := 1) sc_is_row.nd rfl (.inl rfl))) (px_s1 (px_ifS (PW.pt (px_or (px_not (px_tval (px_call (c_is_tuple F) denF_len gd (hr.mono (by decide)) rfl (px_c2 (px_var (pv 1)) (px_c2 px_int (px_c2 px_int px_nil)))))) (px_or (px_not (px_tval (px_call (c_is_between F) denF_len gd (hr.mono (by decide)) rfl (px_c2 (px_ix (px_var (pv 1)) px_int) (px_c2 px_int (px_c2 (px_gi F.i_MOST_TIME_rows rfl) px_nil)))))) (px_or1 (px_not (px_tval (px_call (c_is_beat F) denF_len gd (hr.mono (by decide)) rfl (px_c2 (px_ix (px_var (pv 1)) px_int) px_nil)))))))) (px_s1 (px_ret px_bl)) px_sn))))
    (px_s1 (px_ret (px_bi (bi_all rfl) rfl F.n_all (px_c2 (px_fz (px_lc (pe_lc (own := [("own", 1)]) rfl sc_is_row.nd (px_i1 (px_var (pv 0))) (blkOk_by (own := [("own", 1)]) (N := N_is_row) (sc := defScope (top 23)) (by decide +kernel)) (fun _ _ _ _ _ => (px_gN (pg_name (i := 1) sc_is_row.nd rfl (.inl rfl)))) (fun _ _ _ _ _ => px_ty) (fun _ _ _ _ _ => (px_cp (cd_eq (hu64 hr)) (px_bi bi_len rfl F.n_len (px_c2 (px_ix (px_var (pv 1)) px_int) px_nil)) (px_bi bi_len rfl F.n_len (px_c2 (px_ix (px_ix (px_var (pv 0)) px_int) px_int) px_nil))))))) px_nil))))))
abbrev N_need_row : List Str := ["row"]
theorem sc_need_row : FnScope N_need_row ["row"] (defScope (top 24)) := ⟨rfl, rfl, rfl, by decide +kernel, rfl, by decide +kernel, by decide +kernel⟩
theorem c_need_row {P : Program} {w : World} {K : PySem.W.Frag} {mg : Str → Option Value} {base : Heap} (F : Facts K mg) : Cg P w K mg base 5 "need_row" (spF K 1 d_need_row) := by
  refine F.d_need_row.cg (ps := ["row"]) (fun _ _ _ _ _ _ us hl => match us, hl with | [_], _ => rfl) fun f fd D => fn_F (m := 0) (k := 4) D sc_need_row rfl rfl fun cd A out s H gd hr => ?_
  exact (px_s1 (px_ifS (px_not (px_tval (px_call (c_is_row F) denF_len gd (hr.mono (by decide)) rfl (px_c2 (px_var (pv 0)) px_nil)))) (px_s1 px_no) px_sn))
abbrev N_are_ticks : List Str := ["value", "tick"]
theorem sc_are_ticks : FnScope N_are_ticks ["value"] (defScope (top 15)) := ⟨rfl, rfl, rfl, by decide +kernel, rfl, by decide +kernel, by decide +kernel⟩
theorem c_are_ticks {P : Program} {w : World} {K : PySem.W.Frag} {mg : Str → Option Value} {base : Heap} (F : Facts K mg) : Cg P w K mg base 3 "are_ticks" (spF K 1 d_are_ticks) := by
  refine F.d_are_ticks.cg (ps := ["value"]) (fun _ _ _ _ _ _ us hl => match us, hl with | [_], _ => rfl) fun f fd D => fn_F (m := 1) (k := 2) D sc_are_ticks rfl rfl fun cd A out s H gd hr => ?_
  exact (px_sc (px_ifS (PW.pt (px_or (px_not (px_tval (px_call (c_is_tuple F) denF_len gd (hr.mono (by decide)) rfl (px_c2 (px_var (pv 0)) (px_c2 px_int (px_c2 (px_gi F.i_MOST_TICKS rfl) px_nil)))))) (px_or1 (px_not (px_tval (px_bi (bi_all rfl) rfl F.n_all (px_c2 (px_fz (px_lc (pe_lc (own := [("tick", 1)]) rfl sc_are_ticks.nd (px_i1 (px_var (pv 0))) (blkOk_by (own := [("tick", 1)]) (N := N_are_ticks) (sc := defScope (top 15)) (by decide +kernel)) (fun _ _ _ _ _ => (px_gN (pg_name (i := 1) sc_are_ticks.nd rfl (.inl rfl)))) (fun _ _ _ _ _ => px_ty) (fun _ _ _ _ _ => (px_call (c_is_between F) denF_len gd (hr.mono (by decide)) rfl (px_c2 (px_var (pv 1)) (px_c2 px_int (px_c2 (px_gi F.i_LAST_COME rfl) px_nil)))))))) px_nil))))))) (px_s1 (px_ret px_bl)) px_sn)
    (px_s1 (px_ret (px_call (c_is_level F) denF_len gd (hr.mono (by decide)) rfl (px_c2 (px_var (pv 0)) px_nil)))))
abbrev N_need_ticks : List Str := ["ticks"]
theorem sc_need_ticks : FnScope N_need_ticks ["ticks"] (defScope (top 16)) := ⟨rfl, rfl, rfl, by decide +kernel, rfl, by decide +kernel, by decide +kernel⟩
theorem c_need_ticks {P : Program} {w : World} {K : PySem.W.Frag} {mg : Str → Option Value} {base : Heap} (F : Facts K mg) : Cg P w K mg base 4 "need_ticks" (spF K 1 d_need_ticks) := by
  refine F.d_need_ticks.cg (ps := ["ticks"]) (fun _ _ _ _ _ _ us hl => match us, hl with | [_], _ => rfl) fun f fd D => fn_F (m := 0) (k := 3) D sc_need_ticks rfl rfl fun cd A out s H gd hr => ?_
  exact (px_s1 (px_ifS (px_not (px_tval (px_call (c_are_ticks F) denF_len gd (hr.mono (by decide)) rfl (px_c2 (px_var (pv 0)) px_nil)))) (px_s1 px_no) px_sn))
abbrev N_beat_goes : List Str := ["beat", "comes", "found", "tick", "used", "come"]
theorem sc_beat_goes : FnScope N_beat_goes ["beat", "comes"] (defScope (top 25)) := ⟨rfl, rfl, rfl, by decide +kernel, rfl, by decide +kernel, by decide +kernel⟩
theorem c_beat_goes {P : Program} {w : World} {K : PySem.W.Frag} {mg : Str → Option Value} {base : Heap} (F : Facts K mg) : Cg P w K mg base 1 "beat_goes" (spF K 2 d_beat_goes) := by
  refine F.d_beat_goes.cg (ps := ["beat", "comes"]) (fun _ _ _ _ _ _ us hl => match us, hl with | [_, _], _ => rfl) fun f fd D => fn_F (m := 4) (k := 0) D sc_beat_goes rfl rfl fun cd A out s H gd hr => ?_
  exact (px_sc (px_par3 (ps_par3 (i := 2) (j := 3) (l := 4) rfl sc_beat_goes.nd rfl rfl rfl (by decide) (by decide) (by decide) rfl rfl rfl (px_r2L (px_ls px_nil) (px_r2F px_int (px_r2F px_int px_rnil))) (by rfl)))
    (px_sc (px_for (ps_for PassesOwn.never rfl (px_i1 (px_var (pv 1))) (px_gN (pg_name (i := 5) sc_beat_goes.nd rfl (.inl rfl))) (px_sc (px_ifS (px_tcp cd_gt (px_var (pv 5)) (px_var (pv 3))) (px_s1 (px_par2 (ps_par (i := 3) (j := 4) rfl sc_beat_goes.nd rfl rfl (by decide) rfl rfl (px_r2F (px_var (pv 5)) (px_r2F px_int px_rnil)) (by rfl)))) px_sn)
    (px_sc (px_while (ps_while PassesOwn.never (px_tcp (cd_eq (hu64 hr)) (px_var (pv 4)) (px_ix (px_var (pv 0)) (px_mod (px_var (pv 3)) (px_bi bi_len rfl F.n_len (px_c2 (px_var (pv 0)) px_nil))))) (px_s1 (px_par2 (ps_par (i := 3) (j := 4) rfl sc_beat_goes.nd rfl rfl (by decide) rfl rfl (px_r2F (px_add (px_var (pv 3)) px_int) (px_r2F px_int px_rnil)) (by rfl))))))
    (px_sc (px_appS (pv 2) (px_var (pv 3)))
    (px_s1 (px_aug (ps_aug (i := 4) sc_beat_goes.nd rfl (.inl rfl) px_int ip_add))))))))
    (px_ice (i := 2) (px_s1 (px_ret (px_var (pv 2)))))))
abbrev N_outs_in : List Str := ["row", "ticks", "comes", "time", "beat", "go"]
theorem sc_outs_in : FnScope N_outs_in ["row", "ticks"] (defScope (top 27)) := ⟨rfl, rfl, rfl, by decide +kernel, rfl, by decide +kernel, by decide +kernel⟩
theorem c_outs_in {P : Program} {w : World} {K : PySem.W.Frag} {mg : Str → Option Value} {base : Heap} (F : Facts K mg) : Cg P w K mg base 2 "outs_in" (spF K 2 d_outs_in) := by
  refine F.d_outs_in.cg (ps := ["row", "ticks"]) (fun _ _ _ _ _ _ us hl => match us, hl with | [_, _], _ => rfl) fun f fd D => fn_F (m := 4) (k := 1) D sc_outs_in rfl rfl fun cd A out s H gd hr => ?_
  exact (px_sc (px_set (ps_set (i := 2) sc_outs_in.nd rfl (.inl rfl) (px_fz (px_biL bl_list rfl F.n_list (px_c2 (px_var (pv 1)) px_nil)))))
    (px_sc (px_for (ps_for PassesOwn.never rfl (px_i1 (px_var (pv 0))) (px_gT (pg_tup rfl (px_g2 (px_gN (pg_name (i := 3) sc_outs_in.nd rfl (.inr rfl))) (px_g2 (px_gN (pg_name (i := 4) sc_outs_in.nd rfl (.inl rfl))) px_gnil)))) (px_s1 (px_slcF (ps_setLc (i := 2) (own := [("go", 5)]) rfl sc_outs_in.nd rfl rfl (sw_true rfl rfl rfl (by decide +kernel)) (px_i1 (px_call (c_beat_goes F) denF_len gd (hr.mono (by decide)) rfl (px_c2 (px_var (pv 4)) (px_c2 (px_var (pv 2)) px_nil)))) (blkOk_by (own := [("go", 5)]) (N := N_outs_in) (sc := defScope (top 27)) (by decide +kernel)) (fun _ _ _ _ _ => (px_gN (pg_name (i := 5) sc_outs_in.nd rfl (.inl rfl)))) (fun _ _ _ _ _ => px_ty) (fun _ _ _ _ _ => (px_add (px_var (pv 5)) (px_var (pv 3)))))))))
    (px_s1 (px_ret (px_var (pv 2))))))
abbrev N_row_out : List Str := ["row", "ticks"]
theorem sc_row_out : FnScope N_row_out ["row", "ticks"] (defScope (top 28)) := ⟨rfl, rfl, rfl, by decide +kernel, rfl, by decide +kernel, by decide +kernel⟩
theorem c_row_out {P : Program} {w : World} {K : PySem.W.Frag} {mg : Str → Option Value} {base : Heap} (F : Facts K mg) : Cg P w K mg base 6 "row_out" (spF K 2 d_row_out) := by
  refine F.d_row_out.cg (ps := ["row", "ticks"]) (fun _ _ _ _ _ _ us hl => match us, hl with | [_, _], _ => rfl) fun f fd D => fn_F (m := 0) (k := 5) D sc_row_out rfl rfl fun cd A out s H gd hr => ?_
  exact (px_sc (px_ex (px_call (c_need_row F) denF_len gd (hr.mono (by decide)) rfl (px_c2 (px_var (pv 0)) px_nil)))
    (px_sc (px_ex (px_call (c_need_ticks F) denF_len gd (hr.mono (by decide)) rfl (px_c2 (px_var (pv 1)) px_nil)))
    (px_s1 (px_ret (px_bi bi_tuple rfl F.n_tuple (px_c2 (px_call (c_outs_in F) denF_len gd (hr.mono (by decide)) rfl (px_c2 (px_var (pv 0)) (px_c2 (px_var (pv 1)) px_nil))) px_nil))))))
abbrev N_goes_in : List Str := ["row", "ticks", "found", "comes", "time", "beat", "goes", "go"]
theorem sc_goes_in : FnScope N_goes_in ["row", "ticks"] (defScope (top 26)) := ⟨rfl, rfl, rfl, by decide +kernel, rfl, by decide +kernel, by decide +kernel⟩
theorem c_goes_in {P : Program} {w : World} {K : PySem.W.Frag} {mg : Str → Option Value} {base : Heap} (F : Facts K mg) : Cg P w K mg base 2 "goes_in" (spF K 2 d_goes_in) := by
  refine F.d_goes_in.cg (ps := ["row", "ticks"]) (fun _ _ _ _ _ _ us hl => match us, hl with | [_, _], _ => rfl) fun f fd D => fn_F (m := 6) (k := 1) D sc_goes_in rfl rfl fun cd A out s H gd hr => ?_
  exact (px_sc (px_par2 (ps_par (i := 2) (j := 3) rfl sc_goes_in.nd rfl rfl (by decide) rfl rfl (px_r2L (px_ls px_nil) (px_r2F (px_fz (px_biL bl_list rfl F.n_list (px_c2 (px_var (pv 1)) px_nil))) px_rnil)) (by rfl)))
    (px_sc (px_for (ps_for PassesOwn.never rfl (px_i1 (px_var (pv 0))) (px_gT (pg_tup rfl (px_g2 (px_gN (pg_name (i := 4) sc_goes_in.nd rfl (.inr rfl))) (px_g2 (px_gN (pg_name (i := 5) sc_goes_in.nd rfl (.inl rfl))) px_gnil)))) (px_sc (px_set (ps_set (i := 6) sc_goes_in.nd rfl (.inl rfl) (px_call (c_beat_goes F) denF_len gd (hr.mono (by decide)) rfl (px_c2 (px_var (pv 5)) (px_c2 (px_var (pv 3)) px_nil)))))
    (px_sc (px_appS (pv 2) (px_tp (px_c2 (px_var (pv 3)) (px_c2 (px_var (pv 6)) px_nil))))
    (px_s1 (px_slcF (ps_setLc (i := 3) (own := [("go", 7)]) rfl sc_goes_in.nd rfl rfl (sw_true rfl rfl rfl (by decide +kernel)) (px_i1 (px_var (pv 6))) (blkOk_by (own := [("go", 7)]) (N := N_goes_in) (sc := defScope (top 26)) (by decide +kernel)) (fun _ _ _ _ _ => (px_gN (pg_name (i := 7) sc_goes_in.nd rfl (.inl rfl)))) (fun _ _ _ _ _ => px_ty) (fun _ _ _ _ _ => (px_add (px_var (pv 7)) (px_var (pv 4)))))))))))
    (px_ice (i := 2) (px_s1 (px_ret (px_var (pv 2)))))))
abbrev N_row_waits : List Str := ["row", "ticks", "log", "comes", "goes", "person"]
theorem sc_row_waits : FnScope N_row_waits ["row", "ticks"] (defScope (top 29)) := ⟨rfl, rfl, rfl, by decide +kernel, rfl, by decide +kernel, by decide +kernel⟩
theorem c_row_waits {P : Program} {w : World} {K : PySem.W.Frag} {mg : Str → Option Value} {base : Heap} (F : Facts K mg) : Cg P w K mg base 6 "row_waits" (spF K 2 d_row_waits) := by
  refine F.d_row_waits.cg (ps := ["row", "ticks"]) (fun _ _ _ _ _ _ us hl => match us, hl with | [_, _], _ => rfl) fun f fd D => fn_F (m := 4) (k := 5) D sc_row_waits rfl rfl fun cd A out s H gd hr => ?_
  exact (px_sc (px_ex (px_call (c_need_row F) denF_len gd (hr.mono (by decide)) rfl (px_c2 (px_var (pv 0)) px_nil)))
    (px_sc (px_ex (px_call (c_need_ticks F) denF_len gd (hr.mono (by decide)) rfl (px_c2 (px_var (pv 1)) px_nil)))
    (px_sc (px_set (ps_set (i := 2) sc_row_waits.nd rfl (.inr rfl) (px_call (c_goes_in F) denF_len gd (hr.mono (by decide)) rfl (px_c2 (px_var (pv 0)) (px_c2 (px_var (pv 1)) px_nil)))))
    (px_s1 (px_ret (px_bi bi_tuple rfl F.n_tuple (px_c2 (px_fz (px_lc (pe_lc (own := [("person", 5)]) rfl sc_row_waits.nd (px_iR1 (pi_range1 rfl F.n_range (px_c2 (px_bi bi_len rfl F.n_len (px_c2 (px_var (pv 1)) px_nil)) px_nil))) (blkOk_by (own := [("person", 5)]) (N := N_row_waits) (sc := defScope (top 29)) (by decide +kernel)) (fun _ _ _ _ _ => (px_gN (pg_name (i := 5) sc_row_waits.nd rfl (.inr rfl)))) (fun _ _ _ _ _ => px_ty) (fun _ _ _ _ _ => (px_bi bi_tuple rfl F.n_tuple (px_c2 (px_fz (px_lc (pe_lc (own := [("comes", 3), ("goes", 4)]) rfl sc_row_waits.nd (px_i1 (px_var (pv 2))) (blkOk_by (own := [("comes", 3), ("goes", 4)]) (by kernel_rfl)) (fun _ _ _ _ _ => (px_gT (pg_tup rfl (px_g2 (px_gN (pg_name (i := 3) sc_row_waits.nd rfl (.inl rfl))) (px_g2 (px_gN (pg_name (i := 4) sc_row_waits.nd rfl (.inl rfl))) px_gnil))))) (fun _ _ _ _ _ => px_ty) (fun _ _ _ _ _ => (px_sub (px_ix (px_var (pv 4)) (px_var (pv 5))) (px_ix (px_var (pv 3)) (px_var (pv 5)))))))) px_nil)))))) px_nil)))))))
abbrev N_latest_goes : List Str := ["beat", "dues", "found", "tick", "used", "due"]
theorem sc_latest_goes : FnScope N_latest_goes ["beat", "dues"] (defScope (top 31)) := ⟨rfl, rfl, rfl, by decide +kernel, rfl, by decide +kernel, by decide +kernel⟩
theorem c_latest_goes {P : Program} {w : World} {K : PySem.W.Frag} {mg : Str → Option Value} {base : Heap} (F : Facts K mg) : Cg P w K mg base 1 "latest_goes" (spF K 2 d_latest_goes) := by
  refine F.d_latest_goes.cg (ps := ["beat", "dues"]) (fun _ _ _ _ _ _ us hl => match us, hl with | [_, _], _ => rfl) fun f fd D => fn_F (m := 4) (k := 0) D sc_latest_goes rfl rfl fun cd A out s H gd hr => ?_
  exact (px_sc (px_par3 (ps_par3 (i := 2) (j := 3) (l := 4) rfl sc_latest_goes.nd rfl rfl rfl (by decide) (by decide) (by decide) rfl rfl rfl (px_r2L (px_ls px_nil) (px_r2F (px_if (px_tcp (cd_ne (hu64 hr)) (px_var (pv 1)) (px_fz (px_ls px_nil))) (px_ix (px_var (pv 1)) (px_neg px_int)) px_int) (px_r2F px_int px_rnil))) (by rfl)))
    (px_sc (px_for (ps_for PassesOwn.never rfl (px_i1 (px_fz (px_revD (pe_revL (px_var (pv 1)))))) (px_gN (pg_name (i := 5) sc_latest_goes.nd rfl (.inl rfl))) (px_sc (px_ifS (px_tcp cd_lt (px_var (pv 5)) (px_var (pv 3))) (px_s1 (px_par2 (ps_par (i := 3) (j := 4) rfl sc_latest_goes.nd rfl rfl (by decide) rfl rfl (px_r2F (px_var (pv 5)) (px_r2F px_int px_rnil)) (by rfl)))) px_sn)
    (px_sc (px_while (ps_while PassesOwn.never (PW.pt (px_and (px_tcp cd_ge (px_var (pv 3)) px_int) (px_and1 (px_tcp (cd_eq (hu64 hr)) (px_var (pv 4)) (px_ix (px_var (pv 0)) (px_mod (px_var (pv 3)) (px_bi bi_len rfl F.n_len (px_c2 (px_var (pv 0)) px_nil)))))))) (px_s1 (px_par2 (ps_par (i := 3) (j := 4) rfl sc_latest_goes.nd rfl rfl (by decide) rfl rfl (px_r2F (px_sub (px_var (pv 3)) px_int) (px_r2F px_int px_rnil)) (by rfl))))))
    (px_sc (px_ifS (px_tcp cd_lt (px_var (pv 3)) px_int) (px_s1 (px_ret px_non)) px_sn)
    (px_sc (px_appS (pv 2) (px_var (pv 3)))
    (px_s1 (px_aug (ps_aug (i := 4) sc_latest_goes.nd rfl (.inl rfl) px_int ip_add)))))))))
    (px_s1 (px_ret (px_fz (px_revO (pe_revL (pv 2))))))))
abbrev N_latest_in : List Str := ["row", "wanted", "dues", "time", "beat", "due"]
theorem sc_latest_in : FnScope N_latest_in ["row", "wanted"] (defScope (top 32)) := ⟨rfl, rfl, rfl, by decide +kernel, rfl, by decide +kernel, by decide +kernel⟩
theorem c_latest_in {P : Program} {w : World} {K : PySem.W.Frag} {mg : Str → Option Value} {base : Heap} (F : Facts K mg) : Cg P w K mg base 2 "latest_in" (spF K 2 d_latest_in) := by
  refine F.d_latest_in.cg (ps := ["row", "wanted"]) (fun _ _ _ _ _ _ us hl => match us, hl with | [_, _], _ => rfl) fun f fd D => fn_F (m := 4) (k := 1) D sc_latest_in rfl rfl fun cd A out s H gd hr => ?_
  exact (px_sc (px_set (ps_set (i := 2) sc_latest_in.nd rfl (.inl rfl) (px_fz (px_biL bl_list rfl F.n_list (px_c2 (px_var (pv 1)) px_nil)))))
    (px_sc (px_for (ps_for PassesOwn.never rfl (px_i1 (px_revT (pe_revT (px_var (pv 0))))) (px_gT (pg_tup rfl (px_g2 (px_gN (pg_name (i := 3) sc_latest_in.nd rfl (.inr rfl))) (px_g2 (px_gN (pg_name (i := 4) sc_latest_in.nd rfl (.inl rfl))) px_gnil)))) (px_sc (px_set (ps_set (i := 2) sc_latest_in.nd rfl (.inl rfl) (px_call (c_latest_goes F) denF_len gd (hr.mono (by decide)) rfl (px_c2 (px_var (pv 4)) (px_c2 (px_fz (px_lc (pe_lc (own := [("due", 5)]) rfl sc_latest_in.nd (px_i1 (px_var (pv 2))) (blkOk_by (own := [("due", 5)]) (N := N_latest_in) (sc := defScope (top 32)) (by decide +kernel)) (fun _ _ _ _ _ => (px_gN (pg_name (i := 5) sc_latest_in.nd rfl (.inl rfl)))) (fun _ _ _ _ _ => px_ty) (fun _ _ _ _ _ => (px_sub (px_var (pv 5)) (px_var (pv 3))))))) px_nil)))))
    (px_s1 (px_ifS (px_tcp cd_is (px_var (pv 2)) px_non) (px_s1 (px_ret px_non)) px_sn)))))
    (px_s1 (px_ret (px_var (pv 2))))))
abbrev N_held_back : List Str := ["row", "ticks"]
theorem sc_held_back : FnScope N_held_back ["row", "ticks"] (defScope (top 33)) := ⟨rfl, rfl, rfl, by decide +kernel, rfl, by decide +kernel, by decide +kernel⟩
theorem c_held_back {P : Program} {w : World} {K : PySem.W.Frag} {mg : Str → Option Value} {base : Heap} (F : Facts K mg) : Cg P w K mg base 6 "held_back" (spF K 2 d_held_back) := by
  refine F.d_held_back.cg (ps := ["row", "ticks"]) (fun _ _ _ _ _ _ us hl => match us, hl with | [_, _], _ => rfl) fun f fd D => fn_F (m := 0) (k := 5) D sc_held_back rfl rfl fun cd A out s H gd hr => ?_
  exact (px_sc (px_ex (px_call (c_need_row F) denF_len gd (hr.mono (by decide)) rfl (px_c2 (px_var (pv 0)) px_nil)))
    (px_sc (px_ex (px_call (c_need_ticks F) denF_len gd (hr.mono (by decide)) rfl (px_c2 (px_var (pv 1)) px_nil)))
    (px_s1 (px_ret (px_bi bi_tuple rfl F.n_tuple (px_c2 (px_call (c_latest_in F) denF_len gd (hr.mono (by decide)) rfl (px_c2 (px_var (pv 0)) (px_c2 (px_call (c_outs_in F) denF_len gd (hr.mono (by decide)) rfl (px_c2 (px_var (pv 0)) (px_c2 (px_var (pv 1)) px_nil))) px_nil))) px_nil))))))
abbrev N_least_inside : List Str := ["row", "ticks", "outs"]
theorem sc_least_inside : FnScope N_least_inside ["row", "ticks"] (defScope (top 35)) := ⟨rfl, rfl, rfl, by decide +kernel, rfl, by decide +kernel, by decide +kernel⟩
theorem c_least_inside {P : Program} {w : World} {K : PySem.W.Frag} {mg : Str → Option Value} {base : Heap} (F : Facts K mg) : Cg P w K mg base 6 "least_inside" (spF K 2 d_least_inside) := by
  refine F.d_least_inside.cg (ps := ["row", "ticks"]) (fun _ _ _ _ _ _ us hl => match us, hl with | [_, _], _ => rfl) fun f fd D => fn_F (m := 1) (k := 5) D sc_least_inside rfl rfl fun cd A out s H gd hr => ?_
  exact (px_sc (px_ex (px_call (c_need_row F) denF_len gd (hr.mono (by decide)) rfl (px_c2 (px_var (pv 0)) px_nil)))
    (px_sc (px_ex (px_call (c_need_ticks F) denF_len gd (hr.mono (by decide)) rfl (px_c2 (px_var (pv 1)) px_nil)))
    (px_sc (px_set (ps_set (i := 2) sc_least_inside.nd rfl (.inl rfl) (px_call (c_outs_in F) denF_len gd (hr.mono (by decide)) rfl (px_c2 (px_var (pv 0)) (px_c2 (px_var (pv 1)) px_nil)))))
    (px_s1 (px_ret (px_sub (px_bi (bi_sum rfl) rfl F.n_sum (px_c2 (px_var (pv 2)) px_nil)) (px_bi (bi_sum rfl) rfl F.n_sum (px_c2 (px_call (c_latest_in F) denF_len gd (hr.mono (by decide)) rfl (px_c2 (px_var (pv 0)) (px_c2 (px_var (pv 2)) px_nil))) px_nil))))))))
abbrev N_inside : List Str := ["row", "ticks", "come", "out"]
theorem sc_inside : FnScope N_inside ["row", "ticks"] (defScope (top 34)) := ⟨rfl, rfl, rfl, by decide +kernel, rfl, by decide +kernel, by decide +kernel⟩
theorem c_inside {P : Program} {w : World} {K : PySem.W.Frag} {mg : Str → Option Value} {base : Heap} (F : Facts K mg) : Cg P w K mg base 6 "inside" (spF K 2 d_inside) := by
  refine F.d_inside.cg (ps := ["row", "ticks"]) (fun _ _ _ _ _ _ us hl => match us, hl with | [_, _], _ => rfl) fun f fd D => fn_F (m := 2) (k := 5) D sc_inside rfl rfl fun cd A out s H gd hr => ?_
  exact (px_sc (px_ex (px_call (c_need_row F) denF_len gd (hr.mono (by decide)) rfl (px_c2 (px_var (pv 0)) px_nil)))
    (px_sc (px_ex (px_call (c_need_ticks F) denF_len gd (hr.mono (by decide)) rfl (px_c2 (px_var (pv 1)) px_nil)))
    (px_s1 (px_ret (px_bi bi_tuple rfl F.n_tuple (px_c2 (px_fz (px_lc (pe_lc (own := [("come", 2), ("out", 3)]) rfl sc_inside.nd (px_iZ (pi_zm rfl F.n_zip (px_c2 (px_var (pv 1)) (px_c2 (px_call (c_outs_in F) denF_len gd (hr.mono (by decide)) rfl (px_c2 (px_var (pv 0)) (px_c2 (px_var (pv 1)) px_nil))) px_nil)))) (blkOk_by (own := [("come", 2), ("out", 3)]) (N := N_inside) (sc := defScope (top 34)) (by decide +kernel)) (fun _ _ _ _ _ => (px_gT (pg_tup rfl (px_g2 (px_gN (pg_name (i := 2) sc_inside.nd rfl (.inl rfl))) (px_g2 (px_gN (pg_name (i := 3) sc_inside.nd rfl (.inl rfl))) px_gnil))))) (fun _ _ _ _ _ => px_ty) (fun _ _ _ _ _ => (px_sub (px_var (pv 3)) (px_var (pv 2))))))) px_nil))))))
abbrev N_law : List Str := ["script", "pool", "turn", "hall", "route", "row", "begin", "end", "time", "capacity", "ticks", "k", "people", "tick", "outs", "held", "later", "own", "out", "at", "late", "one", "other"]
theorem sc_law : FnScope N_law ["script"] (defScope (top 66)) := ⟨rfl, rfl, rfl, by decide +kernel, rfl, by decide +kernel, by decide +kernel⟩
theorem g_law {P : Program} {w : World} {K : PySem.W.Frag} {mg : Str → Option Value} {base : Heap} {f : Addr} {fd : FuncData} (F : Facts K mg) (D : FunD K "law" "law" (defArgs (top 66)) (defBody (top 66)) (defScope (top 66)) [] [] f fd) : FnG P w K mg base 10 f fd ["script"] (spS K 0 d_law) := by
  refine fn_S (m := 22) (k := 9) D sc_law rfl rfl fun cd A out s H gd hr => ?_
  exact (px_sc (px_setL (ps_set (i := 1) sc_law.nd rfl (.inr rfl) (px_calsl (c_law_pool F) denSL_len gd (hr.mono (by decide)) rfl (pv 0) (px_c2 px_int (px_c2 px_int px_nil)))))
    (px_sc (px_for (ps_for PassesOwn.never rfl (px_iR1 (pi_range1 rfl F.n_range (px_c2 px_int px_nil))) (px_gN (pg_name (i := 2) sc_law.nd rfl (.inl rfl))) (px_sc (px_set (ps_set (i := 3) sc_law.nd rfl (.inl rfl) (px_calm (c_law_path F) denM_len gd (hr.mono (by decide)) rfl (pv 1) (px_c2 px_int (px_c2 px_int px_nil)))))
    (px_sc (px_set (ps_set (i := 4) sc_law.nd rfl (.inr rfl) (px_tupRg (pe_tupRg rfl rfl F.n_tuple (px_rg1 (prg_1 rfl F.n_range (px_bi bi_len rfl F.n_len (px_c2 (px_ix (px_var (pv 3)) px_int) px_nil))))))))
    (px_sc (px_set (ps_set (i := 5) sc_law.nd rfl (.inl rfl) (px_bi bi_tuple rfl F.n_tuple (px_c2 (px_fz (px_lc (pe_lc (own := [("begin", 6), ("end", 7), ("time", 8), ("capacity", 9)]) rfl sc_law.nd (px_i1 (px_ix (px_var (pv 3)) px_int)) (blkOk_by (own := [("begin", 6), ("end", 7), ("time", 8), ("capacity", 9)]) (N := N_law) (sc := defScope (top 66)) (by decide +kernel)) (fun _ _ _ _ _ => (px_gT (pg_tup rfl (px_g2 (px_gN (pg_name (i := 6) sc_law.nd rfl (.inl rfl))) (px_g2 (px_gN (pg_name (i := 7) sc_law.nd rfl (.inl rfl))) (px_g2 (px_gN (pg_name (i := 8) sc_law.nd rfl (.inl rfl))) (px_g2 (px_gN (pg_name (i := 9) sc_law.nd rfl (.inl rfl))) px_gnil))))))) (fun _ _ _ _ _ => px_ty) (fun _ _ _ _ _ => (px_tp (px_c2 (px_var (pv 8)) (px_c2 (px_tp (px_c2 (px_var (pv 9)) px_nil)) px_nil))))))) px_nil))))
    (px_sc (px_set (ps_set (i := 10) sc_law.nd rfl (.inl rfl) (px_bi bi_tuple rfl F.n_tuple (px_c2 (px_fz (px_biL bl_sorted rfl F.n_sorted (px_c2 (px_fz (px_lc (pe_lc (own := [("k", 11)]) rfl sc_law.nd (px_iR1 (pi_range1 rfl F.n_range (px_c2 (px_calm (c_law_take F) denM_len gd (hr.mono (by decide)) rfl (pv 1) (px_c2 px_int px_nil)) px_nil))) (blkOk_by (own := [("k", 11)]) (N := N_law) (sc := defScope (top 66)) (by decide +kernel)) (fun _ _ _ _ _ => (px_gN (pg_name (i := 11) sc_law.nd rfl (.inl rfl)))) (fun _ _ _ _ _ => px_ty) (fun _ _ _ _ _ => (px_calm (c_law_take F) denM_len gd (hr.mono (by decide)) rfl (pv 1) (px_c2 px_int px_nil)))))) px_nil))) px_nil))))
    (px_sc (px_set (ps_set (i := 12) sc_law.nd rfl (.inl rfl) (px_bi bi_tuple rfl F.n_tuple (px_c2 (px_fz (px_lc (pe_lc (own := [("tick", 13)]) rfl sc_law.nd (px_i1 (px_var (pv 10))) (blkOk_by (own := [("tick", 13)]) (N := N_law) (sc := defScope (top 66)) (by decide +kernel)) (fun _ _ _ _ _ => (px_gN (pg_name (i := 13) sc_law.nd rfl (.inl rfl)))) (fun _ _ _ _ _ => px_ty) (fun _ _ _ _ _ => (px_tp (px_c2 (px_var (pv 13)) (px_c2 (px_var (pv 4)) px_nil))))))) px_nil))))
    (px_sc (px_set (ps_set (i := 14) sc_law.nd rfl (.inl rfl) (px_call (c_out_ticks F) denF_len gd (hr.mono (by decide)) rfl (px_c2 (px_var (pv 3)) (px_c2 (px_var (pv 12)) px_nil)))))
    (px_sc (px_ifS (px_tcp cd_neS (px_bi (bi_repr gd (hu80 hr)) rfl F.n_repr (px_c2 (px_fz (px_ls (px_c2 (px_var (pv 14)) (px_c2 (px_call (c_waits F) denF_len gd (hr.mono (by decide)) rfl (px_c2 (px_var (pv 3)) (px_c2 (px_var (pv 12)) px_nil))) px_nil)))) px_nil)) (px_bi (bi_repr gd (hu80 hr)) rfl F.n_repr (px_c2 (px_fz (px_ls (px_c2 (px_call (c_row_out F) denF_len gd (hr.mono (by decide)) rfl (px_c2 (px_var (pv 5)) (px_c2 (px_var (pv 10)) px_nil))) (px_c2 (px_call (c_row_waits F) denF_len gd (hr.mono (by decide)) rfl (px_c2 (px_var (pv 5)) (px_c2 (px_var (pv 10)) px_nil))) px_nil)))) px_nil))) (px_s1 (px_ret px_bl)) px_sn)
    (px_sc (px_set (ps_set (i := 15) sc_law.nd rfl (.inl rfl) (px_call (c_held_back F) denF_len gd (hr.mono (by decide)) rfl (px_c2 (px_var (pv 5)) (px_c2 (px_var (pv 10)) px_nil)))))
    (px_sc (px_set (ps_set (i := 16) sc_law.nd rfl (.inl rfl) (px_bi bi_tuple rfl F.n_tuple (px_c2 (px_fz (px_lc (pe_lc (own := [("tick", 13)]) rfl sc_law.nd (px_i1 (px_var (pv 15))) (blkOk_by (own := [("tick", 13)]) (N := N_law) (sc := defScope (top 66)) (by decide +kernel)) (fun _ _ _ _ _ => (px_gN (pg_name (i := 13) sc_law.nd rfl (.inl rfl)))) (fun _ _ _ _ _ => px_ty) (fun _ _ _ _ _ => (px_tp (px_c2 (px_var (pv 13)) (px_c2 (px_var (pv 4)) px_nil))))))) px_nil))))
    (px_sc (px_ifS (PW.pt (px_or (px_tcp cd_neS (px_bi (bi_repr gd (hu80 hr)) rfl F.n_repr (px_c2 (px_call (c_out_ticks F) denF_len gd (hr.mono (by decide)) rfl (px_c2 (px_var (pv 3)) (px_c2 (px_var (pv 16)) px_nil))) px_nil)) (px_bi (bi_repr gd (hu80 hr)) rfl F.n_repr (px_c2 (px_var (pv 14)) px_nil))) (px_or1 (px_tcp (cd_ne (hu64 hr)) (px_bi (bi_sum rfl) rfl F.n_sum (px_c2 (px_fz (px_lc (pe_lc (own := [("own", 17)]) rfl sc_law.nd (px_i1 (px_call (c_waits F) denF_len gd (hr.mono (by decide)) rfl (px_c2 (px_var (pv 3)) (px_c2 (px_var (pv 16)) px_nil)))) (blkOk_by (own := [("own", 17)]) (N := N_law) (sc := defScope (top 66)) (by decide +kernel)) (fun _ _ _ _ _ => (px_gN (pg_name (i := 17) sc_law.nd rfl (.inl rfl)))) (fun _ _ _ _ _ => px_ty) (fun _ _ _ _ _ => (px_bi (bi_sum rfl) rfl F.n_sum (px_c2 (px_var (pv 17)) px_nil)))))) px_nil)) px_int)))) (px_s1 (px_ret px_bl)) px_sn)
    (px_sc (px_ifS (PW.pt (px_or (px_tcp (cd_ne (hu64 hr)) (px_call (c_least_inside F) denF_len gd (hr.mono (by decide)) rfl (px_c2 (px_var (pv 5)) (px_c2 (px_var (pv 10)) px_nil))) (px_bi (bi_sum rfl) rfl F.n_sum (px_c2 (px_fz (px_lc (pe_lc (own := [("out", 18), ("tick", 13)]) rfl sc_law.nd (px_iZ (pi_zm rfl F.n_zip (px_c2 (px_var (pv 14)) (px_c2 (px_var (pv 15)) px_nil)))) (blkOk_by (own := [("out", 18), ("tick", 13)]) (N := N_law) (sc := defScope (top 66)) (by decide +kernel)) (fun _ _ _ _ _ => (px_gT (pg_tup rfl (px_g2 (px_gN (pg_name (i := 18) sc_law.nd rfl (.inl rfl))) (px_g2 (px_gN (pg_name (i := 13) sc_law.nd rfl (.inl rfl))) px_gnil))))) (fun _ _ _ _ _ => px_ty) (fun _ _ _ _ _ => (px_sub (px_var (pv 18)) (px_var (pv 13))))))) px_nil))) (px_or1 (px_tcp (cd_ne (hu64 hr)) (px_bi (bi_sum rfl) rfl F.n_sum (px_c2 (px_call (c_inside F) denF_len gd (hr.mono (by decide)) rfl (px_c2 (px_var (pv 5)) (px_c2 (px_var (pv 15)) px_nil))) px_nil)) (px_call (c_least_inside F) denF_len gd (hr.mono (by decide)) rfl (px_c2 (px_var (pv 5)) (px_c2 (px_var (pv 10)) px_nil))))))) (px_s1 (px_ret px_bl)) px_sn)
    (px_s1 (px_for (ps_for PassesOwn.never rfl (px_iR1 (pi_range1 rfl F.n_range (px_c2 (px_bi bi_len rfl F.n_len (px_c2 (px_var (pv 15)) px_nil)) px_nil))) (px_gN (pg_name (i := 19) sc_law.nd rfl (.inl rfl))) (px_sc (px_set (ps_set (i := 20) sc_law.nd rfl (.inl rfl) (px_bi bi_tuple rfl F.n_tuple (px_c2 (px_add (px_mul (px_fz (px_ls (px_c2 (px_tp (px_c2 px_int (px_c2 (px_var (pv 4)) px_nil))) px_nil))) (px_var (pv 19))) (px_mul (px_fz (px_ls (px_c2 (px_tp (px_c2 (px_add (px_ix (px_var (pv 15)) (px_var (pv 19))) px_int) (px_c2 (px_var (pv 4)) px_nil))) px_nil))) (px_sub (px_bi bi_len rfl F.n_len (px_c2 (px_var (pv 15)) px_nil)) (px_var (pv 19))))) px_nil))))
    (px_s1 (px_ifS (px_tcp (cd_eq (hu64 hr)) (px_fz (px_lc (pe_lc (own := [("one", 21), ("other", 22)]) rfl sc_law.nd (px_iZ (pi_zm rfl F.n_zip (px_c2 (px_call (c_out_ticks F) denF_len gd (hr.mono (by decide)) rfl (px_c2 (px_var (pv 3)) (px_c2 (px_var (pv 20)) px_nil))) (px_c2 (px_var (pv 14)) px_nil)))) (blkOk_by (own := [("one", 21), ("other", 22)]) (N := N_law) (sc := defScope (top 66)) (by decide +kernel)) (fun _ _ _ _ _ => (px_gT (pg_tup rfl (px_g2 (px_gN (pg_name (i := 21) sc_law.nd rfl (.inl rfl))) (px_g2 (px_gN (pg_name (i := 22) sc_law.nd rfl (.inl rfl))) px_gnil))))) (fun _ _ _ _ _ => (px_t1 (px_tcp cd_gt (px_var (pv 21)) (px_var (pv 22))))) (fun _ _ _ _ _ => px_int)))) (px_fz (px_ls px_nil))) (px_s1 (px_ret px_bl)) px_sn)))))))))))))))))))
    (px_s1 (px_ret px_bl))))
end L95

end
section
set_option Elab.async false
set_option linter.all false
set_option maxRecDepth 100000
set_option maxHeartbeats 0
namespace L95
open PySem PySem.Spec PyProof.Rows L2 Fw
abbrev Hdd (x : Str) (i : Nat) : He.DefD := ⟨(x, none), x, x, defArgs (top i), defBody (top i), defScope (top i), [], []⟩
def Hfn : List He.DefD := [Hdd "_law_pool" 63, Hdd "_law_take" 64, Hdd "_law_path" 65, Hdd "is_tuple" 9, Hdd "is_integer" 7, Hdd "is_between" 8, Hdd "is_stair" 42, Hdd "is_hall" 43, Hdd "need_hall" 44, Hdd "is_this_route" 45, Hdd "is_route" 46, Hdd "is_level" 10, Hdd "are_people" 56, Hdd "need_people" 57, Hdd "nobody" 48, Hdd "is_empty" 51, Hdd "come_in" 49, Hdd "go_on" 50, Hdd "log_of" 52, Hdd "rides_of" 58, Hdd "outs_of" 59, Hdd "out_ticks" 61, Hdd "waits" 60, Hdd "is_beat" 22, Hdd "is_row" 23, Hdd "need_row" 24, Hdd "are_ticks" 15, Hdd "need_ticks" 16, Hdd "beat_goes" 25, Hdd "outs_in" 27, Hdd "row_out" 28, Hdd "goes_in" 26, Hdd "row_waits" 29, Hdd "latest_goes" 31, Hdd "latest_in" 32, Hdd "held_back" 33, Hdd "least_inside" 35, Hdd "inside" 34, Hdd "law" 66]
def Hfa : List He.Fa := [.glo "_law_pool", .glo "_law_take", .glo "_law_path", .glo "is_tuple", .glo "is_integer", .glo "is_between", .glo "is_stair", .glo "is_hall", .glo "need_hall", .glo "is_this_route", .glo "is_route", .glo "is_level", .glo "are_people", .glo "need_people", .glo "nobody", .glo "is_empty", .glo "come_in", .glo "go_on", .glo "log_of", .glo "rides_of", .glo "outs_of", .glo "out_ticks", .glo "waits", .glo "is_beat", .glo "is_row", .glo "need_row", .glo "are_ticks", .glo "need_ticks", .glo "beat_goes", .glo "outs_in", .glo "row_out", .glo "goes_in", .glo "row_waits", .glo "latest_goes", .glo "latest_in", .glo "held_back", .glo "least_inside", .glo "inside", .glo "law", .free "abs", .free "all", .free "bool", .free "enumerate", .free "int", .free "isinstance", .free "len", .free "list", .free "min", .free "range", .free "repr", .free "set", .free "sorted", .free "sum", .free "tuple", .free "zip", .int "LAST_COME" 10000, .int "LAST_TICK" 40, .int "MOST_BEAT" 6, .int "MOST_CAPACITY" 9, .int "MOST_ITEM" 9, .int "MOST_PEOPLE" 40, .int "MOST_PLACES" 8, .int "MOST_ROUTE" 7, .int "MOST_ROW" 4, .int "MOST_STAIRS" 16, .int "MOST_TICKS" 600, .int "MOST_TIME_halls" 6, .int "MOST_TIME_rows" 6]
theorem HdefAt {K : PySem.W.Frag} {h : Heap} {mg : Str → Option Value} (X : K.In h) (G : h.Ns mainGlobals mg) (c : He.SaysD Hfa Hfn K) {x : Str} {i : Nat} (j k : Nat) (h1 : Hfn[j]? = some (Hdd x i) := by rfl) (h2 : Hfa[k]? = some (.glo x) := by rfl) : DefAt K mg x (top i) := by
  obtain ⟨fd, D⟩ := c.def_ j h1
  exact ⟨_, fd, D, He.glo_ok X G (c.fact k h2)⟩
theorem Hfacts {K : PySem.W.Frag} {h : Heap} {mg : Str → Option Value} (X : K.In h) (G : h.Ns mainGlobals mg) (c : He.SaysD Hfa Hfn K) : Facts K mg where
  n_abs := He.free_ok X G (c.fact 39 (f := .free "abs") rfl)
  n_all := He.free_ok X G (c.fact 40 (f := .free "all") rfl)
  n_bool := He.free_ok X G (c.fact 41 (f := .free "bool") rfl)
  n_enumerate := He.free_ok X G (c.fact 42 (f := .free "enumerate") rfl)
  n_int := He.free_ok X G (c.fact 43 (f := .free "int") rfl)
  n_isinstance := He.free_ok X G (c.fact 44 (f := .free "isinstance") rfl)
  n_len := He.free_ok X G (c.fact 45 (f := .free "len") rfl)
  n_list := He.free_ok X G (c.fact 46 (f := .free "list") rfl)
  n_min := He.free_ok X G (c.fact 47 (f := .free "min") rfl)
  n_range := He.free_ok X G (c.fact 48 (f := .free "range") rfl)
  n_repr := He.free_ok X G (c.fact 49 (f := .free "repr") rfl)
  n_set := He.free_ok X G (c.fact 50 (f := .free "set") rfl)
  n_sorted := He.free_ok X G (c.fact 51 (f := .free "sorted") rfl)
  n_sum := He.free_ok X G (c.fact 52 (f := .free "sum") rfl)
  n_tuple := He.free_ok X G (c.fact 53 (f := .free "tuple") rfl)
  n_zip := He.free_ok X G (c.fact 54 (f := .free "zip") rfl)
  i_LAST_COME := He.int_ok X G (c.fact 55 (f := .int "LAST_COME" 10000) rfl)
  i_LAST_TICK := He.int_ok X G (c.fact 56 (f := .int "LAST_TICK" 40) rfl)
  i_MOST_BEAT := He.int_ok X G (c.fact 57 (f := .int "MOST_BEAT" 6) rfl)
  i_MOST_CAPACITY := He.int_ok X G (c.fact 58 (f := .int "MOST_CAPACITY" 9) rfl)
  i_MOST_ITEM := He.int_ok X G (c.fact 59 (f := .int "MOST_ITEM" 9) rfl)
  i_MOST_PEOPLE := He.int_ok X G (c.fact 60 (f := .int "MOST_PEOPLE" 40) rfl)
  i_MOST_PLACES := He.int_ok X G (c.fact 61 (f := .int "MOST_PLACES" 8) rfl)
  i_MOST_ROUTE := He.int_ok X G (c.fact 62 (f := .int "MOST_ROUTE" 7) rfl)
  i_MOST_ROW := He.int_ok X G (c.fact 63 (f := .int "MOST_ROW" 4) rfl)
  i_MOST_STAIRS := He.int_ok X G (c.fact 64 (f := .int "MOST_STAIRS" 16) rfl)
  i_MOST_TICKS := He.int_ok X G (c.fact 65 (f := .int "MOST_TICKS" 600) rfl)
  i_MOST_TIME_halls := He.int_ok X G (c.fact 66 (f := .int "MOST_TIME_halls" 6) rfl)
  i_MOST_TIME_rows := He.int_ok X G (c.fact 67 (f := .int "MOST_TIME_rows" 6) rfl)
  k_bool := (isi_any K).2.1
  k_int := (isi_any K).1
  k_tuple := (isi_any K).2.2.1
  d_law_pool := HdefAt X G c 0 0
  d_law_take := HdefAt X G c 1 1
  d_law_path := HdefAt X G c 2 2
  d_is_tuple := HdefAt X G c 3 3
  d_is_integer := HdefAt X G c 4 4
  d_is_between := HdefAt X G c 5 5
  d_is_stair := HdefAt X G c 6 6
  d_is_hall := HdefAt X G c 7 7
  d_need_hall := HdefAt X G c 8 8
  d_is_this_route := HdefAt X G c 9 9
  d_is_route := HdefAt X G c 10 10
  d_is_level := HdefAt X G c 11 11
  d_are_people := HdefAt X G c 12 12
  d_need_people := HdefAt X G c 13 13
  d_nobody := HdefAt X G c 14 14
  d_is_empty := HdefAt X G c 15 15
  d_come_in := HdefAt X G c 16 16
  d_go_on := HdefAt X G c 17 17
  d_log_of := HdefAt X G c 18 18
  d_rides_of := HdefAt X G c 19 19
  d_outs_of := HdefAt X G c 20 20
  d_out_ticks := HdefAt X G c 21 21
  d_waits := HdefAt X G c 22 22
  d_is_beat := HdefAt X G c 23 23
  d_is_row := HdefAt X G c 24 24
  d_need_row := HdefAt X G c 25 25
  d_are_ticks := HdefAt X G c 26 26
  d_need_ticks := HdefAt X G c 27 27
  d_beat_goes := HdefAt X G c 28 28
  d_outs_in := HdefAt X G c 29 29
  d_row_out := HdefAt X G c 30 30
  d_goes_in := HdefAt X G c 31 31
  d_row_waits := HdefAt X G c 32 32
  d_latest_goes := HdefAt X G c 33 33
  d_latest_in := HdefAt X G c 34 34
  d_held_back := HdefAt X G c 35 35
  d_least_inside := HdefAt X G c 36 36
  d_inside := HdefAt X G c 37 37
  d_law := HdefAt X G c 38 38
def Hnames0 : List Str := ["StairError", "InvalidHall", "InvalidPeople", "InvalidTicks", "InvalidRow", "is_integer", "is_between", "is_tuple", "is_level", "anew", "MOST_TICKS", "LAST_COME", "are_ticks", "need_ticks", "MOST_BEAT", "MOST_ROW", "MOST_ITEM", "MOST_TIME_rows", "is_beat", "is_row", "need_row", "beat_goes", "goes_in", "outs_in", "row_out", "row_waits", "latest_goes", "latest_in", "held_back", "inside"]
def Hnames1 : List Str := ["least_inside", "MOST_PLACES", "MOST_STAIRS", "MOST_TIME_halls", "MOST_CAPACITY", "MOST_ROUTE", "is_stair", "is_hall", "need_hall", "is_this_route", "is_route", "nobody", "come_in", "go_on", "is_empty", "log_of", "MOST_PEOPLE", "LAST_TICK", "are_people", "need_people", "rides_of", "outs_of", "waits", "out_ticks", "_law_pool", "_law_take", "_law_path"]
abbrev Hnames : List Str := Hnames0 ++ Hnames1
abbrev Hrow : PySem.W.OpenRow := PySem.W.OpenLaw.row PySem.Challenge.rw_stairsintime_k95_whole_gates_on_a_path
abbrev Hhk : PySem.W.Hook := He.hookD 4 Hfa Hfn
def Hob (s : PySem.W.SharedT) : He.AlD := He.obsDG 4 Hfa Hfn (HandSHeadRun.getT s)
theorem Hob_eq (s : PySem.W.SharedT) : Hob s = Hhk.obs s.abs := He.obsDG_eq (HandSHeadRun.getT_eq s)
theorem Hrun (w : World) : HandSHeadRun.RunEq Hrow (PySem.W.view Hrow.prog [66]) Hhk Hob 6000 Hnames w := by
  intro os
  kernel_rfl
theorem Hlaw_bind {K : PySem.W.Frag} {f : Addr} {fd : FuncData} (D : FunD K "law" "law" (defArgs (top 66)) (defBody (top 66)) (defScope (top 66)) [] [] f fd) (s : Shared) (u : Value) : BindsTo s fd ⟨[u], []⟩ [("script", u)] :=
  FunD.bindsA (ps := ["script"]) D (fun _ _ _ _ _ _ us hl => match us, hl with | [_], _ => rfl) s [u] rfl
end L95
open PySem PySem.W PySem.Calls PyProof.Rows
theorem stairsintime_k95_whole_gates_on_a_path_holds (plain : ∀ ns : List Int, ns.length ≤ 63 → L95.d_law ns [] = some (.bool true)) : PySem.Challenge.rw_stairsintime_k95_whole_gates_on_a_path.Holds := by
  w_on; o_law
  refine HandSHeadRun.head_any (r := OpenLaw.row PySem.Challenge.rw_stairsintime_k95_whole_gates_on_a_path) (q := view (OpenLaw.row PySem.Challenge.rw_stairsintime_k95_whole_gates_on_a_path).prog [66]) (H := L95.Hhk) (ob := L95.Hob) (M := 6000) (loose := L95.Hnames) (d := HandSHeadRun.topDef (OpenLaw.row PySem.Challenge.rw_stairsintime_k95_whole_gates_on_a_path).prog 66) (kwd := []) L95.Hob_eq
    (by kernel_rfl) (fun s => by kernel_rfl) L95.Hrun (by kernel_rfl) (by kernel_rfl) (by kernel_rfl) (by rfl) (by first | assumption | decide +kernel) (by decide +kernel) ⟨rfl, rfl, rfl, rfl, rfl, by decide +kernel⟩ ?hw ?hc
  case hw => w_witness2
  case hc =>
    refine Fw.walk_g (l := PySem.Challenge.rw_stairsintime_k95_whole_gates_on_a_path) (n := 63) (k := 10) (x := "script") (den := L95.d_law) rfl (by decide) (by kernel_rfl) ⟨rfl, by decide, by decide⟩ ?F plain
    intro w mg fa h Y G hmg0
    obtain ⟨K, KX, c⟩ := Y
    have hmg : mg ("law" : PySem.Str) = some (.ref fa) := by
      have e : (HandSHeadRun.topDef (OpenLaw.row PySem.Challenge.rw_stairsintime_k95_whole_gates_on_a_path).prog 66).name = ("law" : PySem.Str) := by kernel_rfl
      rw [← e]
      exact hmg0
    have F := L95.Hfacts KX G c
    obtain ⟨f, fd, D, hm⟩ := F.d_law.ex
    cases hmg.symm.trans hm
    exact ⟨K, fd, KX, L95.Hlaw_bind D, fun base _ _ => L95.g_law F D⟩

end
section
set_option Elab.async false
set_option linter.all false
set_option maxRecDepth 100000
/-! One stair of capacity c: who comes when, who goes when. No program in sight. -/
namespace Pl
theorem snoc_ind {α : Type} {P : List α → Prop} (h0 : P []) (h1 : ∀ l a, P l → P (l ++ [a])) (l : List α) : P l := by
  have : ∀ r : List α, P r.reverse := fun r => by
    induction r with
    | nil => exact h0
    | cons a r ih => rw [List.reverse_cons]; exact h1 _ _ ih
  have h := this l.reverse
  rwa [List.reverse_reverse] at h
def lastD (g : List Int) : Int := g.getLast?.getD 0
def nxt (c : Int) (g : List Int) (x : Int) : Int := if lastD g < x then x else if (g.count (lastD g) : Int) = c then lastD g + 1 else lastD g
def goes (c : Int) (xs : List Int) : List Int := xs.foldl (fun g x => g ++ [nxt c g x]) []
theorem goes_nil (c : Int) : goes c [] = [] := rfl
theorem goes_snoc (c : Int) (xs : List Int) (x : Int) : goes c (xs ++ [x]) = goes c xs ++ [nxt c (goes c xs) x] := by unfold goes; rw [List.foldl_append]; rfl
theorem lastD_snoc (g : List Int) (x : Int) : lastD (g ++ [x]) = x := by unfold lastD; simp
theorem goes_len (c : Int) : ∀ xs : List Int, (goes c xs).length = xs.length := snoc_ind rfl fun l a h => by rw [goes_snoc]; simp [h]
/-- sorted, none below 0 -/
structure Srt (xs : List Int) : Prop where
  srt : xs.Pairwise (· ≤ ·)
  pos : ∀ x ∈ xs, 0 ≤ x
theorem Srt.init {xs : List Int} {x : Int} (h : Srt (xs ++ [x])) : Srt xs := ⟨(List.pairwise_append.mp h.srt).1, fun y m => h.pos y (by simp [m])⟩
theorem Srt.le {xs : List Int} {x : Int} (h : Srt (xs ++ [x])) : ∀ y ∈ xs, y ≤ x := fun y m => (List.pairwise_append.mp h.srt).2.2 y m x (by simp)
theorem Srt.map {xs : List Int} (h : Srt xs) {d : Int} (hd : 0 ≤ d) : Srt (xs.map (· + d)) := by
  refine ⟨List.pairwise_map.mpr (h.srt.imp fun h => by omega), fun y m => ?_⟩
  obtain ⟨x, hx, rfl⟩ := List.mem_map.mp m
  have := h.pos x hx
  show 0 ≤ x + d
  omega
def Cap (c : Int) (gs : List Int) : Prop := ∀ t : Int, (gs.count t : Int) ≤ c
theorem lastD_ge {g : List Int} (h : g.Pairwise (· ≤ ·)) : ∀ y ∈ g, y ≤ lastD g := by
  revert h
  refine snoc_ind (P := fun g => g.Pairwise (· ≤ ·) → ∀ y ∈ g, y ≤ lastD g) (fun _ y m => by cases m) (fun l a _ h y m => ?_) g
  rw [lastD_snoc]
  rcases List.mem_append.mp m with q | q
  · exact (List.pairwise_append.mp h).2.2 y q a (by simp)
  · have : y = a := by simpa using q
    omega
theorem count_above {g : List Int} {t : Int} (h : ∀ y ∈ g, y < t) : g.count t = 0 := List.count_eq_zero.mpr fun m => by have := h t m; omega
structure Gd (c : Int) (xs gs : List Int) : Prop where
  len : gs.length = xs.length
  srt : Srt gs
  cap : Cap c gs
  ge : ∀ (k : Nat) (x g : Int), xs[k]? = some x → gs[k]? = some g → x ≤ g
  idle : ∀ (k : Nat) (x g t : Int), xs[k]? = some x → gs[k]? = some g → x ≤ t → t < g → ((gs.take k).count t : Int) = c
theorem count_take_le (g : List Int) (k : Nat) (t : Int) : (g.take k).count t ≤ g.count t := (List.take_sublist k g).count_le t
theorem gd_goes {c : Int} (hc : 1 ≤ c) : ∀ xs : List Int, Srt xs → Gd c xs (goes c xs) := by
  refine snoc_ind (fun _ => ⟨rfl, ⟨.nil, fun _ m => by cases m⟩, fun t => by simp [goes]; omega, fun k x g e => by simp at e, fun k x g t e => by simp at e⟩) ?_
  intro xs x ih h
  have G := ih h.init
  rw [goes_snoc]
  generalize eg : goes c xs = gs at G
  have hx : 0 ≤ x := h.pos x (by simp)
  have lge := lastD_ge G.srt.srt
  -- what is known of the new one
  have g1 : x ≤ nxt c gs x := by unfold nxt; split <;> (try split) <;> omega
  have g2 : gs ≠ [] → lastD gs ≤ nxt c gs x := fun _ => by unfold nxt; split <;> (try split) <;> omega
  have emp : gs = [] → nxt c gs x = x := fun e => by
    subst e
    have e0 : lastD [] = 0 := rfl
    unfold nxt
    rw [e0, List.count_nil]
    by_cases q : 0 < x
    · rw [if_pos q]
    · rw [if_neg q, if_neg (by omega)]; omega
  have ge_all : ∀ y ∈ gs, y ≤ nxt c gs x := fun y m => Int.le_trans (lge y m) (g2 (by rintro rfl; cases m))
  have capn : ((gs.count (nxt c gs x) : Nat) : Int) + 1 ≤ c := by
    by_cases e : gs = []
    · subst e; simp; omega
    · unfold nxt
      split
      · rw [count_above fun y m => by have := lge y m; omega]; omega
      · split
        · rw [count_above fun y m => by have := lge y m; omega]; omega
        · have := G.cap (lastD gs); omega
  refine ⟨by simp [G.len], ⟨List.pairwise_append.mpr ⟨G.srt.srt, by simp, fun a ha b hb => ?_⟩, fun y m => ?_⟩, fun t => ?_, fun k x' g e1 e2 => ?_, fun k x' g t e1 e2 h1 h2 => ?_⟩
  · have : b = nxt c gs x := by simpa using hb
    subst this; exact ge_all a ha
  · rcases List.mem_append.mp m with q | q
    · exact G.srt.pos y q
    · have : y = nxt c gs x := by simpa using q
      subst this; omega
  · rw [List.count_append]
    by_cases e : t = nxt c gs x
    · subst e; simp; omega
    · have : List.count t [nxt c gs x] = 0 := List.count_eq_zero.mpr fun m => e (List.mem_singleton.mp m)
      rw [this]; exact G.cap t
  · by_cases e : k < xs.length
    · rw [List.getElem?_append_left e] at e1
      rw [List.getElem?_append_left (by rw [G.len]; exact e)] at e2
      exact G.ge k x' g e1 e2
    · rw [List.getElem?_append_right (by omega)] at e1
      rw [List.getElem?_append_right (by rw [G.len]; omega), G.len] at e2
      have e0 : k - xs.length = 0 := by
        cases q : k - xs.length with
        | zero => rfl
        | succ j => rw [q] at e1; simp at e1
      rw [e0] at e1 e2
      have a1 : x = x' := by simpa using e1
      have a2 : nxt c gs x = g := by simpa using e2
      subst a1 a2; exact g1
  · by_cases e : k < xs.length
    · rw [List.getElem?_append_left e] at e1
      rw [List.getElem?_append_left (by rw [G.len]; exact e)] at e2
      rw [List.take_append_of_le_length (by rw [G.len]; omega)]
      exact G.idle k x' g t e1 e2 h1 h2
    · rw [List.getElem?_append_right (by omega)] at e1
      rw [List.getElem?_append_right (by rw [G.len]; omega), G.len] at e2
      have e0 : k - xs.length = 0 := by
        cases q : k - xs.length with
        | zero => rfl
        | succ j => rw [q] at e1; simp at e1
      rw [e0] at e1 e2
      have a1 : x = x' := by simpa using e1
      have a2 : nxt c gs x = g := by simpa using e2
      subst a1 a2
      have ek : k = gs.length := by rw [G.len]; omega
      rw [ek, List.take_append_of_le_length (Nat.le_refl _), List.take_length]
      by_cases ne : gs = []
      · have := emp ne; omega
      · have lt : t ≤ lastD gs := by
          unfold nxt at h2
          split at h2
          · omega
          · split at h2 <;> omega
        by_cases q : t = lastD gs
        · subst q
          unfold nxt at h2
          split at h2
          · omega
          · split at h2
            · assumption
            · omega
        · -- the last one before waited over t
          have lp : 0 < gs.length := by cases gs with | nil => exact absurd rfl ne | cons _ _ => simp
          have i1 : gs.length - 1 < gs.length := by omega
          have eL : gs[gs.length - 1]? = some (lastD gs) := by
            unfold lastD
            rw [List.getLast?_eq_getElem?, List.getElem?_eq_getElem i1]; rfl
          have i2 : gs.length - 1 < xs.length := by rw [← G.len]; exact i1
          have hj := h.le (xs[gs.length - 1]) (List.getElem_mem i2)
          have := G.idle (gs.length - 1) _ _ t (List.getElem?_eq_getElem i2) eL (by omega) (by omega)
          have a := count_take_le gs (gs.length - 1) t
          have b := G.cap t
          omega
/-- who comes in no crowd above c goes at once -/
theorem goes_self {c : Int} : ∀ xs : List Int, Srt xs → Cap c xs → goes c xs = xs := by
  refine snoc_ind (fun _ _ => rfl) fun xs x ih h cp => ?_
  have cp' : Cap c xs := fun t => by
    have := cp t
    rw [List.count_append] at this
    omega
  rw [goes_snoc, ih h.init cp']
  congr 1
  have hx : 0 ≤ x := h.pos x (by simp)
  have le := h.le
  unfold nxt
  by_cases e : xs = []
  · subst e
    have := cp 0
    have c0 := cp x
    simp [lastD] at *
    omega
  · have m : lastD xs ∈ xs := by
      unfold lastD
      obtain ⟨y, hy⟩ : ∃ y, xs.getLast? = some y := by
        cases q : xs.getLast? with
        | none => exact absurd (List.getLast?_eq_none_iff.mp q) e
        | some y => exact ⟨y, rfl⟩
      rw [hy]; exact List.mem_of_getLast? hy
    have l1 := le _ m
    by_cases q : lastD xs < x
    · rw [if_pos q]
    · have : lastD xs = x := by omega
      rw [if_neg q, if_neg, this]
      have := cp (lastD xs)
      rw [List.count_append] at this
      simp [‹lastD xs = x›] at this
      rw [‹lastD xs = x›]
      omega
theorem goes_cap {c c' : Int} (hc : 1 ≤ c) {xs : List Int} (h : Srt xs) (cp : Cap c' xs) : Cap c' (goes c xs) := by
  by_cases q : c' ≤ c
  · rw [goes_self xs h fun t => Int.le_trans (cp t) q]; exact cp
  · exact fun t => Int.le_trans ((gd_goes hc xs h).cap t) (by omega)
theorem goes_le {c : Int} (hc : 1 ≤ c) {a : Int} (ha : 0 ≤ a) : ∀ xs : List Int, (∀ (k : Nat) (x : Int), xs[k]? = some x → x ≤ a + k) → ∀ (k : Nat) (g : Int), (goes c xs)[k]? = some g → g ≤ a + k := by
  refine snoc_ind (fun _ k g e => by simp [goes] at e) fun xs x ih h k g e => ?_
  rw [goes_snoc] at e
  have ih' := ih fun k y hy => h k y (by rw [List.getElem?_append_left (List.getElem?_eq_some_iff.mp hy).1]; exact hy)
  have len := goes_len c xs
  by_cases q : k < xs.length
  · rw [List.getElem?_append_left (by omega)] at e
    exact ih' k g e
  · rw [List.getElem?_append_right (by omega), len] at e
    have e0 : k - xs.length = 0 := by
      cases q : k - xs.length with
      | zero => rfl
      | succ j => rw [q] at e; simp at e
    rw [e0] at e
    have a2 : nxt c (goes c xs) x = g := by simpa using e
    subst a2
    have hx := h xs.length x (by simp)
    have ek : k = xs.length := by omega
    subst ek
    by_cases ne : goes c xs = []
    · have l0 : xs.length = 0 := by rw [← len, ne]; rfl
      rw [ne]
      have e0 : lastD [] = 0 := rfl
      unfold nxt
      rw [e0, List.count_nil]
      by_cases q : 0 < x
      · rw [if_pos q]; exact hx
      · rw [if_neg q, if_neg (by omega)]; omega
    · have lp : 0 < (goes c xs).length := by cases hq : goes c xs with | nil => exact absurd hq ne | cons _ _ => simp
      have eL : (goes c xs)[(goes c xs).length - 1]? = some (lastD (goes c xs)) := by
        unfold lastD
        rw [List.getLast?_eq_getElem?, List.getElem?_eq_getElem (by omega)]; rfl
      have b := ih' _ _ eL
      unfold nxt
      split
      · exact hx
      · split <;> omega
/-- parts in their order -/
theorem filter_split {α : Type} {p q : α → Bool} : ∀ l : List α, l.Pairwise (fun a b => q a = true → p b = false) → (∀ a ∈ l, p a = true → q a = false) → l.filter (fun a => p a || q a) = l.filter p ++ l.filter q
  | [], _, _ => rfl
  | a :: l, h, d => by
    have h' := List.pairwise_cons.mp h
    have ih := filter_split l h'.2 fun b m => d b (by simp [m])
    rw [List.filter_cons, List.filter_cons, List.filter_cons, ih]
    cases hp : p a with
    | true =>
      have hq := d a (by simp) hp
      simp [hq]
    | false =>
      cases hq : q a with
      | false => simp
      | true =>
        have : l.filter p = [] := List.filter_eq_nil_iff.mpr fun b m => by simp [h'.1 b m hq]
        simp [this]
theorem count_filter_range (gs : List Int) (t : Int) : ((List.range gs.length).filter fun k => decide (gs.getD k 0 = t)).length = gs.count t := by
  induction gs with
  | nil => rfl
  | cons g gs ih =>
    rw [List.length_cons, List.range_succ_eq_map, List.filter_cons, List.filter_map, List.count_cons]
    have e : ((fun k => decide ((g :: gs).getD k 0 = t)) ∘ Nat.succ) = fun k => decide (gs.getD k 0 = t) := rfl
    have e0 : (g :: gs).getD 0 0 = g := rfl
    rw [e, e0]
    by_cases q : g = t
    · rw [if_pos (decide_eq_true q), List.length_cons, List.length_map, ih, if_pos (by simpa using q)]
    · rw [if_neg (by simpa using q), List.length_map, ih, if_neg (by simpa using q)]; rfl
/-- of those who stand at tick t, the first ones go: as many as the stair takes -/
theorem first_go {c : Int} (hc : 1 ≤ c) {xs gs : List Int} (hx : Srt xs) (G : Gd c xs gs) (t : Int) :
    let L := (List.range xs.length).filter fun k => decide (xs.getD k 0 ≤ t) && decide (t ≤ gs.getD k 0)
    let A := (List.range xs.length).filter fun k => decide (gs.getD k 0 = t)
    let B := (List.range xs.length).filter fun k => decide (xs.getD k 0 ≤ t) && decide (t < gs.getD k 0)
    L = A ++ B ∧ (A.length : Int) ≤ c ∧ (B ≠ [] → (A.length : Int) = c) := by
  intro L A B
  have at_x : ∀ k, k < xs.length → xs[k]? = some (xs.getD k 0) := fun k h => by rw [List.getD_eq_getElem?_getD, List.getElem?_eq_getElem h]; rfl
  have at_g : ∀ k, k < xs.length → gs[k]? = some (gs.getD k 0) := fun k h => by rw [List.getD_eq_getElem?_getD, List.getElem?_eq_getElem (by rw [G.len]; exact h)]; rfl
  have ge : ∀ k, k < xs.length → xs.getD k 0 ≤ gs.getD k 0 := fun k h => G.ge k _ _ (at_x k h) (at_g k h)
  have mono : ∀ i j, i < j → j < xs.length → gs.getD i 0 ≤ gs.getD j 0 := fun i j hij hj => by
    have h1 : j < gs.length := by rw [G.len]; exact hj
    have := List.pairwise_iff_getElem.mp G.srt.srt i j (by omega) h1 hij
    rw [List.getD_eq_getElem?_getD, List.getD_eq_getElem?_getD, List.getElem?_eq_getElem h1, List.getElem?_eq_getElem (by omega : i < gs.length)]
    exact this
  have eA : A.length = gs.count t := by
    have := count_filter_range gs t
    rw [G.len] at this
    exact this
  refine ⟨?_, by rw [eA]; exact G.cap t, fun nb => ?_⟩
  · rw [← filter_split]
    · refine List.filter_congr fun k m => ?_
      have hk := List.mem_range.mp m
      have := ge k hk
      rw [Bool.eq_iff_iff]
      simp only [Bool.and_eq_true, Bool.or_eq_true, decide_eq_true_eq]
      omega
    · refine (List.pairwise_lt_range (n := xs.length)).imp_of_mem fun {a b} ma mb hab => ?_
      intro hq
      have := mono a b hab (List.mem_range.mp mb)
      simp only [Bool.and_eq_true, decide_eq_true_eq] at hq
      exact decide_eq_false (by omega)
    · intro k m h
      have h := of_decide_eq_true h
      rw [Bool.and_eq_false_iff]
      exact .inr (decide_eq_false (by omega))
  · obtain ⟨k, hk⟩ := List.exists_mem_of_ne_nil B nb
    obtain ⟨h1, h2⟩ := List.mem_filter.mp hk
    have hk' := List.mem_range.mp h1
    simp only [Bool.and_eq_true, decide_eq_true_eq] at h2
    have := G.idle k _ _ t (at_x k hk') (at_g k hk') h2.1 h2.2
    have a := count_take_le gs k t
    have b := G.cap t
    rw [eA]
    omega
end Pl

end
section
set_option Elab.async false
set_option linter.all false
set_option maxRecDepth 100000
/-! How the plain functions of a def are worked out. -/
namespace Fw
open PySem PySem.Spec PyProof.Rows L2
/-- may be stored over -/
class Fre (s : Slot) : Prop where
  ok : s = .un ∨ ∃ d, s = .fz d
instance : Fre .un := ⟨.inl rfl⟩
instance (d : PyData) : Fre (.fz d) := ⟨.inr ⟨d, rfl⟩⟩
theorem put_fre {δ : Env} {i : Nat} {u t : Slot} (h : Fre u) (e : δ[i]? = some u) : put δ i t = some (δ.set i t) := by
  unfold put
  rw [e]
  rcases h.ok with rfl | ⟨d, rfl⟩ <;> rfl
theorem put_c0 {u t : Slot} {r : Env} [h : Fre u] : put (u :: r) 0 t = some (t :: r) := put_fre h rfl
theorem put_c1 {a0 u t : Slot} {r : Env} [h : Fre u] : put (a0 :: u :: r) 1 t = some (a0 :: t :: r) := put_fre h rfl
theorem put_c2 {a0 a1 u t : Slot} {r : Env} [h : Fre u] : put (a0 :: a1 :: u :: r) 2 t = some (a0 :: a1 :: t :: r) := put_fre h rfl
theorem put_c3 {a0 a1 a2 u t : Slot} {r : Env} [h : Fre u] : put (a0 :: a1 :: a2 :: u :: r) 3 t = some (a0 :: a1 :: a2 :: t :: r) := put_fre h rfl
theorem put_c4 {a0 a1 a2 a3 u t : Slot} {r : Env} [h : Fre u] : put (a0 :: a1 :: a2 :: a3 :: u :: r) 4 t = some (a0 :: a1 :: a2 :: a3 :: t :: r) := put_fre h rfl
theorem put_c5 {a0 a1 a2 a3 a4 u t : Slot} {r : Env} [h : Fre u] : put (a0 :: a1 :: a2 :: a3 :: a4 :: u :: r) 5 t = some (a0 :: a1 :: a2 :: a3 :: a4 :: t :: r) := put_fre h rfl
theorem put_c6 {a0 a1 a2 a3 a4 a5 u t : Slot} {r : Env} [h : Fre u] : put (a0 :: a1 :: a2 :: a3 :: a4 :: a5 :: u :: r) 6 t = some (a0 :: a1 :: a2 :: a3 :: a4 :: a5 :: t :: r) := put_fre h rfl
theorem put_c7 {a0 a1 a2 a3 a4 a5 a6 u t : Slot} {r : Env} [h : Fre u] : put (a0 :: a1 :: a2 :: a3 :: a4 :: a5 :: a6 :: u :: r) 7 t = some (a0 :: a1 :: a2 :: a3 :: a4 :: a5 :: a6 :: t :: r) := put_fre h rfl
theorem put_c8 {a0 a1 a2 a3 a4 a5 a6 a7 u t : Slot} {r : Env} [h : Fre u] : put (a0 :: a1 :: a2 :: a3 :: a4 :: a5 :: a6 :: a7 :: u :: r) 8 t = some (a0 :: a1 :: a2 :: a3 :: a4 :: a5 :: a6 :: a7 :: t :: r) := put_fre h rfl
theorem put_c9 {a0 a1 a2 a3 a4 a5 a6 a7 a8 u t : Slot} {r : Env} [h : Fre u] : put (a0 :: a1 :: a2 :: a3 :: a4 :: a5 :: a6 :: a7 :: a8 :: u :: r) 9 t = some (a0 :: a1 :: a2 :: a3 :: a4 :: a5 :: a6 :: a7 :: a8 :: t :: r) := put_fre h rfl
theorem put_c10 {a0 a1 a2 a3 a4 a5 a6 a7 a8 a9 u t : Slot} {r : Env} [h : Fre u] : put (a0 :: a1 :: a2 :: a3 :: a4 :: a5 :: a6 :: a7 :: a8 :: a9 :: u :: r) 10 t = some (a0 :: a1 :: a2 :: a3 :: a4 :: a5 :: a6 :: a7 :: a8 :: a9 :: t :: r) := put_fre h rfl
theorem put_c11 {a0 a1 a2 a3 a4 a5 a6 a7 a8 a9 a10 u t : Slot} {r : Env} [h : Fre u] : put (a0 :: a1 :: a2 :: a3 :: a4 :: a5 :: a6 :: a7 :: a8 :: a9 :: a10 :: u :: r) 11 t = some (a0 :: a1 :: a2 :: a3 :: a4 :: a5 :: a6 :: a7 :: a8 :: a9 :: a10 :: t :: r) := put_fre h rfl
theorem put_c12 {a0 a1 a2 a3 a4 a5 a6 a7 a8 a9 a10 a11 u t : Slot} {r : Env} [h : Fre u] : put (a0 :: a1 :: a2 :: a3 :: a4 :: a5 :: a6 :: a7 :: a8 :: a9 :: a10 :: a11 :: u :: r) 12 t = some (a0 :: a1 :: a2 :: a3 :: a4 :: a5 :: a6 :: a7 :: a8 :: a9 :: a10 :: a11 :: t :: r) := put_fre h rfl
theorem put_c13 {a0 a1 a2 a3 a4 a5 a6 a7 a8 a9 a10 a11 a12 u t : Slot} {r : Env} [h : Fre u] : put (a0 :: a1 :: a2 :: a3 :: a4 :: a5 :: a6 :: a7 :: a8 :: a9 :: a10 :: a11 :: a12 :: u :: r) 13 t = some (a0 :: a1 :: a2 :: a3 :: a4 :: a5 :: a6 :: a7 :: a8 :: a9 :: a10 :: a11 :: a12 :: t :: r) := put_fre h rfl
theorem put_c14 {a0 a1 a2 a3 a4 a5 a6 a7 a8 a9 a10 a11 a12 a13 u t : Slot} {r : Env} [h : Fre u] : put (a0 :: a1 :: a2 :: a3 :: a4 :: a5 :: a6 :: a7 :: a8 :: a9 :: a10 :: a11 :: a12 :: a13 :: u :: r) 14 t = some (a0 :: a1 :: a2 :: a3 :: a4 :: a5 :: a6 :: a7 :: a8 :: a9 :: a10 :: a11 :: a12 :: a13 :: t :: r) := put_fre h rfl
theorem put_c15 {a0 a1 a2 a3 a4 a5 a6 a7 a8 a9 a10 a11 a12 a13 a14 u t : Slot} {r : Env} [h : Fre u] : put (a0 :: a1 :: a2 :: a3 :: a4 :: a5 :: a6 :: a7 :: a8 :: a9 :: a10 :: a11 :: a12 :: a13 :: a14 :: u :: r) 15 t = some (a0 :: a1 :: a2 :: a3 :: a4 :: a5 :: a6 :: a7 :: a8 :: a9 :: a10 :: a11 :: a12 :: a13 :: a14 :: t :: r) := put_fre h rfl
theorem put_c16 {a0 a1 a2 a3 a4 a5 a6 a7 a8 a9 a10 a11 a12 a13 a14 a15 u t : Slot} {r : Env} [h : Fre u] : put (a0 :: a1 :: a2 :: a3 :: a4 :: a5 :: a6 :: a7 :: a8 :: a9 :: a10 :: a11 :: a12 :: a13 :: a14 :: a15 :: u :: r) 16 t = some (a0 :: a1 :: a2 :: a3 :: a4 :: a5 :: a6 :: a7 :: a8 :: a9 :: a10 :: a11 :: a12 :: a13 :: a14 :: a15 :: t :: r) := put_fre h rfl
theorem put_c17 {a0 a1 a2 a3 a4 a5 a6 a7 a8 a9 a10 a11 a12 a13 a14 a15 a16 u t : Slot} {r : Env} [h : Fre u] : put (a0 :: a1 :: a2 :: a3 :: a4 :: a5 :: a6 :: a7 :: a8 :: a9 :: a10 :: a11 :: a12 :: a13 :: a14 :: a15 :: a16 :: u :: r) 17 t = some (a0 :: a1 :: a2 :: a3 :: a4 :: a5 :: a6 :: a7 :: a8 :: a9 :: a10 :: a11 :: a12 :: a13 :: a14 :: a15 :: a16 :: t :: r) := put_fre h rfl
theorem put_c18 {a0 a1 a2 a3 a4 a5 a6 a7 a8 a9 a10 a11 a12 a13 a14 a15 a16 a17 u t : Slot} {r : Env} [h : Fre u] : put (a0 :: a1 :: a2 :: a3 :: a4 :: a5 :: a6 :: a7 :: a8 :: a9 :: a10 :: a11 :: a12 :: a13 :: a14 :: a15 :: a16 :: a17 :: u :: r) 18 t = some (a0 :: a1 :: a2 :: a3 :: a4 :: a5 :: a6 :: a7 :: a8 :: a9 :: a10 :: a11 :: a12 :: a13 :: a14 :: a15 :: a16 :: a17 :: t :: r) := put_fre h rfl
theorem put_c19 {a0 a1 a2 a3 a4 a5 a6 a7 a8 a9 a10 a11 a12 a13 a14 a15 a16 a17 a18 u t : Slot} {r : Env} [h : Fre u] : put (a0 :: a1 :: a2 :: a3 :: a4 :: a5 :: a6 :: a7 :: a8 :: a9 :: a10 :: a11 :: a12 :: a13 :: a14 :: a15 :: a16 :: a17 :: a18 :: u :: r) 19 t = some (a0 :: a1 :: a2 :: a3 :: a4 :: a5 :: a6 :: a7 :: a8 :: a9 :: a10 :: a11 :: a12 :: a13 :: a14 :: a15 :: a16 :: a17 :: a18 :: t :: r) := put_fre h rfl
theorem put_c20 {a0 a1 a2 a3 a4 a5 a6 a7 a8 a9 a10 a11 a12 a13 a14 a15 a16 a17 a18 a19 u t : Slot} {r : Env} [h : Fre u] : put (a0 :: a1 :: a2 :: a3 :: a4 :: a5 :: a6 :: a7 :: a8 :: a9 :: a10 :: a11 :: a12 :: a13 :: a14 :: a15 :: a16 :: a17 :: a18 :: a19 :: u :: r) 20 t = some (a0 :: a1 :: a2 :: a3 :: a4 :: a5 :: a6 :: a7 :: a8 :: a9 :: a10 :: a11 :: a12 :: a13 :: a14 :: a15 :: a16 :: a17 :: a18 :: a19 :: t :: r) := put_fre h rfl
theorem put_c21 {a0 a1 a2 a3 a4 a5 a6 a7 a8 a9 a10 a11 a12 a13 a14 a15 a16 a17 a18 a19 a20 u t : Slot} {r : Env} [h : Fre u] : put (a0 :: a1 :: a2 :: a3 :: a4 :: a5 :: a6 :: a7 :: a8 :: a9 :: a10 :: a11 :: a12 :: a13 :: a14 :: a15 :: a16 :: a17 :: a18 :: a19 :: a20 :: u :: r) 21 t = some (a0 :: a1 :: a2 :: a3 :: a4 :: a5 :: a6 :: a7 :: a8 :: a9 :: a10 :: a11 :: a12 :: a13 :: a14 :: a15 :: a16 :: a17 :: a18 :: a19 :: a20 :: t :: r) := put_fre h rfl
theorem put_c22 {a0 a1 a2 a3 a4 a5 a6 a7 a8 a9 a10 a11 a12 a13 a14 a15 a16 a17 a18 a19 a20 a21 u t : Slot} {r : Env} [h : Fre u] : put (a0 :: a1 :: a2 :: a3 :: a4 :: a5 :: a6 :: a7 :: a8 :: a9 :: a10 :: a11 :: a12 :: a13 :: a14 :: a15 :: a16 :: a17 :: a18 :: a19 :: a20 :: a21 :: u :: r) 22 t = some (a0 :: a1 :: a2 :: a3 :: a4 :: a5 :: a6 :: a7 :: a8 :: a9 :: a10 :: a11 :: a12 :: a13 :: a14 :: a15 :: a16 :: a17 :: a18 :: a19 :: a20 :: a21 :: t :: r) := put_fre h rfl
theorem put_c23 {a0 a1 a2 a3 a4 a5 a6 a7 a8 a9 a10 a11 a12 a13 a14 a15 a16 a17 a18 a19 a20 a21 a22 u t : Slot} {r : Env} [h : Fre u] : put (a0 :: a1 :: a2 :: a3 :: a4 :: a5 :: a6 :: a7 :: a8 :: a9 :: a10 :: a11 :: a12 :: a13 :: a14 :: a15 :: a16 :: a17 :: a18 :: a19 :: a20 :: a21 :: a22 :: u :: r) 23 t = some (a0 :: a1 :: a2 :: a3 :: a4 :: a5 :: a6 :: a7 :: a8 :: a9 :: a10 :: a11 :: a12 :: a13 :: a14 :: a15 :: a16 :: a17 :: a18 :: a19 :: a20 :: a21 :: a22 :: t :: r) := put_fre h rfl
theorem forL_inv {p : FG} {body : FS} {as : List PyData} (I : Nat → Env → Prop) (h : ∀ (i : Nat) (d : PyData) (δ : Env), as[i]? = some d → I i δ → ∃ δ1 δ2, p d δ = some δ1 ∧ body δ1 = some (.nx δ2) ∧ I (i + 1) δ2) {δ : Env} (h0 : I 0 δ) :
    ∃ δ', forL p body as δ = some (.nx δ') ∧ I as.length δ' := by
  have go : ∀ (bs : List PyData) (n : Nat) (δ : Env), as.drop n = bs → n + bs.length = as.length → I n δ → ∃ δ', forL p body bs δ = some (.nx δ') ∧ I as.length δ' := by
    intro bs
    induction bs with
    | nil => intro n δ e l hI; exact ⟨δ, rfl, by simpa using l ▸ hI⟩
    | cons d bs ih =>
      intro n δ e l hI
      have e1 : as[n]? = some d := by
        have := congrArg (fun l : List PyData => l[0]?) e
        simpa using this
      have e2 : as.drop (n + 1) = bs := by
        have := congrArg (fun l : List PyData => l.drop 1) e
        simpa [List.drop_drop] using this
      obtain ⟨δ1, δ2, h1, h2, h3⟩ := h n d δ e1 hI
      obtain ⟨δ', h4, h5⟩ := ih (n + 1) δ2 e2 (by simp at l; omega) h3
      refine ⟨δ', ?_, h5⟩
      unfold forL
      simp only [h1, h2]
      exact h4
  exact go as 0 δ (by simp) (by simp) h0
theorem back_wipe (δ : Env) (vs : List Nat) : backE δ vs (wipeE δ vs) = δ := by
  apply List.ext_getElem?
  intro j
  by_cases hj : j < δ.length
  · by_cases m : j ∈ vs
    · rw [backE_in δ vs _ j m (by rw [wipeE_len]; exact hj), List.getD_eq_getElem?_getD, List.getElem?_eq_getElem hj]; rfl
    · rw [backE_out δ vs _ j m, wipeE_out vs δ j m]
  · rw [List.getElem?_eq_none (by rw [backE_len, wipeE_len]; omega), List.getElem?_eq_none (by omega)]
theorem lcL_pure {vs : List Nat} {p : FG} {c : FT} {e : F} {δ : Env} (b : PyData → Bool) (y : PyData → PyData) : ∀ ds : List PyData, (∀ d ∈ ds, ∃ δ1, p d δ = some δ1 ∧ c δ1 = some (b d, δ1) ∧ (b d = true → e δ1 = some (y d, δ1)) ∧ wipeE δ1 vs = δ) → lcL vs p c e ds δ = some ((ds.filter b).map y, δ)
  | [], _ => rfl
  | d :: ds, h => by
    obtain ⟨δ1, h1, h2, h3, h4⟩ := h d (by simp)
    have ih := lcL_pure b y ds fun x m => h x (by simp [m])
    unfold lcL
    simp only [h1, h2]
    cases q : b d with
    | true => simp only [h3 q, h4, ih, List.filter_cons_of_pos q, List.map_cons]
    | false =>
      simp only [h4, ih]
      rw [List.filter_cons_of_neg (by simp [q])]
theorem sLc_pure {vs : List Nat} {it : FA} {p : FG} {c : FT} {e : F} {δ0 δ1 : Env} {ds : List PyData} (b : PyData → Bool) (y : PyData → PyData) (hit : it δ0 = some (ds, δ1)) (hid : idle δ1 vs = true)
    (h : ∀ d ∈ ds, ∃ δ2, p d (wipeE δ1 vs) = some δ2 ∧ c δ2 = some (b d, δ2) ∧ (b d = true → e δ2 = some (y d, δ2)) ∧ wipeE δ2 vs = wipeE δ1 vs) : sLc vs it p c e δ0 = some ((ds.filter b).map y, δ1) := by
  unfold sLc
  simp only [hit]
  rw [if_pos hid, lcL_pure b y ds h]
  simp only [back_wipe]
/-- .. all taken -/
theorem sLc_all {vs : List Nat} {it : FA} {p : FG} {e : F} {δ0 δ1 : Env} {ds : List PyData} (y : PyData → PyData) (hit : it δ0 = some (ds, δ1)) (hid : idle δ1 vs = true)
    (h : ∀ d ∈ ds, ∃ δ2, p d (wipeE δ1 vs) = some δ2 ∧ e δ2 = some (y d, δ2) ∧ wipeE δ2 vs = wipeE δ1 vs) : sLc vs it p sYes e δ0 = some (ds.map y, δ1) := by
  have := sLc_pure (c := sYes) (fun _ => true) y hit hid fun d m => let ⟨δ2, h1, h2, h3⟩ := h d m; ⟨δ2, h1, rfl, fun _ => h2, h3⟩
  rw [this, List.filter_eq_self.mpr fun _ _ => rfl]
/-- .. of typed items -/
theorem sLc_map {α : Type} {vs : List Nat} {it : FA} {p : FG} {e : F} {δ0 δ1 : Env} {as : List α} {enc : α → PyData} (y : α → PyData) (hit : it δ0 = some (as.map enc, δ1)) (hid : idle δ1 vs = true)
    (h : ∀ a ∈ as, ∃ δ2, p (enc a) (wipeE δ1 vs) = some δ2 ∧ e δ2 = some (y a, δ2) ∧ wipeE δ2 vs = wipeE δ1 vs) : sLc vs it p sYes e δ0 = some (as.map y, δ1) := by
  unfold sLc
  simp only [hit]
  rw [if_pos hid]
  have : lcL vs p sYes e (as.map enc) (wipeE δ1 vs) = some (as.map y, wipeE δ1 vs) := by
    clear hit
    induction as with
    | nil => rfl
    | cons a as ih =>
      obtain ⟨δ2, h1, h2, h3⟩ := h a (by simp)
      have ih := ih fun x m => h x (by simp [m])
      rw [List.map_cons]
      unfold lcL
      simp only [h1, sYes, h2, h3]
      simp only [ih, List.map_cons]
  rw [this]
  simp only [back_wipe]
theorem sLc_filter {α : Type} {vs : List Nat} {it : FA} {p : FG} {c : FT} {e : F} {δ0 δ1 : Env} {as : List α} {enc : α → PyData} (b : α → Bool) (y : α → PyData) (hit : it δ0 = some (as.map enc, δ1)) (hid : idle δ1 vs = true)
    (h : ∀ a ∈ as, ∃ δ2, p (enc a) (wipeE δ1 vs) = some δ2 ∧ c δ2 = some (b a, δ2) ∧ (b a = true → e δ2 = some (y a, δ2)) ∧ wipeE δ2 vs = wipeE δ1 vs) : sLc vs it p c e δ0 = some ((as.filter b).map y, δ1) := by
  unfold sLc
  simp only [hit]
  rw [if_pos hid]
  have : lcL vs p c e (as.map enc) (wipeE δ1 vs) = some ((as.filter b).map y, wipeE δ1 vs) := by
    clear hit
    induction as with
    | nil => rfl
    | cons a as ih =>
      obtain ⟨δ2, h1, h2, h3, h4⟩ := h a (by simp)
      have ih := ih fun x m => h x (by simp [m])
      rw [List.map_cons]
      unfold lcL
      simp only [h1, h2]
      cases q : b a with
      | true => simp only [h3 q, h4, ih, List.filter_cons_of_pos q, List.map_cons]
      | false =>
        simp only [h4, ih]
        rw [List.filter_cons_of_neg (by simp [q])]
  rw [this]
  simp only [back_wipe]
theorem boolsD_all {α : Type} (b : α → Bool) (as : List α) : boolsD (as.map fun a => .bool (b a)) = some (as.map b) := by
  have := boolsD_map (as.map b)
  rw [List.map_map] at this
  exact this
theorem allR_map {α : Type} (b : α → Bool) (as : List α) : allR [.list (as.map fun a => .bool (b a))] = some (.bool (as.all b)) := by
  simp only [allR, boolsD_all, List.all_map]
  rfl
end Fw

end
section
set_option Elab.async false
set_option linter.all false
set_option maxRecDepth 100000
/-! What the checks answer. -/
namespace L95
open PySem PySem.Spec PyProof.Rows L2 Fw Pl
def dI (ns : List Int) : List PyData := ns.map .int
def pr (p : PyData × PyData) : PyData := .tuple [p.1, p.2]
theorem zipD_zip (xs ys : List PyData) : zipD xs ys = (xs.zip ys).map pr := by
  unfold zipD
  rw [List.zip, List.map_zipWith]
  rfl
theorem zip_ints (ns ms : List Int) : (dI ns).zip (dI ms) = (ns.zip ms).map fun p => (PyData.int p.1, PyData.int p.2) := by
  unfold dI
  rw [List.zip_map]; rfl
theorem cut_tail {α : Type} (xs : List α) : Fw.cutD xs (some 1) none = xs.tail := by
  unfold Fw.cutD HT.sIx
  cases xs with
  | nil => rfl
  | cons x xs =>
    have : min (1 : Int).toNat (x :: xs).length = 1 := by simp
    simp
theorem zip_tail (ns : List Int) : zipD (dI ns) (Fw.cutD (dI ns) (some 1) none) = (ns.zip ns.tail).map fun p => PyData.tuple [.int p.1, .int p.2] := by
  rw [cut_tail, zipD_zip]
  have : (dI ns).tail = dI ns.tail := by unfold dI; rw [List.map_tail]
  rw [this, zip_ints, List.map_map]
  rfl
theorem ix_t0 {a : PyData} {r : List PyData} : ixR (.tuple (a :: r)) (.int 0) = some a := by simp [ixR, atI, ixN]
theorem ix_t1 {a b : PyData} {r : List PyData} : ixR (.tuple (a :: b :: r)) (.int 1) = some b := by
  have : (1 : Int) < ((a :: b :: r).length : Nat) := by simp; omega
  simp only [ixR, atI, ixN]
  rw [if_pos (by omega), if_pos this]
  rfl
theorem ix_t2 {a b c : PyData} {r : List PyData} : ixR (.tuple (a :: b :: c :: r)) (.int 2) = some c := by
  have : (2 : Int) < ((a :: b :: c :: r).length : Nat) := by simp; omega
  simp only [ixR, atI, ixN]
  rw [if_pos (by omega), if_pos this]
  rfl
theorem atI_nat {ds : List PyData} {k : Nat} {d : PyData} (h : ds[k]? = some d) : atI ds (k : Int) = some d := by
  have hk := (List.getElem?_eq_some_iff.mp h).1
  unfold atI ixN
  rw [if_pos (by omega), if_pos (by omega)]
  simpa using h
theorem ix_tup {ds : List PyData} {k : Nat} {d : PyData} (h : ds[k]? = some d) : ixR (.tuple ds) (.int (k : Nat)) = some d := atI_nat h
theorem ix_lst {ds : List PyData} {k : Nat} {d : PyData} (h : ds[k]? = some d) : ixR (.list ds) (.int (k : Nat)) = some d := atI_nat h
theorem atI_last {ds : List PyData} {d : PyData} (h : ds.getLast? = some d) : atI ds (-1) = some d := by
  rw [List.getLast?_eq_getElem?] at h
  have hk := (List.getElem?_eq_some_iff.mp h).1
  unfold atI ixN
  rw [if_neg (by omega), if_pos (by omega)]
  have : (-1 + (ds.length : Int)).toNat = ds.length - 1 := by omega
  simp only [Option.bind_some, this]
  exact h
theorem ix_tl {ds : List PyData} {d : PyData} (h : ds.getLast? = some d) : ixR (.tuple ds) (.int (-1)) = some d := atI_last h
theorem ix_ll {ds : List PyData} {d : PyData} (h : ds.getLast? = some d) : ixR (.list ds) (.int (-1)) = some d := atI_last h
theorem len_t {ds : List PyData} : lenR [.tuple ds] = some (.int (ds.length : Nat)) := rfl
theorem len_l {ds : List PyData} : lenR [.list ds] = some (.int (ds.length : Nat)) := rfl
theorem eq_int {i j : Int} : eqR (.int i) (.int j) = some (.bool (i == j)) := rfl
theorem ne_int {i j : Int} : neR (.int i) (.int j) = some (.bool (!(i == j))) := rfl
theorem is_integer_int (n : Int) : d_is_integer [.int n] = some (.bool true) := rfl
theorem is_between_ok {v lo hi : Int} (h1 : lo ≤ v) (h2 : v ≤ hi) : d_is_between [.int v, .int lo, .int hi] = some (.bool true) := by
  simp only [d_is_between, denF, denM, denS, denSL, uns, List.replicate, List.length_cons, List.length_nil, List.map_cons, List.map_nil, List.cons_append, List.nil_append, if_true, Nat.zero_add, Nat.reduceAdd, reduceIte]
  simp [i_is_between, is_integer_int, h1, h2, xRet, xRetL, xSeq, xSet, xSetL, xIf, xDrop, xAsg, xNil, xNo, xPar, puts, xApp, xAug, xIce, xUn, s1, s2, sA0, sA1, sCall, sCallL, sCallM, sCallS, sCallSL, sB, sAndT, sOrT, sNotT, sAnd, sOr, sIf, sTup, sLst, sFz, sV, sC, sChain, sLenO, sIxO, sCmpO, sPop, sSl, sRevO, sRevD, rNil, rF, rL, rLL, addR, subR, fdivR, modR, ltR, leR, gtR, geR, isNR, notNR, isNone, len_t, len_l, absR, intR, minR, tupleR, isiR, subTy, tyD, revTR, negR, gN, gT, gCns, Fw.gNil, oN, oS, lstOf, setLst, ice, noAl, sYes, wipeE, idle, put_c0, put_c1, put_c2, put_c3, put_c4, put_c5, put_c6, put_c7, put_c8, put_c9, put_c10, put_c11, put_c12, put_c13, put_c14, put_c15, put_c16, put_c17, put_c18, put_c19, put_c20, put_c21, put_c22, put_c23]
theorem is_tuple_ok {ds : List PyData} {lo hi : Int} (h1 : lo ≤ ds.length) (h2 : ds.length ≤ hi) : d_is_tuple [.tuple ds, .int lo, .int hi] = some (.bool true) := by
  simp only [d_is_tuple, denF, denM, denS, denSL, uns, List.replicate, List.length_cons, List.length_nil, List.map_cons, List.map_nil, List.cons_append, List.nil_append, if_true, Nat.zero_add, Nat.reduceAdd, reduceIte]
  simp [i_is_tuple, h1, h2, xRet, xRetL, xSeq, xSet, xSetL, xIf, xDrop, xAsg, xNil, xNo, xPar, puts, xApp, xAug, xIce, xUn, s1, s2, sA0, sA1, sCall, sCallL, sCallM, sCallS, sCallSL, sB, sAndT, sOrT, sNotT, sAnd, sOr, sIf, sTup, sLst, sFz, sV, sC, sChain, sLenO, sIxO, sCmpO, sPop, sSl, sRevO, sRevD, rNil, rF, rL, rLL, addR, subR, fdivR, modR, ltR, leR, gtR, geR, isNR, notNR, isNone, len_t, len_l, absR, intR, minR, tupleR, isiR, subTy, tyD, revTR, negR, gN, gT, gCns, Fw.gNil, oN, oS, lstOf, setLst, ice, noAl, sYes, wipeE, idle, put_c0, put_c1, put_c2, put_c3, put_c4, put_c5, put_c6, put_c7, put_c8, put_c9, put_c10, put_c11, put_c12, put_c13, put_c14, put_c15, put_c16, put_c17, put_c18, put_c19, put_c20, put_c21, put_c22, put_c23]
theorem level_all {ns : List Int} (h : ns.Pairwise (· ≤ ·)) : ∀ p ∈ ns.zip ns.tail, decide (p.1 ≤ p.2) = true := by
  intro p m
  obtain ⟨i, hi, e⟩ := List.getElem_of_mem m
  rw [List.getElem_zip] at e
  have h0 : i < ns.length - 1 := by simpa using hi
  have := List.pairwise_iff_getElem.mp h i (i + 1) (by omega) (by omega) (by omega)
  subst e
  rw [List.getElem_tail]
  exact decide_eq_true this
theorem allR_yes {α : Type} {b : α → Bool} {as : List α} (h : ∀ a ∈ as, b a = true) : allR [.list (as.map fun a => .bool (b a))] = some (.bool true) := by
  rw [allR_map, List.all_eq_true.mpr h]
theorem is_level_tup {ns : List Int} (h : ns.Pairwise (· ≤ ·)) : d_is_level [.tuple (dI ns)] = some (.bool true) := by
  have hL := sLc_map (vs := [1, 2]) (it := wZip (sA1 (sV 0) (sA1 (sSl (sV 0) (oS (sC (.int 1))) oN) sA0))) (p := gT 2 (gCns (gN 1) (gCns (gN 2) Fw.gNil))) (e := s2 leR (sV 1) (sV 2)) (δ0 := [.fz (.tuple (dI ns)), .un, .un])
    (δ1 := [.fz (.tuple (dI ns)), .un, .un]) (as := ns.zip ns.tail) (enc := fun p => .tuple [.int p.1, .int p.2]) (fun p => .bool (decide (p.1 ≤ p.2))) (by simp [wZip, ← zip_tail, xRet, xRetL, xSeq, xSet, xSetL, xIf, xDrop, xAsg, xNil, xNo, xPar, puts, xApp, xAug, xIce, xUn, s1, s2, sA0, sA1, sCall, sCallL, sCallM, sCallS, sCallSL, sB, sAndT, sOrT, sNotT, sAnd, sOr, sIf, sTup, sLst, sFz, sV, sC, sChain, sLenO, sIxO, sCmpO, sPop, sSl, sRevO, sRevD, rNil, rF, rL, rLL, addR, subR, fdivR, modR, ltR, leR, gtR, geR, isNR, notNR, isNone, len_t, len_l, absR, intR, minR, tupleR, isiR, subTy, tyD, revTR, negR, gN, gT, gCns, Fw.gNil, oN, oS, lstOf, setLst, ice, noAl, sYes, wipeE, idle, put_c0, put_c1, put_c2, put_c3, put_c4, put_c5, put_c6, put_c7, put_c8, put_c9, put_c10, put_c11, put_c12, put_c13, put_c14, put_c15, put_c16, put_c17, put_c18, put_c19, put_c20, put_c21, put_c22, put_c23, wIx, itD]) rfl (fun a _ => ⟨[.fz (.tuple (dI ns)), .fz (.int a.1), .fz (.int a.2)], by simp [xRet, xRetL, xSeq, xSet, xSetL, xIf, xDrop, xAsg, xNil, xNo, xPar, puts, xApp, xAug, xIce, xUn, s1, s2, sA0, sA1, sCall, sCallL, sCallM, sCallS, sCallSL, sB, sAndT, sOrT, sNotT, sAnd, sOr, sIf, sTup, sLst, sFz, sV, sC, sChain, sLenO, sIxO, sCmpO, sPop, sSl, sRevO, sRevD, rNil, rF, rL, rLL, addR, subR, fdivR, modR, ltR, leR, gtR, geR, isNR, notNR, isNone, len_t, len_l, absR, intR, minR, tupleR, isiR, subTy, tyD, revTR, negR, gN, gT, gCns, Fw.gNil, oN, oS, lstOf, setLst, ice, noAl, sYes, wipeE, idle, put_c0, put_c1, put_c2, put_c3, put_c4, put_c5, put_c6, put_c7, put_c8, put_c9, put_c10, put_c11, put_c12, put_c13, put_c14, put_c15, put_c16, put_c17, put_c18, put_c19, put_c20, put_c21, put_c22, put_c23], by simp [xRet, xRetL, xSeq, xSet, xSetL, xIf, xDrop, xAsg, xNil, xNo, xPar, puts, xApp, xAug, xIce, xUn, s1, s2, sA0, sA1, sCall, sCallL, sCallM, sCallS, sCallSL, sB, sAndT, sOrT, sNotT, sAnd, sOr, sIf, sTup, sLst, sFz, sV, sC, sChain, sLenO, sIxO, sCmpO, sPop, sSl, sRevO, sRevD, rNil, rF, rL, rLL, addR, subR, fdivR, modR, ltR, leR, gtR, geR, isNR, notNR, isNone, len_t, len_l, absR, intR, minR, tupleR, isiR, subTy, tyD, revTR, negR, gN, gT, gCns, Fw.gNil, oN, oS, lstOf, setLst, ice, noAl, sYes, wipeE, idle, put_c0, put_c1, put_c2, put_c3, put_c4, put_c5, put_c6, put_c7, put_c8, put_c9, put_c10, put_c11, put_c12, put_c13, put_c14, put_c15, put_c16, put_c17, put_c18, put_c19, put_c20, put_c21, put_c22, put_c23], by simp [xRet, xRetL, xSeq, xSet, xSetL, xIf, xDrop, xAsg, xNil, xNo, xPar, puts, xApp, xAug, xIce, xUn, s1, s2, sA0, sA1, sCall, sCallL, sCallM, sCallS, sCallSL, sB, sAndT, sOrT, sNotT, sAnd, sOr, sIf, sTup, sLst, sFz, sV, sC, sChain, sLenO, sIxO, sCmpO, sPop, sSl, sRevO, sRevD, rNil, rF, rL, rLL, addR, subR, fdivR, modR, ltR, leR, gtR, geR, isNR, notNR, isNone, len_t, len_l, absR, intR, minR, tupleR, isiR, subTy, tyD, revTR, negR, gN, gT, gCns, Fw.gNil, oN, oS, lstOf, setLst, ice, noAl, sYes, wipeE, idle, put_c0, put_c1, put_c2, put_c3, put_c4, put_c5, put_c6, put_c7, put_c8, put_c9, put_c10, put_c11, put_c12, put_c13, put_c14, put_c15, put_c16, put_c17, put_c18, put_c19, put_c20, put_c21, put_c22, put_c23]⟩)
  simp only [d_is_level, denF, denM, denS, denSL, uns, List.replicate, List.length_cons, List.length_nil, List.map_cons, List.map_nil, List.cons_append, List.nil_append, if_true, Nat.zero_add, Nat.reduceAdd, reduceIte]
  simp [i_is_level, hL, allR_yes (level_all h), xRet, xRetL, xSeq, xSet, xSetL, xIf, xDrop, xAsg, xNil, xNo, xPar, puts, xApp, xAug, xIce, xUn, s1, s2, sA0, sA1, sCall, sCallL, sCallM, sCallS, sCallSL, sB, sAndT, sOrT, sNotT, sAnd, sOr, sIf, sTup, sLst, sFz, sV, sC, sChain, sLenO, sIxO, sCmpO, sPop, sSl, sRevO, sRevD, rNil, rF, rL, rLL, addR, subR, fdivR, modR, ltR, leR, gtR, geR, isNR, notNR, isNone, len_t, len_l, absR, intR, minR, tupleR, isiR, subTy, tyD, revTR, negR, gN, gT, gCns, Fw.gNil, oN, oS, lstOf, setLst, ice, noAl, sYes, wipeE, idle, put_c0, put_c1, put_c2, put_c3, put_c4, put_c5, put_c6, put_c7, put_c8, put_c9, put_c10, put_c11, put_c12, put_c13, put_c14, put_c15, put_c16, put_c17, put_c18, put_c19, put_c20, put_c21, put_c22, put_c23]
theorem is_level_lst {ns : List Int} (h : ns.Pairwise (· ≤ ·)) : d_is_level [.list (dI ns)] = some (.bool true) := by
  have hL := sLc_map (vs := [1, 2]) (it := wZip (sA1 (sV 0) (sA1 (sSl (sV 0) (oS (sC (.int 1))) oN) sA0))) (p := gT 2 (gCns (gN 1) (gCns (gN 2) Fw.gNil))) (e := s2 leR (sV 1) (sV 2)) (δ0 := [.fz (.list (dI ns)), .un, .un])
    (δ1 := [.fz (.list (dI ns)), .un, .un]) (as := ns.zip ns.tail) (enc := fun p => .tuple [.int p.1, .int p.2]) (fun p => .bool (decide (p.1 ≤ p.2))) (by simp [wZip, ← zip_tail, xRet, xRetL, xSeq, xSet, xSetL, xIf, xDrop, xAsg, xNil, xNo, xPar, puts, xApp, xAug, xIce, xUn, s1, s2, sA0, sA1, sCall, sCallL, sCallM, sCallS, sCallSL, sB, sAndT, sOrT, sNotT, sAnd, sOr, sIf, sTup, sLst, sFz, sV, sC, sChain, sLenO, sIxO, sCmpO, sPop, sSl, sRevO, sRevD, rNil, rF, rL, rLL, addR, subR, fdivR, modR, ltR, leR, gtR, geR, isNR, notNR, isNone, len_t, len_l, absR, intR, minR, tupleR, isiR, subTy, tyD, revTR, negR, gN, gT, gCns, Fw.gNil, oN, oS, lstOf, setLst, ice, noAl, sYes, wipeE, idle, put_c0, put_c1, put_c2, put_c3, put_c4, put_c5, put_c6, put_c7, put_c8, put_c9, put_c10, put_c11, put_c12, put_c13, put_c14, put_c15, put_c16, put_c17, put_c18, put_c19, put_c20, put_c21, put_c22, put_c23, wIx, itD]) rfl (fun a _ => ⟨[.fz (.list (dI ns)), .fz (.int a.1), .fz (.int a.2)], by simp [xRet, xRetL, xSeq, xSet, xSetL, xIf, xDrop, xAsg, xNil, xNo, xPar, puts, xApp, xAug, xIce, xUn, s1, s2, sA0, sA1, sCall, sCallL, sCallM, sCallS, sCallSL, sB, sAndT, sOrT, sNotT, sAnd, sOr, sIf, sTup, sLst, sFz, sV, sC, sChain, sLenO, sIxO, sCmpO, sPop, sSl, sRevO, sRevD, rNil, rF, rL, rLL, addR, subR, fdivR, modR, ltR, leR, gtR, geR, isNR, notNR, isNone, len_t, len_l, absR, intR, minR, tupleR, isiR, subTy, tyD, revTR, negR, gN, gT, gCns, Fw.gNil, oN, oS, lstOf, setLst, ice, noAl, sYes, wipeE, idle, put_c0, put_c1, put_c2, put_c3, put_c4, put_c5, put_c6, put_c7, put_c8, put_c9, put_c10, put_c11, put_c12, put_c13, put_c14, put_c15, put_c16, put_c17, put_c18, put_c19, put_c20, put_c21, put_c22, put_c23], by simp [xRet, xRetL, xSeq, xSet, xSetL, xIf, xDrop, xAsg, xNil, xNo, xPar, puts, xApp, xAug, xIce, xUn, s1, s2, sA0, sA1, sCall, sCallL, sCallM, sCallS, sCallSL, sB, sAndT, sOrT, sNotT, sAnd, sOr, sIf, sTup, sLst, sFz, sV, sC, sChain, sLenO, sIxO, sCmpO, sPop, sSl, sRevO, sRevD, rNil, rF, rL, rLL, addR, subR, fdivR, modR, ltR, leR, gtR, geR, isNR, notNR, isNone, len_t, len_l, absR, intR, minR, tupleR, isiR, subTy, tyD, revTR, negR, gN, gT, gCns, Fw.gNil, oN, oS, lstOf, setLst, ice, noAl, sYes, wipeE, idle, put_c0, put_c1, put_c2, put_c3, put_c4, put_c5, put_c6, put_c7, put_c8, put_c9, put_c10, put_c11, put_c12, put_c13, put_c14, put_c15, put_c16, put_c17, put_c18, put_c19, put_c20, put_c21, put_c22, put_c23], by simp [xRet, xRetL, xSeq, xSet, xSetL, xIf, xDrop, xAsg, xNil, xNo, xPar, puts, xApp, xAug, xIce, xUn, s1, s2, sA0, sA1, sCall, sCallL, sCallM, sCallS, sCallSL, sB, sAndT, sOrT, sNotT, sAnd, sOr, sIf, sTup, sLst, sFz, sV, sC, sChain, sLenO, sIxO, sCmpO, sPop, sSl, sRevO, sRevD, rNil, rF, rL, rLL, addR, subR, fdivR, modR, ltR, leR, gtR, geR, isNR, notNR, isNone, len_t, len_l, absR, intR, minR, tupleR, isiR, subTy, tyD, revTR, negR, gN, gT, gCns, Fw.gNil, oN, oS, lstOf, setLst, ice, noAl, sYes, wipeE, idle, put_c0, put_c1, put_c2, put_c3, put_c4, put_c5, put_c6, put_c7, put_c8, put_c9, put_c10, put_c11, put_c12, put_c13, put_c14, put_c15, put_c16, put_c17, put_c18, put_c19, put_c20, put_c21, put_c22, put_c23]⟩)
  simp only [d_is_level, denF, denM, denS, denSL, uns, List.replicate, List.length_cons, List.length_nil, List.map_cons, List.map_nil, List.cons_append, List.nil_append, if_true, Nat.zero_add, Nat.reduceAdd, reduceIte]
  simp [i_is_level, hL, allR_yes (level_all h), xRet, xRetL, xSeq, xSet, xSetL, xIf, xDrop, xAsg, xNil, xNo, xPar, puts, xApp, xAug, xIce, xUn, s1, s2, sA0, sA1, sCall, sCallL, sCallM, sCallS, sCallSL, sB, sAndT, sOrT, sNotT, sAnd, sOr, sIf, sTup, sLst, sFz, sV, sC, sChain, sLenO, sIxO, sCmpO, sPop, sSl, sRevO, sRevD, rNil, rF, rL, rLL, addR, subR, fdivR, modR, ltR, leR, gtR, geR, isNR, notNR, isNone, len_t, len_l, absR, intR, minR, tupleR, isiR, subTy, tyD, revTR, negR, gN, gT, gCns, Fw.gNil, oN, oS, lstOf, setLst, ice, noAl, sYes, wipeE, idle, put_c0, put_c1, put_c2, put_c3, put_c4, put_c5, put_c6, put_c7, put_c8, put_c9, put_c10, put_c11, put_c12, put_c13, put_c14, put_c15, put_c16, put_c17, put_c18, put_c19, put_c20, put_c21, put_c22, put_c23]

/-! ### ticks -/
theorem are_ticks_ok {ns : List Int} (hl : ns.length ≤ 600) (h : ns.Pairwise (· ≤ ·)) (hb : ∀ n ∈ ns, 0 ≤ n ∧ n ≤ 10000) : d_are_ticks [.tuple (dI ns)] = some (.bool true) := by
  have hT := is_tuple_ok (ds := dI ns) (lo := 0) (hi := 600) (by simp) (by unfold dI; rw [List.length_map]; omega)
  have hL := sLc_map (vs := [1]) (it := wIx (sV 0)) (p := gN 1) (e := sCall d_is_between (sA1 (sV 1) (sA1 (sC (.int 0)) (sA1 (sC (.int 10000)) sA0)))) (δ0 := [.fz (.tuple (dI ns)), .un]) (δ1 := [.fz (.tuple (dI ns)), .un])
    (as := ns) (enc := .int) (fun _ => .bool true) (by simp [dI, xRet, xRetL, xSeq, xSet, xSetL, xIf, xDrop, xAsg, xNil, xNo, xPar, puts, xApp, xAug, xIce, xUn, s1, s2, sA0, sA1, sCall, sCallL, sCallM, sCallS, sCallSL, sB, sAndT, sOrT, sNotT, sAnd, sOr, sIf, sTup, sLst, sFz, sV, sC, sChain, sLenO, sIxO, sCmpO, sPop, sSl, sRevO, sRevD, rNil, rF, rL, rLL, addR, subR, fdivR, modR, ltR, leR, gtR, geR, isNR, notNR, isNone, len_t, len_l, absR, intR, minR, tupleR, isiR, subTy, tyD, revTR, negR, gN, gT, gCns, Fw.gNil, oN, oS, lstOf, setLst, ice, noAl, sYes, wipeE, idle, put_c0, put_c1, put_c2, put_c3, put_c4, put_c5, put_c6, put_c7, put_c8, put_c9, put_c10, put_c11, put_c12, put_c13, put_c14, put_c15, put_c16, put_c17, put_c18, put_c19, put_c20, put_c21, put_c22, put_c23, wIx, itD]) rfl (fun a m => ⟨[.fz (.tuple (dI ns)), .fz (.int a)], by simp [xRet, xRetL, xSeq, xSet, xSetL, xIf, xDrop, xAsg, xNil, xNo, xPar, puts, xApp, xAug, xIce, xUn, s1, s2, sA0, sA1, sCall, sCallL, sCallM, sCallS, sCallSL, sB, sAndT, sOrT, sNotT, sAnd, sOr, sIf, sTup, sLst, sFz, sV, sC, sChain, sLenO, sIxO, sCmpO, sPop, sSl, sRevO, sRevD, rNil, rF, rL, rLL, addR, subR, fdivR, modR, ltR, leR, gtR, geR, isNR, notNR, isNone, len_t, len_l, absR, intR, minR, tupleR, isiR, subTy, tyD, revTR, negR, gN, gT, gCns, Fw.gNil, oN, oS, lstOf, setLst, ice, noAl, sYes, wipeE, idle, put_c0, put_c1, put_c2, put_c3, put_c4, put_c5, put_c6, put_c7, put_c8, put_c9, put_c10, put_c11, put_c12, put_c13, put_c14, put_c15, put_c16, put_c17, put_c18, put_c19, put_c20, put_c21, put_c22, put_c23], by simp [is_between_ok (hb a m).1 (hb a m).2, xRet, xRetL, xSeq, xSet, xSetL, xIf, xDrop, xAsg, xNil, xNo, xPar, puts, xApp, xAug, xIce, xUn, s1, s2, sA0, sA1, sCall, sCallL, sCallM, sCallS, sCallSL, sB, sAndT, sOrT, sNotT, sAnd, sOr, sIf, sTup, sLst, sFz, sV, sC, sChain, sLenO, sIxO, sCmpO, sPop, sSl, sRevO, sRevD, rNil, rF, rL, rLL, addR, subR, fdivR, modR, ltR, leR, gtR, geR, isNR, notNR, isNone, len_t, len_l, absR, intR, minR, tupleR, isiR, subTy, tyD, revTR, negR, gN, gT, gCns, Fw.gNil, oN, oS, lstOf, setLst, ice, noAl, sYes, wipeE, idle, put_c0, put_c1, put_c2, put_c3, put_c4, put_c5, put_c6, put_c7, put_c8, put_c9, put_c10, put_c11, put_c12, put_c13, put_c14, put_c15, put_c16, put_c17, put_c18, put_c19, put_c20, put_c21, put_c22, put_c23], by simp [xRet, xRetL, xSeq, xSet, xSetL, xIf, xDrop, xAsg, xNil, xNo, xPar, puts, xApp, xAug, xIce, xUn, s1, s2, sA0, sA1, sCall, sCallL, sCallM, sCallS, sCallSL, sB, sAndT, sOrT, sNotT, sAnd, sOr, sIf, sTup, sLst, sFz, sV, sC, sChain, sLenO, sIxO, sCmpO, sPop, sSl, sRevO, sRevD, rNil, rF, rL, rLL, addR, subR, fdivR, modR, ltR, leR, gtR, geR, isNR, notNR, isNone, len_t, len_l, absR, intR, minR, tupleR, isiR, subTy, tyD, revTR, negR, gN, gT, gCns, Fw.gNil, oN, oS, lstOf, setLst, ice, noAl, sYes, wipeE, idle, put_c0, put_c1, put_c2, put_c3, put_c4, put_c5, put_c6, put_c7, put_c8, put_c9, put_c10, put_c11, put_c12, put_c13, put_c14, put_c15, put_c16, put_c17, put_c18, put_c19, put_c20, put_c21, put_c22, put_c23]⟩)
  have hA := allR_yes (as := ns) (b := fun _ => true) (fun _ _ => rfl)
  simp only [d_are_ticks, denF, denM, denS, denSL, uns, List.replicate, List.length_cons, List.length_nil, List.map_cons, List.map_nil, List.cons_append, List.nil_append, if_true, Nat.zero_add, Nat.reduceAdd, reduceIte]
  simp [i_are_ticks, hT, hL, hA, is_level_tup h, -List.map_const, xRet, xRetL, xSeq, xSet, xSetL, xIf, xDrop, xAsg, xNil, xNo, xPar, puts, xApp, xAug, xIce, xUn, s1, s2, sA0, sA1, sCall, sCallL, sCallM, sCallS, sCallSL, sB, sAndT, sOrT, sNotT, sAnd, sOr, sIf, sTup, sLst, sFz, sV, sC, sChain, sLenO, sIxO, sCmpO, sPop, sSl, sRevO, sRevD, rNil, rF, rL, rLL, addR, subR, fdivR, modR, ltR, leR, gtR, geR, isNR, notNR, isNone, len_t, len_l, absR, intR, minR, tupleR, isiR, subTy, tyD, revTR, negR, gN, gT, gCns, Fw.gNil, oN, oS, lstOf, setLst, ice, noAl, sYes, wipeE, idle, put_c0, put_c1, put_c2, put_c3, put_c4, put_c5, put_c6, put_c7, put_c8, put_c9, put_c10, put_c11, put_c12, put_c13, put_c14, put_c15, put_c16, put_c17, put_c18, put_c19, put_c20, put_c21, put_c22, put_c23]
theorem need_ticks_ok {ns : List Int} (hl : ns.length ≤ 600) (h : ns.Pairwise (· ≤ ·)) (hb : ∀ n ∈ ns, 0 ≤ n ∧ n ≤ 10000) : d_need_ticks [.tuple (dI ns)] = some .none := by
  simp only [d_need_ticks, denF, denM, denS, denSL, uns, List.replicate, List.length_cons, List.length_nil, List.map_cons, List.map_nil, List.cons_append, List.nil_append, if_true, Nat.zero_add, Nat.reduceAdd, reduceIte]
  simp [i_need_ticks, are_ticks_ok hl h hb, xRet, xRetL, xSeq, xSet, xSetL, xIf, xDrop, xAsg, xNil, xNo, xPar, puts, xApp, xAug, xIce, xUn, s1, s2, sA0, sA1, sCall, sCallL, sCallM, sCallS, sCallSL, sB, sAndT, sOrT, sNotT, sAnd, sOr, sIf, sTup, sLst, sFz, sV, sC, sChain, sLenO, sIxO, sCmpO, sPop, sSl, sRevO, sRevD, rNil, rF, rL, rLL, addR, subR, fdivR, modR, ltR, leR, gtR, geR, isNR, notNR, isNone, len_t, len_l, absR, intR, minR, tupleR, isiR, subTy, tyD, revTR, negR, gN, gT, gCns, Fw.gNil, oN, oS, lstOf, setLst, ice, noAl, sYes, wipeE, idle, put_c0, put_c1, put_c2, put_c3, put_c4, put_c5, put_c6, put_c7, put_c8, put_c9, put_c10, put_c11, put_c12, put_c13, put_c14, put_c15, put_c16, put_c17, put_c18, put_c19, put_c20, put_c21, put_c22, put_c23]

/-! ### the hall, the row, the route of the path -/
abbrev Rw := Int × Int
structure RowOk (rows : List Rw) : Prop where
  one : 1 ≤ rows.length
  few : rows.length ≤ 4
  ok : ∀ r ∈ rows, 1 ≤ r.1 ∧ r.1 ≤ 6 ∧ 1 ≤ r.2 ∧ r.2 ≤ 3
def rowD (rows : List Rw) : PyData := .tuple (rows.map fun r => .tuple [.int r.1, .tuple [.int r.2]])
def stD (k : Nat) (r : Rw) : PyData := .tuple [.int k, .int (k + 1), .int r.1, .int r.2]
def stsD : Nat → List Rw → List PyData
  | _, [] => []
  | k, r :: rs => stD k r :: stsD (k + 1) rs
def hallD (rows : List Rw) : PyData := .tuple [.int ((rows.length : Int) + 1), .tuple (stsD 0 rows)]
def rt (m : Nat) : List Int := (List.range m).map fun k : Nat => (k : Int)
def routeD (m : Nat) : PyData := .tuple (dI (rt m))
theorem is_beat_ok {c : Int} (h1 : 1 ≤ c) (h2 : c ≤ 9) : d_is_beat [.tuple [.int c]] = some (.bool true) := by
  have hT := is_tuple_ok (ds := [.int c]) (lo := 1) (hi := 6) (by simp) (by simp)
  have hL := sLc_map (vs := [1]) (it := wIx (sV 0)) (p := gN 1) (e := sCall d_is_between (sA1 (sV 1) (sA1 (sC (.int 0)) (sA1 (sC (.int 9)) sA0)))) (δ0 := [.fz (.tuple [.int c]), .un]) (δ1 := [.fz (.tuple [.int c]), .un])
    (as := [c]) (enc := .int) (fun _ => .bool true) (by simp [xRet, xRetL, xSeq, xSet, xSetL, xIf, xDrop, xAsg, xNil, xNo, xPar, puts, xApp, xAug, xIce, xUn, s1, s2, sA0, sA1, sCall, sCallL, sCallM, sCallS, sCallSL, sB, sAndT, sOrT, sNotT, sAnd, sOr, sIf, sTup, sLst, sFz, sV, sC, sChain, sLenO, sIxO, sCmpO, sPop, sSl, sRevO, sRevD, rNil, rF, rL, rLL, addR, subR, fdivR, modR, ltR, leR, gtR, geR, isNR, notNR, isNone, len_t, len_l, absR, intR, minR, tupleR, isiR, subTy, tyD, revTR, negR, gN, gT, gCns, Fw.gNil, oN, oS, lstOf, setLst, ice, noAl, sYes, wipeE, idle, put_c0, put_c1, put_c2, put_c3, put_c4, put_c5, put_c6, put_c7, put_c8, put_c9, put_c10, put_c11, put_c12, put_c13, put_c14, put_c15, put_c16, put_c17, put_c18, put_c19, put_c20, put_c21, put_c22, put_c23, wIx, itD]) rfl (fun a m => ⟨[.fz (.tuple [.int c]), .fz (.int a)], by simp [xRet, xRetL, xSeq, xSet, xSetL, xIf, xDrop, xAsg, xNil, xNo, xPar, puts, xApp, xAug, xIce, xUn, s1, s2, sA0, sA1, sCall, sCallL, sCallM, sCallS, sCallSL, sB, sAndT, sOrT, sNotT, sAnd, sOr, sIf, sTup, sLst, sFz, sV, sC, sChain, sLenO, sIxO, sCmpO, sPop, sSl, sRevO, sRevD, rNil, rF, rL, rLL, addR, subR, fdivR, modR, ltR, leR, gtR, geR, isNR, notNR, isNone, len_t, len_l, absR, intR, minR, tupleR, isiR, subTy, tyD, revTR, negR, gN, gT, gCns, Fw.gNil, oN, oS, lstOf, setLst, ice, noAl, sYes, wipeE, idle, put_c0, put_c1, put_c2, put_c3, put_c4, put_c5, put_c6, put_c7, put_c8, put_c9, put_c10, put_c11, put_c12, put_c13, put_c14, put_c15, put_c16, put_c17, put_c18, put_c19, put_c20, put_c21, put_c22, put_c23], by
      have : a = c := by simpa using m
      subst this
      simp [is_between_ok (show (0 : Int) ≤ a by omega) h2, xRet, xRetL, xSeq, xSet, xSetL, xIf, xDrop, xAsg, xNil, xNo, xPar, puts, xApp, xAug, xIce, xUn, s1, s2, sA0, sA1, sCall, sCallL, sCallM, sCallS, sCallSL, sB, sAndT, sOrT, sNotT, sAnd, sOr, sIf, sTup, sLst, sFz, sV, sC, sChain, sLenO, sIxO, sCmpO, sPop, sSl, sRevO, sRevD, rNil, rF, rL, rLL, addR, subR, fdivR, modR, ltR, leR, gtR, geR, isNR, notNR, isNone, len_t, len_l, absR, intR, minR, tupleR, isiR, subTy, tyD, revTR, negR, gN, gT, gCns, Fw.gNil, oN, oS, lstOf, setLst, ice, noAl, sYes, wipeE, idle, put_c0, put_c1, put_c2, put_c3, put_c4, put_c5, put_c6, put_c7, put_c8, put_c9, put_c10, put_c11, put_c12, put_c13, put_c14, put_c15, put_c16, put_c17, put_c18, put_c19, put_c20, put_c21, put_c22, put_c23], by simp [xRet, xRetL, xSeq, xSet, xSetL, xIf, xDrop, xAsg, xNil, xNo, xPar, puts, xApp, xAug, xIce, xUn, s1, s2, sA0, sA1, sCall, sCallL, sCallM, sCallS, sCallSL, sB, sAndT, sOrT, sNotT, sAnd, sOr, sIf, sTup, sLst, sFz, sV, sC, sChain, sLenO, sIxO, sCmpO, sPop, sSl, sRevO, sRevD, rNil, rF, rL, rLL, addR, subR, fdivR, modR, ltR, leR, gtR, geR, isNR, notNR, isNone, len_t, len_l, absR, intR, minR, tupleR, isiR, subTy, tyD, revTR, negR, gN, gT, gCns, Fw.gNil, oN, oS, lstOf, setLst, ice, noAl, sYes, wipeE, idle, put_c0, put_c1, put_c2, put_c3, put_c4, put_c5, put_c6, put_c7, put_c8, put_c9, put_c10, put_c11, put_c12, put_c13, put_c14, put_c15, put_c16, put_c17, put_c18, put_c19, put_c20, put_c21, put_c22, put_c23]⟩)
  have h3 : (0 : Int) < c := by omega
  simp only [d_is_beat, denF, denM, denS, denSL, uns, List.replicate, List.length_cons, List.length_nil, List.map_cons, List.map_nil, List.cons_append, List.nil_append, if_true, Nat.zero_add, Nat.reduceAdd, reduceIte]
  simp [i_is_beat, hT, hL, allR, boolsD, sumR, intsD, h3, xRet, xRetL, xSeq, xSet, xSetL, xIf, xDrop, xAsg, xNil, xNo, xPar, puts, xApp, xAug, xIce, xUn, s1, s2, sA0, sA1, sCall, sCallL, sCallM, sCallS, sCallSL, sB, sAndT, sOrT, sNotT, sAnd, sOr, sIf, sTup, sLst, sFz, sV, sC, sChain, sLenO, sIxO, sCmpO, sPop, sSl, sRevO, sRevD, rNil, rF, rL, rLL, addR, subR, fdivR, modR, ltR, leR, gtR, geR, isNR, notNR, isNone, len_t, len_l, absR, intR, minR, tupleR, isiR, subTy, tyD, revTR, negR, gN, gT, gCns, Fw.gNil, oN, oS, lstOf, setLst, ice, noAl, sYes, wipeE, idle, put_c0, put_c1, put_c2, put_c3, put_c4, put_c5, put_c6, put_c7, put_c8, put_c9, put_c10, put_c11, put_c12, put_c13, put_c14, put_c15, put_c16, put_c17, put_c18, put_c19, put_c20, put_c21, put_c22, put_c23]
theorem is_row_ok {rows : List Rw} (h : RowOk rows) : d_is_row [rowD rows] = some (.bool true) := by
  have hT := is_tuple_ok (ds := rows.map fun r => .tuple [.int r.1, .tuple [.int r.2]]) (lo := 1) (hi := 4) (by have := h.one; rw [List.length_map]; omega) (by have := h.few; rw [List.length_map]; omega)
  have hF := forL_inv (p := gN 1) (body := (xIf (sOrT (sNotT (sB (sCall d_is_tuple (sA1 (sV 1) (sA1 (sC (.int 2)) (sA1 (sC (.int 2)) sA0)))))) (sOrT (sNotT (sB (sCall d_is_between (sA1 (s2 ixR (sV 1) (sC (.int 0))) (sA1 (sC (.int 0)) (sA1 (sC (.int 6)) sA0)))))) (sNotT (sB (sCall d_is_beat (sA1 (s2 ixR (sV 1) (sC (.int 1))) sA0)))))) (xRet (sC (.bool false))) xNil))
    (as := rows.map fun r => .tuple [.int r.1, .tuple [.int r.2]]) (fun _ δ => ∃ u, Fre u ∧ δ = [.fz (rowD rows), u]) (fun i d δ e ⟨u, fu, eδ⟩ => by
      subst eδ
      rw [List.getElem?_map] at e
      cases q : rows[i]? with
      | none => rw [q] at e; cases e
      | some r =>
        rw [q] at e
        have e : d = .tuple [.int r.1, .tuple [.int r.2]] := (Option.some.inj e).symm
        subst e
        have hr := h.ok r (List.mem_of_getElem? q)
        have t2 := is_tuple_ok (ds := [.int r.1, .tuple [.int r.2]]) (lo := 2) (hi := 2) (by simp) (by simp)
        have b1 := is_between_ok (v := r.1) (lo := 0) (hi := 6) (by omega) (by omega)
        have b2 := is_beat_ok (c := r.2) (by omega) (by omega)
        exact ⟨[.fz (rowD rows), .fz (.tuple [.int r.1, .tuple [.int r.2]])], [.fz (rowD rows), .fz (.tuple [.int r.1, .tuple [.int r.2]])], by simp [xRet, xRetL, xSeq, xSet, xSetL, xIf, xDrop, xAsg, xNil, xNo, xPar, puts, xApp, xAug, xIce, xUn, s1, s2, sA0, sA1, sCall, sCallL, sCallM, sCallS, sCallSL, sB, sAndT, sOrT, sNotT, sAnd, sOr, sIf, sTup, sLst, sFz, sV, sC, sChain, sLenO, sIxO, sCmpO, sPop, sSl, sRevO, sRevD, rNil, rF, rL, rLL, addR, subR, fdivR, modR, ltR, leR, gtR, geR, isNR, notNR, isNone, len_t, len_l, absR, intR, minR, tupleR, isiR, subTy, tyD, revTR, negR, gN, gT, gCns, Fw.gNil, oN, oS, lstOf, setLst, ice, noAl, sYes, wipeE, idle, put_c0, put_c1, put_c2, put_c3, put_c4, put_c5, put_c6, put_c7, put_c8, put_c9, put_c10, put_c11, put_c12, put_c13, put_c14, put_c15, put_c16, put_c17, put_c18, put_c19, put_c20, put_c21, put_c22, put_c23], by simp [t2, b1, b2, ix_t0, ix_t1, xRet, xRetL, xSeq, xSet, xSetL, xIf, xDrop, xAsg, xNil, xNo, xPar, puts, xApp, xAug, xIce, xUn, s1, s2, sA0, sA1, sCall, sCallL, sCallM, sCallS, sCallSL, sB, sAndT, sOrT, sNotT, sAnd, sOr, sIf, sTup, sLst, sFz, sV, sC, sChain, sLenO, sIxO, sCmpO, sPop, sSl, sRevO, sRevD, rNil, rF, rL, rLL, addR, subR, fdivR, modR, ltR, leR, gtR, geR, isNR, notNR, isNone, len_t, len_l, absR, intR, minR, tupleR, isiR, subTy, tyD, revTR, negR, gN, gT, gCns, Fw.gNil, oN, oS, lstOf, setLst, ice, noAl, sYes, wipeE, idle, put_c0, put_c1, put_c2, put_c3, put_c4, put_c5, put_c6, put_c7, put_c8, put_c9, put_c10, put_c11, put_c12, put_c13, put_c14, put_c15, put_c16, put_c17, put_c18, put_c19, put_c20, put_c21, put_c22, put_c23], _, inferInstance, rfl⟩) (δ := [.fz (rowD rows), .un]) ⟨.un, inferInstance, rfl⟩
  obtain ⟨δ', f1, u, fu, rfl⟩ := hF
  obtain ⟨r0, hr0⟩ : ∃ r, rows[0]? = some r := ⟨rows[0]'(by have := h.one; omega), List.getElem?_eq_getElem _⟩
  have i0 : ixR (rowD rows) (.int 0) = some (.tuple [.int r0.1, .tuple [.int r0.2]]) := by
    unfold rowD
    exact ix_tup (k := 0) (by rw [List.getElem?_map, hr0]; rfl)
  have hL := sLc_map (vs := [1]) (it := wIx (sV 0)) (p := gN 1) (e := s2 eqR (sCall lenR (sA1 (s2 ixR (sV 1) (sC (.int 1))) sA0)) (sCall lenR (sA1 (s2 ixR (s2 ixR (sV 0) (sC (.int 0))) (sC (.int 1))) sA0))) (δ0 := [.fz (rowD rows), u]) (δ1 := [.fz (rowD rows), u])
    (as := rows) (enc := fun r => .tuple [.int r.1, .tuple [.int r.2]]) (fun _ => .bool true) (by simp [rowD, xRet, xRetL, xSeq, xSet, xSetL, xIf, xDrop, xAsg, xNil, xNo, xPar, puts, xApp, xAug, xIce, xUn, s1, s2, sA0, sA1, sCall, sCallL, sCallM, sCallS, sCallSL, sB, sAndT, sOrT, sNotT, sAnd, sOr, sIf, sTup, sLst, sFz, sV, sC, sChain, sLenO, sIxO, sCmpO, sPop, sSl, sRevO, sRevD, rNil, rF, rL, rLL, addR, subR, fdivR, modR, ltR, leR, gtR, geR, isNR, notNR, isNone, len_t, len_l, absR, intR, minR, tupleR, isiR, subTy, tyD, revTR, negR, gN, gT, gCns, Fw.gNil, oN, oS, lstOf, setLst, ice, noAl, sYes, wipeE, idle, put_c0, put_c1, put_c2, put_c3, put_c4, put_c5, put_c6, put_c7, put_c8, put_c9, put_c10, put_c11, put_c12, put_c13, put_c14, put_c15, put_c16, put_c17, put_c18, put_c19, put_c20, put_c21, put_c22, put_c23, wIx, itD]) (by rcases fu.ok with rfl | ⟨d, rfl⟩ <;> rfl) (fun a m => ⟨[.fz (rowD rows), .fz (.tuple [.int a.1, .tuple [.int a.2]])], by simp [xRet, xRetL, xSeq, xSet, xSetL, xIf, xDrop, xAsg, xNil, xNo, xPar, puts, xApp, xAug, xIce, xUn, s1, s2, sA0, sA1, sCall, sCallL, sCallM, sCallS, sCallSL, sB, sAndT, sOrT, sNotT, sAnd, sOr, sIf, sTup, sLst, sFz, sV, sC, sChain, sLenO, sIxO, sCmpO, sPop, sSl, sRevO, sRevD, rNil, rF, rL, rLL, addR, subR, fdivR, modR, ltR, leR, gtR, geR, isNR, notNR, isNone, len_t, len_l, absR, intR, minR, tupleR, isiR, subTy, tyD, revTR, negR, gN, gT, gCns, Fw.gNil, oN, oS, lstOf, setLst, ice, noAl, sYes, wipeE, idle, put_c0, put_c1, put_c2, put_c3, put_c4, put_c5, put_c6, put_c7, put_c8, put_c9, put_c10, put_c11, put_c12, put_c13, put_c14, put_c15, put_c16, put_c17, put_c18, put_c19, put_c20, put_c21, put_c22, put_c23], by simp [i0, ix_t1, eq_int, xRet, xRetL, xSeq, xSet, xSetL, xIf, xDrop, xAsg, xNil, xNo, xPar, puts, xApp, xAug, xIce, xUn, s1, s2, sA0, sA1, sCall, sCallL, sCallM, sCallS, sCallSL, sB, sAndT, sOrT, sNotT, sAnd, sOr, sIf, sTup, sLst, sFz, sV, sC, sChain, sLenO, sIxO, sCmpO, sPop, sSl, sRevO, sRevD, rNil, rF, rL, rLL, addR, subR, fdivR, modR, ltR, leR, gtR, geR, isNR, notNR, isNone, len_t, len_l, absR, intR, minR, tupleR, isiR, subTy, tyD, revTR, negR, gN, gT, gCns, Fw.gNil, oN, oS, lstOf, setLst, ice, noAl, sYes, wipeE, idle, put_c0, put_c1, put_c2, put_c3, put_c4, put_c5, put_c6, put_c7, put_c8, put_c9, put_c10, put_c11, put_c12, put_c13, put_c14, put_c15, put_c16, put_c17, put_c18, put_c19, put_c20, put_c21, put_c22, put_c23], by simp [xRet, xRetL, xSeq, xSet, xSetL, xIf, xDrop, xAsg, xNil, xNo, xPar, puts, xApp, xAug, xIce, xUn, s1, s2, sA0, sA1, sCall, sCallL, sCallM, sCallS, sCallSL, sB, sAndT, sOrT, sNotT, sAnd, sOr, sIf, sTup, sLst, sFz, sV, sC, sChain, sLenO, sIxO, sCmpO, sPop, sSl, sRevO, sRevD, rNil, rF, rL, rLL, addR, subR, fdivR, modR, ltR, leR, gtR, geR, isNR, notNR, isNone, len_t, len_l, absR, intR, minR, tupleR, isiR, subTy, tyD, revTR, negR, gN, gT, gCns, Fw.gNil, oN, oS, lstOf, setLst, ice, noAl, sYes, wipeE, idle, put_c0, put_c1, put_c2, put_c3, put_c4, put_c5, put_c6, put_c7, put_c8, put_c9, put_c10, put_c11, put_c12, put_c13, put_c14, put_c15, put_c16, put_c17, put_c18, put_c19, put_c20, put_c21, put_c22, put_c23]⟩)
  have hA := allR_yes (as := rows) (b := fun _ => true) (fun _ _ => rfl)
  have hI : wIx (sV 0) [.fz (rowD rows), .un] = some (rows.map fun r => .tuple [.int r.1, .tuple [.int r.2]], [.fz (rowD rows), .un]) := by simp [rowD, xRet, xRetL, xSeq, xSet, xSetL, xIf, xDrop, xAsg, xNil, xNo, xPar, puts, xApp, xAug, xIce, xUn, s1, s2, sA0, sA1, sCall, sCallL, sCallM, sCallS, sCallSL, sB, sAndT, sOrT, sNotT, sAnd, sOr, sIf, sTup, sLst, sFz, sV, sC, sChain, sLenO, sIxO, sCmpO, sPop, sSl, sRevO, sRevD, rNil, rF, rL, rLL, addR, subR, fdivR, modR, ltR, leR, gtR, geR, isNR, notNR, isNone, len_t, len_l, absR, intR, minR, tupleR, isiR, subTy, tyD, revTR, negR, gN, gT, gCns, Fw.gNil, oN, oS, lstOf, setLst, ice, noAl, sYes, wipeE, idle, put_c0, put_c1, put_c2, put_c3, put_c4, put_c5, put_c6, put_c7, put_c8, put_c9, put_c10, put_c11, put_c12, put_c13, put_c14, put_c15, put_c16, put_c17, put_c18, put_c19, put_c20, put_c21, put_c22, put_c23, wIx, itD]
  have hT' : d_is_tuple [rowD rows, .int 1, .int 4] = some (.bool true) := hT
  simp only [d_is_row, denF, denM, denS, denSL, uns, List.replicate, List.length_cons, List.length_nil, List.map_cons, List.map_nil, List.cons_append, List.nil_append, if_true, Nat.zero_add, Nat.reduceAdd, reduceIte]
  simp [i_is_row, xFor, hT', hI, f1, hL, hA, xRet, xRetL, xSeq, xSet, xSetL, xIf, xDrop, xAsg, xNil, xNo, xPar, puts, xApp, xAug, xIce, xUn, s1, s2, sA0, sA1, sCall, sCallL, sCallM, sCallS, sCallSL, sB, sAndT, sOrT, sNotT, sAnd, sOr, sIf, sTup, sLst, sFz, sV, sC, sChain, sLenO, sIxO, sCmpO, sPop, sSl, sRevO, sRevD, rNil, rF, rL, rLL, addR, subR, fdivR, modR, ltR, leR, gtR, geR, isNR, notNR, isNone, len_t, len_l, absR, intR, minR, tupleR, isiR, subTy, tyD, revTR, negR, gN, gT, gCns, Fw.gNil, oN, oS, lstOf, setLst, ice, noAl, sYes, wipeE, idle, put_c0, put_c1, put_c2, put_c3, put_c4, put_c5, put_c6, put_c7, put_c8, put_c9, put_c10, put_c11, put_c12, put_c13, put_c14, put_c15, put_c16, put_c17, put_c18, put_c19, put_c20, put_c21, put_c22, put_c23]
theorem need_row_ok {rows : List Rw} (h : RowOk rows) : d_need_row [rowD rows] = some .none := by
  simp only [d_need_row, denF, denM, denS, denSL, uns, List.replicate, List.length_cons, List.length_nil, List.map_cons, List.map_nil, List.cons_append, List.nil_append, if_true, Nat.zero_add, Nat.reduceAdd, reduceIte]
  simp [i_need_row, is_row_ok h, xRet, xRetL, xSeq, xSet, xSetL, xIf, xDrop, xAsg, xNil, xNo, xPar, puts, xApp, xAug, xIce, xUn, s1, s2, sA0, sA1, sCall, sCallL, sCallM, sCallS, sCallSL, sB, sAndT, sOrT, sNotT, sAnd, sOr, sIf, sTup, sLst, sFz, sV, sC, sChain, sLenO, sIxO, sCmpO, sPop, sSl, sRevO, sRevD, rNil, rF, rL, rLL, addR, subR, fdivR, modR, ltR, leR, gtR, geR, isNR, notNR, isNone, len_t, len_l, absR, intR, minR, tupleR, isiR, subTy, tyD, revTR, negR, gN, gT, gCns, Fw.gNil, oN, oS, lstOf, setLst, ice, noAl, sYes, wipeE, idle, put_c0, put_c1, put_c2, put_c3, put_c4, put_c5, put_c6, put_c7, put_c8, put_c9, put_c10, put_c11, put_c12, put_c13, put_c14, put_c15, put_c16, put_c17, put_c18, put_c19, put_c20, put_c21, put_c22, put_c23]
theorem is_stair_ok {n : Int} {k : Nat} {r : Rw} (h1 : 1 ≤ r.1) (h2 : r.1 ≤ 6) (h3 : 1 ≤ r.2) (h4 : r.2 ≤ 9) (hk : (k : Int) + 1 < n) : d_is_stair [.int n, stD k r] = some (.bool true) := by
  have hT : d_is_tuple [stD k r, .int 4, .int 4] = some (.bool true) := is_tuple_ok (ds := [.int k, .int (k + 1), .int r.1, .int r.2]) (lo := 4) (hi := 4) (by simp) (by simp)
  have hL := sLc_map (vs := [2]) (it := wIx (sV 1)) (p := gN 2) (e := sCall d_is_integer (sA1 (sV 2) sA0)) (δ0 := [.fz (.int n), .fz (stD k r), .un, .un, .un, .un, .un]) (δ1 := [.fz (.int n), .fz (stD k r), .un, .un, .un, .un, .un]) (as := [(k : Int), (k : Int) + 1, r.1, r.2]) (enc := .int) (fun _ => .bool true) (by simp [stD, xRet, xRetL, xSeq, xSet, xSetL, xIf, xDrop, xAsg, xNil, xNo, xPar, puts, xApp, xAug, xIce, xUn, s1, s2, sA0, sA1, sCall, sCallL, sCallM, sCallS, sCallSL, sB, sAndT, sOrT, sNotT, sAnd, sOr, sIf, sTup, sLst, sFz, sV, sC, sChain, sLenO, sIxO, sCmpO, sPop, sSl, sRevO, sRevD, rNil, rF, rL, rLL, addR, subR, fdivR, modR, ltR, leR, gtR, geR, isNR, notNR, isNone, len_t, len_l, absR, intR, minR, tupleR, isiR, subTy, tyD, revTR, negR, gN, gT, gCns, Fw.gNil, oN, oS, lstOf, setLst, ice, noAl, sYes, wipeE, idle, put_c0, put_c1, put_c2, put_c3, put_c4, put_c5, put_c6, put_c7, put_c8, put_c9, put_c10, put_c11, put_c12, put_c13, put_c14, put_c15, put_c16, put_c17, put_c18, put_c19, put_c20, put_c21, put_c22, put_c23, wIx, itD]) rfl
    (fun a m => ⟨[.fz (.int n), .fz (stD k r), .fz (.int a), .un, .un, .un, .un], by simp [xRet, xRetL, xSeq, xSet, xSetL, xIf, xDrop, xAsg, xNil, xNo, xPar, puts, xApp, xAug, xIce, xUn, s1, s2, sA0, sA1, sCall, sCallL, sCallM, sCallS, sCallSL, sB, sAndT, sOrT, sNotT, sAnd, sOr, sIf, sTup, sLst, sFz, sV, sC, sChain, sLenO, sIxO, sCmpO, sPop, sSl, sRevO, sRevD, rNil, rF, rL, rLL, addR, subR, fdivR, modR, ltR, leR, gtR, geR, isNR, notNR, isNone, len_t, len_l, absR, intR, minR, tupleR, isiR, subTy, tyD, revTR, negR, gN, gT, gCns, Fw.gNil, oN, oS, lstOf, setLst, ice, noAl, sYes, wipeE, idle, put_c0, put_c1, put_c2, put_c3, put_c4, put_c5, put_c6, put_c7, put_c8, put_c9, put_c10, put_c11, put_c12, put_c13, put_c14, put_c15, put_c16, put_c17, put_c18, put_c19, put_c20, put_c21, put_c22, put_c23], by simp [is_integer_int, xRet, xRetL, xSeq, xSet, xSetL, xIf, xDrop, xAsg, xNil, xNo, xPar, puts, xApp, xAug, xIce, xUn, s1, s2, sA0, sA1, sCall, sCallL, sCallM, sCallS, sCallSL, sB, sAndT, sOrT, sNotT, sAnd, sOr, sIf, sTup, sLst, sFz, sV, sC, sChain, sLenO, sIxO, sCmpO, sPop, sSl, sRevO, sRevD, rNil, rF, rL, rLL, addR, subR, fdivR, modR, ltR, leR, gtR, geR, isNR, notNR, isNone, len_t, len_l, absR, intR, minR, tupleR, isiR, subTy, tyD, revTR, negR, gN, gT, gCns, Fw.gNil, oN, oS, lstOf, setLst, ice, noAl, sYes, wipeE, idle, put_c0, put_c1, put_c2, put_c3, put_c4, put_c5, put_c6, put_c7, put_c8, put_c9, put_c10, put_c11, put_c12, put_c13, put_c14, put_c15, put_c16, put_c17, put_c18, put_c19, put_c20, put_c21, put_c22, put_c23], by simp [xRet, xRetL, xSeq, xSet, xSetL, xIf, xDrop, xAsg, xNil, xNo, xPar, puts, xApp, xAug, xIce, xUn, s1, s2, sA0, sA1, sCall, sCallL, sCallM, sCallS, sCallSL, sB, sAndT, sOrT, sNotT, sAnd, sOr, sIf, sTup, sLst, sFz, sV, sC, sChain, sLenO, sIxO, sCmpO, sPop, sSl, sRevO, sRevD, rNil, rF, rL, rLL, addR, subR, fdivR, modR, ltR, leR, gtR, geR, isNR, notNR, isNone, len_t, len_l, absR, intR, minR, tupleR, isiR, subTy, tyD, revTR, negR, gN, gT, gCns, Fw.gNil, oN, oS, lstOf, setLst, ice, noAl, sYes, wipeE, idle, put_c0, put_c1, put_c2, put_c3, put_c4, put_c5, put_c6, put_c7, put_c8, put_c9, put_c10, put_c11, put_c12, put_c13, put_c14, put_c15, put_c16, put_c17, put_c18, put_c19, put_c20, put_c21, put_c22, put_c23]⟩)
  have hA := allR_yes (as := [(k : Int), (k : Int) + 1, r.1, r.2]) (b := fun _ => true) (fun _ _ => rfl)
  have b1 := is_between_ok (v := k) (lo := 0) (hi := n - 1) (by omega) (by omega)
  have b2 := is_between_ok (v := (k : Int) + 1) (lo := 0) (hi := n - 1) (by omega) (by omega)
  have b3 := is_between_ok h1 h2
  have b4 := is_between_ok h3 h4
  have ne : ((k : Int) == (k : Int) + 1) = false := by simp; omega
  have hA' : allR [.list [.bool true, .bool true, .bool true, .bool true]] = some (.bool true) := hA
  simp only [List.map_cons, List.map_nil] at hL
  have hG : gT 4 (gCns (gN 3) (gCns (gN 4) (gCns (gN 5) (gCns (gN 6) Fw.gNil)))) (stD k r) [.fz (.int n), .fz (stD k r), .un, .un, .un, .un, .un] = some [.fz (.int n), .fz (stD k r), .un, .fz (.int k), .fz (.int (k + 1)), .fz (.int r.1), .fz (.int r.2)] := by simp [stD, xRet, xRetL, xSeq, xSet, xSetL, xIf, xDrop, xAsg, xNil, xNo, xPar, puts, xApp, xAug, xIce, xUn, s1, s2, sA0, sA1, sCall, sCallL, sCallM, sCallS, sCallSL, sB, sAndT, sOrT, sNotT, sAnd, sOr, sIf, sTup, sLst, sFz, sV, sC, sChain, sLenO, sIxO, sCmpO, sPop, sSl, sRevO, sRevD, rNil, rF, rL, rLL, addR, subR, fdivR, modR, ltR, leR, gtR, geR, isNR, notNR, isNone, len_t, len_l, absR, intR, minR, tupleR, isiR, subTy, tyD, revTR, negR, gN, gT, gCns, Fw.gNil, oN, oS, lstOf, setLst, ice, noAl, sYes, wipeE, idle, put_c0, put_c1, put_c2, put_c3, put_c4, put_c5, put_c6, put_c7, put_c8, put_c9, put_c10, put_c11, put_c12, put_c13, put_c14, put_c15, put_c16, put_c17, put_c18, put_c19, put_c20, put_c21, put_c22, put_c23]
  simp only [d_is_stair, denF, denM, denS, denSL, uns, List.replicate, List.length_cons, List.length_nil, List.map_cons, List.map_nil, List.cons_append, List.nil_append, if_true, Nat.zero_add, Nat.reduceAdd, reduceIte]
  simp [i_is_stair, xSeq, xIf, xAsg, hT, hL, hA', hG, sOrT, sNotT, sB, sCall, sA1, sA0, sV, sC, sFz, xNil, xRet, s2, subR, b1, b2, b3, b4, eq_int, ne, sAnd]
theorem stsD_get : ∀ {rows : List Rw} {k i : Nat} {r : Rw}, rows[i]? = some r → (stsD k rows)[i]? = some (stD (k + i) r)
  | [], _, _, _, h => by simp at h
  | q :: rows, k, 0, r, h => by
    have : q = r := Option.some.inj h
    subst this; rfl
  | q :: rows, k, i + 1, r, h => by
    have := stsD_get (rows := rows) (k := k + 1) (i := i) (r := r) (by simpa using h)
    rw [show k + 1 + i = k + (i + 1) by omega] at this
    simpa [stsD] using this
theorem stsD_len : ∀ (rows : List Rw) (k : Nat), (stsD k rows).length = rows.length
  | [], _ => rfl
  | r :: rows, k => by show (stsD (k + 1) rows).length + 1 = _; rw [stsD_len rows]; rfl
/-- the stairs as typed items -/
def stI (rows : List Rw) : List (Nat × Rw) := (List.range rows.length).zip rows
theorem stsD_map (rows : List Rw) : stsD 0 rows = (stI rows).map fun p => stD p.1 p.2 := by
  apply List.ext_getElem?
  intro i
  cases q : rows[i]? with
  | none =>
    have h := List.getElem?_eq_none_iff.mp q
    rw [List.getElem?_eq_none (by rw [stsD_len]; exact h), List.getElem?_eq_none (by unfold stI; simp; omega)]
  | some r =>
    have h := (List.getElem?_eq_some_iff.mp q).1
    rw [stsD_get q, List.getElem?_map]
    unfold stI
    rw [List.getElem?_zip_eq_some (z := (i, r)) |>.mpr ⟨List.getElem?_range h, q⟩]
    simp
theorem stI_mem {rows : List Rw} {p : Nat × Rw} (h : p ∈ stI rows) : p.1 < rows.length ∧ p.2 ∈ rows := by
  have := List.of_mem_zip h
  exact ⟨List.mem_range.mp this.1, this.2⟩
theorem is_hall_ok {rows : List Rw} (h : RowOk rows) : d_is_hall [hallD rows] = some (.bool true) := by
  have h2 : d_is_tuple [hallD rows, .int 2, .int 2] = some (.bool true) := is_tuple_ok (ds := [.int ((rows.length : Int) + 1), .tuple (stsD 0 rows)]) (lo := 2) (hi := 2) (by simp) (by simp)
  have h0 : ixR (hallD rows) (.int 0) = some (.int ((rows.length : Int) + 1)) := ix_t0
  have h1 : ixR (hallD rows) (.int 1) = some (.tuple (stsD 0 rows)) := ix_t1
  have b0 := is_between_ok (v := ((rows.length : Int) + 1)) (lo := 1) (hi := 8) (by have := h.one; omega) (by have := h.few; omega)
  have h3 : d_is_tuple [.tuple (stsD 0 rows), .int 0, .int 16] = some (.bool true) := is_tuple_ok (ds := stsD 0 rows) (lo := 0) (hi := 16) (Int.natCast_nonneg _) (by rw [stsD_len]; have := h.few; omega)
  have hL := sLc_map (vs := [1]) (it := wIx (s2 ixR (sV 0) (sC (.int 1)))) (p := gN 1) (e := sCall d_is_stair (sA1 (s2 ixR (sV 0) (sC (.int 0))) (sA1 (sV 1) sA0))) (δ0 := [.fz (hallD rows), .un]) (δ1 := [.fz (hallD rows), .un]) (as := stI rows) (enc := fun p => stD p.1 p.2) (fun _ => .bool true)
    (by simp [h1, stsD_map, xRet, xRetL, xSeq, xSet, xSetL, xIf, xDrop, xAsg, xNil, xNo, xPar, puts, xApp, xAug, xIce, xUn, s1, s2, sA0, sA1, sCall, sCallL, sCallM, sCallS, sCallSL, sB, sAndT, sOrT, sNotT, sAnd, sOr, sIf, sTup, sLst, sFz, sV, sC, sChain, sLenO, sIxO, sCmpO, sPop, sSl, sRevO, sRevD, rNil, rF, rL, rLL, addR, subR, fdivR, modR, ltR, leR, gtR, geR, isNR, notNR, isNone, len_t, len_l, absR, intR, minR, tupleR, isiR, subTy, tyD, revTR, negR, gN, gT, gCns, Fw.gNil, oN, oS, lstOf, setLst, ice, noAl, sYes, wipeE, idle, put_c0, put_c1, put_c2, put_c3, put_c4, put_c5, put_c6, put_c7, put_c8, put_c9, put_c10, put_c11, put_c12, put_c13, put_c14, put_c15, put_c16, put_c17, put_c18, put_c19, put_c20, put_c21, put_c22, put_c23, wIx, itD]) rfl (fun p m => ⟨[.fz (hallD rows), .fz (stD p.1 p.2)], by simp [xRet, xRetL, xSeq, xSet, xSetL, xIf, xDrop, xAsg, xNil, xNo, xPar, puts, xApp, xAug, xIce, xUn, s1, s2, sA0, sA1, sCall, sCallL, sCallM, sCallS, sCallSL, sB, sAndT, sOrT, sNotT, sAnd, sOr, sIf, sTup, sLst, sFz, sV, sC, sChain, sLenO, sIxO, sCmpO, sPop, sSl, sRevO, sRevD, rNil, rF, rL, rLL, addR, subR, fdivR, modR, ltR, leR, gtR, geR, isNR, notNR, isNone, len_t, len_l, absR, intR, minR, tupleR, isiR, subTy, tyD, revTR, negR, gN, gT, gCns, Fw.gNil, oN, oS, lstOf, setLst, ice, noAl, sYes, wipeE, idle, put_c0, put_c1, put_c2, put_c3, put_c4, put_c5, put_c6, put_c7, put_c8, put_c9, put_c10, put_c11, put_c12, put_c13, put_c14, put_c15, put_c16, put_c17, put_c18, put_c19, put_c20, put_c21, put_c22, put_c23], by
      have hm := stI_mem m
      have hr := h.ok _ hm.2
      have := is_stair_ok (n := (rows.length : Int) + 1) (k := p.1) (r := p.2) hr.1 hr.2.1 hr.2.2.1 (by omega) (by omega)
      simp [h0, this, xRet, xRetL, xSeq, xSet, xSetL, xIf, xDrop, xAsg, xNil, xNo, xPar, puts, xApp, xAug, xIce, xUn, s1, s2, sA0, sA1, sCall, sCallL, sCallM, sCallS, sCallSL, sB, sAndT, sOrT, sNotT, sAnd, sOr, sIf, sTup, sLst, sFz, sV, sC, sChain, sLenO, sIxO, sCmpO, sPop, sSl, sRevO, sRevD, rNil, rF, rL, rLL, addR, subR, fdivR, modR, ltR, leR, gtR, geR, isNR, notNR, isNone, len_t, len_l, absR, intR, minR, tupleR, isiR, subTy, tyD, revTR, negR, gN, gT, gCns, Fw.gNil, oN, oS, lstOf, setLst, ice, noAl, sYes, wipeE, idle, put_c0, put_c1, put_c2, put_c3, put_c4, put_c5, put_c6, put_c7, put_c8, put_c9, put_c10, put_c11, put_c12, put_c13, put_c14, put_c15, put_c16, put_c17, put_c18, put_c19, put_c20, put_c21, put_c22, put_c23], by simp [xRet, xRetL, xSeq, xSet, xSetL, xIf, xDrop, xAsg, xNil, xNo, xPar, puts, xApp, xAug, xIce, xUn, s1, s2, sA0, sA1, sCall, sCallL, sCallM, sCallS, sCallSL, sB, sAndT, sOrT, sNotT, sAnd, sOr, sIf, sTup, sLst, sFz, sV, sC, sChain, sLenO, sIxO, sCmpO, sPop, sSl, sRevO, sRevD, rNil, rF, rL, rLL, addR, subR, fdivR, modR, ltR, leR, gtR, geR, isNR, notNR, isNone, len_t, len_l, absR, intR, minR, tupleR, isiR, subTy, tyD, revTR, negR, gN, gT, gCns, Fw.gNil, oN, oS, lstOf, setLst, ice, noAl, sYes, wipeE, idle, put_c0, put_c1, put_c2, put_c3, put_c4, put_c5, put_c6, put_c7, put_c8, put_c9, put_c10, put_c11, put_c12, put_c13, put_c14, put_c15, put_c16, put_c17, put_c18, put_c19, put_c20, put_c21, put_c22, put_c23]⟩)
  have hA := allR_yes (as := stI rows) (b := fun _ => true) (fun _ _ => rfl)
  simp only [d_is_hall, denF, denM, denS, denSL, uns, List.replicate, List.length_cons, List.length_nil, List.map_cons, List.map_nil, List.cons_append, List.nil_append, if_true, Nat.zero_add, Nat.reduceAdd, reduceIte]
  simp [i_is_hall, h2, h0, h1, b0, h3, hL, hA, xRet, xRetL, xSeq, xSet, xSetL, xIf, xDrop, xAsg, xNil, xNo, xPar, puts, xApp, xAug, xIce, xUn, s1, s2, sA0, sA1, sCall, sCallL, sCallM, sCallS, sCallSL, sB, sAndT, sOrT, sNotT, sAnd, sOr, sIf, sTup, sLst, sFz, sV, sC, sChain, sLenO, sIxO, sCmpO, sPop, sSl, sRevO, sRevD, rNil, rF, rL, rLL, addR, subR, fdivR, modR, ltR, leR, gtR, geR, isNR, notNR, isNone, len_t, len_l, absR, intR, minR, tupleR, isiR, subTy, tyD, revTR, negR, gN, gT, gCns, Fw.gNil, oN, oS, lstOf, setLst, ice, noAl, sYes, wipeE, idle, put_c0, put_c1, put_c2, put_c3, put_c4, put_c5, put_c6, put_c7, put_c8, put_c9, put_c10, put_c11, put_c12, put_c13, put_c14, put_c15, put_c16, put_c17, put_c18, put_c19, put_c20, put_c21, put_c22, put_c23]

theorem need_hall_ok {rows : List Rw} (h : RowOk rows) : d_need_hall [hallD rows] = some .none := by
  simp only [d_need_hall, denF, denM, denS, denSL, uns, List.replicate, List.length_cons, List.length_nil, List.map_cons, List.map_nil, List.cons_append, List.nil_append, if_true, Nat.zero_add, Nat.reduceAdd, reduceIte]
  simp [i_need_hall, is_hall_ok h, xRet, xRetL, xSeq, xSet, xSetL, xIf, xDrop, xAsg, xNil, xNo, xPar, puts, xApp, xAug, xIce, xUn, s1, s2, sA0, sA1, sCall, sCallL, sCallM, sCallS, sCallSL, sB, sAndT, sOrT, sNotT, sAnd, sOr, sIf, sTup, sLst, sFz, sV, sC, sChain, sLenO, sIxO, sCmpO, sPop, sSl, sRevO, sRevD, rNil, rF, rL, rLL, addR, subR, fdivR, modR, ltR, leR, gtR, geR, isNR, notNR, isNone, len_t, len_l, absR, intR, minR, tupleR, isiR, subTy, tyD, revTR, negR, gN, gT, gCns, Fw.gNil, oN, oS, lstOf, setLst, ice, noAl, sYes, wipeE, idle, put_c0, put_c1, put_c2, put_c3, put_c4, put_c5, put_c6, put_c7, put_c8, put_c9, put_c10, put_c11, put_c12, put_c13, put_c14, put_c15, put_c16, put_c17, put_c18, put_c19, put_c20, put_c21, put_c22, put_c23]
theorem rt_len (m : Nat) : (rt m).length = m := by simp [rt]
theorem rt_get {m k : Nat} (h : k < m) : (rt m)[k]? = some (k : Int) := by unfold rt; rw [List.getElem?_map, List.getElem?_range h]; rfl
theorem rt_nodup (m : Nat) : (rt m).Nodup := by
  unfold rt
  refine List.pairwise_map.mpr ((List.nodup_range (n := m)).imp fun h => ?_)
  omega
theorem rt_mem {m : Nat} {i : Int} (h : i ∈ rt m) : ∃ k : Nat, k < m ∧ i = k := by
  obtain ⟨k, hk, rfl⟩ := List.mem_map.mp h
  exact ⟨k, List.mem_range.mp hk, rfl⟩
theorem zip_rt {m : Nat} {p : Int × Int} (h : p ∈ (rt m).zip (rt m).tail) : ∃ k : Nat, k + 1 < m ∧ p = ((k : Int), (k : Int) + 1) := by
  obtain ⟨i, hi, e⟩ := List.getElem_of_mem h
  rw [List.getElem_zip] at e
  have h0 : i < m - 1 := by simpa [rt_len] using hi
  refine ⟨i, by omega, ?_⟩
  have e1 : (rt m)[i]? = some (i : Int) := rt_get (by omega)
  have e2 : (rt m)[i + 1]? = some ((i + 1 : Nat) : Int) := rt_get (by omega)
  rw [List.getElem?_eq_getElem (by rw [rt_len]; omega)] at e1 e2
  rw [← e, List.getElem_tail, Option.some.inj e1, Option.some.inj e2]
  simp
theorem lenSet_ok {ns : List Int} (h : ns.Nodup) (hl : ns.length < 4000) : lenSetR (.tuple (dI ns)) = some (.int ns.length) := by
  unfold lenSetR dI
  simp only [intsD_map]
  rw [if_pos ⟨h, hl⟩]
theorem st_at {rows : List Rw} {k : Nat} (h : k < rows.length) : ∃ r, rows[k]? = some r ∧ ixR (.tuple (stsD 0 rows)) (.int (k : Nat)) = some (stD k r) := by
  refine ⟨rows[k], List.getElem?_eq_getElem h, ix_tup ?_⟩
  have := stsD_get (k := 0) (List.getElem?_eq_getElem h)
  simpa using this
theorem is_this_route_ok {rows : List Rw} (h : RowOk rows) : d_is_this_route [hallD rows, routeD rows.length] = some (.bool true) := by
  have h1 : ixR (hallD rows) (.int 1) = some (.tuple (stsD 0 rows)) := ix_t1
  have hl : ((stsD 0 rows).length : Int) = rows.length := by rw [stsD_len]
  have one := h.one
  have few := h.few
  have ht : d_is_tuple [routeD rows.length, .int 1, .int 7] = some (.bool true) := is_tuple_ok (ds := dI (rt rows.length)) (lo := 1) (hi := 7) (by unfold dI; rw [List.length_map, rt_len]; omega) (by unfold dI; rw [List.length_map, rt_len]; omega)
  have hL := sLc_map (vs := [2]) (it := wIx (sV 1)) (p := gN 2) (e := sCall d_is_between (sA1 (sV 2) (sA1 (sC (.int 0)) (sA1 (s2 subR (sCall lenR (sA1 (s2 ixR (sV 0) (sC (.int 1))) sA0)) (sC (.int 1))) sA0)))) (δ0 := [.fz (hallD rows), .fz (routeD rows.length), .un, .un, .un])
    (δ1 := [.fz (hallD rows), .fz (routeD rows.length), .un, .un, .un]) (as := rt rows.length) (enc := .int) (fun _ => .bool true) (by simp [routeD, dI, xRet, xRetL, xSeq, xSet, xSetL, xIf, xDrop, xAsg, xNil, xNo, xPar, puts, xApp, xAug, xIce, xUn, s1, s2, sA0, sA1, sCall, sCallL, sCallM, sCallS, sCallSL, sB, sAndT, sOrT, sNotT, sAnd, sOr, sIf, sTup, sLst, sFz, sV, sC, sChain, sLenO, sIxO, sCmpO, sPop, sSl, sRevO, sRevD, rNil, rF, rL, rLL, addR, subR, fdivR, modR, ltR, leR, gtR, geR, isNR, notNR, isNone, len_t, len_l, absR, intR, minR, tupleR, isiR, subTy, tyD, revTR, negR, gN, gT, gCns, Fw.gNil, oN, oS, lstOf, setLst, ice, noAl, sYes, wipeE, idle, put_c0, put_c1, put_c2, put_c3, put_c4, put_c5, put_c6, put_c7, put_c8, put_c9, put_c10, put_c11, put_c12, put_c13, put_c14, put_c15, put_c16, put_c17, put_c18, put_c19, put_c20, put_c21, put_c22, put_c23, wIx, itD]) rfl (fun a m => ⟨[.fz (hallD rows), .fz (routeD rows.length), .fz (.int a), .un, .un], by simp [xRet, xRetL, xSeq, xSet, xSetL, xIf, xDrop, xAsg, xNil, xNo, xPar, puts, xApp, xAug, xIce, xUn, s1, s2, sA0, sA1, sCall, sCallL, sCallM, sCallS, sCallSL, sB, sAndT, sOrT, sNotT, sAnd, sOr, sIf, sTup, sLst, sFz, sV, sC, sChain, sLenO, sIxO, sCmpO, sPop, sSl, sRevO, sRevD, rNil, rF, rL, rLL, addR, subR, fdivR, modR, ltR, leR, gtR, geR, isNR, notNR, isNone, len_t, len_l, absR, intR, minR, tupleR, isiR, subTy, tyD, revTR, negR, gN, gT, gCns, Fw.gNil, oN, oS, lstOf, setLst, ice, noAl, sYes, wipeE, idle, put_c0, put_c1, put_c2, put_c3, put_c4, put_c5, put_c6, put_c7, put_c8, put_c9, put_c10, put_c11, put_c12, put_c13, put_c14, put_c15, put_c16, put_c17, put_c18, put_c19, put_c20, put_c21, put_c22, put_c23], by
      obtain ⟨k, hk, rfl⟩ := rt_mem m
      have := is_between_ok (v := k) (lo := 0) (hi := (rows.length : Int) - 1) (by omega) (by omega)
      simp [h1, hl, this, xRet, xRetL, xSeq, xSet, xSetL, xIf, xDrop, xAsg, xNil, xNo, xPar, puts, xApp, xAug, xIce, xUn, s1, s2, sA0, sA1, sCall, sCallL, sCallM, sCallS, sCallSL, sB, sAndT, sOrT, sNotT, sAnd, sOr, sIf, sTup, sLst, sFz, sV, sC, sChain, sLenO, sIxO, sCmpO, sPop, sSl, sRevO, sRevD, rNil, rF, rL, rLL, addR, subR, fdivR, modR, ltR, leR, gtR, geR, isNR, notNR, isNone, len_t, len_l, absR, intR, minR, tupleR, isiR, subTy, tyD, revTR, negR, gN, gT, gCns, Fw.gNil, oN, oS, lstOf, setLst, ice, noAl, sYes, wipeE, idle, put_c0, put_c1, put_c2, put_c3, put_c4, put_c5, put_c6, put_c7, put_c8, put_c9, put_c10, put_c11, put_c12, put_c13, put_c14, put_c15, put_c16, put_c17, put_c18, put_c19, put_c20, put_c21, put_c22, put_c23], by simp [xRet, xRetL, xSeq, xSet, xSetL, xIf, xDrop, xAsg, xNil, xNo, xPar, puts, xApp, xAug, xIce, xUn, s1, s2, sA0, sA1, sCall, sCallL, sCallM, sCallS, sCallSL, sB, sAndT, sOrT, sNotT, sAnd, sOr, sIf, sTup, sLst, sFz, sV, sC, sChain, sLenO, sIxO, sCmpO, sPop, sSl, sRevO, sRevD, rNil, rF, rL, rLL, addR, subR, fdivR, modR, ltR, leR, gtR, geR, isNR, notNR, isNone, len_t, len_l, absR, intR, minR, tupleR, isiR, subTy, tyD, revTR, negR, gN, gT, gCns, Fw.gNil, oN, oS, lstOf, setLst, ice, noAl, sYes, wipeE, idle, put_c0, put_c1, put_c2, put_c3, put_c4, put_c5, put_c6, put_c7, put_c8, put_c9, put_c10, put_c11, put_c12, put_c13, put_c14, put_c15, put_c16, put_c17, put_c18, put_c19, put_c20, put_c21, put_c22, put_c23]⟩)
  have hA := allR_yes (as := rt rows.length) (b := fun _ => true) (fun _ _ => rfl)
  have hs := lenSet_ok (rt_nodup rows.length) (by rw [rt_len]; omega)
  have hn : lenR [routeD rows.length] = some (.int rows.length) := by unfold routeD; rw [len_t]; unfold dI; rw [List.length_map, rt_len]
  rw [rt_len] at hs
  have hs' : lenSetR (routeD rows.length) = some (.int rows.length) := hs
  have hZ := sLc_map (vs := [3, 4]) (it := wZip (sA1 (sV 1) (sA1 (sSl (sV 1) (oS (sC (.int 1))) oN) sA0))) (p := gT 2 (gCns (gN 3) (gCns (gN 4) Fw.gNil)))
    (e := s2 eqR (s2 ixR (s2 ixR (s2 ixR (sV 0) (sC (.int 1))) (sV 3)) (sC (.int 1))) (s2 ixR (s2 ixR (s2 ixR (sV 0) (sC (.int 1))) (sV 4)) (sC (.int 0)))) (δ0 := [.fz (hallD rows), .fz (routeD rows.length), .un, .un, .un])
    (δ1 := [.fz (hallD rows), .fz (routeD rows.length), .un, .un, .un]) (as := (rt rows.length).zip (rt rows.length).tail) (enc := fun p => .tuple [.int p.1, .int p.2]) (fun _ => .bool true) (by simp [routeD, wZip, ← zip_tail, xRet, xRetL, xSeq, xSet, xSetL, xIf, xDrop, xAsg, xNil, xNo, xPar, puts, xApp, xAug, xIce, xUn, s1, s2, sA0, sA1, sCall, sCallL, sCallM, sCallS, sCallSL, sB, sAndT, sOrT, sNotT, sAnd, sOr, sIf, sTup, sLst, sFz, sV, sC, sChain, sLenO, sIxO, sCmpO, sPop, sSl, sRevO, sRevD, rNil, rF, rL, rLL, addR, subR, fdivR, modR, ltR, leR, gtR, geR, isNR, notNR, isNone, len_t, len_l, absR, intR, minR, tupleR, isiR, subTy, tyD, revTR, negR, gN, gT, gCns, Fw.gNil, oN, oS, lstOf, setLst, ice, noAl, sYes, wipeE, idle, put_c0, put_c1, put_c2, put_c3, put_c4, put_c5, put_c6, put_c7, put_c8, put_c9, put_c10, put_c11, put_c12, put_c13, put_c14, put_c15, put_c16, put_c17, put_c18, put_c19, put_c20, put_c21, put_c22, put_c23, wIx, itD]) rfl
    (fun a m => ⟨[.fz (hallD rows), .fz (routeD rows.length), .un, .fz (.int a.1), .fz (.int a.2)], by simp [xRet, xRetL, xSeq, xSet, xSetL, xIf, xDrop, xAsg, xNil, xNo, xPar, puts, xApp, xAug, xIce, xUn, s1, s2, sA0, sA1, sCall, sCallL, sCallM, sCallS, sCallSL, sB, sAndT, sOrT, sNotT, sAnd, sOr, sIf, sTup, sLst, sFz, sV, sC, sChain, sLenO, sIxO, sCmpO, sPop, sSl, sRevO, sRevD, rNil, rF, rL, rLL, addR, subR, fdivR, modR, ltR, leR, gtR, geR, isNR, notNR, isNone, len_t, len_l, absR, intR, minR, tupleR, isiR, subTy, tyD, revTR, negR, gN, gT, gCns, Fw.gNil, oN, oS, lstOf, setLst, ice, noAl, sYes, wipeE, idle, put_c0, put_c1, put_c2, put_c3, put_c4, put_c5, put_c6, put_c7, put_c8, put_c9, put_c10, put_c11, put_c12, put_c13, put_c14, put_c15, put_c16, put_c17, put_c18, put_c19, put_c20, put_c21, put_c22, put_c23], by
      obtain ⟨k, hk, rfl⟩ := zip_rt m
      obtain ⟨r1, _, e1⟩ := st_at (rows := rows) (k := k) (by omega)
      obtain ⟨r2, _, e2⟩ := st_at (rows := rows) (k := k + 1) (by omega)
      have e2' : ixR (.tuple (stsD 0 rows)) (.int ((k : Int) + 1)) = some (stD (k + 1) r2) := e2
      have f1 : ixR (stD k r1) (.int 1) = some (.int ((k : Int) + 1)) := ix_t1
      have f2 : ixR (stD (k + 1) r2) (.int 0) = some (.int ((k + 1 : Nat) : Int)) := ix_t0
      have f2' : ixR (stD (k + 1) r2) (.int 0) = some (.int ((k : Int) + 1)) := f2
      simp [h1, e1, e2', f1, f2', eq_int, xRet, xRetL, xSeq, xSet, xSetL, xIf, xDrop, xAsg, xNil, xNo, xPar, puts, xApp, xAug, xIce, xUn, s1, s2, sA0, sA1, sCall, sCallL, sCallM, sCallS, sCallSL, sB, sAndT, sOrT, sNotT, sAnd, sOr, sIf, sTup, sLst, sFz, sV, sC, sChain, sLenO, sIxO, sCmpO, sPop, sSl, sRevO, sRevD, rNil, rF, rL, rLL, addR, subR, fdivR, modR, ltR, leR, gtR, geR, isNR, notNR, isNone, len_t, len_l, absR, intR, minR, tupleR, isiR, subTy, tyD, revTR, negR, gN, gT, gCns, Fw.gNil, oN, oS, lstOf, setLst, ice, noAl, sYes, wipeE, idle, put_c0, put_c1, put_c2, put_c3, put_c4, put_c5, put_c6, put_c7, put_c8, put_c9, put_c10, put_c11, put_c12, put_c13, put_c14, put_c15, put_c16, put_c17, put_c18, put_c19, put_c20, put_c21, put_c22, put_c23], by simp [xRet, xRetL, xSeq, xSet, xSetL, xIf, xDrop, xAsg, xNil, xNo, xPar, puts, xApp, xAug, xIce, xUn, s1, s2, sA0, sA1, sCall, sCallL, sCallM, sCallS, sCallSL, sB, sAndT, sOrT, sNotT, sAnd, sOr, sIf, sTup, sLst, sFz, sV, sC, sChain, sLenO, sIxO, sCmpO, sPop, sSl, sRevO, sRevD, rNil, rF, rL, rLL, addR, subR, fdivR, modR, ltR, leR, gtR, geR, isNR, notNR, isNone, len_t, len_l, absR, intR, minR, tupleR, isiR, subTy, tyD, revTR, negR, gN, gT, gCns, Fw.gNil, oN, oS, lstOf, setLst, ice, noAl, sYes, wipeE, idle, put_c0, put_c1, put_c2, put_c3, put_c4, put_c5, put_c6, put_c7, put_c8, put_c9, put_c10, put_c11, put_c12, put_c13, put_c14, put_c15, put_c16, put_c17, put_c18, put_c19, put_c20, put_c21, put_c22, put_c23]⟩)
  have hB := allR_yes (as := (rt rows.length).zip (rt rows.length).tail) (b := fun _ => true) (fun _ _ => rfl)
  simp only [d_is_this_route, denF, denM, denS, denSL, uns, List.replicate, List.length_cons, List.length_nil, List.map_cons, List.map_nil, List.cons_append, List.nil_append, if_true, Nat.zero_add, Nat.reduceAdd, reduceIte]
  simp [i_is_this_route, ht, hL, hA, hs', hn, ne_int, hZ, hB, xRet, xRetL, xSeq, xSet, xSetL, xIf, xDrop, xAsg, xNil, xNo, xPar, puts, xApp, xAug, xIce, xUn, s1, s2, sA0, sA1, sCall, sCallL, sCallM, sCallS, sCallSL, sB, sAndT, sOrT, sNotT, sAnd, sOr, sIf, sTup, sLst, sFz, sV, sC, sChain, sLenO, sIxO, sCmpO, sPop, sSl, sRevO, sRevD, rNil, rF, rL, rLL, addR, subR, fdivR, modR, ltR, leR, gtR, geR, isNR, notNR, isNone, len_t, len_l, absR, intR, minR, tupleR, isiR, subTy, tyD, revTR, negR, gN, gT, gCns, Fw.gNil, oN, oS, lstOf, setLst, ice, noAl, sYes, wipeE, idle, put_c0, put_c1, put_c2, put_c3, put_c4, put_c5, put_c6, put_c7, put_c8, put_c9, put_c10, put_c11, put_c12, put_c13, put_c14, put_c15, put_c16, put_c17, put_c18, put_c19, put_c20, put_c21, put_c22, put_c23]
theorem is_route_ok {rows : List Rw} (h : RowOk rows) : d_is_route [hallD rows, routeD rows.length] = some (.bool true) := by
  simp only [d_is_route, denF, denM, denS, denSL, uns, List.replicate, List.length_cons, List.length_nil, List.map_cons, List.map_nil, List.cons_append, List.nil_append, if_true, Nat.zero_add, Nat.reduceAdd, reduceIte]
  simp [i_is_route, need_hall_ok h, is_this_route_ok h, xRet, xRetL, xSeq, xSet, xSetL, xIf, xDrop, xAsg, xNil, xNo, xPar, puts, xApp, xAug, xIce, xUn, s1, s2, sA0, sA1, sCall, sCallL, sCallM, sCallS, sCallSL, sB, sAndT, sOrT, sNotT, sAnd, sOr, sIf, sTup, sLst, sFz, sV, sC, sChain, sLenO, sIxO, sCmpO, sPop, sSl, sRevO, sRevD, rNil, rF, rL, rLL, addR, subR, fdivR, modR, ltR, leR, gtR, geR, isNR, notNR, isNone, len_t, len_l, absR, intR, minR, tupleR, isiR, subTy, tyD, revTR, negR, gN, gT, gCns, Fw.gNil, oN, oS, lstOf, setLst, ice, noAl, sYes, wipeE, idle, put_c0, put_c1, put_c2, put_c3, put_c4, put_c5, put_c6, put_c7, put_c8, put_c9, put_c10, put_c11, put_c12, put_c13, put_c14, put_c15, put_c16, put_c17, put_c18, put_c19, put_c20, put_c21, put_c22, put_c23]
end L95

end
section
set_option Elab.async false
set_option linter.all false
set_option maxRecDepth 100000
/-! What the rows and the gates compute. -/
namespace L95
open PySem PySem.Spec PyProof.Rows L2 Fw Pl
theorem dI_snoc (xs : List Int) (y : Int) : dI xs ++ [.int y] = dI (xs ++ [y]) := by unfold dI; rw [List.map_append]; rfl
theorem dI_len (xs : List Int) : (dI xs).length = xs.length := List.length_map ..
theorem dI_get {xs : List Int} {k : Nat} {x : Int} (h : xs[k]? = some x) : (dI xs)[k]? = some (.int x) := by unfold dI; rw [List.getElem?_map, h]; rfl
theorem dI_inv {xs : List Int} {k : Nat} {d : PyData} (h : (dI xs)[k]? = some d) : ∃ x, xs[k]? = some x ∧ d = .int x := by
  unfold dI at h
  rw [List.getElem?_map] at h
  cases q : xs[k]? with
  | none => rw [q] at h; cases h
  | some x => rw [q] at h; exact ⟨x, rfl, (Option.some.inj h).symm⟩
theorem small {n : Nat} (h : n ≤ 1000) : n < sizeLine := by rw [sizeLine_eq]; omega
abbrev beD (c : Int) : PyData := .tuple [.int c]
theorem be_0 (c t : Int) : modR (.int t) (.int 1) = some (.int 0) ∧ ixR (beD c) (.int 0) = some (.int c) ∧ lenR [beD c] = some (.int 1) := by
  refine ⟨?_, ix_t0, rfl⟩
  have : t % 1 = 0 := Int.emod_one t
  simp [modR, this]
noncomputable def bgW : FS := (xWhile (sB (s2 eqR (sV 4) (s2 ixR (sV 0) (s2 modR (sV 3) (sCall lenR (sA1 (sV 0) sA0)))))) (xPar [3, 4] (rF (s2 addR (sV 3) (sC (.int 1))) (rF (sC (.int 0)) rNil))))
theorem bgW_ok {c t u : Int} (hc : 1 ≤ c) {a o x : Slot} : bgW [.fz (beD c), a, o, .fz (.int t), .fz (.int u), x] = some (.nx [.fz (beD c), a, o, .fz (.int (if u = c then t + 1 else t)), .fz (.int (if u = c then 0 else u)), x]) := by
  have b := be_0 c
  have tst : ∀ t u : Int, (sB (s2 eqR (sV 4) (s2 ixR (sV 0) (s2 modR (sV 3) (sCall lenR (sA1 (sV 0) sA0))))) [.fz (beD c), a, o, .fz (.int t), .fz (.int u), x]) = some (decide (u = c), [.fz (beD c), a, o, .fz (.int t), .fz (.int u), x]) := fun t u => by
    have e := (b t).1
    simp [(b t).2.1, (b t).2.2, e, eq_int, s1, s2, sB, sCall, sA1, sA0, sV]
    rfl
  unfold bgW
  by_cases q : u = c
  · rw [if_pos q, if_pos q]
    refine xWhile_step (δ1 := [.fz (beD c), a, o, .fz (.int t), .fz (.int u), x]) (δ2 := [.fz (beD c), a, o, .fz (.int (t + 1)), .fz (.int 0), x]) ?_ ?_ (xWhile_stop ?_)
    · rw [tst t u, decide_eq_true q]
    · simp [xRet, xRetL, xSeq, xSet, xSetL, xIf, xDrop, xAsg, xNil, xNo, xPar, puts, xApp, xAug, xIce, xUn, s1, s2, sA0, sA1, sCall, sCallL, sCallM, sCallS, sCallSL, sB, sAndT, sOrT, sNotT, sAnd, sOr, sIf, sTup, sLst, sFz, sV, sC, sChain, sLenO, sIxO, sCmpO, sPop, sSl, sRevO, sRevD, rNil, rF, rL, rLL, addR, subR, fdivR, modR, ltR, leR, gtR, geR, isNR, notNR, isNone, len_t, len_l, absR, intR, minR, tupleR, isiR, subTy, tyD, revTR, negR, gN, gT, gCns, Fw.gNil, oN, oS, lstOf, setLst, ice, noAl, sYes, wipeE, idle, put_c0, put_c1, put_c2, put_c3, put_c4, put_c5, put_c6, put_c7, put_c8, put_c9, put_c10, put_c11, put_c12, put_c13, put_c14, put_c15, put_c16, put_c17, put_c18, put_c19, put_c20, put_c21, put_c22, put_c23]
    · rw [tst (t + 1) 0, decide_eq_false (by omega)]
  · rw [if_neg q, if_neg q]
    exact xWhile_stop (by rw [tst t u, decide_eq_false q])
noncomputable def bgB : FS := (xSeq (xIf (sB (s2 gtR (sV 5) (sV 3))) (xPar [3, 4] (rF (sV 5) (rF (sC (.int 0)) rNil))) xNil)
    (xSeq bgW
    (xSeq (xApp 2 (sV 3))
    (xAug 4 (fun i j => i + j) (sC (.int 1))))))
theorem bgB_ok {c t u x : Int} (hc : 1 ≤ c) {a : Slot} {os : List PyData} (ho : os.length ≤ 1000) :
    bgB [.fz (beD c), a, .ow os, .fz (.int t), .fz (.int u), .fz (.int x)] =
      (let t1 := if t < x then x else t
       let u1 := if t < x then 0 else u
       let t2 := if u1 = c then t1 + 1 else t1
       let u2 := if u1 = c then 0 else u1
       some (.nx [.fz (beD c), a, .ow (os ++ [.int t2]), .fz (.int t2), .fz (.int (u2 + 1)), .fz (.int x)])) := by
  have hs := small ho
  unfold bgB
  by_cases q : t < x
  · simp [xSeq, xIf, q, bgW_ok hc, hs, xRet, xRetL, xSeq, xSet, xSetL, xIf, xDrop, xAsg, xNil, xNo, xPar, puts, xApp, xAug, xIce, xUn, s1, s2, sA0, sA1, sCall, sCallL, sCallM, sCallS, sCallSL, sB, sAndT, sOrT, sNotT, sAnd, sOr, sIf, sTup, sLst, sFz, sV, sC, sChain, sLenO, sIxO, sCmpO, sPop, sSl, sRevO, sRevD, rNil, rF, rL, rLL, addR, subR, fdivR, modR, ltR, leR, gtR, geR, isNR, notNR, isNone, len_t, len_l, absR, intR, minR, tupleR, isiR, subTy, tyD, revTR, negR, gN, gT, gCns, Fw.gNil, oN, oS, lstOf, setLst, ice, noAl, sYes, wipeE, idle, put_c0, put_c1, put_c2, put_c3, put_c4, put_c5, put_c6, put_c7, put_c8, put_c9, put_c10, put_c11, put_c12, put_c13, put_c14, put_c15, put_c16, put_c17, put_c18, put_c19, put_c20, put_c21, put_c22, put_c23]
  · simp [xSeq, xIf, q, bgW_ok hc, hs, xRet, xRetL, xSeq, xSet, xSetL, xIf, xDrop, xAsg, xNil, xNo, xPar, puts, xApp, xAug, xIce, xUn, s1, s2, sA0, sA1, sCall, sCallL, sCallM, sCallS, sCallSL, sB, sAndT, sOrT, sNotT, sAnd, sOr, sIf, sTup, sLst, sFz, sV, sC, sChain, sLenO, sIxO, sCmpO, sPop, sSl, sRevO, sRevD, rNil, rF, rL, rLL, addR, subR, fdivR, modR, ltR, leR, gtR, geR, isNR, notNR, isNone, len_t, len_l, absR, intR, minR, tupleR, isiR, subTy, tyD, revTR, negR, gN, gT, gCns, Fw.gNil, oN, oS, lstOf, setLst, ice, noAl, sYes, wipeE, idle, put_c0, put_c1, put_c2, put_c3, put_c4, put_c5, put_c6, put_c7, put_c8, put_c9, put_c10, put_c11, put_c12, put_c13, put_c14, put_c15, put_c16, put_c17, put_c18, put_c19, put_c20, put_c21, put_c22, put_c23]
theorem nxt_last {c : Int} {g : List Int} {x : Int} (hs : g.Pairwise (· ≤ ·)) (hc : 1 ≤ c) :
    (let t1 := if lastD g < x then x else lastD g
     let u1 := if lastD g < x then 0 else (g.count (lastD g) : Int)
     (if u1 = c then t1 + 1 else t1) = nxt c g x ∧ (if u1 = c then 0 else u1) + 1 = ((g ++ [nxt c g x]).count (nxt c g x) : Int)) := by
  have le := lastD_ge hs
  simp only
  unfold nxt
  by_cases q : lastD g < x
  · rw [if_pos q, if_pos q, if_pos q, if_neg (by omega), if_neg (by omega), List.count_append, count_above fun y m => by have := le y m; omega]
    simp
  · rw [if_neg q, if_neg q, if_neg q]
    by_cases e : (g.count (lastD g) : Int) = c
    · rw [if_pos e, if_pos e, List.count_append, count_above fun y m => by have := le y m; omega]
      simp
    · rw [if_neg e, if_neg e, List.count_append]
      simp
theorem goes_take {c : Int} {xs : List Int} {i : Nat} {x : Int} (h : xs[i]? = some x) : goes c (xs.take (i + 1)) = goes c (xs.take i) ++ [nxt c (goes c (xs.take i)) x] := by
  have hi := (List.getElem?_eq_some_iff.mp h).1
  have : xs.take (i + 1) = xs.take i ++ [x] := by rw [List.take_add_one, h]; rfl
  rw [this, goes_snoc]
theorem _root_.Pl.Srt.take {xs : List Int} (h : Srt xs) (i : Nat) : Srt (xs.take i) := ⟨h.srt.sublist (List.take_sublist i xs), fun x m => h.pos x (List.mem_of_mem_take m)⟩
theorem beat_goes_ok {c : Int} (hc : 1 ≤ c) {xs : List Int} (hx : Srt xs) (hl : xs.length ≤ 1000) : d_beat_goes [beD c, .list (dI xs)] = some (.list (dI (goes c xs))) := by
  have hF := forL_inv (p := gN 5) (body := bgB) (as := dI xs) (fun i δ => ∃ u, Fre u ∧ δ = [.fz (beD c), .fz (.list (dI xs)), .ow (dI (goes c (xs.take i))), .fz (.int (lastD (goes c (xs.take i)))), .fz (.int ((goes c (xs.take i)).count (lastD (goes c (xs.take i))) : Nat)), u]) (fun i d δ e ⟨u, fu, eδ⟩ => by
      subst eδ
      obtain ⟨x, hx', rfl⟩ := dI_inv e
      have G := gd_goes hc (xs.take i) (hx.take i)
      refine ⟨[.fz (beD c), .fz (.list (dI xs)), .ow (dI (goes c (xs.take i))), .fz (.int (lastD (goes c (xs.take i)))), .fz (.int ((goes c (xs.take i)).count (lastD (goes c (xs.take i))) : Nat)), .fz (.int x)], _, by simp [xRet, xRetL, xSeq, xSet, xSetL, xIf, xDrop, xAsg, xNil, xNo, xPar, puts, xApp, xAug, xIce, xUn, s1, s2, sA0, sA1, sCall, sCallL, sCallM, sCallS, sCallSL, sB, sAndT, sOrT, sNotT, sAnd, sOr, sIf, sTup, sLst, sFz, sV, sC, sChain, sLenO, sIxO, sCmpO, sPop, sSl, sRevO, sRevD, rNil, rF, rL, rLL, addR, subR, fdivR, modR, ltR, leR, gtR, geR, isNR, notNR, isNone, len_t, len_l, absR, intR, minR, tupleR, isiR, subTy, tyD, revTR, negR, gN, gT, gCns, Fw.gNil, oN, oS, lstOf, setLst, ice, noAl, sYes, wipeE, idle, put_c0, put_c1, put_c2, put_c3, put_c4, put_c5, put_c6, put_c7, put_c8, put_c9, put_c10, put_c11, put_c12, put_c13, put_c14, put_c15, put_c16, put_c17, put_c18, put_c19, put_c20, put_c21, put_c22, put_c23], bgB_ok hc (by rw [dI_len, goes_len, List.length_take]; omega), ?_⟩
      have n := nxt_last (c := c) (x := x) G.srt.srt hc
      simp only at n
      refine ⟨.fz (.int x), inferInstance, ?_⟩
      rw [n.1, n.2, goes_take hx', dI_snoc, lastD_snoc]) (δ := [.fz (beD c), .fz (.list (dI xs)), .ow [], .fz (.int 0), .fz (.int 0), .un]) ⟨.un, inferInstance, rfl⟩
  obtain ⟨δ', f1, u, fu, rfl⟩ := hF
  rw [dI_len, List.take_length] at f1
  have hI : wIx (sV 1) [.fz (beD c), .fz (.list (dI xs)), .ow [], .fz (.int 0), .fz (.int 0), .un] = some (dI xs, [.fz (beD c), .fz (.list (dI xs)), .ow [], .fz (.int 0), .fz (.int 0), .un]) := by simp [xRet, xRetL, xSeq, xSet, xSetL, xIf, xDrop, xAsg, xNil, xNo, xPar, puts, xApp, xAug, xIce, xUn, s1, s2, sA0, sA1, sCall, sCallL, sCallM, sCallS, sCallSL, sB, sAndT, sOrT, sNotT, sAnd, sOr, sIf, sTup, sLst, sFz, sV, sC, sChain, sLenO, sIxO, sCmpO, sPop, sSl, sRevO, sRevD, rNil, rF, rL, rLL, addR, subR, fdivR, modR, ltR, leR, gtR, geR, isNR, notNR, isNone, len_t, len_l, absR, intR, minR, tupleR, isiR, subTy, tyD, revTR, negR, gN, gT, gCns, Fw.gNil, oN, oS, lstOf, setLst, ice, noAl, sYes, wipeE, idle, put_c0, put_c1, put_c2, put_c3, put_c4, put_c5, put_c6, put_c7, put_c8, put_c9, put_c10, put_c11, put_c12, put_c13, put_c14, put_c15, put_c16, put_c17, put_c18, put_c19, put_c20, put_c21, put_c22, put_c23, wIx, itD]
  simp only [d_beat_goes, denF, denM, denS, denSL, uns, List.replicate, List.length_cons, List.length_nil, List.map_cons, List.map_nil, List.cons_append, List.nil_append, if_true, Nat.zero_add, Nat.reduceAdd, reduceIte]
  show (match i_beat_goes [.fz (beD c), .fz (.list (dI xs)), .un, .un, .un, .un] with | some (.rt d _) => some d | some (.rl ds _) => some (.list ds) | some (.nx _) => some .none | _ => none) = _
  have e : i_beat_goes [.fz (beD c), .fz (.list (dI xs)), .un, .un, .un, .un] = xSeq (xFor (wIx (sV 1)) (gN 5) bgB) (xIce 2 (xRet (sV 2))) [.fz (beD c), .fz (.list (dI xs)), .ow [], .fz (.int 0), .fz (.int 0), .un] := rfl
  rw [e]
  simp [xFor, hI, f1, xRet, xRetL, xSeq, xSet, xSetL, xIf, xDrop, xAsg, xNil, xNo, xPar, puts, xApp, xAug, xIce, xUn, s1, s2, sA0, sA1, sCall, sCallL, sCallM, sCallS, sCallSL, sB, sAndT, sOrT, sNotT, sAnd, sOr, sIf, sTup, sLst, sFz, sV, sC, sChain, sLenO, sIxO, sCmpO, sPop, sSl, sRevO, sRevD, rNil, rF, rL, rLL, addR, subR, fdivR, modR, ltR, leR, gtR, geR, isNR, notNR, isNone, len_t, len_l, absR, intR, minR, tupleR, isiR, subTy, tyD, revTR, negR, gN, gT, gCns, Fw.gNil, oN, oS, lstOf, setLst, ice, noAl, sYes, wipeE, idle, put_c0, put_c1, put_c2, put_c3, put_c4, put_c5, put_c6, put_c7, put_c8, put_c9, put_c10, put_c11, put_c12, put_c13, put_c14, put_c15, put_c16, put_c17, put_c18, put_c19, put_c20, put_c21, put_c22, put_c23]

/-! ### a row -/
def stg (xs : List Int) (r : Rw) : List Int := (goes r.2 xs).map (· + r.1)
def outsF (rows : List Rw) (xs : List Int) : List Int := rows.foldl stg xs
theorem stg_len (xs : List Int) (r : Rw) : (stg xs r).length = xs.length := by unfold stg; rw [List.length_map, goes_len]
theorem stg_srt {xs : List Int} {r : Rw} (h : Srt xs) (h1 : 0 ≤ r.1) (h2 : 1 ≤ r.2) : Srt (stg xs r) := (gd_goes h2 xs h).srt.map h1
theorem outsF_ok : ∀ (rows : List Rw) (xs : List Int), (∀ r ∈ rows, 1 ≤ r.1 ∧ 1 ≤ r.2) → Srt xs → Srt (outsF rows xs) ∧ (outsF rows xs).length = xs.length
  | [], xs, _, h => ⟨h, rfl⟩
  | r :: rows, xs, hr, h => by
    have := hr r (by simp)
    have ih := outsF_ok rows (stg xs r) (fun q m => hr q (by simp [m])) (stg_srt h (by omega) this.2)
    exact ⟨ih.1, ih.2.trans (stg_len xs r)⟩
theorem outsF_take {rows : List Rw} {xs : List Int} {i : Nat} {r : Rw} (h : rows[i]? = some r) : outsF (rows.take (i + 1)) xs = stg (outsF (rows.take i) xs) r := by
  have : rows.take (i + 1) = rows.take i ++ [r] := by rw [List.take_add_one, h]; rfl
  unfold outsF
  rw [this, List.foldl_append]; rfl
abbrev rwD (r : Rw) : PyData := .tuple [.int r.1, beD r.2]
theorem rowD_inv {rows : List Rw} {i : Nat} {d : PyData} (h : (rows.map rwD)[i]? = some d) : ∃ r, rows[i]? = some r ∧ r ∈ rows ∧ d = rwD r := by
  rw [List.getElem?_map] at h
  cases q : rows[i]? with
  | none => rw [q] at h; cases h
  | some x => rw [q] at h; exact ⟨x, rfl, List.mem_of_getElem? q, (Option.some.inj h).symm⟩
/-- the items of a list or a tuple of ints -/
def SeqI (d : PyData) (ns : List Int) : Prop := d = .list (dI ns) ∨ d = .tuple (dI ns)
theorem SeqI.list {d : PyData} {ns : List Int} (h : SeqI d ns) : listR [d] = some (dI ns) := by rcases h with rfl | rfl <;> rfl
theorem SeqI.it {d : PyData} {ns : List Int} (h : SeqI d ns) : itD d = some (dI ns) := by rcases h with rfl | rfl <;> rfl
theorem SeqI.len {d : PyData} {ns : List Int} (h : SeqI d ns) : lenR [d] = some (.int ns.length) := by rcases h with rfl | rfl <;> simp [len_l, len_t, dI_len]
theorem add_map (ns : List Int) (t : Int) : (ns.map fun n => PyData.int (n + t)) = dI (ns.map (· + t)) := by unfold dI; rw [List.map_map]; rfl
theorem outs_in_ok {rows : List Rw} (hr : RowOk rows) {d : PyData} {xs : List Int} (hd : SeqI d xs) (hx : Srt xs) (hl : xs.length ≤ 1000) : d_outs_in [rowD rows, d] = some (.list (dI (outsF rows xs))) := by
  have hr' : ∀ i, ∀ r ∈ rows.take i, 1 ≤ r.1 ∧ 1 ≤ r.2 := fun i r m => let ⟨a, _, b, _⟩ := hr.ok r (List.mem_of_mem_take m); ⟨a, b⟩
  have hF := forL_inv (p := gT 2 (gCns (gN 3) (gCns (gN 4) Fw.gNil))) (body := xSet 2 (sFz (sLc [5] (wIx (sCall d_beat_goes (sA1 (sV 4) (sA1 (sV 2) sA0)))) (gN 5) sYes (s2 addR (sV 5) (sV 3))))) (as := rows.map rwD)
    (fun i δ => ∃ u v, Fre u ∧ Fre v ∧ δ = [.fz (rowD rows), .fz d, .fz (.list (dI (outsF (rows.take i) xs))), u, v, .un]) (fun i q δ e ⟨u, v, fu, fv, eδ⟩ => by
      subst eδ
      obtain ⟨r, hi, hm, rfl⟩ := rowD_inv e
      have ok := outsF_ok (rows.take i) xs (hr' i) hx
      have rr := hr.ok r hm
      have bg := beat_goes_ok (c := r.2) (by omega) ok.1 (by rw [ok.2]; exact hl)
      refine ⟨[.fz (rowD rows), .fz d, .fz (.list (dI (outsF (rows.take i) xs))), .fz (.int r.1), .fz (beD r.2), .un], [.fz (rowD rows), .fz d, .fz (.list (dI (stg (outsF (rows.take i) xs) r))), .fz (.int r.1), .fz (beD r.2), .un], by simp [xRet, xRetL, xSeq, xSet, xSetL, xIf, xDrop, xAsg, xNil, xNo, xPar, puts, xApp, xAug, xIce, xUn, s1, s2, sA0, sA1, sCall, sCallL, sCallM, sCallS, sCallSL, sB, sAndT, sOrT, sNotT, sAnd, sOr, sIf, sTup, sLst, sFz, sV, sC, sChain, sLenO, sIxO, sCmpO, sPop, sSl, sRevO, sRevD, rNil, rF, rL, rLL, addR, subR, fdivR, modR, ltR, leR, gtR, geR, isNR, notNR, isNone, len_t, len_l, absR, intR, minR, tupleR, isiR, subTy, tyD, revTR, negR, gN, gT, gCns, Fw.gNil, oN, oS, lstOf, setLst, ice, noAl, sYes, wipeE, idle, put_c0, put_c1, put_c2, put_c3, put_c4, put_c5, put_c6, put_c7, put_c8, put_c9, put_c10, put_c11, put_c12, put_c13, put_c14, put_c15, put_c16, put_c17, put_c18, put_c19, put_c20, put_c21, put_c22, put_c23], ?_, .fz (.int r.1), .fz (beD r.2), inferInstance, inferInstance, by rw [outsF_take hi]⟩
      have hL := sLc_map (vs := [5]) (it := wIx (sCall d_beat_goes (sA1 (sV 4) (sA1 (sV 2) sA0)))) (p := gN 5) (e := s2 addR (sV 5) (sV 3)) (δ0 := [.fz (rowD rows), .fz d, .fz (.list (dI (outsF (rows.take i) xs))), .fz (.int r.1), .fz (beD r.2), .un]) (δ1 := [.fz (rowD rows), .fz d, .fz (.list (dI (outsF (rows.take i) xs))), .fz (.int r.1), .fz (beD r.2), .un])
        (as := goes r.2 (outsF (rows.take i) xs)) (enc := .int) (fun n => .int (n + r.1)) (by simp [bg, xRet, xRetL, xSeq, xSet, xSetL, xIf, xDrop, xAsg, xNil, xNo, xPar, puts, xApp, xAug, xIce, xUn, s1, s2, sA0, sA1, sCall, sCallL, sCallM, sCallS, sCallSL, sB, sAndT, sOrT, sNotT, sAnd, sOr, sIf, sTup, sLst, sFz, sV, sC, sChain, sLenO, sIxO, sCmpO, sPop, sSl, sRevO, sRevD, rNil, rF, rL, rLL, addR, subR, fdivR, modR, ltR, leR, gtR, geR, isNR, notNR, isNone, len_t, len_l, absR, intR, minR, tupleR, isiR, subTy, tyD, revTR, negR, gN, gT, gCns, Fw.gNil, oN, oS, lstOf, setLst, ice, noAl, sYes, wipeE, idle, put_c0, put_c1, put_c2, put_c3, put_c4, put_c5, put_c6, put_c7, put_c8, put_c9, put_c10, put_c11, put_c12, put_c13, put_c14, put_c15, put_c16, put_c17, put_c18, put_c19, put_c20, put_c21, put_c22, put_c23, wIx, itD]; rfl) rfl (fun a m => ⟨[.fz (rowD rows), .fz d, .fz (.list (dI (outsF (rows.take i) xs))), .fz (.int r.1), .fz (beD r.2), .fz (.int a)], by simp [xRet, xRetL, xSeq, xSet, xSetL, xIf, xDrop, xAsg, xNil, xNo, xPar, puts, xApp, xAug, xIce, xUn, s1, s2, sA0, sA1, sCall, sCallL, sCallM, sCallS, sCallSL, sB, sAndT, sOrT, sNotT, sAnd, sOr, sIf, sTup, sLst, sFz, sV, sC, sChain, sLenO, sIxO, sCmpO, sPop, sSl, sRevO, sRevD, rNil, rF, rL, rLL, addR, subR, fdivR, modR, ltR, leR, gtR, geR, isNR, notNR, isNone, len_t, len_l, absR, intR, minR, tupleR, isiR, subTy, tyD, revTR, negR, gN, gT, gCns, Fw.gNil, oN, oS, lstOf, setLst, ice, noAl, sYes, wipeE, idle, put_c0, put_c1, put_c2, put_c3, put_c4, put_c5, put_c6, put_c7, put_c8, put_c9, put_c10, put_c11, put_c12, put_c13, put_c14, put_c15, put_c16, put_c17, put_c18, put_c19, put_c20, put_c21, put_c22, put_c23], by simp [xRet, xRetL, xSeq, xSet, xSetL, xIf, xDrop, xAsg, xNil, xNo, xPar, puts, xApp, xAug, xIce, xUn, s1, s2, sA0, sA1, sCall, sCallL, sCallM, sCallS, sCallSL, sB, sAndT, sOrT, sNotT, sAnd, sOr, sIf, sTup, sLst, sFz, sV, sC, sChain, sLenO, sIxO, sCmpO, sPop, sSl, sRevO, sRevD, rNil, rF, rL, rLL, addR, subR, fdivR, modR, ltR, leR, gtR, geR, isNR, notNR, isNone, len_t, len_l, absR, intR, minR, tupleR, isiR, subTy, tyD, revTR, negR, gN, gT, gCns, Fw.gNil, oN, oS, lstOf, setLst, ice, noAl, sYes, wipeE, idle, put_c0, put_c1, put_c2, put_c3, put_c4, put_c5, put_c6, put_c7, put_c8, put_c9, put_c10, put_c11, put_c12, put_c13, put_c14, put_c15, put_c16, put_c17, put_c18, put_c19, put_c20, put_c21, put_c22, put_c23], by simp [xRet, xRetL, xSeq, xSet, xSetL, xIf, xDrop, xAsg, xNil, xNo, xPar, puts, xApp, xAug, xIce, xUn, s1, s2, sA0, sA1, sCall, sCallL, sCallM, sCallS, sCallSL, sB, sAndT, sOrT, sNotT, sAnd, sOr, sIf, sTup, sLst, sFz, sV, sC, sChain, sLenO, sIxO, sCmpO, sPop, sSl, sRevO, sRevD, rNil, rF, rL, rLL, addR, subR, fdivR, modR, ltR, leR, gtR, geR, isNR, notNR, isNone, len_t, len_l, absR, intR, minR, tupleR, isiR, subTy, tyD, revTR, negR, gN, gT, gCns, Fw.gNil, oN, oS, lstOf, setLst, ice, noAl, sYes, wipeE, idle, put_c0, put_c1, put_c2, put_c3, put_c4, put_c5, put_c6, put_c7, put_c8, put_c9, put_c10, put_c11, put_c12, put_c13, put_c14, put_c15, put_c16, put_c17, put_c18, put_c19, put_c20, put_c21, put_c22, put_c23]⟩)
      rw [add_map] at hL
      simp [hL, stg, xRet, xRetL, xSeq, xSet, xSetL, xIf, xDrop, xAsg, xNil, xNo, xPar, puts, xApp, xAug, xIce, xUn, s1, s2, sA0, sA1, sCall, sCallL, sCallM, sCallS, sCallSL, sB, sAndT, sOrT, sNotT, sAnd, sOr, sIf, sTup, sLst, sFz, sV, sC, sChain, sLenO, sIxO, sCmpO, sPop, sSl, sRevO, sRevD, rNil, rF, rL, rLL, addR, subR, fdivR, modR, ltR, leR, gtR, geR, isNR, notNR, isNone, len_t, len_l, absR, intR, minR, tupleR, isiR, subTy, tyD, revTR, negR, gN, gT, gCns, Fw.gNil, oN, oS, lstOf, setLst, ice, noAl, sYes, wipeE, idle, put_c0, put_c1, put_c2, put_c3, put_c4, put_c5, put_c6, put_c7, put_c8, put_c9, put_c10, put_c11, put_c12, put_c13, put_c14, put_c15, put_c16, put_c17, put_c18, put_c19, put_c20, put_c21, put_c22, put_c23]) (δ := [.fz (rowD rows), .fz d, .fz (.list (dI xs)), .un, .un, .un]) ⟨.un, .un, inferInstance, inferInstance, rfl⟩
  obtain ⟨δ', f1, u, v, fu, fv, rfl⟩ := hF
  rw [List.length_map, List.take_length] at f1
  have hI : wIx (sV 0) [.fz (rowD rows), .fz d, .fz (.list (dI xs)), .un, .un, .un] = some (rows.map rwD, [.fz (rowD rows), .fz d, .fz (.list (dI xs)), .un, .un, .un]) := by simp [rowD, xRet, xRetL, xSeq, xSet, xSetL, xIf, xDrop, xAsg, xNil, xNo, xPar, puts, xApp, xAug, xIce, xUn, s1, s2, sA0, sA1, sCall, sCallL, sCallM, sCallS, sCallSL, sB, sAndT, sOrT, sNotT, sAnd, sOr, sIf, sTup, sLst, sFz, sV, sC, sChain, sLenO, sIxO, sCmpO, sPop, sSl, sRevO, sRevD, rNil, rF, rL, rLL, addR, subR, fdivR, modR, ltR, leR, gtR, geR, isNR, notNR, isNone, len_t, len_l, absR, intR, minR, tupleR, isiR, subTy, tyD, revTR, negR, gN, gT, gCns, Fw.gNil, oN, oS, lstOf, setLst, ice, noAl, sYes, wipeE, idle, put_c0, put_c1, put_c2, put_c3, put_c4, put_c5, put_c6, put_c7, put_c8, put_c9, put_c10, put_c11, put_c12, put_c13, put_c14, put_c15, put_c16, put_c17, put_c18, put_c19, put_c20, put_c21, put_c22, put_c23, wIx, itD]
  have h1 := hd.list
  simp only [d_outs_in, denF, denM, denS, denSL, uns, List.replicate, List.length_cons, List.length_nil, List.map_cons, List.map_nil, List.cons_append, List.nil_append, if_true, Nat.zero_add, Nat.reduceAdd, reduceIte]
  simp [i_outs_in, xFor, h1, hI, f1, xRet, xRetL, xSeq, xSet, xSetL, xIf, xDrop, xAsg, xNil, xNo, xPar, puts, xApp, xAug, xIce, xUn, s1, s2, sA0, sA1, sCall, sCallL, sCallM, sCallS, sCallSL, sB, sAndT, sOrT, sNotT, sAnd, sOr, sIf, sTup, sLst, sFz, sV, sC, sChain, sLenO, sIxO, sCmpO, sPop, sSl, sRevO, sRevD, rNil, rF, rL, rLL, addR, subR, fdivR, modR, ltR, leR, gtR, geR, isNR, notNR, isNone, len_t, len_l, absR, intR, minR, tupleR, isiR, subTy, tyD, revTR, negR, gN, gT, gCns, Fw.gNil, oN, oS, lstOf, setLst, ice, noAl, sYes, wipeE, idle, put_c0, put_c1, put_c2, put_c3, put_c4, put_c5, put_c6, put_c7, put_c8, put_c9, put_c10, put_c11, put_c12, put_c13, put_c14, put_c15, put_c16, put_c17, put_c18, put_c19, put_c20, put_c21, put_c22, put_c23]
end L95

end
section
set_option Elab.async false
set_option linter.all false
set_option maxRecDepth 100000
/-! What the rows and the gates compute, continued. -/
namespace L95
open PySem PySem.Spec PyProof.Rows L2 Fw Pl
def logF : List Rw → List Int → List (List Int × List Int)
  | [], _ => []
  | r :: rs, xs => (xs, goes r.2 xs) :: logF rs (stg xs r)
theorem logF_snoc (r : Rw) : ∀ (rows : List Rw) (xs : List Int), logF (rows ++ [r]) xs = logF rows xs ++ [(outsF rows xs, goes r.2 (outsF rows xs))]
  | [], xs => rfl
  | q :: rows, xs => by
    show (xs, goes q.2 xs) :: logF (rows ++ [r]) (stg xs q) = _
    rw [logF_snoc r rows (stg xs q)]; rfl
theorem logF_take {rows : List Rw} {xs : List Int} {i : Nat} {r : Rw} (h : rows[i]? = some r) : logF (rows.take (i + 1)) xs = logF (rows.take i) xs ++ [(outsF (rows.take i) xs, goes r.2 (outsF (rows.take i) xs))] := by
  have : rows.take (i + 1) = rows.take i ++ [r] := by rw [List.take_add_one, h]; rfl
  rw [this, logF_snoc]
theorem logF_len : ∀ (rows : List Rw) (xs : List Int), (logF rows xs).length = rows.length
  | [], _ => rfl
  | r :: rows, xs => by show (logF rows _).length + 1 = _; rw [logF_len rows]; rfl
theorem logF_mem : ∀ {rows : List Rw} {xs : List Int} {p : List Int × List Int}, p ∈ logF rows xs → p.1.length = xs.length ∧ p.2.length = xs.length
  | r :: rows, xs, p, h => by
    rcases List.mem_cons.mp h with q | q
    · rw [q]; exact ⟨rfl, goes_len _ _⟩
    · have := logF_mem q
      rw [stg_len] at this; exact this
abbrev lgD (p : List Int × List Int) : PyData := .tuple [.list (dI p.1), .list (dI p.2)]
theorem goes_in_ok {rows : List Rw} (hr : RowOk rows) {d : PyData} {xs : List Int} (hd : SeqI d xs) (hx : Srt xs) (hl : xs.length ≤ 1000) : d_goes_in [rowD rows, d] = some (.list ((logF rows xs).map lgD)) := by
  have hr' : ∀ i, ∀ r ∈ rows.take i, 1 ≤ r.1 ∧ 1 ≤ r.2 := fun i r m => let ⟨a, _, b, _⟩ := hr.ok r (List.mem_of_mem_take m); ⟨a, b⟩
  have few := hr.few
  have hF := forL_inv (p := gT 2 (gCns (gN 4) (gCns (gN 5) Fw.gNil))) (body := (xSeq (xSet 6 (sCall d_beat_goes (sA1 (sV 5) (sA1 (sV 3) sA0))))
    (xSeq (xApp 2 (sTup (sA1 (sV 3) (sA1 (sV 6) sA0))))
    (xSet 3 (sFz (sLc [7] (wIx (sV 6)) (gN 7) sYes (s2 addR (sV 7) (sV 4)))))))) (as := rows.map rwD)
    (fun i δ => ∃ u v w, Fre u ∧ Fre v ∧ Fre w ∧ δ = [.fz (rowD rows), .fz d, .ow ((logF (rows.take i) xs).map lgD), .fz (.list (dI (outsF (rows.take i) xs))), u, v, w, .un]) (fun i q δ e ⟨u, v, w, fu, fv, fw, eδ⟩ => by
      subst eδ
      obtain ⟨r, hi, hm, rfl⟩ := rowD_inv e
      have ok := outsF_ok (rows.take i) xs (hr' i) hx
      have rr := hr.ok r hm
      have bg := beat_goes_ok (c := r.2) (by omega) ok.1 (by rw [ok.2]; exact hl)
      have hs : ((logF (rows.take i) xs).map lgD).length < sizeLine := by rw [List.length_map, logF_len, List.length_take]; exact small (by omega)
      have h2 : 2 ≤ sizeLine := by rw [sizeLine_eq]; omega
      refine ⟨[.fz (rowD rows), .fz d, .ow ((logF (rows.take i) xs).map lgD), .fz (.list (dI (outsF (rows.take i) xs))), .fz (.int r.1), .fz (beD r.2), w, .un], [.fz (rowD rows), .fz d, .ow ((logF (rows.take i) xs).map lgD ++ [lgD (outsF (rows.take i) xs, goes r.2 (outsF (rows.take i) xs))]), .fz (.list (dI (stg (outsF (rows.take i) xs) r))), .fz (.int r.1), .fz (beD r.2), .fz (.list (dI (goes r.2 (outsF (rows.take i) xs)))), .un], by simp [xRet, xRetL, xSeq, xSet, xSetL, xIf, xDrop, xAsg, xNil, xNo, xPar, puts, xApp, xAug, xIce, xUn, s1, s2, sA0, sA1, sCall, sCallL, sCallM, sCallS, sCallSL, sB, sAndT, sOrT, sNotT, sAnd, sOr, sIf, sTup, sLst, sFz, sV, sC, sChain, sLenO, sIxO, sCmpO, sPop, sSl, sRevO, sRevD, rNil, rF, rL, rLL, addR, subR, fdivR, modR, ltR, leR, gtR, geR, isNR, notNR, isNone, len_t, len_l, absR, intR, minR, tupleR, isiR, subTy, tyD, revTR, negR, gN, gT, gCns, Fw.gNil, oN, oS, lstOf, setLst, ice, noAl, sYes, wipeE, idle, put_c0, put_c1, put_c2, put_c3, put_c4, put_c5, put_c6, put_c7, put_c8, put_c9, put_c10, put_c11, put_c12, put_c13, put_c14, put_c15, put_c16, put_c17, put_c18, put_c19, put_c20, put_c21, put_c22, put_c23], ?_, .fz (.int r.1), .fz (beD r.2), .fz (.list (dI (goes r.2 (outsF (rows.take i) xs)))), inferInstance, inferInstance, inferInstance, by rw [outsF_take hi, logF_take hi, List.map_append]; rfl⟩
      have hL := sLc_map (vs := [7]) (it := wIx (sV 6)) (p := gN 7) (e := s2 addR (sV 7) (sV 4)) (δ0 := [.fz (rowD rows), .fz d, .ow ((logF (rows.take i) xs).map lgD ++ [lgD (outsF (rows.take i) xs, goes r.2 (outsF (rows.take i) xs))]), .fz (.list (dI (outsF (rows.take i) xs))), .fz (.int r.1), .fz (beD r.2), .fz (.list (dI (goes r.2 (outsF (rows.take i) xs)))), .un])
        (δ1 := [.fz (rowD rows), .fz d, .ow ((logF (rows.take i) xs).map lgD ++ [lgD (outsF (rows.take i) xs, goes r.2 (outsF (rows.take i) xs))]), .fz (.list (dI (outsF (rows.take i) xs))), .fz (.int r.1), .fz (beD r.2), .fz (.list (dI (goes r.2 (outsF (rows.take i) xs)))), .un])
        (as := goes r.2 (outsF (rows.take i) xs)) (enc := .int) (fun n => .int (n + r.1)) (by simp [xRet, xRetL, xSeq, xSet, xSetL, xIf, xDrop, xAsg, xNil, xNo, xPar, puts, xApp, xAug, xIce, xUn, s1, s2, sA0, sA1, sCall, sCallL, sCallM, sCallS, sCallSL, sB, sAndT, sOrT, sNotT, sAnd, sOr, sIf, sTup, sLst, sFz, sV, sC, sChain, sLenO, sIxO, sCmpO, sPop, sSl, sRevO, sRevD, rNil, rF, rL, rLL, addR, subR, fdivR, modR, ltR, leR, gtR, geR, isNR, notNR, isNone, len_t, len_l, absR, intR, minR, tupleR, isiR, subTy, tyD, revTR, negR, gN, gT, gCns, Fw.gNil, oN, oS, lstOf, setLst, ice, noAl, sYes, wipeE, idle, put_c0, put_c1, put_c2, put_c3, put_c4, put_c5, put_c6, put_c7, put_c8, put_c9, put_c10, put_c11, put_c12, put_c13, put_c14, put_c15, put_c16, put_c17, put_c18, put_c19, put_c20, put_c21, put_c22, put_c23, wIx, itD]; rfl) rfl (fun a m => ⟨[.fz (rowD rows), .fz d, .ow ((logF (rows.take i) xs).map lgD ++ [lgD (outsF (rows.take i) xs, goes r.2 (outsF (rows.take i) xs))]), .fz (.list (dI (outsF (rows.take i) xs))), .fz (.int r.1), .fz (beD r.2), .fz (.list (dI (goes r.2 (outsF (rows.take i) xs)))), .fz (.int a)], by simp [xRet, xRetL, xSeq, xSet, xSetL, xIf, xDrop, xAsg, xNil, xNo, xPar, puts, xApp, xAug, xIce, xUn, s1, s2, sA0, sA1, sCall, sCallL, sCallM, sCallS, sCallSL, sB, sAndT, sOrT, sNotT, sAnd, sOr, sIf, sTup, sLst, sFz, sV, sC, sChain, sLenO, sIxO, sCmpO, sPop, sSl, sRevO, sRevD, rNil, rF, rL, rLL, addR, subR, fdivR, modR, ltR, leR, gtR, geR, isNR, notNR, isNone, len_t, len_l, absR, intR, minR, tupleR, isiR, subTy, tyD, revTR, negR, gN, gT, gCns, Fw.gNil, oN, oS, lstOf, setLst, ice, noAl, sYes, wipeE, idle, put_c0, put_c1, put_c2, put_c3, put_c4, put_c5, put_c6, put_c7, put_c8, put_c9, put_c10, put_c11, put_c12, put_c13, put_c14, put_c15, put_c16, put_c17, put_c18, put_c19, put_c20, put_c21, put_c22, put_c23], by simp [xRet, xRetL, xSeq, xSet, xSetL, xIf, xDrop, xAsg, xNil, xNo, xPar, puts, xApp, xAug, xIce, xUn, s1, s2, sA0, sA1, sCall, sCallL, sCallM, sCallS, sCallSL, sB, sAndT, sOrT, sNotT, sAnd, sOr, sIf, sTup, sLst, sFz, sV, sC, sChain, sLenO, sIxO, sCmpO, sPop, sSl, sRevO, sRevD, rNil, rF, rL, rLL, addR, subR, fdivR, modR, ltR, leR, gtR, geR, isNR, notNR, isNone, len_t, len_l, absR, intR, minR, tupleR, isiR, subTy, tyD, revTR, negR, gN, gT, gCns, Fw.gNil, oN, oS, lstOf, setLst, ice, noAl, sYes, wipeE, idle, put_c0, put_c1, put_c2, put_c3, put_c4, put_c5, put_c6, put_c7, put_c8, put_c9, put_c10, put_c11, put_c12, put_c13, put_c14, put_c15, put_c16, put_c17, put_c18, put_c19, put_c20, put_c21, put_c22, put_c23], by simp [xRet, xRetL, xSeq, xSet, xSetL, xIf, xDrop, xAsg, xNil, xNo, xPar, puts, xApp, xAug, xIce, xUn, s1, s2, sA0, sA1, sCall, sCallL, sCallM, sCallS, sCallSL, sB, sAndT, sOrT, sNotT, sAnd, sOr, sIf, sTup, sLst, sFz, sV, sC, sChain, sLenO, sIxO, sCmpO, sPop, sSl, sRevO, sRevD, rNil, rF, rL, rLL, addR, subR, fdivR, modR, ltR, leR, gtR, geR, isNR, notNR, isNone, len_t, len_l, absR, intR, minR, tupleR, isiR, subTy, tyD, revTR, negR, gN, gT, gCns, Fw.gNil, oN, oS, lstOf, setLst, ice, noAl, sYes, wipeE, idle, put_c0, put_c1, put_c2, put_c3, put_c4, put_c5, put_c6, put_c7, put_c8, put_c9, put_c10, put_c11, put_c12, put_c13, put_c14, put_c15, put_c16, put_c17, put_c18, put_c19, put_c20, put_c21, put_c22, put_c23]⟩)
      rw [add_map] at hL
      rw [List.length_map] at hs
      simp [bg, hL, hs, h2, stg, xRet, xRetL, xSeq, xSet, xSetL, xIf, xDrop, xAsg, xNil, xNo, xPar, puts, xApp, xAug, xIce, xUn, s1, s2, sA0, sA1, sCall, sCallL, sCallM, sCallS, sCallSL, sB, sAndT, sOrT, sNotT, sAnd, sOr, sIf, sTup, sLst, sFz, sV, sC, sChain, sLenO, sIxO, sCmpO, sPop, sSl, sRevO, sRevD, rNil, rF, rL, rLL, addR, subR, fdivR, modR, ltR, leR, gtR, geR, isNR, notNR, isNone, len_t, len_l, absR, intR, minR, tupleR, isiR, subTy, tyD, revTR, negR, gN, gT, gCns, Fw.gNil, oN, oS, lstOf, setLst, ice, noAl, sYes, wipeE, idle, put_c0, put_c1, put_c2, put_c3, put_c4, put_c5, put_c6, put_c7, put_c8, put_c9, put_c10, put_c11, put_c12, put_c13, put_c14, put_c15, put_c16, put_c17, put_c18, put_c19, put_c20, put_c21, put_c22, put_c23]) (δ := [.fz (rowD rows), .fz d, .ow [], .fz (.list (dI xs)), .un, .un, .un, .un]) ⟨.un, .un, .un, inferInstance, inferInstance, inferInstance, rfl⟩
  obtain ⟨δ', f1, u, v, w, fu, fv, fw, rfl⟩ := hF
  rw [List.length_map, List.take_length] at f1
  have hI : wIx (sV 0) [.fz (rowD rows), .fz d, .ow [], .fz (.list (dI xs)), .un, .un, .un, .un] = some (rows.map rwD, [.fz (rowD rows), .fz d, .ow [], .fz (.list (dI xs)), .un, .un, .un, .un]) := by simp [rowD, xRet, xRetL, xSeq, xSet, xSetL, xIf, xDrop, xAsg, xNil, xNo, xPar, puts, xApp, xAug, xIce, xUn, s1, s2, sA0, sA1, sCall, sCallL, sCallM, sCallS, sCallSL, sB, sAndT, sOrT, sNotT, sAnd, sOr, sIf, sTup, sLst, sFz, sV, sC, sChain, sLenO, sIxO, sCmpO, sPop, sSl, sRevO, sRevD, rNil, rF, rL, rLL, addR, subR, fdivR, modR, ltR, leR, gtR, geR, isNR, notNR, isNone, len_t, len_l, absR, intR, minR, tupleR, isiR, subTy, tyD, revTR, negR, gN, gT, gCns, Fw.gNil, oN, oS, lstOf, setLst, ice, noAl, sYes, wipeE, idle, put_c0, put_c1, put_c2, put_c3, put_c4, put_c5, put_c6, put_c7, put_c8, put_c9, put_c10, put_c11, put_c12, put_c13, put_c14, put_c15, put_c16, put_c17, put_c18, put_c19, put_c20, put_c21, put_c22, put_c23, wIx, itD]
  have h1 := hd.list
  simp only [d_goes_in, denF, denM, denS, denSL, uns, List.replicate, List.length_cons, List.length_nil, List.map_cons, List.map_nil, List.cons_append, List.nil_append, if_true, Nat.zero_add, Nat.reduceAdd, reduceIte]
  simp [i_goes_in, xFor, h1, hI, f1, xRet, xRetL, xSeq, xSet, xSetL, xIf, xDrop, xAsg, xNil, xNo, xPar, puts, xApp, xAug, xIce, xUn, s1, s2, sA0, sA1, sCall, sCallL, sCallM, sCallS, sCallSL, sB, sAndT, sOrT, sNotT, sAnd, sOr, sIf, sTup, sLst, sFz, sV, sC, sChain, sLenO, sIxO, sCmpO, sPop, sSl, sRevO, sRevD, rNil, rF, rL, rLL, addR, subR, fdivR, modR, ltR, leR, gtR, geR, isNR, notNR, isNone, len_t, len_l, absR, intR, minR, tupleR, isiR, subTy, tyD, revTR, negR, gN, gT, gCns, Fw.gNil, oN, oS, lstOf, setLst, ice, noAl, sYes, wipeE, idle, put_c0, put_c1, put_c2, put_c3, put_c4, put_c5, put_c6, put_c7, put_c8, put_c9, put_c10, put_c11, put_c12, put_c13, put_c14, put_c15, put_c16, put_c17, put_c18, put_c19, put_c20, put_c21, put_c22, put_c23]
theorem row_out_ok {rows : List Rw} (hr : RowOk rows) {xs : List Int} (hx : Srt xs) (hb : ∀ x ∈ xs, x ≤ 10000) (hl : xs.length ≤ 600) : d_row_out [rowD rows, .tuple (dI xs)] = some (.tuple (dI (outsF rows xs))) := by
  have h1 := need_row_ok hr
  have h2 := need_ticks_ok hl hx.srt fun n m => ⟨hx.pos n m, hb n m⟩
  have h3 := outs_in_ok hr (.inr rfl) hx (by omega)
  simp only [d_row_out, denF, denM, denS, denSL, uns, List.replicate, List.length_cons, List.length_nil, List.map_cons, List.map_nil, List.cons_append, List.nil_append, if_true, Nat.zero_add, Nat.reduceAdd, reduceIte]
  simp [i_row_out, h1, h2, h3, xRet, xRetL, xSeq, xSet, xSetL, xIf, xDrop, xAsg, xNil, xNo, xPar, puts, xApp, xAug, xIce, xUn, s1, s2, sA0, sA1, sCall, sCallL, sCallM, sCallS, sCallSL, sB, sAndT, sOrT, sNotT, sAnd, sOr, sIf, sTup, sLst, sFz, sV, sC, sChain, sLenO, sIxO, sCmpO, sPop, sSl, sRevO, sRevD, rNil, rF, rL, rLL, addR, subR, fdivR, modR, ltR, leR, gtR, geR, isNR, notNR, isNone, len_t, len_l, absR, intR, minR, tupleR, isiR, subTy, tyD, revTR, negR, gN, gT, gCns, Fw.gNil, oN, oS, lstOf, setLst, ice, noAl, sYes, wipeE, idle, put_c0, put_c1, put_c2, put_c3, put_c4, put_c5, put_c6, put_c7, put_c8, put_c9, put_c10, put_c11, put_c12, put_c13, put_c14, put_c15, put_c16, put_c17, put_c18, put_c19, put_c20, put_c21, put_c22, put_c23]
theorem rangeD_nat (n : Nat) : rangeD 0 (n : Int) = (List.range n).map fun i : Nat => PyData.int (i : Int) := by unfold rangeD; simp
theorem wRng1_nat {a : FA} {δ δ1 : Fw.Env} {n : Nat} (h : a δ = some ([.int (n : Int)], δ1)) (hn : n ≤ 1000) : wRng1 a δ = some ((List.range n).map fun i : Nat => PyData.int (i : Int), δ1) := by
  unfold wRng1
  rw [h]
  have : (n : Int) ≤ sizeLine := by have := small hn; omega
  simp only [rangeD_nat]
  rw [if_pos ⟨by omega, this⟩]
def wtF (rows : List Rw) (xs : List Int) (k : Nat) : List Int := (logF rows xs).map fun p => p.2.getD k 0 - p.1.getD k 0
def wtD (rows : List Rw) (xs : List Int) : PyData := .tuple ((List.range xs.length).map fun k => .tuple (dI (wtF rows xs k)))
theorem getD_at {xs : List Int} {k : Nat} (h : k < xs.length) : xs[k]? = some (xs.getD k 0) := by rw [List.getD_eq_getElem?_getD, List.getElem?_eq_getElem h]; rfl
theorem row_waits_ok {rows : List Rw} (hr : RowOk rows) {xs : List Int} (hx : Srt xs) (hb : ∀ x ∈ xs, x ≤ 10000) (hl : xs.length ≤ 600) : d_row_waits [rowD rows, .tuple (dI xs)] = some (wtD rows xs) := by
  have h1 := need_row_ok hr
  have h2 := need_ticks_ok hl hx.srt fun n m => ⟨hx.pos n m, hb n m⟩
  have h3 := goes_in_ok hr (.inr rfl) hx (by omega)
  have hO := sLc_map (vs := [5]) (it := wRng1 (sA1 (sCall lenR (sA1 (sV 1) sA0)) sA0)) (p := gN 5) (e := sCall tupleR (sA1 (sFz (sLc [3, 4] (wIx (sV 2)) (gT 2 (gCns (gN 3) (gCns (gN 4) Fw.gNil))) sYes (s2 subR (s2 ixR (sV 4) (sV 5)) (s2 ixR (sV 3) (sV 5))))) sA0))
    (δ0 := [.fz (rowD rows), .fz (.tuple (dI xs)), .fz (.list ((logF rows xs).map lgD)), .un, .un, .un]) (δ1 := [.fz (rowD rows), .fz (.tuple (dI xs)), .fz (.list ((logF rows xs).map lgD)), .un, .un, .un])
    (as := List.range xs.length) (enc := fun k : Nat => .int (k : Int)) (fun k => .tuple (dI (wtF rows xs k))) (wRng1_nat (by simp [dI_len, xRet, xRetL, xSeq, xSet, xSetL, xIf, xDrop, xAsg, xNil, xNo, xPar, puts, xApp, xAug, xIce, xUn, s1, s2, sA0, sA1, sCall, sCallL, sCallM, sCallS, sCallSL, sB, sAndT, sOrT, sNotT, sAnd, sOr, sIf, sTup, sLst, sFz, sV, sC, sChain, sLenO, sIxO, sCmpO, sPop, sSl, sRevO, sRevD, rNil, rF, rL, rLL, addR, subR, fdivR, modR, ltR, leR, gtR, geR, isNR, notNR, isNone, len_t, len_l, absR, intR, minR, tupleR, isiR, subTy, tyD, revTR, negR, gN, gT, gCns, Fw.gNil, oN, oS, lstOf, setLst, ice, noAl, sYes, wipeE, idle, put_c0, put_c1, put_c2, put_c3, put_c4, put_c5, put_c6, put_c7, put_c8, put_c9, put_c10, put_c11, put_c12, put_c13, put_c14, put_c15, put_c16, put_c17, put_c18, put_c19, put_c20, put_c21, put_c22, put_c23]) (by omega)) rfl (fun k m => ⟨[.fz (rowD rows), .fz (.tuple (dI xs)), .fz (.list ((logF rows xs).map lgD)), .un, .un, .fz (.int k)], by simp [xRet, xRetL, xSeq, xSet, xSetL, xIf, xDrop, xAsg, xNil, xNo, xPar, puts, xApp, xAug, xIce, xUn, s1, s2, sA0, sA1, sCall, sCallL, sCallM, sCallS, sCallSL, sB, sAndT, sOrT, sNotT, sAnd, sOr, sIf, sTup, sLst, sFz, sV, sC, sChain, sLenO, sIxO, sCmpO, sPop, sSl, sRevO, sRevD, rNil, rF, rL, rLL, addR, subR, fdivR, modR, ltR, leR, gtR, geR, isNR, notNR, isNone, len_t, len_l, absR, intR, minR, tupleR, isiR, subTy, tyD, revTR, negR, gN, gT, gCns, Fw.gNil, oN, oS, lstOf, setLst, ice, noAl, sYes, wipeE, idle, put_c0, put_c1, put_c2, put_c3, put_c4, put_c5, put_c6, put_c7, put_c8, put_c9, put_c10, put_c11, put_c12, put_c13, put_c14, put_c15, put_c16, put_c17, put_c18, put_c19, put_c20, put_c21, put_c22, put_c23], by
      have hk := List.mem_range.mp m
      have hL := sLc_map (vs := [3, 4]) (it := wIx (sV 2)) (p := gT 2 (gCns (gN 3) (gCns (gN 4) Fw.gNil))) (e := s2 subR (s2 ixR (sV 4) (sV 5)) (s2 ixR (sV 3) (sV 5))) (δ0 := [.fz (rowD rows), .fz (.tuple (dI xs)), .fz (.list ((logF rows xs).map lgD)), .un, .un, .fz (.int k)]) (δ1 := [.fz (rowD rows), .fz (.tuple (dI xs)), .fz (.list ((logF rows xs).map lgD)), .un, .un, .fz (.int k)])
        (as := logF rows xs) (enc := lgD) (fun p => .int (p.2.getD k 0 - p.1.getD k 0)) (by simp [xRet, xRetL, xSeq, xSet, xSetL, xIf, xDrop, xAsg, xNil, xNo, xPar, puts, xApp, xAug, xIce, xUn, s1, s2, sA0, sA1, sCall, sCallL, sCallM, sCallS, sCallSL, sB, sAndT, sOrT, sNotT, sAnd, sOr, sIf, sTup, sLst, sFz, sV, sC, sChain, sLenO, sIxO, sCmpO, sPop, sSl, sRevO, sRevD, rNil, rF, rL, rLL, addR, subR, fdivR, modR, ltR, leR, gtR, geR, isNR, notNR, isNone, len_t, len_l, absR, intR, minR, tupleR, isiR, subTy, tyD, revTR, negR, gN, gT, gCns, Fw.gNil, oN, oS, lstOf, setLst, ice, noAl, sYes, wipeE, idle, put_c0, put_c1, put_c2, put_c3, put_c4, put_c5, put_c6, put_c7, put_c8, put_c9, put_c10, put_c11, put_c12, put_c13, put_c14, put_c15, put_c16, put_c17, put_c18, put_c19, put_c20, put_c21, put_c22, put_c23, wIx, itD]) rfl (fun p mp => ⟨[.fz (rowD rows), .fz (.tuple (dI xs)), .fz (.list ((logF rows xs).map lgD)), .fz (.list (dI p.1)), .fz (.list (dI p.2)), .fz (.int k)], by simp [xRet, xRetL, xSeq, xSet, xSetL, xIf, xDrop, xAsg, xNil, xNo, xPar, puts, xApp, xAug, xIce, xUn, s1, s2, sA0, sA1, sCall, sCallL, sCallM, sCallS, sCallSL, sB, sAndT, sOrT, sNotT, sAnd, sOr, sIf, sTup, sLst, sFz, sV, sC, sChain, sLenO, sIxO, sCmpO, sPop, sSl, sRevO, sRevD, rNil, rF, rL, rLL, addR, subR, fdivR, modR, ltR, leR, gtR, geR, isNR, notNR, isNone, len_t, len_l, absR, intR, minR, tupleR, isiR, subTy, tyD, revTR, negR, gN, gT, gCns, Fw.gNil, oN, oS, lstOf, setLst, ice, noAl, sYes, wipeE, idle, put_c0, put_c1, put_c2, put_c3, put_c4, put_c5, put_c6, put_c7, put_c8, put_c9, put_c10, put_c11, put_c12, put_c13, put_c14, put_c15, put_c16, put_c17, put_c18, put_c19, put_c20, put_c21, put_c22, put_c23], by
          have hp := logF_mem mp
          have g1 := ix_lst (dI_get (getD_at (xs := p.1) (k := k) (by omega)))
          have g2 := ix_lst (dI_get (getD_at (xs := p.2) (k := k) (by omega)))
          simp [g1, g2, -List.getD_eq_getElem?_getD, xRet, xRetL, xSeq, xSet, xSetL, xIf, xDrop, xAsg, xNil, xNo, xPar, puts, xApp, xAug, xIce, xUn, s1, s2, sA0, sA1, sCall, sCallL, sCallM, sCallS, sCallSL, sB, sAndT, sOrT, sNotT, sAnd, sOr, sIf, sTup, sLst, sFz, sV, sC, sChain, sLenO, sIxO, sCmpO, sPop, sSl, sRevO, sRevD, rNil, rF, rL, rLL, addR, subR, fdivR, modR, ltR, leR, gtR, geR, isNR, notNR, isNone, len_t, len_l, absR, intR, minR, tupleR, isiR, subTy, tyD, revTR, negR, gN, gT, gCns, Fw.gNil, oN, oS, lstOf, setLst, ice, noAl, sYes, wipeE, idle, put_c0, put_c1, put_c2, put_c3, put_c4, put_c5, put_c6, put_c7, put_c8, put_c9, put_c10, put_c11, put_c12, put_c13, put_c14, put_c15, put_c16, put_c17, put_c18, put_c19, put_c20, put_c21, put_c22, put_c23], by simp [xRet, xRetL, xSeq, xSet, xSetL, xIf, xDrop, xAsg, xNil, xNo, xPar, puts, xApp, xAug, xIce, xUn, s1, s2, sA0, sA1, sCall, sCallL, sCallM, sCallS, sCallSL, sB, sAndT, sOrT, sNotT, sAnd, sOr, sIf, sTup, sLst, sFz, sV, sC, sChain, sLenO, sIxO, sCmpO, sPop, sSl, sRevO, sRevD, rNil, rF, rL, rLL, addR, subR, fdivR, modR, ltR, leR, gtR, geR, isNR, notNR, isNone, len_t, len_l, absR, intR, minR, tupleR, isiR, subTy, tyD, revTR, negR, gN, gT, gCns, Fw.gNil, oN, oS, lstOf, setLst, ice, noAl, sYes, wipeE, idle, put_c0, put_c1, put_c2, put_c3, put_c4, put_c5, put_c6, put_c7, put_c8, put_c9, put_c10, put_c11, put_c12, put_c13, put_c14, put_c15, put_c16, put_c17, put_c18, put_c19, put_c20, put_c21, put_c22, put_c23]⟩)
      have e : ((logF rows xs).map fun p => PyData.int (p.2.getD k 0 - p.1.getD k 0)) = dI (wtF rows xs k) := by unfold dI wtF; rw [List.map_map]; rfl
      rw [e] at hL
      simp [hL, xRet, xRetL, xSeq, xSet, xSetL, xIf, xDrop, xAsg, xNil, xNo, xPar, puts, xApp, xAug, xIce, xUn, s1, s2, sA0, sA1, sCall, sCallL, sCallM, sCallS, sCallSL, sB, sAndT, sOrT, sNotT, sAnd, sOr, sIf, sTup, sLst, sFz, sV, sC, sChain, sLenO, sIxO, sCmpO, sPop, sSl, sRevO, sRevD, rNil, rF, rL, rLL, addR, subR, fdivR, modR, ltR, leR, gtR, geR, isNR, notNR, isNone, len_t, len_l, absR, intR, minR, tupleR, isiR, subTy, tyD, revTR, negR, gN, gT, gCns, Fw.gNil, oN, oS, lstOf, setLst, ice, noAl, sYes, wipeE, idle, put_c0, put_c1, put_c2, put_c3, put_c4, put_c5, put_c6, put_c7, put_c8, put_c9, put_c10, put_c11, put_c12, put_c13, put_c14, put_c15, put_c16, put_c17, put_c18, put_c19, put_c20, put_c21, put_c22, put_c23], by simp [xRet, xRetL, xSeq, xSet, xSetL, xIf, xDrop, xAsg, xNil, xNo, xPar, puts, xApp, xAug, xIce, xUn, s1, s2, sA0, sA1, sCall, sCallL, sCallM, sCallS, sCallSL, sB, sAndT, sOrT, sNotT, sAnd, sOr, sIf, sTup, sLst, sFz, sV, sC, sChain, sLenO, sIxO, sCmpO, sPop, sSl, sRevO, sRevD, rNil, rF, rL, rLL, addR, subR, fdivR, modR, ltR, leR, gtR, geR, isNR, notNR, isNone, len_t, len_l, absR, intR, minR, tupleR, isiR, subTy, tyD, revTR, negR, gN, gT, gCns, Fw.gNil, oN, oS, lstOf, setLst, ice, noAl, sYes, wipeE, idle, put_c0, put_c1, put_c2, put_c3, put_c4, put_c5, put_c6, put_c7, put_c8, put_c9, put_c10, put_c11, put_c12, put_c13, put_c14, put_c15, put_c16, put_c17, put_c18, put_c19, put_c20, put_c21, put_c22, put_c23]⟩)
  simp only [d_row_waits, denF, denM, denS, denSL, uns, List.replicate, List.length_cons, List.length_nil, List.map_cons, List.map_nil, List.cons_append, List.nil_append, if_true, Nat.zero_add, Nat.reduceAdd, reduceIte]
  simp [i_row_waits, h1, h2, h3, hO, wtD, xRet, xRetL, xSeq, xSet, xSetL, xIf, xDrop, xAsg, xNil, xNo, xPar, puts, xApp, xAug, xIce, xUn, s1, s2, sA0, sA1, sCall, sCallL, sCallM, sCallS, sCallSL, sB, sAndT, sOrT, sNotT, sAnd, sOr, sIf, sTup, sLst, sFz, sV, sC, sChain, sLenO, sIxO, sCmpO, sPop, sSl, sRevO, sRevD, rNil, rF, rL, rLL, addR, subR, fdivR, modR, ltR, leR, gtR, geR, isNR, notNR, isNone, len_t, len_l, absR, intR, minR, tupleR, isiR, subTy, tyD, revTR, negR, gN, gT, gCns, Fw.gNil, oN, oS, lstOf, setLst, ice, noAl, sYes, wipeE, idle, put_c0, put_c1, put_c2, put_c3, put_c4, put_c5, put_c6, put_c7, put_c8, put_c9, put_c10, put_c11, put_c12, put_c13, put_c14, put_c15, put_c16, put_c17, put_c18, put_c19, put_c20, put_c21, put_c22, put_c23]
end L95

end
section
set_option Elab.async false
set_option linter.all false
set_option maxRecDepth 100000
/-! The gates: the latest that does, where it is what is asked. -/
namespace L95
open PySem PySem.Spec PyProof.Rows L2 Fw Pl
noncomputable def lgB : FS := (xSeq (xIf (sB (s2 ltR (sV 5) (sV 3))) (xPar [3, 4] (rF (sV 5) (rF (sC (.int 0)) rNil))) xNil)
    (xSeq (xWhile (sAndT (sB (s2 geR (sV 3) (sC (.int 0)))) (sB (s2 eqR (sV 4) (s2 ixR (sV 0) (s2 modR (sV 3) (sCall lenR (sA1 (sV 0) sA0))))))) (xPar [3, 4] (rF (s2 subR (sV 3) (sC (.int 1))) (rF (sC (.int 0)) rNil))))
    (xSeq (xIf (sB (s2 ltR (sV 3) (sC (.int 0)))) (xRet (sC .none)) xNil)
    (xSeq (xApp 2 (sV 3))
    (xAug 4 (fun i j => i + j) (sC (.int 1)))))))
theorem lgB_ok {c t u x : Int} {a : Slot} {os : List PyData} (ho : os.length ≤ 1000) (hx : 0 ≤ x) (h1 : x < t ∧ 1 ≤ c ∨ x = t ∧ u ≠ c) :
    lgB [.fz (beD c), a, .ow os, .fz (.int t), .fz (.int u), .fz (.int x)] = some (.nx [.fz (beD c), a, .ow (os ++ [.int x]), .fz (.int x), .fz (.int ((if x < t then 0 else u) + 1)), .fz (.int x)]) := by
  have hs := small ho
  have b := be_0 c
  have wh : ∀ u' : Int, u' ≠ c → xWhile (sAndT (sB (s2 geR (sV 3) (sC (.int 0)))) (sB (s2 eqR (sV 4) (s2 ixR (sV 0) (s2 modR (sV 3) (sCall lenR (sA1 (sV 0) sA0))))))) (xPar [3, 4] (rF (s2 subR (sV 3) (sC (.int 1))) (rF (sC (.int 0)) rNil))) [.fz (beD c), a, .ow os, .fz (.int x), .fz (.int u'), .fz (.int x)] = some (.nx [.fz (beD c), a, .ow os, .fz (.int x), .fz (.int u'), .fz (.int x)]) := fun u' hu => by
    refine xWhile_stop ?_
    have e := (b x).1
    have hu' : (u' == c) = false := by simpa using hu
    simp [(b x).2.1, (b x).2.2, e, eq_int, hx, hu', s1, s2, sAndT, sB, sCall, sA1, sA0, sV, sC, geR]
  have nlt : ¬ x < 0 := by omega
  unfold lgB
  by_cases q : x < t
  · simp [xSeq, xIf, q, wh 0 (by omega), hs, nlt, xRet, xRetL, xSeq, xSet, xSetL, xIf, xDrop, xAsg, xNil, xNo, xPar, puts, xApp, xAug, xIce, xUn, s1, s2, sA0, sA1, sCall, sCallL, sCallM, sCallS, sCallSL, sB, sAndT, sOrT, sNotT, sAnd, sOr, sIf, sTup, sLst, sFz, sV, sC, sChain, sLenO, sIxO, sCmpO, sPop, sSl, sRevO, sRevD, rNil, rF, rL, rLL, addR, subR, fdivR, modR, ltR, leR, gtR, geR, isNR, notNR, isNone, len_t, len_l, absR, intR, minR, tupleR, isiR, subTy, tyD, revTR, negR, gN, gT, gCns, Fw.gNil, oN, oS, lstOf, setLst, ice, noAl, sYes, wipeE, idle, put_c0, put_c1, put_c2, put_c3, put_c4, put_c5, put_c6, put_c7, put_c8, put_c9, put_c10, put_c11, put_c12, put_c13, put_c14, put_c15, put_c16, put_c17, put_c18, put_c19, put_c20, put_c21, put_c22, put_c23]
  · rcases h1 with h1 | ⟨rfl, h1⟩
    · exact absurd h1.1 q
    · simp [xSeq, xIf, wh u h1, hs, nlt, xRet, xRetL, xSeq, xSet, xSetL, xIf, xDrop, xAsg, xNil, xNo, xPar, puts, xApp, xAug, xIce, xUn, s1, s2, sA0, sA1, sCall, sCallL, sCallM, sCallS, sCallSL, sB, sAndT, sOrT, sNotT, sAnd, sOr, sIf, sTup, sLst, sFz, sV, sC, sChain, sLenO, sIxO, sCmpO, sPop, sSl, sRevO, sRevD, rNil, rF, rL, rLL, addR, subR, fdivR, modR, ltR, leR, gtR, geR, isNR, notNR, isNone, len_t, len_l, absR, intR, minR, tupleR, isiR, subTy, tyD, revTR, negR, gN, gT, gCns, Fw.gNil, oN, oS, lstOf, setLst, ice, noAl, sYes, wipeE, idle, put_c0, put_c1, put_c2, put_c3, put_c4, put_c5, put_c6, put_c7, put_c8, put_c9, put_c10, put_c11, put_c12, put_c13, put_c14, put_c15, put_c16, put_c17, put_c18, put_c19, put_c20, put_c21, put_c22, put_c23]
theorem latest_goes_ok {c : Int} (hc : 1 ≤ c) {xs : List Int} (hx : Srt xs) (hl : xs.length ≤ 1000) (cp : Cap c xs) : d_latest_goes [beD c, .list (dI xs)] = some (.list (dI xs)) := by
  let T : Nat → Int := fun i => (xs.reverse.take i).getLast?.getD (xs.getLast?.getD 0)
  have hF := forL_inv (p := gN 5) (body := lgB) (as := dI xs.reverse) (fun i δ => ∃ u, Fre u ∧ δ = [.fz (beD c), .fz (.list (dI xs)), .ow (dI (xs.reverse.take i)), .fz (.int (T i)), .fz (.int ((xs.reverse.take i).count (T i) : Nat)), u]) (fun i d δ e ⟨u, fu, eδ⟩ => by
      subst eδ
      obtain ⟨x, hx', rfl⟩ := dI_inv e
      have hi := (List.getElem?_eq_some_iff.mp hx').1
      have mx : x ∈ xs := List.mem_reverse.mp (List.mem_of_getElem? hx')
      have pw : xs.reverse.Pairwise (fun a b => b ≤ a) := List.pairwise_reverse.mpr hx.srt
      have et : xs.reverse.take (i + 1) = xs.reverse.take i ++ [x] := by rw [List.take_add_one, hx']; rfl
      have pt : (xs.reverse.take i ++ [x]).Pairwise (fun a b => b ≤ a) := by rw [← et]; exact pw.sublist (List.take_sublist _ _)
      have ge : ∀ y ∈ xs.reverse.take i, x ≤ y := fun y m => (List.pairwise_append.mp pt).2.2 y m x (by simp)
      -- T i is the least of those before, or x itself at the begin
      have hT : (i = 0 ∧ T i = x) ∨ (T i ∈ xs.reverse.take i ∧ ∀ y ∈ xs.reverse.take i, T i ≤ y) := by
        cases i with
        | zero =>
          left
          refine ⟨rfl, ?_⟩
          show ((xs.reverse.take 0).getLast?.getD (xs.getLast?.getD 0)) = x
          rw [List.getElem?_reverse (by simpa using hi)] at hx'
          have lx : xs.getLast? = some x := by rw [List.getLast?_eq_getElem?]; simpa using hx'
          simp [lx]
        | succ j =>
          right
          obtain ⟨z, hz⟩ : ∃ z, xs.reverse[j]? = some z := ⟨xs.reverse[j]'(by omega), List.getElem?_eq_getElem _⟩
          have e2 : xs.reverse.take (j + 1) = xs.reverse.take j ++ [z] := by rw [List.take_add_one, hz]; rfl
          have eT : T (j + 1) = z := by show ((xs.reverse.take (j + 1)).getLast?.getD _) = z; rw [e2]; simp
          rw [eT, e2]
          refine ⟨by simp, fun y m => ?_⟩
          have pj : (xs.reverse.take j ++ [z]).Pairwise (fun a b => b ≤ a) := by rw [← e2]; exact pw.sublist (List.take_sublist _ _)
          rcases List.mem_append.mp m with q | q
          · exact (List.pairwise_append.mp pj).2.2 y q z (by simp)
          · have : y = z := by simpa using q
            omega
      have le : x ≤ T i := by
        rcases hT with ⟨_, q⟩ | ⟨q, _⟩
        · omega
        · exact ge _ q
      have cx : ((xs.reverse.take i).count x : Int) + 1 ≤ c := by
        have a : (xs.reverse.take (i + 1)).count x ≤ xs.reverse.count x := (List.take_sublist _ _).count_le x
        rw [et, List.count_append, List.count_reverse] at a
        have b := cp x
        simp at a
        omega
      have cnt : (if x < T i then 0 else ((xs.reverse.take i).count (T i) : Int)) = ((xs.reverse.take i).count x : Int) := by
        by_cases q : x < T i
        · rw [if_pos q]
          rcases hT with ⟨_, z⟩ | ⟨_, z⟩
          · omega
          · have : (xs.reverse.take i).count x = 0 := List.count_eq_zero.mpr fun m => by have := z x m; omega
            rw [this]; rfl
        · have : T i = x := by omega
          rw [if_neg q, this]
      have h1 : x < T i ∧ 1 ≤ c ∨ x = T i ∧ ((xs.reverse.take i).count (T i) : Int) ≠ c := by
        by_cases q : x < T i
        · exact .inl ⟨q, hc⟩
        · have : T i = x := by omega
          refine .inr ⟨this.symm, ?_⟩
          rw [this]; omega
      refine ⟨[.fz (beD c), .fz (.list (dI xs)), .ow (dI (xs.reverse.take i)), .fz (.int (T i)), .fz (.int ((xs.reverse.take i).count (T i) : Nat)), .fz (.int x)], _, by simp [xRet, xRetL, xSeq, xSet, xSetL, xIf, xDrop, xAsg, xNil, xNo, xPar, puts, xApp, xAug, xIce, xUn, s1, s2, sA0, sA1, sCall, sCallL, sCallM, sCallS, sCallSL, sB, sAndT, sOrT, sNotT, sAnd, sOr, sIf, sTup, sLst, sFz, sV, sC, sChain, sLenO, sIxO, sCmpO, sPop, sSl, sRevO, sRevD, rNil, rF, rL, rLL, addR, subR, fdivR, modR, ltR, leR, gtR, geR, isNR, notNR, isNone, len_t, len_l, absR, intR, minR, tupleR, isiR, subTy, tyD, revTR, negR, gN, gT, gCns, Fw.gNil, oN, oS, lstOf, setLst, ice, noAl, sYes, wipeE, idle, put_c0, put_c1, put_c2, put_c3, put_c4, put_c5, put_c6, put_c7, put_c8, put_c9, put_c10, put_c11, put_c12, put_c13, put_c14, put_c15, put_c16, put_c17, put_c18, put_c19, put_c20, put_c21, put_c22, put_c23], lgB_ok (by rw [dI_len, List.length_take, List.length_reverse]; omega) (hx.pos x mx) h1, .fz (.int x), inferInstance, ?_⟩
      have eT : T (i + 1) = x := by show ((xs.reverse.take (i + 1)).getLast?.getD _) = x; rw [et]; simp
      have eC : (((xs.reverse.take i ++ [x]).count x : Nat) : Int) = ((xs.reverse.take i).count x : Int) + 1 := by rw [List.count_append]; simp
      rw [eT, et, cnt, dI_snoc, eC]) (δ := [.fz (beD c), .fz (.list (dI xs)), .ow [], .fz (.int (T 0)), .fz (.int 0), .un]) ⟨.un, inferInstance, rfl⟩
  obtain ⟨δ', f1, u, fu, rfl⟩ := hF
  rw [dI_len, List.take_length] at f1
  have er : (dI xs).reverse = dI xs.reverse := by unfold dI; rw [List.map_reverse]
  have hI : wIx (sFz (sRevD (sV 1))) [.fz (beD c), .fz (.list (dI xs)), .ow [], .fz (.int (T 0)), .fz (.int 0), .un] = some (dI xs.reverse, [.fz (beD c), .fz (.list (dI xs)), .ow [], .fz (.int (T 0)), .fz (.int 0), .un]) := by simp [← er, xRet, xRetL, xSeq, xSet, xSetL, xIf, xDrop, xAsg, xNil, xNo, xPar, puts, xApp, xAug, xIce, xUn, s1, s2, sA0, sA1, sCall, sCallL, sCallM, sCallS, sCallSL, sB, sAndT, sOrT, sNotT, sAnd, sOr, sIf, sTup, sLst, sFz, sV, sC, sChain, sLenO, sIxO, sCmpO, sPop, sSl, sRevO, sRevD, rNil, rF, rL, rLL, addR, subR, fdivR, modR, ltR, leR, gtR, geR, isNR, notNR, isNone, len_t, len_l, absR, intR, minR, tupleR, isiR, subTy, tyD, revTR, negR, gN, gT, gCns, Fw.gNil, oN, oS, lstOf, setLst, ice, noAl, sYes, wipeE, idle, put_c0, put_c1, put_c2, put_c3, put_c4, put_c5, put_c6, put_c7, put_c8, put_c9, put_c10, put_c11, put_c12, put_c13, put_c14, put_c15, put_c16, put_c17, put_c18, put_c19, put_c20, put_c21, put_c22, put_c23, wIx, itD]
  have hP : (xPar [2, 3, 4] (rL (sLst sA0) (rF (sIf (sB (s2 neR (sV 1) (sFz (sLst sA0)))) (s2 ixR (sV 1) (s1 negR (sC (.int 1)))) (sC (.int 0))) (rF (sC (.int 0)) rNil)))) [.fz (beD c), .fz (.list (dI xs)), .un, .un, .un, .un] = some (.nx [.fz (beD c), .fz (.list (dI xs)), .ow [], .fz (.int (T 0)), .fz (.int 0), .un]) := by
    have z0 : 0 ≤ sizeLine := Nat.zero_le _
    have sh : ∀ ns : List Int, SeqAt.shaped (.list (dI ns)) = true := fun ns => shaped_ok 1 (fun d m => by
      obtain ⟨n, _, rfl⟩ := List.mem_map.mp m
      exact trivial) (by omega)
    have s0 : SeqAt.shaped (.list []) = true := sh []
    cases q : xs.getLast? with
    | none =>
      have e0 : xs = [] := List.getLast?_eq_none_iff.mp q
      subst e0
      have : neR (.list (dI [])) (.list []) = some (.bool false) := by
        show neR (.list []) (.list []) = _
        unfold neR
        simp only [s0]
        rfl
      have eT : T 0 = 0 := rfl
      rw [eT]
      simp [this, z0, xRet, xRetL, xSeq, xSet, xSetL, xIf, xDrop, xAsg, xNil, xNo, xPar, puts, xApp, xAug, xIce, xUn, s1, s2, sA0, sA1, sCall, sCallL, sCallM, sCallS, sCallSL, sB, sAndT, sOrT, sNotT, sAnd, sOr, sIf, sTup, sLst, sFz, sV, sC, sChain, sLenO, sIxO, sCmpO, sPop, sSl, sRevO, sRevD, rNil, rF, rL, rLL, addR, subR, fdivR, modR, ltR, leR, gtR, geR, isNR, notNR, isNone, len_t, len_l, absR, intR, minR, tupleR, isiR, subTy, tyD, revTR, negR, gN, gT, gCns, Fw.gNil, oN, oS, lstOf, setLst, ice, noAl, sYes, wipeE, idle, put_c0, put_c1, put_c2, put_c3, put_c4, put_c5, put_c6, put_c7, put_c8, put_c9, put_c10, put_c11, put_c12, put_c13, put_c14, put_c15, put_c16, put_c17, put_c18, put_c19, put_c20, put_c21, put_c22, put_c23]
    | some l =>
      have hne : xs ≠ [] := fun z => by rw [z] at q; cases q
      have e1 : neR (.list (dI xs)) (.list []) = some (.bool true) := by
        cases xs with
        | nil => exact absurd rfl hne
        | cons y ys =>
          unfold neR
          simp only [s0, sh]
          rfl
      have e2 : ixR (.list (dI xs)) (.int (-1)) = some (.int l) := ix_ll (by unfold dI; rw [List.getLast?_map, q]; rfl)
      have eT : T 0 = l := by show (([] : List Int).getLast?.getD (xs.getLast?.getD 0)) = l; rw [q]; rfl
      rw [eT]
      simp [e1, e2, z0, xRet, xRetL, xSeq, xSet, xSetL, xIf, xDrop, xAsg, xNil, xNo, xPar, puts, xApp, xAug, xIce, xUn, s1, s2, sA0, sA1, sCall, sCallL, sCallM, sCallS, sCallSL, sB, sAndT, sOrT, sNotT, sAnd, sOr, sIf, sTup, sLst, sFz, sV, sC, sChain, sLenO, sIxO, sCmpO, sPop, sSl, sRevO, sRevD, rNil, rF, rL, rLL, addR, subR, fdivR, modR, ltR, leR, gtR, geR, isNR, notNR, isNone, len_t, len_l, absR, intR, minR, tupleR, isiR, subTy, tyD, revTR, negR, gN, gT, gCns, Fw.gNil, oN, oS, lstOf, setLst, ice, noAl, sYes, wipeE, idle, put_c0, put_c1, put_c2, put_c3, put_c4, put_c5, put_c6, put_c7, put_c8, put_c9, put_c10, put_c11, put_c12, put_c13, put_c14, put_c15, put_c16, put_c17, put_c18, put_c19, put_c20, put_c21, put_c22, put_c23]
  have e : i_latest_goes = xSeq (xPar [2, 3, 4] (rL (sLst sA0) (rF (sIf (sB (s2 neR (sV 1) (sFz (sLst sA0)))) (s2 ixR (sV 1) (s1 negR (sC (.int 1)))) (sC (.int 0))) (rF (sC (.int 0)) rNil)))) (xSeq (xFor (wIx (sFz (sRevD (sV 1)))) (gN 5) lgB) (xRet (sFz (sRevO 2)))) := rfl
  simp only [d_latest_goes, denF, denM, denS, denSL, uns, List.replicate, List.length_cons, List.length_nil, List.map_cons, List.map_nil, List.cons_append, List.nil_append, if_true, Nat.zero_add, Nat.reduceAdd, reduceIte]
  have e' : i_latest_goes [.fz (beD c), .fz (.list (dI xs)), .un, .un, .un, .un] = some (.rt (.list (dI xs)) [.fz (beD c), .fz (.list (dI xs)), .ow (dI xs.reverse), .fz (.int (T xs.reverse.length)), .fz (.int (xs.reverse.count (T xs.reverse.length) : Nat)), u]) := by
    rw [e]
    unfold xSeq
    rw [hP]
    simp only [xFor, hI, f1]
    have er2 : (dI xs.reverse).reverse = dI xs := by rw [← er, List.reverse_reverse]
    simp [er2, xRet, xRetL, xSeq, xSet, xSetL, xIf, xDrop, xAsg, xNil, xNo, xPar, puts, xApp, xAug, xIce, xUn, s1, s2, sA0, sA1, sCall, sCallL, sCallM, sCallS, sCallSL, sB, sAndT, sOrT, sNotT, sAnd, sOr, sIf, sTup, sLst, sFz, sV, sC, sChain, sLenO, sIxO, sCmpO, sPop, sSl, sRevO, sRevD, rNil, rF, rL, rLL, addR, subR, fdivR, modR, ltR, leR, gtR, geR, isNR, notNR, isNone, len_t, len_l, absR, intR, minR, tupleR, isiR, subTy, tyD, revTR, negR, gN, gT, gCns, Fw.gNil, oN, oS, lstOf, setLst, ice, noAl, sYes, wipeE, idle, put_c0, put_c1, put_c2, put_c3, put_c4, put_c5, put_c6, put_c7, put_c8, put_c9, put_c10, put_c11, put_c12, put_c13, put_c14, put_c15, put_c16, put_c17, put_c18, put_c19, put_c20, put_c21, put_c22, put_c23]
  rw [e']
end L95

end
section
set_option Elab.async false
set_option linter.all false
set_option maxRecDepth 100000
/-! Held back at the gate. -/
namespace L95
open PySem PySem.Spec PyProof.Rows L2 Fw Pl
def tot (rows : List Rw) : Int := (rows.map (·.1)).sum
theorem tot_cons (r : Rw) (rows : List Rw) : tot (r :: rows) = r.1 + tot rows := rfl
theorem tot_app (a b : List Rw) : tot (a ++ b) = tot a + tot b := by unfold tot; rw [List.map_append, List.sum_append]
theorem tot_rev (a : List Rw) : tot a.reverse = tot a := by
  induction a with
  | nil => rfl
  | cons r a ih =>
    have e1 : tot [r] = r.1 := by show r.1 + 0 = _; omega
    rw [List.reverse_cons, tot_app, ih, e1, tot_cons]; omega
theorem tot_nonneg : ∀ {rows : List Rw}, (∀ r ∈ rows, 0 ≤ r.1) → 0 ≤ tot rows
  | [], _ => Int.le_refl 0
  | r :: rows, h => by
    have := tot_nonneg (rows := rows) fun q m => h q (by simp [m])
    have a := h r (by simp)
    rw [tot_cons]; omega
theorem tot_take {rows : List Rw} (h : ∀ r ∈ rows, 0 ≤ r.1) (i : Nat) : tot (rows.take i) ≤ tot rows := by
  have e := tot_app (rows.take i) (rows.drop i)
  rw [List.take_append_drop] at e
  have := tot_nonneg (rows := rows.drop i) fun r m => h r (List.mem_of_mem_drop m)
  omega
def sh (s : Int) (ws : List Int) : List Int := ws.map (· - s)
theorem sh_sh (s t : Int) (ws : List Int) : sh t (sh s ws) = sh (s + t) ws := by
  unfold sh
  rw [List.map_map]
  refine List.map_congr_left fun w _ => ?_
  show w - s - t = w - (s + t)
  omega
theorem sh_0 (ws : List Int) : sh 0 ws = ws := by unfold sh; simp
theorem count_sh (s t : Int) : ∀ ws : List Int, (sh s ws).count t = ws.count (t + s)
  | [] => rfl
  | w :: ws => by
    have ih := count_sh s t ws
    unfold sh at ih ⊢
    rw [List.map_cons, List.count_cons, List.count_cons, ih]
    by_cases q : w - s = t
    · have : w = t + s := by omega
      simp [q, this]
    · have : ¬ w = t + s := by omega
      simp [q, this]
theorem cap_sh {c s : Int} {ws : List Int} (h : Cap c ws) : Cap c (sh s ws) := fun t => by rw [count_sh]; exact h _
theorem add_sh (ws : List Int) (s : Int) : ws.map (· + s) = sh (-s) ws := by
  unfold sh
  refine List.map_congr_left fun w _ => ?_
  omega
theorem cap_add {c s : Int} {ws : List Int} (h : Cap c ws) : Cap c (ws.map (· + s)) := by rw [add_sh]; exact cap_sh h
theorem sh_srt {s : Int} {ws : List Int} (h : ws.Pairwise (· ≤ ·)) (hb : ∀ w ∈ ws, s ≤ w) : Srt (sh s ws) := by
  refine ⟨List.pairwise_map.mpr (h.imp fun h => by omega), fun y m => ?_⟩
  obtain ⟨w, hw, rfl⟩ := List.mem_map.mp m
  have := hb w hw
  show 0 ≤ w - s
  omega
theorem stg_ge {xs : List Int} {r : Rw} (hx : Srt xs) (h2 : 1 ≤ r.2) {a : Int} (ha : ∀ x ∈ xs, a ≤ x) : ∀ w ∈ stg xs r, a + r.1 ≤ w := by
  intro w m
  obtain ⟨g, hg, rfl⟩ := List.mem_map.mp m
  obtain ⟨k, hk, e⟩ := List.getElem_of_mem hg
  have G := gd_goes h2 xs hx
  have hk' : k < xs.length := by rw [← G.len]; exact hk
  have := G.ge k _ _ (List.getElem?_eq_getElem hk') (List.getElem?_eq_getElem hk)
  have b := ha _ (List.getElem_mem hk')
  show a + r.1 ≤ g + r.1
  rw [← e]; omega
theorem outsF_ge : ∀ {rows : List Rw} {xs : List Int} {a : Int}, (∀ r ∈ rows, 1 ≤ r.1 ∧ 1 ≤ r.2) → Srt xs → (∀ x ∈ xs, a ≤ x) → ∀ w ∈ outsF rows xs, a + tot rows ≤ w
  | [], xs, a, _, _, ha, w, m => by
    have := ha w m
    show a + 0 ≤ w
    omega
  | r :: rows, xs, a, hr, hx, ha, w, m => by
    have rr := hr r (by simp)
    have := outsF_ge (rows := rows) (fun q m => hr q (by simp [m])) (stg_srt hx (by omega) rr.2) (stg_ge hx rr.2 ha) w m
    rw [tot_cons]; omega
theorem outsF_keep {c : Int} : ∀ {rows : List Rw} {xs : List Int}, (∀ r ∈ rows, 1 ≤ r.1 ∧ 1 ≤ r.2) → Srt xs → Cap c xs → Cap c (outsF rows xs)
  | [], _, _, _, h => h
  | r :: rows, xs, hr, hx, h => by
    have rr := hr r (by simp)
    exact outsF_keep (rows := rows) (fun q m => hr q (by simp [m])) (stg_srt hx (by omega) rr.2) (cap_add (goes_cap rr.2 hx h))
theorem outsF_cap : ∀ {rows : List Rw} {xs : List Int}, (∀ r ∈ rows, 1 ≤ r.1 ∧ 1 ≤ r.2) → Srt xs → ∀ r ∈ rows, Cap r.2 (outsF rows xs)
  | r :: rows, xs, hr, hx, q, m => by
    have rr := hr r (by simp)
    have hr' : ∀ q ∈ rows, 1 ≤ q.1 ∧ 1 ≤ q.2 := fun q m => hr q (by simp [m])
    have hs := stg_srt hx (by omega) rr.2
    rcases List.mem_cons.mp m with rfl | m
    · show Cap q.2 (outsF rows (stg xs q))
      exact outsF_keep hr' hs (cap_add (gd_goes rr.2 xs hx).cap)
    · exact outsF_cap hr' hs q m
theorem outsF_free : ∀ {rows : List Rw} {xs : List Int}, (∀ r ∈ rows, 1 ≤ r.1 ∧ 1 ≤ r.2) → Srt xs → (∀ r ∈ rows, Cap r.2 xs) → outsF rows xs = xs.map (· + tot rows)
  | [], xs, _, _, _ => by
    show xs = xs.map (· + (0 : Int))
    simp
  | r :: rows, xs, hr, hx, h => by
    have rr := hr r (by simp)
    have e : stg xs r = xs.map (· + r.1) := by unfold stg; rw [goes_self xs hx (h r (by simp))]
    have ih := outsF_free (rows := rows) (xs := stg xs r) (fun q m => hr q (by simp [m])) (stg_srt hx (by omega) rr.2) (fun q m => by rw [e]; exact cap_add (h q (by simp [m])))
    show outsF rows (stg xs r) = _
    rw [ih, e, List.map_map, tot_cons]
    refine List.map_congr_left fun w _ => ?_
    show w + r.1 + tot rows = w + (r.1 + tot rows)
    omega
theorem latest_in_ok {rows : List Rw} (hr : RowOk rows) {d : PyData} {ws : List Int} (hd : SeqI d ws) (hs : ws.Pairwise (· ≤ ·)) (hb : ∀ w ∈ ws, tot rows ≤ w) (hc : ∀ r ∈ rows, Cap r.2 ws) (hl : ws.length ≤ 1000) :
    d_latest_in [rowD rows, d] = some (.list (dI (sh (tot rows) ws))) := by
  have nn : ∀ r ∈ rows.reverse, 0 ≤ r.1 := fun r m => by have := hr.ok r (List.mem_reverse.mp m); omega
  have hF := forL_inv (p := gT 2 (gCns (gN 3) (gCns (gN 4) Fw.gNil))) (body := (xSeq (xSet 2 (sCall d_latest_goes (sA1 (sV 4) (sA1 (sFz (sLc [5] (wIx (sV 2)) (gN 5) sYes (s2 subR (sV 5) (sV 3)))) sA0))))
    (xIf (sB (s2 isNR (sV 2) (sC .none))) (xRet (sC .none)) xNil))) (as := rows.reverse.map rwD)
    (fun i δ => ∃ u v, Fre u ∧ Fre v ∧ δ = [.fz (rowD rows), .fz d, .fz (.list (dI (sh (tot (rows.reverse.take i)) ws))), u, v, .un]) (fun i q δ e ⟨u, v, fu, fv, eδ⟩ => by
      subst eδ
      obtain ⟨r, hi, hm, rfl⟩ := rowD_inv e
      have rr := hr.ok r (List.mem_reverse.mp hm)
      have et : tot (rows.reverse.take (i + 1)) = tot (rows.reverse.take i) + r.1 := by
        have : rows.reverse.take (i + 1) = rows.reverse.take i ++ [r] := by rw [List.take_add_one, hi]; rfl
        rw [this, tot_app]; show _ + (r.1 + 0) = _; omega
      have le := tot_take nn (i + 1)
      rw [tot_rev] at le
      have lg := latest_goes_ok (c := r.2) (by omega) (xs := sh (tot (rows.reverse.take (i + 1))) ws) (sh_srt hs fun w m => Int.le_trans le (hb w m)) (by unfold sh; rw [List.length_map]; exact hl) (cap_sh (hc r (List.mem_reverse.mp hm)))
      refine ⟨[.fz (rowD rows), .fz d, .fz (.list (dI (sh (tot (rows.reverse.take i)) ws))), .fz (.int r.1), .fz (beD r.2), .un], [.fz (rowD rows), .fz d, .fz (.list (dI (sh (tot (rows.reverse.take (i + 1))) ws))), .fz (.int r.1), .fz (beD r.2), .un], by simp [xRet, xRetL, xSeq, xSet, xSetL, xIf, xDrop, xAsg, xNil, xNo, xPar, puts, xApp, xAug, xIce, xUn, s1, s2, sA0, sA1, sCall, sCallL, sCallM, sCallS, sCallSL, sB, sAndT, sOrT, sNotT, sAnd, sOr, sIf, sTup, sLst, sFz, sV, sC, sChain, sLenO, sIxO, sCmpO, sPop, sSl, sRevO, sRevD, rNil, rF, rL, rLL, addR, subR, fdivR, modR, ltR, leR, gtR, geR, isNR, notNR, isNone, len_t, len_l, absR, intR, minR, tupleR, isiR, subTy, tyD, revTR, negR, gN, gT, gCns, Fw.gNil, oN, oS, lstOf, setLst, ice, noAl, sYes, wipeE, idle, put_c0, put_c1, put_c2, put_c3, put_c4, put_c5, put_c6, put_c7, put_c8, put_c9, put_c10, put_c11, put_c12, put_c13, put_c14, put_c15, put_c16, put_c17, put_c18, put_c19, put_c20, put_c21, put_c22, put_c23], ?_, .fz (.int r.1), .fz (beD r.2), inferInstance, inferInstance, rfl⟩
      have hL := sLc_map (vs := [5]) (it := wIx (sV 2)) (p := gN 5) (e := s2 subR (sV 5) (sV 3)) (δ0 := [.fz (rowD rows), .fz d, .fz (.list (dI (sh (tot (rows.reverse.take i)) ws))), .fz (.int r.1), .fz (beD r.2), .un]) (δ1 := [.fz (rowD rows), .fz d, .fz (.list (dI (sh (tot (rows.reverse.take i)) ws))), .fz (.int r.1), .fz (beD r.2), .un])
        (as := sh (tot (rows.reverse.take i)) ws) (enc := .int) (fun n => .int (n - r.1)) (by simp [xRet, xRetL, xSeq, xSet, xSetL, xIf, xDrop, xAsg, xNil, xNo, xPar, puts, xApp, xAug, xIce, xUn, s1, s2, sA0, sA1, sCall, sCallL, sCallM, sCallS, sCallSL, sB, sAndT, sOrT, sNotT, sAnd, sOr, sIf, sTup, sLst, sFz, sV, sC, sChain, sLenO, sIxO, sCmpO, sPop, sSl, sRevO, sRevD, rNil, rF, rL, rLL, addR, subR, fdivR, modR, ltR, leR, gtR, geR, isNR, notNR, isNone, len_t, len_l, absR, intR, minR, tupleR, isiR, subTy, tyD, revTR, negR, gN, gT, gCns, Fw.gNil, oN, oS, lstOf, setLst, ice, noAl, sYes, wipeE, idle, put_c0, put_c1, put_c2, put_c3, put_c4, put_c5, put_c6, put_c7, put_c8, put_c9, put_c10, put_c11, put_c12, put_c13, put_c14, put_c15, put_c16, put_c17, put_c18, put_c19, put_c20, put_c21, put_c22, put_c23, wIx, itD]; rfl) rfl (fun a m => ⟨[.fz (rowD rows), .fz d, .fz (.list (dI (sh (tot (rows.reverse.take i)) ws))), .fz (.int r.1), .fz (beD r.2), .fz (.int a)], by simp [xRet, xRetL, xSeq, xSet, xSetL, xIf, xDrop, xAsg, xNil, xNo, xPar, puts, xApp, xAug, xIce, xUn, s1, s2, sA0, sA1, sCall, sCallL, sCallM, sCallS, sCallSL, sB, sAndT, sOrT, sNotT, sAnd, sOr, sIf, sTup, sLst, sFz, sV, sC, sChain, sLenO, sIxO, sCmpO, sPop, sSl, sRevO, sRevD, rNil, rF, rL, rLL, addR, subR, fdivR, modR, ltR, leR, gtR, geR, isNR, notNR, isNone, len_t, len_l, absR, intR, minR, tupleR, isiR, subTy, tyD, revTR, negR, gN, gT, gCns, Fw.gNil, oN, oS, lstOf, setLst, ice, noAl, sYes, wipeE, idle, put_c0, put_c1, put_c2, put_c3, put_c4, put_c5, put_c6, put_c7, put_c8, put_c9, put_c10, put_c11, put_c12, put_c13, put_c14, put_c15, put_c16, put_c17, put_c18, put_c19, put_c20, put_c21, put_c22, put_c23], by simp [xRet, xRetL, xSeq, xSet, xSetL, xIf, xDrop, xAsg, xNil, xNo, xPar, puts, xApp, xAug, xIce, xUn, s1, s2, sA0, sA1, sCall, sCallL, sCallM, sCallS, sCallSL, sB, sAndT, sOrT, sNotT, sAnd, sOr, sIf, sTup, sLst, sFz, sV, sC, sChain, sLenO, sIxO, sCmpO, sPop, sSl, sRevO, sRevD, rNil, rF, rL, rLL, addR, subR, fdivR, modR, ltR, leR, gtR, geR, isNR, notNR, isNone, len_t, len_l, absR, intR, minR, tupleR, isiR, subTy, tyD, revTR, negR, gN, gT, gCns, Fw.gNil, oN, oS, lstOf, setLst, ice, noAl, sYes, wipeE, idle, put_c0, put_c1, put_c2, put_c3, put_c4, put_c5, put_c6, put_c7, put_c8, put_c9, put_c10, put_c11, put_c12, put_c13, put_c14, put_c15, put_c16, put_c17, put_c18, put_c19, put_c20, put_c21, put_c22, put_c23], by simp [xRet, xRetL, xSeq, xSet, xSetL, xIf, xDrop, xAsg, xNil, xNo, xPar, puts, xApp, xAug, xIce, xUn, s1, s2, sA0, sA1, sCall, sCallL, sCallM, sCallS, sCallSL, sB, sAndT, sOrT, sNotT, sAnd, sOr, sIf, sTup, sLst, sFz, sV, sC, sChain, sLenO, sIxO, sCmpO, sPop, sSl, sRevO, sRevD, rNil, rF, rL, rLL, addR, subR, fdivR, modR, ltR, leR, gtR, geR, isNR, notNR, isNone, len_t, len_l, absR, intR, minR, tupleR, isiR, subTy, tyD, revTR, negR, gN, gT, gCns, Fw.gNil, oN, oS, lstOf, setLst, ice, noAl, sYes, wipeE, idle, put_c0, put_c1, put_c2, put_c3, put_c4, put_c5, put_c6, put_c7, put_c8, put_c9, put_c10, put_c11, put_c12, put_c13, put_c14, put_c15, put_c16, put_c17, put_c18, put_c19, put_c20, put_c21, put_c22, put_c23]⟩)
      have e2 : ((sh (tot (rows.reverse.take i)) ws).map fun n => PyData.int (n - r.1)) = dI (sh (tot (rows.reverse.take (i + 1))) ws) := by
        rw [et, ← sh_sh]; unfold dI sh; rw [List.map_map, List.map_map]; simp [List.map_map]
      rw [e2] at hL
      simp [hL, lg, xRet, xRetL, xSeq, xSet, xSetL, xIf, xDrop, xAsg, xNil, xNo, xPar, puts, xApp, xAug, xIce, xUn, s1, s2, sA0, sA1, sCall, sCallL, sCallM, sCallS, sCallSL, sB, sAndT, sOrT, sNotT, sAnd, sOr, sIf, sTup, sLst, sFz, sV, sC, sChain, sLenO, sIxO, sCmpO, sPop, sSl, sRevO, sRevD, rNil, rF, rL, rLL, addR, subR, fdivR, modR, ltR, leR, gtR, geR, isNR, notNR, isNone, len_t, len_l, absR, intR, minR, tupleR, isiR, subTy, tyD, revTR, negR, gN, gT, gCns, Fw.gNil, oN, oS, lstOf, setLst, ice, noAl, sYes, wipeE, idle, put_c0, put_c1, put_c2, put_c3, put_c4, put_c5, put_c6, put_c7, put_c8, put_c9, put_c10, put_c11, put_c12, put_c13, put_c14, put_c15, put_c16, put_c17, put_c18, put_c19, put_c20, put_c21, put_c22, put_c23]) (δ := [.fz (rowD rows), .fz d, .fz (.list (dI ws)), .un, .un, .un]) ⟨.un, .un, inferInstance, inferInstance, by
        have : sh (tot (rows.reverse.take 0)) ws = ws := sh_0 ws
        rw [this]⟩
  obtain ⟨δ', f1, u, v, fu, fv, rfl⟩ := hF
  rw [List.length_map, List.take_length, tot_rev] at f1
  have hI : wIx (s1 revTR (sV 0)) [.fz (rowD rows), .fz d, .fz (.list (dI ws)), .un, .un, .un] = some (rows.reverse.map rwD, [.fz (rowD rows), .fz d, .fz (.list (dI ws)), .un, .un, .un]) := by simp [rowD, xRet, xRetL, xSeq, xSet, xSetL, xIf, xDrop, xAsg, xNil, xNo, xPar, puts, xApp, xAug, xIce, xUn, s1, s2, sA0, sA1, sCall, sCallL, sCallM, sCallS, sCallSL, sB, sAndT, sOrT, sNotT, sAnd, sOr, sIf, sTup, sLst, sFz, sV, sC, sChain, sLenO, sIxO, sCmpO, sPop, sSl, sRevO, sRevD, rNil, rF, rL, rLL, addR, subR, fdivR, modR, ltR, leR, gtR, geR, isNR, notNR, isNone, len_t, len_l, absR, intR, minR, tupleR, isiR, subTy, tyD, revTR, negR, gN, gT, gCns, Fw.gNil, oN, oS, lstOf, setLst, ice, noAl, sYes, wipeE, idle, put_c0, put_c1, put_c2, put_c3, put_c4, put_c5, put_c6, put_c7, put_c8, put_c9, put_c10, put_c11, put_c12, put_c13, put_c14, put_c15, put_c16, put_c17, put_c18, put_c19, put_c20, put_c21, put_c22, put_c23, wIx, itD]
  have h1 := hd.list
  simp only [d_latest_in, denF, denM, denS, denSL, uns, List.replicate, List.length_cons, List.length_nil, List.map_cons, List.map_nil, List.cons_append, List.nil_append, if_true, Nat.zero_add, Nat.reduceAdd, reduceIte]
  simp [i_latest_in, xFor, h1, hI, f1, -List.map_reverse, xRet, xRetL, xSeq, xSet, xSetL, xIf, xDrop, xAsg, xNil, xNo, xPar, puts, xApp, xAug, xIce, xUn, s1, s2, sA0, sA1, sCall, sCallL, sCallM, sCallS, sCallSL, sB, sAndT, sOrT, sNotT, sAnd, sOr, sIf, sTup, sLst, sFz, sV, sC, sChain, sLenO, sIxO, sCmpO, sPop, sSl, sRevO, sRevD, rNil, rF, rL, rLL, addR, subR, fdivR, modR, ltR, leR, gtR, geR, isNR, notNR, isNone, len_t, len_l, absR, intR, minR, tupleR, isiR, subTy, tyD, revTR, negR, gN, gT, gCns, Fw.gNil, oN, oS, lstOf, setLst, ice, noAl, sYes, wipeE, idle, put_c0, put_c1, put_c2, put_c3, put_c4, put_c5, put_c6, put_c7, put_c8, put_c9, put_c10, put_c11, put_c12, put_c13, put_c14, put_c15, put_c16, put_c17, put_c18, put_c19, put_c20, put_c21, put_c22, put_c23]
theorem row_pos {rows : List Rw} (hr : RowOk rows) : ∀ r ∈ rows, 1 ≤ r.1 ∧ 1 ≤ r.2 := fun r m => ⟨(hr.ok r m).1, (hr.ok r m).2.2.1⟩
theorem outs_tot {rows : List Rw} (hr : RowOk rows) {xs : List Int} (hx : Srt xs) : ∀ w ∈ outsF rows xs, tot rows ≤ w := fun w m => by
  have := outsF_ge (row_pos hr) hx hx.pos w m
  omega
theorem latest_outs {rows : List Rw} (hr : RowOk rows) {d : PyData} {xs : List Int} (hx : Srt xs) (hd : SeqI d (outsF rows xs)) (hl : xs.length ≤ 1000) : d_latest_in [rowD rows, d] = some (.list (dI (sh (tot rows) (outsF rows xs)))) := by
  have ok := outsF_ok rows xs (row_pos hr) hx
  exact latest_in_ok hr hd ok.1.srt (outs_tot hr hx) (outsF_cap (row_pos hr) hx) (by rw [ok.2]; exact hl)
theorem held_back_ok {rows : List Rw} (hr : RowOk rows) {xs : List Int} (hx : Srt xs) (hb : ∀ x ∈ xs, x ≤ 10000) (hl : xs.length ≤ 600) : d_held_back [rowD rows, .tuple (dI xs)] = some (.tuple (dI (sh (tot rows) (outsF rows xs)))) := by
  have h1 := need_row_ok hr
  have h2 := need_ticks_ok hl hx.srt fun n m => ⟨hx.pos n m, hb n m⟩
  have h3 := outs_in_ok hr (.inr rfl) hx (by omega)
  have h4 := latest_outs hr hx (.inl rfl) (by omega)
  simp only [d_held_back, denF, denM, denS, denSL, uns, List.replicate, List.length_cons, List.length_nil, List.map_cons, List.map_nil, List.cons_append, List.nil_append, if_true, Nat.zero_add, Nat.reduceAdd, reduceIte]
  simp [i_held_back, h1, h2, h3, h4, xRet, xRetL, xSeq, xSet, xSetL, xIf, xDrop, xAsg, xNil, xNo, xPar, puts, xApp, xAug, xIce, xUn, s1, s2, sA0, sA1, sCall, sCallL, sCallM, sCallS, sCallSL, sB, sAndT, sOrT, sNotT, sAnd, sOr, sIf, sTup, sLst, sFz, sV, sC, sChain, sLenO, sIxO, sCmpO, sPop, sSl, sRevO, sRevD, rNil, rF, rL, rLL, addR, subR, fdivR, modR, ltR, leR, gtR, geR, isNR, notNR, isNone, len_t, len_l, absR, intR, minR, tupleR, isiR, subTy, tyD, revTR, negR, gN, gT, gCns, Fw.gNil, oN, oS, lstOf, setLst, ice, noAl, sYes, wipeE, idle, put_c0, put_c1, put_c2, put_c3, put_c4, put_c5, put_c6, put_c7, put_c8, put_c9, put_c10, put_c11, put_c12, put_c13, put_c14, put_c15, put_c16, put_c17, put_c18, put_c19, put_c20, put_c21, put_c22, put_c23]
theorem sum_ints (ns : List Int) : sumR [.list (dI ns)] = some (.int ns.sum) := by unfold sumR dI; simp only [intsD_map]
theorem sum_intsT (ns : List Int) : sumR [.tuple (dI ns)] = some (.int ns.sum) := by unfold sumR dI; simp only [intsD_map]
theorem least_inside_ok {rows : List Rw} (hr : RowOk rows) {xs : List Int} (hx : Srt xs) (hb : ∀ x ∈ xs, x ≤ 10000) (hl : xs.length ≤ 600) : d_least_inside [rowD rows, .tuple (dI xs)] = some (.int ((outsF rows xs).sum - (sh (tot rows) (outsF rows xs)).sum)) := by
  have h1 := need_row_ok hr
  have h2 := need_ticks_ok hl hx.srt fun n m => ⟨hx.pos n m, hb n m⟩
  have h3 := outs_in_ok hr (.inr rfl) hx (by omega)
  have h4 := latest_outs hr hx (.inl rfl) (by omega)
  simp only [d_least_inside, denF, denM, denS, denSL, uns, List.replicate, List.length_cons, List.length_nil, List.map_cons, List.map_nil, List.cons_append, List.nil_append, if_true, Nat.zero_add, Nat.reduceAdd, reduceIte]
  simp [i_least_inside, h1, h2, h3, h4, sum_ints, xRet, xRetL, xSeq, xSet, xSetL, xIf, xDrop, xAsg, xNil, xNo, xPar, puts, xApp, xAug, xIce, xUn, s1, s2, sA0, sA1, sCall, sCallL, sCallM, sCallS, sCallSL, sB, sAndT, sOrT, sNotT, sAnd, sOr, sIf, sTup, sLst, sFz, sV, sC, sChain, sLenO, sIxO, sCmpO, sPop, sSl, sRevO, sRevD, rNil, rF, rL, rLL, addR, subR, fdivR, modR, ltR, leR, gtR, geR, isNR, notNR, isNone, len_t, len_l, absR, intR, minR, tupleR, isiR, subTy, tyD, revTR, negR, gN, gT, gCns, Fw.gNil, oN, oS, lstOf, setLst, ice, noAl, sYes, wipeE, idle, put_c0, put_c1, put_c2, put_c3, put_c4, put_c5, put_c6, put_c7, put_c8, put_c9, put_c10, put_c11, put_c12, put_c13, put_c14, put_c15, put_c16, put_c17, put_c18, put_c19, put_c20, put_c21, put_c22, put_c23]
theorem inside_ok {rows : List Rw} (hr : RowOk rows) {xs : List Int} (hx : Srt xs) (hb : ∀ x ∈ xs, x ≤ 10000) (hl : xs.length ≤ 600) : d_inside [rowD rows, .tuple (dI xs)] = some (.tuple (dI ((xs.zip (outsF rows xs)).map fun p => p.2 - p.1))) := by
  have h1 := need_row_ok hr
  have h2 := need_ticks_ok hl hx.srt fun n m => ⟨hx.pos n m, hb n m⟩
  have h3 := outs_in_ok hr (.inr rfl) hx (by omega)
  have hz : zipD (dI xs) (dI (outsF rows xs)) = (xs.zip (outsF rows xs)).map fun p => PyData.tuple [.int p.1, .int p.2] := by rw [zipD_zip, zip_ints, List.map_map]; rfl
  have hL := sLc_map (vs := [2, 3]) (it := wZip (sA1 (sV 1) (sA1 (sCall d_outs_in (sA1 (sV 0) (sA1 (sV 1) sA0))) sA0))) (p := gT 2 (gCns (gN 2) (gCns (gN 3) Fw.gNil))) (e := s2 subR (sV 3) (sV 2)) (δ0 := [.fz (rowD rows), .fz (.tuple (dI xs)), .un, .un]) (δ1 := [.fz (rowD rows), .fz (.tuple (dI xs)), .un, .un])
    (as := xs.zip (outsF rows xs)) (enc := fun p => .tuple [.int p.1, .int p.2]) (fun p => .int (p.2 - p.1)) (by simp [wZip, h3, ← hz, xRet, xRetL, xSeq, xSet, xSetL, xIf, xDrop, xAsg, xNil, xNo, xPar, puts, xApp, xAug, xIce, xUn, s1, s2, sA0, sA1, sCall, sCallL, sCallM, sCallS, sCallSL, sB, sAndT, sOrT, sNotT, sAnd, sOr, sIf, sTup, sLst, sFz, sV, sC, sChain, sLenO, sIxO, sCmpO, sPop, sSl, sRevO, sRevD, rNil, rF, rL, rLL, addR, subR, fdivR, modR, ltR, leR, gtR, geR, isNR, notNR, isNone, len_t, len_l, absR, intR, minR, tupleR, isiR, subTy, tyD, revTR, negR, gN, gT, gCns, Fw.gNil, oN, oS, lstOf, setLst, ice, noAl, sYes, wipeE, idle, put_c0, put_c1, put_c2, put_c3, put_c4, put_c5, put_c6, put_c7, put_c8, put_c9, put_c10, put_c11, put_c12, put_c13, put_c14, put_c15, put_c16, put_c17, put_c18, put_c19, put_c20, put_c21, put_c22, put_c23, wIx, itD]) rfl (fun a m => ⟨[.fz (rowD rows), .fz (.tuple (dI xs)), .fz (.int a.1), .fz (.int a.2)], by simp [xRet, xRetL, xSeq, xSet, xSetL, xIf, xDrop, xAsg, xNil, xNo, xPar, puts, xApp, xAug, xIce, xUn, s1, s2, sA0, sA1, sCall, sCallL, sCallM, sCallS, sCallSL, sB, sAndT, sOrT, sNotT, sAnd, sOr, sIf, sTup, sLst, sFz, sV, sC, sChain, sLenO, sIxO, sCmpO, sPop, sSl, sRevO, sRevD, rNil, rF, rL, rLL, addR, subR, fdivR, modR, ltR, leR, gtR, geR, isNR, notNR, isNone, len_t, len_l, absR, intR, minR, tupleR, isiR, subTy, tyD, revTR, negR, gN, gT, gCns, Fw.gNil, oN, oS, lstOf, setLst, ice, noAl, sYes, wipeE, idle, put_c0, put_c1, put_c2, put_c3, put_c4, put_c5, put_c6, put_c7, put_c8, put_c9, put_c10, put_c11, put_c12, put_c13, put_c14, put_c15, put_c16, put_c17, put_c18, put_c19, put_c20, put_c21, put_c22, put_c23], by simp [xRet, xRetL, xSeq, xSet, xSetL, xIf, xDrop, xAsg, xNil, xNo, xPar, puts, xApp, xAug, xIce, xUn, s1, s2, sA0, sA1, sCall, sCallL, sCallM, sCallS, sCallSL, sB, sAndT, sOrT, sNotT, sAnd, sOr, sIf, sTup, sLst, sFz, sV, sC, sChain, sLenO, sIxO, sCmpO, sPop, sSl, sRevO, sRevD, rNil, rF, rL, rLL, addR, subR, fdivR, modR, ltR, leR, gtR, geR, isNR, notNR, isNone, len_t, len_l, absR, intR, minR, tupleR, isiR, subTy, tyD, revTR, negR, gN, gT, gCns, Fw.gNil, oN, oS, lstOf, setLst, ice, noAl, sYes, wipeE, idle, put_c0, put_c1, put_c2, put_c3, put_c4, put_c5, put_c6, put_c7, put_c8, put_c9, put_c10, put_c11, put_c12, put_c13, put_c14, put_c15, put_c16, put_c17, put_c18, put_c19, put_c20, put_c21, put_c22, put_c23], by simp [xRet, xRetL, xSeq, xSet, xSetL, xIf, xDrop, xAsg, xNil, xNo, xPar, puts, xApp, xAug, xIce, xUn, s1, s2, sA0, sA1, sCall, sCallL, sCallM, sCallS, sCallSL, sB, sAndT, sOrT, sNotT, sAnd, sOr, sIf, sTup, sLst, sFz, sV, sC, sChain, sLenO, sIxO, sCmpO, sPop, sSl, sRevO, sRevD, rNil, rF, rL, rLL, addR, subR, fdivR, modR, ltR, leR, gtR, geR, isNR, notNR, isNone, len_t, len_l, absR, intR, minR, tupleR, isiR, subTy, tyD, revTR, negR, gN, gT, gCns, Fw.gNil, oN, oS, lstOf, setLst, ice, noAl, sYes, wipeE, idle, put_c0, put_c1, put_c2, put_c3, put_c4, put_c5, put_c6, put_c7, put_c8, put_c9, put_c10, put_c11, put_c12, put_c13, put_c14, put_c15, put_c16, put_c17, put_c18, put_c19, put_c20, put_c21, put_c22, put_c23]⟩)
  have e : ((xs.zip (outsF rows xs)).map fun p => PyData.int (p.2 - p.1)) = dI ((xs.zip (outsF rows xs)).map fun p => p.2 - p.1) := by unfold dI; rw [List.map_map]; rfl
  rw [e] at hL
  simp only [d_inside, denF, denM, denS, denSL, uns, List.replicate, List.length_cons, List.length_nil, List.map_cons, List.map_nil, List.cons_append, List.nil_append, if_true, Nat.zero_add, Nat.reduceAdd, reduceIte]
  simp [i_inside, h1, h2, hL, xRet, xRetL, xSeq, xSet, xSetL, xIf, xDrop, xAsg, xNil, xNo, xPar, puts, xApp, xAug, xIce, xUn, s1, s2, sA0, sA1, sCall, sCallL, sCallM, sCallS, sCallSL, sB, sAndT, sOrT, sNotT, sAnd, sOr, sIf, sTup, sLst, sFz, sV, sC, sChain, sLenO, sIxO, sCmpO, sPop, sSl, sRevO, sRevD, rNil, rF, rL, rLL, addR, subR, fdivR, modR, ltR, leR, gtR, geR, isNR, notNR, isNone, len_t, len_l, absR, intR, minR, tupleR, isiR, subTy, tyD, revTR, negR, gN, gT, gCns, Fw.gNil, oN, oS, lstOf, setLst, ice, noAl, sYes, wipeE, idle, put_c0, put_c1, put_c2, put_c3, put_c4, put_c5, put_c6, put_c7, put_c8, put_c9, put_c10, put_c11, put_c12, put_c13, put_c14, put_c15, put_c16, put_c17, put_c18, put_c19, put_c20, put_c21, put_c22, put_c23]
end L95

end
section
set_option Elab.async false
set_option linter.all false
set_option maxRecDepth 100000
/-! A path of stairs, tick by tick: who stands, who rides, who comes, who goes. No program in sight. -/
namespace Pl
open Fw
structure Sch (n m : Nat) (cA gA : Nat → Nat → Int) (dl cp : Nat → Int) : Prop where
  dpos : ∀ s, s < m → 1 ≤ dl s
  le : ∀ s k, s < m → k < n → cA s k ≤ gA s k
  nxt : ∀ s k, s < m → k < n → cA (s + 1) k = gA s k + dl s
  mono : ∀ s i j, s ≤ m → i < j → j < n → cA s i ≤ cA s j
  pos : ∀ s k, s ≤ m → k < n → 0 ≤ cA s k
  go : ∀ s (t : Int), s < m →
    (List.range n).filter (fun k => decide (cA s k ≤ t) && decide (t ≤ gA s k)) = (List.range n).filter (fun k => decide (gA s k = t)) ++ (List.range n).filter (fun k => decide (cA s k ≤ t) && decide (t < gA s k)) ∧
    (((List.range n).filter fun k => decide (gA s k = t)).length : Int) ≤ cp s ∧
    ((List.range n).filter (fun k => decide (cA s k ≤ t) && decide (t < gA s k)) ≠ [] → (((List.range n).filter fun k => decide (gA s k = t)).length : Int) = cp s)
section
variable {n m : Nat} {cA gA : Nat → Nat → Int} {dl cp : Nat → Int}
/-- who stands at stair s ahead of tick t; who goes there at t; who comes there at t -/
def stT (n : Nat) (cA gA : Nat → Nat → Int) (s : Nat) (t : Int) : List Nat := (List.range n).filter fun k => decide (cA s k < t) && decide (t ≤ gA s k)
def goT (n : Nat) (gA : Nat → Nat → Int) (s : Nat) (t : Int) : List Nat := (List.range n).filter fun k => decide (gA s k = t)
def cmT (n : Nat) (cA : Nat → Nat → Int) (s : Nat) (t : Int) : List Nat := (List.range n).filter fun k => decide (cA s k = t)
def s2T (n : Nat) (cA gA : Nat → Nat → Int) (s : Nat) (t : Int) : List Nat := (List.range n).filter fun k => decide (cA s k ≤ t) && decide (t ≤ gA s k)
theorem stand_come (S : Sch n m cA gA dl cp) {s : Nat} (hs : s < m) (t : Int) : s2T n cA gA s t = stT n cA gA s t ++ cmT n cA s t := by
  unfold s2T stT cmT
  rw [← filter_split]
  · refine List.filter_congr fun k hk => ?_
    have := S.le s k hs (List.mem_range.mp hk)
    rw [Bool.eq_iff_iff]
    simp only [Bool.and_eq_true, Bool.or_eq_true, decide_eq_true_eq]
    omega
  · refine (List.pairwise_lt_range (n := n)).imp_of_mem fun {a b} ma mb hab hq => ?_
    have := S.mono s a b (by omega) hab (List.mem_range.mp mb)
    have hq := of_decide_eq_true hq
    rw [Bool.and_eq_false_iff]
    exact .inl (decide_eq_false (by omega))
  · intro k m h
    simp only [Bool.and_eq_true, decide_eq_true_eq] at h
    exact decide_eq_false (by omega)
theorem stand_go (S : Sch n m cA gA dl cp) {s : Nat} (hs : s < m) (t : Int) : s2T n cA gA s t = goT n gA s t ++ stT n cA gA s (t + 1) ∧ min (cp s) ((s2T n cA gA s t).length : Int) = (goT n gA s t).length := by
  obtain ⟨h1, h2, h3⟩ := S.go s t hs
  have e : stT n cA gA s (t + 1) = (List.range n).filter (fun k => decide (cA s k ≤ t) && decide (t < gA s k)) := by
    unfold stT
    refine List.filter_congr fun k _ => ?_
    rw [Bool.eq_iff_iff]
    simp only [Bool.and_eq_true, decide_eq_true_eq]
    omega
  have h1' : s2T n cA gA s t = goT n gA s t ++ stT n cA gA s (t + 1) := by rw [e]; exact h1
  refine ⟨h1', ?_⟩
  rw [h1', List.length_append]
  by_cases q : stT n cA gA s (t + 1) = []
  · rw [q]
    have : ((goT n gA s t).length : Int) ≤ cp s := h2
    simp
    omega
  · rw [e] at q
    have : ((goT n gA s t).length : Int) = cp s := h3 q
    push_cast
    omega
/-- all pairs of a stair and a person -/
def prs (m n : Nat) : List (Nat × Nat) := (List.range m).flatMap fun s => (List.range n).map fun k => (s, k)
theorem prs_mem {p : Nat × Nat} : p ∈ prs m n ↔ p.1 < m ∧ p.2 < n := by
  unfold prs
  simp only [List.mem_flatMap, List.mem_map, List.mem_range]
  constructor
  · rintro ⟨s, hs, k, hk, rfl⟩; exact ⟨hs, hk⟩
  · rintro ⟨h1, h2⟩; exact ⟨p.1, h1, p.2, h2, rfl⟩
theorem nodup_flat {α β : Type} {f : α → List β} : ∀ {l : List α}, l.Nodup → (∀ a ∈ l, (f a).Nodup) → (∀ a ∈ l, ∀ b ∈ l, a ≠ b → ∀ x, x ∈ f a → x ∉ f b) → (l.flatMap f).Nodup
  | [], _, _, _ => .nil
  | a :: l, h, h1, h2 => by
    have h' := List.nodup_cons.mp h
    rw [List.flatMap_cons]
    refine List.nodup_append.mpr ⟨h1 a (by simp), nodup_flat h'.2 (fun b m => h1 b (by simp [m])) (fun b mb c mc => h2 b (by simp [mb]) c (by simp [mc])), fun x hx y hy e => ?_⟩
    subst e
    obtain ⟨b, mb, hb⟩ := List.mem_flatMap.mp hy
    exact h2 a (by simp) b (by simp [mb]) (fun z => h'.1 (z ▸ mb)) x hx hb
theorem prs_nodup : (prs m n).Nodup := by
  refine nodup_flat List.nodup_range (fun s _ => ?_) (fun a _ b _ ne x hx hy => ?_)
  · refine List.pairwise_map.mpr ((List.nodup_range (n := n)).imp fun h e => h ?_)
    exact (Prod.mk.inj e).2
  · obtain ⟨k, _, rfl⟩ := List.mem_map.mp hx
    obtain ⟨k', _, e⟩ := List.mem_map.mp hy
    exact ne (Prod.mk.inj e).1.symm
def ride (n m : Nat) (gA : Nat → Nat → Int) (dl : Nat → Int) (t : Int) : List (Nat × Nat) := (prs m n).filter fun p => decide (gA p.1 p.2 < t) && decide (t ≤ gA p.1 p.2 + dl p.1)
theorem ride_mem {t : Int} {p : Nat × Nat} : p ∈ ride n m gA dl t ↔ p.1 < m ∧ p.2 < n ∧ gA p.1 p.2 < t ∧ t ≤ gA p.1 p.2 + dl p.1 := by
  unfold ride
  rw [List.mem_filter, prs_mem]
  simp only [Bool.and_eq_true, decide_eq_true_eq, and_assoc]
theorem ride_nodup {t : Int} : (ride n m gA dl t).Nodup := prs_nodup.filter _
/-- who comes where at t, by persons -/
def com (n m : Nat) (cA : Nat → Nat → Int) (t : Int) : List (Nat × Nat) := (List.range n).flatMap fun k => ((List.range (m + 1)).filter fun s => decide (cA s k = t)).map fun s => (k, s)
theorem com_mem {t : Int} {p : Nat × Nat} : p ∈ com n m cA t ↔ p.1 < n ∧ p.2 ≤ m ∧ cA p.2 p.1 = t := by
  unfold com
  simp only [List.mem_flatMap, List.mem_map, List.mem_range, List.mem_filter, decide_eq_true_eq]
  constructor
  · rintro ⟨k, hk, s, ⟨hs, h⟩, rfl⟩; exact ⟨hk, by show s ≤ m; omega, h⟩
  · rintro ⟨h1, h2, h3⟩; exact ⟨p.1, h1, p.2, ⟨by omega, h3⟩, rfl⟩
theorem com_nodup {t : Int} : (com n m cA t).Nodup := by
  refine nodup_flat List.nodup_range (fun k _ => ?_) (fun a _ b _ ne x hx hy => ?_)
  · refine List.pairwise_map.mpr (((List.nodup_range (n := m + 1)).filter _).imp fun h e => h ?_)
    exact (Prod.mk.inj e).2
  · obtain ⟨k, _, rfl⟩ := List.mem_map.mp hx
    obtain ⟨k', _, e⟩ := List.mem_map.mp hy
    exact ne (Prod.mk.inj e).1.symm
def ip (p : Nat × Nat) : Int × Int := ((p.1 : Int), (p.2 : Int))
theorem flat_pairwise {α β : Type} {R : β → β → Prop} {f : α → List β} : ∀ {l : List α}, (∀ a ∈ l, (f a).Pairwise R) → l.Pairwise (fun a b => ∀ x ∈ f a, ∀ y ∈ f b, R x y) → (l.flatMap f).Pairwise R
  | [], _, _ => .nil
  | a :: l, h1, h2 => by
    have h' := List.pairwise_cons.mp h2
    rw [List.flatMap_cons]
    refine List.pairwise_append.mpr ⟨h1 a (by simp), flat_pairwise (fun b m => h1 b (by simp [m])) h'.2, fun x hx y hy => ?_⟩
    obtain ⟨b, mb, hb⟩ := List.mem_flatMap.mp hy
    exact h'.1 b mb x hx y hb
theorem com_sorted {t : Int} : ((com n m cA t).map ip).Pairwise lexR := by
  refine List.pairwise_map.mpr (flat_pairwise (fun k _ => ?_) ?_)
  · refine List.pairwise_map.mpr (((List.pairwise_lt_range (n := m + 1)).filter _).imp fun h => ?_)
    unfold lexR ip
    simp
    omega
  · refine (List.pairwise_lt_range (n := n)).imp fun {a b} hab x hx y hy => ?_
    obtain ⟨s, _, rfl⟩ := List.mem_map.mp hx
    obtain ⟨s', _, rfl⟩ := List.mem_map.mp hy
    unfold lexR ip
    simp
    omega
theorem sorted_com (S : Sch n m cA gA dl cp) {t : Int} {R : List (Nat × Nat)} (hR : R.Perm (ride n m gA dl t)) :
    psort ((R.filter fun p : Nat × Nat => decide (gA p.1 p.2 + dl p.1 = t)).map (fun p : Nat × Nat => ((p.2 : Int), (p.1 : Int) + 1)) ++ (cmT n cA 0 t).map fun k : Nat => ((k : Int), (0 : Int))) = (com n m cA t).map ip := by
  refine (psort_eq ?_ com_sorted).symm
  have e : (R.filter fun p : Nat × Nat => decide (gA p.1 p.2 + dl p.1 = t)).map (fun p : Nat × Nat => ((p.2 : Int), (p.1 : Int) + 1)) ++ (cmT n cA 0 t).map (fun k : Nat => ((k : Int), (0 : Int))) = ((R.filter fun p : Nat × Nat => decide (gA p.1 p.2 + dl p.1 = t)).map (fun p : Nat × Nat => (p.2, p.1 + 1)) ++ (cmT n cA 0 t).map fun k => (k, 0)).map ip := by
    rw [List.map_append, List.map_map, List.map_map]
    rfl
  rw [e]
  refine List.Perm.map ip ((List.perm_ext_iff_of_nodup com_nodup ?_).mpr fun p => ?_)
  · have nR : R.Nodup := hR.nodup_iff.mpr ride_nodup
    refine List.nodup_append.mpr ⟨List.pairwise_map.mpr ((nR.filter _).imp fun {a b} h e => h ?_), List.pairwise_map.mpr (((List.nodup_range (n := n)).filter _).imp fun h e => h (Prod.mk.inj e).1), fun x hx y hy e => ?_⟩
    · obtain ⟨a, _, rfl⟩ := List.mem_map.mp hx
      obtain ⟨b, _, rfl⟩ := List.mem_map.mp hy
      have := (Prod.mk.inj e).2
      omega
    · have := Prod.mk.inj e
      exact Prod.ext (by omega) this.1
  · rw [com_mem, List.mem_append]
    constructor
    · rintro ⟨h1, h2, h3⟩
      obtain ⟨k, s⟩ := p
      cases s with
      | zero => exact .inr (List.mem_map.mpr ⟨k, List.mem_filter.mpr ⟨List.mem_range.mpr h1, decide_eq_true h3⟩, rfl⟩)
      | succ s =>
        have h2 : s + 1 ≤ m := h2
        have hs : s < m := by omega
        have e1 := S.nxt s k hs h1
        have d := S.dpos s hs
        have h3 : cA (s + 1) k = t := h3
        refine .inl (List.mem_map.mpr ⟨(s, k), List.mem_filter.mpr ⟨hR.mem_iff.mpr (ride_mem.mpr ⟨hs, h1, ?_, ?_⟩), decide_eq_true ?_⟩, rfl⟩)
        · show gA s k < t; omega
        · show t ≤ gA s k + dl s; omega
        · show gA s k + dl s = t; omega
    · rintro (h | h)
      · obtain ⟨⟨s, k⟩, hq, rfl⟩ := List.mem_map.mp h
        obtain ⟨h1, h2⟩ := List.mem_filter.mp hq
        obtain ⟨hs, hk, _, _⟩ := ride_mem.mp (hR.mem_iff.mp h1)
        have h2 := of_decide_eq_true h2
        have e1 := S.nxt s k hs hk
        exact ⟨hk, by show s + 1 ≤ m; have : s < m := hs; omega, by show cA (s + 1) k = t; have h2 : gA s k + dl s = t := h2; omega⟩
      · obtain ⟨k, hk, rfl⟩ := List.mem_map.mp h
        obtain ⟨h1, h2⟩ := List.mem_filter.mp hk
        exact ⟨List.mem_range.mp h1, Nat.zero_le _, of_decide_eq_true h2⟩
theorem com_at {t : Int} {s : Nat} (hs : s ≤ m) : ((com n m cA t).filter fun p => p.2 == s).map (·.1) = cmT n cA s t := by
  unfold com cmT
  generalize List.range n = l
  induction l with
  | nil => rfl
  | cons k l ih =>
    rw [List.flatMap_cons, List.filter_append, List.map_append, ih, List.filter_cons]
    have e : (((List.range (m + 1)).filter fun s => decide (cA s k = t)).map fun s => (k, s)).filter (fun p => p.2 == s) = if cA s k = t then [(k, s)] else [] := by
      rw [List.filter_map, List.filter_filter]
      have : (List.range (m + 1)).filter (fun a => ((fun p : Nat × Nat => p.2 == s) ∘ fun s => (k, s)) a && decide (cA a k = t)) = (List.range (m + 1)).filter fun a => a == s && decide (cA s k = t) := by
        refine List.filter_congr fun a _ => ?_
        by_cases q : a = s
        · subst q; rfl
        · have : (a == s) = false := by simpa using q
          simp [this]
      rw [this]
      by_cases q : cA s k = t
      · rw [if_pos q]
        have : (List.range (m + 1)).filter (fun a => a == s && decide (cA s k = t)) = [s] := by
          have : (fun a => a == s && decide (cA s k = t)) = fun a => a == s := by funext a; simp [q]
          rw [this]
          have nd := List.nodup_range (n := m + 1)
          have hm : s ∈ List.range (m + 1) := List.mem_range.mpr (by omega)
          generalize List.range (m + 1) = r at nd hm
          induction r with
          | nil => cases hm
          | cons x r ih2 =>
            have nd' := List.nodup_cons.mp nd
            rw [List.filter_cons]
            rcases List.mem_cons.mp hm with rfl | hm
            · rw [if_pos (by simp)]
              have : r.filter (fun a => a == s) = [] := List.filter_eq_nil_iff.mpr fun b mb => by simp; exact fun z => nd'.1 (z ▸ mb)
              rw [this]
            · have : ¬ x = s := fun z => nd'.1 (z ▸ hm)
              rw [if_neg (by simpa using this)]
              exact ih2 nd'.2 hm
        rw [this]; rfl
      · rw [if_neg q]
        have : (List.range (m + 1)).filter (fun a => a == s && decide (cA s k = t)) = [] := List.filter_eq_nil_iff.mpr fun b _ => by simp [q]
        rw [this]; rfl
    rw [e]
    by_cases q : cA s k = t
    · rw [if_pos q, if_pos (decide_eq_true q)]; rfl
    · rw [if_neg q, if_neg (by simpa using q)]; rfl
/-- those who go on ride -/
theorem ride_next (S : Sch n m cA gA dl cp) {t : Int} {R : List (Nat × Nat)} (hR : R.Perm (ride n m gA dl t)) :
    ((R.filter fun p => decide (t < gA p.1 p.2 + dl p.1)) ++ (List.range m).flatMap fun s => (goT n gA s t).map fun k => (s, k)).Perm (ride n m gA dl (t + 1)) := by
  have nR : R.Nodup := hR.nodup_iff.mpr ride_nodup
  refine (List.perm_ext_iff_of_nodup (List.nodup_append.mpr ⟨nR.filter _, ?_, fun x hx y hy e => ?_⟩) ride_nodup).mpr fun p => ?_
  · refine nodup_flat List.nodup_range (fun s _ => ?_) (fun a _ b _ ne x hx hy => ?_)
    · exact List.pairwise_map.mpr (((List.nodup_range (n := n)).filter _).imp fun h e => h (Prod.mk.inj e).2)
    · obtain ⟨k, _, rfl⟩ := List.mem_map.mp hx
      obtain ⟨k', _, e⟩ := List.mem_map.mp hy
      exact ne (Prod.mk.inj e).1.symm
  · subst e
    obtain ⟨s, _, h2⟩ := List.mem_flatMap.mp hy
    obtain ⟨k, hk, rfl⟩ := List.mem_map.mp h2
    have a := (ride_mem.mp (hR.mem_iff.mp (List.mem_filter.mp hx).1)).2.2.1
    have b := of_decide_eq_true (List.mem_filter.mp hk).2
    have a : gA s k < t := a
    omega
  · rw [List.mem_append, ride_mem, List.mem_filter, hR.mem_iff, ride_mem]
    obtain ⟨s, k⟩ := p
    simp only [decide_eq_true_eq]
    constructor
    · rintro (⟨⟨h1, h2, h3, h4⟩, h5⟩ | h)
      · exact ⟨h1, h2, by omega, by omega⟩
      · obtain ⟨s', hs, h2⟩ := List.mem_flatMap.mp h
        obtain ⟨k', hk, e⟩ := List.mem_map.mp h2
        obtain ⟨rfl, rfl⟩ := Prod.mk.inj e
        have hs := List.mem_range.mp hs
        obtain ⟨h3, h4⟩ := List.mem_filter.mp hk
        have h4 := of_decide_eq_true h4
        have d := S.dpos s' hs
        exact ⟨hs, List.mem_range.mp h3, by omega, by omega⟩
    · rintro ⟨h1, h2, h3, h4⟩
      by_cases q : gA s k = t
      · exact .inr (List.mem_flatMap.mpr ⟨s, List.mem_range.mpr h1, List.mem_map.mpr ⟨k, List.mem_filter.mpr ⟨List.mem_range.mpr h2, decide_eq_true q⟩, rfl⟩⟩)
      · exact .inl ⟨⟨h1, h2, by omega, by omega⟩, by omega⟩
/-- the stairs that k has left ahead of t -/
def fdT (m : Nat) (gA : Nat → Nat → Int) (k : Nat) (t : Int) : List Nat := (List.range m).filter fun s => decide (gA s k < t)
theorem go_mono (S : Sch n m cA gA dl cp) {k : Nat} (hk : k < n) : ∀ j i, i < j → j < m → gA i k < gA j k
  | 0, i, h, _ => by omega
  | j + 1, i, h, hj => by
    have e := S.nxt j k (by omega) hk
    have d := S.dpos j (by omega)
    have l := S.le (j + 1) k hj hk
    by_cases q : i = j
    · subst q; omega
    · have := go_mono S hk j i (by omega) (by omega); omega
theorem found_next (S : Sch n m cA gA dl cp) {k : Nat} (hk : k < n) (t : Int) : fdT m gA k (t + 1) = fdT m gA k t ++ (List.range m).filter fun s => decide (gA s k = t) := by
  unfold fdT
  rw [← filter_split]
  · refine List.filter_congr fun s _ => ?_
    rw [Bool.eq_iff_iff]
    simp only [Bool.or_eq_true, decide_eq_true_eq]
    omega
  · refine (List.pairwise_lt_range (n := m)).imp_of_mem fun {a b} ma mb hab hq => ?_
    have := go_mono S hk b a hab (List.mem_range.mp mb)
    have hq := of_decide_eq_true hq
    exact decide_eq_false (by omega)
  · intro s _ h
    have h := of_decide_eq_true h
    exact decide_eq_false (by omega)
/-- when nobody is left, all are through -/
theorem all_done (S : Sch n m cA gA dl cp) {t : Int} (h0 : ∀ k, k < n → cA 0 k < t) (h1 : ∀ s, s < m → stT n cA gA s t = []) (h2 : ride n m gA dl t = []) {k : Nat} (hk : k < n) : ∀ s, s ≤ m → cA s k < t
  | 0, _ => h0 k hk
  | s + 1, hs => by
    have ih := all_done S h0 h1 h2 hk s (by omega)
    have g : gA s k < t := by
      by_cases q : gA s k < t
      · exact q
      · have : k ∈ stT n cA gA s t := List.mem_filter.mpr ⟨List.mem_range.mpr hk, by simp only [Bool.and_eq_true, decide_eq_true_eq]; omega⟩
        rw [h1 s (by omega)] at this; cases this
    have e := S.nxt s k (by omega) hk
    by_cases q : t ≤ gA s k + dl s
    · have : (s, k) ∈ ride n m gA dl t := ride_mem.mpr ⟨by show s < m; omega, hk, g, q⟩
      rw [h2] at this; cases this
    · omega
theorem done_found (S : Sch n m cA gA dl cp) {t : Int} {k : Nat} (hk : k < n) (h : ∀ s, s ≤ m → cA s k < t) : fdT m gA k t = List.range m := by
  refine List.filter_eq_self.mpr fun s hs => decide_eq_true ?_
  have hs := List.mem_range.mp hs
  have e := S.nxt s k hs hk
  have d := S.dpos s hs
  have := h (s + 1) (by omega)
  omega
/-- the newcomers, and how many have come -/
theorem known_pre (S : Sch n m cA gA dl cp) (t : Int) : ∃ j, j ≤ n ∧ (List.range n).filter (fun k => decide (cA 0 k < t)) = List.range j ∧ ∀ k, j ≤ k → k < n → ¬ cA 0 k < t := by
  have e : List.range n = (List.range n).filter (fun k => decide (cA 0 k < t)) ++ (List.range n).filter fun k => decide (¬ cA 0 k < t) := by
    rw [← filter_split]
    · refine (List.filter_eq_self.mpr fun k _ => ?_).symm
      by_cases q : cA 0 k < t <;> simp [q]
    · refine (List.pairwise_lt_range (n := n)).imp_of_mem fun {a b} ma mb hab hq => ?_
      have := S.mono 0 a b (Nat.zero_le _) hab (List.mem_range.mp mb)
      have hq := of_decide_eq_true hq
      exact decide_eq_false (by omega)
    · intro k _ h
      have h := of_decide_eq_true h
      exact decide_eq_false (by omega)
  generalize hA : (List.range n).filter (fun k => decide (cA 0 k < t)) = A at e
  generalize hB : (List.range n).filter (fun k => decide (¬ cA 0 k < t)) = B at e
  have le : A.length ≤ n := by
    have := congrArg List.length e
    simp at this; omega
  have eA : A = List.range A.length := by
    have := congrArg (List.take A.length) e
    rw [List.take_left, List.take_range, Nat.min_eq_left le] at this
    exact this.symm
  refine ⟨A.length, le, eA, fun k h1 h2 h3 => ?_⟩
  have : k ∈ A := by rw [← hA]; exact List.mem_filter.mpr ⟨List.mem_range.mpr h2, decide_eq_true h3⟩
  rw [eA] at this
  have := List.mem_range.mp this
  omega
end
end Pl

end
section
set_option Elab.async false
set_option linter.all false
set_option maxRecDepth 100000
/-! One tick of the walk on a path: who comes in. -/
namespace Fw
theorem sLL_map {α : Type} {vs : List Nat} {it : FA} {p : FG} {e : FA} {δ0 δ1 : Fw.Env} {as : List α} {enc : α → PySem.PyData} (y : α → List PySem.PyData) (hit : it δ0 = some (as.map enc, δ1)) (hid : idle δ1 vs = true)
    (h : ∀ a ∈ as, ∃ δ2, p (enc a) (wipeE δ1 vs) = some δ2 ∧ e δ2 = some (y a, δ2) ∧ wipeE δ2 vs = wipeE δ1 vs) : sLL vs it p e δ0 = some (as.map y, δ1) := by
  unfold sLL
  simp only [hit]
  rw [if_pos hid]
  have : llL vs p e (as.map enc) (wipeE δ1 vs) = some (as.map y, wipeE δ1 vs) := by
    clear hit
    induction as with
    | nil => rfl
    | cons a as ih =>
      obtain ⟨δ2, h1, h2, h3⟩ := h a (by simp)
      have ih := ih fun x m => h x (by simp [m])
      rw [List.map_cons]
      unfold llL
      simp only [h1, h2, h3, ih, List.map_cons]
  rw [this]
  simp only [back_wipe]
end Fw
namespace L95
open PySem PySem.Spec PyProof.Rows L2 Fw Pl
abbrev itm (k s : Nat) (c : Int) : PyData := .tuple [.int k, .int s, .int c]
def lnD (cA : Nat → Nat → Int) (s : Nat) (ks : List Nat) : List PyData := ks.map fun k => itm k s (cA s k)
abbrev rdI (gA : Nat → Nat → Int) (dl : Nat → Int) (p : Nat × Nat) : PyData := .tuple [.int (gA p.1 p.2 + dl p.1), .int p.2, .int p.1]
def stdD (m : Nat) (cA : Nat → Nat → Int) (f : Nat → List Nat) : List PyData := (List.range m).map fun s => .tuple (lnD cA s (f s))
def staD (m : Nat) (cA gA : Nat → Nat → Int) (dl : Nat → Int) (t : Int) (f : Nat → List Nat) (R : List (Nat × Nat)) (od : List PyData) : PyData := .tuple [.int t, .tuple (stdD m cA f), .tuple (R.map (rdI gA dl)), .tuple od]
def nI (ks : List Nat) : List PyData := ks.map fun k : Nat => .int (k : Int)
theorem com_len {n m : Nat} {cA : Nat → Nat → Int} {t : Int} : (com n m cA t).length ≤ n * (m + 1) := by
  unfold com
  rw [List.length_flatMap]
  have : ∀ l : List Nat, (l.map fun k => (((List.range (m + 1)).filter fun s => decide (cA s k = t)).map fun s => (k, s)).length).sum ≤ l.length * (m + 1) := by
    intro l
    induction l with
    | nil => simp
    | cons k l ih =>
      rw [List.map_cons, List.sum_cons, List.length_cons, Nat.succ_mul]
      have : (((List.range (m + 1)).filter fun s => decide (cA s k = t)).map fun s => (k, s)).length ≤ m + 1 := by
        rw [List.length_map]
        exact Nat.le_trans (List.length_filter_le _ _) (by simp)
      omega
  have := this (List.range n)
  simpa using this
theorem psort_pairs (ds : List PyData) (ps : List (Int × Int)) (h : ds = ps.map pD) (hne : ps ≠ []) : sortedR [.list ds] = some ((psort ps).map pD) := by
  subst h
  cases ps with
  | nil => exact absurd rfl hne
  | cons p ps =>
    have e1 : intsD ((p :: ps).map pD) = none := rfl
    have e2 := pairsD_map (p :: ps)
    unfold sortedR
    simp only [e1, e2]
theorem psort_nil : sortedR [.list []] = some [] := by
  show some ((isort []).map PyData.int) = _
  simp [isort]
theorem sorted_pairs (ps : List (Int × Int)) : sortedR [.list (ps.map pD)] = some ((psort ps).map pD) := by
  cases ps with
  | nil => rw [List.map_nil, psort_nil]; simp [psort]
  | cons p ps => exact psort_pairs _ _ rfl (by simp)
section
variable {n m : Nat} {cA gA : Nat → Nat → Int} {dl cp : Nat → Int}
noncomputable def ciB : FS := (xSeq (xSet 14 (s2 ixR (sV 0) (s2 modR (sV 9) (sCall lenR (sA1 (sV 0) sA0)))))
    (xIf (sB (s2 eqR (sV 10) (sCall lenR (sA1 (sV 14) sA0)))) (xApp 12 (sTup (sA1 (sV 3) (sA1 (sV 9) sA0)))) (xSeq (xAl 13 11 (s2 ixR (sV 14) (sV 10)))
    (xApp 13 (sTup (sA1 (sV 9) (sA1 (sV 10) (sA1 (sV 3) sA0))))))))
theorem put_a13 {a0 a1 a2 a3 a4 a5 a6 a7 a8 a9 a10 a11 a12 t : Fw.Slot} {j l : Nat} {r : Fw.Env} : put (a0 :: a1 :: a2 :: a3 :: a4 :: a5 :: a6 :: a7 :: a8 :: a9 :: a10 :: a11 :: a12 :: .al j l :: r) 13 t = some (a0 :: a1 :: a2 :: a3 :: a4 :: a5 :: a6 :: a7 :: a8 :: a9 :: a10 :: a11 :: a12 :: t :: r) := rfl
/-- slot 13: nothing, or one of the lines -/
def Lin (s : Fw.Slot) : Prop := s = .un ∨ ∃ j, s = .al 11 j
theorem ciB_out {k : Nat} (hk : k < n) {t : Int} {a1 a2 a4 a5 a6 a7 a8 a15 a16 u13 u14 : Fw.Slot} [Fre u14] {dss : List (List PyData)} {od : List PyData} (ho : od.length < sizeLine) :
    ciB [.fz (.list (List.replicate n (routeD m))), a1, a2, .fz (.int t), a4, a5, a6, a7, a8, .fz (.int k), .fz (.int m), .ow2 dss, .ow od, u13, u14, a15, a16] =
      some (.nx [.fz (.list (List.replicate n (routeD m))), a1, a2, .fz (.int t), a4, a5, a6, a7, a8, .fz (.int k), .fz (.int m), .ow2 dss, .ow (od ++ [.tuple [.int t, .int k]]), u13, .fz (routeD m), a15, a16]) := by
  have hmod : modR (.int k) (.int n) = some (.int k) := by
    have : (k : Int) % (n : Int) = k := Int.emod_eq_of_lt (by omega) (by omega)
    have hn : (0 : Int) < n := by omega
    simp only [modR]
    rw [if_pos hn, this]
  have hlen : lenR [.list (List.replicate n (routeD m))] = some (.int n) := by rw [len_l, List.length_replicate]
  have hrt : ixR (.list (List.replicate n (routeD m))) (.int k) = some (routeD m) := ix_lst (by rw [List.getElem?_replicate, if_pos hk])
  have hrl : lenR [routeD m] = some (.int m) := by unfold routeD; rw [len_t, dI_len, rt_len]
  have h2 : 2 ≤ sizeLine := by rw [sizeLine_eq]; omega
  unfold ciB
  simp [xSeq, xSet, xIf, hmod, hlen, hrt, hrl, eq_int, ho, h2, -List.map_replicate, s1, s2, sB, sCall, sA1, sA0, sV, sC, sTup, xApp, lstOf, setLst, put_c14]
theorem ciB_in {k s : Nat} (hk : k < n) (hs : s < m) {t : Int} {a1 a2 a4 a5 a6 a7 a8 a15 a16 u13 u14 : Fw.Slot} [Fre u14] (hu : Lin u13) {dss : List (List PyData)} {od ds : List PyData} (hd : dss[s]? = some ds) (hz : ds.length < sizeLine) :
    ciB [.fz (.list (List.replicate n (routeD m))), a1, a2, .fz (.int t), a4, a5, a6, a7, a8, .fz (.int k), .fz (.int s), .ow2 dss, .ow od, u13, u14, a15, a16] =
      some (.nx [.fz (.list (List.replicate n (routeD m))), a1, a2, .fz (.int t), a4, a5, a6, a7, a8, .fz (.int k), .fz (.int s), .ow2 (dss.set s (ds ++ [itm k s t])), .ow od, .al 11 s, .fz (routeD m), a15, a16]) := by
  have hmod : modR (.int k) (.int n) = some (.int k) := by
    have : (k : Int) % (n : Int) = k := Int.emod_eq_of_lt (by omega) (by omega)
    have hn : (0 : Int) < n := by omega
    simp only [modR]
    rw [if_pos hn, this]
  have hlen : lenR [.list (List.replicate n (routeD m))] = some (.int n) := by rw [len_l, List.length_replicate]
  have hrt : ixR (.list (List.replicate n (routeD m))) (.int k) = some (routeD m) := ix_lst (by rw [List.getElem?_replicate, if_pos hk])
  have hrl : lenR [routeD m] = some (.int m) := by unfold routeD; rw [len_t, dI_len, rt_len]
  have hrs : ixR (routeD m) (.int s) = some (.int s) := ix_tup (dI_get (rt_get hs))
  have h3 : 3 ≤ sizeLine := by rw [sizeLine_eq]; omega
  have hne : ((s : Int) == (m : Int)) = false := by simp; omega
  have hl := (List.getElem?_eq_some_iff.mp hd).1
  have hix : ixN dss.length (s : Int) = some s := by
    unfold ixN
    rw [if_pos (by omega), if_pos (by omega)]
    simp
  unfold ciB
  rcases hu with rfl | ⟨j, rfl⟩ <;> simp [xSeq, xSet, xIf, hmod, hlen, hrt, hrl, hrs, eq_int, hne, hix, hd, hz, h3, -List.map_replicate, s1, s2, sB, sCall, sA1, sA0, sV, sC, sTup, xApp, xAl, lstOf, setLst, put_c14, put_c13, put_a13]
def Lk (n m : Nat) (cA gA : Nat → Nat → Int) (t : Int) (i : Nat) : List (List PyData) := (List.range m).map fun s => lnD cA s (stT n cA gA s t ++ (((com n m cA t).take i).filter fun p => p.2 == s).map (·.1))
theorem Lk_get {t : Int} {i s : Nat} (hs : s < m) : (Lk n m cA gA t i)[s]? = some (lnD cA s (stT n cA gA s t ++ (((com n m cA t).take i).filter fun p => p.2 == s).map (·.1))) := by
  unfold Lk; rw [List.getElem?_map, List.getElem?_range hs]; rfl
theorem Lk_next {t : Int} {i k s : Nat} (h : (com n m cA t)[i]? = some (k, s)) (hs : s < m) : (Lk n m cA gA t i).set s (lnD cA s (stT n cA gA s t ++ (((com n m cA t).take i).filter fun p => p.2 == s).map (·.1)) ++ [itm k s t]) = Lk n m cA gA t (i + 1) := by
  have et : (com n m cA t).take (i + 1) = (com n m cA t).take i ++ [(k, s)] := by rw [List.take_add_one, h]; rfl
  have ct : cA s k = t := (com_mem.mp (List.mem_of_getElem? h)).2.2
  apply List.ext_getElem?
  intro j
  by_cases hj : j < m
  · rw [Lk_get hj, et, List.filter_append]
    by_cases q : j = s
    · subst q
      rw [List.getElem?_set_self (by unfold Lk; simpa using hj)]
      have : List.filter (fun p : Nat × Nat => p.2 == j) [(k, j)] = [(k, j)] := by simp
      rw [this, List.map_append]
      unfold lnD
      rw [← List.append_assoc, List.map_append, List.map_append]
      simp [ct]
    · rw [List.getElem?_set_ne (Ne.symm q), Lk_get hj]
      have : List.filter (fun p : Nat × Nat => p.2 == j) [(k, s)] = [] := by simp; exact fun z => q z.symm
      rw [this, List.append_nil]
  · rw [List.getElem?_eq_none (by rw [List.length_set]; unfold Lk; simp; omega), List.getElem?_eq_none (by unfold Lk; simp; omega)]
theorem Lk_same {t : Int} {i k : Nat} (h : (com n m cA t)[i]? = some (k, m)) : Lk n m cA gA t (i + 1) = Lk n m cA gA t i := by
  have et : (com n m cA t).take (i + 1) = (com n m cA t).take i ++ [(k, m)] := by rw [List.take_add_one, h]; rfl
  unfold Lk
  refine List.map_congr_left fun s hs => ?_
  have hs := List.mem_range.mp hs
  rw [et, List.filter_append]
  have : List.filter (fun p : Nat × Nat => p.2 == s) [(k, m)] = [] := by simp; omega
  rw [this, List.append_nil]
theorem Lk_end (S : Sch n m cA gA dl cp) (t : Int) : Lk n m cA gA t (com n m cA t).length = (List.range m).map fun s => lnD cA s (s2T n cA gA s t) := by
  unfold Lk
  refine List.map_congr_left fun s hs => ?_
  have hs := List.mem_range.mp hs
  rw [List.take_length, com_at (by omega), stand_come S hs t]
theorem lnD_len (s : Nat) (ks : List Nat) : (lnD cA s ks).length = ks.length := List.length_map ..
theorem comD (S : Sch n m cA gA dl cp) {t : Int} {R : List (Nat × Nat)} (hR : R.Perm (ride n m gA dl t)) :
    sortedR [.list ((R.filter fun p : Nat × Nat => decide (gA p.1 p.2 + dl p.1 = t)).map (fun p : Nat × Nat => PyData.tuple [.int p.2, .int ((p.1 : Int) + 1)]) ++ (cmT n cA 0 t).map fun k : Nat => PyData.tuple [.int (k : Int), .int 0])] = some ((com n m cA t).map fun p => .tuple [.int p.1, .int p.2]) := by
  have e : (R.filter fun p : Nat × Nat => decide (gA p.1 p.2 + dl p.1 = t)).map (fun p : Nat × Nat => PyData.tuple [.int p.2, .int ((p.1 : Int) + 1)]) ++ (cmT n cA 0 t).map (fun k : Nat => PyData.tuple [.int (k : Int), .int 0]) =
      ((R.filter fun p : Nat × Nat => decide (gA p.1 p.2 + dl p.1 = t)).map (fun p : Nat × Nat => ((p.2 : Int), (p.1 : Int) + 1)) ++ (cmT n cA 0 t).map fun k : Nat => ((k : Int), (0 : Int))).map pD := by
    rw [List.map_append, List.map_map, List.map_map]
    rfl
  rw [e, sorted_pairs, sorted_com S hR, List.map_map]
  rfl
theorem prs_len (m n : Nat) : (prs m n).length = m * n := by
  unfold prs
  induction m with
  | zero => simp
  | succ m ih => rw [List.range_succ, List.flatMap_append, List.length_append, ih]; simp [Nat.succ_mul]
theorem xSeq_eq {g h : FS} {δ δ1 : Fw.Env} (e : g δ = some (.nx δ1)) : xSeq g h δ = h δ1 := by unfold xSeq; rw [e]
theorem come_in_ok (S : Sch n m cA gA dl cp) (hn : n ≤ 40) (hm : m ≤ 4) {t : Int} {R : List (Nat × Nat)} (hR : R.Perm (ride n m gA dl t)) {od : List PyData} (ho : od.length ≤ 1000000) :
    ∃ od' : List PyData, od'.length ≤ od.length + 200 ∧ d_come_in [.list (List.replicate n (routeD m)), staD m cA gA dl t (fun s => stT n cA gA s t) R od, .list (nI (cmT n cA 0 t))] =
      some (staD m cA gA dl t (fun s => s2T n cA gA s t) (R.filter fun p : Nat × Nat => decide (t < gA p.1 p.2 + dl p.1)) od') := by
  have hs4 : 4 ≤ sizeLine := by rw [sizeLine_eq]; omega
  have hs2 : 2 ≤ sizeLine := by omega
  have nm : n * (m + 1) ≤ 200 := Nat.le_trans (Nat.mul_le_mul hn (by omega : m + 1 ≤ 5)) (by omega)
  have cl := com_len (n := n) (m := m) (cA := cA) (t := t)
  let r0 : Fw.Slot := .fz (.list (List.replicate n (routeD m)))
  let r1 : Fw.Slot := .fz (staD m cA gA dl t (fun s => stT n cA gA s t) R od)
  let r2 : Fw.Slot := .fz (.list (nI (cmT n cA 0 t)))
  let r4 : Fw.Slot := .fz (.tuple (stdD m cA fun s => stT n cA gA s t))
  let r5 : Fw.Slot := .fz (.tuple (R.map (rdI gA dl)))
  let r6 : Fw.Slot := .fz (.tuple od)
  -- who comes
  have hC1 := sLc_filter (vs := [8, 9, 10]) (it := wIx (sV 5)) (p := gT 3 (gCns (gN 8) (gCns (gN 9) (gCns (gN 10) Fw.gNil)))) (c := sB (s2 eqR (sV 8) (sV 3))) (e := sTup (sA1 (sV 9) (sA1 (s2 addR (sV 10) (sC (.int 1))) sA0)))
    (δ0 := [r0, r1, r2, .fz (.int t), r4, r5, r6, .un, .un, .un, .un, .un, .un, .un, .un, .un, .un]) (δ1 := [r0, r1, r2, .fz (.int t), r4, r5, r6, .un, .un, .un, .un, .un, .un, .un, .un, .un, .un]) (as := R) (enc := rdI gA dl)
    (fun p => decide (gA p.1 p.2 + dl p.1 = t)) (fun p => .tuple [.int p.2, .int ((p.1 : Int) + 1)]) (by simp [r5, xRet, xRetL, xSeq, xSet, xSetL, xIf, xDrop, xAsg, xNil, xNo, xPar, puts, xApp, xAug, xIce, xUn, s1, s2, sA0, sA1, sCall, sCallL, sCallM, sCallS, sCallSL, sB, sAndT, sOrT, sNotT, sAnd, sOr, sIf, sTup, sLst, sFz, sV, sC, sChain, sLenO, sIxO, sCmpO, sPop, sSl, sRevO, sRevD, rNil, rF, rL, rLL, addR, subR, fdivR, modR, ltR, leR, gtR, geR, isNR, notNR, isNone, len_t, len_l, absR, intR, minR, tupleR, isiR, subTy, tyD, revTR, negR, gN, gT, gCns, Fw.gNil, oN, oS, lstOf, setLst, ice, noAl, sYes, wipeE, idle, put_c0, put_c1, put_c2, put_c3, put_c4, put_c5, put_c6, put_c7, put_c8, put_c9, put_c10, put_c11, put_c12, put_c13, put_c14, put_c15, put_c16, put_c17, put_c18, put_c19, put_c20, put_c21, put_c22, put_c23, wIx, itD]) rfl (fun p mp => ⟨[r0, r1, r2, .fz (.int t), r4, r5, r6, .un, .fz (.int (gA p.1 p.2 + dl p.1)), .fz (.int p.2), .fz (.int p.1), .un, .un, .un, .un, .un, .un], by simp [xRet, xRetL, xSeq, xSet, xSetL, xIf, xDrop, xAsg, xNil, xNo, xPar, puts, xApp, xAug, xIce, xUn, s1, s2, sA0, sA1, sCall, sCallL, sCallM, sCallS, sCallSL, sB, sAndT, sOrT, sNotT, sAnd, sOr, sIf, sTup, sLst, sFz, sV, sC, sChain, sLenO, sIxO, sCmpO, sPop, sSl, sRevO, sRevD, rNil, rF, rL, rLL, addR, subR, fdivR, modR, ltR, leR, gtR, geR, isNR, notNR, isNone, len_t, len_l, absR, intR, minR, tupleR, isiR, subTy, tyD, revTR, negR, gN, gT, gCns, Fw.gNil, oN, oS, lstOf, setLst, ice, noAl, sYes, wipeE, idle, put_c0, put_c1, put_c2, put_c3, put_c4, put_c5, put_c6, put_c7, put_c8, put_c9, put_c10, put_c11, put_c12, put_c13, put_c14, put_c15, put_c16, put_c17, put_c18, put_c19, put_c20, put_c21, put_c22, put_c23], by simp [eq_int, xRet, xRetL, xSeq, xSet, xSetL, xIf, xDrop, xAsg, xNil, xNo, xPar, puts, xApp, xAug, xIce, xUn, s1, s2, sA0, sA1, sCall, sCallL, sCallM, sCallS, sCallSL, sB, sAndT, sOrT, sNotT, sAnd, sOr, sIf, sTup, sLst, sFz, sV, sC, sChain, sLenO, sIxO, sCmpO, sPop, sSl, sRevO, sRevD, rNil, rF, rL, rLL, addR, subR, fdivR, modR, ltR, leR, gtR, geR, isNR, notNR, isNone, len_t, len_l, absR, intR, minR, tupleR, isiR, subTy, tyD, revTR, negR, gN, gT, gCns, Fw.gNil, oN, oS, lstOf, setLst, ice, noAl, sYes, wipeE, idle, put_c0, put_c1, put_c2, put_c3, put_c4, put_c5, put_c6, put_c7, put_c8, put_c9, put_c10, put_c11, put_c12, put_c13, put_c14, put_c15, put_c16, put_c17, put_c18, put_c19, put_c20, put_c21, put_c22, put_c23]; rfl, by simp [hs2, xRet, xRetL, xSeq, xSet, xSetL, xIf, xDrop, xAsg, xNil, xNo, xPar, puts, xApp, xAug, xIce, xUn, s1, s2, sA0, sA1, sCall, sCallL, sCallM, sCallS, sCallSL, sB, sAndT, sOrT, sNotT, sAnd, sOr, sIf, sTup, sLst, sFz, sV, sC, sChain, sLenO, sIxO, sCmpO, sPop, sSl, sRevO, sRevD, rNil, rF, rL, rLL, addR, subR, fdivR, modR, ltR, leR, gtR, geR, isNR, notNR, isNone, len_t, len_l, absR, intR, minR, tupleR, isiR, subTy, tyD, revTR, negR, gN, gT, gCns, Fw.gNil, oN, oS, lstOf, setLst, ice, noAl, sYes, wipeE, idle, put_c0, put_c1, put_c2, put_c3, put_c4, put_c5, put_c6, put_c7, put_c8, put_c9, put_c10, put_c11, put_c12, put_c13, put_c14, put_c15, put_c16, put_c17, put_c18, put_c19, put_c20, put_c21, put_c22, put_c23], by simp [xRet, xRetL, xSeq, xSet, xSetL, xIf, xDrop, xAsg, xNil, xNo, xPar, puts, xApp, xAug, xIce, xUn, s1, s2, sA0, sA1, sCall, sCallL, sCallM, sCallS, sCallSL, sB, sAndT, sOrT, sNotT, sAnd, sOr, sIf, sTup, sLst, sFz, sV, sC, sChain, sLenO, sIxO, sCmpO, sPop, sSl, sRevO, sRevD, rNil, rF, rL, rLL, addR, subR, fdivR, modR, ltR, leR, gtR, geR, isNR, notNR, isNone, len_t, len_l, absR, intR, minR, tupleR, isiR, subTy, tyD, revTR, negR, gN, gT, gCns, Fw.gNil, oN, oS, lstOf, setLst, ice, noAl, sYes, wipeE, idle, put_c0, put_c1, put_c2, put_c3, put_c4, put_c5, put_c6, put_c7, put_c8, put_c9, put_c10, put_c11, put_c12, put_c13, put_c14, put_c15, put_c16, put_c17, put_c18, put_c19, put_c20, put_c21, put_c22, put_c23]⟩)
  have hC2 := sLc_map (vs := [9]) (it := wIx (sV 2)) (p := gN 9) (e := sTup (sA1 (sV 9) (sA1 (sC (.int 0)) sA0))) (δ0 := [r0, r1, r2, .fz (.int t), r4, r5, r6, .fz (.list ((R.filter fun p : Nat × Nat => decide (gA p.1 p.2 + dl p.1 = t)).map fun p : Nat × Nat => PyData.tuple [.int p.2, .int ((p.1 : Int) + 1)])), .un, .un, .un, .un, .un, .un, .un, .un, .un])
    (δ1 := [r0, r1, r2, .fz (.int t), r4, r5, r6, .fz (.list ((R.filter fun p : Nat × Nat => decide (gA p.1 p.2 + dl p.1 = t)).map fun p : Nat × Nat => PyData.tuple [.int p.2, .int ((p.1 : Int) + 1)])), .un, .un, .un, .un, .un, .un, .un, .un, .un]) (as := cmT n cA 0 t) (enc := fun k : Nat => .int (k : Int)) (fun k => .tuple [.int (k : Int), .int 0])
    (by simp [r2, nI, xRet, xRetL, xSeq, xSet, xSetL, xIf, xDrop, xAsg, xNil, xNo, xPar, puts, xApp, xAug, xIce, xUn, s1, s2, sA0, sA1, sCall, sCallL, sCallM, sCallS, sCallSL, sB, sAndT, sOrT, sNotT, sAnd, sOr, sIf, sTup, sLst, sFz, sV, sC, sChain, sLenO, sIxO, sCmpO, sPop, sSl, sRevO, sRevD, rNil, rF, rL, rLL, addR, subR, fdivR, modR, ltR, leR, gtR, geR, isNR, notNR, isNone, len_t, len_l, absR, intR, minR, tupleR, isiR, subTy, tyD, revTR, negR, gN, gT, gCns, Fw.gNil, oN, oS, lstOf, setLst, ice, noAl, sYes, wipeE, idle, put_c0, put_c1, put_c2, put_c3, put_c4, put_c5, put_c6, put_c7, put_c8, put_c9, put_c10, put_c11, put_c12, put_c13, put_c14, put_c15, put_c16, put_c17, put_c18, put_c19, put_c20, put_c21, put_c22, put_c23, wIx, itD]) rfl (fun k mk => ⟨[r0, r1, r2, .fz (.int t), r4, r5, r6, .fz (.list ((R.filter fun p : Nat × Nat => decide (gA p.1 p.2 + dl p.1 = t)).map fun p : Nat × Nat => PyData.tuple [.int p.2, .int ((p.1 : Int) + 1)])), .un, .fz (.int k), .un, .un, .un, .un, .un, .un, .un], by simp [xRet, xRetL, xSeq, xSet, xSetL, xIf, xDrop, xAsg, xNil, xNo, xPar, puts, xApp, xAug, xIce, xUn, s1, s2, sA0, sA1, sCall, sCallL, sCallM, sCallS, sCallSL, sB, sAndT, sOrT, sNotT, sAnd, sOr, sIf, sTup, sLst, sFz, sV, sC, sChain, sLenO, sIxO, sCmpO, sPop, sSl, sRevO, sRevD, rNil, rF, rL, rLL, addR, subR, fdivR, modR, ltR, leR, gtR, geR, isNR, notNR, isNone, len_t, len_l, absR, intR, minR, tupleR, isiR, subTy, tyD, revTR, negR, gN, gT, gCns, Fw.gNil, oN, oS, lstOf, setLst, ice, noAl, sYes, wipeE, idle, put_c0, put_c1, put_c2, put_c3, put_c4, put_c5, put_c6, put_c7, put_c8, put_c9, put_c10, put_c11, put_c12, put_c13, put_c14, put_c15, put_c16, put_c17, put_c18, put_c19, put_c20, put_c21, put_c22, put_c23], by simp [hs2, xRet, xRetL, xSeq, xSet, xSetL, xIf, xDrop, xAsg, xNil, xNo, xPar, puts, xApp, xAug, xIce, xUn, s1, s2, sA0, sA1, sCall, sCallL, sCallM, sCallS, sCallSL, sB, sAndT, sOrT, sNotT, sAnd, sOr, sIf, sTup, sLst, sFz, sV, sC, sChain, sLenO, sIxO, sCmpO, sPop, sSl, sRevO, sRevD, rNil, rF, rL, rLL, addR, subR, fdivR, modR, ltR, leR, gtR, geR, isNR, notNR, isNone, len_t, len_l, absR, intR, minR, tupleR, isiR, subTy, tyD, revTR, negR, gN, gT, gCns, Fw.gNil, oN, oS, lstOf, setLst, ice, noAl, sYes, wipeE, idle, put_c0, put_c1, put_c2, put_c3, put_c4, put_c5, put_c6, put_c7, put_c8, put_c9, put_c10, put_c11, put_c12, put_c13, put_c14, put_c15, put_c16, put_c17, put_c18, put_c19, put_c20, put_c21, put_c22, put_c23], by simp [xRet, xRetL, xSeq, xSet, xSetL, xIf, xDrop, xAsg, xNil, xNo, xPar, puts, xApp, xAug, xIce, xUn, s1, s2, sA0, sA1, sCall, sCallL, sCallM, sCallS, sCallSL, sB, sAndT, sOrT, sNotT, sAnd, sOr, sIf, sTup, sLst, sFz, sV, sC, sChain, sLenO, sIxO, sCmpO, sPop, sSl, sRevO, sRevD, rNil, rF, rL, rLL, addR, subR, fdivR, modR, ltR, leR, gtR, geR, isNR, notNR, isNone, len_t, len_l, absR, intR, minR, tupleR, isiR, subTy, tyD, revTR, negR, gN, gT, gCns, Fw.gNil, oN, oS, lstOf, setLst, ice, noAl, sYes, wipeE, idle, put_c0, put_c1, put_c2, put_c3, put_c4, put_c5, put_c6, put_c7, put_c8, put_c9, put_c10, put_c11, put_c12, put_c13, put_c14, put_c15, put_c16, put_c17, put_c18, put_c19, put_c20, put_c21, put_c22, put_c23]⟩)
  have rl : R.length ≤ 160 := by
    rw [hR.length_eq]
    have a := List.length_filter_le (fun p : Nat × Nat => decide (gA p.1 p.2 < t) && decide (t ≤ gA p.1 p.2 + dl p.1)) (prs m n)
    have b : (prs m n).length = m * n := prs_len m n
    have c : m * n ≤ 4 * 40 := Nat.mul_le_mul hm hn
    unfold ride
    omega
  have hL0 : Lk n m cA gA t 0 = (List.range m).map fun s => lnD cA s (stT n cA gA s t) := by unfold Lk; refine List.map_congr_left fun s _ => ?_; simp
  have hLL := sLL_map (vs := [13]) (it := wIx (sV 4)) (p := gN 13) (e := sCallL listR (sA1 (sV 13) sA0)) (δ0 := [r0, r1, r2, .fz (.int t), r4, r5, r6, .fz (.list ((com n m cA t).map fun p => .tuple [.int p.1, .int p.2])), .un, .un, .un, .un, .un, .un, .un, .un, .un])
    (δ1 := [r0, r1, r2, .fz (.int t), r4, r5, r6, .fz (.list ((com n m cA t).map fun p => .tuple [.int p.1, .int p.2])), .un, .un, .un, .un, .un, .un, .un, .un, .un]) (as := List.range m) (enc := fun s => .tuple (lnD cA s (stT n cA gA s t))) (fun s => lnD cA s (stT n cA gA s t))
    (by simp [r4, stdD, xRet, xRetL, xSeq, xSet, xSetL, xIf, xDrop, xAsg, xNil, xNo, xPar, puts, xApp, xAug, xIce, xUn, s1, s2, sA0, sA1, sCall, sCallL, sCallM, sCallS, sCallSL, sB, sAndT, sOrT, sNotT, sAnd, sOr, sIf, sTup, sLst, sFz, sV, sC, sChain, sLenO, sIxO, sCmpO, sPop, sSl, sRevO, sRevD, rNil, rF, rL, rLL, addR, subR, fdivR, modR, ltR, leR, gtR, geR, isNR, notNR, isNone, len_t, len_l, absR, intR, minR, tupleR, isiR, subTy, tyD, revTR, negR, gN, gT, gCns, Fw.gNil, oN, oS, lstOf, setLst, ice, noAl, sYes, wipeE, idle, put_c0, put_c1, put_c2, put_c3, put_c4, put_c5, put_c6, put_c7, put_c8, put_c9, put_c10, put_c11, put_c12, put_c13, put_c14, put_c15, put_c16, put_c17, put_c18, put_c19, put_c20, put_c21, put_c22, put_c23, wIx, itD]) rfl (fun s ms => ⟨[r0, r1, r2, .fz (.int t), r4, r5, r6, .fz (.list ((com n m cA t).map fun p => .tuple [.int p.1, .int p.2])), .un, .un, .un, .un, .un, .fz (.tuple (lnD cA s (stT n cA gA s t))), .un, .un, .un], by simp [xRet, xRetL, xSeq, xSet, xSetL, xIf, xDrop, xAsg, xNil, xNo, xPar, puts, xApp, xAug, xIce, xUn, s1, s2, sA0, sA1, sCall, sCallL, sCallM, sCallS, sCallSL, sB, sAndT, sOrT, sNotT, sAnd, sOr, sIf, sTup, sLst, sFz, sV, sC, sChain, sLenO, sIxO, sCmpO, sPop, sSl, sRevO, sRevD, rNil, rF, rL, rLL, addR, subR, fdivR, modR, ltR, leR, gtR, geR, isNR, notNR, isNone, len_t, len_l, absR, intR, minR, tupleR, isiR, subTy, tyD, revTR, negR, gN, gT, gCns, Fw.gNil, oN, oS, lstOf, setLst, ice, noAl, sYes, wipeE, idle, put_c0, put_c1, put_c2, put_c3, put_c4, put_c5, put_c6, put_c7, put_c8, put_c9, put_c10, put_c11, put_c12, put_c13, put_c14, put_c15, put_c16, put_c17, put_c18, put_c19, put_c20, put_c21, put_c22, put_c23], by simp [listR, xRet, xRetL, xSeq, xSet, xSetL, xIf, xDrop, xAsg, xNil, xNo, xPar, puts, xApp, xAug, xIce, xUn, s1, s2, sA0, sA1, sCall, sCallL, sCallM, sCallS, sCallSL, sB, sAndT, sOrT, sNotT, sAnd, sOr, sIf, sTup, sLst, sFz, sV, sC, sChain, sLenO, sIxO, sCmpO, sPop, sSl, sRevO, sRevD, rNil, rF, rL, rLL, addR, subR, fdivR, modR, ltR, leR, gtR, geR, isNR, notNR, isNone, len_t, len_l, absR, intR, minR, tupleR, isiR, subTy, tyD, revTR, negR, gN, gT, gCns, Fw.gNil, oN, oS, lstOf, setLst, ice, noAl, sYes, wipeE, idle, put_c0, put_c1, put_c2, put_c3, put_c4, put_c5, put_c6, put_c7, put_c8, put_c9, put_c10, put_c11, put_c12, put_c13, put_c14, put_c15, put_c16, put_c17, put_c18, put_c19, put_c20, put_c21, put_c22, put_c23], by simp [xRet, xRetL, xSeq, xSet, xSetL, xIf, xDrop, xAsg, xNil, xNo, xPar, puts, xApp, xAug, xIce, xUn, s1, s2, sA0, sA1, sCall, sCallL, sCallM, sCallS, sCallSL, sB, sAndT, sOrT, sNotT, sAnd, sOr, sIf, sTup, sLst, sFz, sV, sC, sChain, sLenO, sIxO, sCmpO, sPop, sSl, sRevO, sRevD, rNil, rF, rL, rLL, addR, subR, fdivR, modR, ltR, leR, gtR, geR, isNR, notNR, isNone, len_t, len_l, absR, intR, minR, tupleR, isiR, subTy, tyD, revTR, negR, gN, gT, gCns, Fw.gNil, oN, oS, lstOf, setLst, ice, noAl, sYes, wipeE, idle, put_c0, put_c1, put_c2, put_c3, put_c4, put_c5, put_c6, put_c7, put_c8, put_c9, put_c10, put_c11, put_c12, put_c13, put_c14, put_c15, put_c16, put_c17, put_c18, put_c19, put_c20, put_c21, put_c22, put_c23]⟩)
  rw [← hL0] at hLL
  have hF := forL_inv (p := gT 2 (gCns (gN 9) (gCns (gN 10) Fw.gNil))) (body := ciB) (as := (com n m cA t).map fun p => .tuple [.int p.1, .int p.2])
    (fun i δ => ∃ u9 u10 u13 u14 od', Fre u9 ∧ Fre u10 ∧ Lin u13 ∧ Fre u14 ∧ od'.length ≤ od.length + i ∧ δ = [r0, r1, r2, .fz (.int t), r4, r5, r6, .fz (.list ((com n m cA t).map fun p => .tuple [.int p.1, .int p.2])), .un, u9, u10, .ow2 (Lk n m cA gA t i), .ow od', u13, u14, .un, .un]) (fun i d δ e ⟨u9, u10, u13, u14, od', f9, f10, f13, f14, lo, eδ⟩ => by
      subst eδ
      rw [List.getElem?_map] at e
      cases q : (com n m cA t)[i]? with
      | none => rw [q] at e; cases e
      | some p =>
        rw [q] at e
        obtain ⟨k, s⟩ := p
        have e : d = .tuple [.int k, .int s] := (Option.some.inj e).symm
        subst e
        have hi := (List.getElem?_eq_some_iff.mp q).1
        obtain ⟨hk, hs, _⟩ := com_mem.mp (List.mem_of_getElem? q)
        have hk : k < n := hk
        have hs : s ≤ m := hs
        have lz : od'.length < sizeLine := by rw [sizeLine_eq]; omega
        by_cases qs : s = m
        · subst qs
          refine ⟨[r0, r1, r2, .fz (.int t), r4, r5, r6, .fz (.list ((com n s cA t).map fun p => .tuple [.int p.1, .int p.2])), .un, .fz (.int k), .fz (.int s), .ow2 (Lk n s cA gA t i), .ow od', u13, u14, .un, .un], _, by simp [xRet, xRetL, xSeq, xSet, xSetL, xIf, xDrop, xAsg, xNil, xNo, xPar, puts, xApp, xAug, xIce, xUn, s1, s2, sA0, sA1, sCall, sCallL, sCallM, sCallS, sCallSL, sB, sAndT, sOrT, sNotT, sAnd, sOr, sIf, sTup, sLst, sFz, sV, sC, sChain, sLenO, sIxO, sCmpO, sPop, sSl, sRevO, sRevD, rNil, rF, rL, rLL, addR, subR, fdivR, modR, ltR, leR, gtR, geR, isNR, notNR, isNone, len_t, len_l, absR, intR, minR, tupleR, isiR, subTy, tyD, revTR, negR, gN, gT, gCns, Fw.gNil, oN, oS, lstOf, setLst, ice, noAl, sYes, wipeE, idle, put_c0, put_c1, put_c2, put_c3, put_c4, put_c5, put_c6, put_c7, put_c8, put_c9, put_c10, put_c11, put_c12, put_c13, put_c14, put_c15, put_c16, put_c17, put_c18, put_c19, put_c20, put_c21, put_c22, put_c23], ciB_out hk lz, _, _, u13, _, _, inferInstance, inferInstance, f13, inferInstance, ?_, by rw [Lk_same q]⟩
          rw [List.length_append]; simp; omega
        · have hs' : s < m := by omega
          have lz2 : (lnD cA s (stT n cA gA s t ++ (((com n m cA t).take i).filter fun p => p.2 == s).map (·.1))).length < sizeLine := by
            rw [lnD_len, List.length_append, List.length_map]
            have a : (stT n cA gA s t).length ≤ n := Nat.le_trans (List.length_filter_le _ _) (by simp)
            have b := List.length_filter_le (fun p : Nat × Nat => p.2 == s) ((com n m cA t).take i)
            have c : ((com n m cA t).take i).length ≤ (com n m cA t).length := by rw [List.length_take]; omega
            rw [sizeLine_eq]; omega
          exact ⟨[r0, r1, r2, .fz (.int t), r4, r5, r6, .fz (.list ((com n m cA t).map fun p => .tuple [.int p.1, .int p.2])), .un, .fz (.int k), .fz (.int s), .ow2 (Lk n m cA gA t i), .ow od', u13, u14, .un, .un], _, by simp [xRet, xRetL, xSeq, xSet, xSetL, xIf, xDrop, xAsg, xNil, xNo, xPar, puts, xApp, xAug, xIce, xUn, s1, s2, sA0, sA1, sCall, sCallL, sCallM, sCallS, sCallSL, sB, sAndT, sOrT, sNotT, sAnd, sOr, sIf, sTup, sLst, sFz, sV, sC, sChain, sLenO, sIxO, sCmpO, sPop, sSl, sRevO, sRevD, rNil, rF, rL, rLL, addR, subR, fdivR, modR, ltR, leR, gtR, geR, isNR, notNR, isNone, len_t, len_l, absR, intR, minR, tupleR, isiR, subTy, tyD, revTR, negR, gN, gT, gCns, Fw.gNil, oN, oS, lstOf, setLst, ice, noAl, sYes, wipeE, idle, put_c0, put_c1, put_c2, put_c3, put_c4, put_c5, put_c6, put_c7, put_c8, put_c9, put_c10, put_c11, put_c12, put_c13, put_c14, put_c15, put_c16, put_c17, put_c18, put_c19, put_c20, put_c21, put_c22, put_c23], ciB_in hk hs' f13 (Lk_get hs') lz2, _, _, .al 11 s, _, od', inferInstance, inferInstance, .inr ⟨s, rfl⟩, inferInstance, by omega, by rw [Lk_next q hs']⟩) (δ := [r0, r1, r2, .fz (.int t), r4, r5, r6, .fz (.list ((com n m cA t).map fun p => .tuple [.int p.1, .int p.2])), .un, .un, .un, .ow2 (Lk n m cA gA t 0), .ow od, .un, .un, .un, .un]) ⟨.un, .un, .un, .un, od, inferInstance, inferInstance, .inl rfl, inferInstance, by omega, rfl⟩
  obtain ⟨δ', f1, u9, u10, u13, u14, od', fu9, fu10, fu13, fu14, lo, rfl⟩ := hF
  rw [List.length_map] at f1 lo
  rw [Lk_end S t] at f1
  refine ⟨od', by omega, ?_⟩
  let x7 : Fw.Slot := .fz (.list ((com n m cA t).map fun p => .tuple [.int p.1, .int p.2]))
  let st : PyData := .tuple ((R.filter fun p : Nat × Nat => decide (t < gA p.1 p.2 + dl p.1)).map (rdI gA dl))
  have hS := sLc_filter (vs := [16]) (it := wIx (sV 5)) (p := gN 16) (c := sB (s2 gtR (s2 ixR (sV 16) (sC (.int 0))) (sV 3))) (e := sV 16)
    (δ0 := [r0, r1, r2, .fz (.int t), r4, r5, r6, x7, .un, u9, u10, .ow2 ((List.range m).map fun s => lnD cA s (s2T n cA gA s t)), .ow od', u13, u14, .un, .un]) (δ1 := [r0, r1, r2, .fz (.int t), r4, r5, r6, x7, .un, u9, u10, .ow2 ((List.range m).map fun s => lnD cA s (s2T n cA gA s t)), .ow od', u13, u14, .un, .un]) (as := R) (enc := rdI gA dl)
    (fun p => decide (t < gA p.1 p.2 + dl p.1)) (fun p => rdI gA dl p) (by simp [r5, xRet, xRetL, xSeq, xSet, xSetL, xIf, xDrop, xAsg, xNil, xNo, xPar, puts, xApp, xAug, xIce, xUn, s1, s2, sA0, sA1, sCall, sCallL, sCallM, sCallS, sCallSL, sB, sAndT, sOrT, sNotT, sAnd, sOr, sIf, sTup, sLst, sFz, sV, sC, sChain, sLenO, sIxO, sCmpO, sPop, sSl, sRevO, sRevD, rNil, rF, rL, rLL, addR, subR, fdivR, modR, ltR, leR, gtR, geR, isNR, notNR, isNone, len_t, len_l, absR, intR, minR, tupleR, isiR, subTy, tyD, revTR, negR, gN, gT, gCns, Fw.gNil, oN, oS, lstOf, setLst, ice, noAl, sYes, wipeE, idle, put_c0, put_c1, put_c2, put_c3, put_c4, put_c5, put_c6, put_c7, put_c8, put_c9, put_c10, put_c11, put_c12, put_c13, put_c14, put_c15, put_c16, put_c17, put_c18, put_c19, put_c20, put_c21, put_c22, put_c23, wIx, itD]) rfl (fun p mp => ⟨[r0, r1, r2, .fz (.int t), r4, r5, r6, x7, .un, u9, u10, .ow2 ((List.range m).map fun s => lnD cA s (s2T n cA gA s t)), .ow od', u13, u14, .un, .fz (rdI gA dl p)], by simp [xRet, xRetL, xSeq, xSet, xSetL, xIf, xDrop, xAsg, xNil, xNo, xPar, puts, xApp, xAug, xIce, xUn, s1, s2, sA0, sA1, sCall, sCallL, sCallM, sCallS, sCallSL, sB, sAndT, sOrT, sNotT, sAnd, sOr, sIf, sTup, sLst, sFz, sV, sC, sChain, sLenO, sIxO, sCmpO, sPop, sSl, sRevO, sRevD, rNil, rF, rL, rLL, addR, subR, fdivR, modR, ltR, leR, gtR, geR, isNR, notNR, isNone, len_t, len_l, absR, intR, minR, tupleR, isiR, subTy, tyD, revTR, negR, gN, gT, gCns, Fw.gNil, oN, oS, lstOf, setLst, ice, noAl, sYes, wipeE, idle, put_c0, put_c1, put_c2, put_c3, put_c4, put_c5, put_c6, put_c7, put_c8, put_c9, put_c10, put_c11, put_c12, put_c13, put_c14, put_c15, put_c16, put_c17, put_c18, put_c19, put_c20, put_c21, put_c22, put_c23], by simp [ix_t0, xRet, xRetL, xSeq, xSet, xSetL, xIf, xDrop, xAsg, xNil, xNo, xPar, puts, xApp, xAug, xIce, xUn, s1, s2, sA0, sA1, sCall, sCallL, sCallM, sCallS, sCallSL, sB, sAndT, sOrT, sNotT, sAnd, sOr, sIf, sTup, sLst, sFz, sV, sC, sChain, sLenO, sIxO, sCmpO, sPop, sSl, sRevO, sRevD, rNil, rF, rL, rLL, addR, subR, fdivR, modR, ltR, leR, gtR, geR, isNR, notNR, isNone, len_t, len_l, absR, intR, minR, tupleR, isiR, subTy, tyD, revTR, negR, gN, gT, gCns, Fw.gNil, oN, oS, lstOf, setLst, ice, noAl, sYes, wipeE, idle, put_c0, put_c1, put_c2, put_c3, put_c4, put_c5, put_c6, put_c7, put_c8, put_c9, put_c10, put_c11, put_c12, put_c13, put_c14, put_c15, put_c16, put_c17, put_c18, put_c19, put_c20, put_c21, put_c22, put_c23], by simp [xRet, xRetL, xSeq, xSet, xSetL, xIf, xDrop, xAsg, xNil, xNo, xPar, puts, xApp, xAug, xIce, xUn, s1, s2, sA0, sA1, sCall, sCallL, sCallM, sCallS, sCallSL, sB, sAndT, sOrT, sNotT, sAnd, sOr, sIf, sTup, sLst, sFz, sV, sC, sChain, sLenO, sIxO, sCmpO, sPop, sSl, sRevO, sRevD, rNil, rF, rL, rLL, addR, subR, fdivR, modR, ltR, leR, gtR, geR, isNR, notNR, isNone, len_t, len_l, absR, intR, minR, tupleR, isiR, subTy, tyD, revTR, negR, gN, gT, gCns, Fw.gNil, oN, oS, lstOf, setLst, ice, noAl, sYes, wipeE, idle, put_c0, put_c1, put_c2, put_c3, put_c4, put_c5, put_c6, put_c7, put_c8, put_c9, put_c10, put_c11, put_c12, put_c13, put_c14, put_c15, put_c16, put_c17, put_c18, put_c19, put_c20, put_c21, put_c22, put_c23], by simp [xRet, xRetL, xSeq, xSet, xSetL, xIf, xDrop, xAsg, xNil, xNo, xPar, puts, xApp, xAug, xIce, xUn, s1, s2, sA0, sA1, sCall, sCallL, sCallM, sCallS, sCallSL, sB, sAndT, sOrT, sNotT, sAnd, sOr, sIf, sTup, sLst, sFz, sV, sC, sChain, sLenO, sIxO, sCmpO, sPop, sSl, sRevO, sRevD, rNil, rF, rL, rLL, addR, subR, fdivR, modR, ltR, leR, gtR, geR, isNR, notNR, isNone, len_t, len_l, absR, intR, minR, tupleR, isiR, subTy, tyD, revTR, negR, gN, gT, gCns, Fw.gNil, oN, oS, lstOf, setLst, ice, noAl, sYes, wipeE, idle, put_c0, put_c1, put_c2, put_c3, put_c4, put_c5, put_c6, put_c7, put_c8, put_c9, put_c10, put_c11, put_c12, put_c13, put_c14, put_c15, put_c16, put_c17, put_c18, put_c19, put_c20, put_c21, put_c22, put_c23]⟩)
  have hT := sLc_map (vs := [13]) (it := wIx (sV 11)) (p := gN 13) (e := sCall tupleR (sA1 (sV 13) sA0)) (δ0 := [r0, r1, r2, .fz (.int t), r4, r5, r6, x7, .un, u9, u10, .fz (.list ((List.range m).map fun s => .list (lnD cA s (s2T n cA gA s t)))), .fz (.list od'), .un, u14, .fz st, .un])
    (δ1 := [r0, r1, r2, .fz (.int t), r4, r5, r6, x7, .un, u9, u10, .fz (.list ((List.range m).map fun s => .list (lnD cA s (s2T n cA gA s t)))), .fz (.list od'), .un, u14, .fz st, .un]) (as := List.range m) (enc := fun s => .list (lnD cA s (s2T n cA gA s t))) (fun s => .tuple (lnD cA s (s2T n cA gA s t)))
    (by simp [xRet, xRetL, xSeq, xSet, xSetL, xIf, xDrop, xAsg, xNil, xNo, xPar, puts, xApp, xAug, xIce, xUn, s1, s2, sA0, sA1, sCall, sCallL, sCallM, sCallS, sCallSL, sB, sAndT, sOrT, sNotT, sAnd, sOr, sIf, sTup, sLst, sFz, sV, sC, sChain, sLenO, sIxO, sCmpO, sPop, sSl, sRevO, sRevD, rNil, rF, rL, rLL, addR, subR, fdivR, modR, ltR, leR, gtR, geR, isNR, notNR, isNone, len_t, len_l, absR, intR, minR, tupleR, isiR, subTy, tyD, revTR, negR, gN, gT, gCns, Fw.gNil, oN, oS, lstOf, setLst, ice, noAl, sYes, wipeE, idle, put_c0, put_c1, put_c2, put_c3, put_c4, put_c5, put_c6, put_c7, put_c8, put_c9, put_c10, put_c11, put_c12, put_c13, put_c14, put_c15, put_c16, put_c17, put_c18, put_c19, put_c20, put_c21, put_c22, put_c23, wIx, itD]) rfl (fun s ms => ⟨[r0, r1, r2, .fz (.int t), r4, r5, r6, x7, .un, u9, u10, .fz (.list ((List.range m).map fun s => .list (lnD cA s (s2T n cA gA s t)))), .fz (.list od'), .fz (.list (lnD cA s (s2T n cA gA s t))), u14, .fz st, .un], by simp [xRet, xRetL, xSeq, xSet, xSetL, xIf, xDrop, xAsg, xNil, xNo, xPar, puts, xApp, xAug, xIce, xUn, s1, s2, sA0, sA1, sCall, sCallL, sCallM, sCallS, sCallSL, sB, sAndT, sOrT, sNotT, sAnd, sOr, sIf, sTup, sLst, sFz, sV, sC, sChain, sLenO, sIxO, sCmpO, sPop, sSl, sRevO, sRevD, rNil, rF, rL, rLL, addR, subR, fdivR, modR, ltR, leR, gtR, geR, isNR, notNR, isNone, len_t, len_l, absR, intR, minR, tupleR, isiR, subTy, tyD, revTR, negR, gN, gT, gCns, Fw.gNil, oN, oS, lstOf, setLst, ice, noAl, sYes, wipeE, idle, put_c0, put_c1, put_c2, put_c3, put_c4, put_c5, put_c6, put_c7, put_c8, put_c9, put_c10, put_c11, put_c12, put_c13, put_c14, put_c15, put_c16, put_c17, put_c18, put_c19, put_c20, put_c21, put_c22, put_c23], by simp [xRet, xRetL, xSeq, xSet, xSetL, xIf, xDrop, xAsg, xNil, xNo, xPar, puts, xApp, xAug, xIce, xUn, s1, s2, sA0, sA1, sCall, sCallL, sCallM, sCallS, sCallSL, sB, sAndT, sOrT, sNotT, sAnd, sOr, sIf, sTup, sLst, sFz, sV, sC, sChain, sLenO, sIxO, sCmpO, sPop, sSl, sRevO, sRevD, rNil, rF, rL, rLL, addR, subR, fdivR, modR, ltR, leR, gtR, geR, isNR, notNR, isNone, len_t, len_l, absR, intR, minR, tupleR, isiR, subTy, tyD, revTR, negR, gN, gT, gCns, Fw.gNil, oN, oS, lstOf, setLst, ice, noAl, sYes, wipeE, idle, put_c0, put_c1, put_c2, put_c3, put_c4, put_c5, put_c6, put_c7, put_c8, put_c9, put_c10, put_c11, put_c12, put_c13, put_c14, put_c15, put_c16, put_c17, put_c18, put_c19, put_c20, put_c21, put_c22, put_c23], by simp [xRet, xRetL, xSeq, xSet, xSetL, xIf, xDrop, xAsg, xNil, xNo, xPar, puts, xApp, xAug, xIce, xUn, s1, s2, sA0, sA1, sCall, sCallL, sCallM, sCallS, sCallSL, sB, sAndT, sOrT, sNotT, sAnd, sOr, sIf, sTup, sLst, sFz, sV, sC, sChain, sLenO, sIxO, sCmpO, sPop, sSl, sRevO, sRevD, rNil, rF, rL, rLL, addR, subR, fdivR, modR, ltR, leR, gtR, geR, isNR, notNR, isNone, len_t, len_l, absR, intR, minR, tupleR, isiR, subTy, tyD, revTR, negR, gN, gT, gCns, Fw.gNil, oN, oS, lstOf, setLst, ice, noAl, sYes, wipeE, idle, put_c0, put_c1, put_c2, put_c3, put_c4, put_c5, put_c6, put_c7, put_c8, put_c9, put_c10, put_c11, put_c12, put_c13, put_c14, put_c15, put_c16, put_c17, put_c18, put_c19, put_c20, put_c21, put_c22, put_c23]⟩)
  have main : ∃ δ9, i_come_in [r0, r1, r2, .un, .un, .un, .un, .un, .un, .un, .un, .un, .un, .un, .un, .un, .un] = some (.rt (staD m cA gA dl t (fun s => s2T n cA gA s t) (R.filter fun p : Nat × Nat => decide (t < gA p.1 p.2 + dl p.1)) od') δ9) := by
    refine ⟨[r0, r1, r2, .fz (.int t), r4, r5, r6, x7, .un, u9, u10, .fz (.list ((List.range m).map fun s => .list (lnD cA s (s2T n cA gA s t)))), .fz (.list od'), .un, u14, .fz st, .un], ?_⟩
    unfold i_come_in
    refine (xSeq_eq (δ1 := [r0, r1, r2, .fz (.int t), r4, r5, r6, .un, .un, .un, .un, .un, .un, .un, .un, .un, .un]) (by simp [r1, staD, r4, r5, r6, xRet, xRetL, xSeq, xSet, xSetL, xIf, xDrop, xAsg, xNil, xNo, xPar, puts, xApp, xAug, xIce, xUn, s1, s2, sA0, sA1, sCall, sCallL, sCallM, sCallS, sCallSL, sB, sAndT, sOrT, sNotT, sAnd, sOr, sIf, sTup, sLst, sFz, sV, sC, sChain, sLenO, sIxO, sCmpO, sPop, sSl, sRevO, sRevD, rNil, rF, rL, rLL, addR, subR, fdivR, modR, ltR, leR, gtR, geR, isNR, notNR, isNone, len_t, len_l, absR, intR, minR, tupleR, isiR, subTy, tyD, revTR, negR, gN, gT, gCns, Fw.gNil, oN, oS, lstOf, setLst, ice, noAl, sYes, wipeE, idle, put_c0, put_c1, put_c2, put_c3, put_c4, put_c5, put_c6, put_c7, put_c8, put_c9, put_c10, put_c11, put_c12, put_c13, put_c14, put_c15, put_c16, put_c17, put_c18, put_c19, put_c20, put_c21, put_c22, put_c23])).trans ?_
    refine (xSeq_eq (δ1 := [r0, r1, r2, .fz (.int t), r4, r5, r6, .fz (.list ((R.filter fun p : Nat × Nat => decide (gA p.1 p.2 + dl p.1 = t)).map fun p : Nat × Nat => PyData.tuple [.int p.2, .int ((p.1 : Int) + 1)])), .un, .un, .un, .un, .un, .un, .un, .un, .un]) (by simp [hC1, xRet, xRetL, xSeq, xSet, xSetL, xIf, xDrop, xAsg, xNil, xNo, xPar, puts, xApp, xAug, xIce, xUn, s1, s2, sA0, sA1, sCall, sCallL, sCallM, sCallS, sCallSL, sB, sAndT, sOrT, sNotT, sAnd, sOr, sIf, sTup, sLst, sFz, sV, sC, sChain, sLenO, sIxO, sCmpO, sPop, sSl, sRevO, sRevD, rNil, rF, rL, rLL, addR, subR, fdivR, modR, ltR, leR, gtR, geR, isNR, notNR, isNone, len_t, len_l, absR, intR, minR, tupleR, isiR, subTy, tyD, revTR, negR, gN, gT, gCns, Fw.gNil, oN, oS, lstOf, setLst, ice, noAl, sYes, wipeE, idle, put_c0, put_c1, put_c2, put_c3, put_c4, put_c5, put_c6, put_c7, put_c8, put_c9, put_c10, put_c11, put_c12, put_c13, put_c14, put_c15, put_c16, put_c17, put_c18, put_c19, put_c20, put_c21, put_c22, put_c23])).trans ?_
    refine (xSeq_eq (δ1 := [r0, r1, r2, .fz (.int t), r4, r5, r6, x7, .un, .un, .un, .un, .un, .un, .un, .un, .un]) ?_).trans ?_
    · have l1 := List.length_filter_le (fun p : Nat × Nat => decide (gA p.1 p.2 + dl p.1 = t)) R
      have l2 : (cmT n cA 0 t).length ≤ n := Nat.le_trans (List.length_filter_le _ _) (by simp)
      have lz : (R.filter fun p : Nat × Nat => decide (gA p.1 p.2 + dl p.1 = t)).length + (cmT n cA 0 t).length ≤ sizeLine := by rw [sizeLine_eq]; omega
      have hsrt := comD S hR
      simp [hC2, hsrt, lz, x7, xRet, xRetL, xSeq, xSet, xSetL, xIf, xDrop, xAsg, xNil, xNo, xPar, puts, xApp, xAug, xIce, xUn, s1, s2, sA0, sA1, sCall, sCallL, sCallM, sCallS, sCallSL, sB, sAndT, sOrT, sNotT, sAnd, sOr, sIf, sTup, sLst, sFz, sV, sC, sChain, sLenO, sIxO, sCmpO, sPop, sSl, sRevO, sRevD, rNil, rF, rL, rLL, addR, subR, fdivR, modR, ltR, leR, gtR, geR, isNR, notNR, isNone, len_t, len_l, absR, intR, minR, tupleR, isiR, subTy, tyD, revTR, negR, gN, gT, gCns, Fw.gNil, oN, oS, lstOf, setLst, ice, noAl, sYes, wipeE, idle, put_c0, put_c1, put_c2, put_c3, put_c4, put_c5, put_c6, put_c7, put_c8, put_c9, put_c10, put_c11, put_c12, put_c13, put_c14, put_c15, put_c16, put_c17, put_c18, put_c19, put_c20, put_c21, put_c22, put_c23]
    refine (xSeq_eq (δ1 := [r0, r1, r2, .fz (.int t), r4, r5, r6, x7, .un, .un, .un, .ow2 (Lk n m cA gA t 0), .ow od, .un, .un, .un, .un]) (by simp [hLL, r6, x7, listR, xRet, xRetL, xSeq, xSet, xSetL, xIf, xDrop, xAsg, xNil, xNo, xPar, puts, xApp, xAug, xIce, xUn, s1, s2, sA0, sA1, sCall, sCallL, sCallM, sCallS, sCallSL, sB, sAndT, sOrT, sNotT, sAnd, sOr, sIf, sTup, sLst, sFz, sV, sC, sChain, sLenO, sIxO, sCmpO, sPop, sSl, sRevO, sRevD, rNil, rF, rL, rLL, addR, subR, fdivR, modR, ltR, leR, gtR, geR, isNR, notNR, isNone, len_t, len_l, absR, intR, minR, tupleR, isiR, subTy, tyD, revTR, negR, gN, gT, gCns, Fw.gNil, oN, oS, lstOf, setLst, ice, noAl, sYes, wipeE, idle, put_c0, put_c1, put_c2, put_c3, put_c4, put_c5, put_c6, put_c7, put_c8, put_c9, put_c10, put_c11, put_c12, put_c13, put_c14, put_c15, put_c16, put_c17, put_c18, put_c19, put_c20, put_c21, put_c22, put_c23])).trans ?_
    refine (xSeq_eq (δ1 := [r0, r1, r2, .fz (.int t), r4, r5, r6, x7, .un, u9, u10, .ow2 ((List.range m).map fun s => lnD cA s (s2T n cA gA s t)), .ow od', u13, u14, .un, .un]) ?_).trans ?_
    · have hI : wIx (sV 7) [r0, r1, r2, .fz (.int t), r4, r5, r6, x7, .un, .un, .un, .ow2 (Lk n m cA gA t 0), .ow od, .un, .un, .un, .un] = some ((com n m cA t).map fun p => .tuple [.int p.1, .int p.2], [r0, r1, r2, .fz (.int t), r4, r5, r6, x7, .un, .un, .un, .ow2 (Lk n m cA gA t 0), .ow od, .un, .un, .un, .un]) := by simp [x7, xRet, xRetL, xSeq, xSet, xSetL, xIf, xDrop, xAsg, xNil, xNo, xPar, puts, xApp, xAug, xIce, xUn, s1, s2, sA0, sA1, sCall, sCallL, sCallM, sCallS, sCallSL, sB, sAndT, sOrT, sNotT, sAnd, sOr, sIf, sTup, sLst, sFz, sV, sC, sChain, sLenO, sIxO, sCmpO, sPop, sSl, sRevO, sRevD, rNil, rF, rL, rLL, addR, subR, fdivR, modR, ltR, leR, gtR, geR, isNR, notNR, isNone, len_t, len_l, absR, intR, minR, tupleR, isiR, subTy, tyD, revTR, negR, gN, gT, gCns, Fw.gNil, oN, oS, lstOf, setLst, ice, noAl, sYes, wipeE, idle, put_c0, put_c1, put_c2, put_c3, put_c4, put_c5, put_c6, put_c7, put_c8, put_c9, put_c10, put_c11, put_c12, put_c13, put_c14, put_c15, put_c16, put_c17, put_c18, put_c19, put_c20, put_c21, put_c22, put_c23, wIx, itD]
      unfold xFor
      rw [hI]
      exact f1
    refine (xSeq_eq (δ1 := [r0, r1, r2, .fz (.int t), r4, r5, r6, x7, .un, u9, u10, .ow2 ((List.range m).map fun s => lnD cA s (s2T n cA gA s t)), .ow od', u13, u14, .fz st, .un]) (by simp [hS, st, xRet, xRetL, xSeq, xSet, xSetL, xIf, xDrop, xAsg, xNil, xNo, xPar, puts, xApp, xAug, xIce, xUn, s1, s2, sA0, sA1, sCall, sCallL, sCallM, sCallS, sCallSL, sB, sAndT, sOrT, sNotT, sAnd, sOr, sIf, sTup, sLst, sFz, sV, sC, sChain, sLenO, sIxO, sCmpO, sPop, sSl, sRevO, sRevD, rNil, rF, rL, rLL, addR, subR, fdivR, modR, ltR, leR, gtR, geR, isNR, notNR, isNone, len_t, len_l, absR, intR, minR, tupleR, isiR, subTy, tyD, revTR, negR, gN, gT, gCns, Fw.gNil, oN, oS, lstOf, setLst, ice, noAl, sYes, wipeE, idle, put_c0, put_c1, put_c2, put_c3, put_c4, put_c5, put_c6, put_c7, put_c8, put_c9, put_c10, put_c11, put_c12, put_c13, put_c14, put_c15, put_c16, put_c17, put_c18, put_c19, put_c20, put_c21, put_c22, put_c23])).trans ?_
    have hz : (xUn 13 (xIce 11 (xIce 12 (xRet (sTup (sA1 (sV 3) (sA1 (sCall tupleR (sA1 (sFz (sLc [13] (wIx (sV 11)) (gN 13) sYes (sCall tupleR (sA1 (sV 13) sA0)))) sA0)) (sA1 (sV 15) (sA1 (sCall tupleR (sA1 (sV 12) sA0)) sA0))))))))) [r0, r1, r2, .fz (.int t), r4, r5, r6, x7, .un, u9, u10, .ow2 ((List.range m).map fun s => lnD cA s (s2T n cA gA s t)), .ow od', .un, u14, .fz st, .un] = some (.rt (staD m cA gA dl t (fun s => s2T n cA gA s t) (R.filter fun p : Nat × Nat => decide (t < gA p.1 p.2 + dl p.1)) od') [r0, r1, r2, .fz (.int t), r4, r5, r6, x7, .un, u9, u10, .fz (.list ((List.range m).map fun s => .list (lnD cA s (s2T n cA gA s t)))), .fz (.list od'), .un, u14, .fz st, .un]) := by
      have na : noAl [r0, r1, r2, .fz (.int t), r4, r5, r6, x7, .un, u9, u10, .ow2 ((List.range m).map fun s => lnD cA s (s2T n cA gA s t)), .ow od', .un, u14, .fz st, .un] 11 = true := by
        rcases fu9.ok with rfl | ⟨_, rfl⟩ <;> rcases fu10.ok with rfl | ⟨_, rfl⟩ <;> rcases fu14.ok with rfl | ⟨_, rfl⟩ <;> rfl
      have hT' := hT
      simp [xUn, put_c13, xIce, ice, na, List.map_map, Function.comp_def]
      simp [xRet, sTup, sA1, sA0, sV, sCall, sFz, tupleR, hT, hs4, staD, stdD, st]
    rcases fu13 with rfl | ⟨j, rfl⟩
    · exact hz
    · have : xUn 13 (xIce 11 (xIce 12 (xRet (sTup (sA1 (sV 3) (sA1 (sCall tupleR (sA1 (sFz (sLc [13] (wIx (sV 11)) (gN 13) sYes (sCall tupleR (sA1 (sV 13) sA0)))) sA0)) (sA1 (sV 15) (sA1 (sCall tupleR (sA1 (sV 12) sA0)) sA0)))))))) [r0, r1, r2, .fz (.int t), r4, r5, r6, x7, .un, u9, u10, .ow2 ((List.range m).map fun s => lnD cA s (s2T n cA gA s t)), .ow od', .al 11 j, u14, .fz st, .un] = xUn 13 (xIce 11 (xIce 12 (xRet (sTup (sA1 (sV 3) (sA1 (sCall tupleR (sA1 (sFz (sLc [13] (wIx (sV 11)) (gN 13) sYes (sCall tupleR (sA1 (sV 13) sA0)))) sA0)) (sA1 (sV 15) (sA1 (sCall tupleR (sA1 (sV 12) sA0)) sA0)))))))) [r0, r1, r2, .fz (.int t), r4, r5, r6, x7, .un, u9, u10, .ow2 ((List.range m).map fun s => lnD cA s (s2T n cA gA s t)), .ow od', .un, u14, .fz st, .un] := rfl
      exact this.trans hz
  obtain ⟨δ9, main⟩ := main
  show (if ([.list (List.replicate n (routeD m)), staD m cA gA dl t (fun s => stT n cA gA s t) R od, .list (nI (cmT n cA 0 t))] : List PyData).length = 3 then (match i_come_in [r0, r1, r2, .un, .un, .un, .un, .un, .un, .un, .un, .un, .un, .un, .un, .un, .un] with | some (.rt d _) => some d | some (.rl ds _) => some (.list ds) | some (.nx _) => some .none | _ => none) else none) = _
  rw [main]
  rfl
end
end L95

end
section
set_option Elab.async false
set_option linter.all false
set_option maxRecDepth 100000
/-! One tick of the walk on a path: who goes on. -/
namespace L95
open PySem PySem.Spec PyProof.Rows L2 Fw Pl
theorem enumD_app : ∀ (xs ys : List PyData) (c : Int), enumD c (xs ++ ys) = enumD c xs ++ enumD (c + xs.length) ys
  | [], ys, c => by simp [enumD]
  | x :: xs, ys, c => by
    have := enumD_app xs ys (c + 1)
    show .tuple [.int c, x] :: enumD (c + 1) (xs ++ ys) = .tuple [.int c, x] :: enumD (c + 1) xs ++ enumD (c + (xs.length + 1 : Nat)) ys
    rw [this, show c + 1 + (xs.length : Int) = c + ((xs.length + 1 : Nat) : Int) by omega]; rfl
theorem enumD_range (m : Nat) (g : Nat → PyData) : enumD 0 ((List.range m).map g) = (List.range m).map fun s : Nat => .tuple [.int s, g s] := by
  induction m with
  | zero => rfl
  | succ m ih =>
    rw [List.range_succ, List.map_append, enumD_app, ih, List.map_append]
    simp [enumD]
theorem cut_head {α : Type} (a b : List α) : Fw.cutD (a ++ b) none (some (a.length : Int)) = a := by
  unfold Fw.cutD HT.sIx
  have h : ¬ ((a.length : Int) < 0) := by omega
  simp only [List.drop_zero, Nat.sub_zero, List.length_append]
  rw [if_neg h]
  have : min (a.length : Int).toNat (a.length + b.length) = a.length := by omega
  rw [this, List.take_left]
theorem cut_rest {α : Type} (a b : List α) : Fw.cutD (a ++ b) (some (a.length : Int)) none = b := by
  unfold Fw.cutD HT.sIx
  have h : ¬ ((a.length : Int) < 0) := by omega
  simp only [List.length_append]
  rw [if_neg h]
  have : min (a.length : Int).toNat (a.length + b.length) = a.length := by omega
  rw [this, List.drop_left, List.take_of_length_le (by omega)]
section
variable {n m : Nat} {cA gA : Nat → Nat → Int} {dl cp : Nat → Int}
noncomputable def goI : FS := (xSeq (xApp 7 (sTup (sA1 (s2 addR (sV 3) (sV 14)) (sA1 (sV 17) (sA1 (sV 18) sA0)))))
    (xApp 8 (sTup (sA1 (sV 17) (sA1 (sV 10) (sA1 (sV 19) sA0))))))
abbrev rdP (e : Int) (s k : Nat) : PyData := .tuple [.int e, .int k, .int s]
theorem goI_loop {s : Nat} {t d : Int} {h0 h1 h2 h4 h5 h6 x11 x12 x13 x15 x16 u17 u18 u19 : Fw.Slot} [Fre u17] [Fre u18] [Fre u19] {rg wn ln : List PyData} {A : List Nat} (l1 : rg.length + A.length ≤ 100000) (l2 : wn.length + A.length ≤ 100000) :
    ∃ v17 v18 v19, Fre v17 ∧ Fre v18 ∧ Fre v19 ∧ forL (gT 3 (gCns (gN 17) (gCns (gN 18) (gCns (gN 19) Fw.gNil)))) goI (lnD cA s A) [h0, h1, h2, .fz (.int t), h4, h5, h6, .ow rg, .ow wn, .ow ln, .fz (.int s), x11, x12, x13, .fz (.int d), x15, x16, u17, u18, u19] =
      some (.nx [h0, h1, h2, .fz (.int t), h4, h5, h6, .ow (rg ++ A.map fun k => rdP (t + d) s k), .ow (wn ++ A.map fun k => itm k s (cA s k)), .ow ln, .fz (.int s), x11, x12, x13, .fz (.int d), x15, x16, v17, v18, v19]) := by
  have hs3 : 3 ≤ sizeLine := by rw [sizeLine_eq]; omega
  have hF := forL_inv (p := gT 3 (gCns (gN 17) (gCns (gN 18) (gCns (gN 19) Fw.gNil)))) (body := goI) (as := lnD cA s A) (fun i δ => ∃ v17 v18 v19, Fre v17 ∧ Fre v18 ∧ Fre v19 ∧ δ = [h0, h1, h2, .fz (.int t), h4, h5, h6, .ow (rg ++ (A.take i).map fun k => rdP (t + d) s k), .ow (wn ++ (A.take i).map fun k => itm k s (cA s k)), .ow ln, .fz (.int s), x11, x12, x13, .fz (.int d), x15, x16, v17, v18, v19])
    (fun i q δ e ⟨v17, v18, v19, f17, f18, f19, eδ⟩ => by
      subst eδ
      unfold lnD at e
      rw [List.getElem?_map] at e
      cases hq : A[i]? with
      | none => rw [hq] at e; cases e
      | some k =>
        rw [hq] at e
        have e : q = itm k s (cA s k) := (Option.some.inj e).symm
        subst e
        have hi := (List.getElem?_eq_some_iff.mp hq).1
        have et : A.take (i + 1) = A.take i ++ [k] := by rw [List.take_add_one, hq]; rfl
        have z1 : (rg ++ (A.take i).map fun k => rdP (t + d) s k).length < sizeLine := by rw [List.length_append, List.length_map, List.length_take, sizeLine_eq]; omega
        have z2 : (wn ++ (A.take i).map fun k => itm k s (cA s k)).length < sizeLine := by rw [List.length_append, List.length_map, List.length_take, sizeLine_eq]; omega
        refine ⟨[h0, h1, h2, .fz (.int t), h4, h5, h6, .ow (rg ++ (A.take i).map fun k => rdP (t + d) s k), .ow (wn ++ (A.take i).map fun k => itm k s (cA s k)), .ow ln, .fz (.int s), x11, x12, x13, .fz (.int d), x15, x16, .fz (.int k), .fz (.int s), .fz (.int (cA s k))], [h0, h1, h2, .fz (.int t), h4, h5, h6, .ow ((rg ++ (A.take i).map fun k => rdP (t + d) s k) ++ [rdP (t + d) s k]), .ow ((wn ++ (A.take i).map fun k => itm k s (cA s k)) ++ [itm k s (cA s k)]), .ow ln, .fz (.int s), x11, x12, x13, .fz (.int d), x15, x16, .fz (.int k), .fz (.int s), .fz (.int (cA s k))], by simp [xRet, xRetL, xSeq, xSet, xSetL, xIf, xDrop, xAsg, xNil, xNo, xPar, puts, xApp, xAug, xIce, xUn, s1, s2, sA0, sA1, sCall, sCallL, sCallM, sCallS, sCallSL, sB, sAndT, sOrT, sNotT, sAnd, sOr, sIf, sTup, sLst, sFz, sV, sC, sChain, sLenO, sIxO, sCmpO, sPop, sSl, sRevO, sRevD, rNil, rF, rL, rLL, addR, subR, fdivR, modR, ltR, leR, gtR, geR, isNR, notNR, isNone, len_t, len_l, absR, intR, minR, tupleR, isiR, subTy, tyD, revTR, negR, gN, gT, gCns, Fw.gNil, oN, oS, lstOf, setLst, ice, noAl, sYes, wipeE, idle, put_c0, put_c1, put_c2, put_c3, put_c4, put_c5, put_c6, put_c7, put_c8, put_c9, put_c10, put_c11, put_c12, put_c13, put_c14, put_c15, put_c16, put_c17, put_c18, put_c19, put_c20, put_c21, put_c22, put_c23], ?_, _, _, _, inferInstance, inferInstance, inferInstance, by rw [et, List.map_append, List.map_append, List.append_assoc, List.append_assoc]; rfl⟩
        unfold goI
        refine (xSeq_eq (δ1 := [h0, h1, h2, .fz (.int t), h4, h5, h6, .ow ((rg ++ (A.take i).map fun k => rdP (t + d) s k) ++ [rdP (t + d) s k]), .ow (wn ++ (A.take i).map fun k => itm k s (cA s k)), .ow ln, .fz (.int s), x11, x12, x13, .fz (.int d), x15, x16, .fz (.int k), .fz (.int s), .fz (.int (cA s k))]) ?_).trans ?_
        · simp only [xApp, lstOf, List.getElem?_cons_succ, List.getElem?_cons_zero, sTup, sA1, sA0, s2, sV, addR, List.length_cons, List.length_nil, Nat.zero_add, Nat.reduceAdd, if_pos hs3, if_pos z1, setLst, List.set_cons_succ, List.set_cons_zero]
        · simp only [xApp, lstOf, List.getElem?_cons_succ, List.getElem?_cons_zero, sTup, sA1, sA0, s2, sV, addR, List.length_cons, List.length_nil, Nat.zero_add, Nat.reduceAdd, if_pos hs3, if_pos z2, setLst, List.set_cons_succ, List.set_cons_zero])
    (δ := [h0, h1, h2, .fz (.int t), h4, h5, h6, .ow rg, .ow wn, .ow ln, .fz (.int s), x11, x12, x13, .fz (.int d), x15, x16, u17, u18, u19]) ⟨u17, u18, u19, inferInstance, inferInstance, inferInstance, by simp⟩
  obtain ⟨δ', f1, v17, v18, v19, f17, f18, f19, rfl⟩ := hF
  refine ⟨v17, v18, v19, f17, f18, f19, ?_⟩
  rw [f1, lnD_len, List.take_length]
noncomputable def goB : FS := (xSeq (xAsg (gT 4 (gCns (gN 12) (gCns (gN 13) (gCns (gN 14) (gCns (gN 15) Fw.gNil))))) (s2 ixR (s2 ixR (sV 0) (sC (.int 1))) (sV 10)))
    (xSeq (xSet 16 (sIf (sB (s2 inR (sV 10) (sV 2))) (sC (.int 0)) (sCall minR (sA1 (sV 15) (sA1 (sCall lenR (sA1 (sV 11) sA0)) sA0)))))
    (xSeq (xFor (wIx (sSl (sV 11) oN (oS (sV 16)))) (gT 3 (gCns (gN 17) (gCns (gN 18) (gCns (gN 19) Fw.gNil)))) goI)
    (xApp 9 (sSl (sV 11) (oS (sV 16)) oN)))))
/-- the hall as go_on reads it -/
structure Hl (hd : PyData) (m : Nat) (dl cp : Nat → Int) : Prop where
  ex : ∃ st : List PyData, ixR hd (.int 1) = some (.tuple st) ∧ ∀ s : Nat, s < m → ixR (.tuple st) (.int s) = some (.tuple [.int s, .int ((s : Int) + 1), .int (dl s), .int (cp s)])
theorem goT_len {s : Nat} {t : Int} : (goT n gA s t).length ≤ n := Nat.le_trans (List.length_filter_le _ _) (by simp)
theorem goB_ok (S : Sch n m cA gA dl cp) {hd : PyData} (hh : Hl hd m dl cp) (hn : n ≤ 40) {s : Nat} (hs : s < m) {t : Int} {h1 h4 h5 h6 u12 u13 u14 u15 u16 u17 u18 u19 : Fw.Slot} [Fre u12] [Fre u13] [Fre u14] [Fre u15] [Fre u16] [Fre u17] [Fre u18] [Fre u19] {rg wn ln : List PyData}
    (l1 : rg.length ≤ 1000) (l2 : wn.length ≤ 1000) (l3 : ln.length ≤ 1000) :
    ∃ v17 v18 v19, Fre v17 ∧ Fre v18 ∧ Fre v19 ∧ goB [.fz hd, h1, .fz (.tuple []), .fz (.int t), h4, h5, h6, .ow rg, .ow wn, .ow ln, .fz (.int s), .fz (.tuple (lnD cA s (s2T n cA gA s t))), u12, u13, u14, u15, u16, u17, u18, u19] =
      some (.nx [.fz hd, h1, .fz (.tuple []), .fz (.int t), h4, h5, h6, .ow (rg ++ (goT n gA s t).map fun k => rdP (t + dl s) s k), .ow (wn ++ (goT n gA s t).map fun k => itm k s (cA s k)), .ow (ln ++ [.tuple (lnD cA s (stT n cA gA s (t + 1)))]), .fz (.int s), .fz (.tuple (lnD cA s (s2T n cA gA s t))), .fz (.int s), .fz (.int ((s : Int) + 1)), .fz (.int (dl s)), .fz (.int (cp s)), .fz (.int ((goT n gA s t).length : Nat)), v17, v18, v19]) := by
  obtain ⟨st, e1, e2⟩ := hh.ex
  have e2 := e2 s hs
  have gl := goT_len (n := n) (gA := gA) (s := s) (t := t)
  obtain ⟨sg1, sg2⟩ := stand_go S hs t
  have eln : lnD cA s (s2T n cA gA s t) = lnD cA s (goT n gA s t) ++ lnD cA s (stT n cA gA s (t + 1)) := by rw [sg1]; unfold lnD; rw [List.map_append]
  obtain ⟨v17, v18, v19, f17, f18, f19, hI⟩ := goI_loop (cA := cA) (s := s) (t := t) (d := dl s) (h0 := .fz hd) (h1 := h1) (h2 := .fz (.tuple [])) (h4 := h4) (h5 := h5) (h6 := h6) (x11 := .fz (.tuple (lnD cA s (s2T n cA gA s t)))) (x12 := .fz (.int s)) (x13 := .fz (.int ((s : Int) + 1))) (x15 := .fz (.int (cp s))) (x16 := .fz (.int ((goT n gA s t).length : Nat))) (u17 := u17) (u18 := u18) (u19 := u19) (rg := rg) (wn := wn) (ln := ln) (A := goT n gA s t) (by omega) (by omega)
  refine ⟨v17, v18, v19, f17, f18, f19, ?_⟩
  have hin : inR (.int s) (.tuple []) = some (.bool false) := rfl
  have hll : lenR [.tuple (lnD cA s (s2T n cA gA s t))] = some (.int ((s2T n cA gA s t).length : Nat)) := by rw [len_t, lnD_len]
  have hmin : minR [.int (cp s), .int ((s2T n cA gA s t).length : Nat)] = some (.int ((goT n gA s t).length : Nat)) := by
    show some (PyData.int (if ((s2T n cA gA s t).length : Int) < cp s then ((s2T n cA gA s t).length : Int) else cp s)) = _
    congr 2
    rw [← sg2]
    omega
  unfold goB
  refine (xSeq_eq (δ1 := [.fz hd, h1, .fz (.tuple []), .fz (.int t), h4, h5, h6, .ow rg, .ow wn, .ow ln, .fz (.int s), .fz (.tuple (lnD cA s (s2T n cA gA s t))), .fz (.int s), .fz (.int ((s : Int) + 1)), .fz (.int (dl s)), .fz (.int (cp s)), u16, u17, u18, u19]) (by simp [e1, e2, xRet, xRetL, xSeq, xSet, xSetL, xIf, xDrop, xAsg, xNil, xNo, xPar, puts, xApp, xAug, xIce, xUn, s1, s2, sA0, sA1, sCall, sCallL, sCallM, sCallS, sCallSL, sB, sAndT, sOrT, sNotT, sAnd, sOr, sIf, sTup, sLst, sFz, sV, sC, sChain, sLenO, sIxO, sCmpO, sPop, sSl, sRevO, sRevD, rNil, rF, rL, rLL, addR, subR, fdivR, modR, ltR, leR, gtR, geR, isNR, notNR, isNone, len_t, len_l, absR, intR, minR, tupleR, isiR, subTy, tyD, revTR, negR, gN, gT, gCns, Fw.gNil, oN, oS, lstOf, setLst, ice, noAl, sYes, wipeE, idle, put_c0, put_c1, put_c2, put_c3, put_c4, put_c5, put_c6, put_c7, put_c8, put_c9, put_c10, put_c11, put_c12, put_c13, put_c14, put_c15, put_c16, put_c17, put_c18, put_c19, put_c20, put_c21, put_c22, put_c23])).trans ?_
  refine (xSeq_eq (δ1 := [.fz hd, h1, .fz (.tuple []), .fz (.int t), h4, h5, h6, .ow rg, .ow wn, .ow ln, .fz (.int s), .fz (.tuple (lnD cA s (s2T n cA gA s t))), .fz (.int s), .fz (.int ((s : Int) + 1)), .fz (.int (dl s)), .fz (.int (cp s)), .fz (.int ((goT n gA s t).length : Nat)), u17, u18, u19]) ?_).trans ?_
  · simp [hin, hll, hmin, xSet, sIf, sB, s2, sCall, sA1, sA0, sV, sC, put_c16]
  have c1 : Fw.cutD (lnD cA s (s2T n cA gA s t)) none (some ((goT n gA s t).length : Int)) = lnD cA s (goT n gA s t) := by
    rw [eln]
    have := cut_head (lnD cA s (goT n gA s t)) (lnD cA s (stT n cA gA s (t + 1)))
    rw [lnD_len] at this
    exact this
  have c2 : Fw.cutD (lnD cA s (s2T n cA gA s t)) (some ((goT n gA s t).length : Int)) none = lnD cA s (stT n cA gA s (t + 1)) := by
    rw [eln]
    have := cut_rest (lnD cA s (goT n gA s t)) (lnD cA s (stT n cA gA s (t + 1)))
    rw [lnD_len] at this
    exact this
  have z3 : ln.length < sizeLine := by rw [sizeLine_eq]; omega
  refine (xSeq_eq (δ1 := [.fz hd, h1, .fz (.tuple []), .fz (.int t), h4, h5, h6, .ow (rg ++ (goT n gA s t).map fun k => rdP (t + dl s) s k), .ow (wn ++ (goT n gA s t).map fun k => itm k s (cA s k)), .ow ln, .fz (.int s), .fz (.tuple (lnD cA s (s2T n cA gA s t))), .fz (.int s), .fz (.int ((s : Int) + 1)), .fz (.int (dl s)), .fz (.int (cp s)), .fz (.int ((goT n gA s t).length : Nat)), v17, v18, v19]) ?_).trans ?_
  · unfold xFor
    have : wIx (sSl (sV 11) oN (oS (sV 16))) [.fz hd, h1, .fz (.tuple []), .fz (.int t), h4, h5, h6, .ow rg, .ow wn, .ow ln, .fz (.int s), .fz (.tuple (lnD cA s (s2T n cA gA s t))), .fz (.int s), .fz (.int ((s : Int) + 1)), .fz (.int (dl s)), .fz (.int (cp s)), .fz (.int ((goT n gA s t).length : Nat)), u17, u18, u19] =
        some (lnD cA s (goT n gA s t), [.fz hd, h1, .fz (.tuple []), .fz (.int t), h4, h5, h6, .ow rg, .ow wn, .ow ln, .fz (.int s), .fz (.tuple (lnD cA s (s2T n cA gA s t))), .fz (.int s), .fz (.int ((s : Int) + 1)), .fz (.int (dl s)), .fz (.int (cp s)), .fz (.int ((goT n gA s t).length : Nat)), u17, u18, u19]) := by
      simp only [wIx, sSl, sV, oN, oS, List.getElem?_cons_succ, List.getElem?_cons_zero, c1, itD]
    rw [this]
    exact hI
  · simp only [xApp, lstOf, List.getElem?_cons_succ, List.getElem?_cons_zero, sSl, sV, oN, oS, c2, if_pos z3, setLst, List.set_cons_succ, List.set_cons_zero]
def wnt (n m : Nat) (cA gA : Nat → Nat → Int) (t : Int) : List PyData := (List.range m).flatMap fun s => (goT n gA s t).map fun k => itm k s (cA s k)
theorem flat_len {α : Type} (f : Nat → List α) (b : Nat) (h : ∀ s, (f s).length ≤ b) (m : Nat) : ((List.range m).flatMap f).length ≤ m * b := by
  induction m with
  | zero => simp
  | succ m ih =>
    have e : [m].flatMap f = f m := by simp
    rw [List.range_succ, List.flatMap_append, List.length_append, Nat.succ_mul, e]
    have := h m
    omega
theorem go_on_ok (S : Sch n m cA gA dl cp) {hd : PyData} (hh : Hl hd m dl cp) (hn : n ≤ 40) (hm : m ≤ 4) {t : Int} {R : List (Nat × Nat)} (hR : R.length ≤ 160) {od : List PyData} :
    d_go_on [hd, staD m cA gA dl t (fun s => s2T n cA gA s t) R od, .tuple []] =
      some (.tuple [staD m cA gA dl (t + 1) (fun s => stT n cA gA s (t + 1)) (R ++ (List.range m).flatMap fun s => (goT n gA s t).map fun k => (s, k)) od, .list (wnt n m cA gA t)]) := by
  have hs4 : 4 ≤ sizeLine := by rw [sizeLine_eq]; omega
  have hs2 : 2 ≤ sizeLine := by omega
  have hs0 : 0 ≤ sizeLine := Nat.zero_le _
  let r1 : Fw.Slot := .fz (staD m cA gA dl t (fun s => s2T n cA gA s t) R od)
  let r4 : Fw.Slot := .fz (.tuple (stdD m cA fun s => s2T n cA gA s t))
  let r5 : Fw.Slot := .fz (.tuple (R.map (rdI gA dl)))
  let r6 : Fw.Slot := .fz (.tuple od)
  have hF := forL_inv (p := gT 2 (gCns (gN 10) (gCns (gN 11) Fw.gNil))) (body := goB) (as := (List.range m).map fun s : Nat => .tuple [.int s, .tuple (lnD cA s (s2T n cA gA s t))])
    (fun i δ => ∃ u10 u11 u12 u13 u14 u15 u16 u17 u18 u19, Fre u10 ∧ Fre u11 ∧ Fre u12 ∧ Fre u13 ∧ Fre u14 ∧ Fre u15 ∧ Fre u16 ∧ Fre u17 ∧ Fre u18 ∧ Fre u19 ∧ δ = [.fz hd, r1, .fz (.tuple []), .fz (.int t), r4, r5, r6, .ow (R.map (rdI gA dl) ++ (List.range i).flatMap fun s => (goT n gA s t).map fun k => rdP (t + dl s) s k), .ow ((List.range i).flatMap fun s => (goT n gA s t).map fun k => itm k s (cA s k)), .ow ((List.range i).map fun s => .tuple (lnD cA s (stT n cA gA s (t + 1)))), u10, u11, u12, u13, u14, u15, u16, u17, u18, u19])
    (fun i d δ e ⟨u10, u11, u12, u13, u14, u15, u16, u17, u18, u19, f10, f11, f12, f13, f14, f15, f16, f17, f18, f19, eδ⟩ => by
      subst eδ
      rw [List.getElem?_map] at e
      have hi : i < m := by
        by_cases q : i < m
        · exact q
        · rw [List.getElem?_eq_none (by simp; omega)] at e; cases e
      rw [List.getElem?_range hi] at e
      have e : d = .tuple [.int i, .tuple (lnD cA i (s2T n cA gA i t))] := (Option.some.inj e).symm
      subst e
      have b1 := flat_len (fun s => (goT n gA s t).map fun k => rdP (t + dl s) s k) 40 (fun s => by rw [List.length_map]; exact Nat.le_trans goT_len hn) i
      have b2 := flat_len (fun s => (goT n gA s t).map fun k => itm k s (cA s k)) 40 (fun s => by rw [List.length_map]; exact Nat.le_trans goT_len hn) i
      obtain ⟨v17, v18, v19, g17, g18, g19, hB⟩ := goB_ok S hh hn hi (t := t) (h1 := r1) (h4 := r4) (h5 := r5) (h6 := r6) (u12 := u12) (u13 := u13) (u14 := u14) (u15 := u15) (u16 := u16) (u17 := u17) (u18 := u18) (u19 := u19) (rg := R.map (rdI gA dl) ++ (List.range i).flatMap fun s => (goT n gA s t).map fun k => rdP (t + dl s) s k) (wn := (List.range i).flatMap fun s => (goT n gA s t).map fun k => itm k s (cA s k)) (ln := (List.range i).map fun s => .tuple (lnD cA s (stT n cA gA s (t + 1))))
        (by rw [List.length_append, List.length_map]; omega) (by omega) (by simp; omega)
      refine ⟨_, _, ?_, hB, .fz (.int i), .fz (.tuple (lnD cA i (s2T n cA gA i t))), .fz (.int i), .fz (.int ((i : Int) + 1)), .fz (.int (dl i)), .fz (.int (cp i)), .fz (.int ((goT n gA i t).length : Nat)), v17, v18, v19, inferInstance, inferInstance, inferInstance, inferInstance, inferInstance, inferInstance, inferInstance, g17, g18, g19, ?_⟩
      · simp [xRet, xRetL, xSeq, xSet, xSetL, xIf, xDrop, xAsg, xNil, xNo, xPar, puts, xApp, xAug, xIce, xUn, s1, s2, sA0, sA1, sCall, sCallL, sCallM, sCallS, sCallSL, sB, sAndT, sOrT, sNotT, sAnd, sOr, sIf, sTup, sLst, sFz, sV, sC, sChain, sLenO, sIxO, sCmpO, sPop, sSl, sRevO, sRevD, rNil, rF, rL, rLL, addR, subR, fdivR, modR, ltR, leR, gtR, geR, isNR, notNR, isNone, len_t, len_l, absR, intR, minR, tupleR, isiR, subTy, tyD, revTR, negR, gN, gT, gCns, Fw.gNil, oN, oS, lstOf, setLst, ice, noAl, sYes, wipeE, idle, put_c0, put_c1, put_c2, put_c3, put_c4, put_c5, put_c6, put_c7, put_c8, put_c9, put_c10, put_c11, put_c12, put_c13, put_c14, put_c15, put_c16, put_c17, put_c18, put_c19, put_c20, put_c21, put_c22, put_c23]
      · rw [List.range_succ, List.flatMap_append, List.flatMap_append, List.map_append, List.append_assoc]
        simp) (δ := [.fz hd, r1, .fz (.tuple []), .fz (.int t), r4, r5, r6, .ow (R.map (rdI gA dl)), .ow [], .ow [], .un, .un, .un, .un, .un, .un, .un, .un, .un, .un]) ⟨.un, .un, .un, .un, .un, .un, .un, .un, .un, .un, inferInstance, inferInstance, inferInstance, inferInstance, inferInstance, inferInstance, inferInstance, inferInstance, inferInstance, inferInstance, by simp⟩
  obtain ⟨δ', f1, u10, u11, u12, u13, u14, u15, u16, u17, u18, u19, f10, f11, f12, f13, f14, f15, f16, f17, f18, f19, rfl⟩ := hF
  rw [List.length_map, List.length_range] at f1
  have erd : R.map (rdI gA dl) ++ ((List.range m).flatMap fun s => (goT n gA s t).map fun k => rdP (t + dl s) s k) = (R ++ (List.range m).flatMap fun s => (goT n gA s t).map fun k => (s, k)).map (rdI gA dl) := by
    rw [List.map_append, List.map_flatMap]
    congr 1
    have : (fun s => (goT n gA s t).map fun k => rdP (t + dl s) s k) = fun a => List.map (rdI gA dl) (List.map (fun k => (a, k)) (goT n gA a t)) := by
      funext s
      rw [List.map_map]
      refine List.map_congr_left fun k hk => ?_
      have : gA s k = t := of_decide_eq_true (List.mem_filter.mp hk).2
      simp [Function.comp_def, this]
    rw [this]
  have main : ∃ δ9, i_go_on [.fz hd, r1, .fz (.tuple []), .un, .un, .un, .un, .un, .un, .un, .un, .un, .un, .un, .un, .un, .un, .un, .un, .un] = some (.rt (.tuple [staD m cA gA dl (t + 1) (fun s => stT n cA gA s (t + 1)) (R ++ (List.range m).flatMap fun s => (goT n gA s t).map fun k => (s, k)) od, .list (wnt n m cA gA t)]) δ9) := by
    refine ⟨[.fz hd, r1, .fz (.tuple []), .fz (.int t), r4, r5, r6, .fz (.list (R.map (rdI gA dl) ++ (List.range m).flatMap fun s => (goT n gA s t).map fun k => rdP (t + dl s) s k)), .fz (.list (wnt n m cA gA t)), .fz (.list ((List.range m).map fun s => .tuple (lnD cA s (stT n cA gA s (t + 1))))), u10, u11, u12, u13, u14, u15, u16, u17, u18, u19], ?_⟩
    unfold i_go_on
    refine (xSeq_eq (δ1 := [.fz hd, r1, .fz (.tuple []), .fz (.int t), r4, r5, r6, .un, .un, .un, .un, .un, .un, .un, .un, .un, .un, .un, .un, .un]) (by simp [r1, staD, r4, r5, r6, xRet, xRetL, xSeq, xSet, xSetL, xIf, xDrop, xAsg, xNil, xNo, xPar, puts, xApp, xAug, xIce, xUn, s1, s2, sA0, sA1, sCall, sCallL, sCallM, sCallS, sCallSL, sB, sAndT, sOrT, sNotT, sAnd, sOr, sIf, sTup, sLst, sFz, sV, sC, sChain, sLenO, sIxO, sCmpO, sPop, sSl, sRevO, sRevD, rNil, rF, rL, rLL, addR, subR, fdivR, modR, ltR, leR, gtR, geR, isNR, notNR, isNone, len_t, len_l, absR, intR, minR, tupleR, isiR, subTy, tyD, revTR, negR, gN, gT, gCns, Fw.gNil, oN, oS, lstOf, setLst, ice, noAl, sYes, wipeE, idle, put_c0, put_c1, put_c2, put_c3, put_c4, put_c5, put_c6, put_c7, put_c8, put_c9, put_c10, put_c11, put_c12, put_c13, put_c14, put_c15, put_c16, put_c17, put_c18, put_c19, put_c20, put_c21, put_c22, put_c23])).trans ?_
    refine (xSeq_eq (δ1 := [.fz hd, r1, .fz (.tuple []), .fz (.int t), r4, r5, r6, .ow (R.map (rdI gA dl)), .ow [], .ow [], .un, .un, .un, .un, .un, .un, .un, .un, .un, .un]) (by simp [r5, listR, hs0, xRet, xRetL, xSeq, xSet, xSetL, xIf, xDrop, xAsg, xNil, xNo, xPar, puts, xApp, xAug, xIce, xUn, s1, s2, sA0, sA1, sCall, sCallL, sCallM, sCallS, sCallSL, sB, sAndT, sOrT, sNotT, sAnd, sOr, sIf, sTup, sLst, sFz, sV, sC, sChain, sLenO, sIxO, sCmpO, sPop, sSl, sRevO, sRevD, rNil, rF, rL, rLL, addR, subR, fdivR, modR, ltR, leR, gtR, geR, isNR, notNR, isNone, len_t, len_l, absR, intR, minR, tupleR, isiR, subTy, tyD, revTR, negR, gN, gT, gCns, Fw.gNil, oN, oS, lstOf, setLst, ice, noAl, sYes, wipeE, idle, put_c0, put_c1, put_c2, put_c3, put_c4, put_c5, put_c6, put_c7, put_c8, put_c9, put_c10, put_c11, put_c12, put_c13, put_c14, put_c15, put_c16, put_c17, put_c18, put_c19, put_c20, put_c21, put_c22, put_c23])).trans ?_
    refine (xSeq_eq (δ1 := [.fz hd, r1, .fz (.tuple []), .fz (.int t), r4, r5, r6, .ow (R.map (rdI gA dl) ++ (List.range m).flatMap fun s => (goT n gA s t).map fun k => rdP (t + dl s) s k), .ow (wnt n m cA gA t), .ow ((List.range m).map fun s => .tuple (lnD cA s (stT n cA gA s (t + 1)))), u10, u11, u12, u13, u14, u15, u16, u17, u18, u19]) ?_).trans ?_
    · have hI : wEnum (sA1 (sV 4) sA0) [.fz hd, r1, .fz (.tuple []), .fz (.int t), r4, r5, r6, .ow (R.map (rdI gA dl)), .ow [], .ow [], .un, .un, .un, .un, .un, .un, .un, .un, .un, .un] = some ((List.range m).map fun s : Nat => .tuple [.int s, .tuple (lnD cA s (s2T n cA gA s t))], [.fz hd, r1, .fz (.tuple []), .fz (.int t), r4, r5, r6, .ow (R.map (rdI gA dl)), .ow [], .ow [], .un, .un, .un, .un, .un, .un, .un, .un, .un, .un]) := by
        have := enumD_range m fun s => .tuple (lnD cA s (s2T n cA gA s t))
        simp only [wEnum, sA1, sA0, sV, r4, List.getElem?_cons_succ, List.getElem?_cons_zero, itD, stdD, this]
      unfold xFor
      rw [hI]
      exact f1
    have est : (staD m cA gA dl (t + 1) (fun s => stT n cA gA s (t + 1)) (R ++ (List.range m).flatMap fun s => (goT n gA s t).map fun k => (s, k)) od) = .tuple [.int (t + 1), .tuple ((List.range m).map fun s => .tuple (lnD cA s (stT n cA gA s (t + 1)))), .tuple (R.map (rdI gA dl) ++ (List.range m).flatMap fun s => (goT n gA s t).map fun k => rdP (t + dl s) s k), .tuple od] := by
      unfold staD stdD; rw [erd]
    rw [est]
    simp only [xIce, ice, List.getElem?_cons_succ, List.getElem?_cons_zero, List.set_cons_succ, List.set_cons_zero, xRet, sTup, sA1, sA0, s2, sV, sC, addR, sCall, tupleR, r6, List.length_cons, List.length_nil, Nat.zero_add, Nat.reduceAdd, if_pos hs4, if_pos hs2]
  obtain ⟨δ9, main⟩ := main
  show (if ([hd, staD m cA gA dl t (fun s => s2T n cA gA s t) R od, .tuple []] : List PyData).length = 3 then (match i_go_on [.fz hd, r1, .fz (.tuple []), .un, .un, .un, .un, .un, .un, .un, .un, .un, .un, .un, .un, .un, .un, .un, .un, .un] with | some (.rt d _) => some d | some (.rl ds _) => some (.list ds) | some (.nx _) => some .none | _ => none) else none) = _
  rw [main]
  rfl
end
end L95

end
section
set_option Elab.async false
set_option linter.all false
set_option maxRecDepth 100000
/-! The whole walk on a path. -/
namespace L95
open PySem PySem.Spec PyProof.Rows L2 Fw Pl
theorem eq_nil {xs : List PyData} (h : ∀ x ∈ xs, okD 5 x) : eqR (.tuple xs) (.tuple []) = some (.bool xs.isEmpty) := by
  have s1 : SeqAt.shaped (.tuple xs) = true := shaped_ok 6 h (by omega)
  have s0 : SeqAt.shaped (.tuple []) = true := shaped_ok 6 (fun x m => by cases m) (by omega)
  cases xs with
  | nil => unfold eqR; simp only [s0]; rfl
  | cons x xs => unfold eqR; simp only [s0, s1]; rfl
section
variable {n m : Nat} {cA gA : Nat → Nat → Int} {dl cp : Nat → Int}
theorem lnD_ok (s : Nat) (ks : List Nat) : ∀ x ∈ lnD cA s ks, okD 5 x := fun x mx => by
  obtain ⟨k, _, rfl⟩ := List.mem_map.mp mx
  intro y my
  simp at my
  rcases my with rfl | rfl | rfl <;> exact trivial
def emp (m : Nat) (f : Nat → List Nat) (R : List (Nat × Nat)) : Bool := R.isEmpty && (List.range m).all fun s => (f s).isEmpty
theorem is_empty_ok {t : Int} {f : Nat → List Nat} {R : List (Nat × Nat)} {od : List PyData} : d_is_empty [staD m cA gA dl t f R od] = some (.bool (emp m f R)) := by
  have h0 : 0 ≤ sizeLine := Nat.zero_le _
  have e2 : ixR (staD m cA gA dl t f R od) (.int 2) = some (.tuple (R.map (rdI gA dl))) := ix_t2
  have e1 : ixR (staD m cA gA dl t f R od) (.int 1) = some (.tuple (stdD m cA f)) := ix_t1
  have q1 : eqR (.tuple (R.map (rdI gA dl))) (.tuple []) = some (.bool R.isEmpty) := by
    rw [eq_nil fun x mx => by
      obtain ⟨p, _, rfl⟩ := List.mem_map.mp mx
      intro y my
      simp at my
      rcases my with rfl | rfl | rfl <;> exact trivial]
    cases R <;> rfl
  have hL := sLc_map (vs := [1]) (it := wIx (s2 ixR (sV 0) (sC (.int 1)))) (p := gN 1) (e := s2 eqR (sV 1) (sTup sA0)) (δ0 := [.fz (staD m cA gA dl t f R od), .un]) (δ1 := [.fz (staD m cA gA dl t f R od), .un]) (as := List.range m) (enc := fun s => .tuple (lnD cA s (f s))) (fun s => .bool (f s).isEmpty)
    (by simp [e1, stdD, xRet, xRetL, xSeq, xSet, xSetL, xIf, xDrop, xAsg, xNil, xNo, xPar, puts, xApp, xAug, xIce, xUn, s1, s2, sA0, sA1, sCall, sCallL, sCallM, sCallS, sCallSL, sB, sAndT, sOrT, sNotT, sAnd, sOr, sIf, sTup, sLst, sFz, sV, sC, sChain, sLenO, sIxO, sCmpO, sPop, sSl, sRevO, sRevD, rNil, rF, rL, rLL, addR, subR, fdivR, modR, ltR, leR, gtR, geR, isNR, notNR, isNone, len_t, len_l, absR, intR, minR, tupleR, isiR, subTy, tyD, revTR, negR, gN, gT, gCns, Fw.gNil, oN, oS, lstOf, setLst, ice, noAl, sYes, wipeE, idle, put_c0, put_c1, put_c2, put_c3, put_c4, put_c5, put_c6, put_c7, put_c8, put_c9, put_c10, put_c11, put_c12, put_c13, put_c14, put_c15, put_c16, put_c17, put_c18, put_c19, put_c20, put_c21, put_c22, put_c23, wIx, itD]) rfl (fun s ms => ⟨[.fz (staD m cA gA dl t f R od), .fz (.tuple (lnD cA s (f s)))], by simp [xRet, xRetL, xSeq, xSet, xSetL, xIf, xDrop, xAsg, xNil, xNo, xPar, puts, xApp, xAug, xIce, xUn, s1, s2, sA0, sA1, sCall, sCallL, sCallM, sCallS, sCallSL, sB, sAndT, sOrT, sNotT, sAnd, sOr, sIf, sTup, sLst, sFz, sV, sC, sChain, sLenO, sIxO, sCmpO, sPop, sSl, sRevO, sRevD, rNil, rF, rL, rLL, addR, subR, fdivR, modR, ltR, leR, gtR, geR, isNR, notNR, isNone, len_t, len_l, absR, intR, minR, tupleR, isiR, subTy, tyD, revTR, negR, gN, gT, gCns, Fw.gNil, oN, oS, lstOf, setLst, ice, noAl, sYes, wipeE, idle, put_c0, put_c1, put_c2, put_c3, put_c4, put_c5, put_c6, put_c7, put_c8, put_c9, put_c10, put_c11, put_c12, put_c13, put_c14, put_c15, put_c16, put_c17, put_c18, put_c19, put_c20, put_c21, put_c22, put_c23], by
      have e : (lnD cA s (f s)).isEmpty = (f s).isEmpty := by unfold lnD; cases f s <;> rfl
      simp [eq_nil (lnD_ok s (f s)), e, h0, xRet, xRetL, xSeq, xSet, xSetL, xIf, xDrop, xAsg, xNil, xNo, xPar, puts, xApp, xAug, xIce, xUn, s1, s2, sA0, sA1, sCall, sCallL, sCallM, sCallS, sCallSL, sB, sAndT, sOrT, sNotT, sAnd, sOr, sIf, sTup, sLst, sFz, sV, sC, sChain, sLenO, sIxO, sCmpO, sPop, sSl, sRevO, sRevD, rNil, rF, rL, rLL, addR, subR, fdivR, modR, ltR, leR, gtR, geR, isNR, notNR, isNone, len_t, len_l, absR, intR, minR, tupleR, isiR, subTy, tyD, revTR, negR, gN, gT, gCns, Fw.gNil, oN, oS, lstOf, setLst, ice, noAl, sYes, wipeE, idle, put_c0, put_c1, put_c2, put_c3, put_c4, put_c5, put_c6, put_c7, put_c8, put_c9, put_c10, put_c11, put_c12, put_c13, put_c14, put_c15, put_c16, put_c17, put_c18, put_c19, put_c20, put_c21, put_c22, put_c23], by simp [xRet, xRetL, xSeq, xSet, xSetL, xIf, xDrop, xAsg, xNil, xNo, xPar, puts, xApp, xAug, xIce, xUn, s1, s2, sA0, sA1, sCall, sCallL, sCallM, sCallS, sCallSL, sB, sAndT, sOrT, sNotT, sAnd, sOr, sIf, sTup, sLst, sFz, sV, sC, sChain, sLenO, sIxO, sCmpO, sPop, sSl, sRevO, sRevD, rNil, rF, rL, rLL, addR, subR, fdivR, modR, ltR, leR, gtR, geR, isNR, notNR, isNone, len_t, len_l, absR, intR, minR, tupleR, isiR, subTy, tyD, revTR, negR, gN, gT, gCns, Fw.gNil, oN, oS, lstOf, setLst, ice, noAl, sYes, wipeE, idle, put_c0, put_c1, put_c2, put_c3, put_c4, put_c5, put_c6, put_c7, put_c8, put_c9, put_c10, put_c11, put_c12, put_c13, put_c14, put_c15, put_c16, put_c17, put_c18, put_c19, put_c20, put_c21, put_c22, put_c23]⟩)
  have hA := allR_map (fun s => (f s).isEmpty) (List.range m)
  unfold emp
  simp only [d_is_empty, denF, denM, denS, denSL, uns, List.replicate, List.length_cons, List.length_nil, List.map_cons, List.map_nil, List.cons_append, List.nil_append, if_true, Nat.zero_add, Nat.reduceAdd, reduceIte]
  cases q : R.isEmpty with
  | true => rw [q] at q1; simp [i_is_empty, e2, q1, hL, hA, h0, -List.all_eq_true, xRet, xRetL, xSeq, xSet, xSetL, xIf, xDrop, xAsg, xNil, xNo, xPar, puts, xApp, xAug, xIce, xUn, s1, s2, sA0, sA1, sCall, sCallL, sCallM, sCallS, sCallSL, sB, sAndT, sOrT, sNotT, sAnd, sOr, sIf, sTup, sLst, sFz, sV, sC, sChain, sLenO, sIxO, sCmpO, sPop, sSl, sRevO, sRevD, rNil, rF, rL, rLL, addR, subR, fdivR, modR, ltR, leR, gtR, geR, isNR, notNR, isNone, len_t, len_l, absR, intR, minR, tupleR, isiR, subTy, tyD, revTR, negR, gN, gT, gCns, Fw.gNil, oN, oS, lstOf, setLst, ice, noAl, sYes, wipeE, idle, put_c0, put_c1, put_c2, put_c3, put_c4, put_c5, put_c6, put_c7, put_c8, put_c9, put_c10, put_c11, put_c12, put_c13, put_c14, put_c15, put_c16, put_c17, put_c18, put_c19, put_c20, put_c21, put_c22, put_c23]
  | false => rw [q] at q1; simp [i_is_empty, e2, q1, h0, xRet, xRetL, xSeq, xSet, xSetL, xIf, xDrop, xAsg, xNil, xNo, xPar, puts, xApp, xAug, xIce, xUn, s1, s2, sA0, sA1, sCall, sCallL, sCallM, sCallS, sCallSL, sB, sAndT, sOrT, sNotT, sAnd, sOr, sIf, sTup, sLst, sFz, sV, sC, sChain, sLenO, sIxO, sCmpO, sPop, sSl, sRevO, sRevD, rNil, rF, rL, rLL, addR, subR, fdivR, modR, ltR, leR, gtR, geR, isNR, notNR, isNone, len_t, len_l, absR, intR, minR, tupleR, isiR, subTy, tyD, revTR, negR, gN, gT, gCns, Fw.gNil, oN, oS, lstOf, setLst, ice, noAl, sYes, wipeE, idle, put_c0, put_c1, put_c2, put_c3, put_c4, put_c5, put_c6, put_c7, put_c8, put_c9, put_c10, put_c11, put_c12, put_c13, put_c14, put_c15, put_c16, put_c17, put_c18, put_c19, put_c20, put_c21, put_c22, put_c23]
theorem stT_0 (S : Sch n m cA gA dl cp) {s : Nat} (hs : s ≤ m) : stT n cA gA s 0 = [] := List.filter_eq_nil_iff.mpr fun k hk => by
  have := S.pos s k hs (List.mem_range.mp hk)
  simp only [Bool.and_eq_true, decide_eq_true_eq]
  omega
theorem nobody_ok (S : Sch n m cA gA dl cp) {hd : PyData} {st : List PyData} (h1 : ixR hd (.int 1) = some (.tuple st)) (hl : st.length = m) : d_nobody [hd] = some (staD m cA gA dl 0 (fun s => stT n cA gA s 0) [] []) := by
  have h0 : 0 ≤ sizeLine := Nat.zero_le _
  have h4 : 4 ≤ sizeLine := by rw [sizeLine_eq]; omega
  have hL := sLc_map (vs := [1]) (it := wIx (s2 ixR (sV 0) (sC (.int 1)))) (p := gN 1) (e := sTup sA0) (δ0 := [.fz hd, .un]) (δ1 := [.fz hd, .un]) (as := st) (enc := fun d => d) (fun _ => .tuple [])
    (by simp [h1, xRet, xRetL, xSeq, xSet, xSetL, xIf, xDrop, xAsg, xNil, xNo, xPar, puts, xApp, xAug, xIce, xUn, s1, s2, sA0, sA1, sCall, sCallL, sCallM, sCallS, sCallSL, sB, sAndT, sOrT, sNotT, sAnd, sOr, sIf, sTup, sLst, sFz, sV, sC, sChain, sLenO, sIxO, sCmpO, sPop, sSl, sRevO, sRevD, rNil, rF, rL, rLL, addR, subR, fdivR, modR, ltR, leR, gtR, geR, isNR, notNR, isNone, len_t, len_l, absR, intR, minR, tupleR, isiR, subTy, tyD, revTR, negR, gN, gT, gCns, Fw.gNil, oN, oS, lstOf, setLst, ice, noAl, sYes, wipeE, idle, put_c0, put_c1, put_c2, put_c3, put_c4, put_c5, put_c6, put_c7, put_c8, put_c9, put_c10, put_c11, put_c12, put_c13, put_c14, put_c15, put_c16, put_c17, put_c18, put_c19, put_c20, put_c21, put_c22, put_c23, wIx, itD]) rfl (fun d md => ⟨[.fz hd, .fz d], by simp [xRet, xRetL, xSeq, xSet, xSetL, xIf, xDrop, xAsg, xNil, xNo, xPar, puts, xApp, xAug, xIce, xUn, s1, s2, sA0, sA1, sCall, sCallL, sCallM, sCallS, sCallSL, sB, sAndT, sOrT, sNotT, sAnd, sOr, sIf, sTup, sLst, sFz, sV, sC, sChain, sLenO, sIxO, sCmpO, sPop, sSl, sRevO, sRevD, rNil, rF, rL, rLL, addR, subR, fdivR, modR, ltR, leR, gtR, geR, isNR, notNR, isNone, len_t, len_l, absR, intR, minR, tupleR, isiR, subTy, tyD, revTR, negR, gN, gT, gCns, Fw.gNil, oN, oS, lstOf, setLst, ice, noAl, sYes, wipeE, idle, put_c0, put_c1, put_c2, put_c3, put_c4, put_c5, put_c6, put_c7, put_c8, put_c9, put_c10, put_c11, put_c12, put_c13, put_c14, put_c15, put_c16, put_c17, put_c18, put_c19, put_c20, put_c21, put_c22, put_c23], by simp [h0, xRet, xRetL, xSeq, xSet, xSetL, xIf, xDrop, xAsg, xNil, xNo, xPar, puts, xApp, xAug, xIce, xUn, s1, s2, sA0, sA1, sCall, sCallL, sCallM, sCallS, sCallSL, sB, sAndT, sOrT, sNotT, sAnd, sOr, sIf, sTup, sLst, sFz, sV, sC, sChain, sLenO, sIxO, sCmpO, sPop, sSl, sRevO, sRevD, rNil, rF, rL, rLL, addR, subR, fdivR, modR, ltR, leR, gtR, geR, isNR, notNR, isNone, len_t, len_l, absR, intR, minR, tupleR, isiR, subTy, tyD, revTR, negR, gN, gT, gCns, Fw.gNil, oN, oS, lstOf, setLst, ice, noAl, sYes, wipeE, idle, put_c0, put_c1, put_c2, put_c3, put_c4, put_c5, put_c6, put_c7, put_c8, put_c9, put_c10, put_c11, put_c12, put_c13, put_c14, put_c15, put_c16, put_c17, put_c18, put_c19, put_c20, put_c21, put_c22, put_c23], by simp [xRet, xRetL, xSeq, xSet, xSetL, xIf, xDrop, xAsg, xNil, xNo, xPar, puts, xApp, xAug, xIce, xUn, s1, s2, sA0, sA1, sCall, sCallL, sCallM, sCallS, sCallSL, sB, sAndT, sOrT, sNotT, sAnd, sOr, sIf, sTup, sLst, sFz, sV, sC, sChain, sLenO, sIxO, sCmpO, sPop, sSl, sRevO, sRevD, rNil, rF, rL, rLL, addR, subR, fdivR, modR, ltR, leR, gtR, geR, isNR, notNR, isNone, len_t, len_l, absR, intR, minR, tupleR, isiR, subTy, tyD, revTR, negR, gN, gT, gCns, Fw.gNil, oN, oS, lstOf, setLst, ice, noAl, sYes, wipeE, idle, put_c0, put_c1, put_c2, put_c3, put_c4, put_c5, put_c6, put_c7, put_c8, put_c9, put_c10, put_c11, put_c12, put_c13, put_c14, put_c15, put_c16, put_c17, put_c18, put_c19, put_c20, put_c21, put_c22, put_c23]⟩)
  have e : st.map (fun _ => PyData.tuple []) = stdD m cA (fun s => stT n cA gA s 0) := by
    unfold stdD
    have e1 : (List.range m).map (fun s => PyData.tuple (lnD cA s (stT n cA gA s 0))) = (List.range m).map fun _ => PyData.tuple [] := List.map_congr_left fun s ms => by rw [stT_0 S (by have := List.mem_range.mp ms; omega)]; rfl
    rw [e1, List.map_const', List.map_const', hl, List.length_range]
  rw [e] at hL
  simp only [d_nobody, denF, denM, denS, denSL, uns, List.replicate, List.length_cons, List.length_nil, List.map_cons, List.map_nil, List.cons_append, List.nil_append, if_true, Nat.zero_add, Nat.reduceAdd, reduceIte]
  simp [i_nobody, hL, h0, h4, staD, xRet, xRetL, xSeq, xSet, xSetL, xIf, xDrop, xAsg, xNil, xNo, xPar, puts, xApp, xAug, xIce, xUn, s1, s2, sA0, sA1, sCall, sCallL, sCallM, sCallS, sCallSL, sB, sAndT, sOrT, sNotT, sAnd, sOr, sIf, sTup, sLst, sFz, sV, sC, sChain, sLenO, sIxO, sCmpO, sPop, sSl, sRevO, sRevD, rNil, rF, rL, rLL, addR, subR, fdivR, modR, ltR, leR, gtR, geR, isNR, notNR, isNone, len_t, len_l, absR, intR, minR, tupleR, isiR, subTy, tyD, revTR, negR, gN, gT, gCns, Fw.gNil, oN, oS, lstOf, setLst, ice, noAl, sYes, wipeE, idle, put_c0, put_c1, put_c2, put_c3, put_c4, put_c5, put_c6, put_c7, put_c8, put_c9, put_c10, put_c11, put_c12, put_c13, put_c14, put_c15, put_c16, put_c17, put_c18, put_c19, put_c20, put_c21, put_c22, put_c23]
/-! ### the log -/
abbrev pg (cA gA : Nat → Nat → Int) (k s : Nat) : PyData := .tuple [.int (cA s k), .int (gA s k)]
def wl (n m : Nat) (gA : Nat → Nat → Int) (t : Int) : List (Nat × Nat) := (List.range m).flatMap fun s => (goT n gA s t).map fun k => (s, k)
theorem wnt_wl (t : Int) : wnt n m cA gA t = (wl n m gA t).map fun p => itm p.2 p.1 (cA p.1 p.2) := by
  unfold wnt wl
  rw [List.map_flatMap]
  congr 1
  funext s
  rw [List.map_map]
  rfl
theorem wl_mem {t : Int} {p : Nat × Nat} (h : p ∈ wl n m gA t) : p.1 < m ∧ p.2 < n ∧ gA p.1 p.2 = t := by
  obtain ⟨s, hs, h2⟩ := List.mem_flatMap.mp h
  obtain ⟨k, hk, rfl⟩ := List.mem_map.mp h2
  obtain ⟨a, b⟩ := List.mem_filter.mp hk
  exact ⟨List.mem_range.mp hs, List.mem_range.mp a, of_decide_eq_true b⟩
theorem filter_eq_one {k : Nat} : ∀ {r : List Nat}, r.Nodup → k ∈ r → ∀ q : Nat → Bool, (r.filter fun a => a == k && q a) = if q k = true then [k] else []
  | [], _, h, _ => by cases h
  | x :: r, nd, h, q => by
    have nd' := List.nodup_cons.mp nd
    have rest : k ∉ r → (r.filter fun a => a == k && q a) = [] := fun z => List.filter_eq_nil_iff.mpr fun b mb hb => by
      simp only [Bool.and_eq_true, beq_iff_eq] at hb
      exact z (hb.1 ▸ mb)
    rw [List.filter_cons]
    rcases List.mem_cons.mp h with rfl | h
    · rw [rest nd'.1]
      cases hq : q k <;> simp [hq]
    · have : ¬ x = k := fun z => nd'.1 (z ▸ h)
      rw [if_neg (by simp [this]), filter_eq_one nd'.2 h q]
theorem wl_at {t : Int} {k : Nat} (hk : k < n) : ((wl n m gA t).filter fun p => p.2 == k).map (·.1) = (List.range m).filter fun s => decide (gA s k = t) := by
  unfold wl
  generalize List.range m = l
  induction l with
  | nil => rfl
  | cons s l ih =>
    rw [List.flatMap_cons, List.filter_append, List.map_append, ih, List.filter_cons]
    have e : ((goT n gA s t).map fun k => (s, k)).filter (fun p => p.2 == k) = if gA s k = t then [(s, k)] else [] := by
      unfold goT
      rw [List.filter_map, List.filter_filter]
      have := filter_eq_one (List.nodup_range (n := n)) (List.mem_range.mpr hk) fun k => decide (gA s k = t)
      have e2 : (fun a => ((fun p : Nat × Nat => p.2 == k) ∘ fun k => (s, k)) a && decide (gA s a = t)) = fun a => a == k && decide (gA s a = t) := rfl
      rw [e2, this]
      by_cases q : gA s k = t
      · rw [if_pos q, if_pos (decide_eq_true q)]; rfl
      · rw [if_neg q, if_neg (by simpa using q)]; rfl
    rw [e]
    by_cases q : gA s k = t
    · rw [if_pos q, if_pos (decide_eq_true q)]; rfl
    · rw [if_neg q, if_neg (by simpa using q)]; rfl
/-- what is found, i of those who go at t told -/
def Fk (n m : Nat) (cA gA : Nat → Nat → Int) (t : Int) (i : Nat) : List (List PyData) := (List.range n).map fun k => (fdT m gA k t).map (pg cA gA k) ++ (((wl n m gA t).take i).filter fun p => p.2 == k).map fun p => pg cA gA k p.1
theorem Fk_get {t : Int} {i k : Nat} (hk : k < n) : (Fk n m cA gA t i)[k]? = some ((fdT m gA k t).map (pg cA gA k) ++ (((wl n m gA t).take i).filter fun p => p.2 == k).map fun p => pg cA gA k p.1) := by
  unfold Fk; rw [List.getElem?_map, List.getElem?_range hk]; rfl
theorem Fk_0 (t : Int) : Fk n m cA gA t 0 = (List.range n).map fun k => (fdT m gA k t).map (pg cA gA k) := by
  unfold Fk; refine List.map_congr_left fun k _ => ?_; simp
theorem Fk_end (S : Sch n m cA gA dl cp) (t : Int) : Fk n m cA gA t (wl n m gA t).length = (List.range n).map fun k => (fdT m gA k (t + 1)).map (pg cA gA k) := by
  unfold Fk
  refine List.map_congr_left fun k hk => ?_
  have hk := List.mem_range.mp hk
  rw [List.take_length, found_next S hk t, List.map_append, ← wl_at hk, List.map_map]
  rfl
theorem Fk_next {t : Int} {i s k : Nat} (h : (wl n m gA t)[i]? = some (s, k)) : (Fk n m cA gA t i).set k (((fdT m gA k t).map (pg cA gA k) ++ (((wl n m gA t).take i).filter fun p => p.2 == k).map fun p => pg cA gA k p.1) ++ [.tuple [.int (cA s k), .int t]]) = Fk n m cA gA t (i + 1) := by
  have et : (wl n m gA t).take (i + 1) = (wl n m gA t).take i ++ [(s, k)] := by rw [List.take_add_one, h]; rfl
  obtain ⟨_, hk, ct⟩ := wl_mem (List.mem_of_getElem? h)
  have hk : k < n := hk
  have ct : gA s k = t := ct
  apply List.ext_getElem?
  intro j
  by_cases hj : j < n
  · rw [Fk_get hj, et, List.filter_append]
    by_cases q : j = k
    · subst q
      rw [List.getElem?_set_self (by unfold Fk; simpa using hj)]
      have : List.filter (fun p : Nat × Nat => p.2 == j) [(s, j)] = [(s, j)] := by simp
      rw [this, List.map_append]
      simp [ct]
    · rw [List.getElem?_set_ne (Ne.symm q), Fk_get hj]
      have : List.filter (fun p : Nat × Nat => p.2 == j) [(s, k)] = [] := by simp; exact fun z => q z.symm
      rw [this, List.append_nil]
  · rw [List.getElem?_eq_none (by rw [List.length_set]; unfold Fk; simp; omega), List.getElem?_eq_none (by unfold Fk; simp; omega)]
theorem put_a14 {a0 a1 a2 a3 a4 a5 a6 a7 a8 a9 a10 a11 a12 a13 t : Fw.Slot} {j l : Nat} {r : Fw.Env} : put (a0 :: a1 :: a2 :: a3 :: a4 :: a5 :: a6 :: a7 :: a8 :: a9 :: a10 :: a11 :: a12 :: a13 :: .al j l :: r) 14 t = some (a0 :: a1 :: a2 :: a3 :: a4 :: a5 :: a6 :: a7 :: a8 :: a9 :: a10 :: a11 :: a12 :: a13 :: t :: r) := rfl
def Lin5 (s : Fw.Slot) : Prop := s = .un ∨ ∃ j, s = .al 5 j
noncomputable def lgI : FS := (xSeq (xAl 14 5 (sV 11)) (xApp 14 (sTup (sA1 (sV 13) (sA1 (sV 3) sA0)))))
theorem lgI_ok {k s : Nat} {c t : Int} {a0 a1 a2 a4 a6 a7 a8 a9 a10 u14 : Fw.Slot} (hu : Lin5 u14) {dss : List (List PyData)} {ds : List PyData} (hd : dss[k]? = some ds) (hz : ds.length < sizeLine) :
    lgI [a0, a1, a2, .fz (.int t), a4, .ow2 dss, a6, a7, a8, a9, a10, .fz (.int k), .fz (.int s), .fz (.int c), u14] = some (.nx [a0, a1, a2, .fz (.int t), a4, .ow2 (dss.set k (ds ++ [.tuple [.int c, .int t]])), a6, a7, a8, a9, a10, .fz (.int k), .fz (.int s), .fz (.int c), .al 5 k]) := by
  have h2 : 2 ≤ sizeLine := by rw [sizeLine_eq]; omega
  have hl := (List.getElem?_eq_some_iff.mp hd).1
  have hix : ixN dss.length (k : Int) = some k := by
    unfold ixN
    rw [if_pos (by omega), if_pos (by omega)]
    simp
  unfold lgI
  rcases hu with rfl | ⟨j, rfl⟩ <;> simp [xSeq, hix, hd, hz, h2, sA1, sA0, sV, sTup, xApp, xAl, lstOf, setLst, put_c14, put_a14]
theorem lgI_loop (S : Sch n m cA gA dl cp) (hm : m ≤ 4) (hn : n ≤ 40) {t : Int} {a0 a1 a2 a4 a6 a7 a8 a9 a10 u11 u12 u13 u14 : Fw.Slot} [Fre u11] [Fre u12] [Fre u13] (hu : Lin5 u14) :
    ∃ v11 v12 v13 v14, Fre v11 ∧ Fre v12 ∧ Fre v13 ∧ Lin5 v14 ∧ forL (gT 3 (gCns (gN 11) (gCns (gN 12) (gCns (gN 13) Fw.gNil)))) lgI (wnt n m cA gA t) [a0, a1, a2, .fz (.int t), a4, .ow2 ((List.range n).map fun k => (fdT m gA k t).map (pg cA gA k)), a6, a7, a8, a9, a10, u11, u12, u13, u14] =
      some (.nx [a0, a1, a2, .fz (.int t), a4, .ow2 ((List.range n).map fun k => (fdT m gA k (t + 1)).map (pg cA gA k)), a6, a7, a8, a9, a10, v11, v12, v13, v14]) := by
  have wlen : (wl n m gA t).length ≤ 160 := by
    have := flat_len (fun s => (goT n gA s t).map fun k => (s, k)) 40 (fun s => by rw [List.length_map]; exact Nat.le_trans goT_len hn) m
    unfold wl
    omega
  have hF := forL_inv (p := gT 3 (gCns (gN 11) (gCns (gN 12) (gCns (gN 13) Fw.gNil)))) (body := lgI) (as := wnt n m cA gA t) (fun i δ => ∃ v11 v12 v13 v14, Fre v11 ∧ Fre v12 ∧ Fre v13 ∧ Lin5 v14 ∧ δ = [a0, a1, a2, .fz (.int t), a4, .ow2 (Fk n m cA gA t i), a6, a7, a8, a9, a10, v11, v12, v13, v14])
    (fun i q δ e ⟨v11, v12, v13, v14, f11, f12, f13, f14, eδ⟩ => by
      subst eδ
      rw [wnt_wl, List.getElem?_map] at e
      cases hq : (wl n m gA t)[i]? with
      | none => rw [hq] at e; cases e
      | some p =>
        rw [hq] at e
        obtain ⟨s, k⟩ := p
        have e : q = itm k s (cA s k) := (Option.some.inj e).symm
        subst e
        obtain ⟨_, hk, _⟩ := wl_mem (List.mem_of_getElem? hq)
        have hk : k < n := hk
        have lz : ((fdT m gA k t).map (pg cA gA k) ++ (((wl n m gA t).take i).filter fun p => p.2 == k).map fun p => pg cA gA k p.1).length < sizeLine := by
          rw [List.length_append, List.length_map, List.length_map]
          have a : (fdT m gA k t).length ≤ m := Nat.le_trans (List.length_filter_le _ _) (by simp)
          have b := List.length_filter_le (fun p : Nat × Nat => p.2 == k) ((wl n m gA t).take i)
          have c : ((wl n m gA t).take i).length ≤ (wl n m gA t).length := by rw [List.length_take]; omega
          rw [sizeLine_eq]; omega
        exact ⟨[a0, a1, a2, .fz (.int t), a4, .ow2 (Fk n m cA gA t i), a6, a7, a8, a9, a10, .fz (.int k), .fz (.int s), .fz (.int (cA s k)), v14], _, by simp [xRet, xRetL, xSeq, xSet, xSetL, xIf, xDrop, xAsg, xNil, xNo, xPar, puts, xApp, xAug, xIce, xUn, s1, s2, sA0, sA1, sCall, sCallL, sCallM, sCallS, sCallSL, sB, sAndT, sOrT, sNotT, sAnd, sOr, sIf, sTup, sLst, sFz, sV, sC, sChain, sLenO, sIxO, sCmpO, sPop, sSl, sRevO, sRevD, rNil, rF, rL, rLL, addR, subR, fdivR, modR, ltR, leR, gtR, geR, isNR, notNR, isNone, len_t, len_l, absR, intR, minR, tupleR, isiR, subTy, tyD, revTR, negR, gN, gT, gCns, Fw.gNil, oN, oS, lstOf, setLst, ice, noAl, sYes, wipeE, idle, put_c0, put_c1, put_c2, put_c3, put_c4, put_c5, put_c6, put_c7, put_c8, put_c9, put_c10, put_c11, put_c12, put_c13, put_c14, put_c15, put_c16, put_c17, put_c18, put_c19, put_c20, put_c21, put_c22, put_c23], lgI_ok f14 (Fk_get hk) lz, _, _, _, _, inferInstance, inferInstance, inferInstance, .inr ⟨k, rfl⟩, by rw [Fk_next hq]⟩)
    (δ := [a0, a1, a2, .fz (.int t), a4, .ow2 (Fk n m cA gA t 0), a6, a7, a8, a9, a10, u11, u12, u13, u14]) ⟨u11, u12, u13, u14, inferInstance, inferInstance, inferInstance, hu, rfl⟩
  obtain ⟨δ', f1, v11, v12, v13, v14, f11, f12, f13, f14, rfl⟩ := hF
  have el : (wnt n m cA gA t).length = (wl n m gA t).length := by rw [wnt_wl, List.length_map]
  rw [el, Fk_end S, Fk_0] at f1
  exact ⟨v11, v12, v13, v14, f11, f12, f13, f14, f1⟩
end
end L95

end
section
set_option Elab.async false
set_option linter.all false
set_option maxRecDepth 100000
/-! The log of a walk on a path. -/
namespace L95
open PySem PySem.Spec PyProof.Rows L2 Fw Pl
abbrev peD (m : Nat) (x : Int) : PyData := .tuple [.int x, routeD m]
def ppD (m : Nat) (xs : List Int) : PyData := .tuple (xs.map (peD m))
section
variable {n m : Nat} {cA gA : Nat → Nat → Int} {dl cp : Nat → Int}
def kn (n : Nat) (cA : Nat → Nat → Int) (t : Int) : Nat := ((List.range n).filter fun k => decide (cA 0 k < t)).length
theorem kn_next (S : Sch n m cA gA dl cp) (t : Int) : kn n cA (t + 1) = kn n cA t + (cmT n cA 0 t).length := by
  unfold kn cmT
  rw [← List.length_append, ← filter_split]
  · refine congrArg List.length (List.filter_congr fun k _ => ?_)
    rw [Bool.eq_iff_iff]
    simp only [Bool.or_eq_true, decide_eq_true_eq]
    omega
  · refine (List.pairwise_lt_range (n := n)).imp_of_mem fun {a b} ma mb hab hq => ?_
    have := S.mono 0 a b (Nat.zero_le _) hab (List.mem_range.mp mb)
    have hq := of_decide_eq_true hq
    exact decide_eq_false (by omega)
  · intro k _ h
    have h := of_decide_eq_true h
    exact decide_eq_false (by omega)
/-- from the known ones on -/
def fromL (j n : Nat) : List Nat := (List.range (n - j)).map fun i => j + i
theorem news_eq (S : Sch n m cA gA dl cp) (t : Int) : (fromL (kn n cA t) n).filter (fun k => decide (cA 0 k = t)) = cmT n cA 0 t ∧ kn n cA t ≤ n := by
  obtain ⟨j, hj, e, _⟩ := known_pre S t
  have ek : kn n cA t = j := by unfold kn; rw [e, List.length_range]
  have er : List.range n = List.range j ++ fromL j n := by
    have h := List.range_add (n := j) (m := n - j)
    rw [show j + (n - j) = n by omega] at h
    exact h
  refine ⟨?_, by omega⟩
  rw [ek]
  unfold cmT
  rw [er, List.filter_append]
  have : (List.range j).filter (fun k => decide (cA 0 k = t)) = [] := List.filter_eq_nil_iff.mpr fun k hk => by
    rw [← e] at hk
    have := of_decide_eq_true (List.mem_filter.mp hk).2
    simp only [decide_eq_true_eq]
    omega
  rw [this]; rfl
theorem rangeD_from (j n : Nat) (h : j ≤ n) : rangeD (j : Int) (n : Int) = nI (fromL j n) := by
  unfold rangeD nI fromL
  rw [List.map_map]
  have : ((n : Int) - j).toNat = n - j := by omega
  rw [this]
  refine List.map_congr_left fun i _ => ?_
  simp
theorem from_mem {j n k : Nat} (h : k ∈ fromL j n) : k < n := by
  obtain ⟨i, hi, rfl⟩ := List.mem_map.mp h
  have := List.mem_range.mp hi
  omega
theorem wRng2_nat {a : FA} {δ δ1 : Fw.Env} {j n : Nat} (h : a δ = some ([.int (j : Int), .int (n : Int)], δ1)) (hj : j ≤ 1000) (hn : n ≤ 1000) : wRng2 a δ = some (rangeD (j : Int) (n : Int), δ1) := by
  have z : (n : Int) ≤ sizeLine := by have := small hn; omega
  unfold wRng2
  rw [h]
  exact if_pos ⟨by omega, by omega, by omega, z⟩
noncomputable def loB : FS := (xSeq (xSet 8 (sFz (sLc [9] (wRng2 (sA1 (sV 7) (sA1 (sCall lenR (sA1 (sV 1) sA0)) sA0))) (gN 9) (sB (s2 eqR (s2 ixR (s2 ixR (sV 1) (sV 9)) (sC (.int 0))) (s2 ixR (sV 6) (sC (.int 0))))) (sV 9))))
    (xSeq (xSet 7 (s2 addR (sV 7) (sCall lenR (sA1 (sV 8) sA0))))
    (xSeq (xSet 6 (sCall d_come_in (sA1 (sV 2) (sA1 (sV 6) (sA1 (sV 8) sA0)))))
    (xSeq (xSet 3 (s2 ixR (sV 6) (sC (.int 0))))
    (xSeq (xAsg (gT 2 (gCns (gN 6) (gCns (gN 10) Fw.gNil))) (sCall d_go_on (sA1 (sV 0) (sA1 (sV 6) (sA1 (sTup sA0) sA0)))))
    (xFor (wIx (sV 10)) (gT 3 (gCns (gN 11) (gCns (gN 12) (gCns (gN 13) Fw.gNil)))) lgI))))))
theorem xSet_eq {i : Nat} {f : F} {δ δ1 δ2 : Fw.Env} {d : PyData} (h : f δ = some (d, δ1)) (hp : put δ1 i (.fz d) = some δ2) : xSet i f δ = some (.nx δ2) := by unfold xSet; rw [h]; simp only [hp]
theorem sFz_eq {a : FA} {δ δ1 : Fw.Env} {ds : List PyData} (h : a δ = some (ds, δ1)) : sFz a δ = some (.list ds, δ1) := by unfold sFz; rw [h]
theorem eqi (i j : Int) : (i == j) = decide (i = j) := rfl
theorem news_lc (S : Sch n m cA gA dl cp) {a0 a2 a3 a4 a5 a8 a10 a11 a12 a13 a14 : Fw.Slot} (hn : n ≤ 40) {xs : List Int} (hx : xs.length = n) (hc0 : ∀ k, k < n → xs[k]? = some (cA 0 k)) {t : Int} {st : PyData} (hst : ixR st (.int 0) = some (.int t)) :
    sLc [9] (wRng2 (sA1 (sV 7) (sA1 (sCall lenR (sA1 (sV 1) sA0)) sA0))) (gN 9) (sB (s2 eqR (s2 ixR (s2 ixR (sV 1) (sV 9)) (sC (.int 0))) (s2 ixR (sV 6) (sC (.int 0))))) (sV 9) [a0, .fz (ppD m xs), a2, a3, a4, a5, .fz st, .fz (.int (kn n cA t : Nat)), a8, .un, a10, a11, a12, a13, a14] =
      some (nI (cmT n cA 0 t), [a0, .fz (ppD m xs), a2, a3, a4, a5, .fz st, .fz (.int (kn n cA t : Nat)), a8, .un, a10, a11, a12, a13, a14]) := by
  obtain ⟨nw, kle⟩ := news_eq S t
  have hlen : lenR [ppD m xs] = some (.int n) := by unfold ppD; rw [len_t, List.length_map, hx]
  have hit : wRng2 (sA1 (sV 7) (sA1 (sCall lenR (sA1 (sV 1) sA0)) sA0)) [a0, .fz (ppD m xs), a2, a3, a4, a5, .fz st, .fz (.int (kn n cA t : Nat)), a8, .un, a10, a11, a12, a13, a14] = some ((fromL (kn n cA t) n).map (fun k : Nat => .int (k : Int)), [a0, .fz (ppD m xs), a2, a3, a4, a5, .fz st, .fz (.int (kn n cA t : Nat)), a8, .un, a10, a11, a12, a13, a14]) := by
    have e := rangeD_from (kn n cA t) n kle
    rw [wRng2_nat (δ1 := [a0, .fz (ppD m xs), a2, a3, a4, a5, .fz st, .fz (.int (kn n cA t : Nat)), a8, .un, a10, a11, a12, a13, a14]) (j := kn n cA t) (n := n) (by simp only [sA1, sA0, sV, sCall, List.getElem?_cons_succ, List.getElem?_cons_zero, hlen]) (by omega) (by omega), e]
    rfl
  have h := sLc_filter (vs := [9]) (p := gN 9) (c := sB (s2 eqR (s2 ixR (s2 ixR (sV 1) (sV 9)) (sC (.int 0))) (s2 ixR (sV 6) (sC (.int 0))))) (e := sV 9) (as := fromL (kn n cA t) n) (enc := fun k : Nat => .int (k : Int)) (fun k => decide (cA 0 k = t)) (fun k : Nat => .int (k : Int)) hit rfl
    (fun k mk => ⟨[a0, .fz (ppD m xs), a2, a3, a4, a5, .fz st, .fz (.int (kn n cA t : Nat)), a8, .fz (.int k), a10, a11, a12, a13, a14], by simp [xRet, xRetL, xSeq, xSet, xSetL, xIf, xDrop, xAsg, xNil, xNo, xPar, puts, xApp, xAug, xIce, xUn, s1, s2, sA0, sA1, sCall, sCallL, sCallM, sCallS, sCallSL, sB, sAndT, sOrT, sNotT, sAnd, sOr, sIf, sTup, sLst, sFz, sV, sC, sChain, sLenO, sIxO, sCmpO, sPop, sSl, sRevO, sRevD, rNil, rF, rL, rLL, addR, subR, fdivR, modR, ltR, leR, gtR, geR, isNR, notNR, isNone, len_t, len_l, absR, intR, minR, tupleR, isiR, subTy, tyD, revTR, negR, gN, gT, gCns, Fw.gNil, oN, oS, lstOf, setLst, ice, noAl, sYes, wipeE, idle, put_c0, put_c1, put_c2, put_c3, put_c4, put_c5, put_c6, put_c7, put_c8, put_c9, put_c10, put_c11, put_c12, put_c13, put_c14, put_c15, put_c16, put_c17, put_c18, put_c19, put_c20, put_c21, put_c22, put_c23], by
        have hk := from_mem mk
        have e1 : ixR (ppD m xs) (.int k) = some (peD m (cA 0 k)) := ix_tup (by rw [List.getElem?_map, hc0 k hk]; rfl)
        have e2 : ixR (peD m (cA 0 k)) (.int 0) = some (.int (cA 0 k)) := ix_t0
        simp only [s2, sB, sV, sC, List.getElem?_cons_succ, List.getElem?_cons_zero, e1, e2, hst, eq_int, eqi], by simp [xRet, xRetL, xSeq, xSet, xSetL, xIf, xDrop, xAsg, xNil, xNo, xPar, puts, xApp, xAug, xIce, xUn, s1, s2, sA0, sA1, sCall, sCallL, sCallM, sCallS, sCallSL, sB, sAndT, sOrT, sNotT, sAnd, sOr, sIf, sTup, sLst, sFz, sV, sC, sChain, sLenO, sIxO, sCmpO, sPop, sSl, sRevO, sRevD, rNil, rF, rL, rLL, addR, subR, fdivR, modR, ltR, leR, gtR, geR, isNR, notNR, isNone, len_t, len_l, absR, intR, minR, tupleR, isiR, subTy, tyD, revTR, negR, gN, gT, gCns, Fw.gNil, oN, oS, lstOf, setLst, ice, noAl, sYes, wipeE, idle, put_c0, put_c1, put_c2, put_c3, put_c4, put_c5, put_c6, put_c7, put_c8, put_c9, put_c10, put_c11, put_c12, put_c13, put_c14, put_c15, put_c16, put_c17, put_c18, put_c19, put_c20, put_c21, put_c22, put_c23], by simp [xRet, xRetL, xSeq, xSet, xSetL, xIf, xDrop, xAsg, xNil, xNo, xPar, puts, xApp, xAug, xIce, xUn, s1, s2, sA0, sA1, sCall, sCallL, sCallM, sCallS, sCallSL, sB, sAndT, sOrT, sNotT, sAnd, sOr, sIf, sTup, sLst, sFz, sV, sC, sChain, sLenO, sIxO, sCmpO, sPop, sSl, sRevO, sRevD, rNil, rF, rL, rLL, addR, subR, fdivR, modR, ltR, leR, gtR, geR, isNR, notNR, isNone, len_t, len_l, absR, intR, minR, tupleR, isiR, subTy, tyD, revTR, negR, gN, gT, gCns, Fw.gNil, oN, oS, lstOf, setLst, ice, noAl, sYes, wipeE, idle, put_c0, put_c1, put_c2, put_c3, put_c4, put_c5, put_c6, put_c7, put_c8, put_c9, put_c10, put_c11, put_c12, put_c13, put_c14, put_c15, put_c16, put_c17, put_c18, put_c19, put_c20, put_c21, put_c22, put_c23]⟩)
  rw [nw] at h
  exact h
/-- ahead of tick t -/
def LS (hd : PyData) (n m : Nat) (xs : List Int) (cA gA : Nat → Nat → Int) (dl : Nat → Int) (t : Int) (b : Nat) (δ : Fw.Env) : Prop := ∃ R od u3 u8 u10 u11 u12 u13 u14, R.Perm (ride n m gA dl t) ∧ od.length ≤ 200 * b ∧ Fre u3 ∧ Fre u8 ∧ Fre u10 ∧ Fre u11 ∧ Fre u12 ∧ Fre u13 ∧ Lin5 u14 ∧
  δ = [.fz hd, .fz (ppD m xs), .fz (.list (List.replicate n (routeD m))), u3, .un, .ow2 ((List.range n).map fun k => (fdT m gA k t).map (pg cA gA k)), .fz (staD m cA gA dl t (fun s => stT n cA gA s t) R od), .fz (.int (kn n cA t : Nat)), u8, .un, u10, u11, u12, u13, u14]
theorem loB_ok (S : Sch n m cA gA dl cp) (hn : n ≤ 40) (hm : m ≤ 4) {hd : PyData} (hh : Hl hd m dl cp) {xs : List Int} (hx : xs.length = n) (hc0 : ∀ k, k < n → xs[k]? = some (cA 0 k)) {t : Int} {b : Nat} (ht : b ≤ 5000) {δ : Fw.Env} (h : LS hd n m xs cA gA dl t b δ) :
    ∃ δ', loB δ = some (.nx δ') ∧ LS hd n m xs cA gA dl (t + 1) (b + 1) δ' := by
  obtain ⟨R, od, u3, u8, u10, u11, u12, u13, u14, hR, lo, f3, f8, f10, f11, f12, f13, f14, rfl⟩ := h
  have h0 : 0 ≤ sizeLine := Nat.zero_le _
  obtain ⟨nw, kle⟩ := news_eq S t
  have hlen : lenR [ppD m xs] = some (.int n) := by unfold ppD; rw [len_t, List.length_map, hx]
  obtain ⟨od', lo', hci⟩ := come_in_ok S hn hm hR (by omega : od.length ≤ 1000000)
  have rl : R.length ≤ 160 := by
    rw [hR.length_eq]
    have a := List.length_filter_le (fun p : Nat × Nat => decide (gA p.1 p.2 < t) && decide (t ≤ gA p.1 p.2 + dl p.1)) (prs m n)
    have b := prs_len m n
    have c : m * n ≤ 4 * 40 := Nat.mul_le_mul hm hn
    unfold ride
    omega
  have hgo := go_on_ok S hh hn hm (t := t) (R := R.filter fun p : Nat × Nat => decide (t < gA p.1 p.2 + dl p.1)) (Nat.le_trans (List.length_filter_le _ _) rl) (od := od')
  have hst0 : ixR (staD m cA gA dl t (fun s => stT n cA gA s t) R od) (.int 0) = some (.int t) := ix_t0
  have hst1 : ixR (staD m cA gA dl t (fun s => s2T n cA gA s t) (R.filter fun p : Nat × Nat => decide (t < gA p.1 p.2 + dl p.1)) od') (.int 0) = some (.int t) := ix_t0
  have hN := news_lc S (a0 := .fz hd) (a2 := .fz (.list (List.replicate n (routeD m)))) (a3 := u3) (a4 := .un) (a5 := .ow2 ((List.range n).map fun k => (fdT m gA k t).map (pg cA gA k))) (a8 := u8) (a10 := u10) (a11 := u11) (a12 := u12) (a13 := u13) (a14 := u14) hn hx hc0 hst0
  have hk1 : (kn n cA t : Int) + ((cmT n cA 0 t).length : Int) = ((kn n cA (t + 1) : Nat) : Int) := by rw [kn_next S]; omega
  have hl8 : lenR [.list (nI (cmT n cA 0 t))] = some (.int ((cmT n cA 0 t).length : Nat)) := by rw [len_l]; unfold nI; rw [List.length_map]
  obtain ⟨v11, v12, v13, v14, g11, g12, g13, g14, hl⟩ := lgI_loop S hm hn (t := t) (a0 := .fz hd) (a1 := .fz (ppD m xs)) (a2 := .fz (.list (List.replicate n (routeD m)))) (a4 := .un)
    (a6 := .fz (staD m cA gA dl (t + 1) (fun s => stT n cA gA s (t + 1)) ((R.filter fun p : Nat × Nat => decide (t < gA p.1 p.2 + dl p.1)) ++ (List.range m).flatMap fun s => (goT n gA s t).map fun k => (s, k)) od')) (a7 := .fz (.int ((kn n cA (t + 1) : Nat) : Int))) (a8 := .fz (.list (nI (cmT n cA 0 t)))) (a9 := .un) (a10 := .fz (.list (wnt n m cA gA t))) (u11 := u11) (u12 := u12) (u13 := u13) f14
  refine ⟨_, ?_, _, od', .fz (.int t), .fz (.list (nI (cmT n cA 0 t))), .fz (.list (wnt n m cA gA t)), v11, v12, v13, v14, ride_next S hR, by omega, inferInstance, inferInstance, inferInstance, g11, g12, g13, g14, rfl⟩
  unfold loB
  refine (xSeq_eq (δ1 := [.fz hd, .fz (ppD m xs), .fz (.list (List.replicate n (routeD m))), u3, .un, .ow2 ((List.range n).map fun k => (fdT m gA k t).map (pg cA gA k)), .fz (staD m cA gA dl t (fun s => stT n cA gA s t) R od), .fz (.int (kn n cA t : Nat)), .fz (.list (nI (cmT n cA 0 t))), .un, u10, u11, u12, u13, u14]) (xSet_eq (sFz_eq hN) put_c8)).trans ?_
  refine (xSeq_eq (δ1 := [.fz hd, .fz (ppD m xs), .fz (.list (List.replicate n (routeD m))), u3, .un, .ow2 ((List.range n).map fun k => (fdT m gA k t).map (pg cA gA k)), .fz (staD m cA gA dl t (fun s => stT n cA gA s t) R od), .fz (.int ((kn n cA (t + 1) : Nat) : Int)), .fz (.list (nI (cmT n cA 0 t))), .un, u10, u11, u12, u13, u14]) (by simp only [xSet, s2, sCall, sA1, sA0, sV, List.getElem?_cons_succ, List.getElem?_cons_zero, hl8, addR, hk1, put_c7])).trans ?_
  refine (xSeq_eq (δ1 := [.fz hd, .fz (ppD m xs), .fz (.list (List.replicate n (routeD m))), u3, .un, .ow2 ((List.range n).map fun k => (fdT m gA k t).map (pg cA gA k)), .fz (staD m cA gA dl t (fun s => s2T n cA gA s t) (R.filter fun p : Nat × Nat => decide (t < gA p.1 p.2 + dl p.1)) od'), .fz (.int ((kn n cA (t + 1) : Nat) : Int)), .fz (.list (nI (cmT n cA 0 t))), .un, u10, u11, u12, u13, u14]) (by simp only [xSet, sCall, sA1, sA0, sV, List.getElem?_cons_succ, List.getElem?_cons_zero, hci, put_c6])).trans ?_
  refine (xSeq_eq (δ1 := [.fz hd, .fz (ppD m xs), .fz (.list (List.replicate n (routeD m))), .fz (.int t), .un, .ow2 ((List.range n).map fun k => (fdT m gA k t).map (pg cA gA k)), .fz (staD m cA gA dl t (fun s => s2T n cA gA s t) (R.filter fun p : Nat × Nat => decide (t < gA p.1 p.2 + dl p.1)) od'), .fz (.int ((kn n cA (t + 1) : Nat) : Int)), .fz (.list (nI (cmT n cA 0 t))), .un, u10, u11, u12, u13, u14]) (by simp only [xSet, s2, sV, sC, List.getElem?_cons_succ, List.getElem?_cons_zero, hst1, put_c3])).trans ?_
  refine (xSeq_eq (δ1 := [.fz hd, .fz (ppD m xs), .fz (.list (List.replicate n (routeD m))), .fz (.int t), .un, .ow2 ((List.range n).map fun k => (fdT m gA k t).map (pg cA gA k)), .fz (staD m cA gA dl (t + 1) (fun s => stT n cA gA s (t + 1)) ((R.filter fun p : Nat × Nat => decide (t < gA p.1 p.2 + dl p.1)) ++ (List.range m).flatMap fun s => (goT n gA s t).map fun k => (s, k)) od'), .fz (.int ((kn n cA (t + 1) : Nat) : Int)), .fz (.list (nI (cmT n cA 0 t))), .un, .fz (.list (wnt n m cA gA t)), u11, u12, u13, u14]) ?_).trans ?_
  · simp only [xAsg, sCall, sA1, sA0, sTup, List.length_nil, if_pos h0, sV, List.getElem?_cons_succ, List.getElem?_cons_zero, hgo]
    simp [xRet, xRetL, xSeq, xSet, xSetL, xIf, xDrop, xAsg, xNil, xNo, xPar, puts, xApp, xAug, xIce, xUn, s1, s2, sA0, sA1, sCall, sCallL, sCallM, sCallS, sCallSL, sB, sAndT, sOrT, sNotT, sAnd, sOr, sIf, sTup, sLst, sFz, sV, sC, sChain, sLenO, sIxO, sCmpO, sPop, sSl, sRevO, sRevD, rNil, rF, rL, rLL, addR, subR, fdivR, modR, ltR, leR, gtR, geR, isNR, notNR, isNone, len_t, len_l, absR, intR, minR, tupleR, isiR, subTy, tyD, revTR, negR, gN, gT, gCns, Fw.gNil, oN, oS, lstOf, setLst, ice, noAl, sYes, wipeE, idle, put_c0, put_c1, put_c2, put_c3, put_c4, put_c5, put_c6, put_c7, put_c8, put_c9, put_c10, put_c11, put_c12, put_c13, put_c14, put_c15, put_c16, put_c17, put_c18, put_c19, put_c20, put_c21, put_c22, put_c23]
  · unfold xFor
    have hI : wIx (sV 10) [.fz hd, .fz (ppD m xs), .fz (.list (List.replicate n (routeD m))), .fz (.int t), .un, .ow2 ((List.range n).map fun k => (fdT m gA k t).map (pg cA gA k)), .fz (staD m cA gA dl (t + 1) (fun s => stT n cA gA s (t + 1)) ((R.filter fun p : Nat × Nat => decide (t < gA p.1 p.2 + dl p.1)) ++ (List.range m).flatMap fun s => (goT n gA s t).map fun k => (s, k)) od'), .fz (.int ((kn n cA (t + 1) : Nat) : Int)), .fz (.list (nI (cmT n cA 0 t))), .un, .fz (.list (wnt n m cA gA t)), u11, u12, u13, u14] = some (wnt n m cA gA t, [.fz hd, .fz (ppD m xs), .fz (.list (List.replicate n (routeD m))), .fz (.int t), .un, .ow2 ((List.range n).map fun k => (fdT m gA k t).map (pg cA gA k)), .fz (staD m cA gA dl (t + 1) (fun s => stT n cA gA s (t + 1)) ((R.filter fun p : Nat × Nat => decide (t < gA p.1 p.2 + dl p.1)) ++ (List.range m).flatMap fun s => (goT n gA s t).map fun k => (s, k)) od'), .fz (.int ((kn n cA (t + 1) : Nat) : Int)), .fz (.list (nI (cmT n cA 0 t))), .un, .fz (.list (wnt n m cA gA t)), u11, u12, u13, u14]) := by simp only [wIx, sV, List.getElem?_cons_succ, List.getElem?_cons_zero, itD]
    rw [hI]
    exact hl
end
end L95

end
section
set_option Elab.async false
set_option linter.all false
set_option maxRecDepth 100000
/-! The log of a walk on a path: all of it. -/
namespace L95
open PySem PySem.Spec PyProof.Rows L2 Fw Pl
section
variable {n m : Nat} {cA gA : Nat → Nat → Int} {dl cp : Nat → Int}
noncomputable def loC : FT := (sOrT (sB (s2 ltR (sV 7) (sCall lenR (sA1 (sV 1) sA0)))) (sNotT (sB (sCall d_is_empty (sA1 (sV 6) sA0)))))
theorem loC_ok {hd : PyData} {xs : List Int} (hx : xs.length = n) {t : Int} {b : Nat} {δ : Fw.Env} (h : LS hd n m xs cA gA dl t b δ) : ∃ R : List (Nat × Nat), R.Perm (ride n m gA dl t) ∧ loC δ = some (decide (kn n cA t < n) || !emp m (fun s => stT n cA gA s t) R, δ) := by
  obtain ⟨R, od, u3, u8, u10, u11, u12, u13, u14, hR, lo, f3, f8, f10, f11, f12, f13, f14, rfl⟩ := h
  refine ⟨R, hR, ?_⟩
  have hlen : lenR [ppD m xs] = some (.int n) := by unfold ppD; rw [len_t, List.length_map, hx]
  have he := is_empty_ok (m := m) (cA := cA) (gA := gA) (dl := dl) (t := t) (f := fun s => stT n cA gA s t) (R := R) (od := od)
  have q : decide (((kn n cA t : Nat) : Int) < (n : Int)) = decide (kn n cA t < n) := by
    by_cases q : kn n cA t < n
    · rw [decide_eq_true q, decide_eq_true (by omega)]
    · rw [decide_eq_false q, decide_eq_false (by omega)]
  have ta : (sB (s2 ltR (sV 7) (sCall lenR (sA1 (sV 1) sA0)))) [.fz hd, .fz (ppD m xs), .fz (.list (List.replicate n (routeD m))), u3, .un, .ow2 ((List.range n).map fun k => (fdT m gA k t).map (pg cA gA k)), .fz (staD m cA gA dl t (fun s => stT n cA gA s t) R od), .fz (.int (kn n cA t : Nat)), u8, .un, u10, u11, u12, u13, u14] =
      some (decide (kn n cA t < n), [.fz hd, .fz (ppD m xs), .fz (.list (List.replicate n (routeD m))), u3, .un, .ow2 ((List.range n).map fun k => (fdT m gA k t).map (pg cA gA k)), .fz (staD m cA gA dl t (fun s => stT n cA gA s t) R od), .fz (.int (kn n cA t : Nat)), u8, .un, u10, u11, u12, u13, u14]) := by
    simp only [sB, s2, sV, sCall, sA1, sA0, List.getElem?_cons_succ, List.getElem?_cons_zero, hlen, ltR, q]
  have tb : (sNotT (sB (sCall d_is_empty (sA1 (sV 6) sA0)))) [.fz hd, .fz (ppD m xs), .fz (.list (List.replicate n (routeD m))), u3, .un, .ow2 ((List.range n).map fun k => (fdT m gA k t).map (pg cA gA k)), .fz (staD m cA gA dl t (fun s => stT n cA gA s t) R od), .fz (.int (kn n cA t : Nat)), u8, .un, u10, u11, u12, u13, u14] =
      some (!emp m (fun s => stT n cA gA s t) R, [.fz hd, .fz (ppD m xs), .fz (.list (List.replicate n (routeD m))), u3, .un, .ow2 ((List.range n).map fun k => (fdT m gA k t).map (pg cA gA k)), .fz (staD m cA gA dl t (fun s => stT n cA gA s t) R od), .fz (.int (kn n cA t : Nat)), u8, .un, u10, u11, u12, u13, u14]) := by
    simp only [sNotT, sB, sV, sCall, sA1, sA0, List.getElem?_cons_succ, List.getElem?_cons_zero, he]
  unfold loC sOrT
  rw [ta]
  cases decide (kn n cA t < n) with
  | true => rfl
  | false => simp only [tb, Bool.false_or]
/-- the end: nobody is left -/
theorem stop_found (S : Sch n m cA gA dl cp) {t : Int} {R : List (Nat × Nat)} (hR : R.Perm (ride n m gA dl t)) (h : (decide (kn n cA t < n) || !emp m (fun s => stT n cA gA s t) R) = false) : (List.range n).map (fun k => (fdT m gA k t).map (pg cA gA k)) = (List.range n).map fun k => (List.range m).map (pg cA gA k) := by
  rw [Bool.or_eq_false_iff] at h
  obtain ⟨h1, h2⟩ := h
  have h1 := of_decide_eq_false h1
  have h2 : emp m (fun s => stT n cA gA s t) R = true := by cases q : emp m (fun s => stT n cA gA s t) R with | true => rfl | false => rw [q] at h2; cases h2
  unfold emp at h2
  rw [Bool.and_eq_true] at h2
  have hR0 : ride n m gA dl t = [] := by
    have : R = [] := List.isEmpty_iff.mp h2.1
    rw [this] at hR
    exact (List.nil_perm.mp hR)
  have hst : ∀ s, s < m → stT n cA gA s t = [] := fun s hs => List.isEmpty_iff.mp (List.all_eq_true.mp h2.2 s (List.mem_range.mpr hs))
  obtain ⟨j, hj, e, hge⟩ := known_pre S t
  have ej : kn n cA t = j := by unfold kn; rw [e, List.length_range]
  have h0 : ∀ k, k < n → cA 0 k < t := fun k hk => by
    have : k ∈ (List.range n).filter (fun k => decide (cA 0 k < t)) := by rw [e]; exact List.mem_range.mpr (by omega)
    exact of_decide_eq_true (List.mem_filter.mp this).2
  refine List.map_congr_left fun k hk => ?_
  have hk := List.mem_range.mp hk
  rw [done_found S hk (fun s hs => all_done S h0 hst hR0 hk s hs)]
theorem late_stop (S : Sch n m cA gA dl cp) {t : Int} (ht : ∀ s k, s ≤ m → k < n → cA s k < t) {R : List (Nat × Nat)} (hR : R.Perm (ride n m gA dl t)) : (decide (kn n cA t < n) || !emp m (fun s => stT n cA gA s t) R) = false := by
  have hk : kn n cA t = n := by
    unfold kn
    rw [List.filter_eq_self.mpr fun k hk => decide_eq_true (ht 0 k (Nat.zero_le _) (List.mem_range.mp hk)), List.length_range]
  have hg : ∀ s k, s < m → k < n → gA s k + dl s < t := fun s k hs hk => by rw [← S.nxt s k hs hk]; exact ht (s + 1) k hs hk
  have hr : ride n m gA dl t = [] := by
    cases q : ride n m gA dl t with
    | nil => rfl
    | cons p r =>
      have hp : p ∈ ride n m gA dl t := by rw [q]; simp
      obtain ⟨a, b, _, c⟩ := ride_mem.mp hp
      have := hg p.1 p.2 a b
      omega
  have hR0 : R = [] := by rw [hr] at hR; exact List.perm_nil.mp hR
  have hs : ∀ s, s < m → stT n cA gA s t = [] := fun s hs => List.filter_eq_nil_iff.mpr fun k hk => by
    have := hg s k hs (List.mem_range.mp hk)
    have d := S.dpos s hs
    simp only [Bool.and_eq_true, decide_eq_true_eq]
    omega
  have he : emp m (fun s => stT n cA gA s t) R = true := by
    unfold emp
    rw [hR0, Bool.and_eq_true]
    exact ⟨rfl, List.all_eq_true.mpr fun s ms => by show (stT n cA gA s t).isEmpty = true; rw [hs s (List.mem_range.mp ms)]; rfl⟩
  rw [he, hk]
  simp
theorem lo_run (S : Sch n m cA gA dl cp) (hn : n ≤ 40) (hm : m ≤ 4) {hd : PyData} (hh : Hl hd m dl cp) {xs : List Int} (hx : xs.length = n) (hc0 : ∀ k, k < n → xs[k]? = some (cA 0 k)) {T : Nat} (hT : ∀ s k, s ≤ m → k < n → cA s k < (T : Int)) (hT2 : T ≤ 5000) :
    ∀ (r b : Nat) (δ : Fw.Env), b + r = T → LS hd n m xs cA gA dl b b δ → ∃ (δ' : Fw.Env) (t : Int) (b' : Nat), xWhile loC loB δ = some (.nx δ') ∧ LS hd n m xs cA gA dl t b' δ' ∧ (List.range n).map (fun k => (fdT m gA k t).map (pg cA gA k)) = (List.range n).map fun k => (List.range m).map (pg cA gA k)
  | 0, b, δ, e, h => by
    obtain ⟨R, hR, hc⟩ := loC_ok hx h
    have hb : (b : Int) = (T : Int) := by omega
    have st := late_stop S (t := (b : Int)) (fun s k hs hk => by rw [hb]; exact hT s k hs hk) hR
    rw [st] at hc
    exact ⟨δ, b, b, xWhile_stop hc, h, stop_found S hR st⟩
  | r + 1, b, δ, e, h => by
    obtain ⟨R, hR, hc⟩ := loC_ok hx h
    cases st : (decide (kn n cA (b : Int) < n) || !emp m (fun s => stT n cA gA s b) R) with
    | false =>
      rw [st] at hc
      exact ⟨δ, b, b, xWhile_stop hc, h, stop_found S hR st⟩
    | true =>
      rw [st] at hc
      obtain ⟨δ1, h1, h2⟩ := loB_ok S hn hm hh hx hc0 (by omega) h
      have ec : ((b + 1 : Nat) : Int) = (b : Int) + 1 := by omega
      obtain ⟨δ', t, b', h3, h4, h5⟩ := lo_run S hn hm hh hx hc0 hT hT2 r (b + 1) δ1 (by omega) (by rw [ec]; exact h2)
      exact ⟨δ', t, b', xWhile_step hc h1 h3, h4, h5⟩
def lgR (m : Nat) (cA gA : Nat → Nat → Int) (k : Nat) : List PyData := (List.range m).map (pg cA gA k)
theorem log_of_ok (S : Sch n m cA gA dl cp) (hn : n ≤ 40) (hm : m ≤ 4) {hd : PyData} (hh : Hl hd m dl cp) {st : List PyData} (hst : ixR hd (.int 1) = some (.tuple st)) (hsl : st.length = m) {xs : List Int} (hx : xs.length = n) (hc0 : ∀ k, k < n → xs[k]? = some (cA 0 k)) {T : Nat} (hT : ∀ s k, s ≤ m → k < n → cA s k < (T : Int)) (hT2 : T ≤ 5000) :
    d_log_of [hd, ppD m xs] = some (.list ((List.range n).map fun k => .list (lgR m cA gA k))) := by
  have h0 : 0 ≤ sizeLine := Nat.zero_le _
  have hR := sLc_map (vs := [3, 4]) (it := wIx (sV 1)) (p := gT 2 (gCns (gN 3) (gCns (gN 4) Fw.gNil))) (e := sV 4) (δ0 := [.fz hd, .fz (ppD m xs), .un, .un, .un, .un, .un, .un, .un, .un, .un, .un, .un, .un, .un]) (δ1 := [.fz hd, .fz (ppD m xs), .un, .un, .un, .un, .un, .un, .un, .un, .un, .un, .un, .un, .un]) (as := xs) (enc := peD m) (fun _ => routeD m)
    (by simp [ppD, xRet, xRetL, xSeq, xSet, xSetL, xIf, xDrop, xAsg, xNil, xNo, xPar, puts, xApp, xAug, xIce, xUn, s1, s2, sA0, sA1, sCall, sCallL, sCallM, sCallS, sCallSL, sB, sAndT, sOrT, sNotT, sAnd, sOr, sIf, sTup, sLst, sFz, sV, sC, sChain, sLenO, sIxO, sCmpO, sPop, sSl, sRevO, sRevD, rNil, rF, rL, rLL, addR, subR, fdivR, modR, ltR, leR, gtR, geR, isNR, notNR, isNone, len_t, len_l, absR, intR, minR, tupleR, isiR, subTy, tyD, revTR, negR, gN, gT, gCns, Fw.gNil, oN, oS, lstOf, setLst, ice, noAl, sYes, wipeE, idle, put_c0, put_c1, put_c2, put_c3, put_c4, put_c5, put_c6, put_c7, put_c8, put_c9, put_c10, put_c11, put_c12, put_c13, put_c14, put_c15, put_c16, put_c17, put_c18, put_c19, put_c20, put_c21, put_c22, put_c23, wIx, itD]) rfl (fun x mx => ⟨[.fz hd, .fz (ppD m xs), .un, .fz (.int x), .fz (routeD m), .un, .un, .un, .un, .un, .un, .un, .un, .un, .un], by simp [xRet, xRetL, xSeq, xSet, xSetL, xIf, xDrop, xAsg, xNil, xNo, xPar, puts, xApp, xAug, xIce, xUn, s1, s2, sA0, sA1, sCall, sCallL, sCallM, sCallS, sCallSL, sB, sAndT, sOrT, sNotT, sAnd, sOr, sIf, sTup, sLst, sFz, sV, sC, sChain, sLenO, sIxO, sCmpO, sPop, sSl, sRevO, sRevD, rNil, rF, rL, rLL, addR, subR, fdivR, modR, ltR, leR, gtR, geR, isNR, notNR, isNone, len_t, len_l, absR, intR, minR, tupleR, isiR, subTy, tyD, revTR, negR, gN, gT, gCns, Fw.gNil, oN, oS, lstOf, setLst, ice, noAl, sYes, wipeE, idle, put_c0, put_c1, put_c2, put_c3, put_c4, put_c5, put_c6, put_c7, put_c8, put_c9, put_c10, put_c11, put_c12, put_c13, put_c14, put_c15, put_c16, put_c17, put_c18, put_c19, put_c20, put_c21, put_c22, put_c23], by simp [xRet, xRetL, xSeq, xSet, xSetL, xIf, xDrop, xAsg, xNil, xNo, xPar, puts, xApp, xAug, xIce, xUn, s1, s2, sA0, sA1, sCall, sCallL, sCallM, sCallS, sCallSL, sB, sAndT, sOrT, sNotT, sAnd, sOr, sIf, sTup, sLst, sFz, sV, sC, sChain, sLenO, sIxO, sCmpO, sPop, sSl, sRevO, sRevD, rNil, rF, rL, rLL, addR, subR, fdivR, modR, ltR, leR, gtR, geR, isNR, notNR, isNone, len_t, len_l, absR, intR, minR, tupleR, isiR, subTy, tyD, revTR, negR, gN, gT, gCns, Fw.gNil, oN, oS, lstOf, setLst, ice, noAl, sYes, wipeE, idle, put_c0, put_c1, put_c2, put_c3, put_c4, put_c5, put_c6, put_c7, put_c8, put_c9, put_c10, put_c11, put_c12, put_c13, put_c14, put_c15, put_c16, put_c17, put_c18, put_c19, put_c20, put_c21, put_c22, put_c23], by simp [xRet, xRetL, xSeq, xSet, xSetL, xIf, xDrop, xAsg, xNil, xNo, xPar, puts, xApp, xAug, xIce, xUn, s1, s2, sA0, sA1, sCall, sCallL, sCallM, sCallS, sCallSL, sB, sAndT, sOrT, sNotT, sAnd, sOr, sIf, sTup, sLst, sFz, sV, sC, sChain, sLenO, sIxO, sCmpO, sPop, sSl, sRevO, sRevD, rNil, rF, rL, rLL, addR, subR, fdivR, modR, ltR, leR, gtR, geR, isNR, notNR, isNone, len_t, len_l, absR, intR, minR, tupleR, isiR, subTy, tyD, revTR, negR, gN, gT, gCns, Fw.gNil, oN, oS, lstOf, setLst, ice, noAl, sYes, wipeE, idle, put_c0, put_c1, put_c2, put_c3, put_c4, put_c5, put_c6, put_c7, put_c8, put_c9, put_c10, put_c11, put_c12, put_c13, put_c14, put_c15, put_c16, put_c17, put_c18, put_c19, put_c20, put_c21, put_c22, put_c23]⟩)
  have er : xs.map (fun _ => routeD m) = List.replicate n (routeD m) := by rw [List.map_const', hx]
  rw [er] at hR
  have hF := sLL_map (vs := [4]) (it := wIx (sV 2)) (p := gN 4) (e := sLst sA0) (δ0 := [.fz hd, .fz (ppD m xs), .fz (.list (List.replicate n (routeD m))), .un, .un, .un, .un, .un, .un, .un, .un, .un, .un, .un, .un]) (δ1 := [.fz hd, .fz (ppD m xs), .fz (.list (List.replicate n (routeD m))), .un, .un, .un, .un, .un, .un, .un, .un, .un, .un, .un, .un])
    (as := List.range n) (enc := fun _ => routeD m) (fun _ => []) (by
      have : (List.range n).map (fun _ => routeD m) = List.replicate n (routeD m) := by rw [List.map_const', List.length_range]
      rw [this]; simp [xRet, xRetL, xSeq, xSet, xSetL, xIf, xDrop, xAsg, xNil, xNo, xPar, puts, xApp, xAug, xIce, xUn, s1, s2, sA0, sA1, sCall, sCallL, sCallM, sCallS, sCallSL, sB, sAndT, sOrT, sNotT, sAnd, sOr, sIf, sTup, sLst, sFz, sV, sC, sChain, sLenO, sIxO, sCmpO, sPop, sSl, sRevO, sRevD, rNil, rF, rL, rLL, addR, subR, fdivR, modR, ltR, leR, gtR, geR, isNR, notNR, isNone, len_t, len_l, absR, intR, minR, tupleR, isiR, subTy, tyD, revTR, negR, gN, gT, gCns, Fw.gNil, oN, oS, lstOf, setLst, ice, noAl, sYes, wipeE, idle, put_c0, put_c1, put_c2, put_c3, put_c4, put_c5, put_c6, put_c7, put_c8, put_c9, put_c10, put_c11, put_c12, put_c13, put_c14, put_c15, put_c16, put_c17, put_c18, put_c19, put_c20, put_c21, put_c22, put_c23, wIx, itD]) rfl (fun k mk => ⟨[.fz hd, .fz (ppD m xs), .fz (.list (List.replicate n (routeD m))), .un, .fz (routeD m), .un, .un, .un, .un, .un, .un, .un, .un, .un, .un], by simp [xRet, xRetL, xSeq, xSet, xSetL, xIf, xDrop, xAsg, xNil, xNo, xPar, puts, xApp, xAug, xIce, xUn, s1, s2, sA0, sA1, sCall, sCallL, sCallM, sCallS, sCallSL, sB, sAndT, sOrT, sNotT, sAnd, sOr, sIf, sTup, sLst, sFz, sV, sC, sChain, sLenO, sIxO, sCmpO, sPop, sSl, sRevO, sRevD, rNil, rF, rL, rLL, addR, subR, fdivR, modR, ltR, leR, gtR, geR, isNR, notNR, isNone, len_t, len_l, absR, intR, minR, tupleR, isiR, subTy, tyD, revTR, negR, gN, gT, gCns, Fw.gNil, oN, oS, lstOf, setLst, ice, noAl, sYes, wipeE, idle, put_c0, put_c1, put_c2, put_c3, put_c4, put_c5, put_c6, put_c7, put_c8, put_c9, put_c10, put_c11, put_c12, put_c13, put_c14, put_c15, put_c16, put_c17, put_c18, put_c19, put_c20, put_c21, put_c22, put_c23], by simp [h0, xRet, xRetL, xSeq, xSet, xSetL, xIf, xDrop, xAsg, xNil, xNo, xPar, puts, xApp, xAug, xIce, xUn, s1, s2, sA0, sA1, sCall, sCallL, sCallM, sCallS, sCallSL, sB, sAndT, sOrT, sNotT, sAnd, sOr, sIf, sTup, sLst, sFz, sV, sC, sChain, sLenO, sIxO, sCmpO, sPop, sSl, sRevO, sRevD, rNil, rF, rL, rLL, addR, subR, fdivR, modR, ltR, leR, gtR, geR, isNR, notNR, isNone, len_t, len_l, absR, intR, minR, tupleR, isiR, subTy, tyD, revTR, negR, gN, gT, gCns, Fw.gNil, oN, oS, lstOf, setLst, ice, noAl, sYes, wipeE, idle, put_c0, put_c1, put_c2, put_c3, put_c4, put_c5, put_c6, put_c7, put_c8, put_c9, put_c10, put_c11, put_c12, put_c13, put_c14, put_c15, put_c16, put_c17, put_c18, put_c19, put_c20, put_c21, put_c22, put_c23], by simp [xRet, xRetL, xSeq, xSet, xSetL, xIf, xDrop, xAsg, xNil, xNo, xPar, puts, xApp, xAug, xIce, xUn, s1, s2, sA0, sA1, sCall, sCallL, sCallM, sCallS, sCallSL, sB, sAndT, sOrT, sNotT, sAnd, sOr, sIf, sTup, sLst, sFz, sV, sC, sChain, sLenO, sIxO, sCmpO, sPop, sSl, sRevO, sRevD, rNil, rF, rL, rLL, addR, subR, fdivR, modR, ltR, leR, gtR, geR, isNR, notNR, isNone, len_t, len_l, absR, intR, minR, tupleR, isiR, subTy, tyD, revTR, negR, gN, gT, gCns, Fw.gNil, oN, oS, lstOf, setLst, ice, noAl, sYes, wipeE, idle, put_c0, put_c1, put_c2, put_c3, put_c4, put_c5, put_c6, put_c7, put_c8, put_c9, put_c10, put_c11, put_c12, put_c13, put_c14, put_c15, put_c16, put_c17, put_c18, put_c19, put_c20, put_c21, put_c22, put_c23]⟩)
  have hN := nobody_ok S hst hsl
  have L0 : LS hd n m xs cA gA dl (0 : Nat) 0 [.fz hd, .fz (ppD m xs), .fz (.list (List.replicate n (routeD m))), .un, .un, .ow2 ((List.range n).map fun _ => []), .fz (staD m cA gA dl 0 (fun s => stT n cA gA s 0) [] []), .fz (.int 0), .un, .un, .un, .un, .un, .un, .un] := by
    have f0 : (List.range n).map (fun k => (fdT m gA k ((0 : Nat) : Int)).map (pg cA gA k)) = (List.range n).map fun _ => ([] : List PyData) := List.map_congr_left fun k hk => by
      have : fdT m gA k ((0 : Nat) : Int) = [] := List.filter_eq_nil_iff.mpr fun s hs => by
        have hs := List.mem_range.mp hs
        have hk := List.mem_range.mp hk
        have a := S.le s k hs hk
        have b := S.pos s k (by omega) hk
        simp only [decide_eq_true_eq]
        omega
      rw [this]; rfl
    have k0 : kn n cA ((0 : Nat) : Int) = 0 := by
      unfold kn
      rw [List.filter_eq_nil_iff.mpr fun k hk => by
        have := S.pos 0 k (Nat.zero_le _) (List.mem_range.mp hk)
        simp only [decide_eq_true_eq]
        omega]
      rfl
    have r0 : ride n m gA dl ((0 : Nat) : Int) = [] := List.filter_eq_nil_iff.mpr fun p hp => by
      obtain ⟨a, b⟩ := prs_mem.mp hp
      have c := S.le p.1 p.2 a b
      have d := S.pos p.1 p.2 (by omega) b
      simp only [Bool.and_eq_true, decide_eq_true_eq]
      omega
    refine ⟨[], [], .un, .un, .un, .un, .un, .un, .un, by rw [r0], by simp, inferInstance, inferInstance, inferInstance, inferInstance, inferInstance, inferInstance, .inl rfl, ?_⟩
    rw [f0, k0]
    rfl
  obtain ⟨δ', t, b', hw, ⟨R, od, u3, u8, u10, u11, u12, u13, u14, _, _, f3, f8, f10, f11, f12, f13, f14, rfl⟩, hfin⟩ := lo_run S hn hm hh hx hc0 hT hT2 T 0 _ (by omega) L0
  rw [hfin] at hw
  have main : ∃ δ9, i_log_of [.fz hd, .fz (ppD m xs), .un, .un, .un, .un, .un, .un, .un, .un, .un, .un, .un, .un, .un] = some (.rt (.list ((List.range n).map fun k => .list (lgR m cA gA k))) δ9) := by
    refine ⟨[.fz hd, .fz (ppD m xs), .fz (.list (List.replicate n (routeD m))), u3, .un, .fz (.list ((List.range n).map fun k => .list (lgR m cA gA k))), .fz (staD m cA gA dl t (fun s => stT n cA gA s t) R od), .fz (.int (kn n cA t : Nat)), u8, .un, u10, u11, u12, u13, .un], ?_⟩
    unfold i_log_of
    refine (xSeq_eq (δ1 := [.fz hd, .fz (ppD m xs), .fz (.list (List.replicate n (routeD m))), .un, .un, .un, .un, .un, .un, .un, .un, .un, .un, .un, .un]) (xSet_eq (sFz_eq hR) put_c2)).trans ?_
    refine (xSeq_eq (δ1 := [.fz hd, .fz (ppD m xs), .fz (.list (List.replicate n (routeD m))), .un, .un, .ow2 ((List.range n).map fun _ => []), .fz (staD m cA gA dl 0 (fun s => stT n cA gA s 0) [] []), .fz (.int 0), .un, .un, .un, .un, .un, .un, .un]) (by simp only [xPar, rLL, rF, rNil, hF, sCall, sA1, sA0, sV, sC, List.getElem?_cons_succ, List.getElem?_cons_zero, hN, puts, put_c5, put_c6, put_c7])).trans ?_
    refine (xSeq_eq hw).trans ?_
    have na : noAl [.fz hd, .fz (ppD m xs), .fz (.list (List.replicate n (routeD m))), u3, .un, .ow2 ((List.range n).map fun k => (List.range m).map (pg cA gA k)), .fz (staD m cA gA dl t (fun s => stT n cA gA s t) R od), .fz (.int (kn n cA t : Nat)), u8, .un, u10, u11, u12, u13, .un] 5 = true := by
      rcases f3.ok with rfl | ⟨_, rfl⟩ <;> rcases f8.ok with rfl | ⟨_, rfl⟩ <;> rcases f10.ok with rfl | ⟨_, rfl⟩ <;> rcases f11.ok with rfl | ⟨_, rfl⟩ <;> rcases f12.ok with rfl | ⟨_, rfl⟩ <;> rcases f13.ok with rfl | ⟨_, rfl⟩ <;> rfl
    have em : ((List.range n).map fun k => (List.range m).map (pg cA gA k)).map PyData.list = (List.range n).map fun k => .list (lgR m cA gA k) := by rw [List.map_map]; rfl
    have fin : (xUn 14 (xIce 5 (xRet (sV 5)))) [.fz hd, .fz (ppD m xs), .fz (.list (List.replicate n (routeD m))), u3, .un, .ow2 ((List.range n).map fun k => (List.range m).map (pg cA gA k)), .fz (staD m cA gA dl t (fun s => stT n cA gA s t) R od), .fz (.int (kn n cA t : Nat)), u8, .un, u10, u11, u12, u13, .un] =
        some (.rt (.list ((List.range n).map fun k => .list (lgR m cA gA k))) [.fz hd, .fz (ppD m xs), .fz (.list (List.replicate n (routeD m))), u3, .un, .fz (.list ((List.range n).map fun k => .list (lgR m cA gA k))), .fz (staD m cA gA dl t (fun s => stT n cA gA s t) R od), .fz (.int (kn n cA t : Nat)), u8, .un, u10, u11, u12, u13, .un]) := by
      simp only [xUn, put_c14, xIce, ice, List.getElem?_cons_succ, List.getElem?_cons_zero, na, if_true, List.set_cons_succ, List.set_cons_zero, em, xRet, sV]
    rcases f14 with rfl | ⟨j, rfl⟩
    · exact fin
    · exact fin
  obtain ⟨δ9, main⟩ := main
  show (if ([hd, ppD m xs] : List PyData).length = 2 then (match i_log_of [.fz hd, .fz (ppD m xs), .un, .un, .un, .un, .un, .un, .un, .un, .un, .un, .un, .un, .un] with | some (.rt d _) => some d | some (.rl ds _) => some (.list ds) | some (.nx _) => some .none | _ => none) else none) = _
  rw [main]
  rfl
end
end L95

end
section
set_option Elab.async false
set_option linter.all false
set_option maxRecDepth 100000
/-! Riders on the path of a row. -/
namespace L95
open PySem PySem.Spec PyProof.Rows L2 Fw Pl
def rAt (rows : List Rw) (s : Nat) : Rw := rows.getD s (1, 1)
def cS (rows : List Rw) (xs : List Int) (s k : Nat) : Int := (outsF (rows.take s) xs).getD k 0
def gS (rows : List Rw) (xs : List Int) (s k : Nat) : Int := (goes (rAt rows s).2 (outsF (rows.take s) xs)).getD k 0
theorem rAt_some {rows : List Rw} {s : Nat} (h : s < rows.length) : rows[s]? = some (rAt rows s) ∧ rAt rows s ∈ rows := by
  have e : rows[s]? = some (rAt rows s) := by unfold rAt; rw [List.getD_eq_getElem?_getD, List.getElem?_eq_getElem h]; rfl
  exact ⟨e, List.mem_of_getElem? e⟩
theorem take_pos {rows : List Rw} (hr : RowOk rows) (s : Nat) : ∀ r ∈ rows.take s, 1 ≤ r.1 ∧ 1 ≤ r.2 := fun r m => row_pos hr r (List.mem_of_mem_take m)
theorem sch {rows : List Rw} (hr : RowOk rows) {xs : List Int} (hx : Srt xs) : Sch xs.length rows.length (cS rows xs) (gS rows xs) (fun s => (rAt rows s).1) (fun s => (rAt rows s).2) := by
  have ok : ∀ s, Srt (outsF (rows.take s) xs) ∧ (outsF (rows.take s) xs).length = xs.length := fun s => outsF_ok _ _ (take_pos hr s) hx
  have rp : ∀ s, s < rows.length → 1 ≤ (rAt rows s).1 ∧ 1 ≤ (rAt rows s).2 := fun s hs => row_pos hr _ (rAt_some hs).2
  have gd : ∀ s, s < rows.length → Gd (rAt rows s).2 (outsF (rows.take s) xs) (goes (rAt rows s).2 (outsF (rows.take s) xs)) := fun s hs => gd_goes (rp s hs).2 _ (ok s).1
  have cat : ∀ s k, k < xs.length → (outsF (rows.take s) xs)[k]? = some (cS rows xs s k) := fun s k hk => getD_at (by rw [(ok s).2]; exact hk)
  have gat : ∀ s k, k < xs.length → (goes (rAt rows s).2 (outsF (rows.take s) xs))[k]? = some (gS rows xs s k) := fun s k hk => getD_at (by rw [goes_len, (ok s).2]; exact hk)
  refine ⟨fun s hs => (rp s hs).1, fun s k hs hk => (gd s hs).ge k _ _ (cat s k hk) (gat s k hk), fun s k hs hk => ?_, fun s i j hs hij hj => ?_, fun s k hs hk => ?_, fun s t hs => ?_⟩
  · have e := outsF_take (xs := xs) (rAt_some hs).1
    have a := cat (s + 1) k hk
    rw [e] at a
    unfold stg at a
    rw [List.getElem?_map, gat s k hk] at a
    exact (Option.some.inj a).symm
  · have a := cat s i (by omega)
    have b := cat s j hj
    obtain ⟨h1, e1⟩ := List.getElem?_eq_some_iff.mp a
    obtain ⟨h2, e2⟩ := List.getElem?_eq_some_iff.mp b
    have := List.pairwise_iff_getElem.mp (ok s).1.srt i j h1 h2 hij
    rw [e1, e2] at this
    exact this
  · exact (ok s).1.pos _ (List.mem_of_getElem? (cat s k hk))
  · have := first_go (rp s hs).2 (ok s).1 (gd s hs) t
    rw [(ok s).2] at this
    exact this
theorem cS_0 {rows : List Rw} {xs : List Int} : ∀ k, k < xs.length → xs[k]? = some (cS rows xs 0 k) := fun k hk => getD_at (xs := xs) hk
theorem cS_m {rows : List Rw} (hr : RowOk rows) {xs : List Int} (hx : Srt xs) : (List.range xs.length).map (cS rows xs rows.length) = outsF rows xs := by
  have ok := outsF_ok rows xs (row_pos hr) hx
  apply List.ext_getElem?
  intro k
  by_cases hk : k < xs.length
  · rw [List.getElem?_map, List.getElem?_range hk]
    have : cS rows xs rows.length k = (outsF rows xs).getD k 0 := by unfold cS; rw [List.take_length]
    show some (cS rows xs rows.length k) = _
    rw [this, getD_at (by rw [ok.2]; exact hk)]
  · rw [List.getElem?_eq_none (by simp; omega), List.getElem?_eq_none (by rw [ok.2]; omega)]
theorem logF_at : ∀ {rows : List Rw} {xs : List Int} {s : Nat}, s < rows.length → (logF rows xs)[s]? = some (outsF (rows.take s) xs, goes (rAt rows s).2 (outsF (rows.take s) xs))
  | r :: rows, xs, 0, _ => rfl
  | r :: rows, xs, s + 1, h => by
    have := logF_at (rows := rows) (xs := stg xs r) (s := s) (by simpa using h)
    show (logF rows (stg xs r))[s]? = _
    rw [this]
    rfl
theorem wtF_eq (rows : List Rw) (xs : List Int) (k : Nat) : wtF rows xs k = (List.range rows.length).map fun s => gS rows xs s k - cS rows xs s k := by
  unfold wtF
  apply List.ext_getElem?
  intro s
  by_cases hs : s < rows.length
  · rw [List.getElem?_map, logF_at hs, List.getElem?_map, List.getElem?_range hs]
    rfl
  · rw [List.getElem?_eq_none (by rw [List.length_map, logF_len]; omega), List.getElem?_eq_none (by simp; omega)]
theorem hall_hl {rows : List Rw} : Hl (hallD rows) rows.length (fun s => (rAt rows s).1) (fun s => (rAt rows s).2) := by
  refine ⟨stsD 0 rows, ix_t1, fun s hs => ix_tup ?_⟩
  have := stsD_get (k := 0) (rAt_some hs).1
  rw [Nat.zero_add] at this
  exact this
/-- no comes beyond T -/
theorem cS_lt {rows : List Rw} (hr : RowOk rows) {xs : List Int} (hx : Srt xs) {a : Int} (ha0 : 0 ≤ a) (ha : ∀ (k : Nat) (x : Int), xs[k]? = some x → x ≤ a + k) : ∀ s, s ≤ rows.length → ∀ (k : Nat) (w : Int), (outsF (rows.take s) xs)[k]? = some w → w ≤ a + 6 * s + k
  | 0, _, k, w, h => by
    have := ha k w h
    simpa using this
  | s + 1, hs, k, w, h => by
    have hs' : s < rows.length := by omega
    have ih := cS_lt hr hx ha0 ha s (by omega)
    have rr := hr.ok _ (rAt_some hs').2
    rw [outsF_take (rAt_some hs').1] at h
    unfold stg at h
    rw [List.getElem?_map] at h
    cases q : (goes (rAt rows s).2 (outsF (rows.take s) xs))[k]? with
    | none => rw [q] at h; cases h
    | some g =>
      rw [q] at h
      have e : g + (rAt rows s).1 = w := Option.some.inj h
      have := goes_le (c := (rAt rows s).2) (by omega) (a := a + 6 * s) (by omega) _ ih k g q
      push_cast
      omega
theorem rides_of_ok {rows : List Rw} (hr : RowOk rows) {xs : List Int} (hx : Srt xs) (hn : xs.length ≤ 40) (hb : ∀ x ∈ xs, x ≤ 1000) : d_rides_of [hallD rows, ppD rows.length xs] = some (.tuple ((List.range xs.length).map fun k => .tuple (lgR rows.length (cS rows xs) (gS rows xs) k))) := by
  have S := sch hr hx
  have few := hr.few
  have hT : ∀ s k, s ≤ rows.length → k < xs.length → cS rows xs s k < ((2000 : Nat) : Int) := fun s k hs hk => by
    have ok := outsF_ok (rows.take s) xs (take_pos hr s) hx
    have := cS_lt hr hx (a := 1000) (by omega) (fun k x h => by have := hb x (List.mem_of_getElem? h); omega) s hs k _ (getD_at (by rw [ok.2]; exact hk))
    show (outsF (rows.take s) xs).getD k 0 < _
    omega
  have hlog := log_of_ok S hn few hall_hl ix_t1 (stsD_len rows 0) rfl cS_0 hT (by omega)
  have hL := sLc_map (vs := [2]) (it := wIx (sCall d_log_of (sA1 (sV 0) (sA1 (sV 1) sA0)))) (p := gN 2) (e := sCall tupleR (sA1 (sV 2) sA0)) (δ0 := [.fz (hallD rows), .fz (ppD rows.length xs), .un]) (δ1 := [.fz (hallD rows), .fz (ppD rows.length xs), .un])
    (as := List.range xs.length) (enc := fun k => .list (lgR rows.length (cS rows xs) (gS rows xs) k)) (fun k => .tuple (lgR rows.length (cS rows xs) (gS rows xs) k)) (by
      have := hlog
      simp only [hallD] at this
      simp only [wIx, sCall, sA1, sA0, sV, List.getElem?_cons_succ, List.getElem?_cons_zero, hallD, this, itD]) rfl
    (fun k mk => ⟨[.fz (hallD rows), .fz (ppD rows.length xs), .fz (.list (lgR rows.length (cS rows xs) (gS rows xs) k))], by simp [xRet, xRetL, xSeq, xSet, xSetL, xIf, xDrop, xAsg, xNil, xNo, xPar, puts, xApp, xAug, xIce, xUn, s1, s2, sA0, sA1, sCall, sCallL, sCallM, sCallS, sCallSL, sB, sAndT, sOrT, sNotT, sAnd, sOr, sIf, sTup, sLst, sFz, sV, sC, sChain, sLenO, sIxO, sCmpO, sPop, sSl, sRevO, sRevD, rNil, rF, rL, rLL, addR, subR, fdivR, modR, ltR, leR, gtR, geR, isNR, notNR, isNone, len_t, len_l, absR, intR, minR, tupleR, isiR, subTy, tyD, revTR, negR, gN, gT, gCns, Fw.gNil, oN, oS, lstOf, setLst, ice, noAl, sYes, wipeE, idle, put_c0, put_c1, put_c2, put_c3, put_c4, put_c5, put_c6, put_c7, put_c8, put_c9, put_c10, put_c11, put_c12, put_c13, put_c14, put_c15, put_c16, put_c17, put_c18, put_c19, put_c20, put_c21, put_c22, put_c23], by simp [xRet, xRetL, xSeq, xSet, xSetL, xIf, xDrop, xAsg, xNil, xNo, xPar, puts, xApp, xAug, xIce, xUn, s1, s2, sA0, sA1, sCall, sCallL, sCallM, sCallS, sCallSL, sB, sAndT, sOrT, sNotT, sAnd, sOr, sIf, sTup, sLst, sFz, sV, sC, sChain, sLenO, sIxO, sCmpO, sPop, sSl, sRevO, sRevD, rNil, rF, rL, rLL, addR, subR, fdivR, modR, ltR, leR, gtR, geR, isNR, notNR, isNone, len_t, len_l, absR, intR, minR, tupleR, isiR, subTy, tyD, revTR, negR, gN, gT, gCns, Fw.gNil, oN, oS, lstOf, setLst, ice, noAl, sYes, wipeE, idle, put_c0, put_c1, put_c2, put_c3, put_c4, put_c5, put_c6, put_c7, put_c8, put_c9, put_c10, put_c11, put_c12, put_c13, put_c14, put_c15, put_c16, put_c17, put_c18, put_c19, put_c20, put_c21, put_c22, put_c23], by simp [xRet, xRetL, xSeq, xSet, xSetL, xIf, xDrop, xAsg, xNil, xNo, xPar, puts, xApp, xAug, xIce, xUn, s1, s2, sA0, sA1, sCall, sCallL, sCallM, sCallS, sCallSL, sB, sAndT, sOrT, sNotT, sAnd, sOr, sIf, sTup, sLst, sFz, sV, sC, sChain, sLenO, sIxO, sCmpO, sPop, sSl, sRevO, sRevD, rNil, rF, rL, rLL, addR, subR, fdivR, modR, ltR, leR, gtR, geR, isNR, notNR, isNone, len_t, len_l, absR, intR, minR, tupleR, isiR, subTy, tyD, revTR, negR, gN, gT, gCns, Fw.gNil, oN, oS, lstOf, setLst, ice, noAl, sYes, wipeE, idle, put_c0, put_c1, put_c2, put_c3, put_c4, put_c5, put_c6, put_c7, put_c8, put_c9, put_c10, put_c11, put_c12, put_c13, put_c14, put_c15, put_c16, put_c17, put_c18, put_c19, put_c20, put_c21, put_c22, put_c23]⟩)
  simp only [d_rides_of, denF, denM, denS, denSL, uns, List.replicate, List.length_cons, List.length_nil, List.map_cons, List.map_nil, List.cons_append, List.nil_append, if_true, Nat.zero_add, Nat.reduceAdd, reduceIte]
  simp [i_rides_of, hL, xRet, xRetL, xSeq, xSet, xSetL, xIf, xDrop, xAsg, xNil, xNo, xPar, puts, xApp, xAug, xIce, xUn, s1, s2, sA0, sA1, sCall, sCallL, sCallM, sCallS, sCallSL, sB, sAndT, sOrT, sNotT, sAnd, sOr, sIf, sTup, sLst, sFz, sV, sC, sChain, sLenO, sIxO, sCmpO, sPop, sSl, sRevO, sRevD, rNil, rF, rL, rLL, addR, subR, fdivR, modR, ltR, leR, gtR, geR, isNR, notNR, isNone, len_t, len_l, absR, intR, minR, tupleR, isiR, subTy, tyD, revTR, negR, gN, gT, gCns, Fw.gNil, oN, oS, lstOf, setLst, ice, noAl, sYes, wipeE, idle, put_c0, put_c1, put_c2, put_c3, put_c4, put_c5, put_c6, put_c7, put_c8, put_c9, put_c10, put_c11, put_c12, put_c13, put_c14, put_c15, put_c16, put_c17, put_c18, put_c19, put_c20, put_c21, put_c22, put_c23]
theorem rt_last {m : Nat} (h : 1 ≤ m) : ixR (routeD m) (.int (-1)) = some (.int ((m - 1 : Nat) : Int)) := by
  refine ix_tl ?_
  rw [List.getLast?_eq_getElem?, dI_len, rt_len]
  exact dI_get (rt_get (by omega))
theorem outs_of_ok {rows : List Rw} (hr : RowOk rows) {xs : List Int} (hx : Srt xs) (hn : xs.length ≤ 40) (hb : ∀ x ∈ xs, x ≤ 1000) : d_outs_of [hallD rows, ppD rows.length xs] = some (.tuple (dI (outsF rows xs))) := by
  have S := sch hr hx
  have one := hr.one
  have h0 : 0 ≤ sizeLine := Nat.zero_le _
  have hri := rides_of_ok hr hx hn hb
  have hm1 : rows.length - 1 < rows.length := by omega
  let body : FS := (xSeq (xSet 5 (s2 ixR (s2 ixR (sV 3) (sC (.int 1))) (s1 negR (sC (.int 1)))))
    (xApp 2 (s2 addR (s2 ixR (s2 ixR (sV 4) (s1 negR (sC (.int 1)))) (sC (.int 1))) (s2 ixR (s2 ixR (s2 ixR (sV 0) (sC (.int 1))) (sV 5)) (sC (.int 2))))))
  have hF := forL_inv (p := gT 2 (gCns (gN 3) (gCns (gN 4) Fw.gNil))) (body := body) (as := (List.range xs.length).map fun k => pr (peD rows.length (cS rows xs 0 k), .tuple (lgR rows.length (cS rows xs) (gS rows xs) k)))
    (fun i δ => ∃ u3 u4 u5, Fre u3 ∧ Fre u4 ∧ Fre u5 ∧ δ = [.fz (hallD rows), .fz (ppD rows.length xs), .ow (dI ((List.range i).map (cS rows xs rows.length))), u3, u4, u5]) (fun i d δ e ⟨u3, u4, u5, f3, f4, f5, eδ⟩ => by
      subst eδ
      rw [List.getElem?_map] at e
      have hi : i < xs.length := by
        by_cases q : i < xs.length
        · exact q
        · rw [List.getElem?_eq_none (by simp; omega)] at e; cases e
      rw [List.getElem?_range hi] at e
      have e : d = pr (peD rows.length (cS rows xs 0 i), .tuple (lgR rows.length (cS rows xs) (gS rows xs) i)) := (Option.some.inj e).symm
      subst e
      have lz : (dI ((List.range i).map (cS rows xs rows.length))).length < sizeLine := by rw [dI_len, List.length_map, List.length_range]; exact small (by omega)
      have e1 : ixR (peD rows.length (cS rows xs 0 i)) (.int 1) = some (routeD rows.length) := ix_t1
      have e2 := rt_last one
      have e3 : ixR (.tuple (lgR rows.length (cS rows xs) (gS rows xs) i)) (.int (-1)) = some (pg (cS rows xs) (gS rows xs) i (rows.length - 1)) := by
        refine ix_tl ?_
        unfold lgR
        rw [List.getLast?_eq_getElem?, List.length_map, List.length_range, List.getElem?_map, List.getElem?_range hm1]
        rfl
      have e4 : ixR (pg (cS rows xs) (gS rows xs) i (rows.length - 1)) (.int 1) = some (.int (gS rows xs (rows.length - 1) i)) := ix_t1
      obtain ⟨st, h1, h2⟩ := (hall_hl (rows := rows)).ex
      have e5 := h2 (rows.length - 1) hm1
      have e6 : ixR (.tuple [.int ((rows.length - 1 : Nat) : Int), .int (((rows.length - 1 : Nat) : Int) + 1), .int (rAt rows (rows.length - 1)).1, .int (rAt rows (rows.length - 1)).2]) (.int 2) = some (.int (rAt rows (rows.length - 1)).1) := ix_t2
      have e7 := S.nxt (rows.length - 1) i hm1 hi
      rw [show rows.length - 1 + 1 = rows.length by omega] at e7
      have hneg : negR (.int 1) = some (.int (-1)) := rfl
      refine ⟨[.fz (hallD rows), .fz (ppD rows.length xs), .ow (dI ((List.range i).map (cS rows xs rows.length))), .fz (peD rows.length (cS rows xs 0 i)), .fz (.tuple (lgR rows.length (cS rows xs) (gS rows xs) i)), u5], _, by simp [pr, xRet, xRetL, xSeq, xSet, xSetL, xIf, xDrop, xAsg, xNil, xNo, xPar, puts, xApp, xAug, xIce, xUn, s1, s2, sA0, sA1, sCall, sCallL, sCallM, sCallS, sCallSL, sB, sAndT, sOrT, sNotT, sAnd, sOr, sIf, sTup, sLst, sFz, sV, sC, sChain, sLenO, sIxO, sCmpO, sPop, sSl, sRevO, sRevD, rNil, rF, rL, rLL, addR, subR, fdivR, modR, ltR, leR, gtR, geR, isNR, notNR, isNone, len_t, len_l, absR, intR, minR, tupleR, isiR, subTy, tyD, revTR, negR, gN, gT, gCns, Fw.gNil, oN, oS, lstOf, setLst, ice, noAl, sYes, wipeE, idle, put_c0, put_c1, put_c2, put_c3, put_c4, put_c5, put_c6, put_c7, put_c8, put_c9, put_c10, put_c11, put_c12, put_c13, put_c14, put_c15, put_c16, put_c17, put_c18, put_c19, put_c20, put_c21, put_c22, put_c23], ?_, .fz (peD rows.length (cS rows xs 0 i)), .fz (.tuple (lgR rows.length (cS rows xs) (gS rows xs) i)), .fz (.int ((rows.length - 1 : Nat) : Int)), inferInstance, inferInstance, inferInstance, rfl⟩
      refine (xSeq_eq (δ1 := [.fz (hallD rows), .fz (ppD rows.length xs), .ow (dI ((List.range i).map (cS rows xs rows.length))), .fz (peD rows.length (cS rows xs 0 i)), .fz (.tuple (lgR rows.length (cS rows xs) (gS rows xs) i)), .fz (.int ((rows.length - 1 : Nat) : Int))]) (xSet_eq (δ1 := [.fz (hallD rows), .fz (ppD rows.length xs), .ow (dI ((List.range i).map (cS rows xs rows.length))), .fz (peD rows.length (cS rows xs 0 i)), .fz (.tuple (lgR rows.length (cS rows xs) (gS rows xs) i)), u5]) (by simp only [s2, s1, sV, sC, List.getElem?_cons_succ, List.getElem?_cons_zero, e1, hneg, e2]) put_c5)).trans ?_
      have enew : dI ((List.range i).map (cS rows xs rows.length)) ++ [.int (gS rows xs (rows.length - 1) i + (rAt rows (rows.length - 1)).1)] = dI ((List.range (i + 1)).map (cS rows xs rows.length)) := by
        rw [dI_snoc, List.range_succ, List.map_append, ← e7]; rfl
      simp only [xApp, lstOf, s2, s1, sV, sC, List.getElem?_cons_succ, List.getElem?_cons_zero, hneg, e3, e4, h1, e5, e6, addR, if_pos lz, setLst, List.set_cons_succ, List.set_cons_zero, enew]) (δ := [.fz (hallD rows), .fz (ppD rows.length xs), .ow [], .un, .un, .un]) ⟨.un, .un, .un, inferInstance, inferInstance, inferInstance, rfl⟩
  obtain ⟨δ', f1, u3, u4, u5, f3, f4, f5, rfl⟩ := hF
  rw [List.length_map, List.length_range, cS_m hr hx] at f1
  have hz : zipD (xs.map (peD rows.length)) ((List.range xs.length).map fun k => .tuple (lgR rows.length (cS rows xs) (gS rows xs) k)) = (List.range xs.length).map fun k => pr (peD rows.length (cS rows xs 0 k), .tuple (lgR rows.length (cS rows xs) (gS rows xs) k)) := by
    rw [zipD_zip]
    apply List.ext_getElem?
    intro k
    by_cases hk : k < xs.length
    · rw [List.getElem?_map, List.getElem?_map, List.getElem?_range hk, List.getElem?_zip_eq_some (z := (peD rows.length (cS rows xs 0 k), .tuple (lgR rows.length (cS rows xs) (gS rows xs) k))) |>.mpr ⟨by rw [List.getElem?_map, cS_0 (rows := rows) k hk]; rfl, by rw [List.getElem?_map, List.getElem?_range hk]; rfl⟩]
      rfl
    · rw [List.getElem?_eq_none (by simp; omega), List.getElem?_eq_none (by simp; omega)]
  have hI : wZip (sA1 (sV 1) (sA1 (sCall d_rides_of (sA1 (sV 0) (sA1 (sV 1) sA0))) sA0)) [.fz (hallD rows), .fz (ppD rows.length xs), .ow [], .un, .un, .un] = some ((List.range xs.length).map fun k => pr (peD rows.length (cS rows xs 0 k), .tuple (lgR rows.length (cS rows xs) (gS rows xs) k)), [.fz (hallD rows), .fz (ppD rows.length xs), .ow [], .un, .un, .un]) := by
    rw [← hz]
    have ip : itD (ppD rows.length xs) = some (xs.map (peD rows.length)) := rfl
    have iq : ∀ ds : List PyData, itD (.tuple ds) = some ds := fun _ => rfl
    simp only [wZip, sCall, sA1, sA0, sV, List.getElem?_cons_succ, List.getElem?_cons_zero, hri, ip, iq]
  have main : ∃ δ9, i_outs_of [.fz (hallD rows), .fz (ppD rows.length xs), .un, .un, .un, .un] = some (.rt (.tuple (dI (outsF rows xs))) δ9) := by
    refine ⟨[.fz (hallD rows), .fz (ppD rows.length xs), .fz (.list (dI (outsF rows xs))), u3, u4, u5], ?_⟩
    unfold i_outs_of
    refine (xSeq_eq (δ1 := [.fz (hallD rows), .fz (ppD rows.length xs), .ow [], .un, .un, .un]) (by simp [h0, xRet, xRetL, xSeq, xSet, xSetL, xIf, xDrop, xAsg, xNil, xNo, xPar, puts, xApp, xAug, xIce, xUn, s1, s2, sA0, sA1, sCall, sCallL, sCallM, sCallS, sCallSL, sB, sAndT, sOrT, sNotT, sAnd, sOr, sIf, sTup, sLst, sFz, sV, sC, sChain, sLenO, sIxO, sCmpO, sPop, sSl, sRevO, sRevD, rNil, rF, rL, rLL, addR, subR, fdivR, modR, ltR, leR, gtR, geR, isNR, notNR, isNone, len_t, len_l, absR, intR, minR, tupleR, isiR, subTy, tyD, revTR, negR, gN, gT, gCns, Fw.gNil, oN, oS, lstOf, setLst, ice, noAl, sYes, wipeE, idle, put_c0, put_c1, put_c2, put_c3, put_c4, put_c5, put_c6, put_c7, put_c8, put_c9, put_c10, put_c11, put_c12, put_c13, put_c14, put_c15, put_c16, put_c17, put_c18, put_c19, put_c20, put_c21, put_c22, put_c23])).trans ?_
    refine (xSeq_eq (δ1 := [.fz (hallD rows), .fz (ppD rows.length xs), .ow (dI (outsF rows xs)), u3, u4, u5]) (by unfold xFor; rw [hI]; exact f1)).trans ?_
    simp [xRet, xRetL, xSeq, xSet, xSetL, xIf, xDrop, xAsg, xNil, xNo, xPar, puts, xApp, xAug, xIce, xUn, s1, s2, sA0, sA1, sCall, sCallL, sCallM, sCallS, sCallSL, sB, sAndT, sOrT, sNotT, sAnd, sOr, sIf, sTup, sLst, sFz, sV, sC, sChain, sLenO, sIxO, sCmpO, sPop, sSl, sRevO, sRevD, rNil, rF, rL, rLL, addR, subR, fdivR, modR, ltR, leR, gtR, geR, isNR, notNR, isNone, len_t, len_l, absR, intR, minR, tupleR, isiR, subTy, tyD, revTR, negR, gN, gT, gCns, Fw.gNil, oN, oS, lstOf, setLst, ice, noAl, sYes, wipeE, idle, put_c0, put_c1, put_c2, put_c3, put_c4, put_c5, put_c6, put_c7, put_c8, put_c9, put_c10, put_c11, put_c12, put_c13, put_c14, put_c15, put_c16, put_c17, put_c18, put_c19, put_c20, put_c21, put_c22, put_c23]
  obtain ⟨δ9, main⟩ := main
  show (if ([hallD rows, ppD rows.length xs] : List PyData).length = 2 then (match i_outs_of [.fz (hallD rows), .fz (ppD rows.length xs), .un, .un, .un, .un] with | some (.rt d _) => some d | some (.rl ds _) => some (.list ds) | some (.nx _) => some .none | _ => none) else none) = _
  rw [main]
  rfl
end L95

end
section
set_option Elab.async false
set_option linter.all false
set_option maxRecDepth 100000
/-! Riders on the path of a row: what is told of them. -/
namespace L95
open PySem PySem.Spec PyProof.Rows L2 Fw Pl
theorem are_people_ok {rows : List Rw} (hr : RowOk rows) {xs : List Int} (hx : Srt xs) (hn : xs.length ≤ 40) (hb : ∀ x ∈ xs, x ≤ 40) : d_are_people [hallD rows, ppD rows.length xs] = some (.bool true) := by
  have hh := need_hall_ok hr
  have ht : d_is_tuple [ppD rows.length xs, .int 0, .int 40] = some (.bool true) := is_tuple_ok (ds := xs.map (peD rows.length)) (lo := 0) (hi := 40) (Int.natCast_nonneg _) (by rw [List.length_map]; omega)
  have hF := forL_inv (p := gN 2) (body := (xIf (sOrT (sNotT (sB (sCall d_is_tuple (sA1 (sV 2) (sA1 (sC (.int 2)) (sA1 (sC (.int 2)) sA0)))))) (sOrT (sNotT (sB (sCall d_is_between (sA1 (s2 ixR (sV 2) (sC (.int 0))) (sA1 (sC (.int 0)) (sA1 (sC (.int 40)) sA0)))))) (sNotT (sB (sCall d_is_route (sA1 (sV 0) (sA1 (s2 ixR (sV 2) (sC (.int 1))) sA0))))))) (xRet (sC (.bool false))) xNil))
    (as := xs.map (peD rows.length)) (fun _ δ => ∃ u, Fre u ∧ δ = [.fz (hallD rows), .fz (ppD rows.length xs), u]) (fun i d δ e ⟨u, fu, eδ⟩ => by
      subst eδ
      rw [List.getElem?_map] at e
      cases q : xs[i]? with
      | none => rw [q] at e; cases e
      | some x =>
        rw [q] at e
        have e : d = peD rows.length x := (Option.some.inj e).symm
        subst e
        have mx := List.mem_of_getElem? q
        have t2 := is_tuple_ok (ds := [.int x, routeD rows.length]) (lo := 2) (hi := 2) (by simp) (by simp)
        have b1 := is_between_ok (v := x) (lo := 0) (hi := 40) (hx.pos x mx) (hb x mx)
        have b2 := is_route_ok hr
        exact ⟨[.fz (hallD rows), .fz (ppD rows.length xs), .fz (peD rows.length x)], [.fz (hallD rows), .fz (ppD rows.length xs), .fz (peD rows.length x)], by simp [xRet, xRetL, xSeq, xSet, xSetL, xIf, xDrop, xAsg, xNil, xNo, xPar, puts, xApp, xAug, xIce, xUn, s1, s2, sA0, sA1, sCall, sCallL, sCallM, sCallS, sCallSL, sB, sAndT, sOrT, sNotT, sAnd, sOr, sIf, sTup, sLst, sFz, sV, sC, sChain, sLenO, sIxO, sCmpO, sPop, sSl, sRevO, sRevD, rNil, rF, rL, rLL, addR, subR, fdivR, modR, ltR, leR, gtR, geR, isNR, notNR, isNone, len_t, len_l, absR, intR, minR, tupleR, isiR, subTy, tyD, revTR, negR, gN, gT, gCns, Fw.gNil, oN, oS, lstOf, setLst, ice, noAl, sYes, wipeE, idle, put_c0, put_c1, put_c2, put_c3, put_c4, put_c5, put_c6, put_c7, put_c8, put_c9, put_c10, put_c11, put_c12, put_c13, put_c14, put_c15, put_c16, put_c17, put_c18, put_c19, put_c20, put_c21, put_c22, put_c23], by simp [t2, b1, b2, ix_t0, ix_t1, xRet, xRetL, xSeq, xSet, xSetL, xIf, xDrop, xAsg, xNil, xNo, xPar, puts, xApp, xAug, xIce, xUn, s1, s2, sA0, sA1, sCall, sCallL, sCallM, sCallS, sCallSL, sB, sAndT, sOrT, sNotT, sAnd, sOr, sIf, sTup, sLst, sFz, sV, sC, sChain, sLenO, sIxO, sCmpO, sPop, sSl, sRevO, sRevD, rNil, rF, rL, rLL, addR, subR, fdivR, modR, ltR, leR, gtR, geR, isNR, notNR, isNone, len_t, len_l, absR, intR, minR, tupleR, isiR, subTy, tyD, revTR, negR, gN, gT, gCns, Fw.gNil, oN, oS, lstOf, setLst, ice, noAl, sYes, wipeE, idle, put_c0, put_c1, put_c2, put_c3, put_c4, put_c5, put_c6, put_c7, put_c8, put_c9, put_c10, put_c11, put_c12, put_c13, put_c14, put_c15, put_c16, put_c17, put_c18, put_c19, put_c20, put_c21, put_c22, put_c23], _, inferInstance, rfl⟩) (δ := [.fz (hallD rows), .fz (ppD rows.length xs), .un]) ⟨.un, inferInstance, rfl⟩
  obtain ⟨δ', f1, u, fu, rfl⟩ := hF
  have hL := sLc_map (vs := [2]) (it := wIx (sV 1)) (p := gN 2) (e := s2 ixR (sV 2) (sC (.int 0))) (δ0 := [.fz (hallD rows), .fz (ppD rows.length xs), u]) (δ1 := [.fz (hallD rows), .fz (ppD rows.length xs), u])
    (as := xs) (enc := peD rows.length) (fun x => .int x) (by simp [ppD, xRet, xRetL, xSeq, xSet, xSetL, xIf, xDrop, xAsg, xNil, xNo, xPar, puts, xApp, xAug, xIce, xUn, s1, s2, sA0, sA1, sCall, sCallL, sCallM, sCallS, sCallSL, sB, sAndT, sOrT, sNotT, sAnd, sOr, sIf, sTup, sLst, sFz, sV, sC, sChain, sLenO, sIxO, sCmpO, sPop, sSl, sRevO, sRevD, rNil, rF, rL, rLL, addR, subR, fdivR, modR, ltR, leR, gtR, geR, isNR, notNR, isNone, len_t, len_l, absR, intR, minR, tupleR, isiR, subTy, tyD, revTR, negR, gN, gT, gCns, Fw.gNil, oN, oS, lstOf, setLst, ice, noAl, sYes, wipeE, idle, put_c0, put_c1, put_c2, put_c3, put_c4, put_c5, put_c6, put_c7, put_c8, put_c9, put_c10, put_c11, put_c12, put_c13, put_c14, put_c15, put_c16, put_c17, put_c18, put_c19, put_c20, put_c21, put_c22, put_c23, wIx, itD]) (by rcases fu.ok with rfl | ⟨d, rfl⟩ <;> rfl) (fun x m => ⟨[.fz (hallD rows), .fz (ppD rows.length xs), .fz (peD rows.length x)], by simp [xRet, xRetL, xSeq, xSet, xSetL, xIf, xDrop, xAsg, xNil, xNo, xPar, puts, xApp, xAug, xIce, xUn, s1, s2, sA0, sA1, sCall, sCallL, sCallM, sCallS, sCallSL, sB, sAndT, sOrT, sNotT, sAnd, sOr, sIf, sTup, sLst, sFz, sV, sC, sChain, sLenO, sIxO, sCmpO, sPop, sSl, sRevO, sRevD, rNil, rF, rL, rLL, addR, subR, fdivR, modR, ltR, leR, gtR, geR, isNR, notNR, isNone, len_t, len_l, absR, intR, minR, tupleR, isiR, subTy, tyD, revTR, negR, gN, gT, gCns, Fw.gNil, oN, oS, lstOf, setLst, ice, noAl, sYes, wipeE, idle, put_c0, put_c1, put_c2, put_c3, put_c4, put_c5, put_c6, put_c7, put_c8, put_c9, put_c10, put_c11, put_c12, put_c13, put_c14, put_c15, put_c16, put_c17, put_c18, put_c19, put_c20, put_c21, put_c22, put_c23], by simp [ix_t0, xRet, xRetL, xSeq, xSet, xSetL, xIf, xDrop, xAsg, xNil, xNo, xPar, puts, xApp, xAug, xIce, xUn, s1, s2, sA0, sA1, sCall, sCallL, sCallM, sCallS, sCallSL, sB, sAndT, sOrT, sNotT, sAnd, sOr, sIf, sTup, sLst, sFz, sV, sC, sChain, sLenO, sIxO, sCmpO, sPop, sSl, sRevO, sRevD, rNil, rF, rL, rLL, addR, subR, fdivR, modR, ltR, leR, gtR, geR, isNR, notNR, isNone, len_t, len_l, absR, intR, minR, tupleR, isiR, subTy, tyD, revTR, negR, gN, gT, gCns, Fw.gNil, oN, oS, lstOf, setLst, ice, noAl, sYes, wipeE, idle, put_c0, put_c1, put_c2, put_c3, put_c4, put_c5, put_c6, put_c7, put_c8, put_c9, put_c10, put_c11, put_c12, put_c13, put_c14, put_c15, put_c16, put_c17, put_c18, put_c19, put_c20, put_c21, put_c22, put_c23], by simp [xRet, xRetL, xSeq, xSet, xSetL, xIf, xDrop, xAsg, xNil, xNo, xPar, puts, xApp, xAug, xIce, xUn, s1, s2, sA0, sA1, sCall, sCallL, sCallM, sCallS, sCallSL, sB, sAndT, sOrT, sNotT, sAnd, sOr, sIf, sTup, sLst, sFz, sV, sC, sChain, sLenO, sIxO, sCmpO, sPop, sSl, sRevO, sRevD, rNil, rF, rL, rLL, addR, subR, fdivR, modR, ltR, leR, gtR, geR, isNR, notNR, isNone, len_t, len_l, absR, intR, minR, tupleR, isiR, subTy, tyD, revTR, negR, gN, gT, gCns, Fw.gNil, oN, oS, lstOf, setLst, ice, noAl, sYes, wipeE, idle, put_c0, put_c1, put_c2, put_c3, put_c4, put_c5, put_c6, put_c7, put_c8, put_c9, put_c10, put_c11, put_c12, put_c13, put_c14, put_c15, put_c16, put_c17, put_c18, put_c19, put_c20, put_c21, put_c22, put_c23]⟩)
  have eL : xs.map (fun x => PyData.int x) = dI xs := rfl
  rw [eL] at hL
  have hI : wIx (sV 1) [.fz (hallD rows), .fz (ppD rows.length xs), .un] = some (xs.map (peD rows.length), [.fz (hallD rows), .fz (ppD rows.length xs), .un]) := by simp [ppD, xRet, xRetL, xSeq, xSet, xSetL, xIf, xDrop, xAsg, xNil, xNo, xPar, puts, xApp, xAug, xIce, xUn, s1, s2, sA0, sA1, sCall, sCallL, sCallM, sCallS, sCallSL, sB, sAndT, sOrT, sNotT, sAnd, sOr, sIf, sTup, sLst, sFz, sV, sC, sChain, sLenO, sIxO, sCmpO, sPop, sSl, sRevO, sRevD, rNil, rF, rL, rLL, addR, subR, fdivR, modR, ltR, leR, gtR, geR, isNR, notNR, isNone, len_t, len_l, absR, intR, minR, tupleR, isiR, subTy, tyD, revTR, negR, gN, gT, gCns, Fw.gNil, oN, oS, lstOf, setLst, ice, noAl, sYes, wipeE, idle, put_c0, put_c1, put_c2, put_c3, put_c4, put_c5, put_c6, put_c7, put_c8, put_c9, put_c10, put_c11, put_c12, put_c13, put_c14, put_c15, put_c16, put_c17, put_c18, put_c19, put_c20, put_c21, put_c22, put_c23, wIx, itD]
  simp only [d_are_people, denF, denM, denS, denSL, uns, List.replicate, List.length_cons, List.length_nil, List.map_cons, List.map_nil, List.cons_append, List.nil_append, if_true, Nat.zero_add, Nat.reduceAdd, reduceIte]
  simp [i_are_people, xFor, hh, ht, hI, f1, hL, is_level_lst hx.srt, xRet, xRetL, xSeq, xSet, xSetL, xIf, xDrop, xAsg, xNil, xNo, xPar, puts, xApp, xAug, xIce, xUn, s1, s2, sA0, sA1, sCall, sCallL, sCallM, sCallS, sCallSL, sB, sAndT, sOrT, sNotT, sAnd, sOr, sIf, sTup, sLst, sFz, sV, sC, sChain, sLenO, sIxO, sCmpO, sPop, sSl, sRevO, sRevD, rNil, rF, rL, rLL, addR, subR, fdivR, modR, ltR, leR, gtR, geR, isNR, notNR, isNone, len_t, len_l, absR, intR, minR, tupleR, isiR, subTy, tyD, revTR, negR, gN, gT, gCns, Fw.gNil, oN, oS, lstOf, setLst, ice, noAl, sYes, wipeE, idle, put_c0, put_c1, put_c2, put_c3, put_c4, put_c5, put_c6, put_c7, put_c8, put_c9, put_c10, put_c11, put_c12, put_c13, put_c14, put_c15, put_c16, put_c17, put_c18, put_c19, put_c20, put_c21, put_c22, put_c23]
theorem need_people_ok {rows : List Rw} (hr : RowOk rows) {xs : List Int} (hx : Srt xs) (hn : xs.length ≤ 40) (hb : ∀ x ∈ xs, x ≤ 40) : d_need_people [hallD rows, ppD rows.length xs] = some .none := by
  have := are_people_ok hr hx hn hb
  simp only [d_need_people, denF, denM, denS, denSL, uns, List.replicate, List.length_cons, List.length_nil, List.map_cons, List.map_nil, List.cons_append, List.nil_append, if_true, Nat.zero_add, Nat.reduceAdd, reduceIte]
  simp [i_need_people, this, xRet, xRetL, xSeq, xSet, xSetL, xIf, xDrop, xAsg, xNil, xNo, xPar, puts, xApp, xAug, xIce, xUn, s1, s2, sA0, sA1, sCall, sCallL, sCallM, sCallS, sCallSL, sB, sAndT, sOrT, sNotT, sAnd, sOr, sIf, sTup, sLst, sFz, sV, sC, sChain, sLenO, sIxO, sCmpO, sPop, sSl, sRevO, sRevD, rNil, rF, rL, rLL, addR, subR, fdivR, modR, ltR, leR, gtR, geR, isNR, notNR, isNone, len_t, len_l, absR, intR, minR, tupleR, isiR, subTy, tyD, revTR, negR, gN, gT, gCns, Fw.gNil, oN, oS, lstOf, setLst, ice, noAl, sYes, wipeE, idle, put_c0, put_c1, put_c2, put_c3, put_c4, put_c5, put_c6, put_c7, put_c8, put_c9, put_c10, put_c11, put_c12, put_c13, put_c14, put_c15, put_c16, put_c17, put_c18, put_c19, put_c20, put_c21, put_c22, put_c23]
theorem out_ticks_ok {rows : List Rw} (hr : RowOk rows) {xs : List Int} (hx : Srt xs) (hn : xs.length ≤ 40) (hb : ∀ x ∈ xs, x ≤ 40) : d_out_ticks [hallD rows, ppD rows.length xs] = some (.tuple (dI (outsF rows xs))) := by
  have h1 := need_people_ok hr hx hn hb
  have h2 := outs_of_ok hr hx hn fun x m => by have := hb x m; omega
  simp only [d_out_ticks, denF, denM, denS, denSL, uns, List.replicate, List.length_cons, List.length_nil, List.map_cons, List.map_nil, List.cons_append, List.nil_append, if_true, Nat.zero_add, Nat.reduceAdd, reduceIte]
  simp [i_out_ticks, h1, h2, xRet, xRetL, xSeq, xSet, xSetL, xIf, xDrop, xAsg, xNil, xNo, xPar, puts, xApp, xAug, xIce, xUn, s1, s2, sA0, sA1, sCall, sCallL, sCallM, sCallS, sCallSL, sB, sAndT, sOrT, sNotT, sAnd, sOr, sIf, sTup, sLst, sFz, sV, sC, sChain, sLenO, sIxO, sCmpO, sPop, sSl, sRevO, sRevD, rNil, rF, rL, rLL, addR, subR, fdivR, modR, ltR, leR, gtR, geR, isNR, notNR, isNone, len_t, len_l, absR, intR, minR, tupleR, isiR, subTy, tyD, revTR, negR, gN, gT, gCns, Fw.gNil, oN, oS, lstOf, setLst, ice, noAl, sYes, wipeE, idle, put_c0, put_c1, put_c2, put_c3, put_c4, put_c5, put_c6, put_c7, put_c8, put_c9, put_c10, put_c11, put_c12, put_c13, put_c14, put_c15, put_c16, put_c17, put_c18, put_c19, put_c20, put_c21, put_c22, put_c23]
theorem waits_ok {rows : List Rw} (hr : RowOk rows) {xs : List Int} (hx : Srt xs) (hn : xs.length ≤ 40) (hb : ∀ x ∈ xs, x ≤ 40) : d_waits [hallD rows, ppD rows.length xs] = some (wtD rows xs) := by
  have h1 := need_people_ok hr hx hn hb
  have h2 := rides_of_ok hr hx hn fun x m => by have := hb x m; omega
  have hO := sLc_map (vs := [4]) (it := wIx (sCall d_rides_of (sA1 (sV 0) (sA1 (sV 1) sA0)))) (p := gN 4) (e := sCall tupleR (sA1 (sFz (sLc [2, 3] (wIx (sV 4)) (gT 2 (gCns (gN 2) (gCns (gN 3) Fw.gNil))) sYes (s2 subR (sV 3) (sV 2)))) sA0)) (δ0 := [.fz (hallD rows), .fz (ppD rows.length xs), .un, .un, .un]) (δ1 := [.fz (hallD rows), .fz (ppD rows.length xs), .un, .un, .un])
    (as := List.range xs.length) (enc := fun k => .tuple (lgR rows.length (cS rows xs) (gS rows xs) k)) (fun k => .tuple (dI (wtF rows xs k))) (by
      have iq : ∀ ds : List PyData, itD (.tuple ds) = some ds := fun _ => rfl
      simp only [wIx, sCall, sA1, sA0, sV, List.getElem?_cons_succ, List.getElem?_cons_zero, h2, iq]) rfl (fun k mk => ⟨[.fz (hallD rows), .fz (ppD rows.length xs), .un, .un, .fz (.tuple (lgR rows.length (cS rows xs) (gS rows xs) k))], by simp [xRet, xRetL, xSeq, xSet, xSetL, xIf, xDrop, xAsg, xNil, xNo, xPar, puts, xApp, xAug, xIce, xUn, s1, s2, sA0, sA1, sCall, sCallL, sCallM, sCallS, sCallSL, sB, sAndT, sOrT, sNotT, sAnd, sOr, sIf, sTup, sLst, sFz, sV, sC, sChain, sLenO, sIxO, sCmpO, sPop, sSl, sRevO, sRevD, rNil, rF, rL, rLL, addR, subR, fdivR, modR, ltR, leR, gtR, geR, isNR, notNR, isNone, len_t, len_l, absR, intR, minR, tupleR, isiR, subTy, tyD, revTR, negR, gN, gT, gCns, Fw.gNil, oN, oS, lstOf, setLst, ice, noAl, sYes, wipeE, idle, put_c0, put_c1, put_c2, put_c3, put_c4, put_c5, put_c6, put_c7, put_c8, put_c9, put_c10, put_c11, put_c12, put_c13, put_c14, put_c15, put_c16, put_c17, put_c18, put_c19, put_c20, put_c21, put_c22, put_c23], by
        have hL := sLc_map (vs := [2, 3]) (it := wIx (sV 4)) (p := gT 2 (gCns (gN 2) (gCns (gN 3) Fw.gNil))) (e := s2 subR (sV 3) (sV 2)) (δ0 := [.fz (hallD rows), .fz (ppD rows.length xs), .un, .un, .fz (.tuple (lgR rows.length (cS rows xs) (gS rows xs) k))]) (δ1 := [.fz (hallD rows), .fz (ppD rows.length xs), .un, .un, .fz (.tuple (lgR rows.length (cS rows xs) (gS rows xs) k))])
          (as := List.range rows.length) (enc := pg (cS rows xs) (gS rows xs) k) (fun s => .int (gS rows xs s k - cS rows xs s k)) (by simp [lgR, xRet, xRetL, xSeq, xSet, xSetL, xIf, xDrop, xAsg, xNil, xNo, xPar, puts, xApp, xAug, xIce, xUn, s1, s2, sA0, sA1, sCall, sCallL, sCallM, sCallS, sCallSL, sB, sAndT, sOrT, sNotT, sAnd, sOr, sIf, sTup, sLst, sFz, sV, sC, sChain, sLenO, sIxO, sCmpO, sPop, sSl, sRevO, sRevD, rNil, rF, rL, rLL, addR, subR, fdivR, modR, ltR, leR, gtR, geR, isNR, notNR, isNone, len_t, len_l, absR, intR, minR, tupleR, isiR, subTy, tyD, revTR, negR, gN, gT, gCns, Fw.gNil, oN, oS, lstOf, setLst, ice, noAl, sYes, wipeE, idle, put_c0, put_c1, put_c2, put_c3, put_c4, put_c5, put_c6, put_c7, put_c8, put_c9, put_c10, put_c11, put_c12, put_c13, put_c14, put_c15, put_c16, put_c17, put_c18, put_c19, put_c20, put_c21, put_c22, put_c23, wIx, itD]) rfl (fun s ms => ⟨[.fz (hallD rows), .fz (ppD rows.length xs), .fz (.int (cS rows xs s k)), .fz (.int (gS rows xs s k)), .fz (.tuple (lgR rows.length (cS rows xs) (gS rows xs) k))], by simp [xRet, xRetL, xSeq, xSet, xSetL, xIf, xDrop, xAsg, xNil, xNo, xPar, puts, xApp, xAug, xIce, xUn, s1, s2, sA0, sA1, sCall, sCallL, sCallM, sCallS, sCallSL, sB, sAndT, sOrT, sNotT, sAnd, sOr, sIf, sTup, sLst, sFz, sV, sC, sChain, sLenO, sIxO, sCmpO, sPop, sSl, sRevO, sRevD, rNil, rF, rL, rLL, addR, subR, fdivR, modR, ltR, leR, gtR, geR, isNR, notNR, isNone, len_t, len_l, absR, intR, minR, tupleR, isiR, subTy, tyD, revTR, negR, gN, gT, gCns, Fw.gNil, oN, oS, lstOf, setLst, ice, noAl, sYes, wipeE, idle, put_c0, put_c1, put_c2, put_c3, put_c4, put_c5, put_c6, put_c7, put_c8, put_c9, put_c10, put_c11, put_c12, put_c13, put_c14, put_c15, put_c16, put_c17, put_c18, put_c19, put_c20, put_c21, put_c22, put_c23], by simp [xRet, xRetL, xSeq, xSet, xSetL, xIf, xDrop, xAsg, xNil, xNo, xPar, puts, xApp, xAug, xIce, xUn, s1, s2, sA0, sA1, sCall, sCallL, sCallM, sCallS, sCallSL, sB, sAndT, sOrT, sNotT, sAnd, sOr, sIf, sTup, sLst, sFz, sV, sC, sChain, sLenO, sIxO, sCmpO, sPop, sSl, sRevO, sRevD, rNil, rF, rL, rLL, addR, subR, fdivR, modR, ltR, leR, gtR, geR, isNR, notNR, isNone, len_t, len_l, absR, intR, minR, tupleR, isiR, subTy, tyD, revTR, negR, gN, gT, gCns, Fw.gNil, oN, oS, lstOf, setLst, ice, noAl, sYes, wipeE, idle, put_c0, put_c1, put_c2, put_c3, put_c4, put_c5, put_c6, put_c7, put_c8, put_c9, put_c10, put_c11, put_c12, put_c13, put_c14, put_c15, put_c16, put_c17, put_c18, put_c19, put_c20, put_c21, put_c22, put_c23], by simp [xRet, xRetL, xSeq, xSet, xSetL, xIf, xDrop, xAsg, xNil, xNo, xPar, puts, xApp, xAug, xIce, xUn, s1, s2, sA0, sA1, sCall, sCallL, sCallM, sCallS, sCallSL, sB, sAndT, sOrT, sNotT, sAnd, sOr, sIf, sTup, sLst, sFz, sV, sC, sChain, sLenO, sIxO, sCmpO, sPop, sSl, sRevO, sRevD, rNil, rF, rL, rLL, addR, subR, fdivR, modR, ltR, leR, gtR, geR, isNR, notNR, isNone, len_t, len_l, absR, intR, minR, tupleR, isiR, subTy, tyD, revTR, negR, gN, gT, gCns, Fw.gNil, oN, oS, lstOf, setLst, ice, noAl, sYes, wipeE, idle, put_c0, put_c1, put_c2, put_c3, put_c4, put_c5, put_c6, put_c7, put_c8, put_c9, put_c10, put_c11, put_c12, put_c13, put_c14, put_c15, put_c16, put_c17, put_c18, put_c19, put_c20, put_c21, put_c22, put_c23]⟩)
        have e : ((List.range rows.length).map fun s => PyData.int (gS rows xs s k - cS rows xs s k)) = dI (wtF rows xs k) := by rw [wtF_eq]; unfold dI; rw [List.map_map]; rfl
        rw [e] at hL
        simp [hL, xRet, xRetL, xSeq, xSet, xSetL, xIf, xDrop, xAsg, xNil, xNo, xPar, puts, xApp, xAug, xIce, xUn, s1, s2, sA0, sA1, sCall, sCallL, sCallM, sCallS, sCallSL, sB, sAndT, sOrT, sNotT, sAnd, sOr, sIf, sTup, sLst, sFz, sV, sC, sChain, sLenO, sIxO, sCmpO, sPop, sSl, sRevO, sRevD, rNil, rF, rL, rLL, addR, subR, fdivR, modR, ltR, leR, gtR, geR, isNR, notNR, isNone, len_t, len_l, absR, intR, minR, tupleR, isiR, subTy, tyD, revTR, negR, gN, gT, gCns, Fw.gNil, oN, oS, lstOf, setLst, ice, noAl, sYes, wipeE, idle, put_c0, put_c1, put_c2, put_c3, put_c4, put_c5, put_c6, put_c7, put_c8, put_c9, put_c10, put_c11, put_c12, put_c13, put_c14, put_c15, put_c16, put_c17, put_c18, put_c19, put_c20, put_c21, put_c22, put_c23], by simp [xRet, xRetL, xSeq, xSet, xSetL, xIf, xDrop, xAsg, xNil, xNo, xPar, puts, xApp, xAug, xIce, xUn, s1, s2, sA0, sA1, sCall, sCallL, sCallM, sCallS, sCallSL, sB, sAndT, sOrT, sNotT, sAnd, sOr, sIf, sTup, sLst, sFz, sV, sC, sChain, sLenO, sIxO, sCmpO, sPop, sSl, sRevO, sRevD, rNil, rF, rL, rLL, addR, subR, fdivR, modR, ltR, leR, gtR, geR, isNR, notNR, isNone, len_t, len_l, absR, intR, minR, tupleR, isiR, subTy, tyD, revTR, negR, gN, gT, gCns, Fw.gNil, oN, oS, lstOf, setLst, ice, noAl, sYes, wipeE, idle, put_c0, put_c1, put_c2, put_c3, put_c4, put_c5, put_c6, put_c7, put_c8, put_c9, put_c10, put_c11, put_c12, put_c13, put_c14, put_c15, put_c16, put_c17, put_c18, put_c19, put_c20, put_c21, put_c22, put_c23]⟩)
  have eW : (PyData.tuple ((List.range xs.length).map fun k => .tuple (dI (wtF rows xs k)))) = wtD rows xs := rfl
  simp only [d_waits, denF, denM, denS, denSL, uns, List.replicate, List.length_cons, List.length_nil, List.map_cons, List.map_nil, List.cons_append, List.nil_append, if_true, Nat.zero_add, Nat.reduceAdd, reduceIte]
  simp [i_waits, h1, hO, eW, xRet, xRetL, xSeq, xSet, xSetL, xIf, xDrop, xAsg, xNil, xNo, xPar, puts, xApp, xAug, xIce, xUn, s1, s2, sA0, sA1, sCall, sCallL, sCallM, sCallS, sCallSL, sB, sAndT, sOrT, sNotT, sAnd, sOr, sIf, sTup, sLst, sFz, sV, sC, sChain, sLenO, sIxO, sCmpO, sPop, sSl, sRevO, sRevD, rNil, rF, rL, rLL, addR, subR, fdivR, modR, ltR, leR, gtR, geR, isNR, notNR, isNone, len_t, len_l, absR, intR, minR, tupleR, isiR, subTy, tyD, revTR, negR, gN, gT, gCns, Fw.gNil, oN, oS, lstOf, setLst, ice, noAl, sYes, wipeE, idle, put_c0, put_c1, put_c2, put_c3, put_c4, put_c5, put_c6, put_c7, put_c8, put_c9, put_c10, put_c11, put_c12, put_c13, put_c14, put_c15, put_c16, put_c17, put_c18, put_c19, put_c20, put_c21, put_c22, put_c23]
end L95

end
section
set_option Elab.async false
set_option linter.all false
set_option maxRecDepth 100000
/-! Data small enough to be shown; the drawing of inputs. -/
namespace Fw
open PySem PyProof.Rows
def sm (b : Nat) : Nat → PyData → Prop
  | _, .int i => 0 ≤ i ∧ i < 1000000000
  | n + 1, .list xs => xs.length ≤ b ∧ ∀ x ∈ xs, sm b n x
  | n + 1, .tuple xs => xs.length ≤ b ∧ ∀ x ∈ xs, sm b n x
  | _, _ => False
def wmax (b : Nat) : Nat → Nat
  | 0 => 31
  | n + 1 => b * (wmax b n + 1) + 31
theorem sm_all {b w n : Nat} (ih : ∀ d, sm b n d → d.leavesShort 10 = true ∧ d.showable = true ∧ d.hasDict = false ∧ d.depth ≤ n ∧ d.weight ≤ w) : ∀ xs : List PyData, (∀ x ∈ xs, sm b n x) → PyData.leavesShortAll 10 xs = true ∧ PyData.showableAll xs = true ∧ PyData.hasDictAll xs = false ∧ PyData.depthAll xs ≤ n ∧ PyData.weightAll xs ≤ xs.length * (w + 1)
  | [], _ => ⟨rfl, rfl, rfl, Nat.zero_le _, Nat.zero_le _⟩
  | x :: xs, h => by
    obtain ⟨a1, a2, a3, a4, a5⟩ := ih x (h x (by simp))
    obtain ⟨b1, b2, b3, b4, b5⟩ := sm_all ih xs fun y m => h y (by simp [m])
    refine ⟨?_, ?_, ?_, ?_, ?_⟩
    · simp only [PyData.leavesShortAll, a1, b1, Bool.and_self]
    · simp only [PyData.showableAll, a2, b2, Bool.and_self]
    · simp only [PyData.hasDictAll, a3, b3, Bool.or_self]
    · simp only [PyData.depthAll]; omega
    · simp only [PyData.weightAll, List.length_cons, Nat.succ_mul]; omega
theorem sm_int {i : Int} (h : 0 ≤ i ∧ i < 1000000000) : (PyData.int i).leavesShort 10 = true ∧ (PyData.int i).showable = true ∧ (PyData.int i).hasDict = false ∧ (PyData.int i).depth = 0 ∧ (PyData.int i).weight ≤ 31 := by
  have l : i.natAbs.log2 < 30 := by
    by_cases q : i.natAbs = 0
    · rw [q]; decide
    · exact (Nat.log2_lt q).mpr (Nat.lt_trans (show i.natAbs < 1000000000 by omega) (by decide))
  refine ⟨?_, ?_, rfl, rfl, ?_⟩
  · simp only [PyData.leavesShort, decide_eq_true_eq]
    exact Nat.le_trans (toString_length_le (k := 9) h.1 (by omega) h.2) (by omega)
  · simp only [PyData.showable, decide_eq_true_eq]; omega
  · simp only [PyData.weight]; split <;> omega
theorem sm_ok {b : Nat} : ∀ (n : Nat) (d : PyData), sm b n d → d.leavesShort 10 = true ∧ d.showable = true ∧ d.hasDict = false ∧ d.depth ≤ n ∧ d.weight ≤ wmax b n
  | n, .int i, h => by
    obtain ⟨a, b', c, d, e⟩ := sm_int (by cases n <;> exact h)
    refine ⟨a, b', c, by omega, Nat.le_trans e ?_⟩
    cases n with
    | zero => exact Nat.le_refl _
    | succ n => unfold wmax; omega
  | n + 1, .list xs, h => by
    obtain ⟨a1, a2, a3, a4, a5⟩ := sm_all (sm_ok n) xs h.2
    refine ⟨by simp only [PyData.leavesShort, a1], by simp only [PyData.showable, a2], by simp only [PyData.hasDict, a3], by simp only [PyData.depth]; omega, ?_⟩
    simp only [PyData.weight]
    have := Nat.mul_le_mul_right (wmax b n + 1) h.1
    unfold wmax; omega
  | n + 1, .tuple xs, h => by
    obtain ⟨a1, a2, a3, a4, a5⟩ := sm_all (sm_ok n) xs h.2
    refine ⟨by simp only [PyData.leavesShort, a1], by simp only [PyData.showable, a2], by simp only [PyData.hasDict, a3], by simp only [PyData.depth]; omega, ?_⟩
    simp only [PyData.weight]
    have := Nat.mul_le_mul_right (wmax b n + 1) h.1
    unfold wmax; omega
  | 0, .list _, h => h.elim
  | 0, .tuple _, h => h.elim
  | 0, .none, h => h.elim
  | 0, .bool _, h => h.elim
  | 0, .str _, h => h.elim
  | 0, .dict _, h => h.elim
  | _ + 1, .none, h => h.elim
  | _ + 1, .bool _, h => h.elim
  | _ + 1, .str _, h => h.elim
  | _ + 1, .dict _, h => h.elim
theorem sm_repr {b n : Nat} {d : PyData} (h : sm b n d) (hn : n ≤ 64) (hw : 12 * wmax b n + 10 ≤ 16777216) : reprOk d = true := by
  obtain ⟨a1, a2, a3, a4, a5⟩ := sm_ok n d h
  have := PyData.shown_le 10 (by omega) d a1
  have z : d.shown.length ≤ sizeLine := by rw [sizeLine_eq]; omega
  unfold reprOk
  rw [a2, a3, decide_eq_true (Nat.le_trans a4 hn), decide_eq_true z]
  rfl
theorem repr_l {b n : Nat} {ds : List PyData} (h : sm b n (.list ds)) (hn : n ≤ 64) (hw : 12 * wmax b n + 10 ≤ 16777216) : reprR [.list ds] = some (.str (PyData.list ds).shown) := by
  exact if_pos (sm_repr h hn hw)
theorem repr_t {b n : Nat} {ds : List PyData} (h : sm b n (.tuple ds)) (hn : n ≤ 64) (hw : 12 * wmax b n + 10 ≤ 16777216) : reprR [.tuple ds] = some (.str (PyData.tuple ds).shown) := by
  exact if_pos (sm_repr h hn hw)
theorem ne_self {s : Str} : neSR (.str s) (.str s) = some (.bool false) := by simp [neSR]
end Fw
namespace L95
open PySem PySem.Spec PyProof.Rows L2 Fw Pl
theorem mul_r {i j : Int} (h1 : -1000000000000 < j) (h2 : j < 1000000000000) : mulR (.int i) (.int j) = some (.int (i * j)) := if_pos (.inr ⟨by omega, by omega⟩)
theorem mul_l {i j : Int} (h1 : -1000000000000 < i) (h2 : i < 1000000000000) : mulR (.int i) (.int j) = some (.int (i * j)) := if_pos (.inl ⟨by omega, by omega⟩)
theorem mod_p {i j : Int} (h : 0 < j) : modR (.int i) (.int j) = some (.int (i % j)) := if_pos h
theorem div_p {i j : Int} (h : 0 < j) (h2 : j < 1073741824) : fdivR (.int i) (.int j) = some (.int (i / j)) := if_pos ⟨h, h2⟩
theorem dI_pop {ps : List Int} {p : Int} : (dI (ps ++ [p])).length - 1 = (dI ps).length ∧ (dI (ps ++ [p]))[(dI (ps ++ [p])).length - 1]? = some (.int p) ∧ (dI (ps ++ [p])).dropLast = dI ps := by
  have e : dI (ps ++ [p]) = dI ps ++ [.int p] := (dI_snoc ps p).symm
  rw [e]
  refine ⟨by simp, by simp, by simp⟩
theorem take_ok (ps : List Int) {lim : Int} (hl : 0 < lim) : ∃ (v : Int) (ps' : List Int), d_law_take (dI ps) [.int lim] = some (.int v, dI ps') ∧ 0 ≤ v ∧ v < lim := by
  have h0 : 0 ≤ sizeLine := Nat.zero_le _
  have sh : ∀ ns : List Int, SeqAt.shaped (.list (dI ns)) = true := fun ns => shaped_ok 1 (fun d m => by
      obtain ⟨n, _, rfl⟩ := List.mem_map.mp m
      exact trivial) (by omega)
  have s0 : SeqAt.shaped (.list []) = true := sh []
  cases hq : ps.getLast? with
  | none =>
    have e : ps = [] := List.getLast?_eq_none_iff.mp hq
    subst e
    have e1 : eqR (.list (dI [])) (.list []) = some (.bool true) := by
      show eqR (.list []) (.list []) = _
      unfold eqR
      simp only [s0]
      rfl
    refine ⟨0, [], ?_, by omega, hl⟩
    simp only [d_law_take, denF, denM, denS, denSL, uns, List.replicate, List.length_cons, List.length_nil, List.map_cons, List.map_nil, List.cons_append, List.nil_append, if_true, Nat.zero_add, Nat.reduceAdd, reduceIte]
    simp [i_law_take, e1, h0, xRet, xRetL, xSeq, xSet, xSetL, xIf, xDrop, xAsg, xNil, xNo, xPar, puts, xApp, xAug, xIce, xUn, s1, s2, sA0, sA1, sCall, sCallL, sCallM, sCallS, sCallSL, sB, sAndT, sOrT, sNotT, sAnd, sOr, sIf, sTup, sLst, sFz, sV, sC, sChain, sLenO, sIxO, sCmpO, sPop, sSl, sRevO, sRevD, rNil, rF, rL, rLL, addR, subR, fdivR, modR, ltR, leR, gtR, geR, isNR, notNR, isNone, len_t, len_l, absR, intR, minR, tupleR, isiR, subTy, tyD, revTR, negR, gN, gT, gCns, Fw.gNil, oN, oS, lstOf, setLst, ice, noAl, sYes, wipeE, idle, put_c0, put_c1, put_c2, put_c3, put_c4, put_c5, put_c6, put_c7, put_c8, put_c9, put_c10, put_c11, put_c12, put_c13, put_c14, put_c15, put_c16, put_c17, put_c18, put_c19, put_c20, put_c21, put_c22, put_c23]
  | some p =>
    obtain ⟨qs, rfl⟩ := List.getLast?_eq_some_iff.mp hq
    have e1 : eqR (.list (dI (qs ++ [p]))) (.list []) = some (.bool false) := by
      have e : dI (qs ++ [p]) = dI qs ++ [.int p] := (dI_snoc qs p).symm
      unfold eqR
      simp only [s0, sh]
      rw [e]
      cases dI qs <;> rfl
    obtain ⟨d1, d2, d3⟩ := dI_pop (ps := qs) (p := p)
    refine ⟨p % lim, qs, ?_, Int.emod_nonneg _ (by omega), Int.emod_lt_of_pos _ hl⟩
    simp only [d_law_take, denF, denM, denS, denSL, uns, List.replicate, List.length_cons, List.length_nil, List.map_cons, List.map_nil, List.cons_append, List.nil_append, if_true, Nat.zero_add, Nat.reduceAdd, reduceIte]
    have hm : modR (.int p) (.int lim) = some (.int (p % lim)) := mod_p hl
    have t1 : (sB (sCmpO 0 eqR (sFz (sLst sA0)))) [.pm (dI (qs ++ [p])), .fz (.int lim)] = some (false, [.pm (dI (qs ++ [p])), .fz (.int lim)]) := by
      simp only [sB, sCmpO, lstOf, List.getElem?_cons_zero, sFz, sLst, sA0, List.length_nil, if_pos h0, e1]
    have t2 : xRet (s2 modR (sCall intR (sA1 (sPop 0) sA0)) (sV 1)) [.pm (dI (qs ++ [p])), .fz (.int lim)] = some (.rt (.int (p % lim)) [.pm (dI qs), .fz (.int lim)]) := by
      simp only [xRet, s2, sCall, sA1, sA0, sPop, lstOf, List.getElem?_cons_zero, d2, d3, setLst, List.set_cons_zero, intR, sV, List.getElem?_cons_succ, hm]
    have e : i_law_take [.pm (dI (qs ++ [p])), .fz (.int lim)] = some (.rt (.int (p % lim)) [.pm (dI qs), .fz (.int lim)]) := by
      unfold i_law_take
      refine (xSeq_eq (δ1 := [.pm (dI (qs ++ [p])), .fz (.int lim)]) (by simp only [xIf, t1, xNil])).trans t2
    simp only [List.append_nil, e]
end L95

end
section
set_option Elab.async false
set_option linter.all false
set_option maxRecDepth 100000
/-! The drawing of a path; the pool. -/
namespace L95
open PySem PySem.Spec PyProof.Rows L2 Fw Pl
noncomputable def paE : F := (sTup (sA1 (sV 5) (sA1 (s2 addR (sV 5) (sC (.int 1))) (sA1 (s2 addR (sC (.int 1)) (sCallM 0 d_law_take (sA1 (sC (.int 6)) sA0))) (sA1 (s2 addR (sC (.int 1)) (sCallM 0 d_law_take (sA1 (sV 2) sA0))) sA0)))))
theorem callM0 {den : List PyData → List PyData → Option (PyData × List PyData)} {a : FA} {ps ps' : List PyData} {xs : List PyData} {r : Fw.Env} {d : PyData} (ha : a (.pm ps :: r) = some (xs, .pm ps :: r)) (h : den ps xs = some (d, ps')) : sCallM 0 den a (.pm ps :: r) = some (d, .pm ps' :: r) := by
  simp only [sCallM, lstOf, List.getElem?_cons_zero, ha, h, setLst, List.set_cons_zero]
theorem paE_ok (ps : List Int) (k : Nat) (mn : Int) : ∃ (r : Rw) (ps' : List Int), (1 ≤ r.1 ∧ r.1 ≤ 6 ∧ 1 ≤ r.2 ∧ r.2 ≤ 3) ∧ paE [.pm (dI ps), .fz (.int 4), .fz (.int 3), .fz (.int mn), .un, .fz (.int k)] = some (stD k r, [.pm (dI ps'), .fz (.int 4), .fz (.int 3), .fz (.int mn), .un, .fz (.int k)]) := by
  obtain ⟨v1, p1, e1, a1, b1⟩ := take_ok ps (lim := 6) (by omega)
  obtain ⟨v2, p2, e2, a2, b2⟩ := take_ok p1 (lim := 3) (by omega)
  have h4 : 4 ≤ sizeLine := by rw [sizeLine_eq]; omega
  refine ⟨(1 + v1, 1 + v2), p2, ⟨by show 1 ≤ 1 + v1; omega, by show 1 + v1 ≤ 6; omega, by show 1 ≤ 1 + v2; omega, by show 1 + v2 ≤ 3; omega⟩, ?_⟩
  have c1 := callM0 (den := d_law_take) (a := sA1 (sC (.int 6)) sA0) (ps := dI ps) (xs := [.int 6]) (r := [.fz (.int 4), .fz (.int 3), .fz (.int mn), .un, .fz (.int k)]) rfl e1
  have c2 := callM0 (den := d_law_take) (a := sA1 (sV 2) sA0) (ps := dI p1) (xs := [.int 3]) (r := [.fz (.int 4), .fz (.int 3), .fz (.int mn), .un, .fz (.int k)]) rfl e2
  simp only [paE, sTup, sA1, sA0, sV, s2, sC, List.getElem?_cons_succ, List.getElem?_cons_zero, addR, c1, c2, List.length_cons, List.length_nil, Nat.zero_add, Nat.reduceAdd, if_pos h4]
  try rfl
theorem paL : ∀ (m k : Nat) (ps : List Int) (mn : Int), ∃ (rows : List Rw) (ps' : List Int), rows.length = m ∧ (∀ r ∈ rows, 1 ≤ r.1 ∧ r.1 ≤ 6 ∧ 1 ≤ r.2 ∧ r.2 ≤ 3) ∧
    lcL [5] (gN 5) sYes paE ((List.range m).map fun i : Nat => .int ((k + i : Nat) : Int)) [.pm (dI ps), .fz (.int 4), .fz (.int 3), .fz (.int mn), .un, .un] = some (stsD k rows, [.pm (dI ps'), .fz (.int 4), .fz (.int 3), .fz (.int mn), .un, .un])
  | 0, k, ps, mn => ⟨[], ps, rfl, (fun _ m => nomatch m), rfl⟩
  | m + 1, k, ps, mn => by
    obtain ⟨r, p1, hr, e1⟩ := paE_ok ps k mn
    obtain ⟨rows, p2, hl, hok, e2⟩ := paL m (k + 1) p1 mn
    refine ⟨r :: rows, p2, by simp [hl], fun q mq => ?_, ?_⟩
    · rcases List.mem_cons.mp mq with rfl | mq
      · exact hr
      · exact hok q mq
    · have el : (List.range (m + 1)).map (fun i : Nat => PyData.int ((k + i : Nat) : Int)) = .int k :: (List.range m).map fun i : Nat => .int ((k + 1 + i : Nat) : Int) := by
        rw [List.range_succ_eq_map, List.map_cons, List.map_map]
        congr 1
        refine List.map_congr_left fun i _ => ?_
        show PyData.int ((k + (i + 1) : Nat) : Int) = PyData.int ((k + 1 + i : Nat) : Int)
        rw [show k + (i + 1) = k + 1 + i by omega]
      rw [el]
      unfold lcL
      have g : gN 5 (.int k) [.pm (dI ps), .fz (.int 4), .fz (.int 3), .fz (.int mn), .un, .un] = some [.pm (dI ps), .fz (.int 4), .fz (.int 3), .fz (.int mn), .un, .fz (.int k)] := rfl
      have w : wipeE [.pm (dI p1), .fz (.int 4), .fz (.int 3), .fz (.int mn), .un, .fz (.int k)] [5] = [.pm (dI p1), .fz (.int 4), .fz (.int 3), .fz (.int mn), .un, .un] := rfl
      simp only [g, sYes, e1, w]
      have e2' : lcL [5] (gN 5) (fun δ => some (true, δ)) paE ((List.range m).map fun i : Nat => .int ((k + 1 + i : Nat) : Int)) [.pm (dI p1), .fz (.int 4), .fz (.int 3), .fz (.int mn), .un, .un] = some (stsD (k + 1) rows, [.pm (dI p2), .fz (.int 4), .fz (.int 3), .fz (.int mn), .un, .un]) := e2
      first
        | rw [e2']; rfl
        | rw [e2]; rfl
theorem path_ok (ps : List Int) : ∃ (rows : List Rw) (ps' : List Int), d_law_path (dI ps) [.int 4, .int 3] = some (hallD rows, dI ps') ∧ RowOk rows := by
  obtain ⟨v, p1, e1, a1, b1⟩ := take_ok ps (lim := 3) (by omega)
  obtain ⟨m, hm⟩ : ∃ m : Nat, v + 1 = m := ⟨(v + 1).toNat, by omega⟩
  obtain ⟨rows, p2, hl, hok, e2⟩ := paL m 0 p1 (2 + v)
  have h2 : 2 ≤ sizeLine := by rw [sizeLine_eq]; omega
  refine ⟨rows, p2, ?_, ⟨by omega, by omega, hok⟩⟩
  have c1 := callM0 (den := d_law_take) (a := sA1 (s2 subR (sV 1) (sC (.int 1))) sA0) (ps := dI ps) (xs := [.int 3]) (r := [.fz (.int 4), .fz (.int 3), .un, .un, .un]) rfl e1
  have er : rangeD 0 (m : Int) = (List.range m).map fun i : Nat => .int ((0 + i : Nat) : Int) := by rw [rangeD_nat]; refine List.map_congr_left fun i _ => ?_; simp
  have hw : wRng1 (sA1 (s2 subR (sV 3) (sC (.int 1))) sA0) [.pm (dI p1), .fz (.int 4), .fz (.int 3), .fz (.int (2 + v)), .un, .un] = some ((List.range m).map (fun i : Nat => .int ((0 + i : Nat) : Int)), [.pm (dI p1), .fz (.int 4), .fz (.int 3), .fz (.int (2 + v)), .un, .un]) := by
    have := wRng1_nat (a := sA1 (s2 subR (sV 3) (sC (.int 1))) sA0) (δ := [.pm (dI p1), .fz (.int 4), .fz (.int 3), .fz (.int (2 + v)), .un, .un]) (δ1 := [.pm (dI p1), .fz (.int 4), .fz (.int 3), .fz (.int (2 + v)), .un, .un]) (n := m) (by
      show some ([PyData.int (2 + v - 1)], _) = _
      rw [show 2 + v - 1 = (m : Int) by omega]) (by omega)
    rw [this]
    congr 2
    refine List.map_congr_left fun i _ => ?_
    simp
  have hL : sLc [5] (wRng1 (sA1 (s2 subR (sV 3) (sC (.int 1))) sA0)) (gN 5) sYes paE [.pm (dI p1), .fz (.int 4), .fz (.int 3), .fz (.int (2 + v)), .un, .un] = some (stsD 0 rows, [.pm (dI p2), .fz (.int 4), .fz (.int 3), .fz (.int (2 + v)), .un, .un]) := by
    have i : idle [.pm (dI p1), .fz (.int 4), .fz (.int 3), .fz (.int (2 + v)), .un, .un] [5] = true := rfl
    have w : wipeE [.pm (dI p1), .fz (.int 4), .fz (.int 3), .fz (.int (2 + v)), .un, .un] [5] = [.pm (dI p1), .fz (.int 4), .fz (.int 3), .fz (.int (2 + v)), .un, .un] := rfl
    unfold sLc
    rw [hw]
    simp only [i, if_true, w, e2]
    rfl
  have e9 : (rows.length : Int) + 1 = 2 + v := by omega
  have main : i_law_path [.pm (dI ps), .fz (.int 4), .fz (.int 3), .un, .un, .un] = some (.rt (hallD rows) [.pm (dI p2), .fz (.int 4), .fz (.int 3), .fz (.int (2 + v)), .fz (.list (stsD 0 rows)), .un]) := by
    unfold i_law_path
    refine (xSeq_eq (δ1 := [.pm (dI p1), .fz (.int 4), .fz (.int 3), .fz (.int (2 + v)), .un, .un]) (xSet_eq (δ1 := [.pm (dI p1), .fz (.int 4), .fz (.int 3), .un, .un, .un]) (d := .int (2 + v)) ?_ rfl)).trans ?_
    · simp only [s2, sC, c1, addR]
    refine (xSeq_eq (δ1 := [.pm (dI p2), .fz (.int 4), .fz (.int 3), .fz (.int (2 + v)), .fz (.list (stsD 0 rows)), .un]) (xSet_eq (sFz_eq hL) rfl)).trans ?_
    unfold hallD
    rw [e9]
    simp only [xRet, sTup, sA1, sA0, sV, sCall, tupleR, List.getElem?_cons_succ, List.getElem?_cons_zero, List.length_cons, List.length_nil, Nat.zero_add, Nat.reduceAdd, if_pos h2]
  simp only [d_law_path, denF, denM, denS, denSL, uns, List.replicate, List.length_cons, List.length_nil, List.map_cons, List.map_nil, List.cons_append, List.nil_append, if_true, Nat.zero_add, Nat.reduceAdd, reduceIte]
  simp only [main]
end L95

end
section
set_option Elab.async false
set_option linter.all false
set_option maxRecDepth 100000
/-! The pool. -/
namespace L95
open PySem PySem.Spec PyProof.Rows L2 Fw Pl
noncomputable def poI : FS := (xIf (sB (s2 gtR (sV 6) (sC (.int 0)))) (xSeq (xApp 3 (s2 modR (sCall intR (sA1 (sV 6) sA0)) (sC (.int 10000))))
    (xSet 6 (s2 fdivR (sV 6) (sC (.int 10000))))) xNil)
theorem s2_eq {r : PyData → PyData → Option PyData} {f g : F} {δ δ1 δ2 : Fw.Env} {x y z : PyData} (hf : f δ = some (x, δ1)) (hg : g δ1 = some (y, δ2)) (hr : r x y = some z) : s2 r f g δ = some (z, δ2) := by
  unfold s2
  rw [hf]
  show (match g δ1 with | some (y, δ2) => (match r x y with | some z => some (z, δ2) | none => none) | none => none) = _
  rw [hg]
  show (match r x y with | some z => some (z, δ2) | none => none) = _
  rw [hr]
theorem sC1_eq {r : List PyData → Option PyData} {f : F} {δ δ1 : Fw.Env} {x z : PyData} (hf : f δ = some (x, δ1)) (hr : r [x] = some z) : sCall r (sA1 f sA0) δ = some (z, δ1) := by
  unfold sCall sA1 sA0
  rw [hf]
  show (match r [x] with | some z => some (z, δ1) | none => none) = _
  rw [hr]
theorem xApp3 {a0 a1 a2 : Fw.Slot} {os : List PyData} {r : Fw.Env} {f : F} {d : PyData} (hf : f (a0 :: a1 :: a2 :: .ow os :: r) = some (d, a0 :: a1 :: a2 :: .ow os :: r)) (hz : os.length < sizeLine) : xApp 3 f (a0 :: a1 :: a2 :: .ow os :: r) = some (.nx (a0 :: a1 :: a2 :: .ow (os ++ [d]) :: r)) := by
  simp only [xApp, lstOf, List.getElem?_cons_succ, List.getElem?_cons_zero, hf, if_pos hz, setLst, List.set_cons_succ, List.set_cons_zero]
theorem poI_ok {a0 a1 a2 a4 a5 : Fw.Slot} {ps : List Int} {l j : Int} (hz : ps.length ≤ 1000000) : ∃ (ps' : List Int) (l' : Int), ps'.length ≤ ps.length + 1 ∧ poI [a0, a1, a2, .ow (dI ps), a4, a5, .fz (.int l), .fz (.int j)] = some (.nx [a0, a1, a2, .ow (dI ps'), a4, a5, .fz (.int l'), .fz (.int j)]) := by
  have z : (dI ps).length < sizeLine := by rw [dI_len, sizeLine_eq]; omega
  have t : (sB (s2 gtR (sV 6) (sC (.int 0)))) [a0, a1, a2, .ow (dI ps), a4, a5, .fz (.int l), .fz (.int j)] = some (decide (0 < l), [a0, a1, a2, .ow (dI ps), a4, a5, .fz (.int l), .fz (.int j)]) := rfl
  unfold poI xIf
  rw [t]
  by_cases q : 0 < l
  · rw [decide_eq_true q]
    have m1 : modR (.int l) (.int 10000) = some (.int (l % 10000)) := mod_p (by omega)
    have m2 : fdivR (.int l) (.int 10000) = some (.int (l / 10000)) := div_p (by omega) (by omega)
    refine ⟨ps ++ [l % 10000], l / 10000, by simp, ?_⟩
    simp only
    refine (xSeq_eq (xApp3 (d := .int (l % 10000)) ?_ z)).trans ?_
    · simp only [s2, sCall, sA1, sA0, sV, sC, List.getElem?_cons_succ, List.getElem?_cons_zero, intR, m1]
    · rw [dI_snoc]
      exact xSet_eq (δ1 := [a0, a1, a2, .ow (dI (ps ++ [l % 10000])), a4, a5, .fz (.int l), .fz (.int j)]) (d := .int (l / 10000)) (by simp only [s2, sV, sC, List.getElem?_cons_succ, List.getElem?_cons_zero, m2]) rfl
  · rw [decide_eq_false q]
    exact ⟨ps, l, by omega, rfl⟩
theorem poF_ok {a0 a1 a2 a4 a5 u7 : Fw.Slot} [Fre u7] {ps : List Int} {l : Int} (hz : ps.length ≤ 100000) : ∃ (ps' : List Int) (l' : Int) (v7 : Fw.Slot), Fre v7 ∧ ps'.length ≤ ps.length + 45 ∧ xFor (wRng1 (sA1 (sC (.int 45)) sA0)) (gN 7) poI [a0, a1, a2, .ow (dI ps), a4, a5, .fz (.int l), u7] = some (.nx [a0, a1, a2, .ow (dI ps'), a4, a5, .fz (.int l'), v7]) := by
  have hF := forL_inv (p := gN 7) (body := poI) (as := (List.range 45).map fun i : Nat => .int (i : Int)) (fun i δ => ∃ (ps' : List Int) (l' : Int) (v7 : Fw.Slot), Fre v7 ∧ ps'.length ≤ ps.length + i ∧ δ = [a0, a1, a2, .ow (dI ps'), a4, a5, .fz (.int l'), v7]) (fun i d δ e ⟨ps', l', v7, f7, hl, eδ⟩ => by
    subst eδ
    have hi : i < 45 := by
      have := (List.getElem?_eq_some_iff.mp e).1
      simpa using this
    rw [List.getElem?_map, List.getElem?_range hi] at e
    have e : d = .int (i : Int) := (Option.some.inj e).symm
    subst e
    obtain ⟨p2, l2, h1, h2⟩ := poI_ok (a0 := a0) (a1 := a1) (a2 := a2) (a4 := a4) (a5 := a5) (ps := ps') (l := l') (j := (i : Int)) (by omega)
    exact ⟨[a0, a1, a2, .ow (dI ps'), a4, a5, .fz (.int l'), .fz (.int (i : Int))], _, put_c7, h2, p2, l2, .fz (.int (i : Int)), inferInstance, by omega, rfl⟩) (δ := [a0, a1, a2, .ow (dI ps), a4, a5, .fz (.int l), u7]) ⟨ps, l, u7, inferInstance, by omega, rfl⟩
  obtain ⟨δ', f1, ps', l', v7, f7, hl, rfl⟩ := hF
  rw [List.length_map, List.length_range] at hl
  refine ⟨ps', l', v7, f7, hl, ?_⟩
  unfold xFor
  rw [wRng1_nat (n := 45) (δ1 := [a0, a1, a2, .ow (dI ps), a4, a5, .fz (.int l), u7]) rfl (by omega)]
  exact f1
noncomputable def poB : FS := (xSeq (xSet 6 (sCall absR (sA1 (sCall intR (sA1 (sV 5) sA0)) sA0)))
    (xSeq (xSet 4 (s2 modR (sCall intR (sA1 (s2 addR (s2 addR (s2 addR (s2 mulR (sV 4) (sC (.int 16807))) (s2 modR (sCall intR (sA1 (sV 6) sA0)) (sC (.int 2147483587)))) (s2 mulR (sC (.int 5)) (sCall intR (sA1 (s2 ltR (sV 5) (sC (.int 0))) sA0)))) (sC (.int 1))) sA0)) (sC (.int 2147483629))))
    (xIf (sB (s2 geR (sV 6) (s2 powR (sC (.int 10)) (sC (.int 18))))) (xFor (wRng1 (sA1 (sC (.int 45)) sA0)) (gN 7) poI) xNil)))
theorem poB_ok {a0 a1 a2 u6 u7 : Fw.Slot} [Fre u6] [Fre u7] {ps : List Int} {sd c : Int} (hz : ps.length ≤ 100000) : ∃ (ps' : List Int) (sd' : Int) (v6 v7 : Fw.Slot), Fre v6 ∧ Fre v7 ∧ ps'.length ≤ ps.length + 45 ∧ poB [a0, a1, a2, .ow (dI ps), .fz (.int sd), .fz (.int c), u6, u7] = some (.nx [a0, a1, a2, .ow (dI ps'), .fz (.int sd'), .fz (.int c), v6, v7]) := by
  obtain ⟨L, hL⟩ : ∃ L : Int, L = if c < 0 then -c else c := ⟨_, rfl⟩
  obtain ⟨B, hB, hB1⟩ : ∃ B : Int, intR [.bool (decide (c < 0))] = some (.int B) ∧ (0 ≤ B ∧ B ≤ 1) := by
    refine ⟨if decide (c < 0) = true then 1 else 0, rfl, ?_⟩
    split <;> omega
  have m0 : absR [.int c] = some (.int L) := by rw [hL]; rfl
  have m1 : mulR (.int sd) (.int 16807) = some (.int (sd * 16807)) := mul_r (by omega) (by omega)
  have m2 : modR (.int L) (.int 2147483587) = some (.int (L % 2147483587)) := mod_p (by omega)
  have m3 : mulR (.int 5) (.int B) = some (.int (5 * B)) := mul_l (by omega) (by omega)
  have m4 : modR (.int (sd * 16807 + L % 2147483587 + 5 * B + 1)) (.int 2147483629) = some (.int ((sd * 16807 + L % 2147483587 + 5 * B + 1) % 2147483629)) := mod_p (by omega)
  obtain ⟨p2, l2, v7, f7, hl, hf⟩ := poF_ok (a0 := a0) (a1 := a1) (a2 := a2) (a4 := .fz (.int ((sd * 16807 + L % 2147483587 + 5 * B + 1) % 2147483629))) (a5 := .fz (.int c)) (u7 := u7) (ps := ps) (l := L) hz
  have s1 : xSet 6 (sCall absR (sA1 (sCall intR (sA1 (sV 5) sA0)) sA0)) [a0, a1, a2, .ow (dI ps), .fz (.int sd), .fz (.int c), u6, u7] = some (.nx [a0, a1, a2, .ow (dI ps), .fz (.int sd), .fz (.int c), .fz (.int L), u7]) :=
    xSet_eq (δ1 := [a0, a1, a2, .ow (dI ps), .fz (.int sd), .fz (.int c), u6, u7]) (d := .int L) (by simp only [sCall, sA1, sA0, sV, List.getElem?_cons_succ, List.getElem?_cons_zero, intR, m0]) put_c6
  have s2' : (xSet 4 (s2 modR (sCall intR (sA1 (s2 addR (s2 addR (s2 addR (s2 mulR (sV 4) (sC (.int 16807))) (s2 modR (sCall intR (sA1 (sV 6) sA0)) (sC (.int 2147483587)))) (s2 mulR (sC (.int 5)) (sCall intR (sA1 (s2 ltR (sV 5) (sC (.int 0))) sA0)))) (sC (.int 1))) sA0)) (sC (.int 2147483629)))) [a0, a1, a2, .ow (dI ps), .fz (.int sd), .fz (.int c), .fz (.int L), u7] =
      some (.nx [a0, a1, a2, .ow (dI ps), .fz (.int ((sd * 16807 + L % 2147483587 + 5 * B + 1) % 2147483629)), .fz (.int c), .fz (.int L), u7]) :=
    xSet_eq (δ1 := [a0, a1, a2, .ow (dI ps), .fz (.int sd), .fz (.int c), .fz (.int L), u7]) (d := .int ((sd * 16807 + L % 2147483587 + 5 * B + 1) % 2147483629)) (by
      have i1 : ∀ i : Int, intR [.int i] = some (.int i) := fun _ => rfl
      simp only [s2, sCall, sA1, sA0, sV, sC, List.getElem?_cons_succ, List.getElem?_cons_zero, i1, addR, ltR, hB, m1, m2, m3, m4]) put_c4
  obtain ⟨b, hb⟩ : ∃ b, (sB (s2 geR (sV 6) (s2 powR (sC (.int 10)) (sC (.int 18))))) [a0, a1, a2, .ow (dI ps), .fz (.int ((sd * 16807 + L % 2147483587 + 5 * B + 1) % 2147483629)), .fz (.int c), .fz (.int L), u7] = some (b, [a0, a1, a2, .ow (dI ps), .fz (.int ((sd * 16807 + L % 2147483587 + 5 * B + 1) % 2147483629)), .fz (.int c), .fz (.int L), u7]) := by
    have pw : powR (.int 10) (.int 18) = some (.int ((10 : Int) ^ (18 : Int).toNat)) := by
      show (if 0 ≤ (18 : Int) ∧ (18 : Int) ≤ 1000000 ∧ (10 : Int).natAbs < 2 ^ 64 then _ else none) = _
      exact if_pos ⟨by omega, by omega, by decide⟩
    refine ⟨decide ((10 : Int) ^ (18 : Int).toNat ≤ L), ?_⟩
    have e := s2_eq (r := geR) (f := sV 6) (g := s2 powR (sC (.int 10)) (sC (.int 18))) (δ := [a0, a1, a2, .ow (dI ps), .fz (.int ((sd * 16807 + L % 2147483587 + 5 * B + 1) % 2147483629)), .fz (.int c), .fz (.int L), u7]) rfl (s2_eq rfl rfl pw) rfl
    unfold sB
    rw [e]
  cases b with
  | true =>
    refine ⟨p2, (sd * 16807 + L % 2147483587 + 5 * B + 1) % 2147483629, .fz (.int l2), v7, inferInstance, f7, hl, ?_⟩
    unfold poB
    refine (xSeq_eq s1).trans ((xSeq_eq s2').trans ?_)
    unfold xIf
    rw [hb]
    exact hf
  | false =>
    refine ⟨ps, (sd * 16807 + L % 2147483587 + 5 * B + 1) % 2147483629, .fz (.int L), u7, inferInstance, inferInstance, by omega, ?_⟩
    unfold poB
    refine (xSeq_eq s1).trans ((xSeq_eq s2').trans ?_)
    unfold xIf
    rw [hb]
    rfl
noncomputable def poC : FS := (xSeq (xSet 4 (s2 modR (sCall intR (sA1 (s2 addR (s2 addR (s2 mulR (sV 4) (sC (.int 48271))) (s2 mulR (sV 7) (sV 7))) (sC (.int 13))) sA0)) (sC (.int 2147483629))))
    (xApp 3 (s2 modR (sCall intR (sA1 (s2 fdivR (s2 modR (sCall intR (sA1 (s2 mulR (sV 4) (s2 addR (sV 4) (sC (.int 3)))) sA0)) (sC (.int 2147483587))) (sC (.int 997))) sA0)) (sC (.int 10000)))))
theorem poC_ok {a0 a1 a2 a5 a6 : Fw.Slot} {ps : List Int} {sd : Int} {k : Nat} (hk : k ≤ 1000) (hz : ps.length ≤ 100000) : ∃ (p sd' : Int), poC [a0, a1, a2, .ow (dI ps), .fz (.int sd), a5, a6, .fz (.int k)] = some (.nx [a0, a1, a2, .ow (dI (ps ++ [p])), .fz (.int sd'), a5, a6, .fz (.int k)]) := by
  have z : (dI ps).length < sizeLine := by rw [dI_len, sizeLine_eq]; omega
  have i1 : ∀ i : Int, intR [.int i] = some (.int i) := fun _ => rfl
  have m1 : mulR (.int sd) (.int 48271) = some (.int (sd * 48271)) := mul_r (by omega) (by omega)
  have m2 : mulR (.int (k : Int)) (.int (k : Int)) = some (.int ((k : Int) * k)) := mul_l (by omega) (by omega)
  have m3 : modR (.int (sd * 48271 + (k : Int) * k + 13)) (.int 2147483629) = some (.int ((sd * 48271 + (k : Int) * k + 13) % 2147483629)) := mod_p (by omega)
  generalize hS : (sd * 48271 + (k : Int) * k + 13) % 2147483629 = S at m3
  have b1 : 0 ≤ S := by rw [← hS]; exact Int.emod_nonneg _ (by omega)
  have b2 : S < 2147483629 := by rw [← hS]; exact Int.emod_lt_of_pos _ (by omega)
  have m4 : mulR (.int S) (.int (S + 3)) = some (.int (S * (S + 3))) := mul_l (by omega) (by omega)
  have m5 : modR (.int (S * (S + 3))) (.int 2147483587) = some (.int (S * (S + 3) % 2147483587)) := mod_p (by omega)
  have m6 : fdivR (.int (S * (S + 3) % 2147483587)) (.int 997) = some (.int (S * (S + 3) % 2147483587 / 997)) := div_p (by omega) (by omega)
  have m7 : modR (.int (S * (S + 3) % 2147483587 / 997)) (.int 10000) = some (.int (S * (S + 3) % 2147483587 / 997 % 10000)) := mod_p (by omega)
  refine ⟨S * (S + 3) % 2147483587 / 997 % 10000, S, ?_⟩
  unfold poC
  refine (xSeq_eq (xSet_eq (δ1 := [a0, a1, a2, .ow (dI ps), .fz (.int sd), a5, a6, .fz (.int k)]) (δ2 := [a0, a1, a2, .ow (dI ps), .fz (.int S), a5, a6, .fz (.int k)]) (d := .int S) ?_ put_c4)).trans ?_
  · exact s2_eq (sC1_eq (s2_eq (s2_eq (s2_eq rfl rfl m1) (s2_eq rfl rfl m2) rfl) rfl rfl) rfl) rfl m3
  · rw [← dI_snoc]
    refine xApp3 ?_ z
    simp only [s2, sCall, sA1, sA0, sV, sC, List.getElem?_cons_succ, List.getElem?_cons_zero, i1, addR, m4, m5, m6, m7]
theorem pool_ok (ns : List Int) (salt : Int) (many : Nat) (hm : many ≤ 1000) : ∃ ps : List Int, d_law_pool ns [.int salt, .int many] = some (dI ps) := by
  have h0 : 0 ≤ sizeLine := Nat.zero_le _
  have cl : (Fw.cutD ns none (some 63)).length ≤ 63 := by
    unfold Fw.cutD HT.sIx
    rw [List.length_take]
    have : ¬ ((63 : Int) < 0) := by omega
    simp only [if_neg this]
    have : min (63 : Int).toNat ns.length ≤ 63 := Nat.min_le_left _ _
    omega
  have cz : ((Fw.cutD ns none (some 63)).map PyData.int).length ≤ sizeLine := by rw [List.length_map, sizeLine_eq]; omega
  have hF := forL_inv (p := gN 5) (body := poB) (as := (Fw.cutD ns none (some 63)).map PyData.int) (fun i δ => ∃ (ps : List Int) (sd : Int) (u5 u6 u7 : Fw.Slot), Fre u5 ∧ Fre u6 ∧ Fre u7 ∧ ps.length ≤ 45 * i ∧ δ = [.sc ns, .fz (.int salt), .fz (.int many), .ow (dI ps), .fz (.int sd), u5, u6, u7]) (fun i d δ e ⟨ps, sd, u5, u6, u7, f5, f6, f7, hl, eδ⟩ => by
    subst eδ
    have hi := (List.getElem?_eq_some_iff.mp e).1
    rw [List.length_map] at hi
    obtain ⟨c, _, rfl⟩ := dI_inv (xs := Fw.cutD ns none (some 63)) e
    obtain ⟨p2, sd2, v6, v7, g6, g7, h1, h2⟩ := poB_ok (a0 := .sc ns) (a1 := .fz (.int salt)) (a2 := .fz (.int many)) (u6 := u6) (u7 := u7) (ps := ps) (sd := sd) (c := c) (by omega)
    exact ⟨[.sc ns, .fz (.int salt), .fz (.int many), .ow (dI ps), .fz (.int sd), .fz (.int c), u6, u7], _, put_c5, h2, p2, sd2, .fz (.int c), v6, v7, inferInstance, g6, g7, by omega, rfl⟩) (δ := [.sc ns, .fz (.int salt), .fz (.int many), .ow (dI []), .fz (.int salt), .un, .un, .un]) ⟨[], salt, .un, .un, .un, inferInstance, inferInstance, inferInstance, by simp, rfl⟩
  obtain ⟨δ1, f1, ps, sd, u5, u6, u7, f5, f6, f7, hl, rfl⟩ := hF
  rw [List.length_map] at hl
  have hG := forL_inv (p := gN 7) (body := poC) (as := (List.range many).map fun i : Nat => .int (i : Int)) (fun i δ => ∃ (qs : List Int) (sd : Int) (v7 : Fw.Slot), Fre v7 ∧ qs.length ≤ ps.length + i ∧ δ = [.sc ns, .fz (.int salt), .fz (.int many), .ow (dI qs), .fz (.int sd), u5, u6, v7]) (fun i d δ e ⟨qs, sd, v7, g7, hq, eδ⟩ => by
    subst eδ
    have hi : i < many := by
      have := (List.getElem?_eq_some_iff.mp e).1
      simpa using this
    rw [List.getElem?_map, List.getElem?_range hi] at e
    have e : d = .int (i : Int) := (Option.some.inj e).symm
    subst e
    obtain ⟨p, sd2, h2⟩ := poC_ok (a0 := .sc ns) (a1 := .fz (.int salt)) (a2 := .fz (.int many)) (a5 := u5) (a6 := u6) (ps := qs) (sd := sd) (k := i) (by omega) (by omega)
    exact ⟨[.sc ns, .fz (.int salt), .fz (.int many), .ow (dI qs), .fz (.int sd), u5, u6, .fz (.int (i : Int))], _, put_c7, h2, qs ++ [p], sd2, .fz (.int (i : Int)), inferInstance, by simp; omega, rfl⟩) (δ := [.sc ns, .fz (.int salt), .fz (.int many), .ow (dI ps), .fz (.int sd), u5, u6, u7]) ⟨ps, sd, u7, f7, by omega, rfl⟩
  obtain ⟨δ2, f2, qs, sd2, v7, g7, hq, rfl⟩ := hG
  refine ⟨qs.reverse, ?_⟩
  have er : (dI qs).reverse = dI qs.reverse := by unfold dI; rw [List.map_reverse]
  have main : i_law_pool [.sc ns, .fz (.int salt), .fz (.int many), .un, .un, .un, .un, .un] = some (.rl (dI qs.reverse) [.sc ns, .fz (.int salt), .fz (.int many), .ow (dI qs), .fz (.int sd2), u5, u6, v7]) := by
    unfold i_law_pool
    refine (xSeq_eq (δ1 := [.sc ns, .fz (.int salt), .fz (.int many), .ow (dI []), .fz (.int salt), .un, .un, .un]) (by simp [h0, dI, xRet, xRetL, xSeq, xSet, xSetL, xIf, xDrop, xAsg, xNil, xNo, xPar, puts, xApp, xAug, xIce, xUn, s1, s2, sA0, sA1, sCall, sCallL, sCallM, sCallS, sCallSL, sB, sAndT, sOrT, sNotT, sAnd, sOr, sIf, sTup, sLst, sFz, sV, sC, sChain, sLenO, sIxO, sCmpO, sPop, sSl, sRevO, sRevD, rNil, rF, rL, rLL, addR, subR, fdivR, modR, ltR, leR, gtR, geR, isNR, notNR, isNone, len_t, len_l, absR, intR, minR, tupleR, isiR, subTy, tyD, revTR, negR, gN, gT, gCns, Fw.gNil, oN, oS, lstOf, setLst, ice, noAl, sYes, wipeE, idle, put_c0, put_c1, put_c2, put_c3, put_c4, put_c5, put_c6, put_c7, put_c8, put_c9, put_c10, put_c11, put_c12, put_c13, put_c14, put_c15, put_c16, put_c17, put_c18, put_c19, put_c20, put_c21, put_c22, put_c23])).trans ?_
    refine (xSeq_eq (δ1 := [.sc ns, .fz (.int salt), .fz (.int many), .ow (dI ps), .fz (.int sd), u5, u6, u7]) ?_).trans ?_
    · have hI : wIx (sSlS 0 oN (oS (sC (.int 63)))) [.sc ns, .fz (.int salt), .fz (.int many), .ow (dI []), .fz (.int salt), .un, .un, .un] = some ((Fw.cutD ns none (some 63)).map PyData.int, [.sc ns, .fz (.int salt), .fz (.int many), .ow (dI []), .fz (.int salt), .un, .un, .un]) := by
        simp only [wIx, sSlS, oN, oS, sC, List.getElem?_cons_zero, if_pos cz, itD]
      unfold xFor
      rw [hI]
      exact f1
    refine (xSeq_eq (δ1 := [.sc ns, .fz (.int salt), .fz (.int many), .ow (dI qs), .fz (.int sd2), u5, u6, v7]) ?_).trans ?_
    · unfold xFor
      rw [wRng1_nat (n := many) (δ1 := [.sc ns, .fz (.int salt), .fz (.int many), .ow (dI ps), .fz (.int sd), u5, u6, u7]) rfl hm]
      exact f2
    · simp only [xRetL, sRevO, lstOf, List.getElem?_cons_succ, List.getElem?_cons_zero, er]
  simp only [d_law_pool, denF, denM, denS, denSL, uns, List.replicate, List.length_cons, List.length_nil, List.map_cons, List.map_nil, List.cons_append, List.nil_append, if_true, Nat.zero_add, Nat.reduceAdd, reduceIte]
  simp only [main]
end L95

end
section
set_option Elab.async false
set_option linter.all false
set_option maxRecDepth 100000
/-! The law: what is drawn, and what is asked of it. -/
namespace L95
open PySem PySem.Spec PyProof.Rows L2 Fw Pl
theorem callM1 {den : List PyData → List PyData → Option (PyData × List PyData)} {a : FA} {ps ps' : List PyData} {xs : List PyData} {a0 : Fw.Slot} {r : Fw.Env} {d : PyData} (ha : a (a0 :: .ow ps :: r) = some (xs, a0 :: .ow ps :: r)) (h : den ps xs = some (d, ps')) : sCallM 1 den a (a0 :: .ow ps :: r) = some (d, a0 :: .ow ps' :: r) := by
  simp only [sCallM, lstOf, List.getElem?_cons_succ, List.getElem?_cons_zero, ha, h, setLst, List.set_cons_succ, List.set_cons_zero]
theorem tkL {a0 : Fw.Slot} {r : Fw.Env} (hr : ∀ (p : List PyData) (d : PyData), gN 11 d (a0 :: .ow p :: r) = some ((a0 :: .ow p :: r).set 11 (.fz d)) ∧ wipeE ((a0 :: .ow p :: r).set 11 (.fz d)) [11] = a0 :: .ow p :: r) : ∀ (l : List PyData) (ps : List Int), ∃ (ts ps' : List Int), ts.length = l.length ∧ (∀ t ∈ ts, 0 ≤ t ∧ t < 9) ∧
    lcL [11] (gN 11) sYes (sCallM 1 d_law_take (sA1 (sC (.int 9)) sA0)) l (a0 :: .ow (dI ps) :: r) = some (dI ts, a0 :: .ow (dI ps') :: r)
  | [], ps => ⟨[], ps, rfl, (fun _ m => nomatch m), rfl⟩
  | d :: l, ps => by
    obtain ⟨v, p1, e1, a1, b1⟩ := take_ok ps (lim := 9) (by omega)
    obtain ⟨ts, p2, hl, hok, e2⟩ := tkL hr l p1
    refine ⟨v :: ts, p2, by simp [hl], fun t mt => ?_, ?_⟩
    · rcases List.mem_cons.mp mt with rfl | mt
      · exact ⟨a1, b1⟩
      · exact hok t mt
    · have g := (hr (dI ps) d).1
      have w := (hr (dI p1) d).2
      have c : sCallM 1 d_law_take (sA1 (sC (.int 9)) sA0) ((a0 :: .ow (dI ps) :: r).set 11 (.fz d)) = some (.int v, (a0 :: .ow (dI p1) :: r).set 11 (.fz d)) := by
        have := callM1 (den := d_law_take) (a := sA1 (sC (.int 9)) sA0) (ps := dI ps) (ps' := dI p1) (xs := [.int 9]) (a0 := a0) (r := r.set 9 (.fz d)) (d := .int v) rfl e1
        simpa using this
      unfold lcL
      simp only [g, sYes, c, w]
      have e2' : lcL [11] (gN 11) (fun δ => some (true, δ)) (sCallM 1 d_law_take (sA1 (sC (.int 9)) sA0)) l (a0 :: .ow (dI p1) :: r) = some (dI ts, a0 :: .ow (dI p2) :: r) := e2
      first
        | rw [e2']; rfl
        | rw [e2]; rfl
theorem isort_srt {ts : List Int} (h : ∀ t ∈ ts, 0 ≤ t ∧ t < 9) : Srt (isort ts) ∧ (∀ t ∈ isort ts, t ≤ 8) ∧ (isort ts).length = ts.length := by
  have p := isort_perm ts
  exact ⟨⟨isort_sorted ts, fun t m => (h t (p.mem_iff.mp m)).1⟩, fun t m => by have := (h t (p.mem_iff.mp m)).2; omega, p.length_eq⟩
theorem sorted_ints (ts : List Int) : sortedR [.list (dI ts)] = some (dI (isort ts)) := by
  unfold sortedR dI
  simp only [intsD_map]
/-! what holds of the drawn -/
structure Drawn (rows : List Rw) (xs : List Int) : Prop where
  row : RowOk rows
  srt : Srt xs
  top : ∀ x ∈ xs, x ≤ 8
  few : xs.length ≤ 9
section
variable {rows : List Rw} {xs : List Int}
def hld (rows : List Rw) (xs : List Int) : List Int := sh (tot rows) (outsF rows xs)
theorem hld_len (D : Drawn rows xs) : (hld rows xs).length = xs.length := by unfold hld sh; rw [List.length_map]; exact (outsF_ok rows xs (row_pos D.row) D.srt).2
theorem hld_srt (D : Drawn rows xs) : Srt (hld rows xs) := sh_srt (outsF_ok rows xs (row_pos D.row) D.srt).1.srt (outs_tot D.row D.srt)
theorem hld_cap (D : Drawn rows xs) : ∀ r ∈ rows, Cap r.2 (hld rows xs) := fun r m => cap_sh (outsF_cap (row_pos D.row) D.srt r m)
theorem hld_outs (D : Drawn rows xs) : outsF rows (hld rows xs) = outsF rows xs := by
  rw [outsF_free (row_pos D.row) (hld_srt D) (hld_cap D)]
  unfold hld sh
  rw [List.map_map]
  have : ((fun x => x + tot rows) ∘ fun x => x - tot rows) = id := by funext x; show x - tot rows + tot rows = x; omega
  rw [this, List.map_id]
/-- the outs, less what the row takes, lie within 8 + k -/
theorem outs_low {c : Int} : ∀ (rows : List Rw) (xs : List Int) (a : Int), (∀ r ∈ rows, 1 ≤ r.1 ∧ 1 ≤ r.2) → 0 ≤ a → (∀ (k : Nat) (x : Int), xs[k]? = some x → x ≤ a + k) → ∀ (k : Nat) (w : Int), (outsF rows xs)[k]? = some w → w ≤ a + tot rows + k
  | [], xs, a, _, _, h, k, w, e => by
    have := h k w e
    show w ≤ a + 0 + k
    omega
  | r :: rows, xs, a, hr, ha, h, k, w, e => by
    have rr := hr r (by simp)
    have := outs_low (c := c) rows (stg xs r) (a + r.1) (fun q m => hr q (by simp [m])) (by omega) (fun k x hx => by
      unfold stg at hx
      rw [List.getElem?_map] at hx
      cases q : (goes r.2 xs)[k]? with
      | none => rw [q] at hx; cases hx
      | some g =>
        rw [q] at hx
        have e : g + r.1 = x := Option.some.inj hx
        have := goes_le (c := r.2) rr.2 ha xs h k g q
        omega) k w e
    rw [tot_cons]; omega
theorem hld_top (D : Drawn rows xs) : ∀ h ∈ hld rows xs, h ≤ 16 := fun h m => by
  unfold hld sh at m
  obtain ⟨w, mw, rfl⟩ := List.mem_map.mp m
  obtain ⟨k, hk, e⟩ := List.getElem_of_mem mw
  have := outs_low (c := 0) rows xs 8 (row_pos D.row) (by omega) (fun k x hx => by have := D.top x (List.mem_of_getElem? hx); omega) k w (by rw [List.getElem?_eq_getElem hk, e])
  rw [(outsF_ok rows xs (row_pos D.row) D.srt).2] at hk
  have := D.few
  show w - tot rows ≤ 16
  omega
/-- no waits for those held back -/
theorem goes_free {k : Nat} : ∀ {rows : List Rw} {ys : List Int}, (∀ r ∈ rows, 1 ≤ r.1 ∧ 1 ≤ r.2) → Srt ys → (∀ r ∈ rows, Cap r.2 ys) → ∀ z ∈ wtF rows ys k, z = 0
  | [], _, _, _, _, z, m => nomatch m
  | r :: rows, ys, hr, hy, hc, z, m => by
    have rr := hr r (by simp)
    have e := goes_self ys hy (hc r (by simp))
    have e2 : stg ys r = ys.map (· + r.1) := by unfold stg; rw [e]
    have m : z ∈ ((goes r.2 ys).getD k 0 - ys.getD k 0) :: wtF rows (stg ys r) k := m
    rcases List.mem_cons.mp m with q | q
    · rw [q, e]; omega
    · exact goes_free (rows := rows) (ys := stg ys r) (fun q m => hr q (by simp [m])) (stg_srt hy (by omega) rr.2) (fun q mq => by rw [e2]; exact cap_add (hc q (by simp [mq]))) z q
end
end L95

end
section
set_option Elab.async false
set_option linter.all false
set_option maxRecDepth 100000
/-! The law: one turn. -/
namespace L95
open PySem PySem.Spec PyProof.Rows L2 Fw Pl
theorem sC2_eq {r : List PyData → Option PyData} {f g : F} {δ δ1 δ2 : Fw.Env} {x y z : PyData} (hf : f δ = some (x, δ1)) (hg : g δ1 = some (y, δ2)) (hr : r [x, y] = some z) : sCall r (sA1 f (sA1 g sA0)) δ = some (z, δ2) := by
  unfold sCall sA1 sA0
  rw [hf]
  show (match (match (match g δ1 with | some (x, δ1) => some ([x], δ1) | none => none) with | some (xs, δ2) => some (x :: xs, δ2) | none => none) with | some (xs, δ1) => (match r xs with | some z => some (z, δ1) | none => none) | none => none) = _
  rw [hg]
  show (match r [x, y] with | some z => some (z, δ2) | none => none) = _
  rw [hr]
theorem rgOf_ok {n : Int} (h : rgOk 0 n) : rgOf [.int n] = some (rangeD 0 n) := by
  rw [rgOf, if_pos h]
theorem tup_a {n : Int} (h : rgOk 0 n) : tupRg [.int n] = some (.tuple (rangeD 0 n)) := by
  unfold tupRg
  rw [rgOf_ok h]
theorem rgOk_nat {m : Nat} (h : m ≤ 1000) : rgOk 0 (m : Int) := by
  have h3 : 2 ^ 10 ≤ 2 ^ 24 := Nat.pow_le_pow_right (by omega) (by omega)
  refine ⟨by decide, by decide, by omega, by omega, ?_⟩
  refine Nat.le_trans ?_ h3
  omega
theorem rg_d {m : Nat} : PyData.tuple (rangeD 0 (m : Int)) = routeD m := by
  rw [rangeD_nat]
  unfold routeD dI rt
  rw [List.map_map]; rfl
theorem tup_route {m : Nat} (h : m ≤ 1000) : tupRg [.int (m : Int)] = some (routeD m) := by rw [tup_a (rgOk_nat h), rg_d]
theorem stI_snd (rows : List Rw) : (stI rows).map (fun p => rwD p.2) = rows.map rwD := by
  have : (stI rows).map (fun p => p.2) = rows := by unfold stI; exact List.map_snd_zip (by simp)
  have e : (fun p : Nat × Rw => rwD p.2) = rwD ∘ fun p => p.2 := rfl
  rw [e, ← List.map_map, this]
section
variable {ns : List Int} {ps : List Int} {i : Int} {rows : List Rw} {xs : List Int} {u3 u4 u5 u10 u12 u14 u15 u16 u19 u20 : Fw.Slot} [Fre u3] [Fre u4] [Fre u5] [Fre u10] [Fre u12] [Fre u14] [Fre u15] [Fre u16] [Fre u19] [Fre u20]
theorem lw5 (hr : RowOk rows) : xSet 5 (sCall tupleR (sA1 (sFz (sLc [6, 7, 8, 9] (wIx (s2 ixR (sV 3) (sC (.int 1)))) (gT 4 (gCns (gN 6) (gCns (gN 7) (gCns (gN 8) (gCns (gN 9) Fw.gNil))))) sYes (sTup (sA1 (sV 8) (sA1 (sTup (sA1 (sV 9) sA0)) sA0))))) sA0)) [.sc ns, .ow (dI ps), .fz (.int i), .fz (hallD rows), .fz (routeD rows.length), u5, .un, .un, .un, .un, u10, .un, u12, .un, u14, u15, u16, .un, .un, u19, u20, .un, .un] = some (.nx [.sc ns, .ow (dI ps), .fz (.int i), .fz (hallD rows), .fz (routeD rows.length), .fz (rowD rows), .un, .un, .un, .un, u10, .un, u12, .un, u14, u15, u16, .un, .un, u19, u20, .un, .un]) := by
  have h1 : ixR (hallD rows) (.int 1) = some (.tuple (stsD 0 rows)) := ix_t1
  have z1 : 1 ≤ sizeLine := by rw [sizeLine_eq]; omega
  have z2 : 2 ≤ sizeLine := by rw [sizeLine_eq]; omega
  have hL := sLc_map (vs := [6, 7, 8, 9]) (it := wIx (s2 ixR (sV 3) (sC (.int 1)))) (p := gT 4 (gCns (gN 6) (gCns (gN 7) (gCns (gN 8) (gCns (gN 9) Fw.gNil))))) (e := sTup (sA1 (sV 8) (sA1 (sTup (sA1 (sV 9) sA0)) sA0))) (δ0 := [.sc ns, .ow (dI ps), .fz (.int i), .fz (hallD rows), .fz (routeD rows.length), u5, .un, .un, .un, .un, u10, .un, u12, .un, u14, u15, u16, .un, .un, u19, u20, .un, .un]) (δ1 := [.sc ns, .ow (dI ps), .fz (.int i), .fz (hallD rows), .fz (routeD rows.length), u5, .un, .un, .un, .un, u10, .un, u12, .un, u14, u15, u16, .un, .un, u19, u20, .un, .un]) (as := stI rows) (enc := fun p => stD p.1 p.2) (fun p => rwD p.2)
    (by simp [h1, stsD_map, xRet, xRetL, xSeq, xSet, xSetL, xIf, xDrop, xAsg, xNil, xNo, xPar, puts, xApp, xAug, xIce, xUn, s1, s2, sA0, sA1, sCall, sCallL, sCallM, sCallS, sCallSL, sB, sAndT, sOrT, sNotT, sAnd, sOr, sIf, sTup, sLst, sFz, sV, sC, sChain, sLenO, sIxO, sCmpO, sPop, sSl, sRevO, sRevD, rNil, rF, rL, rLL, addR, subR, fdivR, modR, ltR, leR, gtR, geR, isNR, notNR, isNone, len_t, len_l, absR, intR, minR, tupleR, isiR, subTy, tyD, revTR, negR, gN, gT, gCns, Fw.gNil, oN, oS, lstOf, setLst, ice, noAl, sYes, wipeE, idle, put_c0, put_c1, put_c2, put_c3, put_c4, put_c5, put_c6, put_c7, put_c8, put_c9, put_c10, put_c11, put_c12, put_c13, put_c14, put_c15, put_c16, put_c17, put_c18, put_c19, put_c20, put_c21, put_c22, put_c23, wIx, itD]) rfl (fun p m => ⟨[.sc ns, .ow (dI ps), .fz (.int i), .fz (hallD rows), .fz (routeD rows.length), u5, .fz (.int p.1), .fz (.int ((p.1 : Int) + 1)), .fz (.int p.2.1), .fz (.int p.2.2), u10, .un, u12, .un, u14, u15, u16, .un, .un, u19, u20, .un, .un], by simp [stD, xRet, xRetL, xSeq, xSet, xSetL, xIf, xDrop, xAsg, xNil, xNo, xPar, puts, xApp, xAug, xIce, xUn, s1, s2, sA0, sA1, sCall, sCallL, sCallM, sCallS, sCallSL, sB, sAndT, sOrT, sNotT, sAnd, sOr, sIf, sTup, sLst, sFz, sV, sC, sChain, sLenO, sIxO, sCmpO, sPop, sSl, sRevO, sRevD, rNil, rF, rL, rLL, addR, subR, fdivR, modR, ltR, leR, gtR, geR, isNR, notNR, isNone, len_t, len_l, absR, intR, minR, tupleR, isiR, subTy, tyD, revTR, negR, gN, gT, gCns, Fw.gNil, oN, oS, lstOf, setLst, ice, noAl, sYes, wipeE, idle, put_c0, put_c1, put_c2, put_c3, put_c4, put_c5, put_c6, put_c7, put_c8, put_c9, put_c10, put_c11, put_c12, put_c13, put_c14, put_c15, put_c16, put_c17, put_c18, put_c19, put_c20, put_c21, put_c22, put_c23], by simp [z1, z2, xRet, xRetL, xSeq, xSet, xSetL, xIf, xDrop, xAsg, xNil, xNo, xPar, puts, xApp, xAug, xIce, xUn, s1, s2, sA0, sA1, sCall, sCallL, sCallM, sCallS, sCallSL, sB, sAndT, sOrT, sNotT, sAnd, sOr, sIf, sTup, sLst, sFz, sV, sC, sChain, sLenO, sIxO, sCmpO, sPop, sSl, sRevO, sRevD, rNil, rF, rL, rLL, addR, subR, fdivR, modR, ltR, leR, gtR, geR, isNR, notNR, isNone, len_t, len_l, absR, intR, minR, tupleR, isiR, subTy, tyD, revTR, negR, gN, gT, gCns, Fw.gNil, oN, oS, lstOf, setLst, ice, noAl, sYes, wipeE, idle, put_c0, put_c1, put_c2, put_c3, put_c4, put_c5, put_c6, put_c7, put_c8, put_c9, put_c10, put_c11, put_c12, put_c13, put_c14, put_c15, put_c16, put_c17, put_c18, put_c19, put_c20, put_c21, put_c22, put_c23], by simp [xRet, xRetL, xSeq, xSet, xSetL, xIf, xDrop, xAsg, xNil, xNo, xPar, puts, xApp, xAug, xIce, xUn, s1, s2, sA0, sA1, sCall, sCallL, sCallM, sCallS, sCallSL, sB, sAndT, sOrT, sNotT, sAnd, sOr, sIf, sTup, sLst, sFz, sV, sC, sChain, sLenO, sIxO, sCmpO, sPop, sSl, sRevO, sRevD, rNil, rF, rL, rLL, addR, subR, fdivR, modR, ltR, leR, gtR, geR, isNR, notNR, isNone, len_t, len_l, absR, intR, minR, tupleR, isiR, subTy, tyD, revTR, negR, gN, gT, gCns, Fw.gNil, oN, oS, lstOf, setLst, ice, noAl, sYes, wipeE, idle, put_c0, put_c1, put_c2, put_c3, put_c4, put_c5, put_c6, put_c7, put_c8, put_c9, put_c10, put_c11, put_c12, put_c13, put_c14, put_c15, put_c16, put_c17, put_c18, put_c19, put_c20, put_c21, put_c22, put_c23]⟩)
  rw [stI_snd] at hL
  exact xSet_eq (sC1_eq (sFz_eq hL) rfl) put_c5
theorem lw12 : xSet 12 (sCall tupleR (sA1 (sFz (sLc [13] (wIx (sV 10)) (gN 13) sYes (sTup (sA1 (sV 13) (sA1 (sV 4) sA0))))) sA0)) [.sc ns, .ow (dI ps), .fz (.int i), .fz (hallD rows), .fz (routeD rows.length), .fz (rowD rows), .un, .un, .un, .un, .fz (.tuple (dI xs)), .un, u12, .un, u14, u15, u16, .un, .un, u19, u20, .un, .un] = some (.nx [.sc ns, .ow (dI ps), .fz (.int i), .fz (hallD rows), .fz (routeD rows.length), .fz (rowD rows), .un, .un, .un, .un, .fz (.tuple (dI xs)), .un, .fz (ppD rows.length xs), .un, u14, u15, u16, .un, .un, u19, u20, .un, .un]) := by
  have z2 : 2 ≤ sizeLine := by rw [sizeLine_eq]; omega
  have hL := sLc_map (vs := [13]) (it := wIx (sV 10)) (p := gN 13) (e := sTup (sA1 (sV 13) (sA1 (sV 4) sA0))) (δ0 := [.sc ns, .ow (dI ps), .fz (.int i), .fz (hallD rows), .fz (routeD rows.length), .fz (rowD rows), .un, .un, .un, .un, .fz (.tuple (dI xs)), .un, u12, .un, u14, u15, u16, .un, .un, u19, u20, .un, .un]) (δ1 := [.sc ns, .ow (dI ps), .fz (.int i), .fz (hallD rows), .fz (routeD rows.length), .fz (rowD rows), .un, .un, .un, .un, .fz (.tuple (dI xs)), .un, u12, .un, u14, u15, u16, .un, .un, u19, u20, .un, .un]) (as := xs) (enc := .int) (fun x => peD rows.length x) (by simp [dI, xRet, xRetL, xSeq, xSet, xSetL, xIf, xDrop, xAsg, xNil, xNo, xPar, puts, xApp, xAug, xIce, xUn, s1, s2, sA0, sA1, sCall, sCallL, sCallM, sCallS, sCallSL, sB, sAndT, sOrT, sNotT, sAnd, sOr, sIf, sTup, sLst, sFz, sV, sC, sChain, sLenO, sIxO, sCmpO, sPop, sSl, sRevO, sRevD, rNil, rF, rL, rLL, addR, subR, fdivR, modR, ltR, leR, gtR, geR, isNR, notNR, isNone, len_t, len_l, absR, intR, minR, tupleR, isiR, subTy, tyD, revTR, negR, gN, gT, gCns, Fw.gNil, oN, oS, lstOf, setLst, ice, noAl, sYes, wipeE, idle, put_c0, put_c1, put_c2, put_c3, put_c4, put_c5, put_c6, put_c7, put_c8, put_c9, put_c10, put_c11, put_c12, put_c13, put_c14, put_c15, put_c16, put_c17, put_c18, put_c19, put_c20, put_c21, put_c22, put_c23, wIx, itD]) rfl (fun x m => ⟨[.sc ns, .ow (dI ps), .fz (.int i), .fz (hallD rows), .fz (routeD rows.length), .fz (rowD rows), .un, .un, .un, .un, .fz (.tuple (dI xs)), .un, u12, .fz (.int x), u14, u15, u16, .un, .un, u19, u20, .un, .un], by simp [xRet, xRetL, xSeq, xSet, xSetL, xIf, xDrop, xAsg, xNil, xNo, xPar, puts, xApp, xAug, xIce, xUn, s1, s2, sA0, sA1, sCall, sCallL, sCallM, sCallS, sCallSL, sB, sAndT, sOrT, sNotT, sAnd, sOr, sIf, sTup, sLst, sFz, sV, sC, sChain, sLenO, sIxO, sCmpO, sPop, sSl, sRevO, sRevD, rNil, rF, rL, rLL, addR, subR, fdivR, modR, ltR, leR, gtR, geR, isNR, notNR, isNone, len_t, len_l, absR, intR, minR, tupleR, isiR, subTy, tyD, revTR, negR, gN, gT, gCns, Fw.gNil, oN, oS, lstOf, setLst, ice, noAl, sYes, wipeE, idle, put_c0, put_c1, put_c2, put_c3, put_c4, put_c5, put_c6, put_c7, put_c8, put_c9, put_c10, put_c11, put_c12, put_c13, put_c14, put_c15, put_c16, put_c17, put_c18, put_c19, put_c20, put_c21, put_c22, put_c23], by simp [z2, xRet, xRetL, xSeq, xSet, xSetL, xIf, xDrop, xAsg, xNil, xNo, xPar, puts, xApp, xAug, xIce, xUn, s1, s2, sA0, sA1, sCall, sCallL, sCallM, sCallS, sCallSL, sB, sAndT, sOrT, sNotT, sAnd, sOr, sIf, sTup, sLst, sFz, sV, sC, sChain, sLenO, sIxO, sCmpO, sPop, sSl, sRevO, sRevD, rNil, rF, rL, rLL, addR, subR, fdivR, modR, ltR, leR, gtR, geR, isNR, notNR, isNone, len_t, len_l, absR, intR, minR, tupleR, isiR, subTy, tyD, revTR, negR, gN, gT, gCns, Fw.gNil, oN, oS, lstOf, setLst, ice, noAl, sYes, wipeE, idle, put_c0, put_c1, put_c2, put_c3, put_c4, put_c5, put_c6, put_c7, put_c8, put_c9, put_c10, put_c11, put_c12, put_c13, put_c14, put_c15, put_c16, put_c17, put_c18, put_c19, put_c20, put_c21, put_c22, put_c23], by simp [xRet, xRetL, xSeq, xSet, xSetL, xIf, xDrop, xAsg, xNil, xNo, xPar, puts, xApp, xAug, xIce, xUn, s1, s2, sA0, sA1, sCall, sCallL, sCallM, sCallS, sCallSL, sB, sAndT, sOrT, sNotT, sAnd, sOr, sIf, sTup, sLst, sFz, sV, sC, sChain, sLenO, sIxO, sCmpO, sPop, sSl, sRevO, sRevD, rNil, rF, rL, rLL, addR, subR, fdivR, modR, ltR, leR, gtR, geR, isNR, notNR, isNone, len_t, len_l, absR, intR, minR, tupleR, isiR, subTy, tyD, revTR, negR, gN, gT, gCns, Fw.gNil, oN, oS, lstOf, setLst, ice, noAl, sYes, wipeE, idle, put_c0, put_c1, put_c2, put_c3, put_c4, put_c5, put_c6, put_c7, put_c8, put_c9, put_c10, put_c11, put_c12, put_c13, put_c14, put_c15, put_c16, put_c17, put_c18, put_c19, put_c20, put_c21, put_c22, put_c23]⟩)
  exact xSet_eq (sC1_eq (sFz_eq hL) rfl) put_c12
theorem lw16 : xSet 16 (sCall tupleR (sA1 (sFz (sLc [13] (wIx (sV 15)) (gN 13) sYes (sTup (sA1 (sV 13) (sA1 (sV 4) sA0))))) sA0)) [.sc ns, .ow (dI ps), .fz (.int i), .fz (hallD rows), .fz (routeD rows.length), .fz (rowD rows), .un, .un, .un, .un, .fz (.tuple (dI xs)), .un, .fz (ppD rows.length xs), .un, .fz (.tuple (dI (outsF rows xs))), .fz (.tuple (dI (hld rows xs))), u16, .un, .un, u19, u20, .un, .un] = some (.nx [.sc ns, .ow (dI ps), .fz (.int i), .fz (hallD rows), .fz (routeD rows.length), .fz (rowD rows), .un, .un, .un, .un, .fz (.tuple (dI xs)), .un, .fz (ppD rows.length xs), .un, .fz (.tuple (dI (outsF rows xs))), .fz (.tuple (dI (hld rows xs))), .fz (ppD rows.length (hld rows xs)), .un, .un, u19, u20, .un, .un]) := by
  have z2 : 2 ≤ sizeLine := by rw [sizeLine_eq]; omega
  have hL := sLc_map (vs := [13]) (it := wIx (sV 15)) (p := gN 13) (e := sTup (sA1 (sV 13) (sA1 (sV 4) sA0))) (δ0 := [.sc ns, .ow (dI ps), .fz (.int i), .fz (hallD rows), .fz (routeD rows.length), .fz (rowD rows), .un, .un, .un, .un, .fz (.tuple (dI xs)), .un, .fz (ppD rows.length xs), .un, .fz (.tuple (dI (outsF rows xs))), .fz (.tuple (dI (hld rows xs))), u16, .un, .un, u19, u20, .un, .un]) (δ1 := [.sc ns, .ow (dI ps), .fz (.int i), .fz (hallD rows), .fz (routeD rows.length), .fz (rowD rows), .un, .un, .un, .un, .fz (.tuple (dI xs)), .un, .fz (ppD rows.length xs), .un, .fz (.tuple (dI (outsF rows xs))), .fz (.tuple (dI (hld rows xs))), u16, .un, .un, u19, u20, .un, .un]) (as := hld rows xs) (enc := .int) (fun x => peD rows.length x) (by simp [dI, xRet, xRetL, xSeq, xSet, xSetL, xIf, xDrop, xAsg, xNil, xNo, xPar, puts, xApp, xAug, xIce, xUn, s1, s2, sA0, sA1, sCall, sCallL, sCallM, sCallS, sCallSL, sB, sAndT, sOrT, sNotT, sAnd, sOr, sIf, sTup, sLst, sFz, sV, sC, sChain, sLenO, sIxO, sCmpO, sPop, sSl, sRevO, sRevD, rNil, rF, rL, rLL, addR, subR, fdivR, modR, ltR, leR, gtR, geR, isNR, notNR, isNone, len_t, len_l, absR, intR, minR, tupleR, isiR, subTy, tyD, revTR, negR, gN, gT, gCns, Fw.gNil, oN, oS, lstOf, setLst, ice, noAl, sYes, wipeE, idle, put_c0, put_c1, put_c2, put_c3, put_c4, put_c5, put_c6, put_c7, put_c8, put_c9, put_c10, put_c11, put_c12, put_c13, put_c14, put_c15, put_c16, put_c17, put_c18, put_c19, put_c20, put_c21, put_c22, put_c23, wIx, itD]) rfl (fun x m => ⟨[.sc ns, .ow (dI ps), .fz (.int i), .fz (hallD rows), .fz (routeD rows.length), .fz (rowD rows), .un, .un, .un, .un, .fz (.tuple (dI xs)), .un, .fz (ppD rows.length xs), .fz (.int x), .fz (.tuple (dI (outsF rows xs))), .fz (.tuple (dI (hld rows xs))), u16, .un, .un, u19, u20, .un, .un], by simp [xRet, xRetL, xSeq, xSet, xSetL, xIf, xDrop, xAsg, xNil, xNo, xPar, puts, xApp, xAug, xIce, xUn, s1, s2, sA0, sA1, sCall, sCallL, sCallM, sCallS, sCallSL, sB, sAndT, sOrT, sNotT, sAnd, sOr, sIf, sTup, sLst, sFz, sV, sC, sChain, sLenO, sIxO, sCmpO, sPop, sSl, sRevO, sRevD, rNil, rF, rL, rLL, addR, subR, fdivR, modR, ltR, leR, gtR, geR, isNR, notNR, isNone, len_t, len_l, absR, intR, minR, tupleR, isiR, subTy, tyD, revTR, negR, gN, gT, gCns, Fw.gNil, oN, oS, lstOf, setLst, ice, noAl, sYes, wipeE, idle, put_c0, put_c1, put_c2, put_c3, put_c4, put_c5, put_c6, put_c7, put_c8, put_c9, put_c10, put_c11, put_c12, put_c13, put_c14, put_c15, put_c16, put_c17, put_c18, put_c19, put_c20, put_c21, put_c22, put_c23], by simp [z2, xRet, xRetL, xSeq, xSet, xSetL, xIf, xDrop, xAsg, xNil, xNo, xPar, puts, xApp, xAug, xIce, xUn, s1, s2, sA0, sA1, sCall, sCallL, sCallM, sCallS, sCallSL, sB, sAndT, sOrT, sNotT, sAnd, sOr, sIf, sTup, sLst, sFz, sV, sC, sChain, sLenO, sIxO, sCmpO, sPop, sSl, sRevO, sRevD, rNil, rF, rL, rLL, addR, subR, fdivR, modR, ltR, leR, gtR, geR, isNR, notNR, isNone, len_t, len_l, absR, intR, minR, tupleR, isiR, subTy, tyD, revTR, negR, gN, gT, gCns, Fw.gNil, oN, oS, lstOf, setLst, ice, noAl, sYes, wipeE, idle, put_c0, put_c1, put_c2, put_c3, put_c4, put_c5, put_c6, put_c7, put_c8, put_c9, put_c10, put_c11, put_c12, put_c13, put_c14, put_c15, put_c16, put_c17, put_c18, put_c19, put_c20, put_c21, put_c22, put_c23], by simp [xRet, xRetL, xSeq, xSet, xSetL, xIf, xDrop, xAsg, xNil, xNo, xPar, puts, xApp, xAug, xIce, xUn, s1, s2, sA0, sA1, sCall, sCallL, sCallM, sCallS, sCallSL, sB, sAndT, sOrT, sNotT, sAnd, sOr, sIf, sTup, sLst, sFz, sV, sC, sChain, sLenO, sIxO, sCmpO, sPop, sSl, sRevO, sRevD, rNil, rF, rL, rLL, addR, subR, fdivR, modR, ltR, leR, gtR, geR, isNR, notNR, isNone, len_t, len_l, absR, intR, minR, tupleR, isiR, subTy, tyD, revTR, negR, gN, gT, gCns, Fw.gNil, oN, oS, lstOf, setLst, ice, noAl, sYes, wipeE, idle, put_c0, put_c1, put_c2, put_c3, put_c4, put_c5, put_c6, put_c7, put_c8, put_c9, put_c10, put_c11, put_c12, put_c13, put_c14, put_c15, put_c16, put_c17, put_c18, put_c19, put_c20, put_c21, put_c22, put_c23]⟩)
  exact xSet_eq (sC1_eq (sFz_eq hL) rfl) put_c16
end
end L95

end
section
set_option Elab.async false
set_option linter.all false
set_option maxRecDepth 100000
/-! The law: the sizes of what is shown. -/
namespace L95
open PySem PySem.Spec PyProof.Rows L2 Fw Pl
theorem tot_few : ∀ {rows : List Rw}, (∀ r ∈ rows, r.1 ≤ 6) → tot rows ≤ 6 * rows.length
  | [], _ => by show (0 : Int) ≤ _; simp
  | r :: rows, h => by
    have a := h r (by simp)
    have b := tot_few (rows := rows) fun q m => h q (by simp [m])
    rw [tot_cons, List.length_cons]; omega
theorem tot24 {rows : List Rw} (h : RowOk rows) : tot rows ≤ 24 := by
  have a := tot_few fun r m => (h.ok r m).2.1
  have := h.few
  omega
section
variable {rows : List Rw} {xs : List Int}
theorem outs_big (D : Drawn rows xs) : ∀ w ∈ outsF rows xs, 0 ≤ w ∧ w ≤ 40 := fun w m => by
  have a := (outsF_ok rows xs (row_pos D.row) D.srt).1.pos w m
  have b := hld_top D (w - tot rows) (by unfold hld sh; exact List.mem_map_of_mem m)
  have := tot24 D.row
  exact ⟨a, by omega⟩
theorem wt_big {k : Nat} : ∀ {rows : List Rw} {xs : List Int} {a : Int}, (∀ r ∈ rows, 1 ≤ r.1 ∧ 1 ≤ r.2 ∧ r.1 ≤ 6) → Srt xs → 0 ≤ a → (∀ (k : Nat) (x : Int), xs[k]? = some x → x ≤ a + k) → ∀ z ∈ wtF rows xs k, 0 ≤ z ∧ z ≤ a + 6 * rows.length + k
  | [], _, _, _, _, _, _, z, m => nomatch m
  | r :: rows, xs, a, hr, hx, ha, h, z, m => by
    have rr := hr r (by simp)
    have m : z ∈ ((goes r.2 xs).getD k 0 - xs.getD k 0) :: wtF rows (stg xs r) k := m
    rcases List.mem_cons.mp m with q | q
    · rw [List.getD_eq_getElem?_getD, List.getD_eq_getElem?_getD] at q
      by_cases hk : k < xs.length
      · have hk2 : k < (goes r.2 xs).length := by rw [goes_len]; exact hk
        have e1 : (goes r.2 xs)[k]? = some (goes r.2 xs)[k] := List.getElem?_eq_getElem hk2
        have e2 : xs[k]? = some xs[k] := List.getElem?_eq_getElem hk
        have u := goes_le (c := r.2) rr.2.1 ha xs h k _ e1
        have l := (gd_goes rr.2.1 xs hx).ge k _ _ e2 e1
        have p := hx.pos xs[k] (List.getElem_mem hk)
        rw [e1, e2] at q
        simp only [Option.getD_some] at q
        rw [List.length_cons]; omega
      · rw [List.getElem?_eq_none (by rw [goes_len]; omega), List.getElem?_eq_none (by omega)] at q
        simp only [Option.getD_none] at q
        rw [List.length_cons]; omega
    · have := wt_big (rows := rows) (xs := stg xs r) (a := a + r.1) (fun q m => hr q (by simp [m])) (stg_srt hx (by omega) rr.2.1) (by omega) (fun k x hx => by
        unfold stg at hx
        rw [List.getElem?_map] at hx
        cases q : (goes r.2 xs)[k]? with
        | none => rw [q] at hx; cases hx
        | some g =>
          rw [q] at hx
          have e : g + r.1 = x := Option.some.inj hx
          have := goes_le (c := r.2) rr.2.1 ha xs h k g q
          omega) z q
      rw [List.length_cons]; omega
theorem sm_ints {ws : List Int} {b n : Nat} (hl : ws.length ≤ b) (h : ∀ w ∈ ws, 0 ≤ w ∧ w < 1000000000) : sm b (n + 1) (.tuple (dI ws)) := by
  refine ⟨by rw [dI_len]; exact hl, fun x m => ?_⟩
  obtain ⟨w, mw, rfl⟩ := List.mem_map.mp m
  cases n <;> exact h w mw
theorem sm_outs (D : Drawn rows xs) {n : Nat} : sm 9 (n + 1) (.tuple (dI (outsF rows xs))) :=
  sm_ints (by rw [(outsF_ok rows xs (row_pos D.row) D.srt).2]; exact D.few) fun w m => by have := outs_big D w m; omega
theorem sm_waits (D : Drawn rows xs) {n : Nat} : sm 9 (n + 2) (wtD rows xs) := by
  refine ⟨by rw [List.length_map, List.length_range]; exact D.few, fun x m => ?_⟩
  obtain ⟨k, mk, rfl⟩ := List.mem_map.mp m
  have mk := List.mem_range.mp mk
  have few := D.few
  have f2 := D.row.few
  refine sm_ints (by unfold wtF; rw [List.length_map, logF_len]; omega) fun w mw => ?_
  have := wt_big (k := k) (a := 8) (fun r m => ⟨(D.row.ok r m).1, (D.row.ok r m).2.2.1, (D.row.ok r m).2.1⟩) D.srt (by omega) (fun k x hx => by have := D.top x (List.mem_of_getElem? hx); omega) w mw
  omega
theorem repr_both (D : Drawn rows xs) : ∃ s, reprR [.list [.tuple (dI (outsF rows xs)), wtD rows xs]] = some (.str s) :=
  ⟨_, repr_l (b := 9) (n := 3) ⟨by show 2 ≤ 9; omega, fun x m => by
    rcases List.mem_cons.mp m with rfl | m
    · exact sm_outs D
    · rcases List.mem_cons.mp m with rfl | m
      · exact sm_waits D
      · cases m⟩ (by omega) (by decide)⟩
theorem repr_outs (D : Drawn rows xs) : ∃ s, reprR [.tuple (dI (outsF rows xs))] = some (.str s) := ⟨_, repr_t (b := 9) (n := 1) (sm_outs D) (by omega) (by decide)⟩
end
end L95

end
section
set_option Elab.async false
set_option linter.all false
set_option maxRecDepth 100000
/-! The law: the steps of one turn. -/
namespace L95
open PySem PySem.Spec PyProof.Rows L2 Fw Pl
theorem sL2_eq {f g : F} {δ δ1 δ2 : Fw.Env} {x y : PyData} (hf : f δ = some (x, δ1)) (hg : g δ1 = some (y, δ2)) : sFz (sLst (sA1 f (sA1 g sA0))) δ = some (.list [x, y], δ2) := by
  have z : [x, y].length ≤ sizeLine := by rw [sizeLine_eq]; show 2 ≤ _; omega
  unfold sFz sLst sA1 sA0
  simp only [hf, hg, if_pos z]
theorem sL1_eq {f : F} {δ δ1 : Fw.Env} {x : PyData} (hf : f δ = some (x, δ1)) : sFz (sLst (sA1 f sA0)) δ = some (.list [x], δ1) := by
  have z : [x].length ≤ sizeLine := by rw [sizeLine_eq]; show 1 ≤ _; omega
  unfold sFz sLst sA1 sA0
  simp only [hf, if_pos z]
theorem sCL1_eq {r : List PyData → Option (List PyData)} {f : F} {δ δ1 : Fw.Env} {x : PyData} {z : List PyData} (hf : f δ = some (x, δ1)) (hr : r [x] = some z) : sCallL r (sA1 f sA0) δ = some (z, δ1) := by
  unfold sCallL sA1 sA0
  simp only [hf, hr]
theorem sA1_1 {f : F} {δ δ1 : Fw.Env} {x : PyData} (hf : f δ = some (x, δ1)) : sA1 f sA0 δ = some ([x], δ1) := by
  unfold sA1 sA0
  simp only [hf]
theorem sB_eq {f : F} {δ δ1 : Fw.Env} {b : Bool} (h : f δ = some (.bool b, δ1)) : sB f δ = some (b, δ1) := by unfold sB; rw [h]
theorem xIf_no {c : FT} {g : FS} {δ δ1 : Fw.Env} (h : c δ = some (false, δ1)) : xIf c g xNil δ = some (.nx δ1) := by unfold xIf; rw [h]; rfl
theorem sOr_no {f g : FT} {δ δ1 δ2 : Fw.Env} (h : f δ = some (false, δ1)) (h2 : g δ1 = some (false, δ2)) : sOrT f g δ = some (false, δ2) := by unfold sOrT; rw [h]; exact h2
theorem ne_sum {a b : Int} (h : a = b) : neR (.int a) (.int b) = some (.bool false) := by rw [ne_int, h]; simp
theorem zip_sum : ∀ (as bs : List Int), as.length = bs.length → ((as.zip bs).map fun p : Int × Int => p.1 - p.2).sum = as.sum - bs.sum
  | [], [], _ => rfl
  | a :: as, b :: bs, h => by
    have := zip_sum as bs (by simpa using h)
    rw [List.zip_cons_cons, List.map_cons, List.sum_cons, List.sum_cons, List.sum_cons, this]; show a - b + _ = _; omega
theorem zip_sum2 : ∀ (as bs : List Int), as.length = bs.length → ((as.zip bs).map fun p : Int × Int => p.2 - p.1).sum = bs.sum - as.sum
  | [], [], _ => rfl
  | a :: as, b :: bs, h => by
    have := zip_sum2 as bs (by simpa using h)
    rw [List.zip_cons_cons, List.map_cons, List.sum_cons, List.sum_cons, List.sum_cons, this]; show b - a + _ = _; omega
theorem zipD_int : ∀ (as bs : List Int), zipD (dI as) (dI bs) = (as.zip bs).map fun p : Int × Int => PyData.tuple [.int p.1, .int p.2]
  | [], _ => rfl
  | _ :: _, [] => rfl
  | a :: as, b :: bs => by
    have := zipD_int as bs
    show PyData.tuple [.int a, .int b] :: zipD (dI as) (dI bs) = _
    rw [this]; rfl
theorem sum0 (zs : List Int) (h : ∀ z ∈ zs, z = 0) : zs.sum = 0 := by
  induction zs with
  | nil => rfl
  | cons z zs ih => rw [List.sum_cons, h z (by simp), ih fun y m => h y (by simp [m])]; rfl
section
variable {ns : List Int} {ps : List Int} {i : Int} {rows : List Rw} {xs : List Int} {u3 u4 u5 u10 u12 u14 u15 u16 u19 u20 : Fw.Slot} [Fre u3] [Fre u4] [Fre u5] [Fre u10] [Fre u12] [Fre u14] [Fre u15] [Fre u16] [Fre u19] [Fre u20]
theorem lw4 (hr : RowOk rows) : xSet 4 (sCall tupRg (sA1 (sCall lenR (sA1 (s2 ixR (sV 3) (sC (.int 1))) sA0)) sA0)) [.sc ns, .ow (dI ps), .fz (.int i), .fz (hallD rows), u4, u5, .un, .un, .un, .un, u10, .un, u12, .un, u14, u15, u16, .un, .un, u19, u20, .un, .un] = some (.nx [.sc ns, .ow (dI ps), .fz (.int i), .fz (hallD rows), .fz (routeD rows.length), u5, .un, .un, .un, .un, u10, .un, u12, .un, u14, u15, u16, .un, .un, u19, u20, .un, .un]) := by
  have h1 : ixR (hallD rows) (.int 1) = some (.tuple (stsD 0 rows)) := ix_t1
  have h2 : lenR [.tuple (stsD 0 rows)] = some (.int (rows.length : Int)) := by
    have : (stsD 0 rows).length = rows.length := by rw [stsD_map]; unfold stI; simp
    show some (PyData.int ((stsD 0 rows).length : Int)) = _
    rw [this]
  have := hr.few
  exact xSet_eq (sC1_eq (sC1_eq (s2_eq (x := hallD rows) (y := .int 1) rfl rfl h1) h2) (tup_route (by omega))) put_c4
theorem lw10 (hr : RowOk rows) : ∃ (xs : List Int) (ps' : List Int), Drawn rows xs ∧ xSet 10 (sCall tupleR (sA1 (sFz (sCallL sortedR (sA1 (sFz (sLc [11] (wRng1 (sA1 (sCallM 1 d_law_take (sA1 (sC (.int 10)) sA0)) sA0)) (gN 11) sYes (sCallM 1 d_law_take (sA1 (sC (.int 9)) sA0)))) sA0))) sA0)) [.sc ns, .ow (dI ps), .fz (.int i), .fz (hallD rows), .fz (routeD rows.length), .fz (rowD rows), .un, .un, .un, .un, u10, .un, u12, .un, u14, u15, u16, .un, .un, u19, u20, .un, .un] = some (.nx [.sc ns, .ow (dI ps'), .fz (.int i), .fz (hallD rows), .fz (routeD rows.length), .fz (rowD rows), .un, .un, .un, .un, .fz (.tuple (dI xs)), .un, u12, .un, u14, u15, u16, .un, .un, u19, u20, .un, .un]) := by
  obtain ⟨v, p1, e1, a1, b1⟩ := take_ok ps (lim := 10) (by omega)
  obtain ⟨m, rfl⟩ : ∃ m : Nat, v = m := ⟨v.toNat, by omega⟩
  obtain ⟨ts, p2, hl, hok, e2⟩ := tkL (a0 := .sc ns) (r := [.fz (.int i), .fz (hallD rows), .fz (routeD rows.length), .fz (rowD rows), .un, .un, .un, .un, u10, .un, u12, .un, u14, u15, u16, .un, .un, u19, u20, .un, .un]) (fun p d => ⟨rfl, rfl⟩) ((List.range m).map fun i : Nat => PyData.int (i : Int)) p1
  obtain ⟨q1, q2, q3⟩ := isort_srt hok
  refine ⟨isort ts, p2, ⟨hr, q1, q2, by rw [q3, hl]; simp; omega⟩, ?_⟩
  have c1 : sA1 (sCallM 1 d_law_take (sA1 (sC (.int 10)) sA0)) sA0 [.sc ns, .ow (dI ps), .fz (.int i), .fz (hallD rows), .fz (routeD rows.length), .fz (rowD rows), .un, .un, .un, .un, u10, .un, u12, .un, u14, u15, u16, .un, .un, u19, u20, .un, .un] = some ([.int (m : Int)], [.sc ns, .ow (dI p1), .fz (.int i), .fz (hallD rows), .fz (routeD rows.length), .fz (rowD rows), .un, .un, .un, .un, u10, .un, u12, .un, u14, u15, u16, .un, .un, u19, u20, .un, .un]) := by
    have := callM1 (den := d_law_take) (a := sA1 (sC (.int 10)) sA0) (ps := dI ps) (ps' := dI p1) (xs := [.int 10]) (a0 := .sc ns) (r := [.fz (.int i), .fz (hallD rows), .fz (routeD rows.length), .fz (rowD rows), .un, .un, .un, .un, u10, .un, u12, .un, u14, u15, u16, .un, .un, u19, u20, .un, .un]) (d := .int (m : Int)) rfl e1
    exact sA1_1 this
  have hw := wRng1_nat c1 (by omega)
  have hL : sLc [11] (wRng1 (sA1 (sCallM 1 d_law_take (sA1 (sC (.int 10)) sA0)) sA0)) (gN 11) sYes (sCallM 1 d_law_take (sA1 (sC (.int 9)) sA0)) [.sc ns, .ow (dI ps), .fz (.int i), .fz (hallD rows), .fz (routeD rows.length), .fz (rowD rows), .un, .un, .un, .un, u10, .un, u12, .un, u14, u15, u16, .un, .un, u19, u20, .un, .un] = some (dI ts, [.sc ns, .ow (dI p2), .fz (.int i), .fz (hallD rows), .fz (routeD rows.length), .fz (rowD rows), .un, .un, .un, .un, u10, .un, u12, .un, u14, u15, u16, .un, .un, u19, u20, .un, .un]) := by
    have hi : idle [.sc ns, .ow (dI p1), .fz (.int i), .fz (hallD rows), .fz (routeD rows.length), .fz (rowD rows), .un, .un, .un, .un, u10, .un, u12, .un, u14, u15, u16, .un, .un, u19, u20, .un, .un] [11] = true := rfl
    have hv : wipeE [.sc ns, .ow (dI p1), .fz (.int i), .fz (hallD rows), .fz (routeD rows.length), .fz (rowD rows), .un, .un, .un, .un, u10, .un, u12, .un, u14, u15, u16, .un, .un, u19, u20, .un, .un] [11] = [.sc ns, .ow (dI p1), .fz (.int i), .fz (hallD rows), .fz (routeD rows.length), .fz (rowD rows), .un, .un, .un, .un, u10, .un, u12, .un, u14, u15, u16, .un, .un, u19, u20, .un, .un] := rfl
    unfold sLc
    rw [hw]
    simp only [hi, if_true, hv, e2]
    rfl
  exact xSet_eq (sC1_eq (sFz_eq (sCL1_eq (sFz_eq hL) (sorted_ints ts))) rfl) put_c10
theorem lw14 (D : Drawn rows xs) : xSet 14 (sCall d_out_ticks (sA1 (sV 3) (sA1 (sV 12) sA0))) [.sc ns, .ow (dI ps), .fz (.int i), .fz (hallD rows), .fz (routeD rows.length), .fz (rowD rows), .un, .un, .un, .un, .fz (.tuple (dI xs)), .un, .fz (ppD rows.length xs), .un, u14, u15, u16, .un, .un, u19, u20, .un, .un] = some (.nx [.sc ns, .ow (dI ps), .fz (.int i), .fz (hallD rows), .fz (routeD rows.length), .fz (rowD rows), .un, .un, .un, .un, .fz (.tuple (dI xs)), .un, .fz (ppD rows.length xs), .un, .fz (.tuple (dI (outsF rows xs))), u15, u16, .un, .un, u19, u20, .un, .un]) :=
  xSet_eq (sC2_eq (x := hallD rows) (y := ppD rows.length xs) rfl rfl (out_ticks_ok D.row D.srt (by have := D.few; omega) fun x m => by have := D.top x m; omega)) put_c14
theorem lt1 (D : Drawn rows xs) : xIf (sB (s2 neSR (sCall reprR (sA1 (sFz (sLst (sA1 (sV 14) (sA1 (sCall d_waits (sA1 (sV 3) (sA1 (sV 12) sA0))) sA0)))) sA0)) (sCall reprR (sA1 (sFz (sLst (sA1 (sCall d_row_out (sA1 (sV 5) (sA1 (sV 10) sA0))) (sA1 (sCall d_row_waits (sA1 (sV 5) (sA1 (sV 10) sA0))) sA0)))) sA0)))) (xRet (sC (.bool false))) xNil [.sc ns, .ow (dI ps), .fz (.int i), .fz (hallD rows), .fz (routeD rows.length), .fz (rowD rows), .un, .un, .un, .un, .fz (.tuple (dI xs)), .un, .fz (ppD rows.length xs), .un, .fz (.tuple (dI (outsF rows xs))), u15, u16, .un, .un, u19, u20, .un, .un] = some (.nx [.sc ns, .ow (dI ps), .fz (.int i), .fz (hallD rows), .fz (routeD rows.length), .fz (rowD rows), .un, .un, .un, .un, .fz (.tuple (dI xs)), .un, .fz (ppD rows.length xs), .un, .fz (.tuple (dI (outsF rows xs))), u15, u16, .un, .un, u19, u20, .un, .un]) := by
  obtain ⟨s, hs⟩ := repr_both D
  have f := D.few
  have t := D.top
  have w1 := waits_ok D.row D.srt (by omega) fun x m => by have := t x m; omega
  have w2 := row_out_ok D.row D.srt (fun x m => by have := t x m; omega) (by omega)
  have w3 := row_waits_ok D.row D.srt (fun x m => by have := t x m; omega) (by omega)
  exact xIf_no (sB_eq (s2_eq (sC1_eq (sL2_eq (x := .tuple (dI (outsF rows xs))) rfl (sC2_eq (x := hallD rows) (y := ppD rows.length xs) rfl rfl w1)) hs) (sC1_eq (sL2_eq (sC2_eq (x := rowD rows) (y := .tuple (dI xs)) rfl rfl w2) (sC2_eq (x := rowD rows) (y := .tuple (dI xs)) rfl rfl w3)) hs) ne_self))
theorem lw15 (D : Drawn rows xs) : xSet 15 (sCall d_held_back (sA1 (sV 5) (sA1 (sV 10) sA0))) [.sc ns, .ow (dI ps), .fz (.int i), .fz (hallD rows), .fz (routeD rows.length), .fz (rowD rows), .un, .un, .un, .un, .fz (.tuple (dI xs)), .un, .fz (ppD rows.length xs), .un, .fz (.tuple (dI (outsF rows xs))), u15, u16, .un, .un, u19, u20, .un, .un] = some (.nx [.sc ns, .ow (dI ps), .fz (.int i), .fz (hallD rows), .fz (routeD rows.length), .fz (rowD rows), .un, .un, .un, .un, .fz (.tuple (dI xs)), .un, .fz (ppD rows.length xs), .un, .fz (.tuple (dI (outsF rows xs))), .fz (.tuple (dI (hld rows xs))), u16, .un, .un, u19, u20, .un, .un]) :=
  xSet_eq (sC2_eq (x := rowD rows) (y := .tuple (dI xs)) rfl rfl (held_back_ok D.row D.srt (fun x m => by have := D.top x m; omega) (by have := D.few; omega))) put_c15
theorem lt2 (D : Drawn rows xs) : xIf (sOrT (sB (s2 neSR (sCall reprR (sA1 (sCall d_out_ticks (sA1 (sV 3) (sA1 (sV 16) sA0))) sA0)) (sCall reprR (sA1 (sV 14) sA0)))) (sB (s2 neR (sCall sumR (sA1 (sFz (sLc [17] (wIx (sCall d_waits (sA1 (sV 3) (sA1 (sV 16) sA0)))) (gN 17) sYes (sCall sumR (sA1 (sV 17) sA0)))) sA0)) (sC (.int 0))))) (xRet (sC (.bool false))) xNil [.sc ns, .ow (dI ps), .fz (.int i), .fz (hallD rows), .fz (routeD rows.length), .fz (rowD rows), .un, .un, .un, .un, .fz (.tuple (dI xs)), .un, .fz (ppD rows.length xs), .un, .fz (.tuple (dI (outsF rows xs))), .fz (.tuple (dI (hld rows xs))), .fz (ppD rows.length (hld rows xs)), .un, .un, u19, u20, .un, .un] = some (.nx [.sc ns, .ow (dI ps), .fz (.int i), .fz (hallD rows), .fz (routeD rows.length), .fz (rowD rows), .un, .un, .un, .un, .fz (.tuple (dI xs)), .un, .fz (ppD rows.length xs), .un, .fz (.tuple (dI (outsF rows xs))), .fz (.tuple (dI (hld rows xs))), .fz (ppD rows.length (hld rows xs)), .un, .un, u19, u20, .un, .un]) := by
  obtain ⟨s, hs⟩ := repr_outs D
  have f := D.few
  have hl := hld_len D
  have w1 := out_ticks_ok D.row (hld_srt D) (by omega) fun x m => by have := hld_top D x m; omega
  rw [hld_outs D] at w1
  have w2 := waits_ok D.row (hld_srt D) (by omega) fun x m => by have := hld_top D x m; omega
  have c2 : sCall d_waits (sA1 (sV 3) (sA1 (sV 16) sA0)) [.sc ns, .ow (dI ps), .fz (.int i), .fz (hallD rows), .fz (routeD rows.length), .fz (rowD rows), .un, .un, .un, .un, .fz (.tuple (dI xs)), .un, .fz (ppD rows.length xs), .un, .fz (.tuple (dI (outsF rows xs))), .fz (.tuple (dI (hld rows xs))), .fz (ppD rows.length (hld rows xs)), .un, .un, u19, u20, .un, .un] = some (wtD rows (hld rows xs), [.sc ns, .ow (dI ps), .fz (.int i), .fz (hallD rows), .fz (routeD rows.length), .fz (rowD rows), .un, .un, .un, .un, .fz (.tuple (dI xs)), .un, .fz (ppD rows.length xs), .un, .fz (.tuple (dI (outsF rows xs))), .fz (.tuple (dI (hld rows xs))), .fz (ppD rows.length (hld rows xs)), .un, .un, u19, u20, .un, .un]) := sC2_eq (x := hallD rows) (y := ppD rows.length (hld rows xs)) rfl rfl w2
  have hL := sLc_map (vs := [17]) (it := wIx (sCall d_waits (sA1 (sV 3) (sA1 (sV 16) sA0)))) (p := gN 17) (e := sCall sumR (sA1 (sV 17) sA0)) (δ0 := [.sc ns, .ow (dI ps), .fz (.int i), .fz (hallD rows), .fz (routeD rows.length), .fz (rowD rows), .un, .un, .un, .un, .fz (.tuple (dI xs)), .un, .fz (ppD rows.length xs), .un, .fz (.tuple (dI (outsF rows xs))), .fz (.tuple (dI (hld rows xs))), .fz (ppD rows.length (hld rows xs)), .un, .un, u19, u20, .un, .un]) (δ1 := [.sc ns, .ow (dI ps), .fz (.int i), .fz (hallD rows), .fz (routeD rows.length), .fz (rowD rows), .un, .un, .un, .un, .fz (.tuple (dI xs)), .un, .fz (ppD rows.length xs), .un, .fz (.tuple (dI (outsF rows xs))), .fz (.tuple (dI (hld rows xs))), .fz (ppD rows.length (hld rows xs)), .un, .un, u19, u20, .un, .un]) (as := List.range (hld rows xs).length) (enc := fun k : Nat => .tuple (dI (wtF rows (hld rows xs) k))) (fun k : Nat => .int (wtF rows (hld rows xs) k).sum)
    (by unfold wIx; rw [c2]; rfl) rfl (fun k m => ⟨[.sc ns, .ow (dI ps), .fz (.int i), .fz (hallD rows), .fz (routeD rows.length), .fz (rowD rows), .un, .un, .un, .un, .fz (.tuple (dI xs)), .un, .fz (ppD rows.length xs), .un, .fz (.tuple (dI (outsF rows xs))), .fz (.tuple (dI (hld rows xs))), .fz (ppD rows.length (hld rows xs)), .fz (.tuple (dI (wtF rows (hld rows xs) k))), .un, u19, u20, .un, .un], rfl, sC1_eq rfl (sum_intsT _), rfl⟩)
  have eL : ((List.range (hld rows xs).length).map fun k : Nat => PyData.int (wtF rows (hld rows xs) k).sum) = dI ((List.range (hld rows xs).length).map fun k : Nat => (wtF rows (hld rows xs) k).sum) := by unfold dI; rw [List.map_map]; rfl
  rw [eL] at hL
  have z : ((List.range (hld rows xs).length).map fun k : Nat => (wtF rows (hld rows xs) k).sum).sum = 0 := sum0 _ fun z m => by
    obtain ⟨k, _, rfl⟩ := List.mem_map.mp m
    exact sum0 _ (goes_free (row_pos D.row) (hld_srt D) (hld_cap D))
  exact xIf_no (sOr_no (sB_eq (s2_eq (sC1_eq (sC2_eq (x := hallD rows) (y := ppD rows.length (hld rows xs)) rfl rfl w1) hs) (sC1_eq (x := .tuple (dI (outsF rows xs))) rfl hs) ne_self)) (sB_eq (s2_eq (sC1_eq (sFz_eq hL) (sum_ints _)) rfl (ne_sum z))))
theorem lt3 (D : Drawn rows xs) : xIf (sOrT (sB (s2 neR (sCall d_least_inside (sA1 (sV 5) (sA1 (sV 10) sA0))) (sCall sumR (sA1 (sFz (sLc [18, 13] (wZip (sA1 (sV 14) (sA1 (sV 15) sA0))) (gT 2 (gCns (gN 18) (gCns (gN 13) Fw.gNil))) sYes (s2 subR (sV 18) (sV 13)))) sA0)))) (sB (s2 neR (sCall sumR (sA1 (sCall d_inside (sA1 (sV 5) (sA1 (sV 15) sA0))) sA0)) (sCall d_least_inside (sA1 (sV 5) (sA1 (sV 10) sA0)))))) (xRet (sC (.bool false))) xNil [.sc ns, .ow (dI ps), .fz (.int i), .fz (hallD rows), .fz (routeD rows.length), .fz (rowD rows), .un, .un, .un, .un, .fz (.tuple (dI xs)), .un, .fz (ppD rows.length xs), .un, .fz (.tuple (dI (outsF rows xs))), .fz (.tuple (dI (hld rows xs))), .fz (ppD rows.length (hld rows xs)), .un, .un, u19, u20, .un, .un] = some (.nx [.sc ns, .ow (dI ps), .fz (.int i), .fz (hallD rows), .fz (routeD rows.length), .fz (rowD rows), .un, .un, .un, .un, .fz (.tuple (dI xs)), .un, .fz (ppD rows.length xs), .un, .fz (.tuple (dI (outsF rows xs))), .fz (.tuple (dI (hld rows xs))), .fz (ppD rows.length (hld rows xs)), .un, .un, u19, u20, .un, .un]) := by
  have f := D.few
  have hl : (sh (tot rows) (outsF rows xs)).length = xs.length := hld_len D
  have hl2 := hld_len D
  have ol : (outsF rows xs).length = xs.length := (outsF_ok rows xs (row_pos D.row) D.srt).2
  have w1 := least_inside_ok D.row D.srt (fun x m => by have := D.top x m; omega) (by omega)
  have w2 := inside_ok D.row (hld_srt D) (fun x m => by have := hld_top D x m; omega) (by omega)
  rw [hld_outs D] at w2
  have c1 : sCall d_least_inside (sA1 (sV 5) (sA1 (sV 10) sA0)) [.sc ns, .ow (dI ps), .fz (.int i), .fz (hallD rows), .fz (routeD rows.length), .fz (rowD rows), .un, .un, .un, .un, .fz (.tuple (dI xs)), .un, .fz (ppD rows.length xs), .un, .fz (.tuple (dI (outsF rows xs))), .fz (.tuple (dI (hld rows xs))), .fz (ppD rows.length (hld rows xs)), .un, .un, u19, u20, .un, .un] = some (_, [.sc ns, .ow (dI ps), .fz (.int i), .fz (hallD rows), .fz (routeD rows.length), .fz (rowD rows), .un, .un, .un, .un, .fz (.tuple (dI xs)), .un, .fz (ppD rows.length xs), .un, .fz (.tuple (dI (outsF rows xs))), .fz (.tuple (dI (hld rows xs))), .fz (ppD rows.length (hld rows xs)), .un, .un, u19, u20, .un, .un]) := sC2_eq (x := rowD rows) (y := .tuple (dI xs)) rfl rfl w1
  have hL := sLc_map (vs := [18, 13]) (it := wZip (sA1 (sV 14) (sA1 (sV 15) sA0))) (p := gT 2 (gCns (gN 18) (gCns (gN 13) Fw.gNil))) (e := s2 subR (sV 18) (sV 13)) (δ0 := [.sc ns, .ow (dI ps), .fz (.int i), .fz (hallD rows), .fz (routeD rows.length), .fz (rowD rows), .un, .un, .un, .un, .fz (.tuple (dI xs)), .un, .fz (ppD rows.length xs), .un, .fz (.tuple (dI (outsF rows xs))), .fz (.tuple (dI (hld rows xs))), .fz (ppD rows.length (hld rows xs)), .un, .un, u19, u20, .un, .un]) (δ1 := [.sc ns, .ow (dI ps), .fz (.int i), .fz (hallD rows), .fz (routeD rows.length), .fz (rowD rows), .un, .un, .un, .un, .fz (.tuple (dI xs)), .un, .fz (ppD rows.length xs), .un, .fz (.tuple (dI (outsF rows xs))), .fz (.tuple (dI (hld rows xs))), .fz (ppD rows.length (hld rows xs)), .un, .un, u19, u20, .un, .un]) (as := (outsF rows xs).zip (hld rows xs)) (enc := fun p : Int × Int => PyData.tuple [.int p.1, .int p.2]) (fun p : Int × Int => .int (p.1 - p.2))
    (by rw [← zipD_int]; rfl) rfl (fun p m => ⟨[.sc ns, .ow (dI ps), .fz (.int i), .fz (hallD rows), .fz (routeD rows.length), .fz (rowD rows), .un, .un, .un, .un, .fz (.tuple (dI xs)), .un, .fz (ppD rows.length xs), .fz (.int p.2), .fz (.tuple (dI (outsF rows xs))), .fz (.tuple (dI (hld rows xs))), .fz (ppD rows.length (hld rows xs)), .un, .fz (.int p.1), u19, u20, .un, .un], rfl, rfl, rfl⟩)
  have eL : (((outsF rows xs).zip (hld rows xs)).map fun p : Int × Int => PyData.int (p.1 - p.2)) = dI (((outsF rows xs).zip (hld rows xs)).map fun p : Int × Int => p.1 - p.2) := by unfold dI; rw [List.map_map]; rfl
  rw [eL] at hL
  exact xIf_no (sOr_no (sB_eq (s2_eq c1 (sC1_eq (sFz_eq hL) (sum_ints _)) (ne_sum (zip_sum _ _ (by omega)).symm))) (sB_eq (s2_eq (sC1_eq (sC2_eq (x := rowD rows) (y := .tuple (dI (hld rows xs))) rfl rfl w2) (sum_intsT _)) c1 (ne_sum (zip_sum2 _ _ (by omega))))))
end
end L95

end
section
set_option Elab.async false
set_option linter.all false
set_option maxRecDepth 100000
/-! The law: one tick later, someone is out later. -/
namespace L95
open PySem PySem.Spec PyProof.Rows L2 Fw Pl
theorem mulL {xs : List PyData} {k : Int} (c : -(2 ^ 63) ≤ k ∧ k < 2 ^ 63 ∧ xs.length * k.toNat ≤ sizeLine) : mulR (.list xs) (.int k) = some (.list (List.replicate k.toNat xs).flatten) := if_pos c
theorem mul_rep {x : PyData} {k : Nat} (h : k ≤ 1000) : mulR (.list [x]) (.int (k : Int)) = some (.list (List.replicate k x)) := by
  have c : -(2 ^ 63) ≤ (k : Int) ∧ (k : Int) < 2 ^ 63 ∧ [x].length * (k : Int).toNat ≤ sizeLine := by
    refine ⟨?_, ?_, ?_⟩
    · have : (-(2 ^ 63) : Int) ≤ 0 := by decide
      omega
    · have : (1000 : Int) < 2 ^ 63 := by decide
      omega
    · rw [sizeLine_eq]; show 1 * _ ≤ _; omega
  have e : (List.replicate k [x]).flatten = List.replicate k x := by
    induction k with
    | zero => rfl
    | succ k ih =>
      rw [List.replicate_succ, List.flatten_cons, ih (by omega) ⟨by
        have : (-(2 ^ 63) : Int) ≤ 0 := by decide
        omega, by
        have : (1000 : Int) < 2 ^ 63 := by decide
        omega, by rw [sizeLine_eq]; show 1 * _ ≤ _; omega⟩]; rfl
  have := mulL c
  rw [this]
  show some (PyData.list (List.replicate k [x]).flatten) = _
  rw [e]
theorem add_lst {xs ys : List PyData} (h : xs.length + ys.length ≤ 1000) : addR (.list xs) (.list ys) = some (.list (xs ++ ys)) := by
  have : xs.length + ys.length ≤ sizeLine := by rw [sizeLine_eq]; omega
  exact if_pos this
theorem eq_niL {ds : List PyData} (h : ∀ x ∈ ds, okD 5 x) (h0 : ds ≠ []) : eqR (.list ds) (.list []) = some (.bool false) := by
  have s1 : SeqAt.shaped (.list ds) = true := shaped_ok 6 h (by omega)
  have s0 : SeqAt.shaped (.list []) = true := shaped_ok 6 (fun x m => by cases m) (by omega)
  cases ds with
  | nil => exact absurd rfl h0
  | cons x xs => unfold eqR; simp only [s0, s1]; rfl
theorem outs_idx : ∀ {rows : List Rw} {xs : List Int} {k : Nat} {x w : Int}, (∀ r ∈ rows, 1 ≤ r.1 ∧ 1 ≤ r.2) → Srt xs → xs[k]? = some x → (outsF rows xs)[k]? = some w → x + tot rows ≤ w
  | [], xs, k, x, w, _, _, e, e2 => by
    have e2 : xs[k]? = some w := e2
    rw [e] at e2
    have : x = w := Option.some.inj e2
    show x + 0 ≤ w
    omega
  | r :: rows, xs, k, x, w, hr, hx, e, e2 => by
    have rr := hr r (by simp)
    have hk : k < (goes r.2 xs).length := by rw [goes_len]; exact (List.getElem?_eq_some_iff.mp e).1
    have e1 : (goes r.2 xs)[k]? = some (goes r.2 xs)[k] := List.getElem?_eq_getElem hk
    have l := (gd_goes rr.2 xs hx).ge k _ _ e e1
    have := outs_idx (rows := rows) (xs := stg xs r) (k := k) (x := (goes r.2 xs)[k] + r.1) (w := w) (fun q m => hr q (by simp [m])) (stg_srt hx (by omega) rr.2) (by unfold stg; rw [List.getElem?_map, e1]; rfl) e2
    rw [tot_cons]; omega
def lat (n k : Nat) (h : Int) : List Int := List.replicate k 0 ++ List.replicate (n - k) (h + 1)
theorem lat_len {n k : Nat} {h : Int} (hk : k < n) : (lat n k h).length = n := by unfold lat; simp; omega
theorem lat_at {n k : Nat} {h : Int} (hk : k < n) : (lat n k h)[k]? = some (h + 1) := by
  unfold lat
  rw [List.getElem?_append_right (by simp), List.length_replicate, Nat.sub_self, List.getElem?_replicate]
  exact if_pos (by omega)
theorem lat_top {n k : Nat} {h : Int} (h0 : 0 ≤ h) : ∀ x ∈ lat n k h, 0 ≤ x ∧ x ≤ h + 1 := fun x m => by
  rcases List.mem_append.mp m with m | m
  · have := (List.mem_replicate.mp m).2; omega
  · have := (List.mem_replicate.mp m).2; omega
theorem lat_srt {n k : Nat} {h : Int} (h0 : 0 ≤ h) : Srt (lat n k h) := by
  refine ⟨List.pairwise_append.mpr ⟨List.pairwise_replicate.mpr (.inr (Int.le_refl _)), List.pairwise_replicate.mpr (.inr (Int.le_refl _)), fun a ma b mb => ?_⟩, fun x m => (lat_top h0 x m).1⟩
  have := (List.mem_replicate.mp ma).2
  have := (List.mem_replicate.mp mb).2
  omega
section
variable {ns : List Int} {ps : List Int} {i : Int} {rows : List Rw} {xs : List Int} {u3 u4 u5 u10 u12 u14 u15 u16 u19 u20 : Fw.Slot} [Fre u3] [Fre u4] [Fre u5] [Fre u10] [Fre u12] [Fre u14] [Fre u15] [Fre u16] [Fre u19] [Fre u20]
theorem hld_get (D : Drawn rows xs) {k : Nat} {h : Int} (e : (hld rows xs)[k]? = some h) : (outsF rows xs)[k]? = some (h + tot rows) := by
  unfold hld sh at e
  rw [List.getElem?_map] at e
  cases q : (outsF rows xs)[k]? with
  | none => rw [q] at e; cases e
  | some w =>
    rw [q] at e
    have : w - tot rows = h := Option.some.inj e
    have : w = h + tot rows := by omega
    rw [this]
theorem lw20 (D : Drawn rows xs) {k : Nat} {h : Int} (e : (hld rows xs)[k]? = some h) : xSet 20 (sCall tupleR (sA1 (s2 addR (s2 mulR (sFz (sLst (sA1 (sTup (sA1 (sC (.int 0)) (sA1 (sV 4) sA0))) sA0))) (sV 19)) (s2 mulR (sFz (sLst (sA1 (sTup (sA1 (s2 addR (s2 ixR (sV 15) (sV 19)) (sC (.int 1))) (sA1 (sV 4) sA0))) sA0))) (s2 subR (sCall lenR (sA1 (sV 15) sA0)) (sV 19)))) sA0)) [.sc ns, .ow (dI ps), .fz (.int i), .fz (hallD rows), .fz (routeD rows.length), .fz (rowD rows), .un, .un, .un, .un, .fz (.tuple (dI xs)), .un, .fz (ppD rows.length xs), .un, .fz (.tuple (dI (outsF rows xs))), .fz (.tuple (dI (hld rows xs))), .fz (ppD rows.length (hld rows xs)), .un, .un, .fz (.int (k : Nat)), u20, .un, .un] = some (.nx [.sc ns, .ow (dI ps), .fz (.int i), .fz (hallD rows), .fz (routeD rows.length), .fz (rowD rows), .un, .un, .un, .un, .fz (.tuple (dI xs)), .un, .fz (ppD rows.length xs), .un, .fz (.tuple (dI (outsF rows xs))), .fz (.tuple (dI (hld rows xs))), .fz (ppD rows.length (hld rows xs)), .un, .un, .fz (.int (k : Nat)), .fz (ppD rows.length (lat (hld rows xs).length k h)), .un, .un]) := by
  have f := D.few
  have hl := hld_len D
  have hk : k < (hld rows xs).length := (List.getElem?_eq_some_iff.mp e).1
  have z2 : 2 ≤ sizeLine := by rw [sizeLine_eq]; omega
  have i1 : ixR (.tuple (dI (hld rows xs))) (.int (k : Nat)) = some (.int h) := ix_tup (by unfold dI; rw [List.getElem?_map, e]; rfl)
  have t1 : sTup (sA1 (sC (.int 0)) (sA1 (sV 4) sA0)) [.sc ns, .ow (dI ps), .fz (.int i), .fz (hallD rows), .fz (routeD rows.length), .fz (rowD rows), .un, .un, .un, .un, .fz (.tuple (dI xs)), .un, .fz (ppD rows.length xs), .un, .fz (.tuple (dI (outsF rows xs))), .fz (.tuple (dI (hld rows xs))), .fz (ppD rows.length (hld rows xs)), .un, .un, .fz (.int (k : Nat)), u20, .un, .un] = some (peD rows.length 0, [.sc ns, .ow (dI ps), .fz (.int i), .fz (hallD rows), .fz (routeD rows.length), .fz (rowD rows), .un, .un, .un, .un, .fz (.tuple (dI xs)), .un, .fz (ppD rows.length xs), .un, .fz (.tuple (dI (outsF rows xs))), .fz (.tuple (dI (hld rows xs))), .fz (ppD rows.length (hld rows xs)), .un, .un, .fz (.int (k : Nat)), u20, .un, .un]) := by
    have z2 : [PyData.int 0, routeD rows.length].length ≤ sizeLine := z2
    have b : sA1 (sC (.int 0)) (sA1 (sV 4) sA0) [.sc ns, .ow (dI ps), .fz (.int i), .fz (hallD rows), .fz (routeD rows.length), .fz (rowD rows), .un, .un, .un, .un, .fz (.tuple (dI xs)), .un, .fz (ppD rows.length xs), .un, .fz (.tuple (dI (outsF rows xs))), .fz (.tuple (dI (hld rows xs))), .fz (ppD rows.length (hld rows xs)), .un, .un, .fz (.int (k : Nat)), u20, .un, .un] = some ([.int 0, routeD rows.length], [.sc ns, .ow (dI ps), .fz (.int i), .fz (hallD rows), .fz (routeD rows.length), .fz (rowD rows), .un, .un, .un, .un, .fz (.tuple (dI xs)), .un, .fz (ppD rows.length xs), .un, .fz (.tuple (dI (outsF rows xs))), .fz (.tuple (dI (hld rows xs))), .fz (ppD rows.length (hld rows xs)), .un, .un, .fz (.int (k : Nat)), u20, .un, .un]) := rfl
    unfold sTup
    rw [b]
    exact if_pos z2
  have a1 : s2 addR (s2 ixR (sV 15) (sV 19)) (sC (.int 1)) [.sc ns, .ow (dI ps), .fz (.int i), .fz (hallD rows), .fz (routeD rows.length), .fz (rowD rows), .un, .un, .un, .un, .fz (.tuple (dI xs)), .un, .fz (ppD rows.length xs), .un, .fz (.tuple (dI (outsF rows xs))), .fz (.tuple (dI (hld rows xs))), .fz (ppD rows.length (hld rows xs)), .un, .un, .fz (.int (k : Nat)), u20, .un, .un] = some (.int (h + 1), [.sc ns, .ow (dI ps), .fz (.int i), .fz (hallD rows), .fz (routeD rows.length), .fz (rowD rows), .un, .un, .un, .un, .fz (.tuple (dI xs)), .un, .fz (ppD rows.length xs), .un, .fz (.tuple (dI (outsF rows xs))), .fz (.tuple (dI (hld rows xs))), .fz (ppD rows.length (hld rows xs)), .un, .un, .fz (.int (k : Nat)), u20, .un, .un]) := s2_eq (s2_eq (x := .tuple (dI (hld rows xs))) (y := .int (k : Nat)) rfl rfl i1) (y := .int 1) rfl rfl
  have t2 : sTup (sA1 (s2 addR (s2 ixR (sV 15) (sV 19)) (sC (.int 1))) (sA1 (sV 4) sA0)) [.sc ns, .ow (dI ps), .fz (.int i), .fz (hallD rows), .fz (routeD rows.length), .fz (rowD rows), .un, .un, .un, .un, .fz (.tuple (dI xs)), .un, .fz (ppD rows.length xs), .un, .fz (.tuple (dI (outsF rows xs))), .fz (.tuple (dI (hld rows xs))), .fz (ppD rows.length (hld rows xs)), .un, .un, .fz (.int (k : Nat)), u20, .un, .un] = some (peD rows.length (h + 1), [.sc ns, .ow (dI ps), .fz (.int i), .fz (hallD rows), .fz (routeD rows.length), .fz (rowD rows), .un, .un, .un, .un, .fz (.tuple (dI xs)), .un, .fz (ppD rows.length xs), .un, .fz (.tuple (dI (outsF rows xs))), .fz (.tuple (dI (hld rows xs))), .fz (ppD rows.length (hld rows xs)), .un, .un, .fz (.int (k : Nat)), u20, .un, .un]) := by
    have z2 : [PyData.int (h + 1), routeD rows.length].length ≤ sizeLine := z2
    have b : sA1 (s2 addR (s2 ixR (sV 15) (sV 19)) (sC (.int 1))) (sA1 (sV 4) sA0) [.sc ns, .ow (dI ps), .fz (.int i), .fz (hallD rows), .fz (routeD rows.length), .fz (rowD rows), .un, .un, .un, .un, .fz (.tuple (dI xs)), .un, .fz (ppD rows.length xs), .un, .fz (.tuple (dI (outsF rows xs))), .fz (.tuple (dI (hld rows xs))), .fz (ppD rows.length (hld rows xs)), .un, .un, .fz (.int (k : Nat)), u20, .un, .un] = some ([.int (h + 1), routeD rows.length], [.sc ns, .ow (dI ps), .fz (.int i), .fz (hallD rows), .fz (routeD rows.length), .fz (rowD rows), .un, .un, .un, .un, .fz (.tuple (dI xs)), .un, .fz (ppD rows.length xs), .un, .fz (.tuple (dI (outsF rows xs))), .fz (.tuple (dI (hld rows xs))), .fz (ppD rows.length (hld rows xs)), .un, .un, .fz (.int (k : Nat)), u20, .un, .un]) := by
      rw [sA1, a1]; rfl
    unfold sTup
    rw [b]
    exact if_pos z2
  have n1 : s2 subR (sCall lenR (sA1 (sV 15) sA0)) (sV 19) [.sc ns, .ow (dI ps), .fz (.int i), .fz (hallD rows), .fz (routeD rows.length), .fz (rowD rows), .un, .un, .un, .un, .fz (.tuple (dI xs)), .un, .fz (ppD rows.length xs), .un, .fz (.tuple (dI (outsF rows xs))), .fz (.tuple (dI (hld rows xs))), .fz (ppD rows.length (hld rows xs)), .un, .un, .fz (.int (k : Nat)), u20, .un, .un] = some (.int (((hld rows xs).length - k : Nat) : Int), [.sc ns, .ow (dI ps), .fz (.int i), .fz (hallD rows), .fz (routeD rows.length), .fz (rowD rows), .un, .un, .un, .un, .fz (.tuple (dI xs)), .un, .fz (ppD rows.length xs), .un, .fz (.tuple (dI (outsF rows xs))), .fz (.tuple (dI (hld rows xs))), .fz (ppD rows.length (hld rows xs)), .un, .un, .fz (.int (k : Nat)), u20, .un, .un]) := by
    have l1 : lenR [.tuple (dI (hld rows xs))] = some (.int ((hld rows xs).length : Int)) := by
      show some (PyData.int ((dI (hld rows xs)).length : Int)) = _
      rw [dI_len]
    refine s2_eq (sC1_eq (x := .tuple (dI (hld rows xs))) rfl l1) (y := .int (k : Nat)) rfl ?_
    show some (PyData.int (((hld rows xs).length : Int) - k)) = _
    have : (((hld rows xs).length : Int) - k) = (((hld rows xs).length - k : Nat) : Int) := by omega
    rw [this]
  refine xSet_eq (sC1_eq (s2_eq (s2_eq (sL1_eq t1) (y := .int (k : Nat)) rfl (mul_rep (by omega))) (s2_eq (sL1_eq t2) n1 (mul_rep (by omega))) (add_lst (by simp; omega))) (z := ppD rows.length (lat (hld rows xs).length k h)) ?_) put_c20
  show some (PyData.tuple _) = _
  unfold ppD lat
  rw [List.map_append, List.map_replicate, List.map_replicate]
theorem lt20 (D : Drawn rows xs) {k : Nat} {h : Int} (e : (hld rows xs)[k]? = some h) : xIf (sB (s2 eqR (sFz (sLc [21, 22] (wZip (sA1 (sCall d_out_ticks (sA1 (sV 3) (sA1 (sV 20) sA0))) (sA1 (sV 14) sA0))) (gT 2 (gCns (gN 21) (gCns (gN 22) Fw.gNil))) (sB (s2 gtR (sV 21) (sV 22))) (sC (.int 1)))) (sFz (sLst sA0)))) (xRet (sC (.bool false))) xNil [.sc ns, .ow (dI ps), .fz (.int i), .fz (hallD rows), .fz (routeD rows.length), .fz (rowD rows), .un, .un, .un, .un, .fz (.tuple (dI xs)), .un, .fz (ppD rows.length xs), .un, .fz (.tuple (dI (outsF rows xs))), .fz (.tuple (dI (hld rows xs))), .fz (ppD rows.length (hld rows xs)), .un, .un, .fz (.int (k : Nat)), .fz (ppD rows.length (lat (hld rows xs).length k h)), .un, .un] = some (.nx [.sc ns, .ow (dI ps), .fz (.int i), .fz (hallD rows), .fz (routeD rows.length), .fz (rowD rows), .un, .un, .un, .un, .fz (.tuple (dI xs)), .un, .fz (ppD rows.length xs), .un, .fz (.tuple (dI (outsF rows xs))), .fz (.tuple (dI (hld rows xs))), .fz (ppD rows.length (hld rows xs)), .un, .un, .fz (.int (k : Nat)), .fz (ppD rows.length (lat (hld rows xs).length k h)), .un, .un]) := by
  have f := D.few
  have hl := hld_len D
  have hk : k < (hld rows xs).length := (List.getElem?_eq_some_iff.mp e).1
  have mh : h ∈ hld rows xs := List.mem_of_getElem? e
  have h0 := (hld_srt D).pos h mh
  have h16 := hld_top D h mh
  have ls : Srt (lat (hld rows xs).length k h) := lat_srt h0
  have w1 := out_ticks_ok D.row ls (by rw [lat_len hk]; omega) fun x m => by have := lat_top h0 x m; omega
  have c1 : sCall d_out_ticks (sA1 (sV 3) (sA1 (sV 20) sA0)) [.sc ns, .ow (dI ps), .fz (.int i), .fz (hallD rows), .fz (routeD rows.length), .fz (rowD rows), .un, .un, .un, .un, .fz (.tuple (dI xs)), .un, .fz (ppD rows.length xs), .un, .fz (.tuple (dI (outsF rows xs))), .fz (.tuple (dI (hld rows xs))), .fz (ppD rows.length (hld rows xs)), .un, .un, .fz (.int (k : Nat)), .fz (ppD rows.length (lat (hld rows xs).length k h)), .un, .un] = some (_, [.sc ns, .ow (dI ps), .fz (.int i), .fz (hallD rows), .fz (routeD rows.length), .fz (rowD rows), .un, .un, .un, .un, .fz (.tuple (dI xs)), .un, .fz (ppD rows.length xs), .un, .fz (.tuple (dI (outsF rows xs))), .fz (.tuple (dI (hld rows xs))), .fz (ppD rows.length (hld rows xs)), .un, .un, .fz (.int (k : Nat)), .fz (ppD rows.length (lat (hld rows xs).length k h)), .un, .un]) := sC2_eq (x := hallD rows) (y := ppD rows.length (lat (hld rows xs).length k h)) rfl rfl w1
  have cz : wZip (sA1 (sCall d_out_ticks (sA1 (sV 3) (sA1 (sV 20) sA0))) (sA1 (sV 14) sA0)) [.sc ns, .ow (dI ps), .fz (.int i), .fz (hallD rows), .fz (routeD rows.length), .fz (rowD rows), .un, .un, .un, .un, .fz (.tuple (dI xs)), .un, .fz (ppD rows.length xs), .un, .fz (.tuple (dI (outsF rows xs))), .fz (.tuple (dI (hld rows xs))), .fz (ppD rows.length (hld rows xs)), .un, .un, .fz (.int (k : Nat)), .fz (ppD rows.length (lat (hld rows xs).length k h)), .un, .un] = some (((outsF rows (lat (hld rows xs).length k h)).zip (outsF rows xs)).map (fun p : Int × Int => PyData.tuple [.int p.1, .int p.2]), [.sc ns, .ow (dI ps), .fz (.int i), .fz (hallD rows), .fz (routeD rows.length), .fz (rowD rows), .un, .un, .un, .un, .fz (.tuple (dI xs)), .un, .fz (ppD rows.length xs), .un, .fz (.tuple (dI (outsF rows xs))), .fz (.tuple (dI (hld rows xs))), .fz (ppD rows.length (hld rows xs)), .un, .un, .fz (.int (k : Nat)), .fz (ppD rows.length (lat (hld rows xs).length k h)), .un, .un]) := by
    rw [← zipD_int]
    unfold wZip
    rw [sA1, c1]; rfl
  have hL := sLc_filter (vs := [21, 22]) (it := wZip (sA1 (sCall d_out_ticks (sA1 (sV 3) (sA1 (sV 20) sA0))) (sA1 (sV 14) sA0))) (p := gT 2 (gCns (gN 21) (gCns (gN 22) Fw.gNil))) (c := sB (s2 gtR (sV 21) (sV 22))) (e := sC (.int 1)) (enc := fun p : Int × Int => PyData.tuple [.int p.1, .int p.2]) (fun p : Int × Int => decide (p.2 < p.1)) (fun _ => .int 1) cz rfl (fun p m => ⟨[.sc ns, .ow (dI ps), .fz (.int i), .fz (hallD rows), .fz (routeD rows.length), .fz (rowD rows), .un, .un, .un, .un, .fz (.tuple (dI xs)), .un, .fz (ppD rows.length xs), .un, .fz (.tuple (dI (outsF rows xs))), .fz (.tuple (dI (hld rows xs))), .fz (ppD rows.length (hld rows xs)), .un, .un, .fz (.int (k : Nat)), .fz (ppD rows.length (lat (hld rows xs).length k h)), .fz (.int p.1), .fz (.int p.2)], rfl, rfl, fun _ => rfl, rfl⟩)
  obtain ⟨q, qs, hq⟩ : ∃ q qs, ((outsF rows (lat (hld rows xs).length k h)).zip (outsF rows xs)).filter (fun p : Int × Int => decide (p.2 < p.1)) = q :: qs := by
    have g1 := hld_get D e
    have ok2 := outsF_ok rows (lat (hld rows xs).length k h) (row_pos D.row) ls
    have hk2 : k < (outsF rows (lat (hld rows xs).length k h)).length := by rw [ok2.2, lat_len hk]; exact hk
    have g2 : (outsF rows (lat (hld rows xs).length k h))[k]? = some (outsF rows (lat (hld rows xs).length k h))[k] := List.getElem?_eq_getElem hk2
    have g3 := outs_idx (row_pos D.row) ls (lat_at hk) g2
    have mz : ((outsF rows (lat (hld rows xs).length k h))[k], h + tot rows) ∈ ((outsF rows (lat (hld rows xs).length k h)).zip (outsF rows xs)).filter (fun p : Int × Int => decide (p.2 < p.1)) := by
      refine List.mem_filter.mpr ⟨List.mem_of_getElem? (i := k) ?_, by simp; omega⟩
      rw [List.getElem?_zip_eq_some]
      exact ⟨g2, g1⟩
    cases q : ((outsF rows (lat (hld rows xs).length k h)).zip (outsF rows xs)).filter (fun p : Int × Int => decide (p.2 < p.1)) with
    | nil => rw [q] at mz; cases mz
    | cons a l => exact ⟨a, l, rfl⟩
  rw [hq] at hL
  exact xIf_no (sB_eq (s2_eq (sFz_eq hL) (y := .list []) rfl (eq_niL (fun x m => by obtain ⟨_, _, rfl⟩ := List.mem_map.mp m; exact trivial) (by simp))))
end
end L95

end
section
set_option Elab.async false
set_option linter.all false
set_option maxRecDepth 100000
/-! The law whole. -/
namespace L95
open PySem PySem.Spec PyProof.Rows L2 Fw Pl
section
variable {ns : List Int} {ps : List Int} {i : Int} {rows : List Rw} {xs : List Int}
theorem lfor (D : Drawn rows xs) {u19 u20 : Fw.Slot} (f19 : Fre u19) (f20 : Fre u20) : ∃ v19 v20 : Fw.Slot, Fre v19 ∧ Fre v20 ∧ (xFor (wRng1 (sA1 (sCall lenR (sA1 (sV 15) sA0)) sA0)) (gN 19) (xSeq (xSet 20 (sCall tupleR (sA1 (s2 addR (s2 mulR (sFz (sLst (sA1 (sTup (sA1 (sC (.int 0)) (sA1 (sV 4) sA0))) sA0))) (sV 19)) (s2 mulR (sFz (sLst (sA1 (sTup (sA1 (s2 addR (s2 ixR (sV 15) (sV 19)) (sC (.int 1))) (sA1 (sV 4) sA0))) sA0))) (s2 subR (sCall lenR (sA1 (sV 15) sA0)) (sV 19)))) sA0)))
    (xIf (sB (s2 eqR (sFz (sLc [21, 22] (wZip (sA1 (sCall d_out_ticks (sA1 (sV 3) (sA1 (sV 20) sA0))) (sA1 (sV 14) sA0))) (gT 2 (gCns (gN 21) (gCns (gN 22) Fw.gNil))) (sB (s2 gtR (sV 21) (sV 22))) (sC (.int 1)))) (sFz (sLst sA0)))) (xRet (sC (.bool false))) xNil))) [.sc ns, .ow (dI ps), .fz (.int i), .fz (hallD rows), .fz (routeD rows.length), .fz (rowD rows), .un, .un, .un, .un, .fz (.tuple (dI xs)), .un, .fz (ppD rows.length xs), .un, .fz (.tuple (dI (outsF rows xs))), .fz (.tuple (dI (hld rows xs))), .fz (ppD rows.length (hld rows xs)), .un, .un, u19, u20, .un, .un] = some (.nx [.sc ns, .ow (dI ps), .fz (.int i), .fz (hallD rows), .fz (routeD rows.length), .fz (rowD rows), .un, .un, .un, .un, .fz (.tuple (dI xs)), .un, .fz (ppD rows.length xs), .un, .fz (.tuple (dI (outsF rows xs))), .fz (.tuple (dI (hld rows xs))), .fz (ppD rows.length (hld rows xs)), .un, .un, v19, v20, .un, .un]) := by
  have f := D.few
  have hl := hld_len D
  have l1 : lenR [.tuple (dI (hld rows xs))] = some (.int ((hld rows xs).length : Int)) := by
    show some (PyData.int ((dI (hld rows xs)).length : Int)) = _
    rw [dI_len]
  have hw := wRng1_nat (a := sA1 (sCall lenR (sA1 (sV 15) sA0)) sA0) (δ := [.sc ns, .ow (dI ps), .fz (.int i), .fz (hallD rows), .fz (routeD rows.length), .fz (rowD rows), .un, .un, .un, .un, .fz (.tuple (dI xs)), .un, .fz (ppD rows.length xs), .un, .fz (.tuple (dI (outsF rows xs))), .fz (.tuple (dI (hld rows xs))), .fz (ppD rows.length (hld rows xs)), .un, .un, u19, u20, .un, .un]) (δ1 := [.sc ns, .ow (dI ps), .fz (.int i), .fz (hallD rows), .fz (routeD rows.length), .fz (rowD rows), .un, .un, .un, .un, .fz (.tuple (dI xs)), .un, .fz (ppD rows.length xs), .un, .fz (.tuple (dI (outsF rows xs))), .fz (.tuple (dI (hld rows xs))), .fz (ppD rows.length (hld rows xs)), .un, .un, u19, u20, .un, .un]) (n := (hld rows xs).length) (sA1_1 (sC1_eq (x := .tuple (dI (hld rows xs))) rfl l1)) (by omega)
  unfold xFor
  rw [hw]
  obtain ⟨δ', e, v19, v20, q19, q20, rfl⟩ := forL_inv (p := gN 19) (body := (xSeq (xSet 20 (sCall tupleR (sA1 (s2 addR (s2 mulR (sFz (sLst (sA1 (sTup (sA1 (sC (.int 0)) (sA1 (sV 4) sA0))) sA0))) (sV 19)) (s2 mulR (sFz (sLst (sA1 (sTup (sA1 (s2 addR (s2 ixR (sV 15) (sV 19)) (sC (.int 1))) (sA1 (sV 4) sA0))) sA0))) (s2 subR (sCall lenR (sA1 (sV 15) sA0)) (sV 19)))) sA0)))
    (xIf (sB (s2 eqR (sFz (sLc [21, 22] (wZip (sA1 (sCall d_out_ticks (sA1 (sV 3) (sA1 (sV 20) sA0))) (sA1 (sV 14) sA0))) (gT 2 (gCns (gN 21) (gCns (gN 22) Fw.gNil))) (sB (s2 gtR (sV 21) (sV 22))) (sC (.int 1)))) (sFz (sLst sA0)))) (xRet (sC (.bool false))) xNil))) (as := (List.range (hld rows xs).length).map fun i : Nat => PyData.int (i : Int)) (fun _ δ => ∃ v19 v20 : Fw.Slot, Fre v19 ∧ Fre v20 ∧ δ = [.sc ns, .ow (dI ps), .fz (.int i), .fz (hallD rows), .fz (routeD rows.length), .fz (rowD rows), .un, .un, .un, .un, .fz (.tuple (dI xs)), .un, .fz (ppD rows.length xs), .un, .fz (.tuple (dI (outsF rows xs))), .fz (.tuple (dI (hld rows xs))), .fz (ppD rows.length (hld rows xs)), .un, .un, v19, v20, .un, .un]) (fun k d δ e ⟨v19, v20, q19, q20, hδ⟩ => by
    rw [hδ]
    rw [List.getElem?_map] at e
    cases q : (List.range (hld rows xs).length)[k]? with
    | none => rw [q] at e; cases e
    | some k' =>
      rw [q] at e
      obtain ⟨hk, rfl⟩ := List.getElem?_eq_some_iff.mp q
      have hk : k < (hld rows xs).length := by simpa using hk
      have hd : PyData.int (k : Int) = d := by
        have := Option.some.inj e
        simpa using this
      subst hd
      have g : (hld rows xs)[k]? = some (hld rows xs)[k] := List.getElem?_eq_getElem hk
      have h20 := lw20 (ns := ns) (ps := ps) (i := i) (u20 := v20) D g
      exact ⟨[.sc ns, .ow (dI ps), .fz (.int i), .fz (hallD rows), .fz (routeD rows.length), .fz (rowD rows), .un, .un, .un, .un, .fz (.tuple (dI xs)), .un, .fz (ppD rows.length xs), .un, .fz (.tuple (dI (outsF rows xs))), .fz (.tuple (dI (hld rows xs))), .fz (ppD rows.length (hld rows xs)), .un, .un, .fz (.int (k : Nat)), v20, .un, .un], [.sc ns, .ow (dI ps), .fz (.int i), .fz (hallD rows), .fz (routeD rows.length), .fz (rowD rows), .un, .un, .un, .un, .fz (.tuple (dI xs)), .un, .fz (ppD rows.length xs), .un, .fz (.tuple (dI (outsF rows xs))), .fz (.tuple (dI (hld rows xs))), .fz (ppD rows.length (hld rows xs)), .un, .un, .fz (.int (k : Nat)), .fz (ppD rows.length (lat (hld rows xs).length k (hld rows xs)[k])), .un, .un], put_c19, (xSeq_eq h20).trans (lt20 D g), _, _, inferInstance, inferInstance, rfl⟩) ⟨u19, u20, f19, f20, rfl⟩
  exact ⟨v19, v20, q19, q20, e⟩
theorem turn_ok {u3 u4 u5 u10 u12 u14 u15 u16 u19 u20 : Fw.Slot} (f3 : Fre u3) (f4 : Fre u4) (f5 : Fre u5) (f10 : Fre u10) (f12 : Fre u12) (f14 : Fre u14) (f15 : Fre u15) (f16 : Fre u16) (f19 : Fre u19) (f20 : Fre u20) : ∃ (ps' : List Int) (v3 v4 v5 v10 v12 v14 v15 v16 v19 v20 : Fw.Slot), Fre v3 ∧ Fre v4 ∧ Fre v5 ∧ Fre v10 ∧ Fre v12 ∧ Fre v14 ∧ Fre v15 ∧ Fre v16 ∧ Fre v19 ∧ Fre v20 ∧ (xSeq (xSet 3 (sCallM 1 d_law_path (sA1 (sC (.int 4)) (sA1 (sC (.int 3)) sA0))))
    (xSeq (xSet 4 (sCall tupRg (sA1 (sCall lenR (sA1 (s2 ixR (sV 3) (sC (.int 1))) sA0)) sA0)))
    (xSeq (xSet 5 (sCall tupleR (sA1 (sFz (sLc [6, 7, 8, 9] (wIx (s2 ixR (sV 3) (sC (.int 1)))) (gT 4 (gCns (gN 6) (gCns (gN 7) (gCns (gN 8) (gCns (gN 9) Fw.gNil))))) sYes (sTup (sA1 (sV 8) (sA1 (sTup (sA1 (sV 9) sA0)) sA0))))) sA0)))
    (xSeq (xSet 10 (sCall tupleR (sA1 (sFz (sCallL sortedR (sA1 (sFz (sLc [11] (wRng1 (sA1 (sCallM 1 d_law_take (sA1 (sC (.int 10)) sA0)) sA0)) (gN 11) sYes (sCallM 1 d_law_take (sA1 (sC (.int 9)) sA0)))) sA0))) sA0)))
    (xSeq (xSet 12 (sCall tupleR (sA1 (sFz (sLc [13] (wIx (sV 10)) (gN 13) sYes (sTup (sA1 (sV 13) (sA1 (sV 4) sA0))))) sA0)))
    (xSeq (xSet 14 (sCall d_out_ticks (sA1 (sV 3) (sA1 (sV 12) sA0))))
    (xSeq (xIf (sB (s2 neSR (sCall reprR (sA1 (sFz (sLst (sA1 (sV 14) (sA1 (sCall d_waits (sA1 (sV 3) (sA1 (sV 12) sA0))) sA0)))) sA0)) (sCall reprR (sA1 (sFz (sLst (sA1 (sCall d_row_out (sA1 (sV 5) (sA1 (sV 10) sA0))) (sA1 (sCall d_row_waits (sA1 (sV 5) (sA1 (sV 10) sA0))) sA0)))) sA0)))) (xRet (sC (.bool false))) xNil)
    (xSeq (xSet 15 (sCall d_held_back (sA1 (sV 5) (sA1 (sV 10) sA0))))
    (xSeq (xSet 16 (sCall tupleR (sA1 (sFz (sLc [13] (wIx (sV 15)) (gN 13) sYes (sTup (sA1 (sV 13) (sA1 (sV 4) sA0))))) sA0)))
    (xSeq (xIf (sOrT (sB (s2 neSR (sCall reprR (sA1 (sCall d_out_ticks (sA1 (sV 3) (sA1 (sV 16) sA0))) sA0)) (sCall reprR (sA1 (sV 14) sA0)))) (sB (s2 neR (sCall sumR (sA1 (sFz (sLc [17] (wIx (sCall d_waits (sA1 (sV 3) (sA1 (sV 16) sA0)))) (gN 17) sYes (sCall sumR (sA1 (sV 17) sA0)))) sA0)) (sC (.int 0))))) (xRet (sC (.bool false))) xNil)
    (xSeq (xIf (sOrT (sB (s2 neR (sCall d_least_inside (sA1 (sV 5) (sA1 (sV 10) sA0))) (sCall sumR (sA1 (sFz (sLc [18, 13] (wZip (sA1 (sV 14) (sA1 (sV 15) sA0))) (gT 2 (gCns (gN 18) (gCns (gN 13) Fw.gNil))) sYes (s2 subR (sV 18) (sV 13)))) sA0)))) (sB (s2 neR (sCall sumR (sA1 (sCall d_inside (sA1 (sV 5) (sA1 (sV 15) sA0))) sA0)) (sCall d_least_inside (sA1 (sV 5) (sA1 (sV 10) sA0)))))) (xRet (sC (.bool false))) xNil)
    (xFor (wRng1 (sA1 (sCall lenR (sA1 (sV 15) sA0)) sA0)) (gN 19) (xSeq (xSet 20 (sCall tupleR (sA1 (s2 addR (s2 mulR (sFz (sLst (sA1 (sTup (sA1 (sC (.int 0)) (sA1 (sV 4) sA0))) sA0))) (sV 19)) (s2 mulR (sFz (sLst (sA1 (sTup (sA1 (s2 addR (s2 ixR (sV 15) (sV 19)) (sC (.int 1))) (sA1 (sV 4) sA0))) sA0))) (s2 subR (sCall lenR (sA1 (sV 15) sA0)) (sV 19)))) sA0)))
    (xIf (sB (s2 eqR (sFz (sLc [21, 22] (wZip (sA1 (sCall d_out_ticks (sA1 (sV 3) (sA1 (sV 20) sA0))) (sA1 (sV 14) sA0))) (gT 2 (gCns (gN 21) (gCns (gN 22) Fw.gNil))) (sB (s2 gtR (sV 21) (sV 22))) (sC (.int 1)))) (sFz (sLst sA0)))) (xRet (sC (.bool false))) xNil)))))))))))))) [.sc ns, .ow (dI ps), .fz (.int i), u3, u4, u5, .un, .un, .un, .un, u10, .un, u12, .un, u14, u15, u16, .un, .un, u19, u20, .un, .un] = some (.nx [.sc ns, .ow (dI ps'), .fz (.int i), v3, v4, v5, .un, .un, .un, .un, v10, .un, v12, .un, v14, v15, v16, .un, .un, v19, v20, .un, .un]) := by
  obtain ⟨rows, p1, e1, hr⟩ := path_ok ps
  have c3 := xSet_eq (i := 3) (callM1 (den := d_law_path) (a := sA1 (sC (.int 4)) (sA1 (sC (.int 3)) sA0)) (ps := dI ps) (ps' := dI p1) (xs := [.int 4, .int 3]) (a0 := .sc ns) (r := [.fz (.int i), u3, u4, u5, .un, .un, .un, .un, u10, .un, u12, .un, u14, u15, u16, .un, .un, u19, u20, .un, .un]) (d := hallD rows) rfl e1) (put_c3)
  obtain ⟨xs, p2, D, c10⟩ := lw10 (ns := ns) (ps := p1) (i := i) (u10 := u10) (u12 := u12) (u14 := u14) (u15 := u15) (u16 := u16) (u19 := u19) (u20 := u20) hr
  obtain ⟨w19, w20, q19, q20, cL⟩ := lfor (ns := ns) (ps := p2) (i := i) D f19 f20
  refine ⟨p2, .fz (hallD rows), .fz (routeD rows.length), .fz (rowD rows), .fz (.tuple (dI xs)), .fz (ppD rows.length xs), .fz (.tuple (dI (outsF rows xs))), .fz (.tuple (dI (hld rows xs))), .fz (ppD rows.length (hld rows xs)), w19, w20, inferInstance, inferInstance, inferInstance, inferInstance, inferInstance, inferInstance, inferInstance, inferInstance, q19, q20, (xSeq_eq c3).trans ?_⟩
  refine (xSeq_eq (lw4 hr)).trans ?_
  refine (xSeq_eq (lw5 hr)).trans ?_
  refine (xSeq_eq c10).trans ?_
  refine (xSeq_eq lw12).trans ?_
  refine (xSeq_eq (lw14 D)).trans ?_
  refine (xSeq_eq (lt1 D)).trans ?_
  refine (xSeq_eq (lw15 D)).trans ?_
  refine (xSeq_eq lw16).trans ?_
  refine (xSeq_eq (lt2 D)).trans ?_
  refine (xSeq_eq (lt3 D)).trans ?_
  exact cL
theorem plain (ns : List Int) (hn : ns.length ≤ 63) : d_law ns [] = some (.bool true) := by
  obtain ⟨ps, e0⟩ : ∃ ps : List Int, d_law_pool ns [.int 95549, .int 200] = some (dI ps) := pool_ok ns 95549 200 (by omega)
  have c1 : xSetL 1 (sCallSL 0 d_law_pool (sA1 (sC (.int 95549)) (sA1 (sC (.int 200)) sA0))) [.sc ns, .un, .un, .un, .un, .un, .un, .un, .un, .un, .un, .un, .un, .un, .un, .un, .un, .un, .un, .un, .un, .un, .un] = some (.nx [.sc ns, .ow (dI ps), .un, .un, .un, .un, .un, .un, .un, .un, .un, .un, .un, .un, .un, .un, .un, .un, .un, .un, .un, .un, .un]) := by
    have a : sCallSL 0 d_law_pool (sA1 (sC (.int 95549)) (sA1 (sC (.int 200)) sA0)) [.sc ns, .un, .un, .un, .un, .un, .un, .un, .un, .un, .un, .un, .un, .un, .un, .un, .un, .un, .un, .un, .un, .un, .un] = some (dI ps, [.sc ns, .un, .un, .un, .un, .un, .un, .un, .un, .un, .un, .un, .un, .un, .un, .un, .un, .un, .un, .un, .un, .un, .un]) := by
      have b : sA1 (sC (.int 95549)) (sA1 (sC (.int 200)) sA0) [.sc ns, .un, .un, .un, .un, .un, .un, .un, .un, .un, .un, .un, .un, .un, .un, .un, .un, .un, .un, .un, .un, .un, .un] = some ([.int 95549, .int 200], [.sc ns, .un, .un, .un, .un, .un, .un, .un, .un, .un, .un, .un, .un, .un, .un, .un, .un, .un, .un, .un, .un, .un, .un]) := rfl
      unfold sCallSL
      simp only [List.getElem?_cons_zero, b, e0]
    unfold xSetL
    rw [a]; rfl
  have hw := wRng1_nat (a := sA1 (sC (.int 5)) sA0) (δ := [.sc ns, .ow (dI ps), .un, .un, .un, .un, .un, .un, .un, .un, .un, .un, .un, .un, .un, .un, .un, .un, .un, .un, .un, .un, .un]) (δ1 := [.sc ns, .ow (dI ps), .un, .un, .un, .un, .un, .un, .un, .un, .un, .un, .un, .un, .un, .un, .un, .un, .un, .un, .un, .un, .un]) (n := 5) rfl (by omega)
  obtain ⟨δ', e, ps2, v2, v3, v4, v5, v10, v12, v14, v15, v16, v19, v20, hF2, h3, h4, h5, h10, h12, h14, h15, h16, h19, h20, rfl⟩ := forL_inv (p := gN 2) (body := (xSeq (xSet 3 (sCallM 1 d_law_path (sA1 (sC (.int 4)) (sA1 (sC (.int 3)) sA0))))
    (xSeq (xSet 4 (sCall tupRg (sA1 (sCall lenR (sA1 (s2 ixR (sV 3) (sC (.int 1))) sA0)) sA0)))
    (xSeq (xSet 5 (sCall tupleR (sA1 (sFz (sLc [6, 7, 8, 9] (wIx (s2 ixR (sV 3) (sC (.int 1)))) (gT 4 (gCns (gN 6) (gCns (gN 7) (gCns (gN 8) (gCns (gN 9) Fw.gNil))))) sYes (sTup (sA1 (sV 8) (sA1 (sTup (sA1 (sV 9) sA0)) sA0))))) sA0)))
    (xSeq (xSet 10 (sCall tupleR (sA1 (sFz (sCallL sortedR (sA1 (sFz (sLc [11] (wRng1 (sA1 (sCallM 1 d_law_take (sA1 (sC (.int 10)) sA0)) sA0)) (gN 11) sYes (sCallM 1 d_law_take (sA1 (sC (.int 9)) sA0)))) sA0))) sA0)))
    (xSeq (xSet 12 (sCall tupleR (sA1 (sFz (sLc [13] (wIx (sV 10)) (gN 13) sYes (sTup (sA1 (sV 13) (sA1 (sV 4) sA0))))) sA0)))
    (xSeq (xSet 14 (sCall d_out_ticks (sA1 (sV 3) (sA1 (sV 12) sA0))))
    (xSeq (xIf (sB (s2 neSR (sCall reprR (sA1 (sFz (sLst (sA1 (sV 14) (sA1 (sCall d_waits (sA1 (sV 3) (sA1 (sV 12) sA0))) sA0)))) sA0)) (sCall reprR (sA1 (sFz (sLst (sA1 (sCall d_row_out (sA1 (sV 5) (sA1 (sV 10) sA0))) (sA1 (sCall d_row_waits (sA1 (sV 5) (sA1 (sV 10) sA0))) sA0)))) sA0)))) (xRet (sC (.bool false))) xNil)
    (xSeq (xSet 15 (sCall d_held_back (sA1 (sV 5) (sA1 (sV 10) sA0))))
    (xSeq (xSet 16 (sCall tupleR (sA1 (sFz (sLc [13] (wIx (sV 15)) (gN 13) sYes (sTup (sA1 (sV 13) (sA1 (sV 4) sA0))))) sA0)))
    (xSeq (xIf (sOrT (sB (s2 neSR (sCall reprR (sA1 (sCall d_out_ticks (sA1 (sV 3) (sA1 (sV 16) sA0))) sA0)) (sCall reprR (sA1 (sV 14) sA0)))) (sB (s2 neR (sCall sumR (sA1 (sFz (sLc [17] (wIx (sCall d_waits (sA1 (sV 3) (sA1 (sV 16) sA0)))) (gN 17) sYes (sCall sumR (sA1 (sV 17) sA0)))) sA0)) (sC (.int 0))))) (xRet (sC (.bool false))) xNil)
    (xSeq (xIf (sOrT (sB (s2 neR (sCall d_least_inside (sA1 (sV 5) (sA1 (sV 10) sA0))) (sCall sumR (sA1 (sFz (sLc [18, 13] (wZip (sA1 (sV 14) (sA1 (sV 15) sA0))) (gT 2 (gCns (gN 18) (gCns (gN 13) Fw.gNil))) sYes (s2 subR (sV 18) (sV 13)))) sA0)))) (sB (s2 neR (sCall sumR (sA1 (sCall d_inside (sA1 (sV 5) (sA1 (sV 15) sA0))) sA0)) (sCall d_least_inside (sA1 (sV 5) (sA1 (sV 10) sA0)))))) (xRet (sC (.bool false))) xNil)
    (xFor (wRng1 (sA1 (sCall lenR (sA1 (sV 15) sA0)) sA0)) (gN 19) (xSeq (xSet 20 (sCall tupleR (sA1 (s2 addR (s2 mulR (sFz (sLst (sA1 (sTup (sA1 (sC (.int 0)) (sA1 (sV 4) sA0))) sA0))) (sV 19)) (s2 mulR (sFz (sLst (sA1 (sTup (sA1 (s2 addR (s2 ixR (sV 15) (sV 19)) (sC (.int 1))) (sA1 (sV 4) sA0))) sA0))) (s2 subR (sCall lenR (sA1 (sV 15) sA0)) (sV 19)))) sA0)))
    (xIf (sB (s2 eqR (sFz (sLc [21, 22] (wZip (sA1 (sCall d_out_ticks (sA1 (sV 3) (sA1 (sV 20) sA0))) (sA1 (sV 14) sA0))) (gT 2 (gCns (gN 21) (gCns (gN 22) Fw.gNil))) (sB (s2 gtR (sV 21) (sV 22))) (sC (.int 1)))) (sFz (sLst sA0)))) (xRet (sC (.bool false))) xNil))))))))))))))) (as := (List.range 5).map fun i : Nat => PyData.int (i : Int)) (fun _ δ => ∃ (ps : List Int) (u2 : Fw.Slot) (u3 u4 u5 u10 u12 u14 u15 u16 u19 u20 : Fw.Slot), Fre u2 ∧ Fre u3 ∧ Fre u4 ∧ Fre u5 ∧ Fre u10 ∧ Fre u12 ∧ Fre u14 ∧ Fre u15 ∧ Fre u16 ∧ Fre u19 ∧ Fre u20 ∧ δ = [.sc ns, .ow (dI ps), u2, u3, u4, u5, .un, .un, .un, .un, u10, .un, u12, .un, u14, u15, u16, .un, .un, u19, u20, .un, .un]) (fun k d δ e ⟨ps, u2, u3, u4, u5, u10, u12, u14, u15, u16, u19, u20, f2, f3, f4, f5, f10, f12, f14, f15, f16, f19, f20, hδ⟩ => by
    rw [hδ]
    rw [List.getElem?_map] at e
    cases q : (List.range 5)[k]? with
    | none => rw [q] at e; cases e
    | some k' =>
      rw [q] at e
      have hd : PyData.int (k' : Int) = d := Option.some.inj e
      subst hd
      obtain ⟨ps', v3, v4, v5, v10, v12, v14, v15, v16, v19, v20, h3, h4, h5, h10, h12, h14, h15, h16, h19, h20, e2⟩ := turn_ok (ns := ns) (ps := ps) (i := (k' : Int)) f3 f4 f5 f10 f12 f14 f15 f16 f19 f20
      exact ⟨_, _, put_c2, e2, ps', .fz (.int (k' : Int)), v3, v4, v5, v10, v12, v14, v15, v16, v19, v20, inferInstance, h3, h4, h5, h10, h12, h14, h15, h16, h19, h20, rfl⟩) ⟨ps, .un, .un, .un, .un, .un, .un, .un, .un, .un, .un, .un, inferInstance, inferInstance, inferInstance, inferInstance, inferInstance, inferInstance, inferInstance, inferInstance, inferInstance, inferInstance, inferInstance, rfl⟩
  have main : i_law [.sc ns, .un, .un, .un, .un, .un, .un, .un, .un, .un, .un, .un, .un, .un, .un, .un, .un, .un, .un, .un, .un, .un, .un] = some (.rt (.bool true) [.sc ns, .ow (dI ps2), v2, v3, v4, v5, .un, .un, .un, .un, v10, .un, v12, .un, v14, v15, v16, .un, .un, v19, v20, .un, .un]) := by
    unfold i_law
    refine (xSeq_eq c1).trans ?_
    refine (xSeq_eq (h := _) (g := _) (δ1 := [.sc ns, .ow (dI ps2), v2, v3, v4, v5, .un, .un, .un, .un, v10, .un, v12, .un, v14, v15, v16, .un, .un, v19, v20, .un, .un]) ?_).trans rfl
    unfold xFor
    rw [hw]
    exact e
  simp only [d_law, denF, denM, denS, denSL, uns, List.replicate, List.length_cons, List.length_nil, List.map_cons, List.map_nil, List.cons_append, List.nil_append, if_true, Nat.zero_add, Nat.reduceAdd, reduceIte]
  simp only [main]

end
end L95

end
theorem PySem.Challenge.cw_stairsintime_k95_whole_gates_on_a_path_holds : PySem.Challenge.rw_stairsintime_k95_whole_gates_on_a_path.Holds :=
  stairsintime_k95_whole_gates_on_a_path_holds L95.plain
