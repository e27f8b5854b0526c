import PyProof.Rows.All
import Wide.All
import OpenK.AllK
import Wide.FinOn
import HandS.ForMost
import HandS.Exc
import HandS.TryOnly
import HandS.ExcOwn
import HandS.WordsExc
import HandS.IsInst
import HandS.Defaults
import HandS.DictComp
import HandS.Conv
import HandS.ExcInit
import HandS.ExcField
import HandS.ExcIs
import HandS.NoneIn
import HandS.TupAny
import HandS.CallSlots
import HandS.HeadHook4
import HandS.HeadEnd
import HandS.Head2
import KE.KExcIs
import HandS.SortInts
import HandS.Sort
import HandS.Walk
import PySem.Challenge.RW_spentframes_k89_refused_graphs
set_option Elab.async false
set_option linter.all false
set_option maxRecDepth 100000
set_option maxHeartbeats 4000000
/-! SF0: the layer of this work over HandS, no row in sight: data and what stands for it, calls of defs by name, operators by short names. -/
namespace SF
open PySem PySem.Spec PyProof.Rows L2
abbrev ga := He.ga
abbrev Fg := PySem.W.Frag
/-- all that is tracked in H stands in H' -/
def Ex (H H' : Hp) : Prop := ∀ a o, H a = some o → H' a = some o
theorem Ex.refl (H : Hp) : Ex H H := fun _ _ h => h
theorem Ex.trans {H H1 H2 : Hp} (a : Ex H H1) (b : Ex H1 H2) : Ex H H2 := fun x o h => b x o (a x o h)
theorem Ex.new {H : Hp} {p : Addr} {o : HO} (h : H p = none) : Ex H (upd H p o) := fun _ u e => by rw [upd_ne (ne_of_none e h)]; exact e
theorem Ex.mut {H H' : Hp} {p : Addr} {o : HO} (e : Ex H H') (h : H p = none) : Ex H (upd H' p o) := fun a u ha => by rw [upd_ne (ne_of_none ha h)]; exact e a u ha
theorem Ex.free {H H' : Hp} {p : Addr} (e : Ex H H') (h : H' p = none) : H p = none := by
  cases q : H p with
  | none => rfl
  | some o => rw [e p o q] at h; cases h
theorem ex_l {K : Fg} {H H' : Hp} {a : Addr} {xs : List V} (e : Ex H H') (h : SqL K H a xs) : SqL K H' a xs := by
  rcases h with (h | ⟨o, h⟩) | h
  · exact .inl (.inl (e _ _ h))
  · exact .inl (.inr ⟨o, e _ _ h⟩)
  · exact .inr h

/-! ### data and what stands for it -/
mutual
def Rp (S : Hp) : PyData → V → Prop
  | .none, v => v = .non
  | .bool b, v => v = .bl b
  | .int i, v => v = .int i
  | .str z, v => v = .str z
  | .list ds, v => ∃ a xs, v = .ref a ∧ S a = some (.lst xs) ∧ Rps S ds xs
  | .tuple ds, v => ∃ a xs, v = .ref a ∧ S a = some (.tup xs) ∧ Rps S ds xs
  | .dict _, v => ∃ a es, v = .ref a ∧ S a = some (.dK es)
def Rps (S : Hp) : List PyData → List V → Prop
  | [], xs => xs = []
  | d :: ds, xs => ∃ v vs, xs = v :: vs ∧ Rp S d v ∧ Rps S ds vs
end
mutual
theorem Rp.mono {S S' : Hp} (e : Ex S S') : ∀ (d : PyData) (v : V), Rp S d v → Rp S' d v
  | .none, _, h => by unfold Rp at h ⊢; exact h
  | .bool _, _, h => by unfold Rp at h ⊢; exact h
  | .int _, _, h => by unfold Rp at h ⊢; exact h
  | .str _, _, h => by unfold Rp at h ⊢; exact h
  | .list ds, _, h => by
    unfold Rp at h ⊢
    obtain ⟨a, xs, rfl, h1, h2⟩ := h
    exact ⟨a, xs, rfl, e _ _ h1, Rps.mono e ds xs h2⟩
  | .tuple ds, _, h => by
    unfold Rp at h ⊢
    obtain ⟨a, xs, rfl, h1, h2⟩ := h
    exact ⟨a, xs, rfl, e _ _ h1, Rps.mono e ds xs h2⟩
  | .dict _, _, h => by
    unfold Rp at h ⊢
    obtain ⟨a, es, rfl, h1⟩ := h
    exact ⟨a, es, rfl, e _ _ h1⟩
theorem Rps.mono {S S' : Hp} (e : Ex S S') : ∀ (ds : List PyData) (xs : List V), Rps S ds xs → Rps S' ds xs
  | [], _, h => by unfold Rps at h ⊢; exact h
  | d :: ds, _, h => by
    unfold Rps at h ⊢
    obtain ⟨v, vs, rfl, h1, h2⟩ := h
    exact ⟨v, vs, rfl, Rp.mono e d v h1, Rps.mono e ds vs h2⟩
end
section
variable {S S' H : Hp} {d : PyData} {ds es : List PyData} {v : V} {xs ys : List V} {a : Addr}
theorem Rp.up (h : Rp S d v) (e : Ex S S') : Rp S' d v := Rp.mono e d v h
theorem Rps.up (h : Rps S ds xs) (e : Ex S S') : Rps S' ds xs := Rps.mono e ds xs h
theorem Rps.nil : Rps S [] [] := by unfold Rps; rfl
theorem Rps.cons (h : Rp S d v) (t : Rps S ds xs) : Rps S (d :: ds) (v :: xs) := by unfold Rps; exact ⟨v, xs, rfl, h, t⟩
theorem Rps.cons' (h : Rps S (d :: ds) xs) : ∃ v vs, xs = v :: vs ∧ Rp S d v ∧ Rps S ds vs := by unfold Rps at h; exact h
theorem Rps.nil' (h : Rps S [] xs) : xs = [] := by unfold Rps at h; exact h
theorem Rps.length : ∀ {ds : List PyData} {xs : List V}, Rps S ds xs → xs.length = ds.length
  | [], _, h => by rw [h.nil']; rfl
  | d :: ds, _, h => by
    obtain ⟨v, vs, rfl, _, h2⟩ := h.cons'
    rw [List.length_cons, List.length_cons, h2.length]
theorem Rps.get : ∀ {ds : List PyData} {xs : List V} {i : Nat} {d : PyData}, Rps S ds xs → ds[i]? = some d → ∃ v, xs[i]? = some v ∧ Rp S d v
  | [], _, i, d, _, e => by simp at e
  | d0 :: ds, _, 0, d, h, e => by
    obtain ⟨v, vs, rfl, h1, _⟩ := h.cons'
    simp at e
    subst e
    exact ⟨v, by simp, h1⟩
  | d0 :: ds, _, i + 1, d, h, e => by
    obtain ⟨v, vs, rfl, _, h2⟩ := h.cons'
    obtain ⟨u, e1, e2⟩ := Rps.get (i := i) h2 (by simpa using e)
    exact ⟨u, by simpa using e1, e2⟩
theorem Rps.get' {i : Nat} (h : Rps S ds xs) (e : xs[i]? = some v) : ∃ d, ds[i]? = some d ∧ Rp S d v := by
  have hl := h.length
  obtain ⟨hi, _⟩ := List.getElem?_eq_some_iff.mp e
  have hd : ds[i]? = some ds[i] := List.getElem?_eq_getElem (by omega)
  obtain ⟨u, e1, r⟩ := h.get hd
  rw [e] at e1
  cases e1
  exact ⟨_, hd, r⟩
theorem Rps.append : ∀ {ds es : List PyData} {xs ys : List V}, Rps S ds xs → Rps S es ys → Rps S (ds ++ es) (xs ++ ys)
  | [], _, _, _, h, t => by rw [h.nil']; exact t
  | d :: ds, _, _, _, h, t => by
    obtain ⟨v, vs, rfl, h1, h2⟩ := h.cons'
    exact .cons h1 (Rps.append h2 t)
theorem Rps.take : ∀ {ds : List PyData} {xs : List V} (n : Nat), Rps S ds xs → Rps S (ds.take n) (xs.take n)
  | _, _, 0, _ => by simp; exact .nil
  | [], _, n + 1, h => by rw [h.nil']; exact .nil
  | d :: ds, _, n + 1, h => by
    obtain ⟨v, vs, rfl, h1, h2⟩ := h.cons'
    exact .cons h1 (Rps.take n h2)
theorem Rps.drop : ∀ {ds : List PyData} {xs : List V} (n : Nat), Rps S ds xs → Rps S (ds.drop n) (xs.drop n)
  | _, _, 0, h => by simpa using h
  | [], _, n + 1, h => by rw [h.nil']; exact .nil
  | d :: ds, _, n + 1, h => by
    obtain ⟨v, vs, rfl, h1, h2⟩ := h.cons'
    exact Rps.drop n h2
theorem Rps.eraseIdx : ∀ {ds : List PyData} {xs : List V} (n : Nat), Rps S ds xs → Rps S (ds.eraseIdx n) (xs.eraseIdx n)
  | [], _, n, h => by rw [h.nil']; simp; exact .nil
  | d :: ds, _, 0, h => by
    obtain ⟨v, vs, rfl, h1, h2⟩ := h.cons'
    exact h2
  | d :: ds, _, n + 1, h => by
    obtain ⟨v, vs, rfl, h1, h2⟩ := h.cons'
    exact .cons h1 (Rps.eraseIdx n h2)
theorem Rp.non : Rp S .none .non := by unfold Rp; rfl
theorem Rp.bl (b : Bool) : Rp S (.bool b) (.bl b) := by unfold Rp; rfl
theorem Rp.int (i : Int) : Rp S (.int i) (.int i) := by unfold Rp; rfl
theorem Rp.str (z : Str) : Rp S (.str z) (.str z) := by unfold Rp; rfl
theorem Rp.lst (h : S a = some (.lst xs)) (t : Rps S ds xs) : Rp S (.list ds) (.ref a) := by unfold Rp; exact ⟨a, xs, rfl, h, t⟩
theorem Rp.tup (h : S a = some (.tup xs)) (t : Rps S ds xs) : Rp S (.tuple ds) (.ref a) := by unfold Rp; exact ⟨a, xs, rfl, h, t⟩
theorem Rp.dct {kvs : List (PyData × PyData)} {es : List (Key × V)} (h : S a = some (.dK es)) : Rp S (.dict kvs) (.ref a) := by unfold Rp; exact ⟨a, es, rfl, h⟩
theorem Rp.non' (h : Rp S .none v) : v = .non := by unfold Rp at h; exact h
theorem Rp.bl' {b : Bool} (h : Rp S (.bool b) v) : v = .bl b := by unfold Rp at h; exact h
theorem Rp.int' {i : Int} (h : Rp S (.int i) v) : v = .int i := by unfold Rp at h; exact h
theorem Rp.str' {z : Str} (h : Rp S (.str z) v) : v = .str z := by unfold Rp at h; exact h
theorem Rp.lst' (h : Rp S (.list ds) v) : ∃ a xs, v = .ref a ∧ S a = some (.lst xs) ∧ Rps S ds xs := by unfold Rp at h; exact h
theorem Rp.tup' (h : Rp S (.tuple ds) v) : ∃ a xs, v = .ref a ∧ S a = some (.tup xs) ∧ Rps S ds xs := by unfold Rp at h; exact h
theorem Rp.dct' {kvs : List (PyData × PyData)} (h : Rp S (.dict kvs) v) : ∃ a es, v = .ref a ∧ S a = some (.dK es) := by unfold Rp at h; exact h
theorem Rps.ints (ns : List Int) : Rps S (ns.map .int) (ns.map .int) := by
  induction ns with
  | nil => exact .nil
  | cons n r ih => exact .cons (.int n) ih
theorem Rps.ints' : ∀ {ns : List Int} {xs : List V}, Rps S (ns.map .int) xs → xs = ns.map .int
  | [], _, h => h.nil'
  | n :: r, _, h => by
    obtain ⟨v, vs, rfl, h1, h2⟩ := Rps.cons' (ds := r.map .int) h
    rw [h1.int', h2.ints']
    rfl
end

/-! ### the kinds of data -/
def tyD : PyData → String
  | .none => "NoneType" | .bool _ => "bool" | .int _ => "int" | .str _ => "str" | .list _ => "list" | .tuple _ => "tuple" | .dict _ => "dict"
def isIntD : PyData → Bool | .int _ => true | .bool _ => true | _ => false
def isBoolD : PyData → Bool | .bool _ => true | _ => false
def isStrD : PyData → Bool | .str _ => true | _ => false
def isSeqD : PyData → Bool | .list _ => true | .tuple _ => true | _ => false
def isTupD : PyData → Bool | .tuple _ => true | _ => false
def isLstD : PyData → Bool | .list _ => true | _ => false
theorem tyx_of {K : Fg} {S : Hp} : ∀ {d : PyData} {v : V}, Rp S d v → TyX K S v (.type (tyD d))
  | .none, _, h => by rw [h.non']; exact .base .non
  | .bool b, _, h => by rw [h.bl']; exact .base (.bl b)
  | .int i, _, h => by rw [h.int']; exact .base (.int i)
  | .str z, _, h => by rw [h.str']; exact .base (.str z)
  | .list ds, _, h => by obtain ⟨a, xs, rfl, h1, _⟩ := h.lst'; exact .base (.lst h1)
  | .tuple ds, _, h => by obtain ⟨a, xs, rfl, h1, _⟩ := h.tup'; exact .base (.tup h1)
  | .dict ds, _, h => by obtain ⟨a, xs, rfl, h1⟩ := h.dct'; exact .base (.dK h1)
theorem kit_int : ∀ d : PyData, kitB (tyD d) "int" = some (isIntD d)
  | .none => (by decide +kernel : kitB "NoneType" "int" = some false)
  | .bool _ => (by decide +kernel : kitB "bool" "int" = some true)
  | .int _ => (by decide +kernel : kitB "int" "int" = some true)
  | .str _ => (by decide +kernel : kitB "str" "int" = some false)
  | .list _ => (by decide +kernel : kitB "list" "int" = some false)
  | .tuple _ => (by decide +kernel : kitB "tuple" "int" = some false)
  | .dict _ => (by decide +kernel : kitB "dict" "int" = some false)
theorem kit_bool : ∀ d : PyData, kitB (tyD d) "bool" = some (isBoolD d)
  | .none => (by decide +kernel : kitB "NoneType" "bool" = some false)
  | .bool _ => (by decide +kernel : kitB "bool" "bool" = some true)
  | .int _ => (by decide +kernel : kitB "int" "bool" = some false)
  | .str _ => (by decide +kernel : kitB "str" "bool" = some false)
  | .list _ => (by decide +kernel : kitB "list" "bool" = some false)
  | .tuple _ => (by decide +kernel : kitB "tuple" "bool" = some false)
  | .dict _ => (by decide +kernel : kitB "dict" "bool" = some false)
theorem kit_str : ∀ d : PyData, kitB (tyD d) "str" = some (isStrD d)
  | .none => (by decide +kernel : kitB "NoneType" "str" = some false)
  | .bool _ => (by decide +kernel : kitB "bool" "str" = some false)
  | .int _ => (by decide +kernel : kitB "int" "str" = some false)
  | .str _ => (by decide +kernel : kitB "str" "str" = some true)
  | .list _ => (by decide +kernel : kitB "list" "str" = some false)
  | .tuple _ => (by decide +kernel : kitB "tuple" "str" = some false)
  | .dict _ => (by decide +kernel : kitB "dict" "str" = some false)
theorem kit_tup : ∀ d : PyData, kitB (tyD d) "tuple" = some (isTupD d)
  | .none => (by decide +kernel : kitB "NoneType" "tuple" = some false)
  | .bool _ => (by decide +kernel : kitB "bool" "tuple" = some false)
  | .int _ => (by decide +kernel : kitB "int" "tuple" = some false)
  | .str _ => (by decide +kernel : kitB "str" "tuple" = some false)
  | .list _ => (by decide +kernel : kitB "list" "tuple" = some false)
  | .tuple _ => (by decide +kernel : kitB "tuple" "tuple" = some true)
  | .dict _ => (by decide +kernel : kitB "dict" "tuple" = some false)
theorem kit_lst : ∀ d : PyData, kitB (tyD d) "list" = some (isLstD d)
  | .none => (by decide +kernel : kitB "NoneType" "list" = some false)
  | .bool _ => (by decide +kernel : kitB "bool" "list" = some false)
  | .int _ => (by decide +kernel : kitB "int" "list" = some false)
  | .str _ => (by decide +kernel : kitB "str" "list" = some false)
  | .list _ => (by decide +kernel : kitB "list" "list" = some true)
  | .tuple _ => (by decide +kernel : kitB "tuple" "list" = some false)
  | .dict _ => (by decide +kernel : kitB "dict" "list" = some false)
section
variable {K : Fg} {H : Hp} {d : PyData} {v : V} {Q : VK}
theorem rIsi_int (h : Rp H d v) (q : Q (.bl (isIntD d)) H) : rIsi K [v, .ty "int"] H Q := ⟨v, _, _, _, _, rfl, .ty "int", tyx_of h, kit_ty (kit_int d), q⟩
theorem rIsi_bool (h : Rp H d v) (q : Q (.bl (isBoolD d)) H) : rIsi K [v, .ty "bool"] H Q := ⟨v, _, _, _, _, rfl, .ty "bool", tyx_of h, kit_ty (kit_bool d), q⟩
theorem rIsi_str (h : Rp H d v) (q : Q (.bl (isStrD d)) H) : rIsi K [v, .ty "str"] H Q := ⟨v, _, _, _, _, rfl, .ty "str", tyx_of h, kit_ty (kit_str d), q⟩
theorem rIsi_tup (h : Rp H d v) (q : Q (.bl (isTupD d)) H) : rIsi K [v, .ty "tuple"] H Q := ⟨v, _, _, _, _, rfl, .ty "tuple", tyx_of h, kit_ty (kit_tup d), q⟩
theorem kitAny2 {t c1 c2 : Value} {b1 b2 : Bool} (h1 : PySem.W.kitOne K t c1 = some b1) (h2 : PySem.W.kitOne K t c2 = some b2) : PySem.W.kitAny K t [c1, c2] = some (b1 || b2) := by
  cases b1
  · refine kitAny_cons h1 (fun _ => ?_) (fun z => nomatch z)
    cases b2
    · exact kitAny_cons h2 (fun _ => kitAny_nil) (fun z => nomatch z)
    · exact kitAny_cons h2 (fun z => nomatch z) (fun _ => rfl)
  · exact kitAny_cons h1 (fun z => nomatch z) (fun _ => rfl)
theorem seq_or (d : PyData) : (isLstD d || isTupD d) = isSeqD d := by cases d <;> rfl
theorem rIsiT_seq {p : Addr} (h : Rp H d v) (hp : H p = none) (q : Q (.bl (isSeqD d)) (upd H p (.tup [.ty "list", .ty "tuple"]))) : rIsiT K [v, .ref p] (upd H p (.tup [.ty "list", .ty "tuple"])) Q := by
  rw [← seq_or] at q
  exact ⟨v, p, _, _, _, _, rfl, upd_same, .cons (.ty "list") (.cons (.ty "tuple") .nil), tyx_of (h.up (Ex.new hp)), kitAny2 (kit_ty (kit_lst d)) (kit_ty (kit_tup d)), q⟩
end

/-! ### heaps: a new object, an owned one changed -/
theorem ex_new {H : Hp} {p : Addr} {o : HO} (hp : H p = none) {G : Hp → Prop} (k : ∀ H1, Ex H H1 → H1 p = some o → G H1) : G (upd H p o) := k _ (Ex.new hp) upd_same
theorem ne_free {H : Hp} {a p : Addr} {o : HO} (h : H a = some o) (hp : H p = none) : a ≠ p := ne_of_none h hp
/-- all but a stands -/
def But (a : Addr) (H H' : Hp) : Prop := ∀ b o, b ≠ a → H b = some o → H' b = some o
theorem But.upd {a : Addr} {H : Hp} {o : HO} : But a H (upd H a o) := fun b u hb e => by rw [upd_ne hb]; exact e
theorem But.of {a : Addr} {H H' : Hp} (e : Ex H H') : But a H H' := fun b u _ h => e b u h
theorem But.trans {a : Addr} {H H1 H2 : Hp} (x : But a H H1) (y : But a H1 H2) : But a H H2 := fun b u hb e => y b u hb (x b u hb e)
/-- S stands apart from a -/
theorem But.ex {a : Addr} {S H H' : Hp} (b : But a H H') (e : Ex S H) (ha : S a = none) : Ex S H' := fun c o h => b c o (ne_of_none h ha) (e c o h)

/-! ### operators and calls by short names -/
abbrev oAdd : R2 := rI0 fun i j => .int (i + j)
abbrev oSub : R2 := rI0 fun i j => .int (i - j)
abbrev oMul : R2 := rI CMul fun i j => .int (i * j)
abbrev oMod : R2 := rI (fun _ j => 0 < j) fun i j => .int (i % j)
abbrev oFdiv : R2 := rI CDiv fun i j => .int (i / j)
abbrev oPow : R2 := rI CPow fun i j => .int (i ^ j.toNat)
abbrev oLt : R2 := rI0 fun i j => .bl (decide (i < j))
abbrev oLe : R2 := rI0 fun i j => .bl (decide (i ≤ j))
abbrev oGt : R2 := rI0 fun i j => .bl (decide (j < i))
abbrev oGe : R2 := rI0 fun i j => .bl (decide (j ≤ i))
abbrev oIsN : R2 := fun x y H Q => y = .non ∧ Q (.bl (decide (x = .non))) H
abbrev oNotN : R2 := fun x y H Q => y = .non ∧ Q (.bl (!decide (x = .non))) H
abbrev rNeg : V → Hp → VK → Prop := rU fun i => .int (-i)
abbrev rInt1 : List V → Hp → VK → Prop := fun xs H Q => (∃ i, xs = [.int i] ∧ Q (.int i) H) ∨ ∃ k, xs = [.bl k] ∧ Q (.int (if k then 1 else 0)) H
abbrev rAbs : List V → Hp → VK → Prop := fun xs H Q => ∃ i, xs = [.int i] ∧ Q (.int (if i < 0 then -i else i)) H
abbrev rMin2 : List V → Hp → VK → Prop := fun xs H Q => ∃ i j, xs = [.int i, .int j] ∧ Q (.int (if j < i then j else i)) H
abbrev rLenQ (K : Fg) : List V → Hp → VK → Prop := fun xs H Q => ∃ p ys, xs = [.ref p] ∧ (SqL K H p ys ∨ SqT K H p ys) ∧ Q (.int ys.length) H
abbrev rLenD : List V → Hp → VK → Prop := fun xs H Q => ∃ a kvs, xs = [V.ref a] ∧ H a = some (.dK kvs) ∧ Q (.int kvs.length) H
abbrev rListQ (K : Fg) : List V → Hp → VK → Prop := fun xs H Q => ∃ p ys, xs = [.ref p] ∧ (SqL K H p ys ∨ SqT K H p ys) ∧ ∀ l, H l = none → Q (.ref l) (upd H l (.lst ys))
abbrev rTupQ (K : Fg) : List V → Hp → VK → Prop := fun xs H Q => ∃ p ys, xs = [.ref p] ∧ ((SqL K H p ys ∧ ∀ l, H l = none → Q (.ref l) (upd H l (.tup ys))) ∨ (SqT K H p ys ∧ Q (.ref p) H))
abbrev rIxQ (K : Fg) : R2 := fun x y H Q => rIxL K x y H Q ∨ rIxT K x y H Q

theorem pe_globI {X : Cx} {x : Str} {i : Int} {pos : Pos} (h : ∃ t, X.mg x = some (.int i t)) (hg : Gl X x := by rfl) (hd : (x == ("__debug__" : Str)) = false := by decide) : PE X (.Name x pos) (tC (.int i)) := by
  obtain ⟨t, h⟩ := h
  exact pe_glob (v := .int i) hg h ⟨t, rfl⟩ hd
/-! ### a def by its name -/
structure Has (P : Program) (w : World) (K : Fg) (mg : Str → Option Value) (base : Heap) (k : Nat) (x : Str) (ps : List Str) (D : List (List V)) (sp : Sp) : Prop where
  g : mg x = some (.ref (ga K x))
  kp : PySem.W.keepIn K (.ref (ga K x)) = true
  ok : ∃ fd, FnOk P w K mg base (L2.CX P w) k (ga K x) fd ps sp ∧ ∀ dv, dv ∈ D → ∃ ds, Binds K fd ps ds ∧ Vals dv ds
section
variable {X : Cx} {x : Str} {k j : Nat} {ps : List Str} {D : List (List V)} {dvs : List V} {sp : Sp} {E : XK} {e : Expr} {es : List Expr} {t : TA} {p pos : Pos}
theorem pe_has (h : Has X.prog X.w X.K X.mg X.base k x ps D sp) (hr : Room j X.A) (hx : Passes (L2.CX X.prog X.w) X E) (ha : PA X (e :: es) t) (hg : Gl X x := by rfl) (hD : dvs ∈ D := by simp) (hk : k ≤ j := by decide) (hdb : (x == ("__debug__" : Str)) = false := by decide)
    (he : starEach (e :: es) X.env = (false, eval e X.env) :: starEach es X.env := by rfl) (hpl : (backTo pos (starEach es X.env)).any (·.1) = false := by rfl) :
    PE X (.Call (.Name x p) (e :: es) [] pos) (tCall sp dvs E t) := by
  obtain ⟨fd, F, b⟩ := h.ok
  obtain ⟨ds, b1, b2⟩ := b _ hD
  exact pe_call F (hr.mono hk) hg h.g h.kp b1 b2 hx ha hdb he hpl
theorem pe_hasS {E : L2.St → XK} (h : Has X.prog X.w X.K X.mg X.base k x ps D sp) (hr : Room j X.A) (hx : ∀ σ, PassesAt (L2.CX X.prog X.w) X σ (E σ)) (ha : PA X (e :: es) t) (hg : Gl X x := by rfl) (hD : dvs ∈ D := by simp) (hk : k ≤ j := by decide) (hdb : (x == ("__debug__" : Str)) = false := by decide)
    (he : starEach (e :: es) X.env = (false, eval e X.env) :: starEach es X.env := by rfl) (hpl : (backTo pos (starEach es X.env)).any (·.1) = false := by rfl) :
    PE X (.Call (.Name x p) (e :: es) [] pos) (tCallSD sp dvs E t) := by
  obtain ⟨fd, F, b⟩ := h.ok
  obtain ⟨ds, b1, b2⟩ := b _ hD
  exact pe_callSD F (hr.mono hk) hg h.g h.kp b1 b2 hx ha hdb he hpl
end
end SF

/-! SF1: exceptions made and caught by the names of their classes; sequences walked whatever their kind. -/
namespace SF
open PySem PySem.Spec PyProof.Rows L2
/-! ### what an __init__ that stores its parameters promises -/
def exFs (fields : List Str) (ws : List V) : List (Str × V) := (fields.zip ws).reverse
def sp_exI (C : Addr) (fields : List Str) : Sp := fun vs H Q _ => ∃ (a : Addr) (ws : List V), vs = .ref a :: ws ∧ ws.length = fields.length ∧ H a = some (exo a C none) ∧
  ∀ d, H d = none → d ≠ a → Q .non (upd (upd H a (exo a C (some d))) d (exd d (exFs fields ws)))
structure ExHas (P : Program) (w : World) (K : Fg) (mg : Str → Option Value) (base : Heap) (x : Str) (fields : List Str) : Prop where
  oex : OexC K (ga K x)
  g : mg x = some (.ref (ga K x))
  iC : PySem.W.findIn K (.ref (ga K x)) "__init__" = some (some (.ref (He.ma K (ga K x) "__init__")))
  tI : PySem.W.typeIn K (.ref (He.ma K (ga K x) "__init__")) = some (.type "function")
  ok : ∃ fd, FnOk P w K mg base (L2.CX P w) 1 (He.ma K (ga K x) "__init__") fd ("self" :: fields) (sp_exI (ga K x) fields) ∧ Binds K fd ("self" :: fields) []
def tRaiseF (C : Addr) (fields : List Str) (E : XK) (ta : TA) : TS := fun _ σ H => ta σ H fun vs H1 => vs.length = fields.length ∧ ∀ d, H1 d = none → E (.ref C) (some d) (upd H1 d (.xd (exFs fields vs)))
section
variable {X : Cx} {x : Str} {j : Nat} {fields : List Str} {e : Expr} {es : List Expr} {ta : TA} {p pos : Pos}
/-- the closure of an argument list's reading -/
theorem PA.up {es : List Expr} (h : PA X es ta) : PA X es (fun σ H Q => ∃ k, ta σ H k ∧ ∀ vs H1, k vs H1 → Q vs H1) := by
  refine ⟨fun pos pins s σ H Q I ⟨k, h1, h2⟩ => thn (h.run pos pins s σ H k I h1) fun us s1 ⟨vs, H1, I1, r, q⟩ => ⟨vs, H1, I1, r, h2 _ _ q⟩⟩
theorem pmk_has (h : ExHas X.prog X.w X.K X.mg X.base x fields) (hr : Room j X.A) (ha : PA X (e :: es) ta) (hg : Gl X x := by rfl) (hk : 2 ≤ j := by decide) (hf : fields.length ≤ 900 := by decide)
    (hdb : (x == ("__debug__" : Str)) = false := by decide) (he : starEach (e :: es) X.env = (false, eval e X.env) :: starEach es X.env := by rfl) (hpl : (backTo pos (starEach es X.env)).any (·.1) = false := by rfl) :
    PMk X (.Call (.Name x p) (e :: es) [] pos) (fun σ H Q => ta σ H fun vs H1 => vs.length = fields.length ∧ ∀ d, H1 d = none → Q (.ref (ga X.K x)) (some d) (upd H1 d (.xd (exFs fields vs)))) := by
  obtain ⟨fd, F, b⟩ := h.ok
  have Z := pmk_oex (p := p) (pos := pos) (dvs := []) (ds := []) h.oex h.iC h.tI F (hr.mono hk) b .nil passL hg h.g (PA.up ha) hdb he hpl
  intro pins s σ H Q I q
  refine Z pins s σ H Q I ⟨_, q, fun vs H1 ⟨hl, q1⟩ => ⟨by omega, fun a hn => ?_⟩⟩
  refine ⟨a, vs ++ [], rfl, by simpa using hl, upd_same, fun d hd hda => ?_⟩
  have hd1 : H1 d = none := by rw [upd_ne hda] at hd; exact hd
  refine ⟨rfl, d, exFs fields vs, ?_, ?_, hd1, ?_⟩
  · rw [upd_ne (Ne.symm hda), upd_same]
  · rw [upd_same, List.append_nil]
  · have q2 := q1 d hd1
    have e1 : upd (del (upd (upd (upd H1 a (exo a (ga X.K x) none)) a (exo a (ga X.K x) (some d))) d (exd d (exFs fields (vs ++ [])))) a) d (.xd (exFs fields vs)) = upd H1 d (.xd (exFs fields vs)) := by
      funext b
      by_cases h1 : b = d
      · rw [h1, upd_same, upd_same]
      · rw [upd_ne h1, upd_ne h1]
        by_cases h2 : b = a
        · rw [h2, del_same, hn]
        · rw [del_ne h2, upd_ne h1, upd_ne h2, upd_ne h2]
    rw [e1]
    exact q2
/-! ### the readings of such an __init__ (self in slot 0, the parameters behind it) -/
abbrev tvar (i : Nat) : TE := fun σ H Q => ∃ v, σ[i]? = some (some v) ∧ Q v H
section
variable {K : Fg} {C : Addr} {f1 f2 : Str} {vs : List V} {H : Hp} {Q : VK} {E : XK} {N : List Str}
theorem rd_exI1 (oex : OexC K C) (n1 : PySem.W.findIn K (.ref C) f1 = some none) (h : sp_exI C [f1] vs H Q E) : tOst K f1 (tvar 0) (tvar 1) { nx := fun _ H' => Q .non H', rt := Q } (start N vs) H := by
  obtain ⟨a, ws, rfl, hl, ha, k⟩ := h
  match ws, hl with
  | [w1], _ =>
    refine ⟨_, rfl, _, rfl, a, C, rfl, oex, n1, .inl ⟨ha, fun dx hd hda => ?_⟩⟩
    have e : upd (upd H dx (exd dx [(f1, w1)])) a (exo a C (some dx)) = upd (upd H a (exo a C (some dx))) dx (exd dx (exFs [f1] [w1])) := by
      funext b
      by_cases h1 : b = a
      · subst h1; rw [upd_same, upd_ne (Ne.symm hda), upd_same]
      · rw [upd_ne h1]
        by_cases h2 : b = dx
        · subst h2; rw [upd_same, upd_same]; rfl
        · rw [upd_ne h2, upd_ne h2, upd_ne h1]
    rw [e]
    exact k dx hd hda
theorem rd_exI2 (oex : OexC K C) (n1 : PySem.W.findIn K (.ref C) f1 = some none) (n2 : PySem.W.findIn K (.ref C) f2 = some none) (h : sp_exI C [f1, f2] vs H Q E) :
    tSeq (tOst K f1 (tvar 0) (tvar 1)) (tOst K f2 (tvar 0) (tvar 2)) { nx := fun _ H' => Q .non H', rt := Q } (start N vs) H := by
  obtain ⟨a, ws, rfl, hl, ha, k⟩ := h
  match ws, hl with
  | [w1, w2], _ =>
    refine ⟨_, rfl, _, rfl, a, C, rfl, oex, n1, .inl ⟨ha, fun dx hd hda => ?_⟩⟩
    refine ⟨_, rfl, _, rfl, a, C, rfl, oex, n2, .inr ⟨dx, [(f1, w1)], upd_same, by rw [upd_ne hda, upd_same], (by show 1 ≤ 900; decide), ?_⟩⟩
    have e : upd (upd (upd H dx (exd dx [(f1, w1)])) a (exo a C (some dx))) dx (exd dx [(f2, w2), (f1, w1)]) = upd (upd H a (exo a C (some dx))) dx (exd dx (exFs [f1, f2] [w1, w2])) := by
      funext b
      by_cases h2 : b = dx
      · subst h2; rw [upd_same, upd_same]; rfl
      · rw [upd_ne h2, upd_ne h2]
        by_cases h1 : b = a
        · subst h1; rw [upd_same, upd_same]
        · rw [upd_ne h1, upd_ne h2, upd_ne h1]
    rw [e]
    exact k dx hd hda
end
/-! ### a list or a tuple, walked -/
theorem pi_seqQ {tg l : Expr} {tl : TE} (hl : PE X l tl) : PI X tg l (fun σ H R => tl σ H fun x H1 => ∃ a, x = .ref a ∧ (((∃ xs, SqL X.K H1 a xs) ∧ R (Itl X.K a) H1) ∨ ((∃ xs, SqT X.K H1 a xs) ∧ R (Itt X.K a) H1))) := by
  refine ⟨fun pins s σ H R I h => thn (hl.run pins s σ H _ I h) fun v s1 ⟨x, H1, I1, r1, a, ex, q⟩ => ?_⟩
  subst ex
  cases r1
  rcases q with ⟨⟨xs, hq⟩, q⟩ | ⟨⟨xs, hq⟩, q⟩
  · obtain ⟨its, rv, pl, hz⟩ := I1.list hq
    refine wpAny_pyIter_list pl.isList ⟨s1.heap.objs.size, [s1.heap.objs.size], _, _, H1, rfl, I1.kept (t' := s1.toks) fun b o e => Heap.get?_push_of_some _ e, turn_list a _, ⟨_, Heap.get?_push_size _ rfl, rfl, rfl⟩, fun b hb => ?_, q⟩
    cases List.mem_singleton.mp hb
    exact I1.fpOk (Nat.le_refl _) (I1.hok.fresh (Nat.le_refl _))
  · obtain ⟨its, rv, pl, hz⟩ := I1.tuple hq
    have pl2 : s1.heap.IsTuple a its.toArray := pl
    refine wpAny_pyIter_tuple pl2 ⟨s1.heap.objs.size, [s1.heap.objs.size], _, _, H1, rfl, I1.kept (t' := s1.toks) fun b o e => Heap.get?_push_of_some _ e, turn_tuple a _, ⟨_, Heap.get?_push_size _ rfl, rfl, rfl⟩, fun b hb => ?_, q⟩
    cases List.mem_singleton.mp hb
    exact I1.fpOk (Nat.le_refl _) (I1.hok.fresh (Nat.le_refl _))
end
/-! ### isinstance of the error that a suite holds, its dict beside it -/
structure XcC (K : Fg) (D : Addr) : Prop where
  hcl : (PySem.W.clsIn K D).isSome = true
  hg : PySem.W.findIn K (.ref D) "__getattribute__" = some (some (.builtin "BaseException.__getattribute__"))
  hk : PySem.W.findIn K (.ref D) "__getattr__" = some none
  hs : PySem.W.subIn K (.ref D) (.type "BaseException") = some true
  ha : PySem.W.findIn K (.ref D) "__class__" = some (some (.builtin "object.__class__"))
  hn : PySem.W.specialIn K (.builtin "object.__class__") "__get__" = some (some (.builtin "getset_descriptor.__get__"))
  ht : PySem.W.takesIn K (.builtin "object.__class__") = some true
  hm : PySem.W.mroIn K D (.type "object") = some true
def rIsED (K : Fg) (D a : Addr) (cls : Value) (d : Option Addr) : List V → Hp → VK → Prop := fun xs H Q => ∃ (c : V) (cv : Value) (b : Bool) (dd : Addr) (fs : List (Str × V)),
  xs = [.ref a, c] ∧ cls = .ref D ∧ d = some dd ∧ H dd = some (.xd fs) ∧ (∀ u, RelV c u → u = cv) ∧ PySem.W.kitOne K (.ref D) cv = some b ∧ Q (.bl b) H
theorem call_isED {X : Cx} {a D : Addr} {oe : Obj} {cls : Value} {d : Option Addr} {pn : List (Addr × Obj)} (C : XcC X.K D) (hz : Zc cls d oe) (hf : ∃ vs, oe.data = .fields vs) :
    CallR (X.suite a ((a, oe) :: pn)) (.builtin "isinstance") (rIsED X.K D a cls d) := by
  intro pins s σ H xs us Q I r h
  obtain ⟨c, cv, b, dd, fs, rfl, rfl, rfl, hdd, hcv, e, q⟩ := h
  obtain ⟨u1, u2, rfl, r1, r2⟩ := vals2 r
  cases (show u1 = Value.ref a from r1)
  cases hcv _ r2
  obtain ⟨hget, _⟩ := I.pin (a, oe) (List.mem_append.mpr (.inl List.mem_cons_self))
  obtain ⟨mA, hns, _⟩ := (show ObjOk (X.suite a ((a, oe) :: pn)).prog (X.suite a ((a, oe) :: pn)).w H s.heap dd (.xd fs) from I.hok dd _ hdd)
  obtain ⟨od, ho, _⟩ := lookIn_ns hns
  obtain ⟨vs, hv⟩ := hf
  obtain ⟨z1, z2⟩ := hz
  have J : PySem.W.InstAt s.heap a oe D (some od) := ⟨hget, z1, by unfold PySem.W.notCls; rw [hv] <;> rfl, by rw [z2]; exact ho⟩
  exact PySem.W.kia_one (PySem.W.kitx_exc C.hcl C.hg C.hk C.hs C.ha C.hn C.ht C.hm) I.kIn J e (fun z => nomatch z) fun tk => ⟨.bl b, H, I.kept (t' := tk) fun _ _ z => z, rfl, q⟩
end SF

/-! SF2: short ways through readings: tests, loops over data, stores. -/
namespace SF
open PySem L2
theorem iteB {c : Bool} {A B : Prop} (h1 : c = true → A) (h2 : c = false → B) : if c = true then A else B := by
  cases c
  · exact h2 rfl
  · exact h1 rfl
theorem ifT {c : Bool} {A B : Prop} (h : c = true) (a : A) : if c = true then A else B := by rw [if_pos h]; exact a
theorem ifF {c : Bool} {A B : Prop} (h : c = false) (b : B) : if c = true then A else B := by rw [h]; exact iteF b
theorem ifNT {c : Bool} {A B : Prop} (h : c = false) (a : A) : if (!c) = true then A else B := by rw [h]; exact iteT a
theorem ifNF {c : Bool} {A B : Prop} (h : c = true) (b : B) : if (!c) = true then A else B := by rw [h]; exact iteF b
theorem iteN {c : Bool} {A B : Prop} (h1 : c = false → A) (h2 : c = true → B) : if (!c) = true then A else B := by
  cases c
  · exact iteT (h1 rfl)
  · exact iteF (h2 rfl)
/-- a decided test -/
theorem iteD {p : Prop} [Decidable p] {A B : Prop} (h1 : p → A) (h2 : ¬ p → B) : if decide p = true then A else B := iteB (fun c => h1 (of_decide_eq_true c)) fun c => h2 (of_decide_eq_false c)
theorem iteND {p : Prop} [Decidable p] {A B : Prop} (h1 : ¬ p → A) (h2 : p → B) : if (!decide p) = true then A else B := iteN (fun c => h1 (of_decide_eq_false c)) fun c => h2 (of_decide_eq_true c)
def itemsD : PyData → List PyData | .list ds => ds | .tuple ds => ds | _ => []
section
variable {K : Fg} {H S : Hp} {d : PyData} {ds : List PyData} {v : V} {xs : List V} {a : Addr} {g : TG} {tb : TS} {D : Ends} {σ : St}
theorem seq_of (h : Rp H d v) (hs : isSeqD d = true) : ∃ a xs, v = .ref a ∧ (H a = some (.lst xs) ∨ H a = some (.tup xs)) ∧ Rps H (itemsD d) xs := by
  cases d <;> first | cases hs | skip
  · obtain ⟨a, xs, rfl, h1, h2⟩ := h.lst'; exact ⟨a, xs, rfl, .inl h1, h2⟩
  · obtain ⟨a, xs, rfl, h1, h2⟩ := h.tup'; exact ⟨a, xs, rfl, .inr h1, h2⟩
theorem SqQ.of {H' : Hp} (h : H a = some (.lst xs) ∨ H a = some (.tup xs)) (e : Ex H H') : SqL K H' a xs ∨ SqT K H' a xs := h.elim (fun h => .inl (.of (e _ _ h))) fun h => .inr (.of (e _ _ h))
theorem at_nat {xs : List V} {i : Nat} {v : V} (h : xs[i]? = some v) : atI xs (i : Int) = some v := atI_nat h
/-- an item of a list or a tuple -/
theorem ixQ {H' : Hp} {i : Int} {Q : VK} (h : H a = some (.lst xs) ∨ H a = some (.tup xs)) (e : Ex H H') (hi : atI xs i = some v) (q : Q v H') : rIxQ K (.ref a) (.int i) H' Q := by
  rcases h with h | h
  · exact .inl ⟨a, xs, i, v, rfl, rfl, .of (e _ _ h), hi, q⟩
  · exact .inr ⟨a, xs, i, v, rfl, rfl, .of (e _ _ h), hi, q⟩
theorem lenQ {H' : Hp} {Q : VK} (h : H a = some (.lst xs) ∨ H a = some (.tup xs)) (e : Ex H H') (q : Q (.int xs.length) H') : rLenQ K [.ref a] H' Q := ⟨a, xs, rfl, SqQ.of h e, q⟩
/-- for x in a sequence that stays, whatever its kind -/
theorem for_seqQ (hv : H a = some (.lst xs) ∨ H a = some (.tup xs)) (Pv : Nat → St → Hp → Prop) (h0 : Pv 0 σ H) (hx : ∀ i σ H', Pv i σ H' → Ex H H')
    (hs : ∀ i x σ H', xs[i]? = some x → Pv i σ H' → g x σ H' fun σ2 H2 => tb { D with nx := Pv (i + 1), ct := Pv (i + 1), bk := D.nx } σ2 H2) (hd : ∀ σ H', Pv xs.length σ H' → D.nx σ H') :
    ∃ a', V.ref a = .ref a' ∧ (((∃ xs, SqL K H a' xs) ∧ ∃ W : Nat → Nat → St → Hp → Prop, (∃ m, W 0 m σ H) ∧ ∀ i m σ H, W i m σ H → ((Itl K a').stop i H ∧ D.nx σ H) ∨ ((Itl K a').go i H ∧ ∃ N : St → Hp → Prop, (∀ σ' H', N σ' H' → ∃ m', m' < m ∧ W (i + 1) m' σ' H') ∧ ∀ x H', (Itl K a').yld i H x H' → g x σ H' fun σ2 H2 => tb { D with nx := N, ct := N, bk := D.nx } σ2 H2)) ∨
      ((∃ xs, SqT K H a' xs) ∧ ∃ W : Nat → Nat → St → Hp → Prop, (∃ m, W 0 m σ H) ∧ ∀ i m σ H, W i m σ H → ((Itt K a').stop i H ∧ D.nx σ H) ∨ ((Itt K a').go i H ∧ ∃ N : St → Hp → Prop, (∀ σ' H', N σ' H' → ∃ m', m' < m ∧ W (i + 1) m' σ' H') ∧ ∀ x H', (Itt K a').yld i H x H' → g x σ H' fun σ2 H2 => tb { D with nx := N, ct := N, bk := D.nx } σ2 H2))) := by
  refine ⟨a, rfl, ?_⟩
  rcases hv with hv | hv
  · exact .inl ⟨⟨_, .of hv⟩, for_list (K := K) (a := a) (xs := xs) Pv h0 (fun i σ H' _ p => .of (hx i σ H' p _ _ hv)) hs hd⟩
  · exact .inr ⟨⟨_, .of hv⟩, for_tup (K := K) (a := a) (xs := xs) Pv h0 (fun i σ H' _ p => .of (hx i σ H' p _ _ hv)) hs hd⟩
end
/-! ### what is owned: objects that may still change, apart from all that stands in S -/
structure Owns (S H : Hp) (l : List (Addr × HO)) : Prop where
  ex : Ex S H
  nd : (l.map (·.1)).Nodup
  here : ∀ p ∈ l, H p.1 = some p.2
  off : ∀ p ∈ l, S p.1 = none
section
variable {S S' H H' : Hp} {l l' : List (Addr × HO)} {a : Addr} {o o' : HO}
theorem Owns.none (S : Hp) : Owns S S [] := ⟨Ex.refl S, List.nodup_nil, (fun _ h => by cases h), (fun _ h => by cases h)⟩
theorem Owns.get (w : Owns S H l) (i : Nat) (h : l[i]? = some (a, o) := by rfl) : H a = some o := w.here _ (List.mem_of_getElem? h)
theorem Owns.offA (w : Owns S H l) (i : Nat) (h : l[i]? = some (a, o) := by rfl) : S a = .none := w.off _ (List.mem_of_getElem? h)
theorem Owns.call (w : Owns S H l) (e : Ex H H') : Owns S H' l := ⟨w.ex.trans e, w.nd, fun p hp => e _ _ (w.here p hp), w.off⟩
theorem Owns.base {B : Hp} (w : Owns S H l) (e : Ex B S) : Owns B H l := ⟨e.trans w.ex, w.nd, w.here, fun p hp => e.free (w.off p hp)⟩
theorem Owns.perm (w : Owns S H l) (p : l'.Perm l) : Owns S H l' := ⟨w.ex, (p.map _).nodup_iff.mpr w.nd, fun q hq => w.here q (p.mem_iff.mp hq), fun q hq => w.off q (p.mem_iff.mp hq)⟩
theorem Owns.sub (w : Owns S H l) (s : l'.Sublist l) : Owns S H l' := ⟨w.ex, w.nd.sublist (s.map _), fun q hq => w.here q (s.subset hq), fun q hq => w.off q (s.subset hq)⟩
theorem Owns.new (w : Owns S H l) (h : H a = .none) : Owns S (upd H a o) ((a, o) :: l) where
  ex := w.ex.trans (Ex.new h)
  nd := by
    refine List.nodup_cons.mpr ⟨fun hm => ?_, w.nd⟩
    obtain ⟨p, hp, e⟩ := List.mem_map.mp hm
    have := w.here p hp
    rw [e, h] at this
    cases this
  here := fun p hp => by
    rcases List.mem_cons.mp hp with rfl | hp
    · exact upd_same
    · exact Ex.new h _ _ (w.here p hp)
  off := fun p hp => by
    rcases List.mem_cons.mp hp with rfl | hp
    · exact w.ex.free h
    · exact w.off p hp
theorem Owns.newE (w : Owns S H l) (h : H a = .none) : Owns S (upd H a o) (l ++ [(a, o)]) := (w.new h).perm (List.perm_append_comm)
/-- a new object that came by a call -/
theorem Owns.came (w : Owns S H l) (h : H a = .none) (e : Ex H H') (h' : H' a = some o) : Owns S H' ((a, o) :: l) where
  ex := w.ex.trans e
  nd := by
    refine List.nodup_cons.mpr ⟨fun hm => ?_, w.nd⟩
    obtain ⟨p, hp, e⟩ := List.mem_map.mp hm
    have := w.here p hp
    rw [e, h] at this
    cases this
  here := fun p hp => by
    rcases List.mem_cons.mp hp with rfl | hp
    · exact h'
    · exact e _ _ (w.here p hp)
  off := fun p hp => by
    rcases List.mem_cons.mp hp with rfl | hp
    · exact w.ex.free h
    · exact w.off p hp
theorem keys_set : ∀ {l : List (Addr × HO)} {i : Nat}, l[i]? = some (a, o) → (l.set i (a, o')).map (·.1) = l.map (·.1)
  | [], i, h => by simp at h
  | p :: l, 0, h => by simp at h; subst h; rfl
  | p :: l, i + 1, h => by
    simp only [List.set_cons_succ, List.map_cons]
    rw [keys_set (i := i) (by simpa using h)]
theorem set_mem : ∀ {l : List (Addr × HO)} {i : Nat}, l[i]? = some (a, o) → (l.map (·.1)).Nodup → ∀ p ∈ l.set i (a, o'), p = (a, o') ∨ (p ∈ l ∧ p.1 ≠ a)
  | [], i, h, _, _, _ => by simp at h
  | q :: l, 0, h, n, p, hp => by
    simp at h; subst h
    simp only [List.set_cons_zero, List.mem_cons] at hp
    rcases hp with rfl | hp
    · exact .inl rfl
    · refine .inr ⟨List.mem_cons_of_mem _ hp, fun e => ?_⟩
      rw [List.map_cons, List.nodup_cons] at n
      exact n.1 (e ▸ List.mem_map_of_mem (f := (·.1)) hp)
  | q :: l, i + 1, h, n, p, hp => by
    have h' : l[i]? = some (a, o) := by simpa using h
    rw [List.map_cons, List.nodup_cons] at n
    simp only [List.set_cons_succ, List.mem_cons] at hp
    rcases hp with rfl | hp
    · refine .inr ⟨List.mem_cons_self, fun e => n.1 ?_⟩
      rw [e]
      exact List.mem_map_of_mem (f := (·.1)) (List.mem_of_getElem? h')
    · rcases set_mem h' n.2 p hp with e | ⟨e1, e2⟩
      · exact .inl e
      · exact .inr ⟨List.mem_cons_of_mem _ e1, e2⟩
theorem Owns.write' (w : Owns S H l) (i : Nat) (h : l[i]? = some (a, o)) (b : But a H H') (h' : H' a = some o') : Owns S H' (l.set i (a, o')) where
  ex := b.ex w.ex (w.offA i h)
  nd := by rw [keys_set h]; exact w.nd
  here := fun p hp => by
    rcases set_mem h w.nd p hp with rfl | ⟨e1, e2⟩
    · exact h'
    · exact b _ _ e2 (w.here p e1)
  off := fun p hp => by
    rcases set_mem h w.nd p hp with rfl | ⟨e1, e2⟩
    · exact w.offA i h
    · exact w.off p e1
theorem Owns.write (w : Owns S H l) (i : Nat) (h : l[i]? = some (a, o) := by rfl) : Owns S (upd H a o') (l.set i (a, o')) := w.write' i h But.upd upd_same
theorem mem_erase : ∀ {l : List (Addr × HO)} {i : Nat}, l[i]? = some (a, o) → (l.map (·.1)).Nodup → ∀ p ∈ l.eraseIdx i, p ∈ l ∧ p.1 ≠ a
  | [], i, h, _, _, _ => by simp at h
  | q :: l, 0, h, n, p, hp => by
    simp at h; subst h
    rw [List.map_cons, List.nodup_cons] at n
    simp only [List.eraseIdx_cons_zero] at hp
    exact ⟨List.mem_cons_of_mem _ hp, fun e => n.1 (e ▸ List.mem_map_of_mem (f := (·.1)) hp)⟩
  | q :: l, i + 1, h, n, p, hp => by
    have h' : l[i]? = some (a, o) := by simpa using h
    rw [List.map_cons, List.nodup_cons] at n
    simp only [List.eraseIdx_cons_succ, List.mem_cons] at hp
    rcases hp with rfl | hp
    · refine ⟨List.mem_cons_self, fun e => n.1 ?_⟩
      rw [e]
      exact List.mem_map_of_mem (f := (·.1)) (List.mem_of_getElem? h')
    · obtain ⟨e1, e2⟩ := mem_erase h' n.2 p hp
      exact ⟨List.mem_cons_of_mem _ e1, e2⟩
theorem Owns.drop (w : Owns S H l) (i : Nat) : Owns S H (l.eraseIdx i) := w.sub (List.eraseIdx_sublist ..)
/-- an owned object that won't change any more -/
theorem Owns.freeze (w : Owns S H l) (i : Nat) (h : l[i]? = some (a, o) := by rfl) : Owns (upd S a o) H (l.eraseIdx i) where
  ex := fun b u e => by
    by_cases hb : b = a
    · subst hb; rw [upd_same] at e; cases e; exact w.get i h
    · rw [upd_ne hb] at e; exact w.ex b u e
  nd := w.nd.sublist ((List.eraseIdx_sublist ..).map _)
  here := fun p hp => w.here p (mem_erase h w.nd p hp).1
  off := fun p hp => by rw [upd_ne (mem_erase h w.nd p hp).2]; exact w.off p (mem_erase h w.nd p hp).1
theorem Owns.freezeEx (w : Owns S H l) (i : Nat) (h : l[i]? = some (a, o) := by rfl) : Ex S (upd S a o) := Ex.new (w.offA i h)
/-- a new object that never changes -/
theorem Owns.grow (w : Owns S H l) (h : H a = .none) : Owns (upd S a o) (upd H a o) l where
  ex := fun b u e => by
    by_cases hb : b = a
    · subst hb; rw [upd_same] at e ⊢; exact e
    · rw [upd_ne hb] at e ⊢; exact w.ex b u e
  nd := w.nd
  here := fun p hp => Ex.new h _ _ (w.here p hp)
  off := fun p hp => by rw [upd_ne (ne_free (w.here p hp) h)]; exact w.off p hp
theorem Owns.growEx (w : Owns S H l) (h : H a = .none) : Ex S (upd S a o) := Ex.new (w.ex.free h)
/-- all that a call brought stands from now on -/
theorem Owns.growAll (w : Owns S H l) (e : Ex H H') : ∃ S', Ex S S' ∧ Owns S' H' l ∧ ∀ b o, H' b = some o → (∀ p ∈ l, p.1 ≠ b) → S' b = some o := by
  refine ⟨fun b => if b ∈ l.map (·.1) then .none else H' b, fun b o hb => ?_, ⟨fun b o hb => ?_, w.nd, fun p hp => e _ _ (w.here p hp), fun p hp => ?_⟩, fun b o hb hn => ?_⟩
  · have hnb : b ∉ l.map (·.1) := fun hm => by
      obtain ⟨p, hp, rfl⟩ := List.mem_map.mp hm
      rw [w.off p hp] at hb; cases hb
    show (if b ∈ l.map (·.1) then .none else H' b) = some o
    rw [if_neg hnb]
    exact e _ _ (w.ex _ _ hb)
  · by_cases hm : b ∈ l.map (·.1)
    · rw [if_pos hm] at hb; cases hb
    · rw [if_neg hm] at hb; exact hb
  · show (if p.1 ∈ l.map (·.1) then .none else H' p.1) = .none
    rw [if_pos (List.mem_map_of_mem (f := (·.1)) hp)]
  · have hnb : b ∉ l.map (·.1) := fun hm => by
      obtain ⟨p, hp, rfl⟩ := List.mem_map.mp hm
      exact hn p hp rfl
    show (if b ∈ l.map (·.1) then .none else H' b) = some o
    rw [if_neg hnb]
    exact hb
end
end SF

/-! P89a: what wholes.py and the checks of lots.py tell, as functions of data; their promises. -/
namespace SF
open PySem L2
def optV : Option Int → V | none => .non | some i => .int i
def isWholeD (lo hi : Option Int) : PyData → Bool
  | .int i => (match lo with | none => true | some l => decide (l ≤ i)) && (match hi with | none => true | some h => decide (i ≤ h))
  | _ => false
def sp_is_whole : Sp := fun vs H Q _ => ∃ d v lo hi, vs = [v, optV lo, optV hi] ∧ Rp H d v ∧ ∀ H', Ex H H' → Q (.bl (isWholeD lo hi d)) H'
theorem len_is_whole {vs H Q E} (h : sp_is_whole vs H Q E) : vs.length = 3 := by obtain ⟨_, _, _, _, rfl, _⟩ := h; rfl
def sp_is_sequence : Sp := fun vs H Q _ => ∃ d v, vs = [v] ∧ Rp H d v ∧ ∀ H', Ex H H' → Q (.bl (isSeqD d)) H'
theorem len_is_sequence {vs H Q E} (h : sp_is_sequence vs H Q E) : vs.length = 1 := by obtain ⟨_, _, rfl, _⟩ := h; rfl
def isKeysD (d : PyData) : Bool := isSeqD d && (itemsD d).all (isWholeD none none)
def sp_are_keys : Sp := fun vs H Q _ => ∃ d v, vs = [v] ∧ Rp H d v ∧ ∀ H', Ex H H' → Q (.bl (isKeysD d)) H'
theorem len_are_keys {vs H Q E} (h : sp_are_keys vs H Q E) : vs.length = 1 := by obtain ⟨_, _, rfl, _⟩ := h; rfl
def isArcD (last : Int) (d : PyData) : Bool := isSeqD d && match itemsD d with
  | [a, b, c] => isWholeD (some 0) (some last) a && (isWholeD (some 0) (some last) b && isKeysD c)
  | _ => false
def sp_is_arc : Sp := fun vs H Q _ => ∃ d v last, vs = [v, .int last] ∧ Rp H d v ∧ ∀ H', Ex H H' → Q (.bl (isArcD last d)) H'
theorem len_is_arc {vs H Q E} (h : sp_is_arc vs H Q E) : vs.length = 2 := by obtain ⟨_, _, _, rfl, _⟩ := h; rfl
/-- the first place where f does not hold -/
def firstNot (f : PyData → Bool) (l : List PyData) : Option Nat := l.findIdx? fun d => !f d
/-- the fault of a graph: which part, at which place -/
def gFault (dw da : PyData) : Option (Str × Int) :=
  if !isSeqD dw || decide (30000 < (itemsD dw).length) then some ("wants", 0)
  else match firstNot isKeysD (itemsD dw) with
    | some i => some ("wants", (i : Int))
    | none => if !isSeqD da then some ("arcs", 0) else match firstNot (isArcD ((itemsD dw).length - 1)) (itemsD da) with
      | some i => some ("arcs", (i : Int))
      | none => none
abbrev fWA : List Str := ["what", "at"]
/-- what is wanted where BadGraph(what, at) is raised -/
def Bad (K : Fg) (H : Hp) (E : XK) (p : Str × Int) : Prop := ∀ H' d, Ex H H' → H' d = some (.xd (exFs fWA [.str p.1, .int p.2])) → E (.ref (ga K "BadGraph")) (some d) H'
theorem Bad.up {K : Fg} {H H1 : Hp} {E : XK} {p : Str × Int} (b : Bad K H E p) (e : Ex H H1) : Bad K H1 E p := fun H' d e1 h => b H' d (e.trans e1) h
def sp_check_graph (K : Fg) : Sp := fun vs H Q E => ∃ dw da vw va, vs = [vw, va] ∧ Rp H dw vw ∧ Rp H da va ∧ ((itemsD da).length < 2 ^ 62) ∧
  (match gFault dw da with
    | none => ∀ H', Ex H H' → Q .non H'
    | some p => Bad K H E p)
theorem len_check_graph {K vs H Q E} (h : sp_check_graph K vs H Q E) : vs.length = 2 := by obtain ⟨_, _, _, _, rfl, _⟩ := h; rfl
theorem firstNot_all {f : PyData → Bool} {l : List PyData} : firstNot f l = none ↔ ∀ d ∈ l, f d = true := by
  unfold firstNot
  rw [List.findIdx?_eq_none_iff]
  constructor
  · intro h d hd; have := h d hd; simpa using this
  · intro h d hd; have := h d hd; simpa using this
theorem firstNot_some {f : PyData → Bool} {l : List PyData} {i : Nat} {d : PyData} (hd : l[i]? = some d) (hf : f d = false) (hb : ∀ j < i, ∀ e, l[j]? = some e → f e = true) : firstNot f l = some i := by
  unfold firstNot
  obtain ⟨hi, e⟩ := List.getElem?_eq_some_iff.mp hd
  rw [List.findIdx?_eq_some_iff_getElem]
  refine ⟨hi, by rw [e]; simp [hf], fun j hj => ?_⟩
  have := hb j hj _ (List.getElem?_eq_getElem (by omega))
  simp [this]
end SF


namespace SF
open PySem L2
def t_is_whole_1 (K : Fg) (E : XK) : TS :=
    tRet (fun σ H Q => ∃ v6, σ[2]? = some (some v6) ∧ oIsN v6 V.non H (fun x5 h5 => ∃ c5, x5 = .bl c5 ∧ if c5 = true then Q (V.bl true) h5 else ∃ v7, σ[0]? = some (some v7) ∧ ∃ v8, σ[2]? = some (some v8) ∧ oLe v7 v8 h5 Q))
def t_is_whole_2 (K : Fg) (E : XK) : TS :=
    tSeq (tIfS (fun σ H Q => ∃ v3, σ[1]? = some (some v3) ∧ oNotN v3 V.non H (fun x3 h3 => ∃ c3, x3 = .bl c3 ∧ if c3 = true then ∃ v4, σ[0]? = some (some v4) ∧ ∃ v5, σ[1]? = some (some v5) ∧ oLt v4 v5 h3 (fun x4 h4 => ∃ c4, x4 = .bl c4 ∧ Q c4 h4) else Q false h3))
      (tRet (fun σ H Q => Q (V.bl false) H))
      (tNext))
    (t_is_whole_1 K E)
def t_is_whole (K : Fg) (E : XK) : TS :=
    tSeq (tIfS (fun σ H Q => ∃ v1, σ[0]? = some (some v1) ∧ rIsi K [v1, (V.ty "int")] H (fun x1 h1 => ∃ c1, x1 = .bl c1 ∧ if (!c1) = true then Q true h1 else ∃ v2, σ[0]? = some (some v2) ∧ rIsi K [v2, (V.ty "bool")] h1 (fun x2 h2 => ∃ c2, x2 = .bl c2 ∧ Q c2 h2)))
      (tRet (fun σ H Q => Q (V.bl false) H))
      (tNext))
    (t_is_whole_2 K E)

def t_is_sequence (K : Fg) (E : XK) : TS :=
    tRet (fun σ H Q => ∃ v1, σ[0]? = some (some v1) ∧ 2 ≤ sizeLine ∧ ∀ p1, H p1 = none → rIsiT K [v1, (V.ref p1)] (upd H p1 (.tup [(V.ty "list"), (V.ty "tuple")])) Q)

def t_are_keys_1 (K : Fg) (E : XK) : TS :=
    tIfS (fun σ H Q => ∃ v3, σ[1]? = some (some v3) ∧ sp_is_whole [v3, .non, .non] H (fun x2 h2 => ∃ c2, x2 = .bl c2 ∧ Q (!c2) h2) E0)
          (tRet (fun σ H Q => Q (V.bl false) H))
          (tNext)
def t_are_keys_2 (K : Fg) (E : XK) : TS :=
    tSeq (tFor (fun σ H R => ∃ v2, σ[0]? = some (some v2) ∧ ∃ a, v2 = .ref a ∧ (((∃ xs, SqL K H a xs) ∧ R (Itl K a) H) ∨ ((∃ xs, SqT K H a xs) ∧ R (Itt K a) H))) (gName 1)
      (t_are_keys_1 K E))
    (tRet (fun σ H Q => Q (V.bl true) H))
def t_are_keys (K : Fg) (E : XK) : TS :=
    tSeq (tIfS (fun σ H Q => ∃ v1, σ[0]? = some (some v1) ∧ sp_is_sequence [v1] H (fun x1 h1 => ∃ c1, x1 = .bl c1 ∧ Q (!c1) h1) E0)
      (tRet (fun σ H Q => Q (V.bl false) H))
      (tNext))
    (t_are_keys_2 K E)

def t_is_arc_1 (K : Fg) (E : XK) : TS :=
    tRet (fun σ H Q => ∃ v3, σ[0]? = some (some v3) ∧ rIxQ K v3 (V.int 0) H (fun x4 h4 => ∃ v4, σ[1]? = some (some v4) ∧ sp_is_whole [x4, (V.int 0), v4] h4 (fun x5 h5 => ∃ c3, x5 = .bl c3 ∧ if c3 = true then ∃ v5, σ[0]? = some (some v5) ∧ rIxQ K v5 (V.int 1) h5 (fun x6 h6 => ∃ v6, σ[1]? = some (some v6) ∧ sp_is_whole [x6, (V.int 0), v6] h6 (fun x7 h7 => ∃ c4, x7 = .bl c4 ∧ if c4 = true then ∃ v7, σ[0]? = some (some v7) ∧ rIxQ K v7 (V.int 2) h7 (fun x8 h8 => sp_are_keys [x8] h8 Q E0) else Q (V.bl false) h7) E0) else Q (V.bl false) h5) E0))
def t_is_arc (K : Fg) (E : XK) : TS :=
    tSeq (tIfS (fun σ H Q => ∃ v1, σ[0]? = some (some v1) ∧ sp_is_sequence [v1] H (fun x1 h1 => ∃ c1, x1 = .bl c1 ∧ if (!c1) = true then Q true h1 else ∃ v2, σ[0]? = some (some v2) ∧ rLenQ K [v2] h1 (fun x2 h2 => rNe x2 (V.int 3) h2 (fun x3 h3 => ∃ c2, x3 = .bl c2 ∧ Q c2 h3))) E0)
      (tRet (fun σ H Q => Q (V.bl false) H))
      (tNext))
    (t_is_arc_1 K E)

abbrev e_check_graph_1 (K : Fg) (E : XK) : TT := (fun σ H Q => ∃ v1, σ[0]? = some (some v1) ∧ sp_is_sequence [v1] H (fun x1 h1 => ∃ c1, x1 = .bl c1 ∧ if (!c1) = true then Q true h1 else ∃ v2, σ[0]? = some (some v2) ∧ rLenQ K [v2] h1 (fun x2 h2 => oGt x2 (V.int 30000) h2 (fun x3 h3 => ∃ c2, x3 = .bl c2 ∧ Q c2 h3))) E0)
abbrev e_check_graph_2 (K : Fg) (E : XK) : TT := (fun σ H Q => ∃ v5, σ[0]? = some (some v5) ∧ ∃ v6, σ[2]? = some (some v6) ∧ rIxQ K v5 v6 H (fun x5 h5 => sp_are_keys [x5] h5 (fun x6 h6 => ∃ c3, x6 = .bl c3 ∧ Q (!c3) h6) E0))
abbrev e_check_graph_3 (K : Fg) (E : XK) : TT := (fun σ H Q => ∃ v7, σ[1]? = some (some v7) ∧ sp_is_sequence [v7] H (fun x7 h7 => ∃ c4, x7 = .bl c4 ∧ Q (!c4) h7) E0)
abbrev e_check_graph_4 (K : Fg) (E : XK) : TT := (fun σ H Q => ∃ v10, σ[1]? = some (some v10) ∧ ∃ v11, σ[2]? = some (some v11) ∧ rIxQ K v10 v11 H (fun x9 h9 => ∃ v12, σ[0]? = some (some v12) ∧ rLenQ K [v12] h9 (fun x10 h10 => oSub x10 (V.int 1) h10 (fun x11 h11 => sp_is_arc [x9, x11] h11 (fun x12 h12 => ∃ c5, x12 = .bl c5 ∧ Q (!c5) h12) E0))))
def t_check_graph_1 (K : Fg) (E : XK) : TS :=
    tIfS (e_check_graph_2 K E)
          (tRaiseF (ga K "BadGraph") ["what", "at"] E (fun σ H Q => ∃ v4, σ[2]? = some (some v4) ∧ Q [(V.str "wants"), v4] H))
          (tNext)
def t_check_graph_2 (K : Fg) (E : XK) : TS :=
    tIfS (e_check_graph_4 K E)
          (tRaiseF (ga K "BadGraph") ["what", "at"] E (fun σ H Q => ∃ v9, σ[2]? = some (some v9) ∧ Q [(V.str "arcs"), v9] H))
          (tNext)
def t_check_graph_3 (K : Fg) (E : XK) : TS :=
    tFor (fun σ H R => ∃ v8, σ[1]? = some (some v8) ∧ rLenQ K [v8] H (fun x8 h8 => ∃ j : Int, [x8] = [.int j] ∧ -(2 ^ 62) ≤ j ∧ j < 2 ^ 62 ∧ R (Itr 0 j.toNat) h8)) (gName 2)
      (t_check_graph_2 K E)
def t_check_graph_4 (K : Fg) (E : XK) : TS :=
    tSeq (tFor (fun σ H R => ∃ v3, σ[0]? = some (some v3) ∧ rLenQ K [v3] H (fun x4 h4 => ∃ j : Int, [x4] = [.int j] ∧ -(2 ^ 62) ≤ j ∧ j < 2 ^ 62 ∧ R (Itr 0 j.toNat) h4)) (gName 2)
      (t_check_graph_1 K E))
    (tSeq (tIfS (e_check_graph_3 K E)
      (tRaiseF (ga K "BadGraph") ["what", "at"] E (fun σ H Q => Q [(V.str "arcs"), (V.int 0)] H))
      (tNext))
    (t_check_graph_3 K E))
def t_check_graph (K : Fg) (E : XK) : TS :=
    tSeq (tIfS (e_check_graph_1 K E)
      (tRaiseF (ga K "BadGraph") ["what", "at"] E (fun σ H Q => Q [(V.str "wants"), (V.int 0)] H))
      (tNext))
    (t_check_graph_4 K E)

end SF

/-! R89a: the readings of wholes.py and of the checks of lots.py. -/
namespace SF
open PySem L2
section
variable {K : Fg} {vs : List V} {H : Hp} {Q : VK} {E : XK}
abbrev dEnd (Q : VK) : Ends := { nx := fun _ H' => Q .non H', rt := Q }
theorem rd_is_whole (h : sp_is_whole vs H Q E) : t_is_whole K E { nx := fun _ H' => Q .non H', rt := Q } (start ["thing", "low", "high"] vs) H := by
  obtain ⟨d, v, lo, hi, rfl, hd, k⟩ := h
  have k0 := k H (Ex.refl H)
  refine ⟨_, rfl, rIsi_int hd ⟨_, rfl, ?_⟩⟩
  cases d <;> try (exact iteT (iteT k0))
  case bool b => exact iteF ⟨_, rfl, rIsi_bool hd ⟨_, rfl, iteT k0⟩⟩
  case int i =>
    cases hd.int'
    refine iteF ⟨_, rfl, rIsi_bool hd ⟨_, rfl, iteF ?_⟩⟩
    have fin : (∀ h, hi = some h → Q (.bl (decide (i ≤ h))) H) → (hi = none → Q (.bl true) H) → tRet (fun σ H Q => ∃ v6, σ[2]? = some (some v6) ∧ oIsN v6 .non H (fun x5 h5 => ∃ c5, x5 = .bl c5 ∧ if c5 = true then Q (.bl true) h5 else ∃ v7, σ[0]? = some (some v7) ∧ ∃ v8, σ[2]? = some (some v8) ∧ oLe v7 v8 h5 Q)) { nx := fun _ H' => Q .non H', rt := Q } (start ["thing", "low", "high"] [.int i, optV lo, optV hi]) H := by
      intro f1 f2
      refine ⟨_, rfl, rfl, _, rfl, ?_⟩
      cases hi with
      | none => exact iteT (f2 rfl)
      | some h => exact iteF ⟨_, rfl, _, rfl, _, _, rfl, rfl, f1 h rfl⟩
    refine ⟨_, rfl, rfl, _, rfl, ?_⟩
    cases lo with
    | none =>
      refine iteF (iteF (fin (fun h e => ?_) (fun e => ?_)))
      · subst e; exact k0
      · subst e; exact k0
    | some l =>
      refine iteT ⟨_, rfl, _, rfl, _, _, rfl, rfl, _, rfl, ?_⟩
      refine iteD (fun c => ?_) (fun c => fin (fun h e => ?_) (fun e => ?_))
      · have z : decide (l ≤ i) = false := decide_eq_false (by omega)
        simp only [isWholeD, z, Bool.false_and] at k0
        exact k0
      · have z : decide (l ≤ i) = true := decide_eq_true (by omega)
        subst e
        simp only [isWholeD, z, Bool.true_and] at k0
        exact k0
      · have z : decide (l ≤ i) = true := decide_eq_true (by omega)
        subst e
        simp only [isWholeD, z, Bool.true_and] at k0
        exact k0
theorem rd_is_sequence (h : sp_is_sequence vs H Q E) : t_is_sequence K E { nx := fun _ H' => Q .non H', rt := Q } (start ["thing"] vs) H := by
  obtain ⟨d, v, rfl, hd, k⟩ := h
  exact ⟨_, rfl, (by show 2 ≤ sizeLine; decide), fun p hp => rIsiT_seq hd hp (k _ (Ex.new hp))⟩
theorem rd_are_keys (h : sp_are_keys vs H Q E) : t_are_keys K E { nx := fun _ H' => Q .non H', rt := Q } (start ["thing", "key"] vs) H := by
  obtain ⟨d, v, rfl, hd, k⟩ := h
  refine ⟨_, rfl, d, v, rfl, hd, fun H1 e1 => ⟨_, rfl, iteN (fun c => ?_) (fun c => ?_)⟩⟩
  · have e : isKeysD d = false := by simp [isKeysD, c]
    rw [e] at k
    exact k H1 e1
  · obtain ⟨a, xs, rfl, hs, hi⟩ := seq_of (hd.up e1) c
    refine ⟨_, rfl, for_seqQ hs (fun i σ H' => Ex H1 H' ∧ (∃ u, σ = [some (.ref a), u]) ∧ ∀ j < i, ∀ e, (itemsD d)[j]? = some e → isWholeD none none e = true) ⟨Ex.refl _, ⟨_, rfl⟩, fun j hj => by omega⟩ (fun i σ H' p => p.1) ?_ ?_⟩
    · rintro i x σ H2 hx ⟨e2, ⟨u, rfl⟩, hb⟩
      obtain ⟨e, he, re⟩ := (hi.up e2).get' hx
      refine ⟨_, rfl, e, x, none, none, rfl, re, fun H3 e3 => ⟨_, rfl, iteN (fun c2 => ?_) (fun c2 => ?_)⟩⟩
      · have z : isKeysD d = false := by
          unfold isKeysD
          rw [Bool.and_eq_false_iff]
          exact .inr (List.all_eq_false.mpr ⟨e, List.mem_of_getElem? he, by simp [c2]⟩)
        rw [z] at k
        exact k _ (e1.trans (e2.trans e3))
      · refine ⟨e2.trans e3, ⟨_, rfl⟩, fun j hj e' he' => ?_⟩
        by_cases q : j = i
        · subst q; rw [he] at he'; cases he'; exact c2
        · exact hb j (by omega) e' he'
    · rintro σ H2 ⟨e2, ⟨u, rfl⟩, hb⟩
      have z : isKeysD d = true := by
        unfold isKeysD
        rw [c, Bool.true_and, List.all_eq_true]
        intro e he
        obtain ⟨j, hj, hje⟩ := List.getElem_of_mem he
        exact hb j (by rw [hi.length]; exact hj) e (by rw [List.getElem?_eq_getElem hj, hje])
      rw [z] at k
      exact k _ (e1.trans e2)
theorem rd_is_arc (h : sp_is_arc vs H Q E) : t_is_arc K E { nx := fun _ H' => Q .non H', rt := Q } (start ["thing", "last"] vs) H := by
  obtain ⟨d, v, last, rfl, hd, k⟩ := h
  refine ⟨_, rfl, d, v, rfl, hd, fun H1 e1 => ⟨_, rfl, iteN (fun c => ?_) (fun c => ?_)⟩⟩
  · have e : isArcD last d = false := by simp [isArcD, c]
    rw [e] at k
    exact iteT (k H1 e1)
  · obtain ⟨a, xs, rfl, hs, hi⟩ := seq_of (hd.up e1) c
    refine ⟨_, rfl, lenQ hs (Ex.refl _) ⟨rfl, _, rfl, iteN (fun c2 => ?_) (fun c2 => ?_)⟩⟩
    · have e : isArcD last d = false := by
        unfold isArcD
        have hl : (itemsD d).length ≠ 3 := fun q => by
          rw [← hi.length] at q
          rw [q] at c2
          exact absurd c2 (by decide)
        rw [c, Bool.true_and]
        split
        · rename_i q; rw [q] at hl; exact absurd rfl hl
        · rfl
      rw [e] at k
      exact k H1 e1
    · have hl : (itemsD d).length = 3 := by
        rw [← hi.length]
        have := of_decide_eq_true c2
        injection this with this
        omega
      match hq : itemsD d, hl with
      | [p, q, r], _ =>
        rw [hq] at hi
        obtain ⟨v1, _, rfl, r1, hi⟩ := hi.cons'
        obtain ⟨v2, _, rfl, r2, hi⟩ := hi.cons'
        obtain ⟨v3, _, rfl, r3, hi⟩ := hi.cons'
        cases hi.nil'
        have ev : isArcD last d = (isWholeD (some 0) (some last) p && (isWholeD (some 0) (some last) q && isKeysD r)) := by unfold isArcD; rw [c, hq, Bool.true_and]
        rw [ev] at k
        refine ⟨_, rfl, ixQ hs (Ex.refl _) (by rfl) ⟨_, rfl, p, v1, some 0, some last, rfl, r1, fun H2 e2 => ⟨_, rfl, iteB (fun c3 => ?_) (fun c3 => ?_)⟩⟩⟩
        · refine ⟨_, rfl, ixQ hs e2 (by rfl) ⟨_, rfl, q, v2, some 0, some last, rfl, r2.up e2, fun H3 e3 => ⟨_, rfl, iteB (fun c4 => ?_) (fun c4 => ?_)⟩⟩⟩
          · refine ⟨_, rfl, ixQ hs (e2.trans e3) (by rfl) ⟨r, v3, rfl, r3.up (e2.trans e3), fun H4 e4 => ?_⟩⟩
            rw [c3, c4, Bool.true_and, Bool.true_and] at k
            exact k _ (e1.trans (e2.trans (e3.trans e4)))
          · rw [c3, c4] at k
            exact k _ (e1.trans (e2.trans e3))
        · rw [c3] at k
          exact k _ (e1.trans e2)
end
end SF

/-! R89b: the reading of check_graph. -/
namespace SF
open PySem L2
theorem gF_seq {dw da : PyData} (h : isSeqD dw = false) : gFault dw da = some (("wants" : Str), (0 : Int)) := by unfold gFault; rw [h]; rfl
theorem gF_big {dw da : PyData} (h : 30000 < (itemsD dw).length) : gFault dw da = some (("wants" : Str), (0 : Int)) := by
  unfold gFault; rw [decide_eq_true h, Bool.or_true]; rfl
theorem gF_go {dw da : PyData} (h : isSeqD dw = true) (h2 : ¬ 30000 < (itemsD dw).length) : gFault dw da = (match firstNot isKeysD (itemsD dw) with
    | some i => some ("wants", (i : Int))
    | none => if !isSeqD da then some ("arcs", 0) else match firstNot (isArcD ((itemsD dw).length - 1)) (itemsD da) with
      | some i => some ("arcs", (i : Int))
      | none => none) := by
  unfold gFault; rw [h, decide_eq_false h2]; rfl
section
variable {K : Fg} {vs : List V} {H : Hp} {Q : VK} {E : XK}
theorem rd_check_graph (h : sp_check_graph K vs H Q E) : t_check_graph K E { nx := fun _ H' => Q .non H', rt := Q } (start ["wants", "arcs", "at"] vs) H := by
  obtain ⟨dw, da, vw, va, rfl, hw, ha, hz, k⟩ := h
  refine ⟨_, rfl, dw, vw, rfl, hw, fun H1 e1 => ⟨_, rfl, iteN (fun c => ?_) (fun c => ?_)⟩⟩
  · rw [gF_seq c] at k
    exact iteT ⟨rfl, fun d hd => k _ d (e1.trans (Ex.new hd)) upd_same⟩
  obtain ⟨aw, xw, rfl, sw, iw⟩ := seq_of (hw.up e1) c
  refine ⟨_, rfl, lenQ sw (Ex.refl _) ⟨_, _, rfl, rfl, _, rfl, iteD (fun c2 => ?_) (fun c2 => ?_)⟩⟩
  · rw [gF_big (by rw [← iw.length]; omega)] at k
    exact ⟨rfl, fun d hd => k _ d (e1.trans (Ex.new hd)) upd_same⟩
  have c2' : ¬ 30000 < (itemsD dw).length := by rw [← iw.length]; omega
  rw [gF_go c c2'] at k
  refine ⟨_, rfl, lenQ sw (Ex.refl _) ⟨_, rfl, by omega, by omega, ?_⟩⟩
  have hn1 : ((xw.length : Nat) : Int).toNat = xw.length := by omega
  refine for_range (lo := 0) (n := ((xw.length : Nat) : Int).toNat) (fun i σ H' => Ex H1 H' ∧ (∃ u, σ = [some (.ref aw), some va, u]) ∧ ∀ j < i, ∀ e, (itemsD dw)[j]? = some e → isKeysD e = true) ⟨Ex.refl _, ⟨_, rfl⟩, fun j hj => by omega⟩ ?_ ?_
  · rintro i σ H2 hi ⟨e2, ⟨u, rfl⟩, hb⟩
    rw [hn1] at hi
    obtain ⟨dx, hdx⟩ : ∃ dx, (itemsD dw)[i]? = some dx := ⟨_, List.getElem?_eq_getElem (by rw [← iw.length]; exact hi)⟩
    obtain ⟨x, hx, rx⟩ := (iw.up e2).get hdx
    refine ⟨_, rfl, _, rfl, ixQ sw e2 (at_of (by omega) hx) ⟨dx, x, rfl, rx, fun H3 e3 => ⟨_, rfl, iteN (fun c3 => ?_) (fun c3 => ?_)⟩⟩⟩
    · rw [firstNot_some hdx c3 hb] at k
      refine ⟨_, rfl, rfl, fun d hd => ?_⟩
      have z : (0 : Int) + (i : Int) = (i : Int) := by omega
      rw [z]
      exact k _ d (e1.trans (e2.trans (e3.trans (Ex.new hd)))) upd_same
    · refine ⟨e2.trans e3, ⟨_, rfl⟩, fun j hj e he => ?_⟩
      by_cases q : j = i
      · subst q; rw [hdx] at he; cases he; exact c3
      · exact hb j (by omega) e he
  · rintro σ H2 ⟨e2, ⟨u, rfl⟩, hb⟩
    rw [hn1] at hb
    have z0 : firstNot isKeysD (itemsD dw) = none := firstNot_all.mpr fun e he => by
      obtain ⟨j, hj, hje⟩ := List.getElem_of_mem he
      exact hb j (by rw [iw.length]; exact hj) e (by rw [List.getElem?_eq_getElem hj, hje])
    rw [z0] at k
    refine ⟨_, rfl, da, va, rfl, ha.up (e1.trans e2), fun H3 e3 => ⟨_, rfl, iteN (fun c3 => ?_) (fun c3 => ?_)⟩⟩
    · simp only [c3, Bool.not_false, if_true] at k
      exact ⟨rfl, fun d hd => k _ d (e1.trans (e2.trans (e3.trans (Ex.new hd)))) upd_same⟩
    · simp only [c3, Bool.not_true, Bool.false_eq_true, if_false] at k
      obtain ⟨aa, xa, rfl, sa, ia⟩ := seq_of (ha.up (e1.trans (e2.trans e3))) c3
      have hza : xa.length < 2 ^ 62 := by rw [ia.length]; exact hz
      refine ⟨_, rfl, lenQ sa (Ex.refl _) ⟨_, rfl, by omega, by omega, ?_⟩⟩
      have hn2 : ((xa.length : Nat) : Int).toNat = xa.length := by omega
      refine for_range (lo := 0) (n := ((xa.length : Nat) : Int).toNat) (fun i σ H' => Ex H3 H' ∧ (∃ u, σ = [some (.ref aw), some (.ref aa), u]) ∧ ∀ j < i, ∀ e, (itemsD da)[j]? = some e → isArcD ((itemsD dw).length - 1) e = true) ⟨Ex.refl _, ⟨_, rfl⟩, fun j hj => by omega⟩ ?_ ?_
      · rintro i σ H4 hi ⟨e4, ⟨u, rfl⟩, hb⟩
        rw [hn2] at hi
        obtain ⟨dx, hdx⟩ : ∃ dx, (itemsD da)[i]? = some dx := ⟨_, List.getElem?_eq_getElem (by rw [← ia.length]; exact hi)⟩
        obtain ⟨x, hx, rx⟩ := (ia.up e4).get hdx
        refine ⟨_, rfl, _, rfl, ixQ sa e4 (at_of (by omega) hx) ⟨_, rfl, lenQ sw (e2.trans (e3.trans e4)) ⟨_, _, rfl, rfl, dx, x, _, rfl, rx, fun H5 e5 => ?_⟩⟩⟩
        rw [iw.length]
        refine ⟨_, rfl, iteN (fun c4 => ?_) (fun c4 => ?_)⟩
        · rw [firstNot_some hdx c4 hb] at k
          refine ⟨_, rfl, rfl, fun d hd => ?_⟩
          have z : (0 : Int) + (i : Int) = (i : Int) := by omega
          rw [z]
          exact k _ d (e1.trans (e2.trans (e3.trans (e4.trans (e5.trans (Ex.new hd)))))) upd_same
        · refine ⟨e4.trans e5, ⟨_, rfl⟩, fun j hj e he => ?_⟩
          by_cases q : j = i
          · subst q; rw [hdx] at he; cases he; exact c4
          · exact hb j (by omega) e he
      · rintro σ H4 ⟨e4, ⟨u, rfl⟩, hb⟩
        rw [hn2] at hb
        have z1 : firstNot (isArcD ((itemsD dw).length - 1)) (itemsD da) = none := firstNot_all.mpr fun e he => by
          obtain ⟨j, hj, hje⟩ := List.getElem_of_mem he
          exact hb j (by rw [ia.length]; exact hj) e (by rw [List.getElem?_eq_getElem hj, hje])
        rw [z1] at k
        exact k _ (e1.trans (e2.trans (e3.trans e4)))
end
end SF


namespace SF
open PySem L2
def top (i : Nat) : Stmt := PySem.Challenge.pw_spentframes_k89_refused_graphs.main.body.getD i (.Pass ⟨0, 0, 0, 0⟩)
structure Txt (K : Fg) (mg : Str → Option Value) : Prop where
  b_abs : mg "abs" = none
  b_bool : mg "bool" = none
  b_enumerate : mg "enumerate" = none
  b_int : mg "int" = none
  b_isinstance : mg "isinstance" = none
  b_len : mg "len" = none
  b_list : mg "list" = none
  b_min : mg "min" = none
  b_range : mg "range" = none
  b_sorted : mg "sorted" = none
  b_tuple : mg "tuple" = none
  c_MOST_VERTICES : ∃ t, mg "MOST_VERTICES" = some (.int 30000 t)
  g_FrameError : mg "FrameError" = some (.ref (ga K "FrameError"))
  g_BadGraph : mg "BadGraph" = some (.ref (ga K "BadGraph"))
  g_NoTour : mg "NoTour" = some (.ref (ga K "NoTour"))
  xf_BadGraph : XfC K (ga K "BadGraph")
  xc_BadGraph : XcC K (ga K "BadGraph")
  no_BadGraph_what : PySem.W.findIn K (.ref (ga K "BadGraph")) "what" = some none
  no_BadGraph_at : PySem.W.findIn K (.ref (ga K "BadGraph")) "at" = some none
section
variable {P : Program} {w : World} {K : Fg} {mg : Str → Option Value} {base : Heap}
abbrev s_BadGraph_init : Stmt := inClass (top 2) 0
theorem sc_BadGraph_init : FnScope ["self", "what", "at"] ["self", "what", "at"] (defScope s_BadGraph_init) := ⟨rfl, rfl, rfl, by decide +kernel, rfl, by decide +kernel, by decide +kernel⟩
theorem ok_BadGraph_init (oex : OexC K (ga K "BadGraph")) (n1 : PySem.W.findIn K (.ref (ga K "BadGraph")) "what" = some none) (n2 : PySem.W.findIn K (.ref (ga K "BadGraph")) "at" = some none) {fd : FuncData} (F : FunD K "__init__" "BadGraph.__init__" (defArgs s_BadGraph_init) (defBody s_BadGraph_init) (defScope s_BadGraph_init) [] [] (He.ma K (ga K "BadGraph") "__init__") fd) : FnOk P w K mg base (L2.CX P w) 1 (He.ma K (ga K "BadGraph") "__init__") fd ["self", "what", "at"] (sp_exI (ga K "BadGraph") ["what", "at"]) := by
  refine F.ok sc_BadGraph_init (fun vs H Q E h => by obtain ⟨_, ws, rfl, hl, _⟩ := h; simpa using hl) (fun cdv A outer s H vs Q E hr h => ⟨_, ?_, rd_exI2 oex n1 n2 h⟩)
  exact pss_cons (ps_ost (pv 0) (pv 1))
    (pss_one (ps_ost (pv 0) (pv 2)))

abbrev s_is_whole : Stmt := top 5
theorem sc_is_whole : FnScope ["thing", "low", "high"] ["thing", "low", "high"] (defScope s_is_whole) := ⟨rfl, rfl, rfl, by decide +kernel, rfl, by decide +kernel, by decide +kernel⟩
theorem ok_is_whole (T : Txt K mg) {fd : FuncData} (F : FunD K "is_whole" "is_whole" (defArgs s_is_whole) (defBody s_is_whole) (defScope s_is_whole) [.non, .non] [] (ga K "is_whole") fd)  : FnOk P w K mg base (L2.CX P w) 1 (ga K "is_whole") fd ["thing", "low", "high"] (sp_is_whole) := by
  refine F.ok sc_is_whole (fun vs H Q E h => len_is_whole h) (fun cdv A outer s H vs Q E hr h => ?_)
  have hu := hu_of hr
  have nd := sc_is_whole.nd
  refine ⟨_, pss_cons (ps_if (PW.pt (pw_or (pt_not (pt_val (pe_callB call_isi (by rfl) T.b_isinstance (by decide +kernel) (pa_cons (pv 0) (pa_cons (pe_bltn (v := .ty "int") (by rfl) T.b_int (by decide +kernel) rfl) pa_nil))))) (pw_or1 (pt_val (pe_callB call_isi (by rfl) T.b_isinstance (by decide +kernel) (pa_cons (pv 0) (pa_cons (pe_bltn (v := .ty "bool") (by rfl) T.b_bool (by decide +kernel) rfl) pa_nil)))))))
      (pss_one (ps_ret (pe_bl)))
      (pss_nil))
    (pss_cons (ps_if (PW.pt (pw_and (pt_cmpR op_notN (pv 1) (pe_non) (nomark _)) (pw_and1 (pt_cmpR op_lt (pv 0) (pv 1) (nomark _)))))
      (pss_one (ps_ret (pe_bl)))
      (pss_nil))
    (pss_one (ps_ret (pe_or (pe_cmpR op_isN (pv 2) (pe_non) (nomark _)) (pe_one (pe_cmpR op_le (pv 0) (pv 2) (nomark _))))))), ?_⟩
  exact rd_is_whole h

abbrev s_is_sequence : Stmt := top 6
theorem sc_is_sequence : FnScope ["thing"] ["thing"] (defScope s_is_sequence) := ⟨rfl, rfl, rfl, by decide +kernel, rfl, by decide +kernel, by decide +kernel⟩
theorem ok_is_sequence (T : Txt K mg) {fd : FuncData} (F : FunD K "is_sequence" "is_sequence" (defArgs s_is_sequence) (defBody s_is_sequence) (defScope s_is_sequence) [] [] (ga K "is_sequence") fd)  : FnOk P w K mg base (L2.CX P w) 1 (ga K "is_sequence") fd ["thing"] (sp_is_sequence) := by
  refine F.ok sc_is_sequence (fun vs H Q E h => len_is_sequence h) (fun cdv A outer s H vs Q E hr h => ?_)
  have hu := hu_of hr
  have nd := sc_is_sequence.nd
  refine ⟨_, pss_one (ps_ret (pe_callB call_isiT (by rfl) T.b_isinstance (by decide +kernel) (pa_cons (pv 0) (pa_cons (pe_tup (pa_cons (pe_bltn (v := .ty "list") (by rfl) T.b_list (by decide +kernel) rfl) (pa_cons (pe_bltn (v := .ty "tuple") (by rfl) T.b_tuple (by decide +kernel) rfl) pa_nil))) pa_nil)))), ?_⟩
  exact rd_is_sequence h

abbrev s_are_keys : Stmt := top 9
theorem sc_are_keys : FnScope ["thing", "key"] ["thing"] (defScope s_are_keys) := ⟨rfl, rfl, rfl, by decide +kernel, rfl, by decide +kernel, by decide +kernel⟩
theorem ok_are_keys (T : Txt K mg) {fd : FuncData} (F : FunD K "are_keys" "are_keys" (defArgs s_are_keys) (defBody s_are_keys) (defScope s_are_keys) [] [] (ga K "are_keys") fd) (h_is_whole : Has P w K mg base 1 "is_whole" ["thing", "low", "high"] [[], [.non], [.non, .non]] (sp_is_whole)) (h_is_sequence : Has P w K mg base 1 "is_sequence" ["thing"] [[]] (sp_is_sequence)) : FnOk P w K mg base (L2.CX P w) 2 (ga K "are_keys") fd ["thing"] (sp_are_keys) := by
  refine F.ok sc_are_keys (fun vs H Q E h => len_are_keys h) (fun cdv A outer s H vs Q E hr h => ?_)
  have hu := hu_of hr
  have nd := sc_are_keys.nd
  refine ⟨_, pss_cons (ps_if (pt_not (pt_val (pe_has (dvs := []) h_is_sequence hr passL (pa_cons (pv 0) pa_nil))))
      (pss_one (ps_ret (pe_bl)))
      (pss_nil))
    (pss_cons (ps_for (passes_of rfl) rfl (pi_seqQ (pv 0)) (pg_name (i := 1) nd rfl (Or.inl rfl))
      (pss_one (ps_if (pt_not (pt_val (pe_has (dvs := [.non, .non]) h_is_whole hr passL (pa_cons (pv 1) pa_nil))))
          (pss_one (ps_ret (pe_bl)))
          (pss_nil))))
    (pss_one (ps_ret (pe_bl)))), ?_⟩
  exact rd_are_keys h

abbrev s_is_arc : Stmt := top 10
theorem sc_is_arc : FnScope ["thing", "last"] ["thing", "last"] (defScope s_is_arc) := ⟨rfl, rfl, rfl, by decide +kernel, rfl, by decide +kernel, by decide +kernel⟩
theorem ok_is_arc (T : Txt K mg) {fd : FuncData} (F : FunD K "is_arc" "is_arc" (defArgs s_is_arc) (defBody s_is_arc) (defScope s_is_arc) [] [] (ga K "is_arc") fd) (h_is_whole : Has P w K mg base 1 "is_whole" ["thing", "low", "high"] [[], [.non], [.non, .non]] (sp_is_whole)) (h_is_sequence : Has P w K mg base 1 "is_sequence" ["thing"] [[]] (sp_is_sequence)) (h_are_keys : Has P w K mg base 2 "are_keys" ["thing"] [[]] (sp_are_keys)) : FnOk P w K mg base (L2.CX P w) 3 (ga K "is_arc") fd ["thing", "last"] (sp_is_arc) := by
  refine F.ok sc_is_arc (fun vs H Q E h => len_is_arc h) (fun cdv A outer s H vs Q E hr h => ?_)
  have hu := hu_of hr
  have nd := sc_is_arc.nd
  refine ⟨_, pss_cons (ps_if (PW.pt (pw_or (pt_not (pt_val (pe_has (dvs := []) h_is_sequence hr passL (pa_cons (pv 0) pa_nil)))) (pw_or1 (pt_cmpR op_ne (pe_callB call_len_seq (by rfl) T.b_len (by decide +kernel) (pa_cons (pv 0) pa_nil)) (pe_int) (nomark _)))))
      (pss_one (ps_ret (pe_bl)))
      (pss_nil))
    (pss_one (ps_ret (pe_and (pe_has (dvs := []) h_is_whole hr passL (pa_cons (pe_ix (IxR.or ix_list ix_tup) (pv 0) (pe_int) (fun _ _ => rfl)) (pa_cons (pe_int) (pa_cons (pv 1) pa_nil)))) (pe_and (pe_has (dvs := []) h_is_whole hr passL (pa_cons (pe_ix (IxR.or ix_list ix_tup) (pv 0) (pe_int) (fun _ _ => rfl)) (pa_cons (pe_int) (pa_cons (pv 1) pa_nil)))) (pe_one (pe_has (dvs := []) h_are_keys hr passL (pa_cons (pe_ix (IxR.or ix_list ix_tup) (pv 0) (pe_int) (fun _ _ => rfl)) pa_nil))))))), ?_⟩
  exact rd_is_arc h

abbrev s_check_graph : Stmt := top 11
theorem sc_check_graph : FnScope ["wants", "arcs", "at"] ["wants", "arcs"] (defScope s_check_graph) := ⟨rfl, rfl, rfl, by decide +kernel, rfl, by decide +kernel, by decide +kernel⟩
theorem ok_check_graph (T : Txt K mg) {fd : FuncData} (F : FunD K "check_graph" "check_graph" (defArgs s_check_graph) (defBody s_check_graph) (defScope s_check_graph) [] [] (ga K "check_graph") fd) (h_is_sequence : Has P w K mg base 1 "is_sequence" ["thing"] [[]] (sp_is_sequence)) (h_are_keys : Has P w K mg base 2 "are_keys" ["thing"] [[]] (sp_are_keys)) (h_is_arc : Has P w K mg base 3 "is_arc" ["thing", "last"] [[]] (sp_is_arc)) (xh_BadGraph : ExHas P w K mg base "BadGraph" ["what", "at"]) : FnOk P w K mg base (L2.CX P w) 4 (ga K "check_graph") fd ["wants", "arcs"] (sp_check_graph K) := by
  refine F.ok sc_check_graph (fun vs H Q E h => len_check_graph h) (fun cdv A outer s H vs Q E hr h => ?_)
  have hu := hu_of hr
  have nd := sc_check_graph.nd
  refine ⟨_, pss_cons (ps_if (PW.pt (pw_or (pt_not (pt_val (pe_has (dvs := []) h_is_sequence hr passL (pa_cons (pv 0) pa_nil)))) (pw_or1 (pt_cmpR op_gt (pe_callB call_len_seq (by rfl) T.b_len (by decide +kernel) (pa_cons (pv 0) pa_nil)) (pe_globI (i := 30000) T.c_MOST_VERTICES) (nomark _)))))
      (pss_one (ps_raise (W := fun cls d _ H => E cls d H) rfl (takes_of rfl rfl rfl rfl) (pmk_has xh_BadGraph hr (pa_cons (pe_str) (pa_cons (pe_int) pa_nil)))))
      (pss_nil))
    (pss_cons (ps_for (passes_of rfl) rfl (pi_range1 (by rfl) T.b_range (pa_cons (pe_callB call_len_seq (by rfl) T.b_len (by decide +kernel) (pa_cons (pv 0) pa_nil)) pa_nil)) (pg_name (i := 2) nd rfl (Or.inl rfl))
      (pss_one (ps_if (pt_not (pt_val (pe_has (dvs := []) h_are_keys hr passL (pa_cons (pe_ix (IxR.or ix_list ix_tup) (pv 0) (pv 2) (fun _ _ => rfl)) pa_nil))))
          (pss_one (ps_raise (W := fun cls d _ H => E cls d H) rfl (takes_of rfl rfl rfl rfl) (pmk_has xh_BadGraph hr (pa_cons (pe_str) (pa_cons (pv 2) pa_nil)))))
          (pss_nil))))
    (pss_cons (ps_if (pt_not (pt_val (pe_has (dvs := []) h_is_sequence hr passL (pa_cons (pv 1) pa_nil))))
      (pss_one (ps_raise (W := fun cls d _ H => E cls d H) rfl (takes_of rfl rfl rfl rfl) (pmk_has xh_BadGraph hr (pa_cons (pe_str) (pa_cons (pe_int) pa_nil)))))
      (pss_nil))
    (pss_one (ps_for (passes_of rfl) rfl (pi_range1 (by rfl) T.b_range (pa_cons (pe_callB call_len_seq (by rfl) T.b_len (by decide +kernel) (pa_cons (pv 1) pa_nil)) pa_nil)) (pg_name (i := 2) nd rfl (Or.inl rfl))
      (pss_one (ps_if (pt_not (pt_val (pe_has (dvs := []) h_is_arc hr passL (pa_cons (pe_ix (IxR.or ix_list ix_tup) (pv 1) (pv 2) (fun _ _ => rfl)) (pa_cons (pe_op op_sub (pe_callB call_len_seq (by rfl) T.b_len (by decide +kernel) (pa_cons (pv 0) pa_nil)) (pe_int)) pa_nil)))))
          (pss_one (ps_raise (W := fun cls d _ H => E cls d H) rfl (takes_of rfl rfl rfl rfl) (pmk_has xh_BadGraph hr (pa_cons (pe_str) (pa_cons (pv 2) pa_nil)))))
          (pss_nil))))))), ?_⟩
  exact rd_check_graph h

end
end SF

/-! SF3: == of data that stand; lists that are empty or not; dicts whose values are True. -/
namespace SF
open PySem L2
section
variable {K : Fg} {S H : Hp} {d e : PyData} {ds es : List PyData} {v u : V} {xs : List V} {a : Addr} {Q : VK}
mutual
theorem dp_of : ∀ {d : PyData} {v : V}, d.canLay0 = true → Rp H d v → Dp K H v d
  | .none, _, _, h => by rw [h.non']; exact .non
  | .bool b, _, _, h => by rw [h.bl']; exact .bl b
  | .int i, _, _, h => by rw [h.int']; exact .int i
  | .str z, _, _, h => by rw [h.str']; exact .str z
  | .list ds, _, c, h => by
    obtain ⟨a, xs, rfl, h1, h2⟩ := h.lst'
    exact .lst (.of h1) (dps_of (by simpa [PyData.canLay0] using c) h2)
  | .tuple ds, _, c, h => by
    obtain ⟨a, xs, rfl, h1, h2⟩ := h.tup'
    exact .tup (.of h1) (dps_of (by simpa [PyData.canLay0] using c) h2)
  | .dict kv, _, c, h => by simp [PyData.canLay0] at c
theorem dps_of : ∀ {ds : List PyData} {xs : List V}, PyData.canLayAll0 ds = true → Rps H ds xs → DpAll K H xs ds
  | [], _, _, h => by rw [h.nil']; exact .nil
  | d :: ds, _, c, h => by
    obtain ⟨v, vs, rfl, h1, h2⟩ := h.cons'
    have c' : d.canLay0 = true ∧ PyData.canLayAll0 ds = true := by simpa [PyData.canLayAll0] using c
    exact .cons (dp_of c'.1 h1) (dps_of c'.2 h2)
end
theorem canLay_of (h : SeqAt.shaped d = true) : d.canLay0 = true := SeqAt.canLay_of_shaped h
theorem eqD (hd : Rp H d v) (he : Rp H e u) (sd : SeqAt.shaped d = true) (se : SeqAt.shaped e = true) (q : Q (.bl (PyData.eqv d e)) H) : rEqD K v u H Q := ⟨d, e, dp_of (canLay_of sd) hd, dp_of (canLay_of se) he, sd, se, q⟩
theorem neD (hd : Rp H d v) (he : Rp H e u) (sd : SeqAt.shaped d = true) (se : SeqAt.shaped e = true) (q : Q (.bl (!PyData.eqv d e)) H) : rNeD K v u H Q := ⟨d, e, dp_of (canLay_of sd) hd, dp_of (canLay_of se) he, sd, se, q⟩
theorem shaped_nil : SeqAt.shaped (.list []) = true := by decide +kernel
theorem eqv_nil (ds : List PyData) : PyData.eqv (.list ds) (.list []) = ds.isEmpty := by
  cases ds <;> simp [PyData.eqv, PyData.eqvAll]
/-- == [], != [] of a list of data -/
theorem eqNil {p : Addr} (hd : Rp H (.list ds) v) (sd : SeqAt.shaped (.list ds) = true) (hp : H p = none) (q : Q (.bl ds.isEmpty) (upd H p (.lst []))) : rEqD K v (.ref p) (upd H p (.lst [])) Q := by
  rw [← eqv_nil] at q
  exact eqD (hd.up (Ex.new hp)) (.lst upd_same .nil) sd shaped_nil q
theorem neNil {p : Addr} (hd : Rp H (.list ds) v) (sd : SeqAt.shaped (.list ds) = true) (hp : H p = none) (q : Q (.bl (!ds.isEmpty)) (upd H p (.lst []))) : rNeD K v (.ref p) (upd H p (.lst [])) Q := by
  rw [← eqv_nil] at q
  exact neD (hd.up (Ex.new hp)) (.lst upd_same .nil) sd shaped_nil q
theorem lay_ints : ∀ ns : List Int, PyData.canLayAll0 (ns.map .int) = true
  | [] => by simp [PyData.canLayAll0]
  | n :: r => by simp [PyData.canLayAll0, PyData.canLay0, lay_ints r]
theorem depth_ints : ∀ ns : List Int, PyData.depthAll (ns.map .int) = 0
  | [] => by simp [PyData.depthAll]
  | n :: r => by simp [PyData.depthAll, PyData.depth, depth_ints r]
theorem shaped_of (c : d.canLay0 = true) (h : d.depth ≤ 64) : SeqAt.shaped d = true := by unfold SeqAt.shaped; rw [c, decide_eq_true h]; rfl
theorem shaped_ints (ns : List Int) : SeqAt.shaped (.list (ns.map .int)) = true := shaped_of (by simp [PyData.canLay0, lay_ints]) (by simp [PyData.depth, depth_ints])
/-- lists of data all alike: f of the items -/
theorem lay_map {α : Type} {f : α → PyData} (h : ∀ x, (f x).canLay0 = true) : ∀ l : List α, PyData.canLayAll0 (l.map f) = true
  | [] => by simp [PyData.canLayAll0]
  | n :: r => by simp [PyData.canLayAll0, h, lay_map h r]
theorem depth_map {α : Type} {f : α → PyData} {n : Nat} (h : ∀ x, (f x).depth ≤ n) : ∀ l : List α, PyData.depthAll (l.map f) ≤ n
  | [] => by simp [PyData.depthAll]
  | x :: r => by
    have h1 := h x
    have h2 := depth_map h r
    simp only [List.map_cons, PyData.depthAll]
    omega
theorem shaped_map {α : Type} {f : α → PyData} (h : ∀ x, (f x).canLay0 = true) (hd : ∀ x, (f x).depth ≤ 60) (l : List α) : SeqAt.shaped (.list (l.map f)) = true :=
  shaped_of (by simp [PyData.canLay0, lay_map h]) (by have := depth_map hd l; simp only [PyData.depth]; omega)
/-- a list of ints at a -/
theorem rp_ints {ns : List Int} (h : H a = some (.lst (ns.map .int))) : Rp H (.list (ns.map .int)) (.ref a) := .lst h (.ints ns)
end
theorem some_at {α : Type} {l : List α} {i : Nat} (h : i < l.length) : ∃ x, l[i]? = some x := ⟨_, List.getElem?_eq_getElem h⟩
theorem tyL {K : Fg} {H : Hp} {a : Addr} {xs : List V} (h : H a = some (.lst xs)) : tyV K "list" (.ref a) H := .inl ⟨rfl, xs, .inl (.inl h)⟩
theorem atR {rs : List Addr} {x : Int} {r : Addr} (h0 : 0 ≤ x) (h : rs[x.toNat]? = some r) : atI (rs.map V.ref) x = some (.ref r) := at_of (j := x.toNat) (by omega) (by rw [List.getElem?_map, h]; rfl)
theorem atZ {ns : List Int} {x y : Int} (h0 : 0 ≤ x) (h : ns[x.toNat]? = some y) : atI (ns.map V.int) x = some (.int y) := at_of (j := x.toNat) (by omega) (by rw [List.getElem?_map, h]; rfl)
theorem zip_at {α β : Type} {l : List α} {m : List β} {i : Nat} {a : α} {b : β} (h : l[i]? = some a) (h' : m[i]? = some b) : (l.zip m)[i]? = some (a, b) := (List.getElem?_zip_eq_some (z := (a, b))).mpr ⟨h, h'⟩
theorem zip_set {α β : Type} {l : List α} {m : List β} {i j : Nat} {b : β} (h : i ≠ j) : (l.zip (m.set i b))[j]? = (l.zip m)[j]? := by
  show (List.zipWith Prod.mk l (m.set i b))[j]? = (List.zipWith Prod.mk l m)[j]?
  rw [List.getElem?_zipWith, List.getElem?_zipWith, List.getElem?_set_ne h]
/-! ### dict comprehensions over a list -/
theorem dc_lst {K : Fg} {a : Addr} {xs : List V} {g : TG} {tt : TT} {tk tv : TE} {vs : List Nat} {σ : L2.St} {H1 : Hp} {D : Addr} {Qd : Hp → Prop} (Pv : Nat → Hp → Prop) (h0 : Pv 0 (upd H1 D (.dK [])))
    (hl : ∀ i H, i ≤ xs.length → Pv i H → SqL K H a xs)
    (hs : ∀ i x H, xs[i]? = some x → Pv i H → g x (wipe σ vs) H fun σ2 H2 => wipe σ2 vs = wipe σ vs ∧ tt σ2 H2 fun b H3 => if b = true then tk σ2 H3 fun y H4 => tv σ2 H4 fun z H5 => ∃ kvs k, y = kV k ∧ H5 D = some (.dK kvs) ∧ kvs.length < sizeLine ∧ Pv (i + 1) (upd H5 D (.dK (putK kvs k z))) else Pv (i + 1) H3)
    (hd : ∀ H, Pv xs.length H → Qd H) :
    ∃ W : Nat → Nat → Hp → Prop, (∃ m, W 0 m (upd H1 D (.dK []))) ∧ ∀ i m H, W i m H → ((Itl K a).stop i H ∧ Qd H) ∨ ((Itl K a).go i H ∧ ∃ Nx : Hp → Prop, (∀ H', Nx H' → ∃ m', m' < m ∧ W (i + 1) m' H') ∧
      ∀ x H', (Itl K a).yld i H x H' → g x (wipe σ vs) H' fun σ2 H2 => wipe σ2 vs = wipe σ vs ∧ tt σ2 H2 fun b H3 => if b = true then tk σ2 H3 fun y H4 => tv σ2 H4 fun z H5 => ∃ kvs k, y = kV k ∧ H5 D = some (.dK kvs) ∧ kvs.length < sizeLine ∧ Nx (upd H5 D (.dK (putK kvs k z))) else Nx H3) := by
  refine ⟨fun i m H => m + i = xs.length ∧ Pv i H, ⟨xs.length, rfl, h0⟩, fun i m H ⟨hm, p⟩ => ?_⟩
  have q := hl i H (by omega) p
  rcases Nat.lt_or_ge i xs.length with hlt | hge
  · have hi : xs[i]? = some xs[i] := List.getElem?_eq_getElem hlt
    refine .inr ⟨⟨xs, _, q, hi⟩, Pv (i + 1), fun H' p' => ⟨xs.length - (i + 1), by omega, by omega, p'⟩, fun x H' y => ?_⟩
    obtain ⟨rfl, y⟩ := y
    exact hs i x _ (y xs q) p
  · have e : i = xs.length := by omega
    subst e
    exact .inl ⟨⟨xs, q, Nat.le_refl _⟩, hd H p⟩
theorem putK_new {κ : Type} [DecidableEq κ] {kvs : List (κ × V)} {k : κ} {v : V} (h : k ∉ kvs.map (·.1)) : putK kvs k v = kvs ++ [(k, v)] := by
  unfold putK
  rw [if_neg]
  intro q
  obtain ⟨p, hp, e⟩ := List.any_eq_true.mp q
  exact h (of_decide_eq_true e ▸ List.mem_map_of_mem (f := (·.1)) hp)
theorem valV_some {κ : Type} [DecidableEq κ] : ∀ {kvs : List (κ × V)} {k : κ}, k ∈ kvs.map (·.1) → ∃ v, valV kvs k = some v ∧ (k, v) ∈ kvs
  | [], k, h => by simp at h
  | (k', v) :: r, k, h => by
    by_cases e : k' = k
    · subst e; exact ⟨v, valV_pos rfl, List.mem_cons_self⟩
    · have hk : k ∈ r.map (·.1) := by
        rcases List.mem_cons.mp h with h | h
        · exact absurd h.symm e
        · exact h
      obtain ⟨u, h1, h2⟩ := valV_some hk
      exact ⟨u, by unfold valV at h1 ⊢; rw [List.find?_cons_of_neg (by simpa using e)]; exact h1, List.mem_cons_of_mem _ h2⟩
theorem valV_none {κ : Type} [DecidableEq κ] {kvs : List (κ × V)} {k : κ} (h : k ∉ kvs.map (·.1)) : valV kvs k = none := by
  unfold valV
  rw [List.find?_eq_none.mpr, Option.map_none]
  intro p hp q
  exact h (of_decide_eq_true q ▸ List.mem_map_of_mem (f := (·.1)) hp)
/-- is a key there -/
theorem valV_iff {κ : Type} [DecidableEq κ] {kvs : List (κ × V)} {k : κ} : (valV kvs k).isSome = decide (k ∈ kvs.map (·.1)) := by
  by_cases h : k ∈ kvs.map (·.1)
  · obtain ⟨v, h1, _⟩ := valV_some h
    rw [h1, decide_eq_true h]; rfl
  · rw [valV_none h, decide_eq_false h]; rfl
theorem dgR {H : Hp} {a : Addr} {kvs : List (Key × V)} (i : Int) (h : Rd H a (.dK kvs)) : DGet H a (.int i) (valV kvs (.inl i)) := .inl ⟨kvs, .inl i, h, rfl, rfl⟩
theorem dgI {H : Hp} {a : Addr} {kvs : List (Key × V)} (i : Int) (h : H a = some (.dK kvs)) : DGet H a (.int i) (valV kvs (.inl i)) := dgR i (.inl h)
/-- any objects of the heap that are told apart may be owned -/
theorem Owns.take {H : Hp} {l : List (Addr × HO)} (nd : (l.map (·.1)).Nodup) (h : ∀ p ∈ l, H p.1 = some p.2) : ∃ S, Owns S H l ∧ ∀ b o, H b = some o → (∀ p ∈ l, p.1 ≠ b) → S b = some o := by
  refine ⟨fun b => if b ∈ l.map (·.1) then .none else H b, ⟨fun b o hb => ?_, nd, h, fun p hp => ?_⟩, fun b o hb hn => ?_⟩
  · by_cases hm : b ∈ l.map (·.1)
    · rw [if_pos hm] at hb; cases hb
    · rw [if_neg hm] at hb; exact hb
  · show (if p.1 ∈ l.map (·.1) then .none else H p.1) = .none
    rw [if_pos (List.mem_map_of_mem (f := (·.1)) hp)]
  · show (if b ∈ l.map (·.1) then .none else H b) = some o
    rw [if_neg (fun hm => by
      obtain ⟨p, hp, rfl⟩ := List.mem_map.mp hm
      exact hn p hp rfl)]
    exact hb
/-- a while's turn goes on -/
theorem go_on {W : Nat → L2.St → Hp → Prop} {m : Nat} {tb : TS} {D : Ends} {σ : L2.St} {H1 : Hp} {B : Prop} (h : tb { D with nx := fun σ' H' => ∃ m', m' < m ∧ W m' σ' H', ct := fun σ' H' => ∃ m', m' < m ∧ W m' σ' H', bk := D.nx } σ H1) :
    if true = true then ∃ N : L2.St → Hp → Prop, (∀ σ' H', N σ' H' → ∃ m', m' < m ∧ W m' σ' H') ∧ tb { D with nx := N, ct := N, bk := D.nx } σ H1 else B := iteT ⟨_, fun _ _ x => x, h⟩
end SF

/-! SF4: sorted(xs), xs a list of tuples of ints of any lengths (none of them empty). -/
namespace SF
open PySem PySem.Calls PyProof.Rows
section
variable {prog : Program} {w : World} {A : Around} {E : Value → Shared → Prop} {s : Shared}
def lexF (fin : Bool) : List Int → List Int → Bool
  | x :: xs, y :: ys => if x = y then lexF fin xs ys else decide (x < y)
  | _, _ => fin
theorem kat_ints {fin : Bool} {Q : Bool → Shared → Prop} : ∀ {us ws : List Value} {ns ms : List Int} (i : Nat), IntsAre us ns → IntsAre ws ms → Q (lexF fin ns ms) s → PySem.W.KatLex prog w A true fin Q (us.zip ws) i s
  | [], _, ns, _, _, h1, _, q => by
    cases h1
    cases ‹List Int› <;> exact q
  | _ :: _, [], ns, _, _, h1, h2, q => by
    cases h2
    cases h1
    exact q
  | u :: us, v :: ws, ns, ms, i, h1, h2, q => by
    cases h1 with
    | @cons x t _ xs r1 =>
      cases h2 with
      | @cons y t' _ ys r2 =>
        refine PySem.W.kat_cons (SeqAt.EqAt.int_int x t y t' prog w _ _ ?_)
        refine PySem.W.kat_go (fun e1 => ?_) (fun e1 => ?_)
        · have ex : x = y := by simpa using e1
          refine PySem.W.kat_yes (kat_ints (i + 1) r1 r2 ?_)
          have e3 : lexF fin (x :: xs) (y :: ys) = lexF fin xs ys := by show (if x = y then _ else _) = _; rw [if_pos ex]
          rw [← e3]; exact q
        · have ex : ¬ x = y := by simpa using e1
          refine PySem.W.kat_no (TS.oneLt_ints _ ?_)
          have e3 : lexF fin (x :: xs) (y :: ys) = decide (x < y) := by show (if x = y then _ else _) = _; rw [if_neg ex]
          rw [← e3]; exact q
/-- v is a tuple of these ints, the first among them -/
def IsTupI (h : Heap) (v : Value) (ns : List Int) : Prop := ∃ a o its n, v = .ref a ∧ h.get? a = some o ∧ o.cls = .type "tuple" ∧ o.data = .seq its n ∧ IntsAre its.toList ns ∧ ns ≠ []
theorem IsTupI.keeps {h h' : Heap} {v : Value} {ns : List Int} (p : IsTupI h v ns) (k : ∀ b o, h.get? b = some o → o.cls = .type "tuple" → h'.get? b = some o) : IsTupI h' v ns := by
  obtain ⟨a, o, its, n, e, ho, hc, hd, r⟩ := p
  exact ⟨a, o, its, n, e, k _ _ ho hc, hc, hd, r⟩
theorem tupI_tot {vs : List Value} (hp : ∀ v ∈ vs, ∃ ns, IsTupI s.heap v ns) : Srt.Tot prog w A s (tuples' true) (fun p => p.1 ∈ vs) := by
  intro p q hm hm'
  obtain ⟨ns, a, o, its, n, e, ho, hc, hd, hi, _⟩ := hp _ hm
  obtain ⟨ms, a', o', its', n', e', ho', hc', hd', hi', _⟩ := hp _ hm'
  rw [e, e']
  exact ⟨lexF (decide (its.size < its'.size)) ns ms, PySem.W.kat_lt ho hd ho' hd' (kat_ints 0 hi hi' ⟨rfl, rfl⟩)⟩
theorem tupI_firsts {h : Heap} : ∀ {vs : List Value}, (∀ v ∈ vs, ∃ ns, IsTupI h v ns) → ∃ fs : List Value, PySem.W.KatTups h vs fs ∧ fs.length = vs.length ∧ ∀ f ∈ fs, ∃ x t, f = Value.int x t
  | [], _ => ⟨[], PySem.W.KatTups.nil, rfl, fun _ hm => by simp at hm⟩
  | v :: vs, hp => by
    obtain ⟨fs, h1, h2, h3⟩ := tupI_firsts (vs := vs) fun v' hm => hp v' (List.mem_cons_of_mem _ hm)
    obtain ⟨ns, a, o, its, n, e, ho, hc, hd, hi, hne⟩ := hp v (List.mem_cons_self ..)
    subst e
    obtain ⟨x, t, hx⟩ : ∃ x t, its[0]? = some (.int x t) := by
      rw [← Array.getElem?_toList]
      generalize its.toList = l at hi
      cases hi with
      | nil => exact absurd rfl hne
      | cons x t r => exact ⟨x, t, rfl⟩
    refine ⟨.int x t :: fs, PySem.W.KatTups.cons ho hc hd hx h1, by rw [List.length_cons, List.length_cons, h2], fun f hm => ?_⟩
    rcases List.mem_cons.mp hm with rfl | hm
    · exact ⟨x, t, rfl⟩
    · exact h3 f hm
theorem tupI_sortable {a : Addr} {vs : List Value} (h0 : 0 < vs.length) (hp : ∀ v ∈ vs, ∃ ns, IsTupI s.heap v ns) (ha : ∀ o, s.heap.get? a = some o → o.cls ≠ .type "tuple") : Srt.Sortable prog w A s a vs := by
  intro h' keep
  have hp' : ∀ v ∈ vs, ∃ ns, IsTupI h' v ns := fun v hm => by
    obtain ⟨ns, p⟩ := hp v hm
    exact ⟨ns, p.keeps fun b o e c => keep b o (fun z => by subst z; exact ha o e c) e⟩
  obtain ⟨fs, h1, h2, h3⟩ := tupI_firsts hp'
  refine ⟨tuples' true, fun Q E hq => ?_, tupI_tot hp'⟩
  refine PySem.W.kat_kind (T := .type "int") h1 (by omega) (fun f hm => ?_) (by rfl) ?_
  · obtain ⟨x, t, rfl⟩ := h3 f hm
    exact PySem.W.Looks.now
  · have e : (Value.type "int" != Value.type "tuple") = true := by first | decide +kernel | rfl | decide
    rw [e]
    exact hq
theorem sorted_tupI {l : Addr} {vs : List Value} {Q : Value → Shared → Prop} (hl : s.heap.IsList l vs.toArray) (hz : vs.length ≤ sizeLine) (hp : ∀ v ∈ vs, ∃ ns, IsTupI s.heap v ns)
    (h : ∀ (h' : Heap) (d : Addr) (out : List Value), out.Perm vs → (∀ b o, s.heap.get? b = some o → h'.get? b = some o) → s.heap.objs.size ≤ d → (∃ n, h'.get? d = some (seqObj "list" out.toArray n)) → Q (.ref d) { s with heap := h' }) :
    wpAny (model prog w) A (call (.builtin "sorted") [.ref l]) Q E s := by
  refine Srt.sorted_any hl hz (fun h2 h₁ a ha k => ?_) fun out ho => ?_
  · refine tupI_sortable (s := { s with heap := h₁ }) (by omega) (fun v hm => ?_) fun o e => ?_
    · obtain ⟨ns, p⟩ := hp v hm
      exact ⟨ns, p.keeps fun b o e _ => (k b o e).2⟩
    · have e' : some o = some (seqObj "list" vs.toArray 0) := e.symm.trans ha
      cases e'
      intro c
      exact absurd (Value.type.inj c) (by decide)
  · exact h _ _ out ho (fun b o e => sortedAll_old e) (Nat.le_succ _) (sortedAll_at s.heap vs out.toArray)
end
open L2
/-- sorted(xs), tuples of ints of any lengths, none empty -/
def rSortLT (K : Fg) : List V → Hp → VK → Prop := fun vs H Q => ∃ (a : Addr) (xs : List V), vs = [.ref a] ∧ SqL K H a xs ∧ (∀ x ∈ xs, ∃ (t : Addr) (ns : List Int), x = .ref t ∧ H t = some (.tup (ns.map .int)) ∧ ns ≠ []) ∧
  ∀ (ys : List V) (p : Addr), ys.Perm xs → H p = none → Q (.ref p) (upd H p (.lst ys))
theorem cr_sortLT {X : Cx} : CallR X (.builtin "sorted") (rSortLT X.K) := by
  intro pins s σ H vs us Q I r h
  obtain ⟨a, xs, rfl, hs, hx, q⟩ := h
  obtain ⟨its, rv, hl, hz⟩ := I.list hs
  obtain ⟨u, rfl, ru⟩ := vals1 r
  obtain rfl : u = Value.ref a := ru
  obtain ⟨e1, e2⟩ := refs_back rv fun x m => by
    obtain ⟨t, _, e, _⟩ := hx x m
    exact ⟨t, e⟩
  refine sorted_tupI hl.isList (by rw [← rv.length]; exact hz) (fun v hv => ?_) fun h' d out hp k hd hn => ?_
  · obtain ⟨t, rfl⟩ := e2 v hv
    have hm : V.ref t ∈ xs := by rw [e1]; exact List.mem_map.mpr ⟨_, hv, rfl⟩
    obtain ⟨t', ns, e, ht, hne⟩ := hx _ hm
    cases e
    obtain ⟨_, its2, r2, o, ho, hc, n, hd⟩ := I.hok _ _ ht
    exact ⟨ns, t, o, _, n, rfl, ho, hc, hd, by simpa using r2.ints, hne⟩
  · have h3 : ∀ u ∈ out, ∃ a, u = Value.ref a := fun u hu => e2 u (hp.mem_iff.mp hu)
    obtain ⟨n, hn⟩ := hn
    refine ⟨.ref d, upd H d (.lst (out.map backV)), I.laid (t' := s.toks) k hd ⟨?_, out, n, vals_back h3, hn⟩, rfl, q _ d ?_ (I.hok.fresh hd)⟩
    · rw [List.length_map, hp.length_eq, ← rv.length]; exact hz
    · rw [e1]; exact hp.map backV
end SF

/-! P89b: graphs as data, and what the defs of lots.py promise (weak: they end, raise nothing, and keep what their callers lean on). -/
namespace SF
open PySem L2
abbrev Arc := Int × Int × List Int
def encL (ns : List Int) : PyData := .list (ns.map .int)
def encA (a : Arc) : PyData := .tuple [.int a.1, .int a.2.1, encL a.2.2]
def encLL (ls : List (List Int)) : PyData := .list (ls.map encL)
def encAs (as : List Arc) : PyData := .list (as.map encA)
/-- a graph of n vertices, small -/
structure Valid (n : Nat) (ws : List (List Int)) (as : List Arc) : Prop where
  len : ws.length = n
  most : n ≤ 1000
  arcs : as.length ≤ 1000
  ends : ∀ a ∈ as, (0 ≤ a.1 ∧ a.1 < n) ∧ (0 ≤ a.2.1 ∧ a.2.1 < n)
  keys : (as.map (·.2.2.length)).sum ≤ 100000
/-- numbers of arcs -/
def ArcNos (as : List Arc) (l : List Int) : Prop := ∀ x ∈ l, 0 ≤ x ∧ x < as.length
structure Leav (as : List Arc) (n : Nat) (ls : List (List Int)) : Prop where
  len : ls.length = n
  nos : ∀ l ∈ ls, ArcNos as l ∧ l.length ≤ 1000
/-- members: unlike vertices -/
structure Memb (n : Nat) (ms : List Int) : Prop where
  nd : ms.Nodup
  rng : ∀ m ∈ ms, 0 ≤ m ∧ m < (n : Int)
def headOf (as : List Arc) (x : Int) : Int := ((as[x.toNat]?).getD (0, 0, [])).2.1
/-- what stands in within for a member: arcs whose heads are members -/
def InOk (as : List Arc) (ms l : List Int) : Prop := ArcNos as l ∧ l.length ≤ 1000 ∧ ∀ x ∈ l, headOf as x ∈ ms
/-- at d a dict from members to lists f m -/
def WithD (H : Hp) (d : Addr) (ms : List Int) (f : Int → List Int) : Prop := ∃ r : Int → Addr, Rd H d (.dK (ms.map fun m => (Sum.inl m, V.ref (r m)))) ∧ ∀ m ∈ ms, H (r m) = some (.lst ((f m).map .int))
def sp_leaving_arcs (K : Fg) : Sp := fun vs H Q _ => ∃ n ws as vw va, vs = [vw, va] ∧ Rp H (encLL ws) vw ∧ Rp H (encAs as) va ∧ Valid n ws as ∧
  ∀ H' v ls, Ex H H' → Rp H' (encLL ls) v → Leav as n ls → Q v H'
theorem len_leaving_arcs {K vs H Q E} (h : sp_leaving_arcs K vs H Q E) : vs.length = 2 := by obtain ⟨_, _, _, _, _, rfl, _⟩ := h; rfl
def sp_arcs_within (K : Fg) : Sp := fun vs H Q _ => ∃ n ws as ls ms va vl vm, vs = [va, vl, vm] ∧ Rp H (encAs as) va ∧ Rp H (encLL ls) vl ∧ Rp H (encL ms) vm ∧ Valid n ws as ∧ Leav as n ls ∧ Memb n ms ∧
  ∀ H' d (f : Int → List Int), Ex H H' → H d = none → (∃ r : Int → Addr, H' d = some (.dK (ms.map fun m => (Sum.inl m, V.ref (r m)))) ∧ ∀ m ∈ ms, H' (r m) = some (.lst ((f m).map .int))) → (∀ m ∈ ms, InOk as ms (f m)) → Q (.ref d) H'
theorem len_arcs_within {K vs H Q E} (h : sp_arcs_within K vs H Q E) : vs.length = 3 := by obtain ⟨_, _, _, _, _, _, _, _, rfl, _⟩ := h; rfl
/-- all but two stand -/
def But2 (a b : Addr) (H H' : Hp) : Prop := ∀ c o, c ≠ a → c ≠ b → H c = some o → H' c = some o
def trueD (ks : List Int) : HO := .dK (ks.map fun k => (Sum.inl k, V.bl true))
def lstI (l : List Int) : HO := .lst (l.map .int)
def sp_take_part (K : Fg) : Sp := fun vs H Q _ => ∃ (s d : Addr) (lo hi ks : List Int) (v : Int), vs = [.ref s, .ref d, .int v] ∧ H s = some (lstI (lo ++ v :: hi)) ∧ H d = some (trueD ks) ∧ (lo ++ v :: hi).Nodup ∧ (lo ++ v :: hi).length ≤ 1000 ∧
  ks.Nodup ∧ (∀ x ∈ v :: hi, x ∈ ks) ∧ ∀ H' p ns, But2 s d H H' → H p = none → H' s = some (lstI lo) → H' d = some (trueD (ks.filter fun x => !decide (x ∈ v :: hi))) → H' p = some (lstI ns) → ns.Perm (v :: hi) → Q (.ref p) H'
theorem len_take_part {K vs H Q E} (h : sp_take_part K vs H Q E) : vs.length = 3 := by obtain ⟨_, _, _, _, _, _, rfl, _⟩ := h; rfl
structure PartsOk (ms : List Int) (ps : List (List Int)) : Prop where
  nd : ps.flatten.Nodup
  sub : ∀ p ∈ ps, p ≠ [] ∧ ∀ x ∈ p, x ∈ ms
def sp_tied_parts (K : Fg) : Sp := fun vs H Q _ => ∃ n ws as ms, ∃ f : Int → List Int, ∃ va d, vs = [va, .ref d] ∧ Rp H (encAs as) va ∧ Valid n ws as ∧ Memb n ms ∧ (∃ r : Int → Addr, H d = some (.dK (ms.map fun m => (Sum.inl m, V.ref (r m)))) ∧ ∀ m ∈ ms, H (r m) = some (.lst ((f m).map .int))) ∧ (∀ m ∈ ms, InOk as ms (f m)) ∧
  ∀ H' a ps, Ex H H' → H a = none → Rp H' (encLL ps) (.ref a) → PartsOk ms ps → Q (.ref a) H'
theorem len_tied_parts {K vs H Q E} (h : sp_tied_parts K vs H Q E) : vs.length = 2 := by obtain ⟨_, _, _, _, _, _, _, rfl, _⟩ := h; rfl
def sp_keys_within (K : Fg) : Sp := fun vs H Q _ => ∃ n ws as ls ms va vl vm, vs = [va, vl, vm] ∧ Rp H (encAs as) va ∧ Rp H (encLL ls) vl ∧ Rp H (encL ms) vm ∧ Valid n ws as ∧ Leav as n ls ∧ Memb n ms ∧
  ∀ H' d kvs, Ex H H' → H' d = some (.dK kvs) → Q (.ref d) H'
theorem len_keys_within {K vs H Q E} (h : sp_keys_within K vs H Q E) : vs.length = 3 := by obtain ⟨_, _, _, _, _, _, _, _, rfl, _⟩ := h; rfl
def sp_is_content (K : Fg) : Sp := fun vs H Q _ => ∃ ws vw x d kvs, vs = [vw, .int x, .ref d] ∧ Rp H (encLL ws) vw ∧ (0 ≤ x ∧ x < ws.length) ∧ H d = some (.dK kvs) ∧ ∀ H' b, Ex H H' → Q (.bl b) H'
theorem len_is_content {K vs H Q E} (h : sp_is_content K vs H Q E) : vs.length = 3 := by obtain ⟨_, _, _, _, _, rfl, _⟩ := h; rfl
def sp_first_missing (K : Fg) : Sp := fun vs H Q _ => ∃ ws ps vw vp d kvs, vs = [vw, vp, .ref d] ∧ Rp H (encLL ws) vw ∧ Rp H (encL ps) vp ∧ (∀ x ∈ ps, 0 ≤ x ∧ x < ws.length) ∧ H d = some (.dK kvs) ∧
  (∀ H', Ex H H' → Q .non H') ∧ ∀ H' k x w, Ex H H' → x ∈ ps → ws[x.toNat]? = some w → k ∈ w → Q (.int k) H'
theorem len_first_missing {K vs H Q E} (h : sp_first_missing K vs H Q E) : vs.length = 3 := by obtain ⟨_, _, _, _, _, _, rfl, _⟩ := h; rfl
/-- what each function of lots promises of a graph: its fault is raised; of a right one (small) something comes back -/
def spGraph (K : Fg) (more : List V → Hp → Prop) (bad : List V → Prop) : Sp := fun vs H Q E => ∃ dw da vw va ms, vs = vw :: va :: ms ∧ Rp H dw vw ∧ Rp H da va ∧ (itemsD da).length < 2 ^ 62 ∧ bad ms ∧
  ((∃ p, gFault dw da = some p ∧ Bad K H E p) ∨ ∃ n ws as, dw = encLL ws ∧ da = encAs as ∧ 0 < n ∧ n ≤ 50 ∧ as.length ≤ 200 ∧ Valid n ws as ∧ more ms H ∧ ∀ H' v, Ex H H' → Q v H')
def sp_fair_lots (K : Fg) : Sp := spGraph K (fun _ _ => True) (fun ms => ms = [])
theorem len_fair_lots {K vs H Q E} (h : sp_fair_lots K vs H Q E) : vs.length = 2 := by obtain ⟨_, _, _, _, _, rfl, _, _, _, rfl, _⟩ := h; rfl
def sp_no_lot_paper (K : Fg) : Sp := spGraph K (fun _ _ => True) (fun ms => ms = [])
theorem len_no_lot_paper {K vs H Q E} (h : sp_no_lot_paper K vs H Q E) : vs.length = 2 := by obtain ⟨_, _, _, _, _, rfl, _, _, _, rfl, _⟩ := h; rfl
def sp_is_fair_lot (K : Fg) : Sp := spGraph K (fun ms H => ∃ a, ms = [.ref a] ∧ H a = some (.tup [.int 0])) (fun ms => ms.length = 1)
theorem len_is_fair_lot {K vs H Q E} (h : sp_is_fair_lot K vs H Q E) : vs.length = 3 := by obtain ⟨_, _, _, _, ms, rfl, _, _, _, hl, _⟩ := h; simp [hl]
def sp_no_lot_fault (K : Fg) : Sp := spGraph K (fun ms H => ∃ a, ms = [.ref a] ∧ H a = some (.tup [])) (fun ms => ms.length = 1)
theorem len_no_lot_fault {K vs H Q E} (h : sp_no_lot_fault K vs H Q E) : vs.length = 3 := by obtain ⟨_, _, _, _, ms, rfl, _, _, _, hl, _⟩ := h; simp [hl]
def sp_tour_fault (K : Fg) : Sp := spGraph K (fun ms H => ∃ a, ms = [.int 0, .ref a] ∧ H a = some (.tup [])) (fun ms => ms.length = 2)
theorem len_tour_fault {K vs H Q E} (h : sp_tour_fault K vs H Q E) : vs.length = 4 := by obtain ⟨_, _, _, _, ms, rfl, _, _, _, hl, _⟩ := h; simp [hl]
/-- fair_tour is asked of wrong graphs alone -/
def sp_fair_tour (K : Fg) : Sp := fun vs H Q E => ∃ dw da vw va p, vs = [vw, va, .non, .int 0] ∧ Rp H dw vw ∧ Rp H da va ∧ (itemsD da).length < 2 ^ 62 ∧ gFault dw da = some p ∧ Bad K H E p
theorem len_fair_tour {K vs H Q E} (h : sp_fair_tour K vs H Q E) : vs.length = 4 := by obtain ⟨_, _, _, _, _, rfl, _⟩ := h; rfl
end SF


namespace SF
open PySem L2
abbrev e_leaving_arcs_1 (K : Fg) (E : XK) : TE := (fun σ H Q => 0 ≤ sizeLine ∧ ∀ p1, H p1 = none → Q (V.ref p1) (upd H p1 (.lst [])))
def t_leaving_arcs_1 (K : Fg) (E : XK) : TS :=
    tDrop (fun σ H Q => ∃ v3, σ[2]? = some (some v3) ∧ ∃ v4, σ[1]? = some (some v4) ∧ ∃ v5, σ[3]? = some (some v5) ∧ rIxL K v4 v5 H (fun x2 h2 => rIxT K x2 (V.int 0) h2 (fun x3 h3 => rIxL K v3 x3 h3 (fun x4 h4 => tyV K "list" x4 h4 ∧ ∃ v6, σ[3]? = some (some v6) ∧ rAppend x4 [v6] h4 Q))))
def t_leaving_arcs (K : Fg) (E : XK) : TS :=
    tSeq (tAsg (tLc (fun σ H R => ∃ v1, σ[0]? = some (some v1) ∧ ∃ a, v1 = .ref a ∧ (∃ xs, SqL K H a xs) ∧ R (Itl K a) H) (gName 4) tYes (e_leaving_arcs_1 K E) [4]) (gName 2))
    (tSeq (tFor (fun σ H R => ∃ v2, σ[1]? = some (some v2) ∧ rLenQ K [v2] H (fun x1 h1 => ∃ j : Int, [x1] = [.int j] ∧ -(2 ^ 62) ≤ j ∧ j < 2 ^ 62 ∧ R (Itr 0 j.toNat) h1)) (gName 3)
      (t_leaving_arcs_1 K E))
    (tRet (fun σ H Q => ∃ v7, σ[2]? = some (some v7) ∧ Q v7 H)))

abbrev e_arcs_within_1 (K : Fg) (E : XK) : TE := (fun σ H Q => ∃ v2, σ[4]? = some (some v2) ∧ Q v2 H)
abbrev e_arcs_within_2 (K : Fg) (E : XK) : TE := (fun σ H Q => Q (V.bl true) H)
abbrev e_arcs_within_3 (K : Fg) (E : XK) : TT := (fun σ H Q => ∃ v6, σ[0]? = some (some v6) ∧ ∃ v7, σ[5]? = some (some v7) ∧ rIxL K v6 v7 H (fun x2 h2 => rIxT K x2 (V.int 1) h2 (fun x3 h3 => ∃ v8, σ[3]? = some (some v8) ∧ ∃ a1 o1, v8 = .ref a1 ∧ DGet h3 a1 x3 o1 ∧ ∃ c1, (V.bl o1.isSome) = .bl c1 ∧ Q c1 h3)))
abbrev e_arcs_within_4 (K : Fg) (E : XK) : TE := (fun σ H Q => ∃ v9, σ[5]? = some (some v9) ∧ Q v9 H)
abbrev e_arcs_within_5 (K : Fg) (E : XK) : TE := (fun σ H Q => ∃ v10, σ[4]? = some (some v10) ∧ Q v10 H)
abbrev e_arcs_within_6 (K : Fg) (E : XK) : TE := (fun σ H Q => tLc (fun σ H R => ∃ v4, σ[1]? = some (some v4) ∧ ∃ v5, σ[4]? = some (some v5) ∧ rIxL K v4 v5 H (fun x1 h1 => ∃ a, x1 = .ref a ∧ (∃ xs, SqL K h1 a xs) ∧ R (Itl K a) h1)) (gName 5) (e_arcs_within_3 K E) (e_arcs_within_4 K E) [5] σ H Q)
def t_arcs_within (K : Fg) (E : XK) : TS :=
    tSeq (tAsg (fun σ H Q => tDc (fun σ H R => ∃ v1, σ[2]? = some (some v1) ∧ ∃ a, v1 = .ref a ∧ (∃ xs, SqL K H a xs) ∧ R (Itl K a) H) (gName 4) tYes (e_arcs_within_1 K E) (e_arcs_within_2 K E) [4] σ H Q) (gName 3))
    (tRet (fun σ H Q => tDc (fun σ H R => ∃ v3, σ[2]? = some (some v3) ∧ ∃ a, v3 = .ref a ∧ (∃ xs, SqL K H a xs) ∧ R (Itl K a) H) (gName 4) tYes (e_arcs_within_5 K E) (e_arcs_within_6 K E) [4] σ H Q))

def t_take_part_1 (K : Fg) (E : XK) : TS :=
    tSeq (tAsg (fun σ H Q => ∃ v1, σ[0]? = some (some v1) ∧ tyV K "list" v1 H ∧ rPop v1 [] H Q) (gName 4))
        (tSeq (sDDel (fun σ H Q => ∃ v2, σ[1]? = some (some v2) ∧ Q v2 H) (fun σ H Q => ∃ v3, σ[4]? = some (some v3) ∧ Q v3 H))
        (tDrop (fun σ H Q => ∃ v4, σ[3]? = some (some v4) ∧ tyV K "list" v4 H ∧ ∃ v5, σ[4]? = some (some v5) ∧ rAppend v4 [v5] H Q)))
def t_take_part (K : Fg) (E : XK) : TS :=
    tSeq (tAsg (fun σ H Q => 0 ≤ sizeLine ∧ ∀ p1, H p1 = none → Q (V.ref p1) (upd H p1 (.lst []))) (gName 3))
    (tSeq (tWhile (fun σ H Q => ∃ v6, σ[3]? = some (some v6) ∧ 0 ≤ sizeLine ∧ ∀ p2, H p2 = none → rEqD K v6 (V.ref p2) (upd H p2 (.lst [])) (fun x1 h1 => ∃ c1, x1 = .bl c1 ∧ if c1 = true then Q true h1 else ∃ v7, σ[3]? = some (some v7) ∧ rNeg (V.int 1) h1 (fun x2 h2 => rIxL K v7 x2 h2 (fun x3 h3 => ∃ v8, σ[2]? = some (some v8) ∧ rNe x3 v8 h3 (fun x4 h4 => ∃ c2, x4 = .bl c2 ∧ Q c2 h4)))))
      (t_take_part_1 K E))
    (tRet (fun σ H Q => ∃ v9, σ[3]? = some (some v9) ∧ rSortedI K [v9] H Q)))

abbrev e_tied_parts_1 (K : Fg) (E : XK) : TE := (fun σ H Q => ∀ p1, H p1 = none → Q (V.ref p1) (upd H p1 (.dK [])))
abbrev e_tied_parts_2 (K : Fg) (E : XK) : TE := (fun σ H Q => ∀ p2, H p2 = none → Q (V.ref p2) (upd H p2 (.dK [])))
abbrev e_tied_parts_3 (K : Fg) (E : XK) : TE := (fun σ H Q => 0 ≤ sizeLine ∧ ∀ p3, H p3 = none → Q (V.ref p3) (upd H p3 (.lst [])))
abbrev e_tied_parts_4 (K : Fg) (E : XK) : TE := (fun σ H Q => ∀ p4, H p4 = none → Q (V.ref p4) (upd H p4 (.dK [])))
abbrev e_tied_parts_5 (K : Fg) (E : XK) : TE := (fun σ H Q => 0 ≤ sizeLine ∧ ∀ p5, H p5 = none → Q (V.ref p5) (upd H p5 (.lst [])))
abbrev e_tied_parts_6 (K : Fg) (E : XK) : TE := (fun σ H Q => ∃ v2, σ[7]? = some (some v2) ∧ ∃ v3, σ[2]? = some (some v3) ∧ ∃ a1 o1, v3 = .ref a1 ∧ DGet H a1 v2 o1 ∧ ∃ c1, (V.bl o1.isSome) = .bl c1 ∧ if c1 = true then 0 ≤ sizeLine ∧ ∀ p6, H p6 = none → Q (V.ref p6) (upd H p6 (.lst [])) else ∃ v4, σ[7]? = some (some v4) ∧ 2 ≤ sizeLine ∧ ∀ p8, H p8 = none → 1 ≤ sizeLine ∧ ∀ p7, (upd H p8 (.lst [v4, (V.int 0)])) p7 = none → Q (V.ref p7) (upd (upd H p8 (.lst [v4, (V.int 0)])) p7 (.lst [(V.ref p8)])))
abbrev e_tied_parts_7 (K : Fg) (E : XK) : TE := (fun σ H Q => ∃ v5, σ[8]? = some (some v5) ∧ rNeg (V.int 1) H (fun x1 h1 => rIxL K v5 x1 h1 Q))
abbrev e_tied_parts_8 (K : Fg) (E : XK) : TE := (fun σ H Q => ∃ v8, σ[2]? = some (some v8) ∧ rLenD [v8] H Q)
abbrev e_tied_parts_9 (K : Fg) (E : XK) : TE := (fun σ H Q => ∃ v12, σ[2]? = some (some v12) ∧ ∃ v13, σ[9]? = some (some v13) ∧ ∃ a2 v11, v12 = .ref a2 ∧ DGet H a2 v13 (some v11) ∧ Q v11 H)
abbrev e_tied_parts_10 (K : Fg) (E : XK) : TE := (fun σ H Q => ∃ v14, σ[4]? = some (some v14) ∧ tyV K "list" v14 H ∧ ∃ v15, σ[9]? = some (some v15) ∧ rAppend v14 [v15] H Q)
abbrev e_tied_parts_11 (K : Fg) (E : XK) : TT := (fun σ H Q => ∃ v18, σ[10]? = some (some v18) ∧ rEq v18 (V.int 0) H (fun x2 h2 => ∃ c2, x2 = .bl c2 ∧ Q c2 h2))
abbrev e_tied_parts_12 (K : Fg) (E : XK) : TE := (fun σ H Q => ∃ v20, σ[10]? = some (some v20) ∧ oAdd v20 (V.int 1) H Q)
abbrev e_tied_parts_13 (K : Fg) (E : XK) : TE := (fun σ H Q => ∃ v21, σ[0]? = some (some v21) ∧ ∃ v23, σ[1]? = some (some v23) ∧ ∃ v24, σ[9]? = some (some v24) ∧ ∃ a3 v22, v23 = .ref a3 ∧ DGet H a3 v24 (some v22) ∧ ∃ v25, σ[10]? = some (some v25) ∧ rIxL K v22 v25 H (fun x5 h5 => rIxL K v21 x5 h5 (fun x6 h6 => rIxT K x6 (V.int 1) h6 Q)))
abbrev e_tied_parts_14 (K : Fg) (E : XK) : TE := (fun σ H Q => ∃ v26, σ[8]? = some (some v26) ∧ tyV K "list" v26 H ∧ ∃ v27, σ[11]? = some (some v27) ∧ 2 ≤ sizeLine ∧ ∀ p9, H p9 = none → rAppend v26 [(V.ref p9)] (upd H p9 (.lst [v27, (V.int 0)])) Q)
abbrev e_tied_parts_15 (K : Fg) (E : XK) : TE := (fun σ H Q => ∃ v31, σ[3]? = some (some v31) ∧ ∃ v32, σ[9]? = some (some v32) ∧ ∃ a4 v30, v31 = .ref a4 ∧ DGet H a4 v32 (some v30) ∧ ∃ v34, σ[2]? = some (some v34) ∧ ∃ v35, σ[11]? = some (some v35) ∧ ∃ a5 v33, v34 = .ref a5 ∧ DGet H a5 v35 (some v33) ∧ rMin2 [v30, v33] H Q)
abbrev e_tied_parts_16 (K : Fg) (E : XK) : TT := (fun σ H Q => ∃ v36, σ[11]? = some (some v36) ∧ ∃ v37, σ[5]? = some (some v37) ∧ ∃ a6 o2, v37 = .ref a6 ∧ DGet H a6 v36 o2 ∧ ∃ c3, (V.bl o2.isSome) = .bl c3 ∧ Q c3 H)
abbrev e_tied_parts_17 (K : Fg) (E : XK) : TT := (fun σ H Q => ∃ v38, σ[11]? = some (some v38) ∧ ∃ v39, σ[2]? = some (some v39) ∧ ∃ a7 o3, v39 = .ref a7 ∧ DGet H a7 v38 o3 ∧ ∃ c4, (V.bl (!o3.isSome)) = .bl c4 ∧ Q c4 H)
abbrev e_tied_parts_18 (K : Fg) (E : XK) : TT := (fun σ H Q => ∃ v40, σ[10]? = some (some v40) ∧ ∃ v42, σ[1]? = some (some v42) ∧ ∃ v43, σ[9]? = some (some v43) ∧ ∃ a8 v41, v42 = .ref a8 ∧ DGet H a8 v43 (some v41) ∧ rLenQ K [v41] H (fun x7 h7 => oLt v40 x7 h7 (fun x8 h8 => ∃ c5, x8 = .bl c5 ∧ Q c5 h8)))
abbrev e_tied_parts_19 (K : Fg) (E : XK) : TE := (fun σ H Q => ∃ v44, σ[8]? = some (some v44) ∧ tyV K "list" v44 H ∧ rPop v44 [] H Q)
abbrev e_tied_parts_20 (K : Fg) (E : XK) : TE := (fun σ H Q => ∃ v45, σ[8]? = some (some v45) ∧ rNeg (V.int 1) H (fun x9 h9 => rIxL K v45 x9 h9 (fun x10 h10 => rIxL K x10 (V.int 0) h10 Q)))
abbrev e_tied_parts_21 (K : Fg) (E : XK) : TE := (fun σ H Q => ∃ v49, σ[3]? = some (some v49) ∧ ∃ v50, σ[12]? = some (some v50) ∧ ∃ a9 v48, v49 = .ref a9 ∧ DGet H a9 v50 (some v48) ∧ ∃ v52, σ[3]? = some (some v52) ∧ ∃ v53, σ[9]? = some (some v53) ∧ ∃ a10 v51, v52 = .ref a10 ∧ DGet H a10 v53 (some v51) ∧ rMin2 [v48, v51] H Q)
abbrev e_tied_parts_22 (K : Fg) (E : XK) : TT := (fun σ H Q => ∃ v54, σ[8]? = some (some v54) ∧ 0 ≤ sizeLine ∧ ∀ p10, H p10 = none → rNeD K v54 (V.ref p10) (upd H p10 (.lst [])) (fun x11 h11 => ∃ c6, x11 = .bl c6 ∧ Q c6 h11))
abbrev e_tied_parts_23 (K : Fg) (E : XK) : TE := (fun σ H Q => ∃ v55, σ[6]? = some (some v55) ∧ tyV K "list" v55 H ∧ ∃ v56, σ[4]? = some (some v56) ∧ ∃ v57, σ[5]? = some (some v57) ∧ ∃ v58, σ[9]? = some (some v58) ∧ sp_take_part K [v56, v57, v58] H (fun x12 h12 => rAppend v55 [x12] h12 Q) E0)
abbrev e_tied_parts_24 (K : Fg) (E : XK) : TT := (fun σ H Q => ∃ v60, σ[3]? = some (some v60) ∧ ∃ v61, σ[9]? = some (some v61) ∧ ∃ a11 v59, v60 = .ref a11 ∧ DGet H a11 v61 (some v59) ∧ ∃ v63, σ[2]? = some (some v63) ∧ ∃ v64, σ[9]? = some (some v64) ∧ ∃ a12 v62, v63 = .ref a12 ∧ DGet H a12 v64 (some v62) ∧ rEq v59 v62 H (fun x13 h13 => ∃ c7, x13 = .bl c7 ∧ Q c7 h13))
abbrev e_tied_parts_25 (K : Fg) (E : XK) : TT := (fun σ H Q => ∃ v65, σ[8]? = some (some v65) ∧ 0 ≤ sizeLine ∧ ∀ p11, H p11 = none → rNeD K v65 (V.ref p11) (upd H p11 (.lst [])) (fun x14 h14 => ∃ c8, x14 = .bl c8 ∧ Q c8 h14))
def t_tied_parts_1 (K : Fg) (E : XK) : TS :=
    tSeq (tDrop (e_tied_parts_19 K E))
            (tSeq (tIfS (e_tied_parts_22 K E)
              (tSeq (tAsg (e_tied_parts_20 K E) (gName 12))
                (sDPut (fun σ H Q => ∃ v46, σ[3]? = some (some v46) ∧ Q v46 H) (fun σ H Q => ∃ v47, σ[12]? = some (some v47) ∧ Q v47 H) (e_tied_parts_21 K E)))
              (tNext))
            (tIfS (e_tied_parts_24 K E)
              (tDrop (e_tied_parts_23 K E))
              (tNext)))
def t_tied_parts_2 (K : Fg) (E : XK) : TS :=
    tSeq (tIfS (e_tied_parts_18 K E)
              (tSeq (tAsg (e_tied_parts_12 K E) (fun v σ H Q => ∃ v19, σ[8]? = some (some v19) ∧ rNeg (V.int 1) H (fun x3 h3 => rIxL K v19 x3 h3 (fun x4 h4 => rSetL x4 (V.int 1) v h4 (fun h9 => Q σ h9)))))
                (tSeq (tAsg (e_tied_parts_13 K E) (gName 11))
                (tSeq (tIfS (e_tied_parts_17 K E)
                  (tDrop (e_tied_parts_14 K E))
                  (tIfS (e_tied_parts_16 K E)
                      (sDPut (fun σ H Q => ∃ v28, σ[3]? = some (some v28) ∧ Q v28 H) (fun σ H Q => ∃ v29, σ[9]? = some (some v29) ∧ Q v29 H) (e_tied_parts_15 K E))
                      (tNext)))
                (tCont))))
              (tNext))
            (t_tied_parts_1 K E)
def t_tied_parts_3 (K : Fg) (E : XK) : TS :=
    tSeq (tAsg (e_tied_parts_7 K E) (gUnl K 2 (gCons (gName 9) (gCons (gName 10) gNil))))
            (tSeq (tIfS (e_tied_parts_11 K E)
              (tSeq (sDPut (fun σ H Q => ∃ v6, σ[2]? = some (some v6) ∧ Q v6 H) (fun σ H Q => ∃ v7, σ[9]? = some (some v7) ∧ Q v7 H) (e_tied_parts_8 K E))
                (tSeq (sDPut (fun σ H Q => ∃ v9, σ[3]? = some (some v9) ∧ Q v9 H) (fun σ H Q => ∃ v10, σ[9]? = some (some v10) ∧ Q v10 H) (e_tied_parts_9 K E))
                (tSeq (tDrop (e_tied_parts_10 K E))
                (sDPut (fun σ H Q => ∃ v16, σ[5]? = some (some v16) ∧ Q v16 H) (fun σ H Q => ∃ v17, σ[9]? = some (some v17) ∧ Q v17 H) (fun σ H Q => Q (V.bl true) H)))))
              (tNext))
            (t_tied_parts_2 K E))
def t_tied_parts (K : Fg) (E : XK) : TS :=
    tSeq (tAsg (e_tied_parts_1 K E) (gName 2))
    (tSeq (tAsg (e_tied_parts_2 K E) (gName 3))
    (tSeq (tAsg (e_tied_parts_3 K E) (gName 4))
    (tSeq (tAsg (e_tied_parts_4 K E) (gName 5))
    (tSeq (tAsg (e_tied_parts_5 K E) (gName 6))
    (tSeq (tLock (tFor (iKeys (fun σ H Q => ∃ v1, σ[1]? = some (some v1) ∧ Q v1 H)) (gName 7)
      (tSeq (tAsg (e_tied_parts_6 K E) (gName 8))
        (tWhile (e_tied_parts_25 K E)
          (t_tied_parts_3 K E)))))
    (tRet (fun σ H Q => ∃ v66, σ[6]? = some (some v66) ∧ Q v66 H)))))))

def t_keys_within_1 (K : Fg) (E : XK) : TS :=
    sDPut (fun σ H Q => ∃ v10, σ[3]? = some (some v10) ∧ Q v10 H) (fun σ H Q => ∃ v11, σ[7]? = some (some v11) ∧ Q v11 H) (fun σ H Q => Q (V.bl true) H)
def t_keys_within_2 (K : Fg) (E : XK) : TS :=
    tFor (fun σ H R => ∃ v8, σ[0]? = some (some v8) ∧ ∃ v9, σ[6]? = some (some v9) ∧ rIxL K v8 v9 H (fun x1 h1 => rIxT K x1 (V.int 2) h1 (fun x2 h2 => ∃ a, x2 = .ref a ∧ (∃ xs, SqL K h2 a xs) ∧ R (Itl K a) h2))) (gName 7)
              (t_keys_within_1 K E)
def t_keys_within_3 (K : Fg) (E : XK) : TS :=
    tFor (fun σ H R => ∃ v6, σ[4]? = some (some v6) ∧ ∃ v7, σ[5]? = some (some v7) ∧ ∃ a1 v5, v6 = .ref a1 ∧ DGet H a1 v7 (some v5) ∧ ∃ a, v5 = .ref a ∧ (∃ xs, SqL K H a xs) ∧ R (Itl K a) H) (gName 6)
          (t_keys_within_2 K E)
def t_keys_within (K : Fg) (E : XK) : TS :=
    tSeq (tAsg (fun σ H Q => ∀ p1, H p1 = none → Q (V.ref p1) (upd H p1 (.dK []))) (gName 3))
    (tSeq (tAsg (fun σ H Q => ∃ v1, σ[0]? = some (some v1) ∧ ∃ v2, σ[1]? = some (some v2) ∧ ∃ v3, σ[2]? = some (some v3) ∧ sp_arcs_within K [v1, v2, v3] H Q E0) (gName 4))
    (tSeq (tFor (fun σ H R => ∃ v4, σ[2]? = some (some v4) ∧ ∃ a, v4 = .ref a ∧ (∃ xs, SqL K H a xs) ∧ R (Itl K a) H) (gName 5)
      (t_keys_within_3 K E))
    (tRet (fun σ H Q => ∃ v12, σ[3]? = some (some v12) ∧ Q v12 H))))

def t_is_content_1 (K : Fg) (E : XK) : TS :=
    tIfS (fun σ H Q => ∃ v3, σ[3]? = some (some v3) ∧ ∃ v4, σ[2]? = some (some v4) ∧ ∃ a1 o1, v4 = .ref a1 ∧ DGet H a1 v3 o1 ∧ ∃ c1, (V.bl (!o1.isSome)) = .bl c1 ∧ Q c1 H)
          (tRet (fun σ H Q => Q (V.bl false) H))
          (tNext)
def t_is_content (K : Fg) (E : XK) : TS :=
    tSeq (tFor (fun σ H R => ∃ v1, σ[0]? = some (some v1) ∧ ∃ v2, σ[1]? = some (some v2) ∧ rIxL K v1 v2 H (fun x1 h1 => ∃ a, x1 = .ref a ∧ (∃ xs, SqL K h1 a xs) ∧ R (Itl K a) h1)) (gName 3)
      (t_is_content_1 K E))
    (tRet (fun σ H Q => Q (V.bl true) H))

def t_first_missing_1 (K : Fg) (E : XK) : TS :=
    tIfS (fun σ H Q => ∃ v5, σ[4]? = some (some v5) ∧ ∃ v6, σ[2]? = some (some v6) ∧ ∃ a1 o1, v6 = .ref a1 ∧ DGet H a1 v5 o1 ∧ ∃ c1, (V.bl (!o1.isSome)) = .bl c1 ∧ Q c1 H)
              (tRet (fun σ H Q => ∃ v4, σ[4]? = some (some v4) ∧ Q v4 H))
              (tNext)
def t_first_missing_2 (K : Fg) (E : XK) : TS :=
    tFor (fun σ H R => ∃ v2, σ[0]? = some (some v2) ∧ ∃ v3, σ[3]? = some (some v3) ∧ rIxL K v2 v3 H (fun x1 h1 => ∃ a, x1 = .ref a ∧ (∃ xs, SqL K h1 a xs) ∧ R (Itl K a) h1)) (gName 4)
          (t_first_missing_1 K E)
def t_first_missing (K : Fg) (E : XK) : TS :=
    tSeq (tFor (fun σ H R => ∃ v1, σ[1]? = some (some v1) ∧ ∃ a, v1 = .ref a ∧ (∃ xs, SqL K H a xs) ∧ R (Itl K a) H) (gName 3)
      (t_first_missing_2 K E))
    (tRet (fun σ H Q => Q V.non H))

abbrev e_fair_lots_1 (K : Fg) (E : XK) : TE := (fun σ H Q => ∃ v1, σ[0]? = some (some v1) ∧ ∃ v2, σ[1]? = some (some v2) ∧ sp_check_graph K [v1, v2] H Q E)
abbrev e_fair_lots_2 (K : Fg) (E : XK) : TE := (fun σ H Q => ∃ v3, σ[0]? = some (some v3) ∧ ∃ v4, σ[1]? = some (some v4) ∧ sp_leaving_arcs K [v3, v4] H Q E0)
abbrev e_fair_lots_3 (K : Fg) (E : XK) : TE := (fun σ H Q => 0 ≤ sizeLine ∧ ∀ p1, H p1 = none → Q (V.ref p1) (upd H p1 (.lst [])))
abbrev e_fair_lots_4 (K : Fg) (E : XK) : TE := (fun σ H Q => ∃ v5, σ[0]? = some (some v5) ∧ rLenQ K [v5] H (fun x1 h1 => ∃ n1, x1 = .int n1 ∧ RgOk 0 n1 ∧ ∀ p3, h1 p3 = none → 1 ≤ sizeLine ∧ ∀ p2, (upd h1 p3 (.lst (rgV 0 n1))) p2 = none → Q (V.ref p2) (upd (upd h1 p3 (.lst (rgV 0 n1))) p2 (.lst [(V.ref p3)]))))
abbrev e_fair_lots_5 (K : Fg) (E : XK) : TE := (fun σ H Q => ∃ v6, σ[4]? = some (some v6) ∧ tyV K "list" v6 H ∧ rPop v6 [] H Q)
abbrev e_fair_lots_6 (K : Fg) (E : XK) : TE := (fun σ H Q => ∃ v11, σ[1]? = some (some v11) ∧ ∃ v12, σ[2]? = some (some v12) ∧ ∃ v13, σ[6]? = some (some v13) ∧ sp_keys_within K [v11, v12, v13] H Q E0)
abbrev e_fair_lots_7 (K : Fg) (E : XK) : TT := (fun σ H Q => ∃ v15, σ[0]? = some (some v15) ∧ ∃ v16, σ[9]? = some (some v16) ∧ ∃ v17, σ[7]? = some (some v17) ∧ sp_is_content K [v15, v16, v17] H (fun x4 h4 => ∃ c1, x4 = .bl c1 ∧ Q c1 h4) E0)
abbrev e_fair_lots_8 (K : Fg) (E : XK) : TE := (fun σ H Q => ∃ v18, σ[9]? = some (some v18) ∧ Q v18 H)
abbrev e_fair_lots_9 (K : Fg) (E : XK) : TE := (fun σ H Q => ∃ v19, σ[3]? = some (some v19) ∧ tyV K "list" v19 H ∧ ∃ v20, σ[6]? = some (some v20) ∧ rTupQ K [v20] H (fun x5 h5 => rAppend v19 [x5] h5 Q))
abbrev e_fair_lots_10 (K : Fg) (E : XK) : TE := (fun σ H Q => ∃ v21, σ[4]? = some (some v21) ∧ tyV K "list" v21 H ∧ ∃ v22, σ[8]? = some (some v22) ∧ rAppend v21 [v22] H Q)
abbrev e_fair_lots_11 (K : Fg) (E : XK) : TT := (fun σ H Q => ∃ v23, σ[8]? = some (some v23) ∧ 0 ≤ sizeLine ∧ ∀ p4, H p4 = none → rNeD K v23 (V.ref p4) (upd H p4 (.lst [])) (fun x6 h6 => ∃ c2, x6 = .bl c2 ∧ Q c2 h6))
abbrev e_fair_lots_12 (K : Fg) (E : XK) : TT := (fun σ H Q => ∃ v24, σ[8]? = some (some v24) ∧ rLenQ K [v24] H (fun x7 h7 => ∃ v25, σ[6]? = some (some v25) ∧ rLenQ K [v25] h7 (fun x8 h8 => rEq x7 x8 h8 (fun x9 h9 => ∃ c3, x9 = .bl c3 ∧ Q c3 h9))))
abbrev e_fair_lots_13 (K : Fg) (E : XK) : TT := (fun σ H Q => ∃ v26, σ[4]? = some (some v26) ∧ 0 ≤ sizeLine ∧ ∀ p5, H p5 = none → rNeD K v26 (V.ref p5) (upd H p5 (.lst [])) (fun x10 h10 => ∃ c4, x10 = .bl c4 ∧ Q c4 h10))
abbrev e_fair_lots_14 (K : Fg) (E : XK) : TE := (fun σ H Q => ∃ v27, σ[3]? = some (some v27) ∧ rSortLT K [v27] H (fun x11 h11 => rTupQ K [x11] h11 Q))
def t_fair_lots_1 (K : Fg) (E : XK) : TS :=
    tSeq (tAsg (e_fair_lots_6 K E) (gName 7))
            (tSeq (tAsg (tLc (fun σ H R => ∃ v14, σ[6]? = some (some v14) ∧ ∃ a, v14 = .ref a ∧ (∃ xs, SqL K H a xs) ∧ R (Itl K a) H) (gName 9) (e_fair_lots_7 K E) (e_fair_lots_8 K E) [9]) (gName 8))
            (tIfS (e_fair_lots_12 K E)
              (tDrop (e_fair_lots_9 K E))
              (tIfS (e_fair_lots_11 K E)
                  (tDrop (e_fair_lots_10 K E))
                  (tNext))))
def t_fair_lots_2 (K : Fg) (E : XK) : TS :=
    tSeq (tAsg (e_fair_lots_5 K E) (gName 5))
        (tFor (fun σ H R => ∃ v7, σ[1]? = some (some v7) ∧ ∃ v8, σ[1]? = some (some v8) ∧ ∃ v9, σ[2]? = some (some v9) ∧ ∃ v10, σ[5]? = some (some v10) ∧ sp_arcs_within K [v8, v9, v10] H (fun x2 h2 => sp_tied_parts K [v7, x2] h2 (fun x3 h3 => ∃ a, x3 = .ref a ∧ (∃ xs, SqL K h3 a xs) ∧ R (Itl K a) h3) E0) E0) (gName 6)
          (t_fair_lots_1 K E))
def t_fair_lots (K : Fg) (E : XK) : TS :=
    tSeq (tDrop (e_fair_lots_1 K E))
    (tSeq (tAsg (e_fair_lots_2 K E) (gName 2))
    (tSeq (tAsg (e_fair_lots_3 K E) (gName 3))
    (tSeq (tAsg (e_fair_lots_4 K E) (gName 4))
    (tSeq (tWhile (e_fair_lots_13 K E)
      (t_fair_lots_2 K E))
    (tRet (e_fair_lots_14 K E))))))

abbrev e_is_fair_lot_1 (K : Fg) (E : XK) : TE := (fun σ H Q => ∃ v1, σ[0]? = some (some v1) ∧ ∃ v2, σ[1]? = some (some v2) ∧ sp_check_graph K [v1, v2] H Q E)
abbrev e_is_fair_lot_2 (K : Fg) (E : XK) : TT := (fun σ H Q => ∃ v3, σ[2]? = some (some v3) ∧ sp_is_sequence [v3] H (fun x1 h1 => ∃ c1, x1 = .bl c1 ∧ if (!c1) = true then Q true h1 else ∃ v4, σ[2]? = some (some v4) ∧ rLenQ K [v4] h1 (fun x2 h2 => rEq x2 (V.int 0) h2 (fun x3 h3 => ∃ c2, x3 = .bl c2 ∧ Q c2 h3))) E0)
abbrev e_is_fair_lot_3 (K : Fg) (E : XK) : TE := (fun σ H Q => ∀ p1, H p1 = none → Q (V.ref p1) (upd H p1 (.dK [])))
abbrev e_is_fair_lot_4 (K : Fg) (E : XK) : TT := (fun σ H Q => ∃ v6, σ[4]? = some (some v6) ∧ ∃ v7, σ[0]? = some (some v7) ∧ rLenQ K [v7] H (fun x4 h4 => oSub x4 (V.int 1) h4 (fun x5 h5 => sp_is_whole [v6, (V.int 0), x5] h5 (fun x6 h6 => ∃ c3, x6 = .bl c3 ∧ if (!c3) = true then Q true h6 else ∃ v8, σ[4]? = some (some v8) ∧ ∃ v9, σ[3]? = some (some v9) ∧ ∃ a1 o1, v9 = .ref a1 ∧ DGet h6 a1 v8 o1 ∧ ∃ c4, (V.bl o1.isSome) = .bl c4 ∧ Q c4 h6) E0)))
abbrev e_is_fair_lot_5 (K : Fg) (E : XK) : TE := (fun σ H Q => ∃ v12, σ[0]? = some (some v12) ∧ ∃ v13, σ[1]? = some (some v13) ∧ sp_leaving_arcs K [v12, v13] H Q E0)
abbrev e_is_fair_lot_6 (K : Fg) (E : XK) : TE := (fun σ H Q => ∃ v14, σ[2]? = some (some v14) ∧ rListQ K [v14] H (fun x7 h7 => rSortedI K [x7] h7 Q))
abbrev e_is_fair_lot_7 (K : Fg) (E : XK) : TT := (fun σ H Q => ∃ v15, σ[1]? = some (some v15) ∧ ∃ v16, σ[1]? = some (some v16) ∧ ∃ v17, σ[5]? = some (some v17) ∧ ∃ v18, σ[6]? = some (some v18) ∧ sp_arcs_within K [v16, v17, v18] H (fun x8 h8 => sp_tied_parts K [v15, x8] h8 (fun x9 h9 => rLenQ K [x9] h9 (fun x10 h10 => rNe x10 (V.int 1) h10 (fun x11 h11 => ∃ c5, x11 = .bl c5 ∧ Q c5 h11))) E0) E0)
abbrev e_is_fair_lot_8 (K : Fg) (E : XK) : TE := (fun σ H Q => ∃ v19, σ[1]? = some (some v19) ∧ ∃ v20, σ[5]? = some (some v20) ∧ ∃ v21, σ[6]? = some (some v21) ∧ sp_keys_within K [v19, v20, v21] H Q E0)
abbrev e_is_fair_lot_9 (K : Fg) (E : XK) : TT := (fun σ H Q => ∃ v23, σ[0]? = some (some v23) ∧ ∃ v24, σ[4]? = some (some v24) ∧ ∃ v25, σ[7]? = some (some v25) ∧ sp_is_content K [v23, v24, v25] H (fun x12 h12 => ∃ c6, x12 = .bl c6 ∧ Q (!c6) h12) E0)
abbrev e_is_fair_lot_10 (K : Fg) (E : XK) : TE := (fun σ H Q => ∃ v26, σ[4]? = some (some v26) ∧ Q v26 H)
abbrev e_is_fair_lot_11 (K : Fg) (E : XK) : TE := (fun σ H Q => tLc (fun σ H R => ∃ v22, σ[6]? = some (some v22) ∧ ∃ a, v22 = .ref a ∧ (∃ xs, SqL K H a xs) ∧ R (Itl K a) H) (gName 4) (e_is_fair_lot_9 K E) (e_is_fair_lot_10 K E) [4] σ H (fun x13 h13 => 0 ≤ sizeLine ∧ ∀ p2, h13 p2 = none → rEqD K x13 (V.ref p2) (upd h13 p2 (.lst [])) Q))
def t_is_fair_lot_1 (K : Fg) (E : XK) : TS :=
    sDPut (fun σ H Q => ∃ v10, σ[3]? = some (some v10) ∧ Q v10 H) (fun σ H Q => ∃ v11, σ[4]? = some (some v11) ∧ Q v11 H) (fun σ H Q => Q (V.bl true) H)
def t_is_fair_lot_2 (K : Fg) (E : XK) : TS :=
    tSeq (tIfS (e_is_fair_lot_4 K E)
          (tRet (fun σ H Q => Q (V.bl false) H))
          (tNext))
        (t_is_fair_lot_1 K E)
def t_is_fair_lot_3 (K : Fg) (E : XK) : TS :=
    tSeq (tAsg (e_is_fair_lot_3 K E) (gName 3))
    (tSeq (tFor (fun σ H R => ∃ v5, σ[2]? = some (some v5) ∧ ∃ a, v5 = .ref a ∧ (∃ xs, SqT K H a xs) ∧ R (Itt K a) H) (gName 4)
      (t_is_fair_lot_2 K E))
    (tSeq (tAsg (e_is_fair_lot_5 K E) (gName 5))
    (tSeq (tAsg (e_is_fair_lot_6 K E) (gName 6))
    (tSeq (tIfS (e_is_fair_lot_7 K E)
      (tRet (fun σ H Q => Q (V.bl false) H))
      (tNext))
    (tSeq (tAsg (e_is_fair_lot_8 K E) (gName 7))
    (tRet (e_is_fair_lot_11 K E)))))))
def t_is_fair_lot (K : Fg) (E : XK) : TS :=
    tSeq (tDrop (e_is_fair_lot_1 K E))
    (tSeq (tIfS (e_is_fair_lot_2 K E)
      (tRet (fun σ H Q => Q (V.bl false) H))
      (tNext))
    (t_is_fair_lot_3 K E))

abbrev e_no_lot_paper_1 (K : Fg) (E : XK) : TE := (fun σ H Q => ∃ v1, σ[0]? = some (some v1) ∧ ∃ v2, σ[1]? = some (some v2) ∧ sp_check_graph K [v1, v2] H Q E)
abbrev e_no_lot_paper_2 (K : Fg) (E : XK) : TE := (fun σ H Q => ∃ v3, σ[0]? = some (some v3) ∧ ∃ v4, σ[1]? = some (some v4) ∧ sp_leaving_arcs K [v3, v4] H Q E0)
abbrev e_no_lot_paper_3 (K : Fg) (E : XK) : TE := (fun σ H Q => 0 ≤ sizeLine ∧ ∀ p1, H p1 = none → Q (V.ref p1) (upd H p1 (.lst [])))
abbrev e_no_lot_paper_4 (K : Fg) (E : XK) : TE := (fun σ H Q => ∃ v5, σ[0]? = some (some v5) ∧ rLenQ K [v5] H (fun x1 h1 => ∃ n1, x1 = .int n1 ∧ RgOk 0 n1 ∧ ∀ p4, h1 p4 = none → 2 ≤ sizeLine ∧ ∀ p3, (upd h1 p4 (.lst (rgV 0 n1))) p3 = none → 1 ≤ sizeLine ∧ ∀ p2, (upd (upd h1 p4 (.lst (rgV 0 n1))) p3 (.tup [(V.int 0), (V.ref p4)])) p2 = none → Q (V.ref p2) (upd (upd (upd h1 p4 (.lst (rgV 0 n1))) p3 (.tup [(V.int 0), (V.ref p4)])) p2 (.lst [(V.ref p3)]))))
abbrev e_no_lot_paper_5 (K : Fg) (E : XK) : TE := (fun σ H Q => ∃ v6, σ[5]? = some (some v6) ∧ tyV K "list" v6 H ∧ rPop v6 [] H Q)
abbrev e_no_lot_paper_6 (K : Fg) (E : XK) : TE := (fun σ H Q => ∃ v7, σ[1]? = some (some v7) ∧ ∃ v8, σ[1]? = some (some v8) ∧ ∃ v9, σ[2]? = some (some v9) ∧ ∃ v10, σ[7]? = some (some v10) ∧ sp_arcs_within K [v8, v9, v10] H (fun x2 h2 => sp_tied_parts K [v7, x2] h2 Q E0) E0)
abbrev e_no_lot_paper_7 (K : Fg) (E : XK) : TE := (fun σ H Q => ∃ v12, σ[8]? = some (some v12) ∧ ∃ v13, σ[9]? = some (some v13) ∧ rIxL K v12 v13 H Q)
abbrev e_no_lot_paper_8 (K : Fg) (E : XK) : TE := (fun σ H Q => ∃ v14, σ[3]? = some (some v14) ∧ tyV K "list" v14 H ∧ ∃ v15, σ[6]? = some (some v15) ∧ ∃ v16, σ[10]? = some (some v16) ∧ rTupQ K [v16] H (fun x7 h7 => 3 ≤ sizeLine ∧ ∀ p5, h7 p5 = none → rAppend v14 [(V.ref p5)] (upd h7 p5 (.tup [v15, (V.str "apart"), x7])) Q))
abbrev e_no_lot_paper_9 (K : Fg) (E : XK) : TT := (fun σ H Q => ∃ v17, σ[9]? = some (some v17) ∧ oGt v17 (V.int 0) H (fun x8 h8 => ∃ c1, x8 = .bl c1 ∧ Q c1 h8))
abbrev e_no_lot_paper_10 (K : Fg) (E : XK) : TE := (fun σ H Q => ∃ v18, σ[0]? = some (some v18) ∧ ∃ v19, σ[10]? = some (some v19) ∧ ∃ v20, σ[1]? = some (some v20) ∧ ∃ v21, σ[2]? = some (some v21) ∧ ∃ v22, σ[10]? = some (some v22) ∧ sp_keys_within K [v20, v21, v22] H (fun x9 h9 => sp_first_missing K [v18, v19, x9] h9 Q E0) E0)
abbrev e_no_lot_paper_11 (K : Fg) (E : XK) : TT := (fun σ H Q => ∃ v23, σ[11]? = some (some v23) ∧ oIsN v23 V.non H (fun x10 h10 => ∃ c2, x10 = .bl c2 ∧ Q c2 h10))
abbrev e_no_lot_paper_12 (K : Fg) (E : XK) : TE := (fun σ H Q => ∃ v24, σ[3]? = some (some v24) ∧ tyV K "list" v24 H ∧ ∃ v25, σ[6]? = some (some v25) ∧ ∃ v26, σ[11]? = some (some v26) ∧ 3 ≤ sizeLine ∧ ∀ p6, H p6 = none → rAppend v24 [(V.ref p6)] (upd H p6 (.tup [v25, (V.str "key"), v26])) Q)
abbrev e_no_lot_paper_13 (K : Fg) (E : XK) : TT := (fun σ H Q => ∃ v28, σ[11]? = some (some v28) ∧ ∃ v29, σ[0]? = some (some v29) ∧ ∃ v30, σ[13]? = some (some v30) ∧ rIxL K v29 v30 H (fun x11 h11 => rIn K true v28 x11 h11 (fun x12 h12 => ∃ c3, x12 = .bl c3 ∧ Q c3 h12)))
abbrev e_no_lot_paper_14 (K : Fg) (E : XK) : TE := (fun σ H Q => ∃ v31, σ[13]? = some (some v31) ∧ Q v31 H)
abbrev e_no_lot_paper_15 (K : Fg) (E : XK) : TE := (fun σ H Q => ∃ v32, σ[5]? = some (some v32) ∧ tyV K "list" v32 H ∧ ∃ v33, σ[6]? = some (some v33) ∧ ∃ v34, σ[12]? = some (some v34) ∧ 2 ≤ sizeLine ∧ ∀ p7, H p7 = none → rAppend v32 [(V.ref p7)] (upd H p7 (.tup [v33, v34])) Q)
abbrev e_no_lot_paper_16 (K : Fg) (E : XK) : TT := (fun σ H Q => ∃ v35, σ[12]? = some (some v35) ∧ 0 ≤ sizeLine ∧ ∀ p8, H p8 = none → rNeD K v35 (V.ref p8) (upd H p8 (.lst [])) (fun x13 h13 => ∃ c4, x13 = .bl c4 ∧ Q c4 h13))
abbrev e_no_lot_paper_17 (K : Fg) (E : XK) : TT := (fun σ H Q => ∃ v37, σ[9]? = some (some v37) ∧ oGt v37 (V.int 0) H (fun x14 h14 => ∃ c5, x14 = .bl c5 ∧ Q c5 h14))
abbrev e_no_lot_paper_18 (K : Fg) (E : XK) : TT := (fun σ H Q => ∃ v38, σ[5]? = some (some v38) ∧ 0 ≤ sizeLine ∧ ∀ p9, H p9 = none → rNeD K v38 (V.ref p9) (upd H p9 (.lst [])) (fun x15 h15 => ∃ c6, x15 = .bl c6 ∧ Q c6 h15))
abbrev e_no_lot_paper_19 (K : Fg) (E : XK) : TE := (fun σ H Q => ∃ v39, σ[3]? = some (some v39) ∧ rTupQ K [v39] H Q)
def t_no_lot_paper_1 (K : Fg) (E : XK) : TS :=
    tIfS (e_no_lot_paper_17 K E)
              (tSeq (tAsg (fun σ H Q => ∃ v36, σ[4]? = some (some v36) ∧ Q v36 H) (gName 6))
                (tAug 4 (fun σ H Q => Q (V.int 1) H) (ipI fun i j => i + j)))
              (tNext)
def t_no_lot_paper_2 (K : Fg) (E : XK) : TS :=
    tSeq (tDrop (e_no_lot_paper_12 K E))
            (tSeq (tAsg (tLc (fun σ H R => ∃ v27, σ[10]? = some (some v27) ∧ ∃ a, v27 = .ref a ∧ (∃ xs, SqL K H a xs) ∧ R (Itl K a) H) (gName 13) (e_no_lot_paper_13 K E) (e_no_lot_paper_14 K E) [13]) (gName 12))
            (tSeq (tIfS (e_no_lot_paper_16 K E)
              (tDrop (e_no_lot_paper_15 K E))
              (tNext))
            (t_no_lot_paper_1 K E)))
def t_no_lot_paper_3 (K : Fg) (E : XK) : TS :=
    tSeq (tAsg (e_no_lot_paper_10 K E) (gName 11))
            (tSeq (tIfS (e_no_lot_paper_11 K E)
              (tRet (fun σ H Q => Q V.non H))
              (tNext))
            (t_no_lot_paper_2 K E))
def t_no_lot_paper_4 (K : Fg) (E : XK) : TS :=
    tSeq (tAsg (e_no_lot_paper_7 K E) (gName 10))
            (tSeq (tIfS (e_no_lot_paper_9 K E)
              (tDrop (e_no_lot_paper_8 K E))
              (tNext))
            (t_no_lot_paper_3 K E))
def t_no_lot_paper_5 (K : Fg) (E : XK) : TS :=
    tSeq (tAsg (e_no_lot_paper_5 K E) (gTup K 2 (gCons (gName 6) (gCons (gName 7) gNil))))
        (tSeq (tAsg (e_no_lot_paper_6 K E) (gName 8))
        (tFor (iRng3 (fun σ H Q => ∃ v11, σ[8]? = some (some v11) ∧ rLenQ K [v11] H (fun x3 h3 => oSub x3 (V.int 1) h3 (fun x4 h4 => rNeg (V.int 1) h4 (fun x5 h5 => rNeg (V.int 1) h5 (fun x6 h6 => Q [x4, x5, x6] h6)))))) (gName 9)
          (t_no_lot_paper_4 K E)))
def t_no_lot_paper (K : Fg) (E : XK) : TS :=
    tSeq (tDrop (e_no_lot_paper_1 K E))
    (tSeq (tAsg (e_no_lot_paper_2 K E) (gName 2))
    (tSeq (tAsg (e_no_lot_paper_3 K E) (gName 3))
    (tSeq (tAsg (fun σ H Q => Q (V.int 1) H) (gName 4))
    (tSeq (tAsg (e_no_lot_paper_4 K E) (gName 5))
    (tSeq (tWhile (e_no_lot_paper_18 K E)
      (t_no_lot_paper_5 K E))
    (tRet (e_no_lot_paper_19 K E)))))))

abbrev e_no_lot_fault_1 (K : Fg) (E : XK) : TE := (fun σ H Q => ∃ v1, σ[0]? = some (some v1) ∧ ∃ v2, σ[1]? = some (some v2) ∧ sp_check_graph K [v1, v2] H Q E)
abbrev e_no_lot_fault_2 (K : Fg) (E : XK) : TE := (fun σ H Q => 2 ≤ sizeLine ∧ ∀ p1, H p1 = none → Q (V.ref p1) (upd H p1 (.tup [(V.int 0), (V.str "step")])))
abbrev e_no_lot_fault_3 (K : Fg) (E : XK) : TT := (fun σ H Q => ∃ v3, σ[2]? = some (some v3) ∧ sp_is_sequence [v3] H (fun x1 h1 => ∃ c1, x1 = .bl c1 ∧ Q (!c1) h1) E0)
abbrev e_no_lot_fault_4 (K : Fg) (E : XK) : TE := (fun σ H Q => ∃ v4, σ[0]? = some (some v4) ∧ ∃ v5, σ[1]? = some (some v5) ∧ sp_leaving_arcs K [v4, v5] H Q E0)
abbrev e_no_lot_fault_5 (K : Fg) (E : XK) : TE := (fun σ H Q => ∃ v6, σ[0]? = some (some v6) ∧ rLenQ K [v6] H (fun x2 h2 => ∃ n1, x2 = .int n1 ∧ RgOk 0 n1 ∧ ∀ p3, h2 p3 = none → 1 ≤ sizeLine ∧ ∀ p2, (upd h2 p3 (.lst (rgV 0 n1))) p2 = none → Q (V.ref p2) (upd (upd h2 p3 (.lst (rgV 0 n1))) p2 (.lst [(V.ref p3)]))))
abbrev e_no_lot_fault_6 (K : Fg) (E : XK) : TE := (fun σ H Q => ∃ v9, σ[2]? = some (some v9) ∧ rLenQ K [v9] H (fun x4 h4 => 2 ≤ sizeLine ∧ ∀ p4, h4 p4 = none → Q (V.ref p4) (upd h4 p4 (.tup [x4, (V.str "left")]))))
abbrev e_no_lot_fault_7 (K : Fg) (E : XK) : TT := (fun σ H Q => ∃ v10, σ[8]? = some (some v10) ∧ 0 ≤ sizeLine ∧ ∀ p5, H p5 = none → rNeD K v10 (V.ref p5) (upd H p5 (.lst [])) (fun x5 h5 => ∃ c2, x5 = .bl c2 ∧ Q c2 h5))
def t_no_lot_fault_1 (K : Fg) (E : XK) : TS :=
    tSeq (tAsg (e_no_lot_fault_4 K E) (gName 3))
    (tSeq (tAsg (e_no_lot_fault_5 K E) (gName 4))
    (tSeq (tFor (fun σ H R => ∃ v7, σ[2]? = some (some v7) ∧ rLenQ K [v7] H (fun x3 h3 => ∃ j : Int, [x3] = [.int j] ∧ -(2 ^ 62) ≤ j ∧ j < 2 ^ 62 ∧ R (Itr 0 j.toNat) h3)) (gName 5)
      (tNever))
    (tSeq (tFor (fun σ H R => ∃ v8, σ[4]? = some (some v8) ∧ ∃ a, v8 = .ref a ∧ (∃ xs, SqL K H a xs) ∧ R (Itl K a) H) (gName 8)
      (tIfS (e_no_lot_fault_7 K E)
          (tRet (e_no_lot_fault_6 K E))
          (tNext)))
    (tRet (fun σ H Q => Q V.non H)))))
def t_no_lot_fault (K : Fg) (E : XK) : TS :=
    tSeq (tDrop (e_no_lot_fault_1 K E))
    (tSeq (tIfS (e_no_lot_fault_3 K E)
      (tRet (e_no_lot_fault_2 K E))
      (tNext))
    (t_no_lot_fault_1 K E))

abbrev e_tour_fault_1 (K : Fg) (E : XK) : TE := (fun σ H Q => ∃ v1, σ[0]? = some (some v1) ∧ ∃ v2, σ[1]? = some (some v2) ∧ sp_check_graph K [v1, v2] H Q E)
abbrev e_tour_fault_2 (K : Fg) (E : XK) : TT := (fun σ H Q => ∃ v3, σ[3]? = some (some v3) ∧ sp_is_sequence [v3] H (fun x1 h1 => ∃ c1, x1 = .bl c1 ∧ Q (!c1) h1) E0)
abbrev e_tour_fault_3 (K : Fg) (E : XK) : TE := (fun σ H Q => ∃ v6, σ[2]? = some (some v6) ∧ 1 ≤ sizeLine ∧ ∀ p1, H p1 = none → Q (V.ref p1) (upd H p1 (.lst [v6])))
abbrev e_tour_fault_4 (K : Fg) (E : XK) : TE := (fun σ H Q => ∀ p2, H p2 = none → Q (V.ref p2) (upd H p2 (.dK [])))
abbrev e_tour_fault_5 (K : Fg) (E : XK) : TT := (fun σ H Q => ∃ v8, σ[5]? = some (some v8) ∧ ∃ v9, σ[2]? = some (some v9) ∧ rNe v8 v9 H (fun x2 h2 => ∃ c2, x2 = .bl c2 ∧ Q c2 h2))
abbrev e_tour_fault_6 (K : Fg) (E : XK) : TT := (fun σ H Q => ∃ v11, σ[0]? = some (some v11) ∧ ∃ v12, σ[5]? = some (some v12) ∧ ∃ v13, σ[7]? = some (some v13) ∧ sp_is_content K [v11, v12, v13] H (fun x3 h3 => ∃ c3, x3 = .bl c3 ∧ Q (!c3) h3) E0)
def t_tour_fault_1 (K : Fg) (E : XK) : TS :=
    tSeq (tFor (fun σ H R => ∃ v10, σ[6]? = some (some v10) ∧ ∃ a, v10 = .ref a ∧ (∃ xs, SqL K H a xs) ∧ R (Itl K a) H) (gName 5)
      (tIfS (e_tour_fault_6 K E)
          (tRet (fun σ H Q => Q (V.str "unfair") H))
          (tNext)))
    (tRet (fun σ H Q => Q V.non H))
def t_tour_fault_2 (K : Fg) (E : XK) : TS :=
    tSeq (tFor (fun σ H R => ∃ v4, σ[3]? = some (some v4) ∧ ∃ a, v4 = .ref a ∧ (∃ xs, SqT K H a xs) ∧ R (Itt K a) H) (gName 4)
      (tNever))
    (tSeq (tAsg (fun σ H Q => ∃ v5, σ[2]? = some (some v5) ∧ Q v5 H) (gName 5))
    (tSeq (tAsg (e_tour_fault_3 K E) (gName 6))
    (tSeq (tAsg (e_tour_fault_4 K E) (gName 7))
    (tSeq (tFor (fun σ H R => ∃ v7, σ[3]? = some (some v7) ∧ ∃ a, v7 = .ref a ∧ (∃ xs, SqT K H a xs) ∧ R (Itt K a) H) (gName 4)
      (tNever))
    (tSeq (tIfS (e_tour_fault_5 K E)
      (tRet (fun σ H Q => Q (V.str "open") H))
      (tNext))
    (t_tour_fault_1 K E))))))
def t_tour_fault (K : Fg) (E : XK) : TS :=
    tSeq (tDrop (e_tour_fault_1 K E))
    (tSeq (tIfS (e_tour_fault_2 K E)
      (tRet (fun σ H Q => Q (V.str "arc") H))
      (tNext))
    (t_tour_fault_2 K E))

def t_fair_tour (K : Fg) (E : XK) : TS :=
    tSeq (tIfS (fun σ H Q => ∃ v1, σ[0]? = some (some v1) ∧ ∃ v2, σ[1]? = some (some v2) ∧ ∃ v3, σ[2]? = some (some v3) ∧ sp_is_fair_lot K [v1, v2, v3] H (fun x1 h1 => ∃ c1, x1 = .bl c1 ∧ if (!c1) = true then Q true h1 else ∃ v4, σ[3]? = some (some v4) ∧ sp_is_whole [v4, .non, .non] h1 (fun x2 h2 => ∃ c2, x2 = .bl c2 ∧ if (!c2) = true then Q true h2 else ∃ v5, σ[3]? = some (some v5) ∧ ∃ v6, σ[2]? = some (some v6) ∧ rIn K true v5 v6 h2 (fun x3 h3 => ∃ c3, x3 = .bl c3 ∧ Q c3 h3)) E0) E)
      (tNever)
      (tNext))
    (tNever)

end SF

/-! R89c: the readings of leaving_arcs, arcs_within, keys_within, is_content, first_missing. -/
namespace SF
open PySem L2
theorem sz {n : Nat} (h : n ≤ 100000) : n ≤ sizeLine := Nat.le_trans h (by decide)
theorem szl {n : Nat} (h : n ≤ 100000) : n < sizeLine := Nat.lt_of_le_of_lt h (by decide)
/-- lists of ints at addresses -/
def LstsAt (H : Hp) (rs : List Addr) (ls : List (List Int)) : Prop := rs.length = ls.length ∧ ∀ (i : Nat) (r : Addr) (l : List Int), rs[i]? = some r → ls[i]? = some l → H r = some (lstI l)
theorem LstsAt.rps {H : Hp} : ∀ {rs : List Addr} {ls : List (List Int)}, LstsAt H rs ls → Rps H (ls.map encL) (rs.map .ref)
  | [], [], _ => .nil
  | [], _ :: _, h => by simp [LstsAt] at h
  | _ :: _, [], h => by simp [LstsAt] at h
  | r :: rs, l :: ls, ⟨h1, h2⟩ => .cons (.lst (h2 0 r l rfl rfl) (.ints l)) (LstsAt.rps ⟨by simpa using h1, fun i r l a b => h2 (i + 1) r l (by simpa using a) (by simpa using b)⟩)
theorem encLL_at {H : Hp} {ls : List (List Int)} {v : V} (h : Rp H (encLL ls) v) : ∃ a xs, v = .ref a ∧ H a = some (.lst xs) ∧ xs.length = ls.length ∧ ∀ (i : Nat) l, ls[i]? = some l → ∃ r : Addr, xs[i]? = some (.ref r) ∧ H r = some (lstI l) := by
  obtain ⟨a, xs, rfl, h1, h2⟩ := h.lst'
  refine ⟨a, xs, rfl, h1, by rw [h2.length, List.length_map], fun i l hl => ?_⟩
  obtain ⟨u, hu, ru⟩ := h2.get (i := i) (d := encL l) (by rw [List.getElem?_map, hl]; rfl)
  obtain ⟨r, ys, rfl, k1, k2⟩ := ru.lst'
  rw [k2.ints'] at k1
  exact ⟨r, hu, k1⟩
theorem encAs_at {H : Hp} {as : List Arc} {v : V} (h : Rp H (encAs as) v) : ∃ a xs, v = .ref a ∧ H a = some (.lst xs) ∧ xs.length = as.length ∧ ∀ (i : Nat) c, as[i]? = some c → ∃ t r : Addr, xs[i]? = some (.ref t) ∧ H t = some (.tup [.int c.1, .int c.2.1, .ref r]) ∧ H r = some (lstI c.2.2) := by
  obtain ⟨a, xs, rfl, h1, h2⟩ := h.lst'
  refine ⟨a, xs, rfl, h1, by rw [h2.length, List.length_map], fun i c hc => ?_⟩
  obtain ⟨u, hu, ru⟩ := h2.get (i := i) (d := encA c) (by rw [List.getElem?_map, hc]; rfl)
  obtain ⟨t, ys, rfl, k1, k2⟩ := ru.tup'
  obtain ⟨v1, _, rfl, r1, k2⟩ := k2.cons'
  obtain ⟨v2, _, rfl, r2, k2⟩ := k2.cons'
  obtain ⟨v3, _, rfl, r3, k2⟩ := k2.cons'
  cases k2.nil'
  cases r1.int'
  cases r2.int'
  obtain ⟨r, zs, rfl, m1, m2⟩ := r3.lst'
  rw [m2.ints'] at m1
  exact ⟨t, r, hu, k1, m1⟩
theorem at_int {xs : List V} {x : Int} {v : V} (h0 : 0 ≤ x) (h : xs[x.toNat]? = some v) : atI xs x = some v := at_of (by omega) h
section
variable {K : Fg} {vs : List V} {H : Hp} {Q : VK} {E : XK}
theorem rd_leaving_arcs (h : sp_leaving_arcs K vs H Q E) : t_leaving_arcs K E { nx := fun _ H' => Q .non H', rt := Q } (start ["wants", "arcs", "leaving", "number", "_"] vs) H := by
  obtain ⟨n, ws, as, vw, va, rfl, hw, ha, V, k⟩ := h
  obtain ⟨aw, xw, rfl, ew, lw, _⟩ := encLL_at hw
  obtain ⟨aa, xa, rfl, ea, la, iaa⟩ := encAs_at ha
  refine ⟨_, rfl, aw, rfl, ⟨_, .of ew⟩, fun D hD => lc_list (K := K) (a := aw) (xs := xw) (fun i H' => Ex H H' ∧ ∃ rs : List Addr, rs.length = i ∧ Owns H H' ((D, .lst (rs.map .ref)) :: rs.map fun r => (r, .lst [])))
    ⟨Ex.new hD, [], rfl, (Owns.none H).new hD⟩ (fun i H' _ p => .of (p.1 _ _ ew)) ?_ ?_⟩
  · rintro i x H1 hx ⟨e1, rs, hl, w⟩
    refine ⟨rfl, Nat.zero_le _, fun p hp => ?_⟩
    have w2 := w.newE (o := .lst []) hp
    have hi : i < xw.length := (List.getElem?_eq_some_iff.mp hx).1
    refine ⟨_, w2.get 0, szl (by rw [List.length_map, hl]; have := V.most; have := V.len; omega), (e1.trans (Ex.new hp)).mut hD, rs ++ [p], by rw [List.length_append, hl]; rfl, ?_⟩
    have w3 := w2.write (o' := .lst (rs.map .ref ++ [.ref p])) 0
    simpa using w3
  · rintro H1 ⟨e1, rs, hl, w⟩
    refine ⟨_, rfl, aa, _, rfl, .inl (.of (e1 _ _ ea)), _, rfl, by have := V.arcs; omega, by have := V.arcs; omega, ?_⟩
    refine for_range (lo := 0) (n := ((xa.length : Nat) : Int).toNat) (fun i σ H' => Ex H H' ∧ (∃ u u2, σ = [some (.ref aw), some (.ref aa), some (.ref D), u, u2]) ∧ ∃ ls : List (List Int), ls.length = n ∧ (∀ l ∈ ls, ArcNos as l ∧ l.length ≤ i) ∧ Owns H H' ((D, .lst (rs.map .ref)) :: (rs.zip ls).map fun p => (p.1, lstI p.2)))
      ⟨e1, ⟨_, _, rfl⟩, List.replicate n [], by simp, fun l hl => ?_, ?_⟩ ?_ ?_
    · rw [List.eq_of_mem_replicate hl]; exact ⟨fun x hx => (by cases hx), Nat.zero_le _⟩
    · have e : (rs.zip (List.replicate n ([] : List Int))).map (fun p => (p.1, lstI p.2)) = rs.map fun r => (r, HO.lst []) := by
        have hrn : rs.length = n := by rw [hl, lw, V.len]
        rw [← hrn]
        clear w hl hrn
        induction rs with
        | nil => rfl
        | cons r rs ih => simp only [List.length_cons, List.replicate_succ, List.zip_cons_cons, List.map_cons]; rw [ih]; rfl
      rw [e]; exact w
    · rintro i σ H2 hi ⟨e2, ⟨u, u2, rfl⟩, ls, hln, hb, w2⟩
      have hi' : i < as.length := by omega
      obtain ⟨t, r, hxi, ht, hr⟩ := iaa i _ (List.getElem?_eq_getElem hi')
      have hv := V.ends _ (List.getElem_mem hi')
      have hrl : rs.length = n := by rw [hl, lw, V.len]
      have hj : (as[i].1).toNat < rs.length := by omega
      obtain ⟨x, hx⟩ : ∃ x, rs[(as[i].1).toNat]? = some x := some_at hj
      obtain ⟨l, hl'⟩ : ∃ l, ls[(as[i].1).toNat]? = some l := some_at (l := ls) (i := (as[i].1).toNat) (by rw [hln, ← hrl]; exact hj)
      have hz : ((D, HO.lst (rs.map .ref)) :: (rs.zip ls).map fun p => (p.1, lstI p.2))[(as[i].1).toNat + 1]? = some (x, lstI l) := by
        rw [List.getElem?_cons_succ, List.getElem?_map, zip_at hx hl']; rfl
      have gx := w2.get _ hz
      have hll := (hb l (List.mem_of_getElem? hl')).2
      refine ⟨_, rfl, _, rfl, _, rfl, aa, xa, 0 + (i : Int), _, rfl, rfl, .of (e2 _ _ ea), at_of (by omega) hxi, t, _, 0, _, rfl, rfl, .of (e2 _ _ ht), by rfl, D, _, _, _, rfl, rfl, .of (w2.get 0), atR hv.1.1 hx, tyL gx, _, rfl, x, _, _, rfl, rfl, gx, szl (by rw [List.length_map]; have := V.arcs; omega), ?_⟩
      have w3 := w2.write (o' := .lst (l.map .int ++ [.int (0 + (i : Int))])) _ hz
      refine ⟨e2.mut (w2.offA _ hz), ⟨_, _, rfl⟩, ls.set (as[i].1).toNat (l ++ [0 + (i : Int)]), by rw [List.length_set, hln], fun q hq => ?_, ?_⟩
      · rcases List.mem_or_eq_of_mem_set hq with hq | rfl
        · exact ⟨(hb q hq).1, by have := (hb q hq).2; omega⟩
        · refine ⟨fun y hy => ?_, by rw [List.length_append]; simp; omega⟩
          rcases List.mem_append.mp hy with hy | hy
          · exact (hb l (List.mem_of_getElem? hl')).1 y hy
          · rw [List.mem_singleton.mp hy]; omega
      · have e : ((D, HO.lst (rs.map .ref)) :: (rs.zip ls).map fun p => (p.1, lstI p.2)).set ((as[i].1).toNat + 1) (x, .lst (l.map .int ++ [.int (0 + (i : Int))])) = (D, HO.lst (rs.map .ref)) :: (rs.zip (ls.set (as[i].1).toNat (l ++ [0 + (i : Int)]))).map fun p => (p.1, lstI p.2) := by
          rw [List.set_cons_succ]
          congr 1
          apply List.ext_getElem?
          intro j
          rw [List.getElem?_set, List.getElem?_map, List.getElem?_map]
          by_cases q : (as[i].1).toNat = j
          · subst q
            rw [if_pos rfl, if_pos (by rw [List.length_map, List.length_zip]; omega), zip_at hx (List.getElem?_set_self (by omega))]
            simp [lstI]
          · rw [if_neg q]
            rw [zip_set q]
        rw [← e]; exact w3
    · rintro σ H2 ⟨e2, ⟨u, u2, rfl⟩, ls, hln, hb, w2⟩
      refine ⟨_, rfl, k H2 _ ls e2 (.lst (w2.get 0) (LstsAt.rps ⟨by have := V.len; omega, fun i r l hr hl' => ?_⟩)) ⟨hln, fun l hl' => ⟨(hb l hl').1, by have := (hb l hl').2; have := V.arcs; omega⟩⟩⟩
      exact w2.get (i + 1) (by rw [List.getElem?_cons_succ, List.getElem?_map, zip_at hr hl']; rfl)
theorem encL_at {ns : List Int} {v : V} (h : Rp H (encL ns) v) : ∃ a, v = .ref a ∧ H a = some (lstI ns) := by
  obtain ⟨a, xs, rfl, h1, h2⟩ := h.lst'
  rw [h2.ints'] at h1
  exact ⟨a, rfl, h1⟩
theorem take_succ {α : Type} {l : List α} {i : Nat} {x : α} (h : l[i]? = some x) : l.take (i + 1) = l.take i ++ [x] := by
  rw [List.take_add_one, h]; rfl
theorem not_take {α : Type} {l : List α} {i : Nat} {x : α} (n : l.Nodup) (h : l[i]? = some x) : x ∉ l.take i := by
  intro hm
  obtain ⟨j, hj, e⟩ := List.getElem_of_mem hm
  rw [List.length_take] at hj
  rw [List.getElem_take] at e
  have : i = j := by
    obtain ⟨hi, e2⟩ := List.getElem?_eq_some_iff.mp h
    exact (List.getElem_inj n).mp (e2.trans e.symm)
  omega
theorem int_item {ns : List Int} {i : Nat} {x : V} (h : (ns.map V.int)[i]? = some x) : ∃ z, ns[i]? = some z ∧ x = .int z := by
  rw [List.getElem?_map] at h
  obtain ⟨z, h1, h2⟩ := Option.map_eq_some_iff.mp h
  exact ⟨z, h1, h2.symm⟩
theorem keys_true (ms : List Int) (w : Int → V) : (ms.map fun m => ((Sum.inl m : Key), w m)).map (·.1) = ms.map Sum.inl := by rw [List.map_map]; rfl
theorem inl_mem {m : Int} {ms : List Int} : (Sum.inl m : Key) ∈ ms.map Sum.inl ↔ m ∈ ms := by
  constructor
  · intro h; obtain ⟨x, hx, e⟩ := List.mem_map.mp h; cases e; exact hx
  · exact fun h => List.mem_map_of_mem h
theorem headOf_at {as : List Arc} {x : Int} {c : Arc} (h : as[x.toNat]? = some c) : headOf as x = c.2.1 := by unfold headOf; rw [h]; rfl
theorem nd_le {α : Type} [DecidableEq α] : ∀ {l m : List α}, l.Nodup → (∀ x ∈ l, x ∈ m) → l.length ≤ m.length
  | [], _, _, _ => Nat.zero_le _
  | x :: l, m, nd, h => by
    obtain ⟨n1, n2⟩ := List.nodup_cons.mp nd
    have hx := h x List.mem_cons_self
    have q := nd_le (l := l) (m := m.erase x) n2 fun y hy => (List.mem_erase_of_ne (fun (e : y = x) => n1 (e ▸ hy))).mpr (h y (List.mem_cons_of_mem _ hy))
    have h0 : 0 < m.length := List.length_pos_of_mem hx
    rw [List.length_erase_of_mem hx] at q
    rw [List.length_cons]
    omega
theorem Memb.len_le {n : Nat} {ms : List Int} (M : Memb n ms) : ms.length ≤ n := by
  have h := nd_le (l := ms) (m := (List.range n).map Int.ofNat) M.nd fun x hx => by
    have := M.rng x hx
    exact List.mem_map.mpr ⟨x.toNat, List.mem_range.mpr (by omega), by show (x.toNat : Int) = x; omega⟩
  rwa [List.length_map, List.length_range] at h
theorem has_ms {ms : List Int} {w : Int → V} {i : Int} : (valV (ms.map fun m => ((Sum.inl m : Key), w m)) (Sum.inl i)).isSome = decide (i ∈ ms) := by
  rw [valV_iff, keys_true]
  exact decide_eq_decide.mpr inl_mem
theorem rd_arcs_within (h : sp_arcs_within K vs H Q E) : t_arcs_within K E { nx := fun _ H' => Q .non H', rt := Q } (start ["arcs", "leaving", "members", "inside", "vertex", "number"] vs) H := by
  obtain ⟨n, ws, as, ls, ms, va, vl, vm, rfl, ha, hl, hm, Va, L, M, k⟩ := h
  obtain ⟨aa, xa, rfl, ea, la, iaa⟩ := encAs_at ha
  obtain ⟨al, xl, rfl, el, ll, ill⟩ := encLL_at hl
  obtain ⟨am, rfl, em⟩ := encL_at hm
  have hms : ms.length ≤ 1000 := Nat.le_trans M.len_le Va.most
  refine ⟨_, rfl, am, rfl, ⟨_, .of em⟩, fun D hD => dc_lst (K := K) (a := am) (xs := ms.map .int) (fun i H' => Ex H H' ∧ H' D = some (.dK ((ms.take i).map fun m => (Sum.inl m, V.bl true)))) ⟨Ex.new hD, by rw [upd_same]; rfl⟩ (fun i H' _ p => .of (p.1 _ _ em)) ?_ ?_⟩
  · rintro i x H1 hx ⟨e1, hd⟩
    obtain ⟨z, hz, rfl⟩ := int_item hx
    refine ⟨rfl, _, rfl, _, Sum.inl z, rfl, hd, szl (by rw [List.length_map, List.length_take]; omega), e1.mut hD, ?_⟩
    rw [upd_same, putK_new (by rw [keys_true, inl_mem]; exact not_take M.nd hz), take_succ hz, List.map_append]; rfl
  rintro H1 ⟨e1, hd1⟩
  rw [List.length_map, List.take_length] at hd1
  refine ⟨_, rfl, am, rfl, ⟨_, .of (e1 _ _ em)⟩, fun D2 hD2 => dc_lst (K := K) (a := am) (xs := ms.map .int) (fun i H' => ∃ (S : Hp) (r : Int → Addr) (f : Int → List Int), Ex H1 S ∧ Owns S H' [(D2, .dK ((ms.take i).map fun m => (Sum.inl m, V.ref (r m))))] ∧ ∀ m ∈ ms.take i, S (r m) = some (lstI (f m)) ∧ InOk as ms (f m))
    ⟨H1, fun _ => 0, fun _ => [], Ex.refl _, (Owns.none H1).new hD2, fun m hm => by simp at hm⟩ (fun i H' _ ⟨S, r, f, e, w, _⟩ => .of (w.ex _ _ (e _ _ (e1 _ _ em)))) ?_ ?_⟩
  · rintro i x H2 hx ⟨S, r, f, e2, w, hf⟩
    obtain ⟨z, hz, rfl⟩ := int_item hx
    have hzm : z ∈ ms := List.mem_of_getElem? hz
    have hzr := M.rng z hzm
    obtain ⟨l, hl'⟩ := some_at (l := ls) (i := z.toNat) (by rw [L.len]; omega)
    obtain ⟨rl, hxl, hrl⟩ := ill _ _ hl'
    have hlo := L.nos l (List.mem_of_getElem? hl')
    have e12 : Ex H S := e1.trans e2
    refine ⟨rfl, _, rfl, _, rfl, _, rfl, al, xl, z, _, rfl, rfl, .of (w.ex _ _ (e12 _ _ el)), at_int hzr.1 hxl, rl, rfl, ⟨_, .of (w.ex _ _ (e12 _ _ hrl))⟩, fun Lp hLp => ?_⟩
    refine lc_list (K := K) (a := rl) (xs := l.map .int) (fun j H' => Owns S H' [(Lp, lstI ((l.take j).filter fun x => decide (headOf as x ∈ ms))), (D2, .dK ((ms.take i).map fun m => (Sum.inl m, V.ref (r m))))]) (w.new hLp) (fun j H' _ p => .of (p.ex _ _ (e12 _ _ hrl))) ?_ ?_
    · rintro j y H3 hy w3
      obtain ⟨q, hq, rfl⟩ := int_item hy
      have hqn := hlo.1 q (List.mem_of_getElem? hq)
      obtain ⟨c, hc⟩ := some_at (l := as) (i := q.toNat) (by omega)
      obtain ⟨t, rk, hxt, ht, _⟩ := iaa _ _ hc
      refine ⟨rfl, _, rfl, _, rfl, aa, xa, q, _, rfl, rfl, .of (w3.ex _ _ (e12 _ _ ea)), at_int hqn.1 hxt, t, _, 1, _, rfl, rfl, .of (w3.ex _ _ (e12 _ _ ht)), by rfl, _, rfl, D, _, rfl, dgI _ (w3.ex _ _ (e2 _ _ hd1)), _, rfl, ?_⟩
      rw [has_ms]
      refine iteD (fun hin => ?_) (fun hout => ?_)
      · rw [← headOf_at hc] at hin
        refine ⟨_, rfl, _, w3.get 0, szl (by rw [List.length_map]; have := List.length_filter_le (fun x => decide (headOf as x ∈ ms)) (l.take j); rw [List.length_take] at this; omega), ?_⟩
        have w4 := w3.write (o' := .lst (((l.take j).filter fun x => decide (headOf as x ∈ ms)).map .int ++ [.int q])) 0
        rw [take_succ hq, List.filter_append, List.filter_cons, if_pos (by simpa using hin), List.filter_nil]
        unfold lstI
        rw [List.map_append]
        exact w4
      · rw [← headOf_at hc] at hout
        rw [take_succ hq, List.filter_append, List.filter_cons, if_neg (by simpa using hout), List.filter_nil, List.append_nil]
        exact w3
    · rintro H3 w3
      rw [List.length_map, List.take_length] at w3
      refine ⟨_, Sum.inl z, rfl, w3.get 1, szl (by rw [List.length_map, List.length_take]; omega), ?_⟩
      have hzt := not_take M.nd hz
      have wf := w3.freeze 0
      have ef := w3.freezeEx 0
      have hLz : ∀ m ∈ ms.take i, r m ≠ Lp := fun m hm e => by
        have h1 := (hf m hm).1
        rw [e, w3.offA 0] at h1; cases h1
      have wp := wf.write (o' := .dK (putK ((ms.take i).map fun m => (Sum.inl m, V.ref (r m))) (Sum.inl z) (.ref Lp))) 0
      refine ⟨upd S Lp (lstI (l.filter fun x => decide (headOf as x ∈ ms))), fun m => if m = z then Lp else r m, fun m => if m = z then l.filter (fun x => decide (headOf as x ∈ ms)) else f m, e2.trans ef, ?_, fun m hm => ?_⟩
      · rw [putK_new (kvs := (ms.take i).map fun m => ((Sum.inl m : Key), V.ref (r m))) (by rw [keys_true, inl_mem]; exact hzt)] at wp ⊢
        have e : (ms.take (i + 1)).map (fun m => ((Sum.inl m : Key), V.ref (if m = z then Lp else r m))) = (ms.take i).map (fun m => (Sum.inl m, V.ref (r m))) ++ [(Sum.inl z, .ref Lp)] := by
          rw [take_succ hz, List.map_append]
          congr 1
          · refine List.map_congr_left fun m hm => ?_
            rw [if_neg (fun (q : m = z) => hzt (q ▸ hm))]
          · simp
        rw [e]; exact wp
      · rw [take_succ hz] at hm
        rcases List.mem_append.mp hm with hm | hm
        · have hne : m ≠ z := fun q => hzt (q ▸ hm)
          simp only [if_neg hne]
          exact ⟨by rw [upd_ne (hLz m hm)]; exact (hf m hm).1, (hf m hm).2⟩
        · cases List.mem_singleton.mp hm
          simp only [if_pos rfl]
          refine ⟨upd_same, fun x hx => hlo.1 x (List.mem_filter.mp hx).1, Nat.le_trans (List.length_filter_le _ _) hlo.2, fun x hx => by simpa using (List.mem_filter.mp hx).2⟩
  · rintro H2 ⟨S, r, f, e2, w, hf⟩
    rw [List.length_map, List.take_length] at w hf
    exact k H2 D2 f (e1.trans (e2.trans w.ex)) (e1.free hD2) ⟨r, w.get 0, fun m hm => w.ex _ _ (hf m hm).1⟩ fun m hm => (hf m hm).2
end
end SF

/-! R89d: the readings of keys_within, is_content, first_missing. -/
namespace SF
open PySem L2
theorem putK_keys {κ : Type} [DecidableEq κ] {kvs : List (κ × V)} {k : κ} {v : V} (h : k ∈ kvs.map (·.1)) : (putK kvs k v).map (·.1) = kvs.map (·.1) := by
  unfold putK
  rw [if_pos]
  · rw [List.map_map]
    refine List.map_congr_left fun p _ => ?_
    show (if p.1 = k then (p.1, v) else p).1 = p.1
    split <;> rfl
  · obtain ⟨p, hp, e⟩ := List.mem_map.mp h
    exact List.any_eq_true.mpr ⟨p, hp, decide_eq_true e⟩
/-- the keys of a dict are unlike, and some of ks -/
def KeysIn (ks : List Int) (kvs : List (Key × V)) : Prop := (kvs.map (·.1)).Nodup ∧ ∀ k ∈ kvs.map (·.1), k ∈ ks.map (Sum.inl : Int → Key)
theorem KeysIn.nil {ks : List Int} : KeysIn ks [] := ⟨List.nodup_nil, fun _ h => by cases h⟩
theorem KeysIn.len {ks : List Int} {kvs : List (Key × V)} (h : KeysIn ks kvs) : kvs.length ≤ ks.length := by
  have := nd_le h.1 h.2
  rwa [List.length_map, List.length_map] at this
theorem KeysIn.put {ks : List Int} {kvs : List (Key × V)} {k : Int} {v : V} (h : KeysIn ks kvs) (hk : k ∈ ks) : KeysIn ks (putK kvs (.inl k) v) := by
  by_cases q : (Sum.inl k : Key) ∈ kvs.map (·.1)
  · unfold KeysIn; rw [putK_keys q]; exact h
  · rw [putK_new q]
    unfold KeysIn
    rw [List.map_append]
    refine ⟨nd_snoc h.1 q, fun x hx => ?_⟩
    rcases List.mem_append.mp hx with hx | hx
    · exact h.2 x hx
    · rw [List.mem_singleton.mp hx]; exact inl_mem.mpr hk
def allKeys (as : List Arc) : List Int := as.flatMap (·.2.2)
theorem allKeys_len (as : List Arc) : (allKeys as).length = (as.map (·.2.2.length)).sum := by
  unfold allKeys; rw [List.length_flatMap]
section
variable {K : Fg} {vs : List V} {H : Hp} {Q : VK} {E : XK}
theorem rd_keys_within (h : sp_keys_within K vs H Q E) : t_keys_within K E { nx := fun _ H' => Q .non H', rt := Q } (start ["arcs", "leaving", "part", "given", "within", "vertex", "number", "key"] vs) H := by
  obtain ⟨n, ws, as, ls, ms, va, vl, vm, rfl, ha, hl, hm, Va, L, M, k⟩ := h
  refine fun D hD => ⟨_, rfl, _, rfl, _, rfl, n, ws, as, ls, ms, va, vl, vm, rfl, ha.up (Ex.new hD), hl.up (Ex.new hD), hm.up (Ex.new hD), Va, L, M, fun H1 d f e1 hd hf hin => ?_⟩
  obtain ⟨r, hdk, hr⟩ := hf
  obtain ⟨aa, xa, rfl, ea, la, iaa⟩ := encAs_at ha
  obtain ⟨am, rfl, em⟩ := encL_at hm
  have w0 : Owns H H1 [(D, .dK [])] := ((Owns.none H).new hD).call e1
  obtain ⟨S, eS, w1, hS⟩ := w0.growAll (Ex.refl H1)
  have hDd : D ≠ d := fun q => by rw [q, upd_same] at hd; cases hd
  have hdS : S d = some (.dK (ms.map fun m => (Sum.inl m, V.ref (r m)))) := hS _ _ hdk (fun p hp => by cases List.mem_singleton.mp hp; exact hDd)
  have hrS : ∀ m ∈ ms, S (r m) = some (lstI (f m)) := fun m hm => hS _ _ (hr m hm) (fun p hp => by
    cases List.mem_singleton.mp hp
    intro q
    have h1 := w0.get 0
    rw [show D = r m from q, hr m hm] at h1
    cases h1)
  have emS := eS _ _ em
  refine ⟨_, rfl, am, rfl, ⟨_, .of (w1.ex _ _ emS)⟩, for_list (K := K) (a := am) (xs := ms.map .int) (fun i σ H' => (∃ u1 u2 u3, σ = [some (.ref aa), some vl, some (.ref am), some (.ref D), some (.ref d), u1, u2, u3]) ∧ ∃ kvs, Owns S H' [(D, .dK kvs)] ∧ KeysIn (allKeys as) kvs) ⟨⟨_, _, _, rfl⟩, [], w1, .nil⟩ (fun i σ H' _ ⟨_, kvs, w, _⟩ => .of (w.ex _ _ emS)) ?_ ?_⟩
  · rintro i x σ H2 hx ⟨⟨u1, u2, u3, rfl⟩, kvs, w2, hk⟩
    obtain ⟨z, hz, rfl⟩ := int_item hx
    have hzm := List.mem_of_getElem? hz
    have hv : valV (ms.map fun m => ((Sum.inl m : Key), V.ref (r m))) (Sum.inl z) = some (.ref (r z)) := by
      obtain ⟨v, h1, h2⟩ := valV_some (kvs := ms.map fun m => ((Sum.inl m : Key), V.ref (r m))) (k := Sum.inl z) (by rw [keys_true]; exact inl_mem.mpr hzm)
      obtain ⟨y, _, e⟩ := List.mem_map.mp h2
      cases e
      exact h1
    have hg := dgI z (w2.ex _ _ hdS)
    rw [hv] at hg
    refine ⟨_, rfl, _, rfl, d, _, rfl, hg, r z, rfl, ⟨_, .of (w2.ex _ _ (hrS z hzm))⟩, for_list (K := K) (a := r z) (xs := (f z).map .int) (fun i σ H' => (∃ u1 u2 u3, σ = [some (.ref aa), some vl, some (.ref am), some (.ref D), some (.ref d), u1, u2, u3]) ∧ ∃ kvs, Owns S H' [(D, .dK kvs)] ∧ KeysIn (allKeys as) kvs) ⟨⟨_, _, _, rfl⟩, kvs, w2, hk⟩ (fun i σ H' _ ⟨_, kvs, w, _⟩ => .of (w.ex _ _ (hrS z hzm))) ?_ (fun _ _ p => p)⟩
    rintro j y σ H3 hy ⟨⟨u1, u2, u3, rfl⟩, kvs3, w3, hk3⟩
    obtain ⟨q, hq, rfl⟩ := int_item hy
    have hqn := (hin z hzm).1 q (List.mem_of_getElem? hq)
    obtain ⟨c, hc⟩ := some_at (l := as) (i := q.toNat) (by omega)
    obtain ⟨t, rk, hxt, ht, hrk⟩ := iaa _ _ hc
    refine ⟨_, rfl, _, rfl, aa, xa, q, _, rfl, rfl, .of (w3.ex _ _ (eS _ _ ea)), at_int hqn.1 hxt, t, _, 2, _, rfl, rfl, .of (w3.ex _ _ (eS _ _ ht)), by rfl, rk, rfl, ⟨_, .of (w3.ex _ _ (eS _ _ hrk))⟩, for_list (K := K) (a := rk) (xs := c.2.2.map .int) (fun i σ H' => (∃ u1 u2 u3, σ = [some (.ref aa), some vl, some (.ref am), some (.ref D), some (.ref d), u1, u2, u3]) ∧ ∃ kvs, Owns S H' [(D, .dK kvs)] ∧ KeysIn (allKeys as) kvs) ⟨⟨_, _, _, rfl⟩, kvs3, w3, hk3⟩ (fun i σ H' _ ⟨_, kvs, w, _⟩ => .of (w.ex _ _ (eS _ _ hrk))) ?_ (fun _ _ p => p)⟩
    rintro l y σ H4 hy ⟨⟨u1, u2, u3, rfl⟩, kvs4, w4, hk4⟩
    obtain ⟨key, hkey, rfl⟩ := int_item hy
    have hin4 : key ∈ allKeys as := List.mem_flatMap.mpr ⟨c, List.mem_of_getElem? hc, List.mem_of_getElem? hkey⟩
    have hlen : kvs4.length < sizeLine := szl (by have := hk4.len; rw [allKeys_len] at this; have := Va.keys; omega)
    exact ⟨_, rfl, _, rfl, D, _, rfl, DPut.k (k := .inl key) (w4.get 0) hlen, ⟨_, _, _, rfl⟩, _, w4.write 0, hk4.put hin4⟩
  · rintro σ H2 ⟨⟨u1, u2, u3, rfl⟩, kvs, w2, hk⟩
    exact ⟨_, rfl, k H2 D kvs (eS.trans w2.ex) (w2.get 0)⟩
theorem rd_is_content (h : sp_is_content K vs H Q E) : t_is_content K E { nx := fun _ H' => Q .non H', rt := Q } (start ["wants", "vertex", "given", "key"] vs) H := by
  obtain ⟨ws, vw, x, d, kvs, rfl, hw, hx, hd, k⟩ := h
  obtain ⟨aw, xw, rfl, ew, lw, iw⟩ := encLL_at hw
  obtain ⟨l, hl⟩ := some_at (l := ws) (i := x.toNat) (by omega)
  obtain ⟨r, hxr, hr⟩ := iw _ _ hl
  refine ⟨_, rfl, _, rfl, aw, xw, x, _, rfl, rfl, .of ew, at_int hx.1 hxr, r, rfl, ⟨_, .of hr⟩, for_list (K := K) (a := r) (xs := l.map .int) (fun i σ H' => H' = H ∧ ∃ u, σ = [some (.ref aw), some (.int x), some (.ref d), u]) ⟨rfl, _, rfl⟩ (fun i σ H' _ ⟨e, _⟩ => by rw [e]; exact .of hr) ?_ ?_⟩
  · rintro i y σ H' hy ⟨rfl, u, rfl⟩
    obtain ⟨z, hz, rfl⟩ := int_item hy
    exact ⟨_, rfl, _, rfl, d, _, rfl, dgI z hd, _, rfl, iteB (fun _ => k _ _ (Ex.refl _)) (fun _ => ⟨rfl, _, rfl⟩)⟩
  · rintro σ H' ⟨rfl, u, rfl⟩
    exact k _ _ (Ex.refl _)
theorem rd_first_missing (h : sp_first_missing K vs H Q E) : t_first_missing K E { nx := fun _ H' => Q .non H', rt := Q } (start ["wants", "part", "given", "vertex", "key"] vs) H := by
  obtain ⟨ws, ps, vw, vp, d, kvs, rfl, hw, hp, hx, hd, k1, k2⟩ := h
  obtain ⟨aw, xw, rfl, ew, lw, iw⟩ := encLL_at hw
  obtain ⟨ap, rfl, ep⟩ := encL_at hp
  refine ⟨_, rfl, ap, rfl, ⟨_, .of ep⟩, for_list (K := K) (a := ap) (xs := ps.map .int) (fun i σ H' => H' = H ∧ ∃ u u2, σ = [some (.ref aw), some (.ref ap), some (.ref d), u, u2]) ⟨rfl, _, _, rfl⟩ (fun i σ H' _ ⟨e, _⟩ => by rw [e]; exact .of ep) ?_ ?_⟩
  · rintro i y σ H' hy ⟨rfl, u, u2, rfl⟩
    obtain ⟨z, hz, rfl⟩ := int_item hy
    have hzp := List.mem_of_getElem? hz
    obtain ⟨l, hl⟩ := some_at (l := ws) (i := z.toNat) (by have := hx z hzp; omega)
    obtain ⟨r, hxr, hr⟩ := iw _ _ hl
    refine ⟨_, rfl, _, rfl, aw, xw, z, _, rfl, rfl, .of ew, at_int (hx z hzp).1 hxr, r, rfl, ⟨_, .of hr⟩, for_list (K := K) (a := r) (xs := l.map .int) (fun i σ H'' => H'' = H' ∧ ∃ u u2, σ = [some (.ref aw), some (.ref ap), some (.ref d), u, u2]) ⟨rfl, _, _, rfl⟩ (fun i σ H'' _ ⟨e, _⟩ => by rw [e]; exact .of hr) ?_ (fun _ _ p => p)⟩
    rintro j y σ H2 hy ⟨rfl, u, u2, rfl⟩
    obtain ⟨key, hk, rfl⟩ := int_item hy
    exact ⟨_, rfl, _, rfl, d, _, rfl, dgI key hd, _, rfl, iteB (fun _ => ⟨_, rfl, k2 _ key z l (Ex.refl _) hzp hl (List.mem_of_getElem? hk)⟩) (fun _ => ⟨rfl, _, _, rfl⟩)⟩
  · rintro σ H' ⟨rfl, u, u2, rfl⟩
    exact k1 _ (Ex.refl _)
end
end SF

/-! R89e: the reading of take_part. -/
namespace SF
open PySem L2
section
variable {K : Fg} {vs : List V} {H : Hp} {Q : VK} {E : XK}
theorem valT {ks : List Int} {k : Int} : (valV (ks.map fun k => ((Sum.inl k : Key), V.bl true)) (Sum.inl k)).isSome = decide (k ∈ ks) := has_ms (w := fun _ => V.bl true)
theorem dropK_true {ks : List Int} {k : Int} : dropK (ks.map fun k => ((Sum.inl k : Key), V.bl true)) (Sum.inl k) = (ks.filter fun x => decide (x ≠ k)).map fun k => (Sum.inl k, V.bl true) := by
  unfold dropK
  rw [List.filter_map]
  congr 1
  refine List.filter_congr fun x _ => ?_
  show decide ((Sum.inl x : Key) ≠ Sum.inl k) = decide (x ≠ k)
  exact decide_eq_decide.mpr ⟨fun h e => h (by rw [e]), fun h e => h (Sum.inl.inj e)⟩
theorem last_at {ns : List Int} {x : Int} : atI ((ns ++ [x]).map V.int) (-1) = some (.int x) := by
  rw [List.map_append]
  unfold atI ixN
  rw [if_neg (by decide), if_pos (by simp; omega)]
  show (ns.map V.int ++ ([x].map V.int))[(-1 + ((ns.map V.int ++ [x].map V.int).length : Int)).toNat]? = some (.int x)
  have e : (-1 + ((ns.map V.int ++ [x].map V.int).length : Int)).toNat = (ns.map V.int).length := by simp; omega
  rw [e, List.getElem?_append_right (Nat.le_refl _), Nat.sub_self]
  rfl
theorem rd_take_part (h : sp_take_part K vs H Q E) : t_take_part K E { nx := fun _ H' => Q .non H', rt := Q } (start ["stack", "waiting", "vertex", "part", "other"] vs) H := by
  obtain ⟨s, d, lo, hi, ks, v, rfl, hs, hd, nd, hlen, ndk, hk, k⟩ := h
  have hsd : s ≠ d := ne_of hs hd (fun q => by cases q)
  obtain ⟨S, w0, hS⟩ := Owns.take (H := H) (l := [(s, lstI (lo ++ v :: hi)), (d, trueD ks)]) (by simpa using hsd) (fun p hp => by
    rcases List.mem_cons.mp hp with rfl | hp
    · exact hs
    · cases List.mem_singleton.mp hp; exact hd)
  have ndF : (v :: hi).Nodup := (List.nodup_append.mp nd).2.1
  refine ⟨Nat.zero_le _, fun P hP => ?_⟩
  refine ⟨fun m σ H' => ∃ F1 F2, v :: hi = F1 ++ F2 ∧ m = F1.length ∧ (∃ u, σ = [some (.ref s), some (.ref d), some (.int v), some (.ref P), u]) ∧ Owns S H' [(P, lstI F2.reverse), (s, lstI (lo ++ F1)), (d, trueD (ks.filter fun x => !decide (x ∈ F2)))], ⟨(v :: hi).length, v :: hi, [], by simp, rfl, ⟨_, rfl⟩, ?_⟩, ?_⟩
  · have e : (ks.filter fun x => !decide (x ∈ ([] : List Int))) = ks := by simp
    rw [e]; exact w0.new hP
  · rintro m σ H1 ⟨F1, F2, hF, rfl, ⟨u, rfl⟩, w⟩
    refine ⟨_, rfl, Nat.zero_le _, fun p2 hp2 => eqNil (rp_ints (w.get 0)) (shaped_ints _) hp2 ⟨_, rfl, ?_⟩⟩
    have w' := w.call (Ex.new (o := .lst []) hp2)
    -- the turn
    have turn : ∀ (x : Int) F1', F1 = F1' ++ [x] → tSeq (tAsg (fun σ H Q => ∃ v1, σ[0]? = some (some v1) ∧ tyV K "list" v1 H ∧ rPop v1 [] H Q) (gName 4))
        (tSeq (sDDel (fun σ H Q => ∃ v2, σ[1]? = some (some v2) ∧ Q v2 H) (fun σ H Q => ∃ v3, σ[4]? = some (some v3) ∧ Q v3 H))
        (tDrop (fun σ H Q => ∃ v4, σ[3]? = some (some v4) ∧ tyV K "list" v4 H ∧ ∃ v5, σ[4]? = some (some v5) ∧ rAppend v4 [v5] H Q)))
        { nx := fun σ' H' => ∃ m', m' < F1.length ∧ ∃ F1 F2, v :: hi = F1 ++ F2 ∧ m' = F1.length ∧ (∃ u, σ' = [some (.ref s), some (.ref d), some (.int v), some (.ref P), u]) ∧ Owns S H' [(P, lstI F2.reverse), (s, lstI (lo ++ F1)), (d, trueD (ks.filter fun x => !decide (x ∈ F2)))],
          rt := Q,
          ct := fun σ' H' => ∃ m', m' < F1.length ∧ ∃ F1 F2, v :: hi = F1 ++ F2 ∧ m' = F1.length ∧ (∃ u, σ' = [some (.ref s), some (.ref d), some (.int v), some (.ref P), u]) ∧ Owns S H' [(P, lstI F2.reverse), (s, lstI (lo ++ F1)), (d, trueD (ks.filter fun x => !decide (x ∈ F2)))],
          bk := tRet (fun σ H Q => ∃ v9, σ[3]? = some (some v9) ∧ rSortedI K [v9] H Q) { nx := fun _ H' => Q .non H', rt := Q } }
        [some (.ref s), some (.ref d), some (.int v), some (.ref P), u] (upd H1 p2 (.lst [])) := by
      rintro x F1' rfl
      have hxF : x ∈ v :: hi := by rw [hF]; simp
      have hx2 : x ∉ F2 := fun q => by
        rw [hF] at ndF
        exact (List.nodup_append.mp ndF).2.2 x (by simp) x q rfl
      have gs := w'.get 1
      refine ⟨_, rfl, tyL gs, s, _, .int x, rfl, rfl, gs, ?_, _, rfl, _, rfl, d, _, .inl x, rfl, (w'.write 1).get 2, rfl, ?_, ?_⟩
      · rw [← List.append_assoc, List.map_append]
        simp
      · rw [valT, decide_eq_true]
        exact List.mem_filter.mpr ⟨hk x hxF, by simpa using hx2⟩
      · have w1 := w'.write (o' := lstI (lo ++ F1')) 1
        have e1 : ((lo ++ (F1' ++ [x])).map V.int).dropLast = (lo ++ F1').map V.int := by rw [← List.append_assoc, List.map_append]; simp
        rw [e1]
        have w2 := w1.write (o' := trueD ((ks.filter fun x => !decide (x ∈ F2)).filter fun y => decide (y ≠ x))) 2
        rw [dropK_true]
        have w3 := w2.write (o' := .lst (F2.reverse.map .int ++ [.int x])) 0
        refine ⟨_, rfl, tyL (w2.get 0), _, rfl, P, _, _, rfl, rfl, w2.get 0, szl (by
          rw [List.length_map, List.length_reverse]
          have h1 : F2.length ≤ (lo ++ v :: hi).length := by rw [List.length_append, hF]; simp; omega
          omega), F1'.length, by simp, F1', x :: F2, by rw [hF]; simp, rfl, ⟨_, rfl⟩, ?_⟩
        have e2 : (ks.filter fun y => !decide (y ∈ x :: F2)) = (ks.filter fun x => !decide (x ∈ F2)).filter fun y => decide (y ≠ x) := by
          rw [List.filter_filter]
          refine List.filter_congr fun y _ => ?_
          by_cases q1 : y = x <;> by_cases q2 : y ∈ F2 <;> simp [q1, q2]
        have e3 : lstI (x :: F2).reverse = .lst (F2.reverse.map .int ++ [.int x]) := by unfold lstI; rw [List.reverse_cons, List.map_append]; rfl
        rw [e2, e3]
        exact w3
    cases F2 with
    | nil =>
      refine iteT ?_
      rcases List.eq_nil_or_concat F1 with rfl | ⟨F1', x, rfl⟩
      · simp at hF
      · exact go_on (turn x F1' (by simp))
    | cons x2 F2' =>
      have en : ((x2 :: F2').reverse.map PyData.int).isEmpty = false := by simp
      refine ifF en ⟨_, rfl, _, rfl, _, _, _, _, rfl, rfl, .of (w'.get 0), (by rw [List.reverse_cons]; exact last_at), _, rfl, rfl, _, rfl, ?_⟩
      cases F1 with
      | nil =>
        rw [List.nil_append] at hF
        injection hF with h1 h2
        subst h1 h2
        have ed : (!decide (V.int v = V.int v)) = false := by simp
        refine ifF ed ⟨_, rfl, P, _, rfl, .of (w'.get 0), fun ns' p hp1 _ hp => ?_⟩
        have we := w'.call (Ex.new (o := .lst (ns'.map .int)) hp)
        refine k _ p ns' (fun c o h1 h2 hc => ?_) ?_ (by have q := we.get 1 (o := lstI (lo ++ [])) (a := s); rw [List.append_nil] at q; exact q) (we.get 2) upd_same (hp1.trans (List.reverse_perm _))
        · exact we.ex _ _ (hS c o hc (fun q hq => by
            rcases List.mem_cons.mp hq with rfl | hq
            · exact Ne.symm h1
            · cases List.mem_singleton.mp hq; exact Ne.symm h2))
        · cases q : H p with
          | none => rfl
          | some o =>
            exfalso
            by_cases h1 : p = s
            · rw [h1, w'.get 1] at hp; cases hp
            · by_cases h2 : p = d
              · rw [h2, w'.get 2] at hp; cases hp
              · have := w'.ex _ _ (hS p o q (fun z hz => by
                  rcases List.mem_cons.mp hz with rfl | hz
                  · exact Ne.symm h1
                  · cases List.mem_singleton.mp hz; exact Ne.symm h2))
                rw [this] at hp; cases hp
      | cons a F1' =>
        have ha : v = a ∧ hi = F1' ++ x2 :: F2' := by simpa using hF
        obtain ⟨rfl, h2⟩ := ha
        have hne : v ≠ x2 := fun q => (List.nodup_cons.mp ndF).1 (by rw [h2, q]; simp)
        have ed : (!decide (V.int x2 = V.int v)) = true := by simp [Ne.symm hne]
        rcases List.eq_nil_or_concat (v :: F1') with h | ⟨F1'', x, hx⟩
        · cases h
        · rw [ed]
          exact go_on (turn x F1'' (by simpa using hx))
end
end SF

/-! P89c: plain lemmas for tied_parts: dicts from ints to ints, sums over what is left, the trail in the stack. -/
namespace SF
open PySem L2
def encI (l : List (Int × Int)) : List (Key × V) := l.map fun p => (Sum.inl p.1, V.int p.2)
def intD (l : List (Int × Int)) : HO := .dK (encI l)
theorem encI_keys (l : List (Int × Int)) : (encI l).map (·.1) = (l.map (·.1)).map Sum.inl := by unfold encI; rw [List.map_map, List.map_map]; rfl
theorem hasI {l : List (Int × Int)} {k : Int} : (valV (encI l) (.inl k)).isSome = decide (k ∈ l.map (·.1)) := by
  rw [valV_iff, encI_keys]; exact decide_eq_decide.mpr inl_mem
theorem valI {l : List (Int × Int)} {k : Int} (h : k ∈ l.map (·.1)) : ∃ n, valV (encI l) (.inl k) = some (.int n) := by
  obtain ⟨v, h1, h2⟩ := valV_some (kvs := encI l) (k := .inl k) (by rw [encI_keys]; exact inl_mem.mpr h)
  obtain ⟨p, _, e⟩ := List.mem_map.mp h2
  cases e
  exact ⟨_, h1⟩
theorem putI_new {l : List (Int × Int)} {k n : Int} (h : k ∉ l.map (·.1)) : putK (encI l) (.inl k) (.int n) = encI (l ++ [(k, n)]) := by
  rw [putK_new (by rw [encI_keys]; exact fun q => h (inl_mem.mp q))]
  unfold encI; rw [List.map_append]; rfl
theorem putI_old {l : List (Int × Int)} {k n : Int} (h : k ∈ l.map (·.1)) : ∃ l', putK (encI l) (.inl k) (.int n) = encI l' ∧ l'.map (·.1) = l.map (·.1) := by
  refine ⟨l.map fun p => if p.1 = k then (p.1, n) else p, ?_, ?_⟩
  · unfold putK
    rw [if_pos]
    · unfold encI
      rw [List.map_map, List.map_map]
      refine List.map_congr_left fun p _ => ?_
      show (if (Sum.inl p.1 : Key) = Sum.inl k then ((Sum.inl p.1 : Key), V.int n) else (Sum.inl p.1, V.int p.2)) = (Sum.inl (if p.1 = k then (p.1, n) else p).1, V.int (if p.1 = k then (p.1, n) else p).2)
      by_cases q : p.1 = k
      · rw [if_pos (by rw [q]), if_pos q]
      · rw [if_neg (fun e => q (Sum.inl.inj e)), if_neg q]
    · obtain ⟨p, hp, e⟩ := List.mem_map.mp h
      exact List.any_eq_true.mpr ⟨(Sum.inl p.1, V.int p.2), List.mem_map_of_mem hp, decide_eq_true (by rw [e])⟩
  · rw [List.map_map]
    refine List.map_congr_left fun p _ => ?_
    show (if p.1 = k then (p.1, n) else p).1 = p.1
    split <;> rfl
theorem trueD_put {ks : List Int} {k : Int} (h : k ∉ ks) : putK (ks.map fun k => ((Sum.inl k : Key), V.bl true)) (.inl k) (.bl true) = (ks ++ [k]).map fun k => (Sum.inl k, V.bl true) := by
  rw [putK_new (by rw [keys_true (w := fun _ => V.bl true)]; exact fun q => h (inl_mem.mp q)), List.map_append]; rfl
theorem last_atV {ys : List V} {y : V} : atI (ys ++ [y]) (-1) = some y := by
  unfold atI ixN
  rw [if_neg (by decide), if_pos (by simp; omega)]
  show (ys ++ [y])[(-1 + ((ys ++ [y]).length : Int)).toNat]? = some y
  have e : (-1 + ((ys ++ [y]).length : Int)).toNat = ys.length := by simp; omega
  rw [e, List.getElem?_append_right (Nat.le_refl _), Nat.sub_self]; rfl
/-- what is left costs less when one is taken -/
theorem sum_less {c : Int → Nat} {P P' : Int → Bool} {o : Int} : ∀ {ms : List Int}, o ∈ ms → P o = true → P' o = false → (∀ x, P' x = true → P x = true) → ((ms.filter P').map c).sum + c o ≤ ((ms.filter P).map c).sum
  | [], h, _, _, _ => by simp at h
  | m :: ms, h, h1, h2, h3 => by
    have mono : ∀ l : List Int, ((l.filter P').map c).sum ≤ ((l.filter P).map c).sum := by
      intro l
      induction l with
      | nil => simp
      | cons y l ih =>
        by_cases q : P' y = true
        · rw [List.filter_cons, if_pos q, List.filter_cons, if_pos (h3 y q)]; simp; omega
        · by_cases q2 : P y = true
          · rw [List.filter_cons, if_neg q, List.filter_cons, if_pos q2]; simp; omega
          · rw [List.filter_cons, if_neg q, List.filter_cons, if_neg q2]; exact ih
    by_cases e : m = o
    · subst e
      rw [List.filter_cons, if_neg (by rw [h2]; decide), List.filter_cons, if_pos h1]
      have := mono ms
      simp; omega
    · have hm : o ∈ ms := by
        rcases List.mem_cons.mp h with q | q
        · exact absurd q.symm e
        · exact q
      have ih := sum_less hm h1 h2 h3 (c := c)
      by_cases q : P' m = true
      · rw [List.filter_cons, if_pos q, List.filter_cons, if_pos (h3 m q)]; simp; omega
      · by_cases q2 : P m = true
        · rw [List.filter_cons, if_neg q, List.filter_cons, if_pos q2]; simp; omega
        · rw [List.filter_cons, if_neg q, List.filter_cons, if_neg q2]; exact ih
theorem tail_sub {tr lo hi : List Int} {v : Int} (h : (tr ++ [v]).Sublist (lo ++ v :: hi)) (nd : (lo ++ v :: hi).Nodup) : tr.Sublist lo := by
  obtain ⟨l1, l2, e, h1, h2⟩ := List.sublist_append_iff.mp h
  have nv := List.nodup_append.mp nd
  have hvlo : v ∉ lo := fun q => nv.2.2 v q v List.mem_cons_self rfl
  have hvhi : v ∉ hi := (List.nodup_cons.mp nv.2.1).1
  rcases List.eq_nil_or_concat l2 with rfl | ⟨l2', y, rfl⟩
  · rw [List.append_nil] at e
    exact absurd (h1.subset (e ▸ (by simp : v ∈ tr ++ [v]))) hvlo
  · rw [List.concat_eq_append] at e h2
    rw [← List.append_assoc] at e
    have e1 := List.append_inj' e rfl
    have : y = v := by simpa using e1.2.symm
    subst this
    cases l2' with
    | nil => rw [e1.1, List.append_nil]; exact h1
    | cons x t =>
      exfalso
      rw [List.cons_append] at h2
      rcases List.sublist_cons_iff.mp h2 with q | ⟨r, hr, q⟩
      · exact hvhi (q.subset (by simp))
      · injection hr with _ hr
        exact hvhi (q.subset (by rw [← hr]; simp))
theorem flat_len : ∀ {ps : List (List Int)}, (∀ p ∈ ps, p ≠ []) → ps.length ≤ ps.flatten.length
  | [], _ => Nat.le_refl _
  | p :: ps, h => by
    have h1 := h p List.mem_cons_self
    have ih := flat_len (ps := ps) fun q hq => h q (List.mem_cons_of_mem _ hq)
    have h0 : 0 < p.length := List.length_pos_iff.mpr h1
    rw [List.flatten_cons, List.length_append, List.length_cons]
    omega
section
variable {S H H' : Hp} {l1 l2 : List (Addr × HO)} {a : Addr} {o o' : HO}
theorem mid_at : (l1 ++ (a, o) :: l2)[l1.length]? = some (a, o) := by rw [List.getElem?_append_right (Nat.le_refl _), Nat.sub_self]; rfl
theorem Owns.getM (w : Owns S H (l1 ++ (a, o) :: l2)) : H a = some o := w.get _ mid_at
theorem Owns.writeM (w : Owns S H (l1 ++ (a, o) :: l2)) : Owns S (upd H a o') (l1 ++ (a, o') :: l2) := by
  have := w.write (o' := o') _ mid_at
  rwa [List.set_append_right _ _ (Nat.le_refl _), Nat.sub_self] at this
theorem Owns.writeM' (w : Owns S H (l1 ++ (a, o) :: l2)) (b : But a H H') (h : H' a = some o') : Owns S H' (l1 ++ (a, o') :: l2) := by
  have := w.write' _ mid_at b h
  rwa [List.set_append_right _ _ (Nat.le_refl _), Nat.sub_self] at this
theorem Owns.dropM (w : Owns S H (l1 ++ (a, o) :: l2)) : Owns S H (l1 ++ l2) := by
  have := w.drop l1.length
  rwa [List.eraseIdx_append_of_length_le (Nat.le_refl _), Nat.sub_self] at this
end
end SF

/-! R89f: the reading of tied_parts, a turn of its while in three pieces. -/
namespace SF
open PySem L2
structure TPS where
  nums : List (Int × Int)
  lows : List (Int × Int)
  stk : List Int
  wt : List Int
  ps : List (List Int)
  prs : List Addr
structure TAd where
  n : Addr
  l : Addr
  s : Addr
  w : Addr
  p : Addr
abbrev TE3 := Addr × Int × Int
def TPS.ks (x : TPS) : List Int := x.nums.map (·.1)
def fixO (A : TAd) (x : TPS) : List (Addr × HO) := [(A.n, intD x.nums), (A.l, intD x.lows), (A.s, lstI x.stk), (A.w, trueD x.wt), (A.p, .lst (x.prs.map .ref))]
def entO (e : TE3) : Addr × HO := (e.1, .lst [.int e.2.1, .int e.2.2])
def trO (tL : Addr) (T : List TE3) : List (Addr × HO) := (tL, .lst (T.map fun e => V.ref e.1)) :: T.map entO
def vts (T : List TE3) : List Int := T.map (·.2.1)
structure TJ (S H : Hp) (A : TAd) (x : TPS) (tL : Addr) (T : List TE3) : Prop where
  w : Owns S H (fixO A x ++ trO tL T)
  at_ : LstsAt S x.prs x.ps
structure TGood (ms : List Int) (x : TPS) : Prop where
  n1 : x.ks.Nodup
  n2 : ∀ k ∈ x.ks, k ∈ ms
  lo : x.lows.map (·.1) = x.ks
  st : (x.ps.flatten ++ x.stk).Nodup
  sn : ∀ k ∈ x.ps.flatten ++ x.stk, k ∈ x.ks
  w1 : x.wt.Nodup
  w2 : ∀ k, k ∈ x.wt ↔ k ∈ x.stk
  pn : ∀ p ∈ x.ps, p ≠ []
def TEnt (ms : List Int) (f : Int → List Int) (T : List TE3) : Prop := ∀ e ∈ T, e.2.1 ∈ ms ∧ 0 ≤ e.2.2 ∧ e.2.2 ≤ (f e.2.1).length
def TrOk (ms : List Int) (f : Int → List Int) (x : TPS) (T : List TE3) : Prop := TEnt ms f T ∧ (T = [] ∨ ∃ T0 t v p, T = T0 ++ [(t, v, p)] ∧ (∀ e ∈ T0, 0 < e.2.2) ∧ ((p = 0 ∧ v ∉ x.ks ∧ (vts T0).Sublist x.stk) ∨ (0 < p ∧ (vts T).Sublist x.stk)))
def tcost (f : Int → List Int) (u : Int) : Nat := (f u).length + 2
def tleft (ms : List Int) (ks vs : List Int) : List Int := ms.filter fun u => !decide (u ∈ ks) && !decide (u ∈ vs)
def tmu (ms : List Int) (f : Int → List Int) (x : TPS) (T : List TE3) : Nat := ((tleft ms x.ks (vts T)).map (tcost f)).sum + (T.map fun e => (f e.2.1).length + 1 - e.2.2.toNat).sum
structure TBase (S : Hp) (as : List Arc) (ms : List Int) (f : Int → List Int) (aa d : Addr) : Prop where
  arcs : ∃ xs, S aa = some (.lst xs) ∧ ∀ (i : Nat) (c : Arc), as[i]? = some c → ∃ t rk : Addr, xs[i]? = some (.ref t) ∧ S t = some (.tup [.int c.1, .int c.2.1, .ref rk])
  dict : ∃ (o : Obj) (r : Int → Addr), S d = some (.frz o (.dK (ms.map fun m => (Sum.inl m, V.ref (r m))))) ∧ ∀ m ∈ ms, S (r m) = some (lstI (f m))
theorem TBase.up {S S' : Hp} {as ms f aa d} (b : TBase S as ms f aa d) (e : Ex S S') : TBase S' as ms f aa d := by
  obtain ⟨⟨xs, h1, h2⟩, o, r, h3, h4⟩ := b
  refine ⟨⟨xs, e _ _ h1, fun i c hc => ?_⟩, o, r, e _ _ h3, fun m hm => e _ _ (h4 m hm)⟩
  obtain ⟨t, rk, k1, k2⟩ := h2 i c hc
  exact ⟨t, rk, k1, e _ _ k2⟩
abbrev sg (aa d : Addr) (A : TAd) (z : Option V) (tL : Addr) (u9 u10 u11 u12 : Option V) : L2.St := [some (.ref aa), some (.ref d), some (.ref A.n), some (.ref A.l), some (.ref A.s), some (.ref A.w), some (.ref A.p), z, some (.ref tL), u9, u10, u11, u12]
def TW (S0 : Hp) (ms : List Int) (f : Int → List Int) (aa d : Addr) (A : TAd) (z : Option V) (m : Nat) (σ : L2.St) (H : Hp) : Prop :=
  ∃ S x tL T u9 u10 u11 u12, σ = sg aa d A z tL u9 u10 u11 u12 ∧ Ex S0 S ∧ TJ S H A x tL T ∧ TGood ms x ∧ TrOk ms f x T ∧ m = tmu ms f x T
theorem Owns.write2 {S H H' : Hp} {l : List (Addr × HO)} {a b : Addr} {o o' u u' : HO} (w : Owns S H l) (i j : Nat) (hi : l[i]? = some (a, o)) (hj : l[j]? = some (b, u)) (hij : i ≠ j) (bt : But2 a b H H') (ha : H' a = some o') (hb : H' b = some u') : Owns S H' ((l.set i (a, o')).set j (b, u')) := by
  have w2 := (w.write (o' := o') i hi).write (o' := u') j (by rw [List.getElem?_set_ne hij]; exact hj)
  refine w2.call fun c x hc => ?_
  by_cases h1 : c = b
  · subst h1; rw [upd_same] at hc; rw [← hc]; exact hb
  · rw [upd_ne h1] at hc
    by_cases h2 : c = a
    · subst h2; rw [upd_same] at hc; rw [← hc]; exact ha
    · rw [upd_ne h2] at hc; exact bt c x h2 h1 hc
theorem Owns.adopt {S H : Hp} {l : List (Addr × HO)} {p : Addr} {o : HO} (w : Owns S H l) (h : H p = some o) (n : ∀ q ∈ l, q.1 ≠ p) : Owns (upd S p o) H l where
  ex := fun b u e => by
    by_cases hb : b = p
    · subst hb; rw [upd_same] at e; cases e; exact h
    · rw [upd_ne hb] at e; exact w.ex b u e
  nd := w.nd
  here := w.here
  off := fun q hq => by rw [upd_ne (n q hq)]; exact w.off q hq
def encT (e : TE3) : PyData := .list [.int e.2.1, .int e.2.2]
theorem tr_rps {H : Hp} : ∀ {T : List TE3}, (∀ e ∈ T, H e.1 = some (.lst [.int e.2.1, .int e.2.2])) → Rps H (T.map encT) (T.map fun e => V.ref e.1)
  | [], _ => .nil
  | e :: T, h => .cons (.lst (h e List.mem_cons_self) (.cons (.int _) (.cons (.int _) .nil))) (tr_rps fun e' he => h e' (List.mem_cons_of_mem _ he))
theorem shaped_tr (T : List TE3) : SeqAt.shaped (.list (T.map encT)) = true := shaped_map (fun e => by simp [encT, PyData.canLay0, PyData.canLayAll0]) (fun e => by simp [encT, PyData.depth, PyData.depthAll]) T
section
variable {S H H' : Hp} {A : TAd} {x : TPS} {tL : Addr} {T : List TE3}
theorem TJ.call (j : TJ S H A x tL T) (e : Ex H H') : TJ S H' A x tL T := ⟨j.w.call e, j.at_⟩
theorem TJ.tr (j : TJ S H A x tL T) : H tL = some (.lst (T.map fun e => V.ref e.1)) := j.w.get 5
theorem TJ.ent (j : TJ S H A x tL T) {e : TE3} (he : e ∈ T) : H e.1 = some (.lst [.int e.2.1, .int e.2.2]) := j.w.here (entO e) (by unfold trO; simp [List.mem_map]; exact .inr (.inr ⟨_, _, _, he, rfl⟩))
theorem TJ.rp (j : TJ S H A x tL T) : Rp H (.list (T.map encT)) (.ref tL) := .lst j.tr (tr_rps fun _ he => j.ent he)
/-- the last of the trail let go -/
theorem TJ.pop {t : Addr} {v p : Int} (j : TJ S H A x tL (T ++ [(t, v, p)])) : TJ S (upd H tL (.lst (T.map fun e => V.ref e.1))) A x tL T := by
  refine ⟨?_, j.at_⟩
  have w := j.w.write (o' := .lst (T.map fun e => V.ref e.1)) 5
  have e : (fixO A x ++ trO tL (T ++ [(t, v, p)])).set 5 (tL, .lst (T.map fun e => V.ref e.1)) = (fixO A x ++ trO tL T) ++ entO (t, v, p) :: [] := by
    unfold trO fixO; simp
  rw [e] at w
  have w2 := w.dropM
  rwa [List.append_nil] at w2
end
theorem vts_snoc (T : List TE3) (t : Addr) (v p : Int) : vts (T ++ [(t, v, p)]) = vts T ++ [v] := by unfold vts; rw [List.map_append]; rfl
theorem tleft_congr {ms ks ks' vs vs' : List Int} (h : ∀ u, (u ∈ ks ∨ u ∈ vs) ↔ (u ∈ ks' ∨ u ∈ vs')) : tleft ms ks vs = tleft ms ks' vs' := by
  unfold tleft
  refine List.filter_congr fun u _ => ?_
  have := h u
  by_cases a : u ∈ ks <;> by_cases b : u ∈ vs <;> by_cases c : u ∈ ks' <;> by_cases d : u ∈ vs' <;> simp_all
theorem tmu_snoc (ms : List Int) (f : Int → List Int) (x : TPS) (T : List TE3) (t : Addr) (v p : Int) : tmu ms f x (T ++ [(t, v, p)]) = ((tleft ms x.ks (vts T ++ [v])).map (tcost f)).sum + (T.map fun e => (f e.2.1).length + 1 - e.2.2.toNat).sum + ((f v).length + 1 - p.toNat) := by
  unfold tmu; rw [vts_snoc, List.map_append, List.sum_append]; simp; omega
section
variable {K : Fg} {E : XK} {S0 S H : Hp} {as : List Arc} {ms : List Int} {f : Int → List Int} {aa d : Addr} {A : TAd} {z u10 u11 u12 : Option V} {x : TPS} {tL : Addr} {D : Ends}
theorem TGood.len {n : Nat} (g : TGood ms x) (M : Memb n ms) (h : n ≤ 1000) : x.nums.length ≤ 1000 ∧ x.lows.length ≤ 1000 ∧ x.stk.length ≤ 1000 ∧ x.wt.length ≤ 1000 ∧ x.ps.length ≤ 1000 := by
  have h1 := nd_le g.n1 g.n2
  have h0 := M.len_le
  have h2 : x.ks.length = x.nums.length := List.length_map ..
  have h3 : x.lows.length = x.nums.length := by rw [← h2, ← g.lo, List.length_map]
  have h4 := nd_le g.st g.sn
  rw [List.length_append] at h4
  have h5 := nd_le g.w1 fun k hk => (g.w2 k).mp hk
  have h6 := flat_len g.pn
  omega
/-- the end of a turn: the trail is popped, its vertex's part taken -/
theorem tp_1 {n : Nat} (M : Memb n ms) (hn : n ≤ 1000) {T : List TE3} {t : Addr} {v p : Int} (eS : Ex S0 S) (j : TJ S H A x tL (T ++ [(t, v, p)])) (g : TGood ms x) (en : TEnt ms f (T ++ [(t, v, p)])) (hp : ∀ e ∈ T, 0 < e.2.2) (hs : (vts (T ++ [(t, v, p)])).Sublist x.stk)
    (k : ∀ m σ H', m < tmu ms f x (T ++ [(t, v, p)]) → TW S0 ms f aa d A z m σ H' → D.nx σ H') : t_tied_parts_1 K E D (sg aa d A z tL (some (.int v)) u10 u11 u12) H := by
  have hl := g.len M hn
  have hv : v ∈ x.stk := hs.subset (by rw [vts_snoc]; simp)
  have hvk : v ∈ x.ks := g.sn v (List.mem_append_right _ hv)
  have hsT : (vts T).Sublist x.stk := (by rw [vts_snoc] at hs; exact (List.sublist_append_left ..).trans hs)
  have enT : TEnt ms f T := fun e he => en e (List.mem_append_left _ he)
  have hpl := en (t, v, p) (by simp)
  have mu : ∀ x' : TPS, x'.ks = x.ks → tmu ms f x' T < tmu ms f x (T ++ [(t, v, p)]) := fun x' e => by
    rw [tmu_snoc]
    unfold tmu
    rw [e, tleft_congr (ks := x.ks) (vs := vts T) (ks' := x.ks) (vs' := vts T ++ [v]) (fun u => by
      constructor
      · rintro (h | h)
        · exact .inl h
        · exact .inr (List.mem_append_left _ h)
      · rintro (h | h)
        · exact .inl h
        · rcases List.mem_append.mp h with h | h
          · exact .inr h
          · rw [List.mem_singleton.mp h]; exact .inl hvk)]
    have h1 := hpl.2.2
    have h2 := hpl.2.1
    simp only at h1 h2
    omega
  have trok : ∀ x' : TPS, (vts T).Sublist x'.stk → TrOk ms f x' T := fun x' hs' => ⟨enT, by
    rcases List.eq_nil_or_concat T with rfl | ⟨T0, e, rfl⟩
    · exact .inl rfl
    · obtain ⟨t2, v2, p2⟩ := e
      rw [List.concat_eq_append] at hs' hp ⊢
      exact .inr ⟨T0, t2, v2, p2, rfl, fun e he => hp e (List.mem_append_left _ he), .inr ⟨hp (t2, v2, p2) (by simp), hs'⟩⟩⟩
  refine ⟨_, rfl, tyL j.tr, tL, _, .ref t, rfl, rfl, j.tr, by rw [List.map_append]; simp, ?_⟩
  have e1 : ((T ++ [(t, v, p)]).map fun e => V.ref e.1).dropLast = T.map fun e => V.ref e.1 := by rw [List.map_append]; simp
  rw [e1]
  have j1 := j.pop
  -- what follows when low of the one before is set
  have fin : ∀ (x' : TPS) (H' : Hp) (w12 : Option V), x'.ks = x.ks → x'.stk = x.stk → TGood ms x' → TJ S H' A x' tL T → tIfS (e_tied_parts_24 K E) (tDrop (e_tied_parts_23 K E)) tNext D (sg aa d A z tL (some (.int v)) u10 u11 w12) H' := by
    intro x' H' w12 ek es g' j'
    have hl' := g'.len M hn
    obtain ⟨lv, hlv⟩ := valI (l := x'.lows) (k := v) (by rw [g'.lo, ek]; exact hvk)
    obtain ⟨nv, hnv⟩ := valI (l := x'.nums) (k := v) (by show v ∈ x'.ks; rw [ek]; exact hvk)
    have dl := dgI v (j'.w.get 1); rw [hlv] at dl
    have dn := dgI v (j'.w.get 0); rw [hnv] at dn
    refine ⟨_, rfl, _, rfl, A.l, _, rfl, dl, _, rfl, _, rfl, A.n, _, rfl, dn, rfl, _, rfl, iteB (fun _ => ?_) (fun _ => ?_)⟩
    · have hv' : v ∈ x'.stk := by rw [es]; exact hv
      obtain ⟨lo, hi, hst⟩ := List.append_of_mem hv'
      have hnd : x'.stk.Nodup := (List.nodup_append.mp g'.st).2.1
      have pp : A.p ≠ A.s ∧ A.p ≠ A.w := by
        have := j'.w.nd
        unfold fixO at this
        simp at this
        exact ⟨fun e => this.2.2.1.2.1 e.symm, fun e => this.2.2.2.1.1 e.symm⟩
      refine ⟨_, rfl, tyL (j'.w.get 4), _, rfl, _, rfl, _, rfl, A.s, A.w, lo, hi, x'.wt, v, rfl, by rw [← hst]; exact j'.w.get 2, j'.w.get 3, by rw [← hst]; exact hnd, by rw [← hst]; omega, g'.w1, fun y hy => (g'.w2 y).mpr (by rw [hst]; exact List.mem_append_right _ hy), fun H2 p2 ns bt hp2 h1 h2 h3 hns => ?_⟩
      have w2 := j'.w.write2 2 3 rfl rfl (by decide) bt h1 h2
      have hpn : ∀ q ∈ ((fixO A x' ++ trO tL T).set 2 (A.s, lstI lo)).set 3 (A.w, trueD (x'.wt.filter fun y => !decide (y ∈ v :: hi))), q.1 ≠ p2 := by
        intro q hq e
        have hm : q.1 ∈ (fixO A x' ++ trO tL T).map (·.1) := by
          have : (((fixO A x' ++ trO tL T).set 2 (A.s, lstI lo)).set 3 (A.w, trueD (x'.wt.filter fun y => !decide (y ∈ v :: hi)))).map (·.1) = (fixO A x' ++ trO tL T).map (·.1) := by unfold fixO; rfl
          rw [← this]; exact List.mem_map_of_mem (f := (·.1)) hq
        obtain ⟨q0, h0, e0⟩ := List.mem_map.mp hm
        have := j'.w.here q0 h0
        rw [show q0.1 = p2 from e0.trans e, hp2] at this
        cases this
      have w3 := w2.adopt h3 hpn
      have w4 := w3.write (o' := .lst (x'.prs.map .ref ++ [.ref p2])) 4
      have hS : Ex S (upd S p2 (lstI ns)) := Ex.new (j'.w.ex.free hp2)
      have g4 : H2 A.p = some (.lst (x'.prs.map .ref)) := w3.get 4
      refine ⟨A.p, _, _, rfl, rfl, g4, szl (by rw [List.length_map, j'.at_.1]; omega), ?_⟩
      have hwp : ∀ y, y ∈ x'.wt.filter (fun y => !decide (y ∈ v :: hi)) ↔ y ∈ lo := by
        intro y
        rw [List.mem_filter, g'.w2 y, hst]
        rw [hst] at hnd
        have hd := (List.nodup_append.mp hnd).2.2
        constructor
        · rintro ⟨h1, h2⟩
          rcases List.mem_append.mp h1 with h | h
          · exact h
          · simp [h] at h2
        · intro h
          refine ⟨List.mem_append_left _ h, ?_⟩
          have : y ∉ v :: hi := fun q => hd y h y q rfl
          simpa using this
      have perm : (x'.ps.flatten ++ x'.stk).Perm ((x'.ps ++ [ns]).flatten ++ lo) := by
        rw [hst, List.flatten_append]
        simp only [List.flatten_cons, List.flatten_nil, List.append_nil]
        rw [List.append_assoc]
        refine List.Perm.append_left _ ?_
        exact (List.perm_append_comm).trans (hns.symm.append_right _)
      refine k (tmu ms f { x' with stk := lo, wt := x'.wt.filter (fun y => !decide (y ∈ v :: hi)), ps := x'.ps ++ [ns], prs := x'.prs ++ [p2] } T) _ _ (mu _ ek) ⟨upd S p2 (lstI ns), { x' with stk := lo, wt := x'.wt.filter (fun y => !decide (y ∈ v :: hi)), ps := x'.ps ++ [ns], prs := x'.prs ++ [p2] }, tL, T, _, _, _, _, rfl, eS.trans hS, ⟨?_, ?_⟩, ?_, trok _ ?_, rfl⟩
      · have e : fixO A { x' with stk := lo, wt := x'.wt.filter (fun y => !decide (y ∈ v :: hi)), ps := x'.ps ++ [ns], prs := x'.prs ++ [p2] } = [(A.n, intD x'.nums), (A.l, intD x'.lows), (A.s, lstI lo), (A.w, trueD (x'.wt.filter fun y => !decide (y ∈ v :: hi))), (A.p, .lst (x'.prs.map .ref ++ [.ref p2]))] := by unfold fixO; simp
        rw [e]; exact w4
      · refine ⟨by simp [j'.at_.1], fun i r l hr hl => ?_⟩
        rcases Nat.lt_or_ge i x'.prs.length with h | h
        · rw [List.getElem?_append_left h] at hr
          rw [List.getElem?_append_left (by rw [← j'.at_.1]; exact h)] at hl
          exact hS _ _ (j'.at_.2 i r l hr hl)
        · rw [List.getElem?_append_right h] at hr
          rw [List.getElem?_append_right (by rw [← j'.at_.1]; exact h)] at hl
          rw [← j'.at_.1] at hl
          cases hq : i - x'.prs.length with
          | zero => rw [hq] at hr hl; simp at hr hl; subst hr hl; exact upd_same
          | succ q => rw [hq] at hr; simp at hr
      · refine ⟨g'.n1, g'.n2, g'.lo, perm.nodup_iff.mp g'.st, fun y hy => g'.sn y (perm.mem_iff.mpr hy), g'.w1.sublist (List.filter_sublist ..), hwp, fun q hq => ?_⟩
        rcases List.mem_append.mp hq with hq | hq
        · exact g'.pn q hq
        · rw [List.mem_singleton.mp hq]
          intro e; rw [e] at hns
          exact absurd hns.length_eq (by simp)
      · refine tail_sub (v := v) (hi := hi) ?_ (by rw [← hst]; exact hnd)
        rw [← hst, es, ← vts_snoc T t v p]; exact hs
    · exact k _ _ _ (mu x' ek) ⟨S, x', tL, T, _, _, _, _, rfl, eS, j', g', trok x' (by rw [es]; exact hsT), rfl⟩
  refine ⟨_, rfl, Nat.zero_le _, fun p10 hp10 => neNil j1.rp (shaped_tr T) hp10 ⟨_, rfl, ?_⟩⟩
  have j2 := j1.call (Ex.new (o := .lst []) hp10)
  rcases List.eq_nil_or_concat T with rfl | ⟨T0, e, hT⟩
  · exact iteF (fin x _ _ rfl rfl g j2)
  · obtain ⟨t2, v2, p2⟩ := e
    rw [List.concat_eq_append] at hT
    have en0 : (T.map encT).isEmpty = false := by rw [hT]; simp
    have hm2 : (t2, v2, p2) ∈ T := by rw [hT]; simp
    have hv2 : v2 ∈ x.ks := g.sn v2 (List.mem_append_right _ (hsT.subset (by rw [hT, vts_snoc]; simp)))
    refine ifNT en0 ⟨_, rfl, _, rfl, tL, _, _, .ref t2, rfl, rfl, .of j2.tr, by rw [hT, List.map_append]; exact last_atV, t2, _, 0, _, rfl, rfl, .of (j2.ent hm2), by rfl, ?_⟩
    obtain ⟨lb, hlb⟩ := valI (l := x.lows) (k := v2) (by rw [g.lo]; exact hv2)
    obtain ⟨lv, hlv⟩ := valI (l := x.lows) (k := v) (by rw [g.lo]; exact hvk)
    have d1 := dgI v2 (j2.w.get 1); rw [hlb] at d1
    have d2 := dgI v (j2.w.get 1); rw [hlv] at d2
    obtain ⟨l', e2, e3⟩ := putI_old (l := x.lows) (k := v2) (n := if lv < lb then lv else lb) (by rw [g.lo]; exact hv2)
    refine ⟨_, rfl, _, rfl, A.l, _, rfl, d1, _, rfl, _, rfl, A.l, _, rfl, d2, lb, lv, rfl, _, rfl, _, rfl, A.l, _, rfl, DPut.k (k := .inl v2) (j2.w.get 1) (szl (by unfold encI; rw [List.length_map]; omega)), ?_⟩
    rw [e2]
    have w5 := j2.w.write (o' := intD l') 1
    exact fin { x with lows := l' } _ _ rfl rfl ⟨g.n1, g.n2, by show l'.map (·.1) = x.ks; rw [e3]; exact g.lo, g.st, g.sn, g.w1, g.w2, g.pn⟩ ⟨w5, j.at_⟩
end
end SF

/-! R89g: the reading of tied_parts, the rest. -/
namespace SF
open PySem L2
section
variable {K : Fg} {E : XK} {S0 S H : Hp} {as : List Arc} {ms : List Int} {f : Int → List Int} {aa d : Addr} {A : TAd} {z u10 u11 u12 : Option V} {x : TPS} {tL : Addr} {D : Ends}
theorem withAt {o : Obj} {r : Int → Addr} {v : Int} (hv : v ∈ ms) (h : H d = some (.frz o (.dK (ms.map fun m => (Sum.inl m, V.ref (r m)))))) : DGet H d (.int v) (some (.ref (r v))) := by
  have q := dgR v (.inr ⟨o, h⟩ : Rd H d (.dK (ms.map fun m => ((Sum.inl m : Key), V.ref (r m)))))
  obtain ⟨w, h1, h2⟩ := valV_some (kvs := ms.map fun m => ((Sum.inl m : Key), V.ref (r m))) (k := Sum.inl v) (by rw [keys_true]; exact inl_mem.mpr hv)
  obtain ⟨y, _, e⟩ := List.mem_map.mp h2
  cases e
  rw [h1] at q
  exact q
theorem tp_2 {n : Nat} (M : Memb n ms) (hn : n ≤ 1000) (B : TBase S0 as ms f aa d) (hin : ∀ m ∈ ms, InOk as ms (f m)) {T : List TE3} {t : Addr} {v p : Int} (eS : Ex S0 S) (j : TJ S H A x tL (T ++ [(t, v, p)])) (g : TGood ms x) (en : TEnt ms f (T ++ [(t, v, p)])) (hp : ∀ e ∈ T, 0 < e.2.2) (hs : (vts (T ++ [(t, v, p)])).Sublist x.stk)
    (k : ∀ m σ H', m < tmu ms f x (T ++ [(t, v, p)]) → TW S0 ms f aa d A z m σ H' → D.nx σ H' ∧ D.ct σ H') : t_tied_parts_2 K E D (sg aa d A z tL (some (.int v)) (some (.int p)) u11 u12) H := by
  have hl := g.len M hn
  have hv : v ∈ x.stk := hs.subset (by rw [vts_snoc]; simp)
  have hvk : v ∈ x.ks := g.sn v (List.mem_append_right _ hv)
  have hvm : v ∈ ms := g.n2 v hvk
  have hpl := en (t, v, p) (by simp)
  obtain ⟨o, r, hd, hr⟩ := (B.up eS).dict
  obtain ⟨xa, ea, iaa⟩ := (B.up eS).arcs
  have exS := j.w.ex
  refine ⟨_, rfl, _, rfl, _, rfl, d, _, rfl, withAt hvm (exS _ _ hd), r v, _, rfl, .inl (.of (exS _ _ (hr v hvm))), _, _, rfl, rfl, _, rfl, iteD (fun c => ?_) (fun c => ?_)⟩
  rotate_left
  · exact tp_1 M hn eS j g en hp hs fun m σ H' h w => (k m σ H' h w).1
  rw [List.length_map] at c
  simp only at hpl
  obtain ⟨y, hy⟩ := some_at (l := f v) (i := p.toNat) (by omega)
  have hyn := (hin v hvm).1 y (List.mem_of_getElem? hy)
  have hyh := (hin v hvm).2.2 y (List.mem_of_getElem? hy)
  obtain ⟨ar, har⟩ := some_at (l := as) (i := y.toNat) (by omega)
  rw [headOf_at har] at hyh
  obtain ⟨ta, rk, hxa, hta⟩ := iaa _ _ har
  -- trail[-1][1] = place + 1
  have hpe : H t = some (.lst [.int v, .int p]) := j.ent (e := (t, v, p)) (by simp)
  refine ⟨_, rfl, p, 1, rfl, rfl, _, rfl, _, rfl, tL, _, _, .ref t, rfl, rfl, .of j.tr, by rw [List.map_append]; exact last_atV, t, _, 1, 1, rfl, rfl, hpe, by rfl, ?_⟩
  have j1 : TJ S (upd H t (.lst [.int v, .int (p + 1)])) A x tL (T ++ [(t, v, p + 1)]) := by
    refine ⟨?_, j.at_⟩
    have w := j.w
    have e1 : fixO A x ++ trO tL (T ++ [(t, v, p)]) = (fixO A x ++ (tL, .lst ((T ++ [(t, v, p)]).map fun e => V.ref e.1)) :: T.map entO) ++ entO (t, v, p) :: [] := by unfold trO; simp
    rw [e1] at w
    have w2 := w.writeM (o' := .lst [.int v, .int (p + 1)])
    have e2 : fixO A x ++ trO tL (T ++ [(t, v, p + 1)]) = (fixO A x ++ (tL, .lst ((T ++ [(t, v, p)]).map fun e => V.ref e.1)) :: T.map entO) ++ (t, HO.lst [.int v, .int (p + 1)]) :: [] := by unfold trO; simp [entO]
    rw [e2]; exact w2
  have exS1 := j1.w.ex
  have hmu : tmu ms f x (T ++ [(t, v, p + 1)]) < tmu ms f x (T ++ [(t, v, p)]) := by
    rw [tmu_snoc, tmu_snoc]
    have h1 := hpl.2.2
    have h2 := hpl.2.1
    omega
  have en1 : TEnt ms f (T ++ [(t, v, p + 1)]) := fun e he => by
    rcases List.mem_append.mp he with he | he
    · exact en e (List.mem_append_left _ he)
    · rw [List.mem_singleton.mp he]; exact ⟨hvm, by show 0 ≤ p + 1; omega, by show p + 1 ≤ ((f v).length : Int); omega⟩
  have hs1 : (vts (T ++ [(t, v, p + 1)])).Sublist x.stk := by rw [vts_snoc]; rw [vts_snoc] at hs; exact hs
  -- other = arcs[within[vertex][place]][1]
  refine ⟨_, rfl, _, rfl, _, rfl, d, _, rfl, withAt hvm (exS1 _ _ hd), _, rfl, r v, _, p, _, rfl, rfl, .of (exS1 _ _ (hr v hvm)), atZ hpl.2.1 hy, aa, xa, y, _, rfl, rfl, .of (exS1 _ _ ea), at_int hyn.1 hxa, ta, _, 1, _, rfl, rfl, .of (exS1 _ _ hta), by rfl, ?_⟩
  have dn := dgI ar.2.1 (j1.w.get 0)
  refine ⟨_, rfl, _, rfl, A.n, _, rfl, dn, _, rfl, ?_⟩
  rw [hasI]
  refine iteND (fun c2 => ?_) (fun c2 => ?_)
  · -- trail.append([other, 0])
    refine ⟨_, rfl, tyL j1.tr, _, rfl, (by show 2 ≤ sizeLine; decide), fun p9 hp9 => ?_⟩
    have j2 := j1.call (Ex.new (o := .lst [.int ar.2.1, .int 0]) hp9)
    have hTl : (T ++ [(t, v, p + 1)]).length ≤ 1000 := by
      have h1 := hs1.length_le
      unfold vts at h1
      rw [List.length_map] at h1
      omega
    refine ⟨tL, _, _, rfl, rfl, j2.tr, szl (by rw [List.length_map]; omega), ?_⟩
    have w3 := (j1.w.newE (o := .lst [.int ar.2.1, .int 0]) hp9).write (o' := .lst ((T ++ [(t, v, p + 1)]).map (fun e => V.ref e.1) ++ [.ref p9])) 5
    have j3 : TJ S (upd (upd (upd H t (.lst [.int v, .int (p + 1)])) p9 (.lst [.int ar.2.1, .int 0])) tL (.lst ((T ++ [(t, v, p + 1)]).map (fun e => V.ref e.1) ++ [.ref p9]))) A x tL ((T ++ [(t, v, p + 1)]) ++ [(p9, ar.2.1, 0)]) := by
      refine ⟨?_, j.at_⟩
      have e2 : fixO A x ++ trO tL ((T ++ [(t, v, p + 1)]) ++ [(p9, ar.2.1, 0)]) = (fixO A x ++ trO tL (T ++ [(t, v, p + 1)]) ++ [(p9, HO.lst [.int ar.2.1, .int 0])]).set 5 (tL, .lst ((T ++ [(t, v, p + 1)]).map (fun e => V.ref e.1) ++ [.ref p9])) := by unfold trO fixO; simp [entO]
      rw [e2]; exact w3
    have hov : ar.2.1 ∉ vts (T ++ [(t, v, p + 1)]) := fun q => c2 (g.sn _ (List.mem_append_right _ (hs1.subset q)))
    have hmu2 : tmu ms f x ((T ++ [(t, v, p + 1)]) ++ [(p9, ar.2.1, 0)]) < tmu ms f x (T ++ [(t, v, p)]) := by
      have h1 : tmu ms f x ((T ++ [(t, v, p + 1)]) ++ [(p9, ar.2.1, 0)]) < tmu ms f x (T ++ [(t, v, p + 1)]) := by
        rw [tmu_snoc]
        unfold tmu
        have q := sum_less (c := tcost f) (ms := ms) (o := ar.2.1) (P := fun u => !decide (u ∈ x.ks) && !decide (u ∈ vts (T ++ [(t, v, p + 1)]))) (P' := fun u => !decide (u ∈ x.ks) && !decide (u ∈ vts (T ++ [(t, v, p + 1)]) ++ [ar.2.1])) hyh (by
          have c2' : ar.2.1 ∉ x.ks := c2
          simp [c2', hov]) (by simp) (fun y hy => by
          simp only [List.mem_append, not_or, Bool.and_eq_true, Bool.not_eq_true', decide_eq_false_iff_not] at hy ⊢
          exact ⟨hy.1, hy.2.1⟩)
        unfold tleft
        have hc : tcost f ar.2.1 = (f ar.2.1).length + 2 := rfl
        rw [hc] at q
        simp only [Int.toNat_zero]
        omega
      omega
    refine (k _ _ _ hmu2 ⟨S, x, tL, _, _, _, _, _, rfl, eS, j3, g, ⟨fun e he => ?_, .inr ⟨_, p9, ar.2.1, 0, rfl, fun e he => ?_, .inl ⟨rfl, c2, hs1⟩⟩⟩, rfl⟩).2
    · rcases List.mem_append.mp he with he | he
      · exact en1 e he
      · rw [List.mem_singleton.mp he]; exact ⟨hyh, Int.le_refl 0, by show (0 : Int) ≤ ((f ar.2.1).length : Int); omega⟩
    · rcases List.mem_append.mp he with he | he
      · exact hp e he
      · rw [List.mem_singleton.mp he]; show 0 < p + 1; omega
  · have fin : ∀ (x' : TPS) (H' : Hp), x'.ks = x.ks → x'.stk = x.stk → TGood ms x' → TJ S H' A x' tL (T ++ [(t, v, p + 1)]) → D.ct (sg aa d A z tL (some (.int v)) (some (.int p)) (some (.int ar.2.1)) u12) H' := by
      intro x' H' ek es g' j'
      refine (k _ _ _ (by have : tmu ms f x' (T ++ [(t, v, p + 1)]) = tmu ms f x (T ++ [(t, v, p + 1)]) := by unfold tmu; rw [ek]
                          rw [← this] at hmu; exact hmu) ⟨S, x', tL, _, _, _, _, _, rfl, eS, j', g', ⟨en1, .inr ⟨T, t, v, p + 1, rfl, hp, .inr ⟨by omega, by rw [es]; exact hs1⟩⟩⟩, rfl⟩).2
    have dw := dgI ar.2.1 (j1.w.get 3)
    refine ⟨_, rfl, _, rfl, A.w, _, rfl, dw, _, rfl, iteB (fun c3 => ?_) (fun c3 => fin x _ rfl rfl g j1)⟩
    obtain ⟨lv, hlv⟩ := valI (l := x.lows) (k := v) (by rw [g.lo]; exact hvk)
    obtain ⟨no, hno⟩ := valI (l := x.nums) (k := ar.2.1) c2
    have d1 := dgI v (j1.w.get 1); rw [hlv] at d1
    have d2 := dgI ar.2.1 (j1.w.get 0); rw [hno] at d2
    obtain ⟨l', e2, e3⟩ := putI_old (l := x.lows) (k := v) (n := if no < lv then no else lv) (by rw [g.lo]; exact hvk)
    refine ⟨_, rfl, _, rfl, A.l, _, rfl, d1, _, rfl, _, rfl, A.n, _, rfl, d2, lv, no, rfl, _, rfl, _, rfl, A.l, _, rfl, DPut.k (k := .inl v) (j1.w.get 1) (szl (by unfold encI; rw [List.length_map]; omega)), ?_⟩
    rw [e2]
    have w5 := j1.w.write (o' := intD l') 1
    exact fin { x with lows := l' } _ rfl rfl ⟨g.n1, g.n2, by show l'.map (·.1) = x.ks; rw [e3]; exact g.lo, g.st, g.sn, g.w1, g.w2, g.pn⟩ ⟨w5, j.at_⟩
/-- a whole turn -/
theorem tp_3 {n : Nat} (M : Memb n ms) (hn : n ≤ 1000) (B : TBase S0 as ms f aa d) (hin : ∀ m ∈ ms, InOk as ms (f m)) {u9 : Option V} {T : List TE3} (hT : T ≠ []) (eS : Ex S0 S) (j : TJ S H A x tL T) (g : TGood ms x) (tk : TrOk ms f x T)
    (k : ∀ m σ H', m < tmu ms f x T → TW S0 ms f aa d A z m σ H' → D.nx σ H' ∧ D.ct σ H') : t_tied_parts_3 K E D (sg aa d A z tL u9 u10 u11 u12) H := by
  obtain ⟨en, h | ⟨T0, t, v, p, rfl, hp, hc⟩⟩ := tk
  · exact absurd h hT
  have hl := g.len M hn
  have hpe : H t = some (.lst [.int v, .int p]) := j.ent (e := (t, v, p)) (by simp)
  refine ⟨_, rfl, _, rfl, tL, _, _, .ref t, rfl, rfl, .of j.tr, by rw [List.map_append]; exact last_atV, t, _, rfl, .of hpe, rfl, _, _, rfl, _, _, rfl, rfl, ?_⟩
  refine ⟨_, rfl, rfl, _, rfl, iteD (fun c => ?_) (fun c => ?_)⟩
  · have c0 : p = 0 := by injection c
    subst c0
    have hvm := (en (t, v, 0) (by simp)).1
    rcases hc with ⟨_, hvn, hs⟩ | ⟨h, _⟩
    rotate_left
    · omega
    have hvn' : v ∉ x.nums.map (·.1) := hvn
    refine ⟨_, rfl, A.n, _, rfl, j.w.get 0, _, rfl, _, rfl, A.n, _, rfl, DPut.k (k := .inl v) (j.w.get 0) (szl (by unfold encI; rw [List.length_map]; omega)), ?_⟩
    rw [putI_new hvn']
    have w1 := j.w.write (o' := intD (x.nums ++ [(v, ((encI x.nums).length : Int))])) 0
    have hvk1 : v ∈ (x.nums ++ [(v, ((encI x.nums).length : Int))]).map (·.1) := by simp
    obtain ⟨nv, hnv⟩ := valI hvk1
    have dn := dgI v (w1.get 0); rw [hnv] at dn
    have hvl : v ∉ x.lows.map (·.1) := by rw [g.lo]; exact hvn
    refine ⟨_, rfl, _, rfl, A.n, _, rfl, dn, _, rfl, _, rfl, A.l, _, rfl, DPut.k (k := .inl v) (w1.get 1) (szl (by unfold encI; rw [List.length_map]; omega)), ?_⟩
    rw [putI_new hvl]
    have w2 := w1.write (o' := intD (x.lows ++ [(v, nv)])) 1
    have g2 := w2.get 2
    refine ⟨_, rfl, tyL g2, _, rfl, A.s, _, _, rfl, rfl, g2, szl (by rw [List.length_map]; omega), ?_⟩
    have w3 := w2.write (o' := lstI (x.stk ++ [v])) 2
    have e3 : HO.lst (x.stk.map .int ++ [.int v]) = lstI (x.stk ++ [v]) := by unfold lstI; rw [List.map_append]; rfl
    rw [e3]
    have hvw : v ∉ x.wt := fun q => hvn (g.sn v (List.mem_append_right _ ((g.w2 v).mp q)))
    refine ⟨_, rfl, _, rfl, A.w, _, rfl, DPut.k (k := .inl v) (w3.get 3) (szl (by rw [List.length_map]; omega)), ?_⟩
    rw [trueD_put hvw]
    have w4 := w3.write (o' := trueD (x.wt ++ [v])) 3
    have hks : (TPS.mk (x.nums ++ [(v, ((encI x.nums).length : Int))]) (x.lows ++ [(v, nv)]) (x.stk ++ [v]) (x.wt ++ [v]) x.ps x.prs).ks = x.ks ++ [v] := by unfold TPS.ks; rw [List.map_append]; rfl
    have hvst : v ∉ x.ps.flatten ++ x.stk := fun q => hvn (g.sn v q)
    have g' : TGood ms ⟨x.nums ++ [(v, ((encI x.nums).length : Int))], x.lows ++ [(v, nv)], x.stk ++ [v], x.wt ++ [v], x.ps, x.prs⟩ := by
      refine ⟨by rw [hks]; exact nd_snoc g.n1 hvn, fun y hy => ?_, by rw [hks]; show (x.lows ++ [(v, nv)]).map (·.1) = _; rw [List.map_append, g.lo]; rfl, by show (x.ps.flatten ++ (x.stk ++ [v])).Nodup; rw [← List.append_assoc]; exact nd_snoc g.st hvst, fun y hy => ?_, nd_snoc g.w1 hvw, fun y => ?_, g.pn⟩
      · rw [hks] at hy
        rcases List.mem_append.mp hy with h | h
        · exact g.n2 y h
        · rw [List.mem_singleton.mp h]; exact hvm
      · rw [hks]
        have hy' : y ∈ x.ps.flatten ++ x.stk ++ [v] := by rw [List.append_assoc]; exact hy
        rcases List.mem_append.mp hy' with h | h
        · exact List.mem_append_left _ (g.sn y h)
        · exact List.mem_append_right _ h
      · show y ∈ x.wt ++ [v] ↔ y ∈ x.stk ++ [v]
        rw [List.mem_append, List.mem_append, g.w2 y]
    have hmu : tmu ms f ⟨x.nums ++ [(v, ((encI x.nums).length : Int))], x.lows ++ [(v, nv)], x.stk ++ [v], x.wt ++ [v], x.ps, x.prs⟩ (T0 ++ [(t, v, 0)]) = tmu ms f x (T0 ++ [(t, v, 0)]) := by
      unfold tmu
      rw [hks, vts_snoc, tleft_congr (ks := x.ks ++ [v]) (vs := vts T0 ++ [v]) (ks' := x.ks) (vs' := vts T0 ++ [v]) (fun u => by
        simp only [List.mem_append, List.mem_singleton]
        constructor
        · rintro ((h | h) | (h | h))
          · exact .inl h
          · exact .inr (.inr h)
          · exact .inr (.inl h)
          · exact .inr (.inr h)
        · rintro (h | h)
          · exact .inl (.inl h)
          · exact .inr h)]
    exact tp_2 M hn B hin (x := ⟨x.nums ++ [(v, ((encI x.nums).length : Int))], x.lows ++ [(v, nv)], x.stk ++ [v], x.wt ++ [v], x.ps, x.prs⟩) (T := T0) (t := t) (v := v) (p := 0) eS ⟨w4, j.at_⟩ g' en hp (by rw [vts_snoc]; exact hs.append_right _) fun m σ H' h w => k m σ H' (by rw [hmu] at h; exact h) w
  · rcases hc with ⟨h, _⟩ | ⟨_, hs⟩
    · exact absurd (by rw [h]) c
    · exact tp_2 M hn B hin eS j g en hp hs k
end
end SF

/-! R89h: the reading of tied_parts, whole. -/
namespace SF
open PySem L2
/-- between two roots -/
def TR (S0 : Hp) (ms : List Int) (aa d : Addr) (A : TAd) (σ : L2.St) (H' : Hp) : Prop := ∃ S x z u8 u9 u10 u11 u12, σ = [some (.ref aa), some (.ref d), some (.ref A.n), some (.ref A.l), some (.ref A.s), some (.ref A.w), some (.ref A.p), z, u8, u9, u10, u11, u12] ∧ Ex S0 S ∧ Owns S H' (fixO A x) ∧ LstsAt S x.prs x.ps ∧ TGood ms x
section
variable {K : Fg} {vs : List V} {H : Hp} {Q : VK} {E : XK}
theorem rd_tied_parts (h : sp_tied_parts K vs H Q E) : t_tied_parts K E { nx := fun _ H' => Q .non H', rt := Q } (start ["arcs", "within", "number", "low", "stack", "waiting", "parts", "root", "trail", "vertex", "place", "other", "before"] vs) H := by
  obtain ⟨n, ws, as, ms, f, va, d, rfl, ha, Va, M, ⟨r, hd, hr⟩, hin, k⟩ := h
  obtain ⟨aa, xa, rfl, ea, la, iaa⟩ := encAs_at ha
  refine fun nD h1 => ?_
  have w1 := (Owns.none H).new (o := .dK []) h1
  refine fun lD h2 => ?_
  have w2 := w1.newE (o := .dK []) h2
  refine ⟨Nat.zero_le _, fun sL h3 => ?_⟩
  have w3 := w2.newE (o := .lst []) h3
  refine fun wD h4 => ?_
  have w4 := w3.newE (o := .dK []) h4
  refine ⟨Nat.zero_le _, fun pL h5 => ?_⟩
  have hpf : H pL = none := w4.ex.free h5
  have w5 := w4.newE (o := .lst []) h5
  generalize hH5 : upd (upd (upd (upd (upd H nD (.dK [])) lD (.dK [])) sL (.lst [])) wD (.dK [])) pL (.lst []) = H5 at w5 ⊢
  have e5 := w5.ex
  have hdn : ∀ q ∈ [(nD, HO.dK []), (lD, HO.dK []), (sL, HO.lst []), (wD, HO.dK []), (pL, HO.lst [])], q.1 ≠ d := fun q hq e => by
    have h0 := w5.off q hq
    rw [e, hd] at h0; cases h0
  refine ⟨d, _, e5 _ _ hd, True.intro, fun od => ?_⟩
  generalize hu : HO.dK (ms.map fun m => ((Sum.inl m : Key), V.ref (r m))) = u at hd ⊢
  obtain ⟨S0, w6, hS0⟩ := Owns.take (H := upd H5 d (.frz od u)) (l := [(nD, HO.dK []), (lD, HO.dK []), (sL, HO.lst []), (wD, HO.dK []), (pL, HO.lst [])]) w5.nd (fun q hq => by rw [upd_ne (hdn q hq)]; exact w5.here q hq)
  have toS : ∀ b o, b ≠ d → H b = some o → S0 b = some o := fun b o hb ho => hS0 b o (by rw [upd_ne hb]; exact e5 _ _ ho) (fun q hq e => by have h0 := w5.off q hq; rw [e, ho] at h0; cases h0)
  have dS : S0 d = some (.frz od u) := hS0 d _ upd_same hdn
  have nlst : ∀ b xs, H b = some (.lst xs) → b ≠ d := fun b xs hb e => by rw [e, hd, ← hu] at hb; cases hb
  have ntup : ∀ b xs, H b = some (.tup xs) → b ≠ d := fun b xs hb e => by rw [e, hd, ← hu] at hb; cases hb
  have B : TBase S0 as ms f aa d := ⟨⟨xa, toS _ _ (nlst _ _ ea) ea, fun i c hc => by
      obtain ⟨t, rk, k1, k2, _⟩ := iaa i c hc
      exact ⟨t, rk, k1, toS _ _ (ntup _ _ k2) k2⟩⟩, od, r, by rw [hu]; exact dS, fun m hm => toS _ _ (nlst _ _ (hr m hm)) (hr m hm)⟩
  have A : TAd := ⟨nD, lD, sL, wD, pL⟩
  refine ⟨_, rfl, d, od, rfl, .inl ⟨ms.map fun m => (Sum.inl m, V.ref (r m)), by rw [hu]; exact upd_same, ?_⟩⟩
  refine for_it (walk_keys (d := d) (o := od) (kvs := ms.map fun m => (Sum.inl m, V.ref (r m)))) (fun i => TR S0 ms aa d ⟨nD, lD, sL, wD, pL⟩)
    ⟨S0, ⟨[], [], [], [], [], []⟩, _, _, _, _, _, _, rfl, Ex.refl _, w6, ⟨rfl, fun i r l h => by simp at h⟩, ⟨List.nodup_nil, fun k h => by simp [TPS.ks] at h, rfl, List.nodup_nil, fun k h => by simp at h, List.nodup_nil, fun k => Iff.rfl, fun p h => by simp at h⟩⟩ (fun i σ H' _ ⟨S, x, _, _, _, _, _, _, _, eS, w, _⟩ => by rw [hu]; exact w.ex _ _ (eS _ _ dS)) ?_ ?_
  · rintro i xk σ H1 H1' hi ⟨S, x, z, u8, u9, u10, u11, u12, rfl, eS, w, hat, g⟩ ⟨rfl, key, v0, hkv, rfl⟩
    rw [List.getElem?_map] at hkv
    obtain ⟨m, hm, ekv⟩ := Option.map_eq_some_iff.mp hkv
    cases ekv
    have hmm := List.mem_of_getElem? hm
    have dn := dgI m (w.get 0)
    -- the while
    have loop : ∀ tL T H2, Ex H1' H2 → Owns S H2 (fixO ⟨nD, lD, sL, wD, pL⟩ x ++ trO tL T) → TrOk ms f x T →
        tWhile (e_tied_parts_25 K E) (t_tied_parts_3 K E) { nx := TR S0 ms aa d ⟨nD, lD, sL, wD, pL⟩, rt := fun v H' => H' d = some (.frz od u) ∧ Q v (upd H' d u), ct := TR S0 ms aa d ⟨nD, lD, sL, wD, pL⟩, bk := fun σ' H' => H' d = some (.frz od u) ∧ tRet (fun σ H Q => ∃ v66, σ[6]? = some (some v66) ∧ Q v66 H) { nx := fun _ H' => Q .non H', rt := Q } σ' (upd H' d u) }
          (sg aa d ⟨nD, lD, sL, wD, pL⟩ (some (.int m)) tL u9 u10 u11 u12) H2 := by
      intro tL T H2 e2 w2 tk
      refine ⟨TW S0 ms f aa d ⟨nD, lD, sL, wD, pL⟩ (some (.int m)), ⟨_, S, x, tL, T, _, _, _, _, rfl, eS, ⟨w2, hat⟩, g, tk, rfl⟩, ?_⟩
      rintro m' σ H3 ⟨S3, x3, tL3, T3, u9, u10, u11, u12, rfl, eS3, j3, g3, tk3, rfl⟩
      refine ⟨_, rfl, Nat.zero_le _, fun p11 hp11 => neNil j3.rp (shaped_tr T3) hp11 ⟨_, rfl, ?_⟩⟩
      have j4 := j3.call (Ex.new (o := .lst []) hp11)
      by_cases hT : T3 = []
      · subst hT
        refine iteF ⟨S3, x3, _, _, _, _, _, _, rfl, eS3, j4.w.sub (List.sublist_append_left ..), j3.at_, g3⟩
      · have en : (T3.map encT).isEmpty = false := by cases T3 with | nil => exact absurd rfl hT | cons _ _ => rfl
        rw [en]
        exact go_on (tp_3 M Va.most B hin hT eS3 j4 g3 tk3 fun m'' σ' H' h w => ⟨⟨m'', h, w⟩, ⟨m'', h, w⟩⟩)
    refine ⟨_, rfl, _, rfl, nD, _, rfl, dn, _, rfl, ?_⟩
    rw [hasI]
    refine iteD (fun c => ?_) (fun c => ?_)
    · refine ⟨Nat.zero_le _, fun p6 hp6 => loop p6 [] _ (Ex.new hp6) ?_ ⟨(fun e he => by cases he), .inl rfl⟩⟩
      exact w.newE hp6
    · refine ⟨_, rfl, (by show 2 ≤ sizeLine; decide), fun p8 hp8 => ⟨(by show 1 ≤ sizeLine; decide), fun p7 hp7 => loop p7 [(p8, m, 0)] _ ((Ex.new hp8).trans (Ex.new hp7)) ?_ ⟨fun e he => ?_, .inr ⟨[], p8, m, 0, rfl, (fun e he => by cases he), .inl ⟨rfl, c, List.nil_sublist _⟩⟩⟩⟩⟩
      · have w7 := (w.newE (o := .lst [.int m, .int 0]) hp8).newE (o := .lst [.ref p8]) hp7
        refine w7.perm ?_
        unfold trO fixO
        simp only [List.map_cons, List.map_nil, List.cons_append, List.nil_append, entO]
        repeat refine List.Perm.cons _ ?_
        exact List.Perm.swap ..
      · rw [List.mem_singleton.mp he]; exact ⟨hmm, Int.le_refl 0, by show (0 : Int) ≤ ((f m).length : Int); omega⟩
  · rintro σ H1 ⟨S, x, z, u8, u9, u10, u11, u12, rfl, eS, w, hat, g⟩
    have hfin := w.ex _ _ (eS _ _ dS)
    refine ⟨hfin, _, rfl, ?_⟩
    have wl := w.get 4
    have eF : Ex H (upd H1 d u) := fun b o hb => by
      by_cases e : b = d
      · subst e; rw [upd_same]; rw [hd] at hb; exact hb
      · rw [upd_ne e]; exact w.ex _ _ (eS _ _ (toS b o e hb))
    have npd : pL ≠ d := hdn (pL, .lst []) (by simp)
    refine k _ _ x.ps eF hpf (.lst (by rw [upd_ne npd]; exact wl) (LstsAt.rps ⟨hat.1, fun i a l h1 h2 => ?_⟩)) ⟨(List.nodup_append.mp g.st).1, fun p hp => ⟨g.pn p hp, fun y hy => g.n2 y (g.sn y (List.mem_append_left _ (List.mem_flatten_of_mem hp hy)))⟩⟩
    have hS := hat.2 i a l h1 h2
    have hne : a ≠ d := fun e => by rw [e, eS _ _ dS] at hS; cases hS
    rw [upd_ne hne]
    exact w.ex _ _ hS
end
end SF

/-! R89i: a right graph has no fault; the readings of tour_fault, no_lot_fault, is_fair_lot, fair_tour. -/
namespace SF
open PySem L2
theorem keys_encL (l : List Int) : isKeysD (encL l) = true := by
  unfold isKeysD encL
  simp only [isSeqD, itemsD, Bool.true_and, List.all_map]
  exact List.all_eq_true.mpr fun x _ => rfl
theorem arc_encA {n : Int} {a : Arc} (h : (0 ≤ a.1 ∧ a.1 < n) ∧ (0 ≤ a.2.1 ∧ a.2.1 < n)) : isArcD (n - 1) (encA a) = true := by
  unfold isArcD encA
  simp only [isSeqD, itemsD, Bool.true_and, isWholeD, keys_encL, Bool.and_true]
  have h1 := h.1; have h2 := h.2
  rw [decide_eq_true h1.1, decide_eq_true h2.1, decide_eq_true (by omega : a.1 ≤ n - 1), decide_eq_true (by omega : a.2.1 ≤ n - 1)]
  rfl
theorem noFault {n : Nat} {ws : List (List Int)} {as : List Arc} (V : Valid n ws as) : gFault (encLL ws) (encAs as) = none := by
  have h0 : isSeqD (encLL ws) = true := rfl
  have h1 : isSeqD (encAs as) = true := rfl
  have hl : (itemsD (encLL ws)).length = n := by show (ws.map encL).length = n; rw [List.length_map, V.len]
  have hm := V.most
  unfold gFault
  rw [h0, hl, h1, decide_eq_false (by omega)]
  have f1 : firstNot isKeysD (itemsD (encLL ws)) = none := firstNot_all.mpr fun d hd => by
    obtain ⟨l, _, rfl⟩ := List.mem_map.mp (show d ∈ ws.map encL from hd)
    exact keys_encL l
  have f2 : firstNot (isArcD ((n : Int) - 1)) (itemsD (encAs as)) = none := firstNot_all.mpr fun d hd => by
    obtain ⟨a, ha, rfl⟩ := List.mem_map.mp (show d ∈ as.map encA from hd)
    exact arc_encA (V.ends a ha)
  rw [f1]
  simp only [Bool.not_true, Bool.or_self, Bool.false_eq_true, if_false]
  rw [f2]
section
variable {K : Fg} {vs : List V} {H : Hp} {Q : VK} {E : XK}
/-- check_graph asked of a wrong graph, of a right one -/
theorem ck_bad {dw da : PyData} {vw va : V} {p : Str × Int} (hw : Rp H dw vw) (ha : Rp H da va) (hl : (itemsD da).length < 2 ^ 62) (hp : gFault dw da = some p) (b : Bad K H E p) : sp_check_graph K [vw, va] H Q E :=
  ⟨dw, da, vw, va, rfl, hw, ha, hl, by rw [hp]; exact b⟩
theorem ck_ok {n : Nat} {ws : List (List Int)} {as : List Arc} {vw va : V} (hw : Rp H (encLL ws) vw) (ha : Rp H (encAs as) va) (V : Valid n ws as) (k : ∀ H', Ex H H' → Q .non H') : sp_check_graph K [vw, va] H Q E :=
  ⟨_, _, vw, va, rfl, hw, ha, by show (as.map encA).length < 2 ^ 62; rw [List.length_map]; have := V.arcs; omega, by rw [noFault V]; exact k⟩
theorem wh_zero {H' : Hp} {n : Nat} (h : 0 < n) {Q : VK} (q : ∀ H2, Ex H' H2 → Q (.bl true) H2) : sp_is_whole [.int 0, .int 0, .int ((n : Int) - 1)] H' Q E0 :=
  ⟨.int 0, .int 0, some 0, some ((n : Int) - 1), rfl, .int 0, fun H2 e => by
    have : isWholeD (some 0) (some ((n : Int) - 1)) (.int 0) = true := by
      simp only [isWholeD]
      rw [decide_eq_true (by omega : (0 : Int) ≤ (n : Int) - 1)]; rfl
    rw [this]; exact q H2 e⟩
theorem rd_tour_fault (h : sp_tour_fault K vs H Q E) : t_tour_fault K E { nx := fun _ H' => Q .non H', rt := Q } (start ["wants", "arcs", "vertex", "tour", "number", "place", "passed", "given", "key"] vs) H := by
  obtain ⟨dw, da, vw, va, ms, rfl, hw, ha, hl, hms, h⟩ := h
  rcases h with ⟨p, hp, b⟩ | ⟨n, ws, as, rfl, rfl, h0, h50, h200, Va, ⟨a, rfl, hA⟩, k⟩
  · match ms, hms with
    | [m1, m2], _ => exact ⟨_, rfl, _, rfl, ck_bad hw ha hl hp b⟩
  · refine ⟨_, rfl, _, rfl, ck_ok hw ha Va fun H1 e1 => ?_⟩
    refine ⟨_, rfl, .tuple [], _, rfl, .tup (e1 _ _ hA) .nil, fun H2 e2 => ⟨_, rfl, ifNF rfl ?_⟩⟩
    have e12 := e1.trans e2
    obtain ⟨aw, xw, rfl, ew, lw, iw⟩ := encLL_at hw
    refine ⟨_, rfl, a, rfl, ⟨[], .of (e12 _ _ hA)⟩, for_tup (K := K) (a := a) (xs := []) (fun i σ H' => Ex H H' ∧ ∃ u1 u2 u3 u4 u5, σ = [some (.ref aw), some va, some (.int 0), some (.ref a), u1, u2, u3, u4, u5]) ⟨e12, _, _, _, _, _, rfl⟩ (fun i σ H' _ p => .of (p.1 _ _ hA)) (fun i x σ H' hx _ => by simp at hx) ?_⟩
    rintro σ H3 ⟨e3, u1, u2, u3, u4, u5, rfl⟩
    refine ⟨_, rfl, _, rfl, (by show 1 ≤ sizeLine; decide), fun pp hpp => fun pg hpg => ?_⟩
    have w := ((Owns.none H).call e3)
    have w1 := (w.new (o := .lst [.int 0]) hpp).new (o := .dK []) hpg
    refine ⟨_, rfl, a, rfl, ⟨[], .of (w1.ex _ _ hA)⟩, for_tup (K := K) (a := a) (xs := []) (fun i σ H' => Owns H H' [(pg, .dK []), (pp, .lst [.int 0])] ∧ ∃ u1 u5, σ = [some (.ref aw), some va, some (.int 0), some (.ref a), u1, some (.int 0), some (.ref pp), some (.ref pg), u5]) ⟨w1, _, _, rfl⟩ (fun i σ H' _ p => .of (p.1.ex _ _ hA)) (fun i x σ H' hx _ => by simp at hx) ?_⟩
    rintro σ H4 ⟨w4, u1, u5, rfl⟩
    refine ⟨_, rfl, _, rfl, rfl, _, rfl, ifF (by simp) ?_⟩
    refine ⟨_, rfl, pp, rfl, ⟨_, .of (w4.get 1)⟩, for_list (K := K) (a := pp) (xs := [.int 0]) (fun i σ H' => Owns H H' [(pg, .dK []), (pp, .lst [.int 0])] ∧ ∃ u1 u2 u5, σ = [some (.ref aw), some va, some (.int 0), some (.ref a), u1, u2, some (.ref pp), some (.ref pg), u5]) ⟨w4, _, _, _, rfl⟩ (fun i σ H' _ p => .of (p.1.get 1)) ?_ ?_⟩
    · rintro i x σ H5 hx ⟨w5, u1, u2, u5, rfl⟩
      obtain ⟨z, hz, rfl⟩ := int_item (ns := [0]) hx
      have hz0 : z = 0 := by have := List.mem_of_getElem? hz; simpa using this
      subst hz0
      refine ⟨_, rfl, _, rfl, _, rfl, ws, _, 0, pg, [], rfl, hw.up w5.ex, ⟨Int.le_refl 0, by have := Va.len; omega⟩, w5.get 0, fun H6 bb e6 => ⟨bb, rfl, iteN (fun _ => k _ _ (w5.ex.trans e6)) (fun _ => ⟨w5.call e6, _, _, _, rfl⟩)⟩⟩
    · rintro σ H5 ⟨w5, u1, u2, u5, rfl⟩
      exact k _ _ w5.ex
theorem rd_no_lot_fault (h : sp_no_lot_fault K vs H Q E) : t_no_lot_fault K E { nx := fun _ H' => Q .non H', rt := Q } (start ["wants", "arcs", "steps", "leaving", "parts", "place", "step", "fault", "part", "lower", "vertex"] vs) H := by
  obtain ⟨dw, da, vw, va, ms, rfl, hw, ha, hl, hms, h⟩ := h
  rcases h with ⟨p, hp, b⟩ | ⟨n, ws, as, rfl, rfl, h0, h50, h200, Va, ⟨a, rfl, hA⟩, k⟩
  · match ms, hms with
    | [m1], _ => exact ⟨_, rfl, _, rfl, ck_bad hw ha hl hp b⟩
  · refine ⟨_, rfl, _, rfl, ck_ok hw ha Va fun H1 e1 => ?_⟩
    refine ⟨_, rfl, .tuple [], _, rfl, .tup (e1 _ _ hA) .nil, fun H2 e2 => ⟨_, rfl, ifNF rfl ?_⟩⟩
    have e12 := e1.trans e2
    obtain ⟨aw, xw, rfl, ew, lw, iw⟩ := encLL_at hw
    refine ⟨_, rfl, _, rfl, n, ws, as, _, _, rfl, hw.up e12, ha.up e12, Va, fun H3 vl ls e3 hls L => ?_⟩
    have e13 := e12.trans e3
    have hn : xw.length = n := by rw [lw, Va.len]
    refine ⟨_, rfl, aw, xw, rfl, .inl (.of (e13 _ _ ew)), _, rfl, RgOk.of_le (Int.le_refl 0) (by omega) (by omega) (by omega), fun p3 hp3 => ⟨(by show 1 ≤ sizeLine; decide), fun p2 hp2 => ?_⟩⟩
    have w := ((Owns.none H).call e13)
    have w1 := (w.new (o := .lst (rgV 0 (xw.length : Int))) hp3).new (o := .lst [.ref p3]) hp2
    refine ⟨_, rfl, a, [], rfl, .inr (.of (w1.ex _ _ hA)), _, rfl, (by decide), (by decide), ?_⟩
    refine for_range (lo := 0) (n := 0) (fun i σ H' => Owns H H' [(p2, .lst [.ref p3]), (p3, .lst (rgV 0 (xw.length : Int)))] ∧ ∃ u1 u2 u3 u4 u5 u6, σ = [some (.ref aw), some va, some (.ref a), some vl, some (.ref p2), u1, u2, u3, u4, u5, u6]) ⟨w1, _, _, _, _, _, _, rfl⟩ (fun i σ H' hi _ => absurd hi (Nat.not_lt_zero i)) ?_
    rintro σ H4 ⟨w4, u1, u2, u3, u4, u5, u6, rfl⟩
    refine ⟨_, rfl, p2, rfl, ⟨_, .of (w4.get 0)⟩, for_list (K := K) (a := p2) (xs := [.ref p3]) (fun i σ H' => Owns H H' [(p2, .lst [.ref p3]), (p3, .lst (rgV 0 (xw.length : Int)))] ∧ ∃ u1 u2 u3 u4 u5 u6, σ = [some (.ref aw), some va, some (.ref a), some vl, some (.ref p2), u1, u2, u3, u4, u5, u6]) ⟨w4, _, _, _, _, _, _, rfl⟩ (fun i σ H' _ p => .of (p.1.get 0)) ?_ ?_⟩
    · rintro i x σ H5 hx ⟨w5, u1, u2, u3, u4, u5, u6, rfl⟩
      have hx3 : x = .ref p3 := by have := List.mem_of_getElem? hx; simpa using this
      subst hx3
      have er : rgV 0 (xw.length : Int) = ((List.range (xw.length : Int).toNat).map fun i : Nat => ((i : Nat) : Int)).map V.int := by
        unfold rgV
        rw [List.map_map]
        simp
      have g3 := w5.get 1
      rw [er] at g3
      refine ⟨_, rfl, Nat.zero_le _, fun p5 hp5 => neNil (rp_ints g3) (shaped_ints _) hp5 ⟨_, rfl, iteN (fun _ => ?_) (fun _ => ⟨w5.call (Ex.new hp5), _, _, _, _, _, _, rfl⟩)⟩⟩
      have w6 := w5.call (Ex.new (o := .lst []) hp5)
      exact ⟨_, rfl, a, [], rfl, .inr (.of (w6.ex _ _ hA)), (by show 2 ≤ sizeLine; decide), fun p4 hp4 => k _ _ (w6.ex.trans (Ex.new hp4))⟩
    · rintro σ H5 ⟨w5, u1, u2, u3, u4, u5, u6, rfl⟩
      exact k _ _ w5.ex
theorem rd_fair_tour (h : sp_fair_tour K vs H Q E) : t_fair_tour K E { nx := fun _ H' => Q .non H', rt := Q } (start ["wants", "arcs", "lot", "vertex", "within", "tour", "given", "place", "key", "came", "gift", "number", "told", "member"] vs) H := by
  obtain ⟨dw, da, vw, va, p, rfl, hw, ha, hl, hp, b⟩ := h
  exact ⟨_, rfl, _, rfl, _, rfl, dw, da, vw, va, [.non], rfl, hw, ha, hl, rfl, .inl ⟨p, hp, b⟩⟩
end
end SF

/-! R89j: the reading of is_fair_lot. -/
namespace SF
open PySem L2
theorem memb_zero {n : Nat} (h : 0 < n) : Memb n [0] := ⟨by simp, fun m hm => by rw [List.mem_singleton.mp hm]; omega⟩
section
variable {K : Fg} {vs : List V} {H : Hp} {Q : VK} {E : XK}
/-- the parts of some members, as each caller asks for them -/
theorem parts_of {n : Nat} {ws : List (List Int)} {as : List Arc} {ls : List (List Int)} {ms : List Int} {va vl vm : V} (ha : Rp H (encAs as) va) (hl : Rp H (encLL ls) vl) (hm : Rp H (encL ms) vm) (V : Valid n ws as) (L : Leav as n ls) (M : Memb n ms)
    (q : ∀ H' a ps, Ex H H' → H a = none → Rp H' (encLL ps) (.ref a) → PartsOk ms ps → Q (.ref a) H') : sp_arcs_within K [va, vl, vm] H (fun x H1 => sp_tied_parts K [va, x] H1 Q E0) E :=
  ⟨n, ws, as, ls, ms, va, vl, vm, rfl, ha, hl, hm, V, L, M, fun H1 d f e1 hd hf hin => ⟨n, ws, as, ms, f, va, d, rfl, ha.up e1, V, M, hf, hin, fun H' a ps e2 hn hv hp => q H' a ps (e1.trans e2) (e1.free hn) hv hp⟩⟩
theorem rd_is_fair_lot (h : sp_is_fair_lot K vs H Q E) : t_is_fair_lot K E { nx := fun _ H' => Q .non H', rt := Q } (start ["wants", "arcs", "lot", "seen", "vertex", "leaving", "members", "given"] vs) H := by
  obtain ⟨dw, da, vw, va, ms, rfl, hw, ha, hl, hms, h⟩ := h
  rcases h with ⟨p, hp, b⟩ | ⟨n, ws, as, rfl, rfl, h0, h50, h200, Va, ⟨a, rfl, hA⟩, k⟩
  · match ms, hms with
    | [m1], _ => exact ⟨_, rfl, _, rfl, ck_bad hw ha hl hp b⟩
  · refine ⟨_, rfl, _, rfl, ck_ok hw ha Va fun H1 e1 => ?_⟩
    refine ⟨_, rfl, .tuple [.int 0], _, rfl, .tup (e1 _ _ hA) (.cons (.int 0) .nil), fun H2 e2 => ⟨_, rfl, ifNF rfl ⟨_, rfl, a, [.int 0], rfl, .inr (.of ((e1.trans e2) _ _ hA)), rfl, _, rfl, ifF (by simp) ?_⟩⟩⟩
    have e12 := e1.trans e2
    obtain ⟨aw, xw, rfl, ew, lw, iw⟩ := encLL_at hw
    have hn : xw.length = n := by rw [lw, Va.len]
    refine fun D hD => ?_
    have w0 := ((Owns.none H).call e12).new (o := .dK []) hD
    refine ⟨_, rfl, a, rfl, ⟨[.int 0], .of (w0.ex _ _ hA)⟩, for_tup (K := K) (a := a) (xs := [.int 0]) (fun i σ H' => (∃ kvs, Owns H H' [(D, .dK kvs)] ∧ ((i = 0 ∧ kvs = []) ∨ i = 1)) ∧ ∃ u1 u2 u3 u4, σ = [some (.ref aw), some va, some (.ref a), some (.ref D), u1, u2, u3, u4]) ⟨⟨[], w0, .inl ⟨rfl, rfl⟩⟩, _, _, _, _, rfl⟩ (fun i σ H' _ ⟨⟨_, w, _⟩, _⟩ => .of (w.ex _ _ hA)) ?_ ?_⟩
    · rintro i x σ H3 hx ⟨⟨kvs, w, hk⟩, u1, u2, u3, u4, rfl⟩
      have hi : i = 0 := by have := (List.getElem?_eq_some_iff.mp hx).1; simp at this; omega
      have hx0 : x = .int 0 := by have := List.mem_of_getElem? hx; simpa using this
      subst hx0 hi
      have hk0 : kvs = [] := by rcases hk with ⟨_, e⟩ | e; exact e; cases e
      subst hk0
      refine ⟨_, rfl, _, rfl, aw, xw, rfl, .inl (.of (w.ex _ _ ew)), _, _, rfl, rfl, wh_zero (by omega) fun H4 e4 => ⟨_, rfl, ifNF rfl ⟨_, rfl, _, rfl, D, _, rfl, dgI 0 ((w.call e4).get 0), _, rfl, ifF rfl ?_⟩⟩⟩
      have w4 := w.call e4
      exact ⟨_, rfl, _, rfl, D, _, rfl, DPut.k (k := .inl 0) (w4.get 0) (by show 0 < sizeLine; decide), ⟨_, w4.write 0, .inr rfl⟩, _, _, _, _, rfl⟩
    · rintro σ H3 ⟨⟨kvs, w3, hk⟩, u1, u2, u3, u4, rfl⟩
      refine ⟨_, rfl, _, rfl, n, ws, as, _, va, rfl, hw.up w3.ex, ha.up w3.ex, Va, fun H4 vl ls e4 hls L => ?_⟩
      have e04 := w3.ex.trans e4
      refine ⟨_, rfl, a, _, rfl, .inr (.of (e04 _ _ hA)), fun l hl => ⟨l, [0], rfl, .of (by rw [upd_same]; rfl), fun ns' p hp1 _ hp => ?_⟩⟩
      have hns : ns' = [0] := List.perm_singleton.mp hp1
      subst hns
      have e5 : Ex H4 (upd (upd H4 l (.lst [.int 0])) p (.lst ([0].map .int))) := (Ex.new hl).trans (Ex.new hp)
      have e05 := e04.trans e5
      have M := memb_zero h0
      have hm : Rp (upd (upd H4 l (.lst [.int 0])) p (.lst ([0].map .int))) (encL [0]) (.ref p) := rp_ints upd_same
      refine ⟨_, rfl, _, rfl, _, rfl, _, rfl, parts_of (ha.up e05) (hls.up e5) hm Va L M fun H6 ap ps e6 _ hps hpo => ?_⟩
      obtain ⟨ap', xp, eap, ep, lp, _⟩ := encLL_at hps
      cases eap
      have e06 := e05.trans e6
      refine ⟨ap, xp, rfl, .inl (.of ep), rfl, _, rfl, iteB (fun _ => k _ _ e06) fun _ => ?_⟩
      refine ⟨_, rfl, _, rfl, _, rfl, n, ws, as, ls, [0], va, vl, .ref p, rfl, ha.up e06, hls.up (e5.trans e6), hm.up e6, Va, L, M, fun H7 g gk e7 hg => ?_⟩
      have e07 := e06.trans e7
      obtain ⟨am, eam, em⟩ := encL_at (hm.up (e6.trans e7))
      cases eam
      refine ⟨_, rfl, p, rfl, ⟨_, .of em⟩, fun C hC => lc_list (K := K) (a := p) (xs := [0].map .int) (fun j H' => ∃ acc, j ≤ 1 ∧ acc.length ≤ j ∧ Owns H7 H' [(C, lstI acc)]) ⟨[], by omega, by simp, (Owns.none H7).new hC⟩ (fun j H' _ ⟨_, _, _, w⟩ => .of (w.ex _ _ em)) ?_ ?_⟩
      · rintro j y H8 hy ⟨acc, hj, hacc, w8⟩
        have hj0 : j = 0 := by have := (List.getElem?_eq_some_iff.mp hy).1; simp at this; omega
        obtain ⟨z, hz, rfl⟩ := int_item hy
        have hz0 : z = 0 := by have := List.mem_of_getElem? hz; simpa using this
        subst hz0 hj0
        refine ⟨rfl, _, rfl, _, rfl, _, rfl, ws, _, 0, g, gk, rfl, hw.up (e07.trans w8.ex), ⟨Int.le_refl 0, by have := Va.len; omega⟩, w8.ex _ _ hg, fun H9 bb e9 => ⟨bb, rfl, iteN (fun _ => ?_) (fun _ => ⟨acc, by omega, by omega, w8.call e9⟩)⟩⟩
        have w9 := w8.call e9
        refine ⟨_, rfl, _, w9.get 0, szl (by rw [List.length_map]; omega), acc ++ [0], by decide, by rw [List.length_append]; show acc.length + 1 ≤ 0 + 1; omega, ?_⟩
        have := w9.write (o' := .lst (acc.map .int ++ [.int 0])) 0
        unfold lstI
        rw [List.map_append]
        exact this
      · rintro H8 ⟨acc, _, _, w8⟩
        exact ⟨Nat.zero_le _, fun p2 hp2 => eqNil (rp_ints (w8.get 0)) (shaped_ints _) hp2 (k _ _ (e07.trans (w8.ex.trans (Ex.new hp2))))⟩
end
end SF


namespace SF
open PySem L2
section
variable {P : Program} {w : World} {K : Fg} {mg : Str → Option Value} {base : Heap}
abbrev s_leaving_arcs : Stmt := top 12
theorem sc_leaving_arcs : FnScope ["wants", "arcs", "leaving", "number", "_"] ["wants", "arcs"] (defScope s_leaving_arcs) := ⟨rfl, rfl, rfl, by decide +kernel, rfl, by decide +kernel, by decide +kernel⟩
theorem ok_leaving_arcs (T : Txt K mg) {fd : FuncData} (F : FunD K "leaving_arcs" "leaving_arcs" (defArgs s_leaving_arcs) (defBody s_leaving_arcs) (defScope s_leaving_arcs) [] [] (ga K "leaving_arcs") fd)  : FnOk P w K mg base (L2.CX P w) 1 (ga K "leaving_arcs") fd ["wants", "arcs"] (sp_leaving_arcs K) := by
  refine F.ok sc_leaving_arcs (fun vs H Q E h => len_leaving_arcs h) (fun cdv A outer s H vs Q E hr h => ?_)
  have hu := hu_of hr
  have nd := sc_leaving_arcs.nd
  refine ⟨_, pss_cons (ps_setLc (i := 2) (own := [("_", 4)]) (g := (gName 4)) (tt := tYes) rfl nd rfl rfl (sw_true rfl rfl rfl (by decide +kernel)) (pi_list (pv 0)) (blkOk_by (by rfl)) (fun _ _ _ _ _ => pg_name (i := 4) nd rfl (Or.inl rfl)) (fun _ _ _ _ _ => pts_nil) (fun _ _ _ _ _ => (pe_lst pa_nil)))
    (pss_cons (ps_for (passes_of rfl) rfl (pi_range1 (by rfl) T.b_range (pa_cons (pe_callB call_len_seq (by rfl) T.b_len (by decide +kernel) (pa_cons (pv 1) pa_nil)) pa_nil)) (pg_name (i := 3) nd rfl (Or.inl rfl))
      (pss_one (ps_expr (pe_bm PySem.F.plainAttrs_list PySem.F.slot_list_append PySem.F.type_list_append mt_append (pe_ix ix_list (pv 2) (pe_ix ix_tup (pe_ix ix_list (pv 1) (pv 3) (fun _ _ => rfl)) (pe_int) (fun _ _ => rfl)) (fun _ _ => rfl)) (pa_cons (pv 3) pa_nil)))))
    (pss_one (ps_ret (pv 2)))), ?_⟩
  exact rd_leaving_arcs h

abbrev s_arcs_within : Stmt := top 13
theorem sc_arcs_within : FnScope ["arcs", "leaving", "members", "inside", "vertex", "number"] ["arcs", "leaving", "members"] (defScope s_arcs_within) := ⟨rfl, rfl, rfl, by decide +kernel, rfl, by decide +kernel, by decide +kernel⟩
theorem ok_arcs_within (T : Txt K mg) {fd : FuncData} (F : FunD K "arcs_within" "arcs_within" (defArgs s_arcs_within) (defBody s_arcs_within) (defScope s_arcs_within) [] [] (ga K "arcs_within") fd)  : FnOk P w K mg base (L2.CX P w) 1 (ga K "arcs_within") fd ["arcs", "leaving", "members"] (sp_arcs_within K) := by
  refine F.ok sc_arcs_within (fun vs H Q E h => len_arcs_within h) (fun cdv A outer s H vs Q E hr h => ?_)
  have hu := hu_of hr
  have nd := sc_arcs_within.nd
  refine ⟨_, pss_cons (ps_set (i := 3) nd rfl (Or.inr rfl) (pe_dc (own := [("vertex", 4)]) (g := (gName 4)) (tt := tYes) rfl nd (pi_list (pv 2)) (blkOk_by (by rfl)) (fun _ _ _ _ _ => pg_name (i := 4) nd rfl (Or.inl rfl)) (fun _ _ _ _ _ => pts_nil) (fun _ _ _ _ _ => (pv 4)) (fun _ _ _ _ _ => (pe_bl))))
    (pss_one (ps_ret (pe_dc (own := [("vertex", 4)]) (g := (gName 4)) (tt := tYes) rfl nd (pi_list (pv 2)) (blkOk_by (by rfl)) (fun _ _ _ _ _ => pg_name (i := 4) nd rfl (Or.inl rfl)) (fun _ _ _ _ _ => pts_nil) (fun _ _ _ _ _ => (pv 4)) (fun _ _ _ _ _ => ((pe_lc (own := [("number", 5)]) (wi := (fun σ H R => ∃ v4, σ[1]? = some (some v4) ∧ ∃ v5, σ[4]? = some (some v5) ∧ rIxL K v4 v5 H (fun x1 h1 => ∃ a, x1 = .ref a ∧ (∃ xs, SqL K h1 a xs) ∧ R (Itl K a) h1))) (g := (gName 5)) (tt := (e_arcs_within_3 K E)) (te := (e_arcs_within_4 K E)) rfl nd (pi_list (pe_ix ix_list (pv 1) (pv 4) (fun _ _ => rfl))) (blkOk_by (by rfl)) (fun _ _ _ _ _ => pg_name (i := 5) nd rfl (Or.inl rfl)) (fun _ _ _ _ _ => (pts_one (pt_cmp (pc_din hu (pe_ix ix_tup (pe_ix ix_list (pv 0) (pv 5) (fun _ _ => rfl)) (pe_int) (fun _ _ => rfl)) (pv 3))))) (fun _ _ _ _ _ => (pv 5)))))))), ?_⟩
  exact rd_arcs_within h

abbrev s_take_part : Stmt := top 14
theorem sc_take_part : FnScope ["stack", "waiting", "vertex", "part", "other"] ["stack", "waiting", "vertex"] (defScope s_take_part) := ⟨rfl, rfl, rfl, by decide +kernel, rfl, by decide +kernel, by decide +kernel⟩
theorem ok_take_part (T : Txt K mg) {fd : FuncData} (F : FunD K "take_part" "take_part" (defArgs s_take_part) (defBody s_take_part) (defScope s_take_part) [] [] (ga K "take_part") fd)  : FnOk P w K mg base (L2.CX P w) 1 (ga K "take_part") fd ["stack", "waiting", "vertex"] (sp_take_part K) := by
  refine F.ok sc_take_part (fun vs H Q E h => len_take_part h) (fun cdv A outer s H vs Q E hr h => ?_)
  have hu := hu_of hr
  have nd := sc_take_part.nd
  refine ⟨_, pss_cons (ps_set (i := 3) nd rfl (Or.inl rfl) (pe_lst pa_nil))
    (pss_cons (ps_while (passes_of rfl) (PW.pt (pw_or (pt_cmpR (op_eqD hr.units) (pv 3) (pe_lst pa_nil) (nomark _)) (pw_or1 (pt_cmpR op_ne (pe_ix ix_list (pv 3) (pe_un un_neg (pe_int)) (fun _ _ => rfl)) (pv 2) (nomark _)))))
      (pss_cons (ps_set (i := 4) nd rfl (Or.inl rfl) (pe_bm0 PySem.F.plainAttrs_list PySem.F.slot_list_pop PySem.F.type_list_pop mt_pop (pv 0)))
        (pss_cons (ps_ddel (pv 1) (pv 4))
        (pss_one (ps_expr (pe_bm PySem.F.plainAttrs_list PySem.F.slot_list_append PySem.F.type_list_append mt_append (pv 3) (pa_cons (pv 4) pa_nil)))))))
    (pss_one (ps_ret (pe_callB cr_sortedI (by rfl) T.b_sorted (by decide +kernel) (pa_cons (pv 3) pa_nil))))), ?_⟩
  exact rd_take_part h

abbrev s_tied_parts : Stmt := top 15
theorem sc_tied_parts : FnScope ["arcs", "within", "number", "low", "stack", "waiting", "parts", "root", "trail", "vertex", "place", "other", "before"] ["arcs", "within"] (defScope s_tied_parts) := ⟨rfl, rfl, rfl, by decide +kernel, rfl, by decide +kernel, by decide +kernel⟩
theorem ok_tied_parts (T : Txt K mg) {fd : FuncData} (F : FunD K "tied_parts" "tied_parts" (defArgs s_tied_parts) (defBody s_tied_parts) (defScope s_tied_parts) [] [] (ga K "tied_parts") fd) (h_take_part : Has P w K mg base 1 "take_part" ["stack", "waiting", "vertex"] [[]] (sp_take_part K)) : FnOk P w K mg base (L2.CX P w) 2 (ga K "tied_parts") fd ["arcs", "within"] (sp_tied_parts K) := by
  refine F.ok sc_tied_parts (fun vs H Q E h => len_tied_parts h) (fun cdv A outer s H vs Q E hr h => ?_)
  have hu := hu_of hr
  have nd := sc_tied_parts.nd
  refine ⟨_, pss_cons (ps_set (i := 2) nd rfl (Or.inl rfl) (pe_dnewK))
    (pss_cons (ps_set (i := 3) nd rfl (Or.inl rfl) (pe_dnewK))
    (pss_cons (ps_set (i := 4) nd rfl (Or.inl rfl) (pe_lst pa_nil))
    (pss_cons (ps_set (i := 5) nd rfl (Or.inl rfl) (pe_dnewK))
    (pss_cons (ps_set (i := 6) nd rfl (Or.inl rfl) (pe_lst pa_nil))
    (pss_cons (ps_lock (ps_for (passes_of rfl) rfl (pi_keys (pv 1)) (pg_name (i := 7) nd rfl (Or.inl rfl))
      (pss_cons (ps_set (i := 8) nd rfl (Or.inl rfl) (pe_ifExp (pt_cmp (pc_din hu (pv 7) (pv 2))) (pe_lst pa_nil) (pe_lst (pa_cons (pe_lst (pa_cons (pv 7) (pa_cons (pe_int) pa_nil))) pa_nil))))
        (pss_one (ps_while (passes_of rfl) (pt_cmpR (op_neD hr.units) (pv 8) (pe_lst pa_nil) (nomark _))
          (pss_cons (ps_asg (pe_ix ix_list (pv 8) (pe_un un_neg (pe_int)) (fun _ _ => rfl)) (pg_unl rfl (pgs_cons (pg_name (i := 9) nd rfl (Or.inl rfl)) (pgs_cons (pg_name (i := 10) nd rfl (Or.inl rfl)) pgs_nil))))
            (pss_cons (ps_if (pt_cmpR op_eq (pv 10) (pe_int) (nomark _))
              (pss_cons (ps_dput hu (pv 2) (pv 9) (pe_callB call_lenD (by rfl) T.b_len (by decide +kernel) (pa_cons (pv 2) pa_nil)) rfl)
                (pss_cons (ps_dput hu (pv 3) (pv 9) (pe_dget hu (pv 2) (pv 9) (fun _ _ => rfl)) rfl)
                (pss_cons (ps_expr (pe_bm PySem.F.plainAttrs_list PySem.F.slot_list_append PySem.F.type_list_append mt_append (pv 4) (pa_cons (pv 9) pa_nil)))
                (pss_one (ps_dput hu (pv 5) (pv 9) (pe_bl) rfl)))))
              (pss_nil))
            (pss_cons (ps_if (pt_cmpR op_lt (pv 10) (pe_callB call_len_seq (by rfl) T.b_len (by decide +kernel) (pa_cons (pe_dget hu (pv 1) (pv 9) (fun _ _ => rfl)) pa_nil)) (nomark _))
              (pss_cons (ps_asg (pe_op op_add (pv 10) (pe_int)) (pg_sub (pe_ix ix_list (pv 8) (pe_un un_neg (pe_int)) (fun _ _ => rfl)) (pe_int) set_list))
                (pss_cons (ps_set (i := 11) nd rfl (Or.inl rfl) (pe_ix ix_tup (pe_ix ix_list (pv 0) (pe_ix ix_list (pe_dget hu (pv 1) (pv 9) (fun _ _ => rfl)) (pv 10) (fun _ _ => rfl)) (fun _ _ => rfl)) (pe_int) (fun _ _ => rfl)))
                (pss_cons (ps_if (pt_cmp (pc_dnotin hu (pv 11) (pv 2)))
                  (pss_one (ps_expr (pe_bm PySem.F.plainAttrs_list PySem.F.slot_list_append PySem.F.type_list_append mt_append (pv 8) (pa_cons (pe_lst (pa_cons (pv 11) (pa_cons (pe_int) pa_nil))) pa_nil))))
                  (pss_one (ps_if (pt_cmp (pc_din hu (pv 11) (pv 5)))
                      (pss_one (ps_dput hu (pv 3) (pv 9) (pe_callB (call_min2 rfl) (by rfl) T.b_min (by decide +kernel) (pa_cons (pe_dget hu (pv 3) (pv 9) (fun _ _ => rfl)) (pa_cons (pe_dget hu (pv 2) (pv 11) (fun _ _ => rfl)) pa_nil))) rfl))
                      (pss_nil))))
                (pss_one (ps_continue)))))
              (pss_nil))
            (pss_cons (ps_expr (pe_bm0 PySem.F.plainAttrs_list PySem.F.slot_list_pop PySem.F.type_list_pop mt_pop (pv 8)))
            (pss_cons (ps_if (pt_cmpR (op_neD hr.units) (pv 8) (pe_lst pa_nil) (nomark _))
              (pss_cons (ps_set (i := 12) nd rfl (Or.inl rfl) (pe_ix ix_list (pe_ix ix_list (pv 8) (pe_un un_neg (pe_int)) (fun _ _ => rfl)) (pe_int) (fun _ _ => rfl)))
                (pss_one (ps_dput hu (pv 3) (pv 12) (pe_callB (call_min2 rfl) (by rfl) T.b_min (by decide +kernel) (pa_cons (pe_dget hu (pv 3) (pv 12) (fun _ _ => rfl)) (pa_cons (pe_dget hu (pv 3) (pv 9) (fun _ _ => rfl)) pa_nil))) rfl)))
              (pss_nil))
            (pss_one (ps_if (pt_cmpR op_eq (pe_dget hu (pv 3) (pv 9) (fun _ _ => rfl)) (pe_dget hu (pv 2) (pv 9) (fun _ _ => rfl)) (nomark _))
              (pss_one (ps_expr (pe_bm PySem.F.plainAttrs_list PySem.F.slot_list_append PySem.F.type_list_append mt_append (pv 6) (pa_cons (pe_has (dvs := []) h_take_part hr passL (pa_cons (pv 4) (pa_cons (pv 5) (pa_cons (pv 9) pa_nil)))) pa_nil))))
              (pss_nil)))))))))))))
    (pss_one (ps_ret (pv 6)))))))), ?_⟩
  exact rd_tied_parts h

abbrev s_keys_within : Stmt := top 16
theorem sc_keys_within : FnScope ["arcs", "leaving", "part", "given", "within", "vertex", "number", "key"] ["arcs", "leaving", "part"] (defScope s_keys_within) := ⟨rfl, rfl, rfl, by decide +kernel, rfl, by decide +kernel, by decide +kernel⟩
theorem ok_keys_within (T : Txt K mg) {fd : FuncData} (F : FunD K "keys_within" "keys_within" (defArgs s_keys_within) (defBody s_keys_within) (defScope s_keys_within) [] [] (ga K "keys_within") fd) (h_arcs_within : Has P w K mg base 1 "arcs_within" ["arcs", "leaving", "members"] [[]] (sp_arcs_within K)) : FnOk P w K mg base (L2.CX P w) 2 (ga K "keys_within") fd ["arcs", "leaving", "part"] (sp_keys_within K) := by
  refine F.ok sc_keys_within (fun vs H Q E h => len_keys_within h) (fun cdv A outer s H vs Q E hr h => ?_)
  have hu := hu_of hr
  have nd := sc_keys_within.nd
  refine ⟨_, pss_cons (ps_set (i := 3) nd rfl (Or.inl rfl) (pe_dnewK))
    (pss_cons (ps_set (i := 4) nd rfl (Or.inl rfl) (pe_has (dvs := []) h_arcs_within hr passL (pa_cons (pv 0) (pa_cons (pv 1) (pa_cons (pv 2) pa_nil)))))
    (pss_cons (ps_for (passes_of rfl) rfl (pi_list (pv 2)) (pg_name (i := 5) nd rfl (Or.inl rfl))
      (pss_one (ps_for (passes_of rfl) rfl (pi_list (pe_dget hu (pv 4) (pv 5) (fun _ _ => rfl))) (pg_name (i := 6) nd rfl (Or.inl rfl))
          (pss_one (ps_for (passes_of rfl) rfl (pi_list (pe_ix ix_tup (pe_ix ix_list (pv 0) (pv 6) (fun _ _ => rfl)) (pe_int) (fun _ _ => rfl))) (pg_name (i := 7) nd rfl (Or.inl rfl))
              (pss_one (ps_dput hu (pv 3) (pv 7) (pe_bl) rfl)))))))
    (pss_one (ps_ret (pv 3))))), ?_⟩
  exact rd_keys_within h

abbrev s_is_content : Stmt := top 17
theorem sc_is_content : FnScope ["wants", "vertex", "given", "key"] ["wants", "vertex", "given"] (defScope s_is_content) := ⟨rfl, rfl, rfl, by decide +kernel, rfl, by decide +kernel, by decide +kernel⟩
theorem ok_is_content (T : Txt K mg) {fd : FuncData} (F : FunD K "is_content" "is_content" (defArgs s_is_content) (defBody s_is_content) (defScope s_is_content) [] [] (ga K "is_content") fd)  : FnOk P w K mg base (L2.CX P w) 1 (ga K "is_content") fd ["wants", "vertex", "given"] (sp_is_content K) := by
  refine F.ok sc_is_content (fun vs H Q E h => len_is_content h) (fun cdv A outer s H vs Q E hr h => ?_)
  have hu := hu_of hr
  have nd := sc_is_content.nd
  refine ⟨_, pss_cons (ps_for (passes_of rfl) rfl (pi_list (pe_ix ix_list (pv 0) (pv 1) (fun _ _ => rfl))) (pg_name (i := 3) nd rfl (Or.inl rfl))
      (pss_one (ps_if (pt_cmp (pc_dnotin hu (pv 3) (pv 2)))
          (pss_one (ps_ret (pe_bl)))
          (pss_nil))))
    (pss_one (ps_ret (pe_bl))), ?_⟩
  exact rd_is_content h

abbrev s_first_missing : Stmt := top 25
theorem sc_first_missing : FnScope ["wants", "part", "given", "vertex", "key"] ["wants", "part", "given"] (defScope s_first_missing) := ⟨rfl, rfl, rfl, by decide +kernel, rfl, by decide +kernel, by decide +kernel⟩
theorem ok_first_missing (T : Txt K mg) {fd : FuncData} (F : FunD K "first_missing" "first_missing" (defArgs s_first_missing) (defBody s_first_missing) (defScope s_first_missing) [] [] (ga K "first_missing") fd)  : FnOk P w K mg base (L2.CX P w) 1 (ga K "first_missing") fd ["wants", "part", "given"] (sp_first_missing K) := by
  refine F.ok sc_first_missing (fun vs H Q E h => len_first_missing h) (fun cdv A outer s H vs Q E hr h => ?_)
  have hu := hu_of hr
  have nd := sc_first_missing.nd
  refine ⟨_, pss_cons (ps_for (passes_of rfl) rfl (pi_list (pv 1)) (pg_name (i := 3) nd rfl (Or.inl rfl))
      (pss_one (ps_for (passes_of rfl) rfl (pi_list (pe_ix ix_list (pv 0) (pv 3) (fun _ _ => rfl))) (pg_name (i := 4) nd rfl (Or.inl rfl))
          (pss_one (ps_if (pt_cmp (pc_dnotin hu (pv 4) (pv 2)))
              (pss_one (ps_ret (pv 4)))
              (pss_nil))))))
    (pss_one (ps_ret (pe_non))), ?_⟩
  exact rd_first_missing h

end
end SF


namespace SF
open PySem L2
section
variable {P : Program} {w : World} {K : Fg} {mg : Str → Option Value} {base : Heap}
abbrev s_is_fair_lot : Stmt := top 19
theorem sc_is_fair_lot : FnScope ["wants", "arcs", "lot", "seen", "vertex", "leaving", "members", "given"] ["wants", "arcs", "lot"] (defScope s_is_fair_lot) := ⟨rfl, rfl, rfl, by decide +kernel, rfl, by decide +kernel, by decide +kernel⟩
theorem ok_is_fair_lot (T : Txt K mg) {fd : FuncData} (F : FunD K "is_fair_lot" "is_fair_lot" (defArgs s_is_fair_lot) (defBody s_is_fair_lot) (defScope s_is_fair_lot) [] [] (ga K "is_fair_lot") fd) (h_is_whole : Has P w K mg base 1 "is_whole" ["thing", "low", "high"] [[], [.non], [.non, .non]] (sp_is_whole)) (h_is_sequence : Has P w K mg base 1 "is_sequence" ["thing"] [[]] (sp_is_sequence)) (h_check_graph : Has P w K mg base 4 "check_graph" ["wants", "arcs"] [[]] (sp_check_graph K)) (h_leaving_arcs : Has P w K mg base 1 "leaving_arcs" ["wants", "arcs"] [[]] (sp_leaving_arcs K)) (h_arcs_within : Has P w K mg base 1 "arcs_within" ["arcs", "leaving", "members"] [[]] (sp_arcs_within K)) (h_tied_parts : Has P w K mg base 2 "tied_parts" ["arcs", "within"] [[]] (sp_tied_parts K)) (h_keys_within : Has P w K mg base 2 "keys_within" ["arcs", "leaving", "part"] [[]] (sp_keys_within K)) (h_is_content : Has P w K mg base 1 "is_content" ["wants", "vertex", "given"] [[]] (sp_is_content K)) : FnOk P w K mg base (L2.CX P w) 5 (ga K "is_fair_lot") fd ["wants", "arcs", "lot"] (sp_is_fair_lot K) := by
  refine F.ok sc_is_fair_lot (fun vs H Q E h => len_is_fair_lot h) (fun cdv A outer s H vs Q E hr h => ?_)
  have hu := hu_of hr
  have nd := sc_is_fair_lot.nd
  refine ⟨_, pss_cons (ps_expr (pe_has (dvs := []) h_check_graph hr (passes_call (W := fun cls d _ H => E cls d H) (takes_of rfl rfl rfl rfl) (fun _ _ _ _ z => z)) (pa_cons (pv 0) (pa_cons (pv 1) pa_nil))))
    (pss_cons (ps_if (PW.pt (pw_or (pt_not (pt_val (pe_has (dvs := []) h_is_sequence hr passL (pa_cons (pv 2) pa_nil)))) (pw_or1 (pt_cmpR op_eq (pe_callB call_len_seq (by rfl) T.b_len (by decide +kernel) (pa_cons (pv 2) pa_nil)) (pe_int) (nomark _)))))
      (pss_one (ps_ret (pe_bl)))
      (pss_nil))
    (pss_cons (ps_set (i := 3) nd rfl (Or.inl rfl) (pe_dnewK))
    (pss_cons (ps_for (passes_of rfl) rfl (pi_tup (pv 2)) (pg_name (i := 4) nd rfl (Or.inl rfl))
      (pss_cons (ps_if (PW.pt (pw_or (pt_not (pt_val (pe_has (dvs := []) h_is_whole hr passL (pa_cons (pv 4) (pa_cons (pe_int) (pa_cons (pe_op op_sub (pe_callB call_len_seq (by rfl) T.b_len (by decide +kernel) (pa_cons (pv 0) pa_nil)) (pe_int)) pa_nil)))))) (pw_or1 (pt_cmp (pc_din hu (pv 4) (pv 3))))))
          (pss_one (ps_ret (pe_bl)))
          (pss_nil))
        (pss_one (ps_dput hu (pv 3) (pv 4) (pe_bl) rfl))))
    (pss_cons (ps_set (i := 5) nd rfl (Or.inl rfl) (pe_has (dvs := []) h_leaving_arcs hr passL (pa_cons (pv 0) (pa_cons (pv 1) pa_nil))))
    (pss_cons (ps_set (i := 6) nd rfl (Or.inl rfl) (pe_callB cr_sortedI (by rfl) T.b_sorted (by decide +kernel) (pa_cons (pe_callTy call_list_of (by rfl) T.b_list (by decide +kernel) (pa_cons (pv 2) pa_nil)) pa_nil)))
    (pss_cons (ps_if (pt_cmpR op_ne (pe_callB call_len_seq (by rfl) T.b_len (by decide +kernel) (pa_cons (pe_has (dvs := []) h_tied_parts hr passL (pa_cons (pv 1) (pa_cons (pe_has (dvs := []) h_arcs_within hr passL (pa_cons (pv 1) (pa_cons (pv 5) (pa_cons (pv 6) pa_nil)))) pa_nil))) pa_nil)) (pe_int) (nomark _))
      (pss_one (ps_ret (pe_bl)))
      (pss_nil))
    (pss_cons (ps_set (i := 7) nd rfl (Or.inr rfl) (pe_has (dvs := []) h_keys_within hr passL (pa_cons (pv 1) (pa_cons (pv 5) (pa_cons (pv 6) pa_nil)))))
    (pss_one (ps_ret (pe_cmpR (op_eqD hr.units) (pe_lc (own := [("vertex", 4)]) (g := (gName 4)) (tt := (e_is_fair_lot_9 K E)) rfl nd (pi_list (pv 6)) (blkOk_by (by rfl)) (fun _ _ _ _ _ => pg_name (i := 4) nd rfl (Or.inl rfl)) (fun _ _ _ _ _ => (pts_one (pt_not (pt_val (pe_has (sp := sp_is_content K) (dvs := []) h_is_content hr passL (pa_cons (pv 0) (pa_cons (pv 4) (pa_cons (pv 7) pa_nil)))))))) (fun _ _ _ _ _ => (pv 4))) (pe_lst pa_nil) (nomark _))))))))))), ?_⟩
  exact rd_is_fair_lot h

abbrev s_tour_fault : Stmt := top 24
theorem sc_tour_fault : FnScope ["wants", "arcs", "vertex", "tour", "number", "place", "passed", "given", "key"] ["wants", "arcs", "vertex", "tour"] (defScope s_tour_fault) := ⟨rfl, rfl, rfl, by decide +kernel, rfl, by decide +kernel, by decide +kernel⟩
theorem ok_tour_fault (T : Txt K mg) {fd : FuncData} (F : FunD K "tour_fault" "tour_fault" (defArgs s_tour_fault) (defBody s_tour_fault) (defScope s_tour_fault) [] [] (ga K "tour_fault") fd) (h_is_sequence : Has P w K mg base 1 "is_sequence" ["thing"] [[]] (sp_is_sequence)) (h_check_graph : Has P w K mg base 4 "check_graph" ["wants", "arcs"] [[]] (sp_check_graph K)) (h_is_content : Has P w K mg base 1 "is_content" ["wants", "vertex", "given"] [[]] (sp_is_content K)) : FnOk P w K mg base (L2.CX P w) 5 (ga K "tour_fault") fd ["wants", "arcs", "vertex", "tour"] (sp_tour_fault K) := by
  refine F.ok sc_tour_fault (fun vs H Q E h => len_tour_fault h) (fun cdv A outer s H vs Q E hr h => ?_)
  have hu := hu_of hr
  have nd := sc_tour_fault.nd
  refine ⟨_, pss_cons (ps_expr (pe_has (dvs := []) h_check_graph hr (passes_call (W := fun cls d _ H => E cls d H) (takes_of rfl rfl rfl rfl) (fun _ _ _ _ z => z)) (pa_cons (pv 0) (pa_cons (pv 1) pa_nil))))
    (pss_cons (ps_if (pt_not (pt_val (pe_has (dvs := []) h_is_sequence hr passL (pa_cons (pv 3) pa_nil))))
      (pss_one (ps_ret (pe_str)))
      (pss_nil))
    (pss_cons (ps_for (passes_of rfl) rfl (pi_tup (pv 3)) (pg_name (i := 4) nd rfl (Or.inl rfl))
      (pss_never))
    (pss_cons (ps_set (i := 5) nd rfl (Or.inl rfl) (pv 2))
    (pss_cons (ps_set (i := 6) nd rfl (Or.inl rfl) (pe_lst (pa_cons (pv 2) pa_nil)))
    (pss_cons (ps_set (i := 7) nd rfl (Or.inl rfl) (pe_dnewK))
    (pss_cons (ps_for (passes_of rfl) rfl (pi_tup (pv 3)) (pg_name (i := 4) nd rfl (Or.inl rfl))
      (pss_never))
    (pss_cons (ps_if (pt_cmpR op_ne (pv 5) (pv 2) (nomark _))
      (pss_one (ps_ret (pe_str)))
      (pss_nil))
    (pss_cons (ps_for (passes_of rfl) rfl (pi_list (pv 6)) (pg_name (i := 5) nd rfl (Or.inl rfl))
      (pss_one (ps_if (pt_not (pt_val (pe_has (dvs := []) h_is_content hr passL (pa_cons (pv 0) (pa_cons (pv 5) (pa_cons (pv 7) pa_nil))))))
          (pss_one (ps_ret (pe_str)))
          (pss_nil))))
    (pss_one (ps_ret (pe_non))))))))))), ?_⟩
  exact rd_tour_fault h

abbrev s_no_lot_fault : Stmt := top 28
theorem sc_no_lot_fault : FnScope ["wants", "arcs", "steps", "leaving", "parts", "place", "step", "fault", "part", "lower", "vertex"] ["wants", "arcs", "steps"] (defScope s_no_lot_fault) := ⟨rfl, rfl, rfl, by decide +kernel, rfl, by decide +kernel, by decide +kernel⟩
theorem ok_no_lot_fault (T : Txt K mg) {fd : FuncData} (F : FunD K "no_lot_fault" "no_lot_fault" (defArgs s_no_lot_fault) (defBody s_no_lot_fault) (defScope s_no_lot_fault) [] [] (ga K "no_lot_fault") fd) (h_is_sequence : Has P w K mg base 1 "is_sequence" ["thing"] [[]] (sp_is_sequence)) (h_check_graph : Has P w K mg base 4 "check_graph" ["wants", "arcs"] [[]] (sp_check_graph K)) (h_leaving_arcs : Has P w K mg base 1 "leaving_arcs" ["wants", "arcs"] [[]] (sp_leaving_arcs K)) : FnOk P w K mg base (L2.CX P w) 5 (ga K "no_lot_fault") fd ["wants", "arcs", "steps"] (sp_no_lot_fault K) := by
  refine F.ok sc_no_lot_fault (fun vs H Q E h => len_no_lot_fault h) (fun cdv A outer s H vs Q E hr h => ?_)
  have hu := hu_of hr
  have nd := sc_no_lot_fault.nd
  refine ⟨_, pss_cons (ps_expr (pe_has (dvs := []) h_check_graph hr (passes_call (W := fun cls d _ H => E cls d H) (takes_of rfl rfl rfl rfl) (fun _ _ _ _ z => z)) (pa_cons (pv 0) (pa_cons (pv 1) pa_nil))))
    (pss_cons (ps_if (pt_not (pt_val (pe_has (dvs := []) h_is_sequence hr passL (pa_cons (pv 2) pa_nil))))
      (pss_one (ps_ret (pe_tup (pa_cons (pe_int) (pa_cons (pe_str) pa_nil)))))
      (pss_nil))
    (pss_cons (ps_set (i := 3) nd rfl (Or.inl rfl) (pe_has (dvs := []) h_leaving_arcs hr passL (pa_cons (pv 0) (pa_cons (pv 1) pa_nil))))
    (pss_cons (ps_set (i := 4) nd rfl (Or.inl rfl) (pe_lst (pa_cons (pe_listRg rfl (by rfl) T.b_list (prg_1 (by rfl) T.b_range (pe_callB call_len_seq (by rfl) T.b_len (by decide +kernel) (pa_cons (pv 0) pa_nil)))) pa_nil)))
    (pss_cons (ps_for (passes_of rfl) rfl (pi_range1 (by rfl) T.b_range (pa_cons (pe_callB call_len_seq (by rfl) T.b_len (by decide +kernel) (pa_cons (pv 2) pa_nil)) pa_nil)) (pg_name (i := 5) nd rfl (Or.inl rfl))
      (pss_never))
    (pss_cons (ps_for (passes_of rfl) rfl (pi_list (pv 4)) (pg_name (i := 8) nd rfl (Or.inl rfl))
      (pss_one (ps_if (pt_cmpR (op_neD hr.units) (pv 8) (pe_lst pa_nil) (nomark _))
          (pss_one (ps_ret (pe_tup (pa_cons (pe_callB call_len_seq (by rfl) T.b_len (by decide +kernel) (pa_cons (pv 2) pa_nil)) (pa_cons (pe_str) pa_nil)))))
          (pss_nil))))
    (pss_one (ps_ret (pe_non)))))))), ?_⟩
  exact rd_no_lot_fault h

abbrev s_fair_tour : Stmt := top 23
theorem sc_fair_tour : FnScope ["wants", "arcs", "lot", "vertex", "within", "tour", "given", "place", "key", "came", "gift", "number", "told", "member"] ["wants", "arcs", "lot", "vertex"] (defScope s_fair_tour) := ⟨rfl, rfl, rfl, by decide +kernel, rfl, by decide +kernel, by decide +kernel⟩
theorem ok_fair_tour (T : Txt K mg) {fd : FuncData} (F : FunD K "fair_tour" "fair_tour" (defArgs s_fair_tour) (defBody s_fair_tour) (defScope s_fair_tour) [] [] (ga K "fair_tour") fd) (h_is_whole : Has P w K mg base 1 "is_whole" ["thing", "low", "high"] [[], [.non], [.non, .non]] (sp_is_whole)) (h_is_fair_lot : Has P w K mg base 5 "is_fair_lot" ["wants", "arcs", "lot"] [[]] (sp_is_fair_lot K)) : FnOk P w K mg base (L2.CX P w) 6 (ga K "fair_tour") fd ["wants", "arcs", "lot", "vertex"] (sp_fair_tour K) := by
  refine F.ok sc_fair_tour (fun vs H Q E h => len_fair_tour h) (fun cdv A outer s H vs Q E hr h => ?_)
  have hu := hu_of hr
  have nd := sc_fair_tour.nd
  refine ⟨_, pss_cons (ps_if (PW.pt (pw_or (pt_not (pt_val (pe_has (dvs := []) h_is_fair_lot hr (passes_call (W := fun cls d _ H => E cls d H) (takes_of rfl rfl rfl rfl) (fun _ _ _ _ z => z)) (pa_cons (pv 0) (pa_cons (pv 1) (pa_cons (pv 2) pa_nil)))))) (pw_or (pt_not (pt_val (pe_has (dvs := [.non, .non]) h_is_whole hr passL (pa_cons (pv 3) pa_nil)))) (pw_or1 (pt_cmpR op_notIn_seq (pv 3) (pv 2) (by rfl))))))
      (pss_one (ps_never))
      (pss_nil))
    (pss_never), ?_⟩
  exact rd_fair_tour h

end
end SF

/-! R89k: the reading of fair_lots. -/
namespace SF
open PySem L2
def rngI (n : Nat) : List Int := (List.range n).map fun i : Nat => (i : Int)
theorem rgV_eq (n : Nat) : rgV 0 (n : Int) = (rngI n).map V.int := by
  unfold rgV rngI
  rw [List.map_map]
  simp
theorem memb_rng (n : Nat) : Memb n (rngI n) := by
  refine ⟨List.pairwise_map.mpr (List.nodup_range.imp fun {a b} h e => h (by omega)), fun m hm => ?_⟩
  obtain ⟨i, hi, rfl⟩ := List.mem_map.mp hm
  have := List.mem_range.mp hi
  omega
theorem rng_len (n : Nat) : (rngI n).length = n := by unfold rngI; simp
theorem shaped_LL (ls : List (List Int)) : SeqAt.shaped (.list (ls.map encL)) = true :=
  shaped_map (f := encL) (fun l => by simp [encL, PyData.canLay0, lay_ints]) (fun l => by simp [encL, PyData.depth, depth_ints]) ls
theorem Rps.split {S : Hp} : ∀ {ds es : List PyData} {xs : List V}, Rps S (ds ++ es) xs → ∃ ys zs, xs = ys ++ zs ∧ Rps S ds ys ∧ Rps S es zs
  | [], _, xs, h => ⟨[], xs, rfl, .nil, h⟩
  | d :: ds, es, _, h => by
    obtain ⟨v, vs, rfl, h1, h2⟩ := Rps.cons' (ds := ds ++ es) h
    obtain ⟨ys, zs, rfl, k1, k2⟩ := Rps.split h2
    exact ⟨v :: ys, zs, rfl, .cons h1 k1, k2⟩
theorem Rps.one {S : Hp} {d : PyData} {xs : List V} (h : Rps S [d] xs) : ∃ v, xs = [v] ∧ Rp S d v := by
  obtain ⟨v, vs, rfl, h1, h2⟩ := h.cons'
  rw [h2.nil']
  exact ⟨v, rfl, h1⟩
theorem Rps.refs {S : Hp} : ∀ {ls : List (List Int)} {xs : List V}, Rps S (ls.map encL) xs → ∀ x ∈ xs, ∃ t : Addr, x = .ref t
  | [], _, h, x, hx => by rw [h.nil'] at hx; cases hx
  | l :: ls, _, h, x, hx => by
    obtain ⟨v, vs, rfl, h1, h2⟩ := Rps.cons' (ds := ls.map encL) h
    rcases List.mem_cons.mp hx with rfl | hx
    · obtain ⟨a, _, rfl, _⟩ := h1.lst'; exact ⟨a, rfl⟩
    · exact Rps.refs h2 x hx
/-- a list of ints that is not empty is no list of objects -/
theorem ints_ne {H : Hp} {r f : Addr} {l : List Int} {fl : List V} (h : H r = some (lstI l)) (hl : l ≠ []) (hf : H f = some (.lst fl)) (hr : ∀ x ∈ fl, ∃ t : Addr, x = .ref t) : f ≠ r := by
  rintro rfl
  rw [h] at hf
  unfold lstI at hf
  have e : l.map V.int = fl := by injection hf with hf; injection hf
  cases l with
  | nil => exact hl rfl
  | cons z l =>
    obtain ⟨t, ht⟩ := hr (.int z) (by rw [← e]; simp)
    cases ht
theorem part_memb {n : Nat} {ms : List Int} {ps : List (List Int)} (M : Memb n ms) (P : PartsOk ms ps) {p : List Int} (h : p ∈ ps) : Memb n p :=
  ⟨(List.pairwise_flatten.mp P.nd).1 p h, fun m hm => M.rng m ((P.sub p h).2 m hm)⟩
theorem Memb.sub {n : Nat} {ms l : List Int} (M : Memb n ms) (h : l.Sublist ms) : Memb n l := ⟨M.nd.sublist h, fun m hm => M.rng m (h.subset hm)⟩
theorem parts_len {n : Nat} {ms : List Int} {ps : List (List Int)} (M : Memb n ms) (P : PartsOk ms ps) : ps.flatten.length ≤ ms.length := nd_le P.nd fun x hx => by
  obtain ⟨p, hp, hx⟩ := List.mem_flatten.mp hx
  exact (P.sub p hp).2 x hx
theorem drop_flat {ps : List (List Int)} {i : Nat} {p : List Int} (h : ps[i]? = some p) : (ps.drop i).flatten.length = p.length + (ps.drop (i + 1)).flatten.length := by
  obtain ⟨hi, e⟩ := List.getElem?_eq_some_iff.mp h
  rw [List.drop_eq_getElem_cons hi, List.flatten_cons, List.length_append, e]
/-- what is found and what waits -/
structure FL (n : Nat) (S H : Hp) (f w : Addr) (fl wl : List V) (mss : List (List Int)) : Prop where
  own : Owns S H [(f, .lst fl), (w, .lst wl)]
  rps : Rps S (mss.map encL) wl
  fnd : ∀ x ∈ fl, ∃ (t : Addr) (ns : List Int), x = .ref t ∧ S t = some (.tup (ns.map .int)) ∧ ns ≠ []
  mem : ∀ m ∈ mss, m ≠ [] ∧ Memb n m
theorem FL.call {n : Nat} {S H H' : Hp} {f w : Addr} {fl wl : List V} {mss : List (List Int)} (h : FL n S H f w fl wl mss) (e : Ex H H') : FL n S H' f w fl wl mss := ⟨h.own.call e, h.rps, h.fnd, h.mem⟩
theorem FL.base {n : Nat} {S S' H H' : Hp} {f w : Addr} {fl wl : List V} {mss : List (List Int)} (h : FL n S H f w fl wl mss) (e : Ex S S') (o : Owns S' H' [(f, .lst fl), (w, .lst wl)]) : FL n S' H' f w fl wl mss :=
  ⟨o, h.rps.up e, fun x hx => by obtain ⟨t, ns, h1, h2, h3⟩ := h.fnd x hx; exact ⟨t, ns, h1, e _ _ h2, h3⟩, h.mem⟩
theorem FL.wl_len {n : Nat} {S H : Hp} {f w : Addr} {fl wl : List V} {mss : List (List Int)} (h : FL n S H f w fl wl mss) : wl.length ≤ mss.flatten.length := by
  rw [h.rps.length, List.length_map]; exact flat_len fun p hp => (h.mem p hp).1
end SF

/-! R89l: the reading of fair_lots, whole. -/
namespace SF
open PySem L2
/-- the comprehension over a part: those that are content -/
theorem kept_of {K : Fg} {S H4 : Hp} {l : List (Addr × HO)} {r D : Addr} {p : List Int} {ws : List (List Int)} {vw : V} {d : Addr} {kvs : List (Key × V)} {n : Nat} {E : XK} {σ0 : L2.St} {j : Nat} {tt : TT} {te : TE} {g : TG} {vs : List Nat} {Qd : Hp → Prop}
    (w : Owns S H4 l) (hr : S r = some (lstI p)) (hw : Rp S (encLL ws) vw) (hd : S d = some (.dK kvs)) (hn : ws.length = n) (M : Memb n p) (hD : H4 D = none) (h1000 : p.length ≤ 1000)
    (hg : ∀ z H R, R (σ0.set j (some (.int z))) H → g (.int z) (wipe σ0 vs) H R) (hwp : ∀ z, wipe (σ0.set j (some (.int z))) vs = wipe σ0 vs)
    (htt : ∀ z H Q, sp_is_content K [vw, .int z, .ref d] H (fun x H1 => ∃ c, x = .bl c ∧ Q c H1) E0 → tt (σ0.set j (some (.int z))) H Q)
    (hte : ∀ z H Q, Q (.int z) H → te (σ0.set j (some (.int z))) H Q)
    (q : ∀ H5 acc, acc.Sublist p → Owns S H5 ((D, lstI acc) :: l) → Qd H5) :
    ∃ W : Nat → Nat → Hp → Prop, (∃ m, W 0 m (upd H4 D (.lst []))) ∧ ∀ i m H, W i m H →
      ((Itl K r).stop i H ∧ Qd H) ∨ ((Itl K r).go i H ∧ ∃ Nx : Hp → Prop, (∀ H', Nx H' → ∃ m', m' < m ∧ W (i + 1) m' H') ∧ ∀ x H', (Itl K r).yld i H x H' → g x (wipe σ0 vs) H' fun σ2 H2 => wipe σ2 vs = wipe σ0 vs ∧ tt σ2 H2 fun b H3 =>
        if b = true then te σ2 H3 fun y H4 => ∃ acc, H4 D = some (.lst acc) ∧ acc.length < sizeLine ∧ Nx (upd H4 D (.lst (acc ++ [y]))) else Nx H3) := by
  refine lc_list (K := K) (a := r) (xs := p.map .int) (fun i H' => ∃ acc, acc.Sublist (p.take i) ∧ Owns S H' ((D, lstI acc) :: l)) ⟨[], List.nil_sublist _, w.new hD⟩ (fun i H' _ ⟨_, _, w⟩ => .of (w.ex _ _ hr)) ?_ ?_
  · rintro i x H5 hx ⟨acc, hs, w5⟩
    obtain ⟨z, hz, rfl⟩ := int_item hx
    have hzr := M.rng z (List.mem_of_getElem? hz)
    refine hg z H5 _ ⟨hwp z, htt z H5 _ ⟨ws, vw, z, d, kvs, rfl, hw.up w5.ex, by rw [hn]; exact hzr, w5.ex _ _ hd, fun H6 b e6 => ⟨b, rfl, iteB (fun _ => ?_) (fun _ => ?_)⟩⟩⟩
    · refine hte z H6 _ ⟨_, (w5.call e6).get 0, szl (by rw [List.length_map]; have := hs.length_le; rw [List.length_take] at this; omega), acc ++ [z], ?_, ?_⟩
      · rw [take_succ hz]; exact hs.append (List.Sublist.refl _)
      · have := (w5.call e6).write (o' := .lst (acc.map .int ++ [.int z])) 0
        unfold lstI
        rw [List.map_append]
        exact this
    · exact ⟨acc, by rw [take_succ hz]; exact hs.trans (List.sublist_append_left ..), w5.call e6⟩
  · rintro H5 ⟨acc, hs, w5⟩
    rw [List.length_map, List.take_length] at hs
    exact q H5 acc hs w5
section
variable {K : Fg} {vs : List V} {H : Hp} {Q : VK} {E : XK}
/-- between two turns of the while -/
def FW (n : Nat) (S0 : Hp) (vw va vl : V) (f w : Addr) (m : Nat) (σ : L2.St) (H' : Hp) : Prop := ∃ S fl wl mss u5 u6 u7 u8 u9, σ = [some vw, some va, some vl, some (.ref f), some (.ref w), u5, u6, u7, u8, u9] ∧ Ex S0 S ∧ FL n S H' f w fl wl mss ∧ fl.length + mss.flatten.length ≤ n ∧ m = mss.flatten.length
/-- between two parts -/
def FP (n : Nat) (S1 : Hp) (vw va vl : V) (f w : Addr) (ps : List (List Int)) (tot i : Nat) (σ : L2.St) (H' : Hp) : Prop := ∃ S fl wl mss u5 u6 u7 u8 u9, σ = [some vw, some va, some vl, some (.ref f), some (.ref w), u5, u6, u7, u8, u9] ∧ Ex S1 S ∧ FL n S H' f w fl wl mss ∧
  fl.length + mss.flatten.length + (ps.drop i).flatten.length ≤ n ∧ mss.flatten.length + (ps.drop i).flatten.length ≤ tot ∧ (i = 0 → mss.flatten.length + 1 ≤ tot) ∧ (0 < i → mss.flatten.length + (ps.drop i).flatten.length + 1 ≤ tot)
theorem fl_1 {n : Nat} {S1 : Hp} {ws : List (List Int)} {as : List Arc} {ls : List (List Int)} {vw va vl : V} {f w : Addr} {ps : List (List Int)} {p : List Int} {r : Addr} {tot i : Nat} {D : Ends} (Va : Valid n ws as) (L : Leav as n ls) (hw : Rp S1 (encLL ws) vw) (ha : Rp S1 (encAs as) va) (hl : Rp S1 (encLL ls) vl)
    (hp : ps[i]? = some p) (hp0 : p ≠ []) (M : Memb n p) (hr : S1 r = some (lstI p)) {σ : L2.St} {u7 u8 u9 u5 : Option V} {S H' : Hp} {fl wl : List V} {mss : List (List Int)} (hσ : σ = [some vw, some va, some vl, some (.ref f), some (.ref w), u5, some (.ref r), u7, u8, u9]) (eS : Ex S1 S) (h : FL n S H' f w fl wl mss)
    (b1 : fl.length + mss.flatten.length + (ps.drop i).flatten.length ≤ n) (b2 : mss.flatten.length + (ps.drop i).flatten.length ≤ tot)
    (k : ∀ σ' H2, FP n S1 vw va vl f w ps tot (i + 1) σ' H2 → D.nx σ' H2) : t_fair_lots_1 K E D σ H' := by
  subst hσ
  have hdf := drop_flat hp
  have hp1 : 0 < p.length := List.length_pos_iff.mpr hp0
  have hm := Va.most
  have hpl := M.len_le
  refine ⟨_, rfl, _, rfl, _, rfl, n, ws, as, ls, p, va, vl, .ref r, rfl, ha.up (eS.trans h.own.ex), hl.up (eS.trans h.own.ex), rp_ints (h.own.ex _ _ (eS _ _ hr)), Va, L, M, fun H4 d kvs e4 hd => ?_⟩
  obtain ⟨S2, eS2, w2, hS2⟩ := h.own.growAll e4
  have hdS : S2 d = some (.dK kvs) := hS2 _ _ hd (fun q hq => by
    have := w2.here q hq
    rcases List.mem_cons.mp hq with rfl | hq
    · exact ne_of this hd (fun z => by cases z)
    · cases List.mem_singleton.mp hq; exact ne_of this hd (fun z => by cases z))
  have h2 := h.base eS2 w2
  have e12 : Ex S1 S2 := eS.trans eS2
  refine ⟨_, rfl, r, rfl, ⟨_, .of (w2.ex _ _ (e12 _ _ hr))⟩, fun C hC => ?_⟩
  refine kept_of (j := 9) (n := n) (ws := ws) (vw := vw) (d := d) (kvs := kvs) (p := p) (E := E) (l := [(f, .lst fl), (w, .lst wl)]) w2 (e12 _ _ hr) (hw.up e12) hdS Va.len M hC (by omega) (fun z H R q => q) (fun z => rfl) (fun z H Q q => ⟨_, rfl, _, rfl, _, rfl, q⟩) (fun z H Q q => ⟨_, rfl, q⟩) fun H5 acc hs w5 => ?_
  have hal := hs.length_le
  have gr := w5.ex _ _ (e12 _ _ hr)
  refine ⟨_, rfl, C, _, rfl, .inl (.of (w5.get 0)), _, rfl, r, _, rfl, .inl (.of gr), rfl, _, rfl, ?_⟩
  rw [List.length_map, List.length_map]
  have wf : Owns S2 H5 [(f, .lst fl), (w, .lst wl)] := w5.drop 0
  refine iteB (fun c => ?_) (fun c => ?_)
  · refine ⟨_, rfl, tyL (w5.get 1), _, rfl, r, _, rfl, .inl ⟨.of gr, fun t ht => ?_⟩⟩
    have w6 := wf.grow (o := .tup (p.map .int)) ht
    refine ⟨f, fl, _, rfl, rfl, w6.get 0, szl (by omega), k _ _ ⟨upd S2 t (.tup (p.map .int)), fl ++ [.ref t], wl, mss, _, _, _, _, _, rfl, e12.trans (wf.growEx ht), ⟨w6.write 0, h2.rps.up (wf.growEx ht), fun x hx => ?_, h2.mem⟩, by rw [List.length_append, List.length_singleton]; omega, by omega, fun e => absurd e (by omega), fun _ => by omega⟩⟩
    rcases List.mem_append.mp hx with hx | hx
    · obtain ⟨t', ns, q1, q2, q3⟩ := h2.fnd x hx
      exact ⟨t', ns, q1, wf.growEx ht _ _ q2, q3⟩
    · cases List.mem_singleton.mp hx
      exact ⟨t, p, rfl, upd_same, hp0⟩
  · have hne : acc.length ≠ p.length := fun e => by rw [e] at c; simp at c
    refine ⟨_, rfl, Nat.zero_le _, fun p4 hp4 => neNil (rp_ints (w5.get 0)) (shaped_ints _) hp4 ⟨_, rfl, iteN (fun c2 => ?_) (fun c2 => ?_)⟩⟩
    · have w6 := w5.call (Ex.new (o := .lst []) hp4)
      have w7 := w6.freeze 0
      have e7 := w6.freezeEx 0
      have ha0 : acc ≠ [] := by rintro rfl; simp at c2
      have hwl := h2.wl_len
      refine ⟨_, rfl, tyL (w6.get 2), _, rfl, w, wl, _, rfl, rfl, w6.get 2, szl (by omega), k _ _ ⟨_, fl, wl ++ [.ref C], mss ++ [acc], _, _, _, _, _, rfl, e12.trans e7, ⟨w7.write 1, ?_, fun x hx => ?_, fun m hm => ?_⟩, ?_, ?_, fun e => absurd e (by omega), fun _ => ?_⟩⟩
      · rw [List.map_append]
        exact (h2.rps.up e7).append (.cons (.lst upd_same (.ints acc)) .nil)
      · obtain ⟨t', ns, q1, q2, q3⟩ := h2.fnd x hx
        exact ⟨t', ns, q1, e7 _ _ q2, q3⟩
      · rcases List.mem_append.mp hm with hm | hm
        · exact h2.mem m hm
        · cases List.mem_singleton.mp hm; exact ⟨ha0, M.sub hs⟩
      all_goals (rw [List.flatten_append, List.flatten_singleton, List.length_append]; omega)
    · have w6 := wf.call (Ex.new (o := .lst []) hp4)
      exact k _ _ ⟨S2, fl, wl, mss, _, _, _, _, _, rfl, e12, h2.base (Ex.refl _) w6, by omega, by omega, fun e => absurd e (by omega), fun _ => by omega⟩
theorem rd_fair_lots (h : sp_fair_lots K vs H Q E) : t_fair_lots K E { nx := fun _ H' => Q .non H', rt := Q } (start ["wants", "arcs", "leaving", "found", "waiting", "members", "part", "given", "kept", "vertex"] vs) H := by
  obtain ⟨dw, da, vw, va, ms, rfl, hw, ha, hl, hms, h⟩ := h
  subst hms
  rcases h with ⟨p, hp, b⟩ | ⟨n, ws, as, rfl, rfl, h0, h50, h200, Va, _, k⟩
  · exact ⟨_, rfl, _, rfl, ck_bad hw ha hl hp b⟩
  · refine ⟨_, rfl, _, rfl, ck_ok hw ha Va fun H1 e1 => ?_⟩
    obtain ⟨aw, xw, rfl, ew, lw, iw⟩ := encLL_at hw
    have hn : xw.length = n := by rw [lw, Va.len]
    refine ⟨_, rfl, _, rfl, n, ws, as, _, _, rfl, hw.up e1, ha.up e1, Va, fun H2 vl ls e2 hls L => ?_⟩
    have e12 := e1.trans e2
    refine ⟨Nat.zero_le _, fun f hf => ?_⟩
    have w1 := (Owns.none H2).new (o := .lst []) hf
    refine ⟨_, rfl, aw, xw, rfl, .inl (.of (w1.ex _ _ (e12 _ _ ew))), _, rfl, RgOk.of_le (Int.le_refl 0) (by omega) (by omega) (by omega), fun p3 hp3 => ⟨(by show 1 ≤ sizeLine; decide), fun w hw' => ?_⟩⟩
    rw [hn, rgV_eq] at hw' ⊢
    have w2 := (w1.grow (o := .lst ((rngI n).map .int)) hp3)
    have w3 := w2.newE (o := .lst [.ref p3]) hw'
    have e0 : Ex H2 (upd H2 p3 (.lst ((rngI n).map .int))) := w1.growEx hp3
    generalize hS0 : upd H2 p3 (.lst ((rngI n).map .int)) = S0 at w3 e0
    have gp3 : S0 p3 = some (lstI (rngI n)) := by rw [← hS0]; exact upd_same
    have eH0 := e12.trans e0
    refine ⟨fun m σ H' => FW n S0 (.ref aw) va vl f w m σ H', ⟨_, S0, [], [.ref p3], [rngI n], _, _, _, _, _, rfl, Ex.refl _, ⟨w3, .cons (.lst gp3 (.ints _)) .nil, (fun x hx => by cases hx), fun m hm => ?_⟩, ?_, rfl⟩, ?_⟩
    · cases List.mem_singleton.mp hm
      exact ⟨fun e => by have := rng_len n; rw [e] at this; simp at this; omega, memb_rng n⟩
    · rw [List.flatten_singleton, rng_len]; simp
    · rintro m σ H3 ⟨S, fl, wl, mss, u5, u6, u7, u8, u9, rfl, eS, h3, b1, rfl⟩
      refine ⟨_, rfl, Nat.zero_le _, fun p5 hp5 => neNil (.lst (h3.own.get 1) (h3.rps.up h3.own.ex)) (shaped_LL mss) hp5 ⟨_, rfl, ?_⟩⟩
      have h4 := h3.call (Ex.new (o := .lst []) hp5)
      rcases List.eq_nil_or_concat mss with rfl | ⟨mss', ms, hmm⟩
      · refine iteF ?_
        refine ⟨_, rfl, f, fl, rfl, .of (h4.own.get 0), fun x hx => ?_, fun ys q hq hnq => ?_⟩
        · obtain ⟨t, ns, q1, q2, q3⟩ := h4.fnd x hx
          exact ⟨t, ns, q1, h4.own.ex _ _ q2, q3⟩
        · exact ⟨q, ys, rfl, .inl ⟨.of upd_same, fun l hl => k _ _ (eH0.trans (eS.trans (h4.own.ex.trans ((Ex.new hnq).trans (Ex.new hl)))))⟩⟩
      · rw [List.concat_eq_append] at hmm
        subst hmm
        have en : ((mss' ++ [ms]).map encL).isEmpty = false := by simp
        rw [en]
        refine go_on ?_
        have rps := h4.rps
        rw [List.map_append] at rps
        obtain ⟨wl', zs, rfl, r1, r2⟩ := rps.split
        obtain ⟨vm, rfl, r3⟩ := r2.one
        obtain ⟨am, rfl, em⟩ := encL_at r3
        have hmm := h4.mem ms (by simp)
        refine ⟨_, rfl, tyL (h4.own.get 1), w, _, .ref am, rfl, rfl, h4.own.get 1, by simp, ?_⟩
        rw [List.dropLast_concat]
        have w5 := h4.own.write (o' := .lst wl') 1
        have h5 : FL n S _ f w fl wl' mss' := ⟨w5, r1, h4.fnd, fun m hm => h4.mem m (List.mem_append_left _ hm)⟩
        have eb := eS.trans w5.ex
        have tl : (mss' ++ [ms]).flatten.length = mss'.flatten.length + ms.length := by rw [List.flatten_append, List.flatten_singleton, List.length_append]
        have ms0 : 0 < ms.length := List.length_pos_iff.mpr hmm.1
        refine ⟨_, rfl, _, rfl, _, rfl, _, rfl, parts_of (ha.up (eH0.trans eb)) (hls.up (e0.trans eb)) (rp_ints (w5.ex _ _ em)) Va L hmm.2 fun H6 ap ps e6 hfree hps P => ?_⟩
        obtain ⟨ap', xp, eap, ep, lp, ip⟩ := encLL_at hps
        cases eap
        obtain ⟨S1, eS1, w6, hS1⟩ := w5.growAll e6
        have h6 := h5.base eS1 w6
        have hpp := parts_len hmm.2 P
        have gap : S1 ap = some (.lst xp) := hS1 _ _ ep (fun q hq => by
          have := w5.here q hq
          intro e
          rw [e, hfree] at this; cases this)
        have e01 : Ex S0 S1 := eS.trans eS1
        refine ⟨ap, rfl, ⟨xp, .of ep⟩, for_list (K := K) (a := ap) (xs := xp) (fun i => FP n S1 (.ref aw) va vl f w ps (mss' ++ [ms]).flatten.length i) ⟨S1, fl, wl', mss', _, _, _, _, _, rfl, Ex.refl _, h6, by rw [List.drop_zero]; omega, by rw [List.drop_zero]; omega, fun _ => by omega, fun e => absurd e (by omega)⟩ (fun i σ H' _ ⟨S, _, _, _, _, _, _, _, _, _, e, h, _⟩ => .of (h.own.ex _ _ (e _ _ gap))) ?_ ?_⟩
        · rintro i x σ H7 hx ⟨S, fl', wl'', mss'', v5, v6, v7, v8, v9, rfl, eS7, h7, c1, c2, _, _⟩
          obtain ⟨p, hp⟩ := some_at (l := ps) (i := i) (by have := (List.getElem?_eq_some_iff.mp hx).1; omega)
          obtain ⟨r, hxr, hr⟩ := ip i p hp
          rw [hx] at hxr
          cases hxr
          have hpm := List.mem_of_getElem? hp
          have hp0 := (P.sub p hpm).1
          have hrS : S1 r = some (lstI p) := hS1 _ _ hr (fun q hq => by
            rcases List.mem_cons.mp hq with rfl | hq
            · exact ints_ne hr hp0 (w6.get 0) fun x hx => by obtain ⟨t, _, q1, _⟩ := h6.fnd x hx; exact ⟨t, q1⟩
            · cases List.mem_singleton.mp hq
              exact ints_ne hr hp0 (w6.get 1) h6.rps.refs)
          exact fl_1 (tot := (mss' ++ [ms]).flatten.length) Va L (hw.up (eH0.trans e01)) (ha.up (eH0.trans e01)) (hls.up (e0.trans e01)) hp hp0 (part_memb hmm.2 P hpm) hrS rfl eS7 h7 c1 c2 fun σ' H2 q => q
        · rintro σ H7 ⟨S, fl', wl'', mss'', v5, v6, v7, v8, v9, rfl, eS7, h7, c1, c2, c3, c4⟩
          refine ⟨mss''.flatten.length, ?_, S, fl', wl'', mss'', _, _, _, _, _, rfl, e01.trans eS7, h7, by omega, rfl⟩
          rcases Nat.eq_zero_or_pos xp.length with e | e
          · have := c3 e; omega
          · have := c4 e; omega
end
end SF


namespace SF
open PySem L2
section
variable {P : Program} {w : World} {K : Fg} {mg : Str → Option Value} {base : Heap}
abbrev s_fair_lots : Stmt := top 18
theorem sc_fair_lots : FnScope ["wants", "arcs", "leaving", "found", "waiting", "members", "part", "given", "kept", "vertex"] ["wants", "arcs"] (defScope s_fair_lots) := ⟨rfl, rfl, rfl, by decide +kernel, rfl, by decide +kernel, by decide +kernel⟩
theorem ok_fair_lots (T : Txt K mg) {fd : FuncData} (F : FunD K "fair_lots" "fair_lots" (defArgs s_fair_lots) (defBody s_fair_lots) (defScope s_fair_lots) [] [] (ga K "fair_lots") fd) (h_check_graph : Has P w K mg base 4 "check_graph" ["wants", "arcs"] [[]] (sp_check_graph K)) (h_leaving_arcs : Has P w K mg base 1 "leaving_arcs" ["wants", "arcs"] [[]] (sp_leaving_arcs K)) (h_arcs_within : Has P w K mg base 1 "arcs_within" ["arcs", "leaving", "members"] [[]] (sp_arcs_within K)) (h_tied_parts : Has P w K mg base 2 "tied_parts" ["arcs", "within"] [[]] (sp_tied_parts K)) (h_keys_within : Has P w K mg base 2 "keys_within" ["arcs", "leaving", "part"] [[]] (sp_keys_within K)) (h_is_content : Has P w K mg base 1 "is_content" ["wants", "vertex", "given"] [[]] (sp_is_content K)) : FnOk P w K mg base (L2.CX P w) 5 (ga K "fair_lots") fd ["wants", "arcs"] (sp_fair_lots K) := by
  refine F.ok sc_fair_lots (fun vs H Q E h => len_fair_lots h) (fun cdv A outer s H vs Q E hr h => ?_)
  have hu := hu_of hr
  have nd := sc_fair_lots.nd
  refine ⟨_, pss_cons (ps_expr (pe_has (dvs := []) h_check_graph hr (passes_call (W := fun cls d _ H => E cls d H) (takes_of rfl rfl rfl rfl) (fun _ _ _ _ z => z)) (pa_cons (pv 0) (pa_cons (pv 1) pa_nil))))
    (pss_cons (ps_set (i := 2) nd rfl (Or.inl rfl) (pe_has (dvs := []) h_leaving_arcs hr passL (pa_cons (pv 0) (pa_cons (pv 1) pa_nil))))
    (pss_cons (ps_set (i := 3) nd rfl (Or.inl rfl) (pe_lst pa_nil))
    (pss_cons (ps_set (i := 4) nd rfl (Or.inl rfl) (pe_lst (pa_cons (pe_listRg rfl (by rfl) T.b_list (prg_1 (by rfl) T.b_range (pe_callB call_len_seq (by rfl) T.b_len (by decide +kernel) (pa_cons (pv 0) pa_nil)))) pa_nil)))
    (pss_cons (ps_while (passes_of rfl) (pt_cmpR (op_neD hr.units) (pv 4) (pe_lst pa_nil) (nomark _))
      (pss_cons (ps_set (i := 5) nd rfl (Or.inl rfl) (pe_bm0 PySem.F.plainAttrs_list PySem.F.slot_list_pop PySem.F.type_list_pop mt_pop (pv 4)))
        (pss_one (ps_for (passes_of rfl) rfl (pi_list (pe_has (dvs := []) h_tied_parts hr passL (pa_cons (pv 1) (pa_cons (pe_has (dvs := []) h_arcs_within hr passL (pa_cons (pv 1) (pa_cons (pv 2) (pa_cons (pv 5) pa_nil)))) pa_nil)))) (pg_name (i := 6) nd rfl (Or.inl rfl))
          (pss_cons (ps_set (i := 7) nd rfl (Or.inr rfl) (pe_has (dvs := []) h_keys_within hr passL (pa_cons (pv 1) (pa_cons (pv 2) (pa_cons (pv 6) pa_nil)))))
            (pss_cons (ps_setLc (i := 8) (own := [("vertex", 9)]) (g := (gName 9)) (tt := (e_fair_lots_7 K E)) rfl nd rfl rfl (sw_true rfl rfl rfl (by decide +kernel)) (pi_list (pv 6)) (blkOk_by (by rfl)) (fun _ _ _ _ _ => pg_name (i := 9) nd rfl (Or.inl rfl)) (fun _ _ _ _ _ => (pts_one (pt_val (pe_has (sp := sp_is_content K) (dvs := []) h_is_content hr passL (pa_cons (pv 0) (pa_cons (pv 9) (pa_cons (pv 7) pa_nil))))))) (fun _ _ _ _ _ => (pv 9)))
            (pss_one (ps_if (pt_cmpR op_eq (pe_callB call_len_seq (by rfl) T.b_len (by decide +kernel) (pa_cons (pv 8) pa_nil)) (pe_callB call_len_seq (by rfl) T.b_len (by decide +kernel) (pa_cons (pv 6) pa_nil)) (nomark _))
              (pss_one (ps_expr (pe_bm PySem.F.plainAttrs_list PySem.F.slot_list_append PySem.F.type_list_append mt_append (pv 3) (pa_cons (pe_callTy call_tuple_of (by rfl) T.b_tuple (by decide +kernel) (pa_cons (pv 6) pa_nil)) pa_nil))))
              (pss_one (ps_if (pt_cmpR (op_neD hr.units) (pv 8) (pe_lst pa_nil) (nomark _))
                  (pss_one (ps_expr (pe_bm PySem.F.plainAttrs_list PySem.F.slot_list_append PySem.F.type_list_append mt_append (pv 4) (pa_cons (pv 8) pa_nil))))
                  (pss_nil)))))))))))
    (pss_one (ps_ret (pe_callTy call_tuple_of (by rfl) T.b_tuple (by decide +kernel) (pa_cons (pe_callB cr_sortLT (by rfl) T.b_sorted (by decide +kernel) (pa_cons (pv 3) pa_nil)) pa_nil)))))))), ?_⟩
  exact rd_fair_lots h

end
end SF

/-! R89m: the reading of no_lot_paper. -/
namespace SF
open PySem L2
theorem inV_int (k : Int) (l : List Int) : inV (.int k) (l.map .int) = decide (k ∈ l) := by
  unfold inV
  rw [List.any_map]
  induction l with
  | nil => simp
  | cons x l ih =>
    rw [List.any_cons, ih]
    show ((x == k) || decide (k ∈ l)) = _
    by_cases e : x = k
    · subst e; simp
    · have e' : ¬ k = x := fun h => e h.symm
      simp [e, e']
theorem flat_ints (l : List Int) : (l.map V.int).all flatV = true := by
  rw [List.all_map]; exact List.all_eq_true.mpr fun _ _ => rfl
def hasNo (ws : List (List Int)) (k z : Int) : Bool := !inV (.int k) (((ws[z.toNat]?).getD []).map .int)
/-- a comprehension over a part, by a test that changes nothing -/
theorem kept_by {K : Fg} {S H4 : Hp} {l : List (Addr × HO)} {r D : Addr} {p : List Int} (test : Int → Bool) {σ0 : L2.St} {j : Nat} {tt : TT} {te : TE} {g : TG} {vs : List Nat} {Qd : Hp → Prop}
    (w : Owns S H4 l) (hr : S r = some (lstI p)) (hD : H4 D = none) (h1000 : p.length ≤ 1000)
    (hg : ∀ z H R, R (σ0.set j (some (.int z))) H → g (.int z) (wipe σ0 vs) H R) (hwp : ∀ z, wipe (σ0.set j (some (.int z))) vs = wipe σ0 vs)
    (htt : ∀ z H Q, z ∈ p → Ex S H → Q (test z) H → tt (σ0.set j (some (.int z))) H Q)
    (hte : ∀ z H Q, Q (.int z) H → te (σ0.set j (some (.int z))) H Q)
    (q : ∀ H5, Owns S H5 ((D, lstI (p.filter test)) :: l) → Qd H5) :
    ∃ W : Nat → Nat → Hp → Prop, (∃ m, W 0 m (upd H4 D (.lst []))) ∧ ∀ i m H, W i m H →
      ((Itl K r).stop i H ∧ Qd H) ∨ ((Itl K r).go i H ∧ ∃ Nx : Hp → Prop, (∀ H', Nx H' → ∃ m', m' < m ∧ W (i + 1) m' H') ∧ ∀ x H', (Itl K r).yld i H x H' → g x (wipe σ0 vs) H' fun σ2 H2 => wipe σ2 vs = wipe σ0 vs ∧ tt σ2 H2 fun b H3 =>
        if b = true then te σ2 H3 fun y H4 => ∃ acc, H4 D = some (.lst acc) ∧ acc.length < sizeLine ∧ Nx (upd H4 D (.lst (acc ++ [y]))) else Nx H3) := by
  refine lc_list (K := K) (a := r) (xs := p.map .int) (fun i H' => Owns S H' ((D, lstI ((p.take i).filter test)) :: l)) (w.new hD) (fun i H' _ w => .of (w.ex _ _ hr)) ?_ ?_
  · rintro i x H5 hx w5
    obtain ⟨z, hz, rfl⟩ := int_item hx
    refine hg z H5 _ ⟨hwp z, htt z H5 _ (List.mem_of_getElem? hz) w5.ex (iteB (fun c => ?_) (fun c => ?_))⟩
    · refine hte z H5 _ ⟨_, w5.get 0, szl (by rw [List.length_map]; have := List.length_filter_le test (p.take i); rw [List.length_take] at this; omega), ?_⟩
      have := w5.write (o' := .lst (((p.take i).filter test).map .int ++ [.int z])) 0
      rw [take_succ hz, List.filter_append, List.filter_cons, if_pos c, List.filter_nil]
      unfold lstI
      rw [List.map_append]
      exact this
    · rw [take_succ hz, List.filter_append, List.filter_cons, if_neg (by rw [c]; decide), List.filter_nil, List.append_nil]
      exact w5
  · rintro H5 w5
    rw [List.length_map, List.take_length] at w5
    exact q H5 w5
abbrev WM := Int × List Int
def encW (m : WM) : PyData := .tuple [.int m.1, encL m.2]
theorem shaped_W (ls : List WM) : SeqAt.shaped (.list (ls.map encW)) = true :=
  shaped_map (f := encW) (fun l => by simp [encW, encL, PyData.canLay0, PyData.canLayAll0, lay_ints]) (fun l => by simp [encW, encL, PyData.depth, PyData.depthAll, depth_ints]) ls
def sumW (ls : List WM) : Nat := (ls.map fun m => m.2.length).sum
theorem sumW_app (a b : List WM) : sumW (a ++ b) = sumW a + sumW b := by unfold sumW; rw [List.map_append, List.sum_append]
theorem sumW_len : ∀ {ls : List WM}, (∀ m ∈ ls, m.2 ≠ []) → ls.length ≤ sumW ls
  | [], _ => Nat.zero_le _
  | m :: ls, h => by
    have ih := sumW_len (ls := ls) fun q hq => h q (List.mem_cons_of_mem _ hq)
    have h0 : 0 < m.2.length := List.length_pos_iff.mpr (h m List.mem_cons_self)
    show ls.length + 1 ≤ m.2.length + sumW ls
    omega
theorem Rps.refsW {S : Hp} : ∀ {ls : List WM} {xs : List V}, Rps S (ls.map encW) xs → ∀ x ∈ xs, ∃ t : Addr, x = .ref t
  | [], _, h, x, hx => by rw [h.nil'] at hx; cases hx
  | l :: ls, _, h, x, hx => by
    obtain ⟨v, vs, rfl, h1, h2⟩ := Rps.cons' (ds := ls.map encW) h
    rcases List.mem_cons.mp hx with rfl | hx
    · obtain ⟨a, _, rfl, _⟩ := h1.tup'; exact ⟨a, rfl⟩
    · exact Rps.refsW h2 x hx
/-- the steps and what waits -/
structure PL (n : Nat) (S H : Hp) (s w : Addr) (sl wl : List V) (mss : List WM) : Prop where
  own : Owns S H [(s, .lst sl), (w, .lst wl)]
  rps : Rps S (mss.map encW) wl
  stp : ∀ x ∈ sl, ∃ t : Addr, x = .ref t
  mem : ∀ m ∈ mss, m.2 ≠ [] ∧ Memb n m.2
section
variable {n : Nat} {S S' H H' : Hp} {s w : Addr} {sl sl' wl : List V} {mss : List WM}
theorem PL.call (h : PL n S H s w sl wl mss) (e : Ex H H') : PL n S H' s w sl wl mss := ⟨h.own.call e, h.rps, h.stp, h.mem⟩
theorem PL.base (h : PL n S H s w sl wl mss) (e : Ex S S') (o : Owns S' H' [(s, .lst sl), (w, .lst wl)]) : PL n S' H' s w sl wl mss := ⟨o, h.rps.up e, h.stp, h.mem⟩
theorem PL.step (h : PL n S H s w sl wl mss) {t : Addr} : PL n S (upd H s (.lst (sl ++ [.ref t]))) s w (sl ++ [.ref t]) wl mss :=
  ⟨h.own.write 0, h.rps, fun x hx => by
    rcases List.mem_append.mp hx with hx | hx
    · exact h.stp x hx
    · exact ⟨t, List.mem_singleton.mp hx⟩, h.mem⟩
theorem PL.wl_len (h : PL n S H s w sl wl mss) : wl.length ≤ sumW mss := by
  rw [h.rps.length, List.length_map]; exact sumW_len fun p hp => (h.mem p hp).1
end
/-- the parts that are still to come -/
def rem (ps : List (List Int)) (i : Nat) : Nat := (ps.take (ps.length - i)).flatten.length
theorem rem_zero (ps : List (List Int)) : rem ps 0 = ps.flatten.length := by unfold rem; rw [Nat.sub_zero, List.take_length]
theorem rem_at {ps : List (List Int)} {i : Nat} {p : List Int} (hi : i < ps.length) (h : ps[ps.length - 1 - i]? = some p) : rem ps i = p.length + rem ps (i + 1) := by
  unfold rem
  have e : ps.length - i = (ps.length - 1 - i) + 1 := by omega
  have e2 : ps.length - (i + 1) = ps.length - 1 - i := by omega
  rw [e, e2, take_succ h, List.flatten_append, List.flatten_singleton, List.length_append]
  omega
section
variable {K : Fg} {vs : List V} {H : Hp} {Q : VK} {E : XK}
def PW_ (n : Nat) (S0 : Hp) (vw va vl : V) (s w : Addr) (m : Nat) (σ : L2.St) (H' : Hp) : Prop := ∃ S sl wl mss, ∃ c : Int, ∃ u6 u7 u8 u9 u10 u11 u12 u13, σ = [some vw, some va, some vl, some (.ref s), some (.int c), some (.ref w), u6, u7, u8, u9, u10, u11, u12, u13] ∧ Ex S0 S ∧ PL n S H' s w sl wl mss ∧
  sl.length + 2 * sumW mss ≤ 2 * n ∧ m = sumW mss
def PP (n : Nat) (S1 : Hp) (vw va vl vp : V) (s w : Addr) (ps : List (List Int)) (tot i : Nat) (σ : L2.St) (H' : Hp) : Prop := ∃ S sl wl mss, ∃ c z : Int, ∃ u7 u9 u10 u11 u12 u13, σ = [some vw, some va, some vl, some (.ref s), some (.int c), some (.ref w), some (.int z), u7, some vp, u9, u10, u11, u12, u13] ∧ Ex S1 S ∧ PL n S H' s w sl wl mss ∧
  sl.length + 2 * sumW mss + 2 * rem ps i ≤ 2 * n ∧ sumW mss + rem ps i ≤ tot ∧ (i = 0 → sumW mss + 1 ≤ tot) ∧ (0 < i → sumW mss + rem ps i + 1 ≤ tot)
theorem nl_1 {n : Nat} {S1 : Hp} {vw va vl vp : V} {s w : Addr} {ps : List (List Int)} {tot i : Nat} {D : Ends} {σ : L2.St} {c z pl : Int} {u7 u10 u11 u12 u13 : Option V} {S H' : Hp} {sl wl : List V} {mss : List WM}
    (hσ : σ = [some vw, some va, some vl, some (.ref s), some (.int c), some (.ref w), some (.int z), u7, some vp, some (.int pl), u10, u11, u12, u13]) (eS : Ex S1 S) (h : PL n S H' s w sl wl mss)
    (b1 : sl.length + 2 * sumW mss + 2 * rem ps (i + 1) ≤ 2 * n) (b2 : sumW mss + rem ps (i + 1) + 1 ≤ tot)
    (k : ∀ σ' H2, PP n S1 vw va vl vp s w ps tot (i + 1) σ' H2 → D.nx σ' H2) : t_no_lot_paper_1 K E D σ H' := by
  subst hσ
  refine ⟨_, rfl, _, _, rfl, rfl, _, rfl, iteB (fun _ => ?_) (fun _ => ?_)⟩
  · exact ⟨_, rfl, _, rfl, _, _, rfl, rfl, k _ _ ⟨S, sl, wl, mss, _, _, _, _, _, _, _, _, rfl, eS, h, b1, by omega, fun e => absurd e (by omega), fun _ => b2⟩⟩
  · exact k _ _ ⟨S, sl, wl, mss, _, _, _, _, _, _, _, _, rfl, eS, h, b1, by omega, fun e => absurd e (by omega), fun _ => b2⟩
theorem nl_2 {n : Nat} {S1 : Hp} {ws : List (List Int)} {va vl vp : V} {s w aw : Addr} {ps : List (List Int)} {p : List Int} {r : Addr} {tot i : Nat} {D : Ends} (hlen : ws.length = n) (h50 : n ≤ 50) (hw : Rp S1 (encLL ws) (.ref aw)) (hi : i < ps.length)
    (hp : ps[ps.length - 1 - i]? = some p) (M : Memb n p) (hr : S1 r = some (lstI p)) {σ : L2.St} {c z pl key x : Int} {wx : List Int} (hx : x ∈ p) (hwx : ws[x.toNat]? = some wx) (hkey : key ∈ wx) {u7 u12 u13 : Option V} {S H' : Hp} {sl wl : List V} {mss : List WM}
    (hσ : σ = [some (.ref aw), some va, some vl, some (.ref s), some (.int c), some (.ref w), some (.int z), u7, some vp, some (.int pl), some (.ref r), some (.int key), u12, u13]) (eS : Ex S1 S) (h : PL n S H' s w sl wl mss)
    (b1 : sl.length + 2 * sumW mss + 2 * rem ps i ≤ 2 * n + 1) (b2 : sumW mss + rem ps i ≤ tot)
    (k : ∀ σ' H2, PP n S1 (.ref aw) va vl vp s w ps tot (i + 1) σ' H2 → D.nx σ' H2) : t_no_lot_paper_2 K E D σ H' := by
  subst hσ
  have hdf := rem_at hi hp
  have hp1 : 0 < p.length := List.length_pos_of_mem hx
  have hpl := M.len_le
  refine ⟨_, rfl, tyL (h.own.get 0), _, rfl, _, rfl, (by show 3 ≤ sizeLine; decide), fun p6 hp6 => ?_⟩
  have h1 := h.call (Ex.new (o := .tup [.int z, .str "key", .int key]) hp6)
  refine ⟨s, sl, _, rfl, rfl, h1.own.get 0, szl (by omega), ?_⟩
  have h2 := h1.step (t := p6)
  refine ⟨_, rfl, r, rfl, ⟨_, .of (h2.own.ex _ _ (eS _ _ hr))⟩, fun C hC => ?_⟩
  obtain ⟨aw', xw, eaw, ew, lw, iw⟩ := encLL_at hw
  cases eaw
  refine kept_by (hasNo ws key) (j := 13) (p := p) h2.own (eS _ _ hr) hC (by omega) (fun z H R q => q) (fun z => rfl) (fun z H Q hz eH q => ?_) (fun z H Q q => ⟨_, rfl, q⟩) fun H5 w5 => ?_
  · have hzr := M.rng z hz
    obtain ⟨l, hl⟩ := some_at (l := ws) (i := z.toNat) (by omega)
    obtain ⟨rl, hxl, hrl⟩ := iw _ _ hl
    refine ⟨_, rfl, _, rfl, _, rfl, aw, xw, z, _, rfl, rfl, .of (eH _ _ (eS _ _ ew)), at_int hzr.1 hxl, rl, l.map .int, rfl, .inl (.of (eH _ _ (eS _ _ hrl))), rfl, flat_ints l, _, rfl, ?_⟩
    have e : hasNo ws key z = !inV (.int key) (l.map .int) := by unfold hasNo; rw [hl]; rfl
    rw [e] at q
    exact q
  · have hacc : (p.filter (hasNo ws key)).length < p.length := by
      rcases Nat.lt_or_ge (p.filter (hasNo ws key)).length p.length with q | q
      · exact q
      · have e := List.filter_eq_self.mp ((List.filter_sublist (p := hasNo ws key) (l := p)).eq_of_length_le q) x hx
        unfold hasNo at e
        rw [hwx] at e
        rw [show (some wx).getD ([] : List Int) = wx from rfl, inV_int, decide_eq_true hkey] at e
        cases e
    generalize hac : p.filter (hasNo ws key) = acc at w5 hacc
    have hsub : acc.Sublist p := hac ▸ List.filter_sublist
    have wf : Owns S H5 [(s, .lst (sl ++ [.ref p6])), (w, .lst wl)] := w5.drop 0
    refine ⟨_, rfl, Nat.zero_le _, fun p8 hp8 => neNil (rp_ints (w5.get 0)) (shaped_ints _) hp8 ⟨_, rfl, iteN (fun c2 => ?_) (fun c2 => ?_)⟩⟩
    · have ha0 : acc ≠ [] := by rintro rfl; simp at c2
      have w6 := w5.call (Ex.new (o := .lst []) hp8)
      have w7 := w6.freeze 0
      have e7 := w6.freezeEx 0
      refine ⟨_, rfl, tyL (w6.get 2), _, rfl, _, rfl, (by show 2 ≤ sizeLine; decide), fun p7 hp7 => ?_⟩
      have w8 := w7.grow (o := .tup [.int z, .ref C]) hp7
      have e8 := w7.growEx (o := .tup [.int z, .ref C]) hp7
      have hwl := h2.wl_len
      refine ⟨w, wl, _, rfl, rfl, w8.get 1, szl (by omega), ?_⟩
      have h9 : PL n (upd (upd S C (lstI acc)) p7 (.tup [.int z, .ref C])) _ s w (sl ++ [.ref p6]) (wl ++ [.ref p7]) (mss ++ [(z, acc)]) := ⟨w8.write 1, by
        rw [List.map_append]
        exact (h2.rps.up (e7.trans e8)).append (.cons (.tup upd_same (.cons (.int z) (.cons (.lst (e8 _ _ upd_same) (.ints acc)) .nil))) .nil), h2.stp, fun m hm => by
        rcases List.mem_append.mp hm with hm | hm
        · exact h2.mem m hm
        · cases List.mem_singleton.mp hm; exact ⟨ha0, M.sub hsub⟩⟩
      have es : sumW (mss ++ [(z, acc)]) = sumW mss + acc.length := by rw [sumW_app]; simp [sumW]
      exact nl_1 (K := K) (E := E) rfl (eS.trans (e7.trans e8)) h9 (by rw [es, List.length_append, List.length_singleton]; omega) (by rw [es]; omega) k
    · exact nl_1 (K := K) (E := E) rfl eS (h2.base (Ex.refl _) (wf.call (Ex.new hp8))) (by rw [List.length_append, List.length_singleton]; omega) (by omega) k
end
end SF

/-! R89n: the reading of no_lot_paper, whole. -/
namespace SF
open PySem L2
section
variable {K : Fg} {vs : List V} {H : Hp} {Q : VK} {E : XK}
theorem nl_3 {n : Nat} {S1 : Hp} {ws : List (List Int)} {as : List Arc} {ls : List (List Int)} {va vl vp : V} {s w aw : Addr} {ps : List (List Int)} {p : List Int} {r : Addr} {tot i : Nat} {D : Ends} (Va : Valid n ws as) (h50 : n ≤ 50) (L : Leav as n ls) (hw : Rp S1 (encLL ws) (.ref aw)) (ha : Rp S1 (encAs as) va) (hl : Rp S1 (encLL ls) vl) (hi : i < ps.length)
    (hp : ps[ps.length - 1 - i]? = some p) (M : Memb n p) (hr : S1 r = some (lstI p)) {σ : L2.St} {c z pl : Int} {u7 u11 u12 u13 : Option V} {S H' : Hp} {sl wl : List V} {mss : List WM}
    (hσ : σ = [some (.ref aw), some va, some vl, some (.ref s), some (.int c), some (.ref w), some (.int z), u7, some vp, some (.int pl), some (.ref r), u11, u12, u13]) (eS : Ex S1 S) (h : PL n S H' s w sl wl mss)
    (b1 : sl.length + 2 * sumW mss + 2 * rem ps i ≤ 2 * n + 1) (b2 : sumW mss + rem ps i ≤ tot) (kr : ∀ H2, Ex S1 H2 → D.rt .non H2)
    (k : ∀ σ' H2, PP n S1 (.ref aw) va vl vp s w ps tot (i + 1) σ' H2 → D.nx σ' H2) : t_no_lot_paper_3 K E D σ H' := by
  subst hσ
  refine ⟨_, rfl, _, rfl, _, rfl, _, rfl, _, rfl, n, ws, as, ls, p, va, vl, .ref r, rfl, ha.up (eS.trans h.own.ex), hl.up (eS.trans h.own.ex), rp_ints (h.own.ex _ _ (eS _ _ hr)), Va, L, M, fun H4 d kvs e4 hd => ?_⟩
  refine ⟨ws, p, _, _, d, kvs, rfl, hw.up (eS.trans (h.own.ex.trans e4)), rp_ints (e4 _ _ (h.own.ex _ _ (eS _ _ hr))), fun x hx => by rw [Va.len]; exact M.rng x hx, hd, fun H5 e5 => ?_, fun H5 key x wx e5 hx hwx hkey => ?_⟩
  · exact ⟨_, rfl, rfl, _, rfl, ifT (by simp) (kr _ (eS.trans (h.own.ex.trans (e4.trans e5))))⟩
  · exact ⟨_, rfl, rfl, _, rfl, ifF (by simp) (nl_2 Va.len h50 hw hi hp M hr hx hwx hkey rfl eS (h.call (e4.trans e5)) b1 b2 k)⟩
theorem nl_4 {n : Nat} {S1 : Hp} {ws : List (List Int)} {as : List Arc} {ls : List (List Int)} {va vl : V} {s w aw ap : Addr} {xp : List V} {ps : List (List Int)} {p : List Int} {r : Addr} {tot i : Nat} {D : Ends} (Va : Valid n ws as) (h50 : n ≤ 50) (L : Leav as n ls) (hw : Rp S1 (encLL ws) (.ref aw)) (ha : Rp S1 (encAs as) va) (hl : Rp S1 (encLL ls) vl) (hi : i < ps.length)
    (hp : ps[ps.length - 1 - i]? = some p) (M : Memb n p) (hr : S1 r = some (lstI p)) (hap : S1 ap = some (.lst xp)) (hxp : xp.length = ps.length) (hx : xp[ps.length - 1 - i]? = some (.ref r)) {σ : L2.St} {c z pl : Int} (hpl : pl = (ps.length : Int) - 1 + (i : Nat) * -1) {u7 u10 u11 u12 u13 : Option V} {S H' : Hp} {sl wl : List V} {mss : List WM}
    (hσ : σ = [some (.ref aw), some va, some vl, some (.ref s), some (.int c), some (.ref w), some (.int z), u7, some (.ref ap), some (.int pl), u10, u11, u12, u13]) (eS : Ex S1 S) (h : PL n S H' s w sl wl mss)
    (b1 : sl.length + 2 * sumW mss + 2 * rem ps i ≤ 2 * n) (b2 : sumW mss + rem ps i ≤ tot) (kr : ∀ H2, Ex S1 H2 → D.rt .non H2)
    (k : ∀ σ' H2, PP n S1 (.ref aw) va vl (.ref ap) s w ps tot (i + 1) σ' H2 → D.nx σ' H2) : t_no_lot_paper_4 K E D σ H' := by
  subst hσ
  refine ⟨_, rfl, _, rfl, ap, xp, pl, _, rfl, rfl, .of (h.own.ex _ _ (eS _ _ hap)), at_of (j := ps.length - 1 - i) (by omega) hx, _, rfl, _, _, rfl, rfl, _, rfl, iteB (fun _ => ?_) (fun _ => ?_)⟩
  · refine ⟨_, rfl, tyL (h.own.get 0), _, rfl, _, rfl, r, _, rfl, .inl ⟨.of (h.own.ex _ _ (eS _ _ hr)), fun t ht => ⟨(by show 3 ≤ sizeLine; decide), fun p5 hp5 => ?_⟩⟩⟩
    have h1 := h.call ((Ex.new (o := .tup (p.map .int)) ht).trans (Ex.new (o := .tup [.int z, .str "apart", .ref t]) hp5))
    refine ⟨s, sl, _, rfl, rfl, h1.own.get 0, szl (by omega), ?_⟩
    exact nl_3 Va h50 L hw ha hl hi hp M hr rfl eS (h1.step (t := p5)) (by rw [List.length_append, List.length_singleton]; omega) b2 kr k
  · exact nl_3 Va h50 L hw ha hl hi hp M hr rfl eS h (by omega) b2 kr k
theorem rd_no_lot_paper (h : sp_no_lot_paper K vs H Q E) : t_no_lot_paper K E { nx := fun _ H' => Q .non H', rt := Q } (start ["wants", "arcs", "leaving", "steps", "many", "waiting", "number", "members", "parts", "place", "part", "key", "kept", "vertex"] vs) H := by
  obtain ⟨dw, da, vw, va, ms, rfl, hw, ha, hl, hms, h⟩ := h
  subst hms
  rcases h with ⟨p, hp, b⟩ | ⟨n, ws, as, rfl, rfl, h0, h50, h200, Va, _, k⟩
  · exact ⟨_, rfl, _, rfl, ck_bad hw ha hl hp b⟩
  · refine ⟨_, rfl, _, rfl, ck_ok hw ha Va fun H1 e1 => ?_⟩
    obtain ⟨aw, xw, rfl, ew, lw, iw⟩ := encLL_at hw
    have hn : xw.length = n := by rw [lw, Va.len]
    refine ⟨_, rfl, _, rfl, n, ws, as, _, _, rfl, hw.up e1, ha.up e1, Va, fun H2 vl ls e2 hls L => ?_⟩
    have e12 := e1.trans e2
    refine ⟨Nat.zero_le _, fun f hf => ?_⟩
    have w1 := (Owns.none H2).new (o := .lst []) hf
    refine ⟨_, rfl, aw, xw, rfl, .inl (.of (w1.ex _ _ (e12 _ _ ew))), _, rfl, RgOk.of_le (Int.le_refl 0) (by omega) (by omega) (by omega), fun p4 hp4 => ⟨(by show 2 ≤ sizeLine; decide), fun p3 hp3 => ⟨(by show 1 ≤ sizeLine; decide), fun w hw' => ?_⟩⟩⟩
    rw [hn, rgV_eq] at hp3 hw' ⊢
    have w2 := w1.grow (o := .lst ((rngI n).map .int)) hp4
    have e0a : Ex H2 (upd H2 p4 (.lst ((rngI n).map .int))) := w1.growEx hp4
    have w2b := w2.grow (o := .tup [.int 0, .ref p4]) hp3
    have e0b := w2.growEx (o := .tup [.int 0, .ref p4]) hp3
    have w3 := w2b.newE (o := .lst [.ref p3]) hw'
    have gp4 : (upd (upd H2 p4 (.lst ((rngI n).map .int))) p3 (.tup [.int 0, .ref p4])) p4 = some (lstI (rngI n)) := e0b _ _ upd_same
    have e0 := e0a.trans e0b
    generalize hS0 : upd (upd H2 p4 (.lst ((rngI n).map .int))) p3 (.tup [.int 0, .ref p4]) = S0 at w3 e0 gp4
    have gp3 : S0 p3 = some (.tup [.int 0, .ref p4]) := by rw [← hS0]; exact upd_same
    have eH0 := e12.trans e0
    refine ⟨fun m σ H' => PW_ n S0 (.ref aw) va vl f w m σ H', ⟨_, S0, [], [.ref p3], [(0, rngI n)], _, _, _, _, _, _, _, _, _, rfl, Ex.refl _, ⟨w3, .cons (.tup gp3 (.cons (.int 0) (.cons (.lst gp4 (.ints _)) .nil))) .nil, (fun x hx => by cases hx), fun m hm => ?_⟩, ?_, rfl⟩, ?_⟩
    · cases List.mem_singleton.mp hm
      exact ⟨fun e => by have := rng_len n; rw [show rngI n = [] from e] at this; simp at this; omega, memb_rng n⟩
    · simp [sumW, rng_len]
    · rintro m σ H3 ⟨S, sl, wl, mss, c, u6, u7, u8, u9, u10, u11, u12, u13, rfl, eS, h3, b1, rfl⟩
      refine ⟨_, rfl, Nat.zero_le _, fun p5 hp5 => neNil (.lst (h3.own.get 1) (h3.rps.up h3.own.ex)) (shaped_W mss) hp5 ⟨_, rfl, ?_⟩⟩
      have h4 := h3.call (Ex.new (o := .lst []) hp5)
      rcases List.eq_nil_or_concat mss with rfl | ⟨mss', ms, hmm⟩
      · refine iteF ?_
        exact ⟨_, rfl, f, sl, rfl, .inl ⟨.of (h4.own.get 0), fun l hl => k _ _ (eH0.trans (eS.trans (h4.own.ex.trans (Ex.new hl))))⟩⟩
      · rw [List.concat_eq_append] at hmm
        subst hmm
        have en : ((mss' ++ [ms]).map encW).isEmpty = false := by simp
        rw [en]
        refine go_on ?_
        have rps := h4.rps
        rw [List.map_append] at rps
        obtain ⟨wl', zs, rfl, r1, r2⟩ := rps.split
        obtain ⟨vt, rfl, r3⟩ := r2.one
        obtain ⟨at_, ys, rfl, et, r4⟩ := r3.tup'
        obtain ⟨vz, _, rfl, q1, r4⟩ := r4.cons'
        obtain ⟨vm, _, rfl, q2, r4⟩ := r4.cons'
        cases r4.nil'
        cases q1.int'
        obtain ⟨am, rfl, em⟩ := encL_at q2
        have hmm := h4.mem ms (by simp)
        refine ⟨_, rfl, tyL (h4.own.get 1), w, _, .ref at_, rfl, rfl, h4.own.get 1, by simp, ?_⟩
        rw [List.dropLast_concat]
        have w5 := h4.own.write (o' := .lst wl') 1
        have h5 : PL n S _ f w sl wl' mss' := ⟨w5, r1, h4.stp, fun m hm => h4.mem m (List.mem_append_left _ hm)⟩
        have eb := eS.trans w5.ex
        have tl : sumW (mss' ++ [ms]) = sumW mss' + ms.2.length := by rw [sumW_app]; simp [sumW]
        have ms0 : 0 < ms.2.length := List.length_pos_iff.mpr hmm.1
        refine ⟨at_, _, rfl, .of (w5.ex _ _ et), rfl, _, _, rfl, _, _, rfl, rfl, ?_⟩
        refine ⟨_, rfl, _, rfl, _, rfl, _, rfl, parts_of (ha.up (eH0.trans eb)) (hls.up (e0.trans eb)) (rp_ints (w5.ex _ _ em)) Va L hmm.2 fun H6 ap ps e6 hfree hps P => ?_⟩
        obtain ⟨ap', xp, eap, ep, lp, ip⟩ := encLL_at hps
        cases eap
        obtain ⟨S1, eS1, w6, hS1⟩ := w5.growAll e6
        have h6 := h5.base eS1 w6
        have hpp := parts_len hmm.2 P
        have hpn : ps.length ≤ ps.flatten.length := flat_len fun p hp => (P.sub p hp).1
        have hmn := hmm.2.len_le
        have gap : S1 ap = some (.lst xp) := hS1 _ _ ep (fun q hq => by
          have := w5.here q hq
          intro e
          rw [e, hfree] at this; cases this)
        have e01 : Ex S0 S1 := eS.trans eS1
        refine ⟨_, rfl, ap, xp, rfl, .inl (.of ep), _, _, rfl, rfl, _, rfl, _, rfl, _, _, _, ps.length, rfl, ?_, ?_⟩
        · rw [lp]
          have q := RgC.neg (i := (ps.length : Int) - 1) (j := -1) (by omega) (by omega) (by omega) (by omega)
          have e : ((ps.length : Int) - 1 - -1).toNat = ps.length := by omega
          rw [e] at q
          exact q
        · refine for_rangeC (lo := (xp.length : Int) - 1) (c := -1) (n := ps.length) (fun i => PP n S1 (.ref aw) va vl (.ref ap) f w ps (sumW (mss' ++ [ms])) i) ⟨S1, sl, wl', mss', _, _, _, _, _, _, _, _, rfl, Ex.refl _, h6, by rw [rem_zero]; omega, by rw [rem_zero]; omega, fun _ => by omega, fun e => absurd e (by omega)⟩ ?_ ?_
          · rintro i σ H7 hi ⟨S, sl', wl'', mss'', c7, z7, v7, v9, v10, v11, v12, v13, rfl, eS7, h7, c1, c2, _, _⟩
            obtain ⟨p, hp⟩ := some_at (l := ps) (i := ps.length - 1 - i) (by omega)
            obtain ⟨r, hxr, hr⟩ := ip _ p hp
            have hpm := List.mem_of_getElem? hp
            have hp0 := (P.sub p hpm).1
            have hrS : S1 r = some (lstI p) := hS1 _ _ hr (fun q hq => by
              rcases List.mem_cons.mp hq with rfl | hq
              · exact ints_ne hr hp0 (w6.get 0) h6.stp
              · cases List.mem_singleton.mp hq
                exact ints_ne hr hp0 (w6.get 1) h6.rps.refsW)
            exact nl_4 (tot := sumW (mss' ++ [ms])) Va h50 L (hw.up (eH0.trans e01)) (ha.up (eH0.trans e01)) (hls.up (e0.trans e01)) hi hp (part_memb hmm.2 P hpm) hrS gap lp hxr (by rw [lp]) rfl eS7 h7 c1 c2 (fun H2 e => k _ _ (eH0.trans (e01.trans e))) fun σ' H2 q => q
          · rintro σ H7 ⟨S, sl', wl'', mss'', c7, z7, v7, v9, v10, v11, v12, v13, rfl, eS7, h7, c1, c2, c3, c4⟩
            refine ⟨sumW mss'', ?_, S, sl', wl'', mss'', _, _, _, _, _, _, _, _, _, rfl, e01.trans eS7, h7, by omega, rfl⟩
            rcases Nat.eq_zero_or_pos ps.length with e | e
            · have := c3 e; omega
            · have := c4 e; omega
end
end SF


namespace SF
open PySem L2
section
variable {P : Program} {w : World} {K : Fg} {mg : Str → Option Value} {base : Heap}
abbrev s_no_lot_paper : Stmt := top 26
theorem sc_no_lot_paper : FnScope ["wants", "arcs", "leaving", "steps", "many", "waiting", "number", "members", "parts", "place", "part", "key", "kept", "vertex"] ["wants", "arcs"] (defScope s_no_lot_paper) := ⟨rfl, rfl, rfl, by decide +kernel, rfl, by decide +kernel, by decide +kernel⟩
theorem ok_no_lot_paper (T : Txt K mg) {fd : FuncData} (F : FunD K "no_lot_paper" "no_lot_paper" (defArgs s_no_lot_paper) (defBody s_no_lot_paper) (defScope s_no_lot_paper) [] [] (ga K "no_lot_paper") fd) (h_check_graph : Has P w K mg base 4 "check_graph" ["wants", "arcs"] [[]] (sp_check_graph K)) (h_leaving_arcs : Has P w K mg base 1 "leaving_arcs" ["wants", "arcs"] [[]] (sp_leaving_arcs K)) (h_arcs_within : Has P w K mg base 1 "arcs_within" ["arcs", "leaving", "members"] [[]] (sp_arcs_within K)) (h_tied_parts : Has P w K mg base 2 "tied_parts" ["arcs", "within"] [[]] (sp_tied_parts K)) (h_keys_within : Has P w K mg base 2 "keys_within" ["arcs", "leaving", "part"] [[]] (sp_keys_within K)) (h_first_missing : Has P w K mg base 1 "first_missing" ["wants", "part", "given"] [[]] (sp_first_missing K)) : FnOk P w K mg base (L2.CX P w) 5 (ga K "no_lot_paper") fd ["wants", "arcs"] (sp_no_lot_paper K) := by
  refine F.ok sc_no_lot_paper (fun vs H Q E h => len_no_lot_paper h) (fun cdv A outer s H vs Q E hr h => ?_)
  have hu := hu_of hr
  have nd := sc_no_lot_paper.nd
  refine ⟨_, pss_cons (ps_expr (pe_has (dvs := []) h_check_graph hr (passes_call (W := fun cls d _ H => E cls d H) (takes_of rfl rfl rfl rfl) (fun _ _ _ _ z => z)) (pa_cons (pv 0) (pa_cons (pv 1) pa_nil))))
    (pss_cons (ps_set (i := 2) nd rfl (Or.inl rfl) (pe_has (dvs := []) h_leaving_arcs hr passL (pa_cons (pv 0) (pa_cons (pv 1) pa_nil))))
    (pss_cons (ps_set (i := 3) nd rfl (Or.inl rfl) (pe_lst pa_nil))
    (pss_cons (ps_set (i := 4) nd rfl (Or.inl rfl) (pe_int))
    (pss_cons (ps_set (i := 5) nd rfl (Or.inl rfl) (pe_lst (pa_cons (pe_tup (pa_cons (pe_int) (pa_cons (pe_listRg rfl (by rfl) T.b_list (prg_1 (by rfl) T.b_range (pe_callB call_len_seq (by rfl) T.b_len (by decide +kernel) (pa_cons (pv 0) pa_nil)))) pa_nil))) pa_nil)))
    (pss_cons (ps_while (passes_of rfl) (pt_cmpR (op_neD hr.units) (pv 5) (pe_lst pa_nil) (nomark _))
      (pss_cons (ps_asg (pe_bm0 PySem.F.plainAttrs_list PySem.F.slot_list_pop PySem.F.type_list_pop mt_pop (pv 5)) (pg_tup (by rfl) (pgs_cons (pg_name (i := 6) nd rfl (Or.inl rfl)) (pgs_cons (pg_name (i := 7) nd rfl (Or.inl rfl)) pgs_nil))))
        (pss_cons (ps_set (i := 8) nd rfl (Or.inl rfl) (pe_has (dvs := []) h_tied_parts hr passL (pa_cons (pv 1) (pa_cons (pe_has (dvs := []) h_arcs_within hr passL (pa_cons (pv 1) (pa_cons (pv 2) (pa_cons (pv 7) pa_nil)))) pa_nil))))
        (pss_one (ps_for (passes_of rfl) rfl (pi_range3 (by rfl) T.b_range (pa_cons (pe_op op_sub (pe_callB call_len_seq (by rfl) T.b_len (by decide +kernel) (pa_cons (pv 8) pa_nil)) (pe_int)) (pa_cons (pe_un un_neg (pe_int)) (pa_cons (pe_un un_neg (pe_int)) pa_nil)))) (pg_name (i := 9) nd rfl (Or.inl rfl))
          (pss_cons (ps_set (i := 10) nd rfl (Or.inl rfl) (pe_ix ix_list (pv 8) (pv 9) (fun _ _ => rfl)))
            (pss_cons (ps_if (pt_cmpR op_gt (pv 9) (pe_int) (nomark _))
              (pss_one (ps_expr (pe_bm PySem.F.plainAttrs_list PySem.F.slot_list_append PySem.F.type_list_append mt_append (pv 3) (pa_cons (pe_tup (pa_cons (pv 6) (pa_cons (pe_str) (pa_cons (pe_callTy call_tuple_of (by rfl) T.b_tuple (by decide +kernel) (pa_cons (pv 10) pa_nil)) pa_nil)))) pa_nil))))
              (pss_nil))
            (pss_cons (ps_set (i := 11) nd rfl (Or.inr rfl) (pe_has (dvs := []) h_first_missing hr passL (pa_cons (pv 0) (pa_cons (pv 10) (pa_cons (pe_has (dvs := []) h_keys_within hr passL (pa_cons (pv 1) (pa_cons (pv 2) (pa_cons (pv 10) pa_nil)))) pa_nil)))))
            (pss_cons (ps_if (pt_cmpR op_isN (pv 11) (pe_non) (nomark _))
              (pss_one (ps_ret (pe_non)))
              (pss_nil))
            (pss_cons (ps_expr (pe_bm PySem.F.plainAttrs_list PySem.F.slot_list_append PySem.F.type_list_append mt_append (pv 3) (pa_cons (pe_tup (pa_cons (pv 6) (pa_cons (pe_str) (pa_cons (pv 11) pa_nil)))) pa_nil)))
            (pss_cons (ps_setLc (i := 12) (own := [("vertex", 13)]) (g := (gName 13)) (tt := (e_no_lot_paper_13 K E)) rfl nd rfl rfl (sw_true rfl rfl rfl (by decide +kernel)) (pi_list (pv 10)) (blkOk_by (by rfl)) (fun _ _ _ _ _ => pg_name (i := 13) nd rfl (Or.inl rfl)) (fun _ _ _ _ _ => (pts_one (pt_cmpR op_notIn_seq (pv 11) (pe_ix ix_list (pv 0) (pv 13) (fun _ _ => rfl)) (by rfl)))) (fun _ _ _ _ _ => (pv 13)))
            (pss_cons (ps_if (pt_cmpR (op_neD hr.units) (pv 12) (pe_lst pa_nil) (nomark _))
              (pss_one (ps_expr (pe_bm PySem.F.plainAttrs_list PySem.F.slot_list_append PySem.F.type_list_append mt_append (pv 5) (pa_cons (pe_tup (pa_cons (pv 6) (pa_cons (pv 12) pa_nil))) pa_nil))))
              (pss_nil))
            (pss_one (ps_if (pt_cmpR op_gt (pv 9) (pe_int) (nomark _))
              (pss_cons (ps_set (i := 6) nd rfl (Or.inl rfl) (pv 4))
                (pss_one (ps_aug (i := 4) nd rfl (Or.inl rfl) (pe_int) ip_add)))
              (pss_nil)))))))))))))))
    (pss_one (ps_ret (pe_callTy call_tuple_of (by rfl) T.b_tuple (by decide +kernel) (pa_cons (pv 3) pa_nil))))))))), ?_⟩
  exact rd_no_lot_paper h

end
end SF

/-! P89d: what the law's own defs promise. -/
namespace SF
open PySem L2
/-- the hand: cells at c, place, rest, total -/
def handO (c : Addr) (p q t : Int) : HO := .lst [.ref c, .int p, .int q, .int t]
def IsHand (c : Addr) (o : HO) : Prop := ∃ p q t, o = handO c p q t ∧ 0 ≤ p
def sp_law_hand (K : Fg) : Sp := fun vs H Q _ => ∃ a, ∃ cells : List Int, vs = [.ref a] ∧ SqL K H a (cells.map .int) ∧ cells.length ≤ 100 ∧
  ∀ H' h c o cs, Ex H H' → H h = none → H c = none → h ≠ c → H' h = some o → IsHand c o → H' c = some (lstI cs) → Q (.ref h) H'
theorem len_law_hand {K vs H Q E} (h : sp_law_hand K vs H Q E) : vs.length = 1 := by obtain ⟨_, _, rfl, _⟩ := h; rfl
def sp_law_mix : Sp := fun vs H Q _ => ∃ i j, vs = [.int i, .int j] ∧ ∀ H' r, Ex H H' → 0 ≤ r → Q (.int r) H'
theorem len_law_mix {vs H Q E} (h : sp_law_mix vs H Q E) : vs.length = 2 := by obtain ⟨_, _, rfl, _⟩ := h; rfl
def sp_law_draw (K : Fg) : Sp := fun vs H Q _ => ∃ a c o cs many, vs = [.ref a, .int many] ∧ H a = some o ∧ IsHand c o ∧ H c = some (lstI cs) ∧ (0 < many ∧ many < 1073741824) ∧
  ∀ H' o' x, But a H H' → H' a = some o' → IsHand c o' → 0 ≤ x → x < many → Q (.int x) H'
theorem len_law_draw {K vs H Q E} (h : sp_law_draw K vs H Q E) : vs.length = 2 := by obtain ⟨_, _, _, _, _, rfl, _⟩ := h; rfl
def sp_law_shuffled (K : Fg) : Sp := fun vs H Q _ => ∃ a r c o cs xs, vs = [.ref a, .ref r] ∧ H a = some o ∧ IsHand c o ∧ H c = some (lstI cs) ∧ r ≠ a ∧ H r = some (.lst xs) ∧ xs.length ≤ 1000 ∧
  ∀ H' o' p ys, But a H H' → H' a = some o' → IsHand c o' → H p = none → H' p = some (.lst ys) → ys.Perm xs → Q (.ref p) H'
theorem len_law_shuffled {K vs H Q E} (h : sp_law_shuffled K vs H Q E) : vs.length = 2 := by obtain ⟨_, _, _, _, _, _, rfl, _⟩ := h; rfl
/-- what a drawn graph is -/
structure Drawn (most : Nat) (ws : List (List Int)) (as : List Arc) : Prop where
  len : ws.length ≤ most
  arcs : as.length ≤ 3 * most
  ends : ∀ a ∈ as, (0 ≤ a.1 ∧ a.1 < (ws.length : Int)) ∧ (0 ≤ a.2.1 ∧ a.2.1 < (ws.length : Int))
  keys : ∀ a ∈ as, a.2.2.length ≤ 3
def sp_law_graph (K : Fg) : Sp := fun vs H Q _ => ∃ S a c o cs, ∃ most : Nat, vs = [.ref a, .int most] ∧ Owns S H [(a, o)] ∧ IsHand c o ∧ S c = some (lstI cs) ∧ most ≤ 8 ∧
  ∀ S' H' o' t vw va ws as, Ex S S' → Owns S' H' [(a, o')] → IsHand c o' → S' t = some (.tup [vw, va]) → Rp S' (encLL ws) vw → Rp S' (encAs as) va → Drawn most ws as → Q (.ref t) H'
theorem len_law_graph {K vs H Q E} (h : sp_law_graph K vs H Q E) : vs.length = 2 := by obtain ⟨_, _, _, _, _, _, rfl, _⟩ := h; rfl
def sp_law_pick (K : Fg) : Sp := fun vs H Q _ => ∃ a r c o cs xs, vs = [.ref a, .ref r] ∧ H a = some o ∧ IsHand c o ∧ H c = some (lstI cs) ∧ r ≠ a ∧ H r = some (.lst xs) ∧ 0 < xs.length ∧ xs.length ≤ 1000 ∧
  ∀ H' o' x, But a H H' → H' a = some o' → IsHand c o' → x ∈ xs → Q x H'
theorem len_law_pick {K vs H Q E} (h : sp_law_pick K vs H Q E) : vs.length = 2 := by obtain ⟨_, _, _, _, _, _, rfl, _⟩ := h; rfl
def sp_law_row (K : Fg) : Sp := fun vs H Q _ => ∃ d v, vs = [v] ∧ Rp H d v ∧ ∀ H', Ex H H' → Q (.bl (isSeqD d)) H'
theorem len_law_row {K vs H Q E} (h : sp_law_row K vs H Q E) : vs.length = 1 := by obtain ⟨_, _, rfl, _⟩ := h; rfl
def excOk (K : Fg) : Prop := PySem.W.kitOne K (.ref (ga K "BadGraph")) (.ref (ga K "FrameError")) = some true ∧ PySem.W.exmOne K (.ref (ga K "BadGraph")) (.ref (ga K "BadGraph")) = some true
def sp_law_graph_word (K : Fg) : Sp := fun vs H Q _ => ∃ dw da vw va, ∃ nm : Int, vs = [.int nm, vw, va] ∧ Rp H dw vw ∧ Rp H da va ∧ (itemsD da).length < 2 ^ 62 ∧ excOk K ∧
  ((∃ p, gFault dw da = some p ∧ ∀ H' t, Ex H H' → H' t = some (.tup [.str p.1, .int p.2, .bl true]) → Q (.ref t) H') ∨
   (∃ n ws as, dw = encLL ws ∧ da = encAs as ∧ 0 < n ∧ n ≤ 50 ∧ as.length ≤ 200 ∧ Valid n ws as ∧ (0 ≤ nm ∧ nm < 5) ∧ ∀ H', Ex H H' → Q .non H'))
theorem len_law_graph_word {K vs H Q E} (h : sp_law_graph_word K vs H Q E) : vs.length = 3 := by obtain ⟨_, _, _, _, _, rfl, _⟩ := h; rfl
def sp_law (K : Fg) : Sp := fun vs H Q _ => ∃ a, ∃ cells : List Int, vs = [.ref a] ∧ SqL K H a (cells.map .int) ∧ cells.length ≤ 63 ∧ excOk K ∧ ∀ H', Ex H H' → Q (.bl true) H'
theorem len_law {K vs H Q E} (h : sp_law K vs H Q E) : vs.length = 1 := by obtain ⟨_, _, rfl, _⟩ := h; rfl
end SF


namespace SF
open PySem L2
abbrev e_law_hand_1 (K : Fg) (E : XK) : TE := (fun σ H Q => ∃ v6, σ[3]? = some (some v6) ∧ rInt1 [v6] H (fun x7 h7 => rAbs [x7] h7 Q))
def t_law_hand_1 (K : Fg) (E : XK) : TS :=
    tAsg (fun σ H Q => ∃ v2, σ[1]? = some (some v2) ∧ oMul v2 (V.int 41) H (fun x1 h1 => ∃ v3, σ[3]? = some (some v3) ∧ rInt1 [v3] h1 (fun x2 h2 => ∃ v4, σ[2]? = some (some v4) ∧ oAdd v4 (V.int 3) h2 (fun x3 h3 => oMul x2 x3 h3 (fun x4 h4 => oAdd x1 x4 h4 (fun x5 h5 => rInt1 [x5] h5 (fun x6 h6 => oMod x6 (V.int 2147483549) h6 Q))))))) (gName 1)
def t_law_hand (K : Fg) (E : XK) : TS :=
    tSeq (tAsg (fun σ H Q => Q (V.int 0) H) (gName 1))
    (tSeq (tFor (iEnum K (fun σ H Q => ∃ v1, σ[0]? = some (some v1) ∧ Q [v1] H)) (gTup K 2 (gCons (gName 2) (gCons (gName 3) gNil)))
      (t_law_hand_1 K E))
    (tRet (fun σ H Q => tLc (fun σ H R => ∃ v5, σ[0]? = some (some v5) ∧ ∃ a, v5 = .ref a ∧ (∃ xs, SqL K H a xs) ∧ R (Itl K a) H) (gName 3) tYes (e_law_hand_1 K E) [3] σ H (fun x8 h8 => ∃ v7, σ[1]? = some (some v7) ∧ 4 ≤ sizeLine ∧ ∀ p1, h8 p1 = none → Q (V.ref p1) (upd h8 p1 (.lst [x8, (V.int 0), (V.int 0), v7]))))))

def t_law_mix (K : Fg) (E : XK) : TS :=
    tSeq (tAsg (fun σ H Q => ∃ v1, σ[0]? = some (some v1) ∧ oMul v1 (V.int 69069) H (fun x1 h1 => ∃ v2, σ[1]? = some (some v2) ∧ oMul v2 (V.int 30011) h1 (fun x2 h2 => oAdd x1 x2 h2 (fun x3 h3 => oAdd x3 (V.int 7) h3 (fun x4 h4 => rInt1 [x4] h4 (fun x5 h5 => oMod x5 (V.int 2147483629) h5 Q)))))) (gName 2))
    (tSeq (tAsg (fun σ H Q => ∃ v3, σ[2]? = some (some v3) ∧ ∃ v4, σ[2]? = some (some v4) ∧ oMul v3 v4 H (fun x6 h6 => ∃ v5, σ[1]? = some (some v5) ∧ oMul v5 (V.int 40503) h6 (fun x7 h7 => oAdd x6 x7 h7 (fun x8 h8 => ∃ v6, σ[2]? = some (some v6) ∧ oFdiv v6 (V.int 977) h8 (fun x9 h9 => oAdd x8 x9 h9 (fun x10 h10 => rInt1 [x10] h10 (fun x11 h11 => oMod x11 (V.int 2147483587) h11 Q))))))) (gName 3))
    (tRet (fun σ H Q => ∃ v7, σ[3]? = some (some v7) ∧ oMul v7 (V.int 48271) H (fun x12 h12 => ∃ v8, σ[2]? = some (some v8) ∧ oAdd x12 v8 h12 (fun x13 h13 => rInt1 [x13] h13 (fun x14 h14 => oMod x14 (V.int 2147483563) h14 (fun x15 h15 => oFdiv x15 (V.int 8) h15 Q)))))))

abbrev e_law_draw_1 (K : Fg) (E : XK) : TE := (fun σ H Q => ∃ v1, σ[0]? = some (some v1) ∧ rIxL K v1 (V.int 0) H (fun x1 h1 => ∃ v2, σ[0]? = some (some v2) ∧ rIxL K v2 (V.int 1) h1 (fun x2 h2 => rIxL K x1 x2 h2 Q)))
abbrev e_law_draw_2 (K : Fg) (E : XK) : TE := (fun σ H Q => ∃ v4, σ[0]? = some (some v4) ∧ rIxL K v4 (V.int 1) H (fun x3 h3 => oAdd x3 (V.int 1) h3 Q))
abbrev e_law_draw_3 (K : Fg) (E : XK) : TE := (fun σ H Q => ∃ v5, σ[2]? = some (some v5) ∧ rInt1 [v5] H (fun x4 h4 => oMod x4 (V.int 2147483629) h4 (fun x5 h5 => ∃ v6, σ[0]? = some (some v6) ∧ rIxL K v6 (V.int 1) h5 (fun x6 h6 => sp_law_mix [x5, x6] h6 (fun x7 h7 => rInt1 [x7] h7 (fun x8 h8 => ∃ v7, σ[1]? = some (some v7) ∧ oMod x8 v7 h8 Q)) E0))))
abbrev e_law_draw_4 (K : Fg) (E : XK) : TT := (fun σ H Q => ∃ v8, σ[2]? = some (some v8) ∧ oPow (V.int 10) (V.int 18) H (fun x9 h9 => oLt v8 x9 h9 (fun x10 h10 => ∃ c1, x10 = .bl c1 ∧ Q c1 h10)))
abbrev e_law_draw_5 (K : Fg) (E : XK) : TT := (fun σ H Q => ∃ v11, σ[0]? = some (some v11) ∧ rIxL K v11 (V.int 2) H (fun x11 h11 => rEq x11 (V.int 0) h11 (fun x12 h12 => ∃ c2, x12 = .bl c2 ∧ if c2 = true then ∃ v12, σ[0]? = some (some v12) ∧ rIxL K v12 (V.int 1) h12 (fun x13 h13 => ∃ v13, σ[0]? = some (some v13) ∧ rIxL K v13 (V.int 0) h13 (fun x14 h14 => rLenQ K [x14] h14 (fun x15 h15 => oLt x13 x15 h15 (fun x16 h16 => ∃ c3, x16 = .bl c3 ∧ Q c3 h16)))) else Q false h12)))
abbrev e_law_draw_6 (K : Fg) (E : XK) : TE := (fun σ H Q => ∃ v14, σ[0]? = some (some v14) ∧ rIxL K v14 (V.int 2) H Q)
abbrev e_law_draw_7 (K : Fg) (E : XK) : TE := (fun σ H Q => ∃ v16, σ[3]? = some (some v16) ∧ ∃ v17, σ[1]? = some (some v17) ∧ oFdiv v16 v17 H Q)
abbrev e_law_draw_8 (K : Fg) (E : XK) : TE := (fun σ H Q => ∃ v18, σ[3]? = some (some v18) ∧ rInt1 [v18] H (fun x17 h17 => ∃ v19, σ[1]? = some (some v19) ∧ oMod x17 v19 h17 Q))
abbrev e_law_draw_9 (K : Fg) (E : XK) : TT := (fun σ H Q => ∃ v20, σ[0]? = some (some v20) ∧ rIxL K v20 (V.int 2) H (fun x18 h18 => oGt x18 (V.int 0) h18 (fun x19 h19 => ∃ c4, x19 = .bl c4 ∧ Q c4 h19)))
abbrev e_law_draw_10 (K : Fg) (E : XK) : TE := (fun σ H Q => ∃ v22, σ[0]? = some (some v22) ∧ rIxL K v22 (V.int 3) H (fun x20 h20 => oAdd x20 (V.int 1) h20 (fun x21 h21 => rInt1 [x21] h21 (fun x22 h22 => oMod x22 (V.int 2147483549) h22 Q))))
abbrev e_law_draw_11 (K : Fg) (E : XK) : TE := (fun σ H Q => ∃ v23, σ[0]? = some (some v23) ∧ rIxL K v23 (V.int 3) H (fun x23 h23 => ∃ v24, σ[0]? = some (some v24) ∧ rIxL K v24 (V.int 1) h23 (fun x24 h24 => sp_law_mix [x23, x24] h24 (fun x25 h25 => rInt1 [x25] h25 (fun x26 h26 => ∃ v25, σ[1]? = some (some v25) ∧ oMod x26 v25 h26 Q)) E0)))
def t_law_draw_1 (K : Fg) (E : XK) : TS :=
    tAsg (fun σ H Q => ∃ v10, σ[2]? = some (some v10) ∧ Q v10 H) (fun v σ H Q => ∃ v9, σ[0]? = some (some v9) ∧ rSetL v9 (V.int 2) v H (fun h9 => Q σ h9))
def t_law_draw_2 (K : Fg) (E : XK) : TS :=
    tSeq (tAsg (e_law_draw_10 K E) (fun v σ H Q => ∃ v21, σ[0]? = some (some v21) ∧ rSetL v21 (V.int 3) v H (fun h9 => Q σ h9)))
    (tRet (e_law_draw_11 K E))
def t_law_draw_3 (K : Fg) (E : XK) : TS :=
    tSeq (tIfS (e_law_draw_9 K E)
      (tSeq (tAsg (e_law_draw_6 K E) (gName 3))
        (tSeq (tAsg (e_law_draw_7 K E) (fun v σ H Q => ∃ v15, σ[0]? = some (some v15) ∧ rSetL v15 (V.int 2) v H (fun h9 => Q σ h9)))
        (tRet (e_law_draw_8 K E))))
      (tNext))
    (t_law_draw_2 K E)
def t_law_draw (K : Fg) (E : XK) : TS :=
    tSeq (tIfS (e_law_draw_5 K E)
      (tSeq (tAsg (e_law_draw_1 K E) (gName 2))
        (tSeq (tAsg (e_law_draw_2 K E) (fun v σ H Q => ∃ v3, σ[0]? = some (some v3) ∧ rSetL v3 (V.int 1) v H (fun h9 => Q σ h9)))
        (tSeq (tIfS (e_law_draw_4 K E)
          (tRet (e_law_draw_3 K E))
          (tNext))
        (t_law_draw_1 K E))))
      (tNext))
    (t_law_draw_3 K E)

def t_law_shuffled_1 (K : Fg) (E : XK) : TS :=
    tDrop (fun σ H Q => ∃ v3, σ[3]? = some (some v3) ∧ tyV K "list" v3 H ∧ ∃ v4, σ[2]? = some (some v4) ∧ tyV K "list" v4 H ∧ ∃ v5, σ[0]? = some (some v5) ∧ ∃ v6, σ[2]? = some (some v6) ∧ rLenQ K [v6] H (fun x2 h2 => sp_law_draw K [v5, x2] h2 (fun x3 h3 => rPopAt v4 [x3] h3 (fun x4 h4 => rAppend v3 [x4] h4 Q)) E0))
def t_law_shuffled (K : Fg) (E : XK) : TS :=
    tSeq (tAsg (fun σ H Q => ∃ v1, σ[1]? = some (some v1) ∧ rListQ K [v1] H Q) (gName 2))
    (tSeq (tAsg (fun σ H Q => 0 ≤ sizeLine ∧ ∀ p1, H p1 = none → Q (V.ref p1) (upd H p1 (.lst []))) (gName 3))
    (tSeq (tFor (fun σ H R => ∃ v2, σ[1]? = some (some v2) ∧ rLenQ K [v2] H (fun x1 h1 => ∃ j : Int, [x1] = [.int j] ∧ -(2 ^ 62) ≤ j ∧ j < 2 ^ 62 ∧ R (Itr 0 j.toNat) h1)) (gName 4)
      (t_law_shuffled_1 K E))
    (tRet (fun σ H Q => ∃ v7, σ[3]? = some (some v7) ∧ Q v7 H))))

abbrev e_law_graph_1 (K : Fg) (E : XK) : TE := (fun σ H Q => ∃ v1, σ[0]? = some (some v1) ∧ ∃ v2, σ[1]? = some (some v2) ∧ oAdd v2 (V.int 1) H (fun x1 h1 => sp_law_draw K [v1, x1] h1 Q E0))
abbrev e_law_graph_2 (K : Fg) (E : XK) : TE := (fun σ H Q => ∃ v3, σ[0]? = some (some v3) ∧ sp_law_draw K [v3, (V.int 7)] H (fun x2 h2 => oSub x2 (V.int 3) h2 Q) E0)
abbrev e_law_graph_3 (K : Fg) (E : XK) : TE := (fun σ H Q => ∃ v4, σ[3]? = some (some v4) ∧ ∃ v5, σ[3]? = some (some v5) ∧ oAdd v5 (V.int 1) H (fun x3 h3 => oPow (V.int 10) (V.int 24) h3 (fun x4 h4 => ∃ v6, σ[3]? = some (some v6) ∧ oAdd x4 v6 h4 (fun x5 h5 => 3 ≤ sizeLine ∧ ∀ p1, h5 p1 = none → Q (V.ref p1) (upd h5 p1 (.lst [v4, x3, x5]))))))
abbrev e_law_graph_4 (K : Fg) (E : XK) : TE := (fun σ H Q => 0 ≤ sizeLine ∧ ∀ p2, H p2 = none → Q (V.ref p2) (upd H p2 (.lst [])))
abbrev e_law_graph_5 (K : Fg) (E : XK) : TT := (fun σ H Q => ∃ v9, σ[0]? = some (some v9) ∧ sp_law_draw K [v9, (V.int 4)] H (fun x6 h6 => rEq x6 (V.int 0) h6 (fun x7 h7 => ∃ c1, x7 = .bl c1 ∧ Q c1 h7)) E0)
abbrev e_law_graph_6 (K : Fg) (E : XK) : TE := (fun σ H Q => ∃ v10, σ[13]? = some (some v10) ∧ Q v10 H)
abbrev e_law_graph_7 (K : Fg) (E : XK) : TE := (fun σ H Q => ∃ v11, σ[5]? = some (some v11) ∧ tyV K "list" v11 H ∧ (fun R1 => ∃ v12, σ[0]? = some (some v12) ∧ sp_law_draw K [v12, (V.int 9)] H (fun x8 h8 => rEq x8 (V.int 0) h8 (fun x9 h9 => ∃ c2, x9 = .bl c2 ∧ if c2 = true then ∃ v13, σ[7]? = some (some v13) ∧ ∃ v14, σ[7]? = some (some v14) ∧ rCat v13 v14 h9 R1 else ∃ v15, σ[7]? = some (some v15) ∧ R1 v15 h9)) E0) (fun x10 h10 => rAppend v11 [x10] h10 Q))
abbrev e_law_graph_8 (K : Fg) (E : XK) : TE := (fun σ H Q => 0 ≤ sizeLine ∧ ∀ p3, H p3 = none → Q (V.ref p3) (upd H p3 (.lst [])))
abbrev e_law_graph_9 (K : Fg) (E : XK) : TE := (fun σ H Q => ∃ v16, σ[5]? = some (some v16) ∧ ∃ v17, σ[8]? = some (some v17) ∧ 2 ≤ sizeLine ∧ ∀ p4, H p4 = none → Q (V.ref p4) (upd H p4 (.tup [v16, v17])))
abbrev e_law_graph_10 (K : Fg) (E : XK) : TT := (fun σ H Q => ∃ v18, σ[2]? = some (some v18) ∧ rEq v18 (V.int 0) H (fun x11 h11 => ∃ c3, x11 = .bl c3 ∧ Q c3 h11))
abbrev e_law_graph_11 (K : Fg) (E : XK) : TE := (fun σ H Q => ∃ v19, σ[0]? = some (some v19) ∧ ∃ v20, σ[2]? = some (some v20) ∧ ∃ n1, v20 = .int n1 ∧ RgOk 0 n1 ∧ ∀ p5, H p5 = none → sp_law_shuffled K [v19, (V.ref p5)] (upd H p5 (.lst (rgV 0 n1))) (fun x12 h12 => ∃ v21, σ[0]? = some (some v21) ∧ ∃ v22, σ[2]? = some (some v22) ∧ sp_law_draw K [v21, v22] h12 (fun x13 h13 => oAdd (V.int 1) x13 h13 (fun x14 h14 => ∃ i1, x14 = .int i1 ∧ rSlL K x12 none (some i1) h14 Q)) E0) E0)
abbrev e_law_graph_12 (K : Fg) (E : XK) : TT := (fun σ H Q => ∃ v25, σ[0]? = some (some v25) ∧ sp_law_draw K [v25, (V.int 2)] H (fun x16 h16 => rEq x16 (V.int 0) h16 (fun x17 h17 => ∃ c4, x17 = .bl c4 ∧ Q c4 h17)) E0)
abbrev e_law_graph_13 (K : Fg) (E : XK) : TE := (fun σ H Q => ∃ v26, σ[13]? = some (some v26) ∧ Q v26 H)
abbrev e_law_graph_14 (K : Fg) (E : XK) : TE := (fun σ H Q => ∃ v27, σ[8]? = some (some v27) ∧ tyV K "list" v27 H ∧ ∃ v28, σ[9]? = some (some v28) ∧ ∃ v29, σ[10]? = some (some v29) ∧ rIxL K v28 v29 H (fun x18 h18 => ∃ v30, σ[9]? = some (some v30) ∧ ∃ v31, σ[10]? = some (some v31) ∧ oAdd v31 (V.int 1) h18 (fun x19 h19 => rInt1 [x19] h19 (fun x20 h20 => ∃ v32, σ[9]? = some (some v32) ∧ rLenQ K [v32] h20 (fun x21 h21 => oMod x20 x21 h21 (fun x22 h22 => rIxL K v30 x22 h22 (fun x23 h23 => ∃ v33, σ[11]? = some (some v33) ∧ 3 ≤ sizeLine ∧ ∀ p6, h23 p6 = none → rAppend v27 [(V.ref p6)] (upd h23 p6 (.tup [x18, x23, v33])) Q)))))))
abbrev e_law_graph_15 (K : Fg) (E : XK) : TT := (fun σ H Q => ∃ v34, σ[0]? = some (some v34) ∧ sp_law_draw K [v34, (V.int 2)] H (fun x24 h24 => rEq x24 (V.int 0) h24 (fun x25 h25 => ∃ c5, x25 = .bl c5 ∧ Q c5 h25)) E0)
abbrev e_law_graph_16 (K : Fg) (E : XK) : TT := (fun σ H Q => ∃ v38, σ[0]? = some (some v38) ∧ sp_law_draw K [v38, (V.int 3)] H (fun x29 h29 => rEq x29 (V.int 0) h29 (fun x30 h30 => ∃ c6, x30 = .bl c6 ∧ Q c6 h30)) E0)
abbrev e_law_graph_17 (K : Fg) (E : XK) : TE := (fun σ H Q => ∃ v39, σ[13]? = some (some v39) ∧ Q v39 H)
abbrev e_law_graph_18 (K : Fg) (E : XK) : TE := (fun σ H Q => ∃ v40, σ[8]? = some (some v40) ∧ tyV K "list" v40 H ∧ ∃ v41, σ[0]? = some (some v41) ∧ ∃ v42, σ[2]? = some (some v42) ∧ sp_law_draw K [v41, v42] H (fun x31 h31 => ∃ v43, σ[0]? = some (some v43) ∧ ∃ v44, σ[2]? = some (some v44) ∧ sp_law_draw K [v43, v44] h31 (fun x32 h32 => ∃ v45, σ[11]? = some (some v45) ∧ 3 ≤ sizeLine ∧ ∀ p7, h32 p7 = none → rAppend v40 [(V.ref p7)] (upd h32 p7 (.tup [x31, x32, v45])) Q) E0) E0)
abbrev e_law_graph_19 (K : Fg) (E : XK) : TE := (fun σ H Q => ∃ v46, σ[5]? = some (some v46) ∧ ∃ v47, σ[0]? = some (some v47) ∧ ∃ v48, σ[8]? = some (some v48) ∧ sp_law_shuffled K [v47, v48] H (fun x33 h33 => 2 ≤ sizeLine ∧ ∀ p8, h33 p8 = none → Q (V.ref p8) (upd h33 p8 (.tup [v46, x33]))) E0)
def t_law_graph_1 (K : Fg) (E : XK) : TS :=
    tSeq (tAsg (tLc (fun σ H R => ∃ v8, σ[4]? = some (some v8) ∧ ∃ a, v8 = .ref a ∧ (∃ xs, SqL K H a xs) ∧ R (Itl K a) H) (gName 13) (e_law_graph_5 K E) (e_law_graph_6 K E) [13]) (gName 7))
        (tDrop (e_law_graph_7 K E))
def t_law_graph_2 (K : Fg) (E : XK) : TS :=
    tSeq (tAsg (tLc (fun σ H R => ∃ v24, σ[4]? = some (some v24) ∧ ∃ a, v24 = .ref a ∧ (∃ xs, SqL K H a xs) ∧ R (Itl K a) H) (gName 13) (e_law_graph_12 K E) (e_law_graph_13 K E) [13]) (gName 11))
            (tDrop (e_law_graph_14 K E))
def t_law_graph_3 (K : Fg) (E : XK) : TS :=
    tSeq (tAsg (tLc (fun σ H R => ∃ v37, σ[4]? = some (some v37) ∧ ∃ a, v37 = .ref a ∧ (∃ xs, SqL K H a xs) ∧ R (Itl K a) H) (gName 13) (e_law_graph_16 K E) (e_law_graph_17 K E) [13]) (gName 11))
        (tDrop (e_law_graph_18 K E))
def t_law_graph_4 (K : Fg) (E : XK) : TS :=
    tSeq (tFor (fun σ H R => ∃ v35, σ[0]? = some (some v35) ∧ ∃ v36, σ[2]? = some (some v36) ∧ oMul (V.int 2) v36 H (fun x26 h26 => oAdd x26 (V.int 1) h26 (fun x27 h27 => sp_law_draw K [v35, x27] h27 (fun x28 h28 => ∃ j : Int, [x28] = [.int j] ∧ -(2 ^ 62) ≤ j ∧ j < 2 ^ 62 ∧ R (Itr 0 j.toNat) h28) E0))) (gName 12)
      (t_law_graph_3 K E))
    (tRet (e_law_graph_19 K E))
def t_law_graph_5 (K : Fg) (E : XK) : TS :=
    tSeq (tIfS (e_law_graph_15 K E)
      (tSeq (tAsg (e_law_graph_11 K E) (gName 9))
        (tFor (fun σ H R => ∃ v23, σ[9]? = some (some v23) ∧ rLenQ K [v23] H (fun x15 h15 => ∃ j : Int, [x15] = [.int j] ∧ -(2 ^ 62) ≤ j ∧ j < 2 ^ 62 ∧ R (Itr 0 j.toNat) h15)) (gName 10)
          (t_law_graph_2 K E)))
      (tNext))
    (t_law_graph_4 K E)
def t_law_graph (K : Fg) (E : XK) : TS :=
    tSeq (tAsg (e_law_graph_1 K E) (gName 2))
    (tSeq (tAsg (e_law_graph_2 K E) (gName 3))
    (tSeq (tAsg (e_law_graph_3 K E) (gName 4))
    (tSeq (tAsg (e_law_graph_4 K E) (gName 5))
    (tSeq (tFor (fun σ H R => ∃ v7, σ[2]? = some (some v7) ∧ ∃ j : Int, [v7] = [.int j] ∧ -(2 ^ 62) ≤ j ∧ j < 2 ^ 62 ∧ R (Itr 0 j.toNat) H) (gName 6)
      (t_law_graph_1 K E))
    (tSeq (tAsg (e_law_graph_8 K E) (gName 8))
    (tSeq (tIfS (e_law_graph_10 K E)
      (tRet (e_law_graph_9 K E))
      (tNext))
    (t_law_graph_5 K E)))))))

def t_law_pick (K : Fg) (E : XK) : TS :=
    tRet (fun σ H Q => ∃ v1, σ[1]? = some (some v1) ∧ ∃ v2, σ[0]? = some (some v2) ∧ ∃ v3, σ[1]? = some (some v3) ∧ rLenQ K [v3] H (fun x1 h1 => sp_law_draw K [v2, x1] h1 (fun x2 h2 => rIxL K v1 x2 h2 Q) E0))

def t_law_row (K : Fg) (E : XK) : TS :=
    tRet (fun σ H Q => ∃ v1, σ[0]? = some (some v1) ∧ 2 ≤ sizeLine ∧ ∀ p1, H p1 = none → rIsiT K [v1, (V.ref p1)] (upd H p1 (.tup [(V.ty "list"), (V.ty "tuple")])) Q)

def tb_law_graph_word (K : Fg) (W : WX) : TS :=
    tIfS (fun σ H Q => ∃ v17, σ[0]? = some (some v17) ∧ rEq v17 (V.int 0) H (fun x5 h5 => ∃ c5, x5 = .bl c5 ∧ Q c5 h5))
          (tDrop (fun σ H Q => ∃ v1, σ[1]? = some (some v1) ∧ ∃ v2, σ[2]? = some (some v2) ∧ sp_fair_lots K [v1, v2] H Q (WE W σ)))
          (tIfS (fun σ H Q => ∃ v16, σ[0]? = some (some v16) ∧ rEq v16 (V.int 1) H (fun x4 h4 => ∃ c4, x4 = .bl c4 ∧ Q c4 h4))
              (tDrop (fun σ H Q => ∃ v3, σ[1]? = some (some v3) ∧ ∃ v4, σ[2]? = some (some v4) ∧ 1 ≤ sizeLine ∧ ∀ p1, H p1 = none → sp_is_fair_lot K [v3, v4, (V.ref p1)] (upd H p1 (.tup [(V.int 0)])) Q (WE W σ)))
              (tIfS (fun σ H Q => ∃ v15, σ[0]? = some (some v15) ∧ rEq v15 (V.int 2) H (fun x3 h3 => ∃ c3, x3 = .bl c3 ∧ Q c3 h3))
                  (tDrop (fun σ H Q => ∃ v5, σ[1]? = some (some v5) ∧ ∃ v6, σ[2]? = some (some v6) ∧ sp_no_lot_paper K [v5, v6] H Q (WE W σ)))
                  (tIfS (fun σ H Q => ∃ v14, σ[0]? = some (some v14) ∧ rEq v14 (V.int 3) H (fun x2 h2 => ∃ c2, x2 = .bl c2 ∧ Q c2 h2))
                      (tDrop (fun σ H Q => ∃ v7, σ[1]? = some (some v7) ∧ ∃ v8, σ[2]? = some (some v8) ∧ 0 ≤ sizeLine ∧ ∀ p2, H p2 = none → sp_no_lot_fault K [v7, v8, (V.ref p2)] (upd H p2 (.tup [])) Q (WE W σ)))
                      (tIfS (fun σ H Q => ∃ v13, σ[0]? = some (some v13) ∧ rEq v13 (V.int 4) H (fun x1 h1 => ∃ c1, x1 = .bl c1 ∧ Q c1 h1))
                          (tDrop (fun σ H Q => ∃ v9, σ[1]? = some (some v9) ∧ ∃ v10, σ[2]? = some (some v10) ∧ 0 ≤ sizeLine ∧ ∀ p3, H p3 = none → sp_tour_fault K [v9, v10, (V.int 0), (V.ref p3)] (upd H p3 (.tup [])) Q (WE W σ)))
                          (tDrop (fun σ H Q => ∃ v11, σ[1]? = some (some v11) ∧ ∃ v12, σ[2]? = some (some v12) ∧ sp_fair_tour K [v11, v12, V.non, (V.int 0)] H Q (WE W σ)))))))
def tx_law_graph_word (K : Fg) (a : Addr) (cls : Value) (d : Option Addr) : TS :=
    tRet (fun σ H Q => tXf a cls d (ga K "BadGraph") "what" (tVar 3) σ H (fun x6 h6 => tXf a cls d (ga K "BadGraph") "at" (tVar 3) σ h6 (fun x7 h7 => ∃ v18, σ[3]? = some (some v18) ∧ rIsED K (ga K "BadGraph") a cls d [v18, (V.ref (ga K "FrameError"))] h7 (fun x8 h8 => 3 ≤ sizeLine ∧ ∀ p4, h8 p4 = none → Q (V.ref p4) (upd h8 p4 (.tup [x6, x7, x8]))))))
def tTry_law_graph_word (K : Fg) : TS := fun D σ H => tb_law_graph_word K (wAs K (.ref (ga K "BadGraph")) 3 (tx_law_graph_word K) (fun _ _ _ _ => False) D) D σ H
def t_law_graph_word (K : Fg) (E : XK) : TS :=
    tSeq (tTry_law_graph_word K)
    (tRet (fun σ H Q => Q V.non H))

abbrev e_law_1 (K : Fg) (E : XK) : TE := (fun σ H Q => ∃ v1, σ[0]? = some (some v1) ∧ sp_law_hand K [v1] H Q E0)
abbrev e_law_2 (K : Fg) (E : XK) : TE := (fun σ H Q => ∃ v2, σ[1]? = some (some v2) ∧ sp_law_graph K [v2, (V.int 4)] H Q E0)
abbrev e_law_3 (K : Fg) (E : XK) : TE := (fun σ H Q => ∃ v3, σ[2]? = some (some v3) ∧ 0 ≤ sizeLine ∧ ∀ p2, H p2 = none → 1 ≤ sizeLine ∧ ∀ p1, (upd H p2 (.lst [])) p1 = none → rCat v3 (V.ref p1) (upd (upd H p2 (.lst [])) p1 (.lst [(V.ref p2)])) Q)
abbrev e_law_4 (K : Fg) (E : XK) : TE := (fun σ H Q => 0 ≤ sizeLine ∧ ∀ p5, H p5 = none → 3 ≤ sizeLine ∧ ∀ p4, (upd H p5 (.lst [])) p4 = none → 1 ≤ sizeLine ∧ ∀ p3, (upd (upd H p5 (.lst [])) p4 (.tup [(V.int 0), (V.int 0), (V.ref p5)])) p3 = none → ∃ v4, σ[3]? = some (some v4) ∧ rCat (V.ref p3) v4 (upd (upd (upd H p5 (.lst [])) p4 (.tup [(V.int 0), (V.int 0), (V.ref p5)])) p3 (.lst [(V.ref p4)])) Q)
abbrev e_law_5 (K : Fg) (E : XK) : TE := (fun σ H Q => ∃ v5, σ[1]? = some (some v5) ∧ sp_law_draw K [v5, (V.int 5)] H Q E0)
abbrev e_law_6 (K : Fg) (E : XK) : TT := (fun σ H Q => ∃ v6, σ[4]? = some (some v6) ∧ ∃ v7, σ[2]? = some (some v7) ∧ ∃ v8, σ[3]? = some (some v8) ∧ sp_law_graph_word K [v6, v7, v8] H (fun x1 h1 => oNotN x1 V.non h1 (fun x2 h2 => ∃ c1, x2 = .bl c1 ∧ Q c1 h2)) E0)
abbrev e_law_7 (K : Fg) (E : XK) : TE := (fun σ H Q => ∃ v9, σ[1]? = some (some v9) ∧ ∃ v10, σ[2]? = some (some v10) ∧ rLenQ K [v10] H (fun x3 h3 => sp_law_draw K [v9, x3] h3 Q E0))
abbrev e_law_8 (K : Fg) (E : XK) : TE := (fun σ H Q => ∃ v11, σ[1]? = some (some v11) ∧ ∃ v12, σ[3]? = some (some v12) ∧ rLenQ K [v12] H (fun x4 h4 => sp_law_draw K [v11, x4] h4 Q E0))
abbrev e_law_9 (K : Fg) (E : XK) : TE := (fun σ H Q => ∃ v13, σ[1]? = some (some v13) ∧ 1 ≤ sizeLine ∧ ∀ p7, H p7 = none → 1 ≤ sizeLine ∧ ∀ p8, (upd H p7 (.lst [(V.str "a")])) p8 = none → 1 ≤ sizeLine ∧ ∀ p9, (upd (upd H p7 (.lst [(V.str "a")])) p8 (.lst [(V.bl true)])) p9 = none → tDisp [((fun σ H Q => Q (V.int 0) H), (fun σ H Q => Q (V.int 1) H))] σ (upd (upd (upd H p7 (.lst [(V.str "a")])) p8 (.lst [(V.bl true)])) p9 (.lst [V.non])) (fun x5 h5 => 6 ≤ sizeLine ∧ ∀ p6, h5 p6 = none → sp_law_pick K [v13, (V.ref p6)] (upd h5 p6 (.lst [V.non, (V.int 7), (V.ref p7), (V.ref p8), (V.ref p9), x5])) Q E0))
abbrev e_law_10 (K : Fg) (E : XK) : TE := (fun σ H Q => ∃ v14, σ[2]? = some (some v14) ∧ rLenQ K [v14] H (fun x6 h6 => 0 ≤ sizeLine ∧ ∀ p12, h6 p12 = none → 3 ≤ sizeLine ∧ ∀ p11, (upd h6 p12 (.lst [])) p11 = none → rNeg (V.int 1) (upd (upd h6 p12 (.lst [])) p11 (.tup [(V.int 0), x6, (V.ref p12)])) (fun x7 h7 => 0 ≤ sizeLine ∧ ∀ p14, h7 p14 = none → 3 ≤ sizeLine ∧ ∀ p13, (upd h7 p14 (.lst [])) p13 = none → ∃ v15, σ[7]? = some (some v15) ∧ 3 ≤ sizeLine ∧ ∀ p15, (upd (upd h7 p14 (.lst [])) p13 (.tup [x7, (V.int 0), (V.ref p14)])) p15 = none → 2 ≤ sizeLine ∧ ∀ p16, (upd (upd (upd h7 p14 (.lst [])) p13 (.tup [x7, (V.int 0), (V.ref p14)])) p15 (.tup [(V.int 0), (V.int 0), v15])) p16 = none → 0 ≤ sizeLine ∧ ∀ p18, (upd (upd (upd (upd h7 p14 (.lst [])) p13 (.tup [x7, (V.int 0), (V.ref p14)])) p15 (.tup [(V.int 0), (V.int 0), v15])) p16 (.tup [(V.int 0), (V.int 0)])) p18 = none → 3 ≤ sizeLine ∧ ∀ p17, (upd (upd (upd (upd (upd h7 p14 (.lst [])) p13 (.tup [x7, (V.int 0), (V.ref p14)])) p15 (.tup [(V.int 0), (V.int 0), v15])) p16 (.tup [(V.int 0), (V.int 0)])) p18 (.lst [])) p17 = none → 0 ≤ sizeLine ∧ ∀ p20, (upd (upd (upd (upd (upd (upd h7 p14 (.lst [])) p13 (.tup [x7, (V.int 0), (V.ref p14)])) p15 (.tup [(V.int 0), (V.int 0), v15])) p16 (.tup [(V.int 0), (V.int 0)])) p18 (.lst [])) p17 (.tup [(V.bl true), (V.int 0), (V.ref p18)])) p20 = none → 4 ≤ sizeLine ∧ ∀ p19, (upd (upd (upd (upd (upd (upd (upd h7 p14 (.lst [])) p13 (.tup [x7, (V.int 0), (V.ref p14)])) p15 (.tup [(V.int 0), (V.int 0), v15])) p16 (.tup [(V.int 0), (V.int 0)])) p18 (.lst [])) p17 (.tup [(V.bl true), (V.int 0), (V.ref p18)])) p20 (.lst [])) p19 = none → 7 ≤ sizeLine ∧ ∀ p10, (upd (upd (upd (upd (upd (upd (upd (upd h7 p14 (.lst [])) p13 (.tup [x7, (V.int 0), (V.ref p14)])) p15 (.tup [(V.int 0), (V.int 0), v15])) p16 (.tup [(V.int 0), (V.int 0)])) p18 (.lst [])) p17 (.tup [(V.bl true), (V.int 0), (V.ref p18)])) p20 (.lst [])) p19 (.tup [(V.int 0), (V.int 0), (V.ref p20), (V.int 0)])) p10 = none → Q (V.ref p10) (upd (upd (upd (upd (upd (upd (upd (upd (upd h7 p14 (.lst [])) p13 (.tup [x7, (V.int 0), (V.ref p14)])) p15 (.tup [(V.int 0), (V.int 0), v15])) p16 (.tup [(V.int 0), (V.int 0)])) p18 (.lst [])) p17 (.tup [(V.bl true), (V.int 0), (V.ref p18)])) p20 (.lst [])) p19 (.tup [(V.int 0), (V.int 0), (V.ref p20), (V.int 0)])) p10 (.lst [(V.ref p11), (V.ref p13), (V.ref p15), (V.ref p16), V.non, (V.ref p17), (V.ref p19)])))))
abbrev e_law_11 (K : Fg) (E : XK) : TE := (fun σ H Q => ∃ v16, σ[3]? = some (some v16) ∧ ∃ v17, σ[6]? = some (some v17) ∧ ∃ i1, v17 = .int i1 ∧ rSlL K v16 none (some i1) H (fun x8 h8 => ∃ v18, σ[1]? = some (some v18) ∧ ∃ v19, σ[8]? = some (some v19) ∧ sp_law_pick K [v18, v19] h8 (fun x9 h9 => 1 ≤ sizeLine ∧ ∀ p21, h9 p21 = none → rCat x8 (V.ref p21) (upd h9 p21 (.lst [x9])) (fun x10 h10 => ∃ v20, σ[3]? = some (some v20) ∧ ∃ v21, σ[6]? = some (some v21) ∧ oAdd v21 (V.int 1) h10 (fun x11 h11 => ∃ i2, x11 = .int i2 ∧ rSlL K v20 (some i2) none h11 (fun x12 h12 => rCat x10 x12 h12 Q)))) E0))
abbrev e_law_12 (K : Fg) (E : XK) : TE := (fun σ H Q => ∃ v22, σ[1]? = some (some v22) ∧ sp_law_draw K [v22, (V.int 6)] H Q E0)
abbrev e_law_13 (K : Fg) (E : XK) : TT := (fun σ H Q => ∃ v23, σ[4]? = some (some v23) ∧ ∃ v24, σ[2]? = some (some v24) ∧ ∃ v25, σ[5]? = some (some v25) ∧ ∃ i3, v25 = .int i3 ∧ rSlL K v24 none (some i3) H (fun x13 h13 => ∃ v26, σ[7]? = some (some v26) ∧ 1 ≤ sizeLine ∧ ∀ p22, h13 p22 = none → rCat x13 (V.ref p22) (upd h13 p22 (.lst [v26])) (fun x14 h14 => ∃ v27, σ[2]? = some (some v27) ∧ ∃ v28, σ[5]? = some (some v28) ∧ oAdd v28 (V.int 1) h14 (fun x15 h15 => ∃ i4, x15 = .int i4 ∧ rSlL K v27 (some i4) none h15 (fun x16 h16 => rCat x14 x16 h16 (fun x17 h17 => ∃ v29, σ[9]? = some (some v29) ∧ sp_law_graph_word K [v23, x17, v29] h17 (fun x18 h18 => ∃ v30, σ[5]? = some (some v30) ∧ 3 ≤ sizeLine ∧ ∀ p23, h18 p23 = none → rNeD K x18 (V.ref p23) (upd h18 p23 (.tup [(V.str "wants"), v30, (V.bl true)])) (fun x19 h19 => ∃ c2, x19 = .bl c2 ∧ Q c2 h19)) E0))))))
abbrev e_law_14 (K : Fg) (E : XK) : TT := (fun σ H Q => ∃ v31, σ[4]? = some (some v31) ∧ ∃ v32, σ[2]? = some (some v32) ∧ ∃ v33, σ[9]? = some (some v33) ∧ sp_law_graph_word K [v31, v32, v33] H (fun x20 h20 => ∃ v34, σ[6]? = some (some v34) ∧ 3 ≤ sizeLine ∧ ∀ p24, h20 p24 = none → rNeD K x20 (V.ref p24) (upd h20 p24 (.tup [(V.str "arcs"), v34, (V.bl true)])) (fun x21 h21 => ∃ c3, x21 = .bl c3 ∧ Q c3 h21)) E0)
abbrev e_law_15 (K : Fg) (E : XK) : TT := (fun σ H Q => ∃ v35, σ[4]? = some (some v35) ∧ (fun R1 => ∃ v36, σ[7]? = some (some v36) ∧ sp_law_row K [v36] H (fun x22 h22 => ∃ c5, x22 = .bl c5 ∧ if (!c5) = true then ∃ v37, σ[7]? = some (some v37) ∧ R1 v37 h22 else R1 V.non h22) E0) (fun x23 h23 => ∃ v38, σ[9]? = some (some v38) ∧ sp_law_graph_word K [v35, x23, v38] h23 (fun x24 h24 => 3 ≤ sizeLine ∧ ∀ p25, h24 p25 = none → rNeD K x24 (V.ref p25) (upd h24 p25 (.tup [(V.str "wants"), (V.int 0), (V.bl true)])) (fun x25 h25 => ∃ c4, x25 = .bl c4 ∧ Q c4 h25)) E0))
abbrev e_law_16 (K : Fg) (E : XK) : TE := (fun σ H Q => ∃ v39, σ[4]? = some (some v39) ∧ ∃ v40, σ[2]? = some (some v40) ∧ sp_law_graph_word K [v39, v40, V.non] H (fun x26 h26 => 3 ≤ sizeLine ∧ ∀ p26, h26 p26 = none → rEqD K x26 (V.ref p26) (upd h26 p26 (.tup [(V.str "arcs"), (V.int 0), (V.bl true)])) Q) E0)
def t_law_1 (K : Fg) (E : XK) : TS :=
    tSeq (tIfS (e_law_14 K E)
      (tRet (fun σ H Q => Q (V.bl false) H))
      (tNext))
    (tSeq (tIfS (e_law_15 K E)
      (tRet (fun σ H Q => Q (V.bl false) H))
      (tNext))
    (tRet (e_law_16 K E)))
def t_law_2 (K : Fg) (E : XK) : TS :=
    tSeq (tAsg (e_law_7 K E) (gName 5))
    (tSeq (tAsg (e_law_8 K E) (gName 6))
    (tSeq (tAsg (e_law_9 K E) (gName 7))
    (tSeq (tAsg (e_law_10 K E) (gName 8))
    (tSeq (tAsg (e_law_11 K E) (gName 9))
    (tSeq (tAsg (e_law_12 K E) (gName 4))
    (tSeq (tIfS (e_law_13 K E)
      (tRet (fun σ H Q => Q (V.bl false) H))
      (tNext))
    (t_law_1 K E)))))))
def t_law (K : Fg) (E : XK) : TS :=
    tSeq (tAsg (e_law_1 K E) (gName 1))
    (tSeq (tAsg (e_law_2 K E) (gTup K 2 (gCons (gName 2) (gCons (gName 3) gNil))))
    (tSeq (tAsg (e_law_3 K E) (gName 2))
    (tSeq (tAsg (e_law_4 K E) (gName 3))
    (tSeq (tAsg (e_law_5 K E) (gName 4))
    (tSeq (tIfS (e_law_6 K E)
      (tRet (fun σ H Q => Q (V.bl false) H))
      (tNext))
    (t_law_2 K E))))))

end SF

/-! R89p: the readings of the law's hand, its draws, its shuffles. -/
namespace SF
open PySem L2
section
variable {K : Fg} {vs : List V} {H : Hp} {Q : VK} {E : XK}
theorem rd_law_mix (h : sp_law_mix vs H Q E) : t_law_mix K E { nx := fun _ H' => Q .non H', rt := Q } (start ["_law_number", "_law_turn", "_law_once", "_law_twice"] vs) H := by
  obtain ⟨i, j, rfl, k⟩ := h
  refine ⟨_, rfl, _, _, rfl, rfl, .inr (by decide), _, rfl, _, _, rfl, rfl, .inr (by decide), _, _, rfl, rfl, _, _, rfl, rfl, .inl ⟨_, rfl, _, _, rfl, rfl, (by show (0 : Int) < _; decide), ?_⟩⟩
  generalize hx : (i * 69069 + j * 30011 + 7) % 2147483629 = x
  have x0 : 0 ≤ x ∧ x < 2147483629 := by omega
  refine ⟨_, rfl, _, rfl, _, _, rfl, rfl, .inl ⟨by omega, by omega⟩, _, rfl, _, _, rfl, rfl, .inr (by decide), _, _, rfl, rfl, _, rfl, _, _, rfl, rfl, ⟨by decide, by decide⟩, _, _, rfl, rfl, .inl ⟨_, rfl, _, _, rfl, rfl, (by show (0 : Int) < _; decide), ?_⟩⟩
  generalize hy : (x * x + j * 40503 + x / 977) % 2147483587 = y
  refine ⟨_, rfl, _, _, rfl, rfl, .inr (by decide), _, rfl, _, _, rfl, rfl, .inl ⟨_, rfl, _, _, rfl, rfl, (by show (0 : Int) < _; decide), _, _, rfl, rfl, ⟨by decide, by decide⟩, k _ _ (Ex.refl _) (by omega)⟩⟩
theorem rd_law_hand (h : sp_law_hand K vs H Q E) : t_law_hand K E { nx := fun _ H' => Q .non H', rt := Q } (start ["_law_script", "_law_total", "_law_k", "_law_cell"] vs) H := by
  obtain ⟨a, cells, rfl, ha, hl, k⟩ := h
  refine ⟨_, rfl, a, _, rfl, ha, for_it (walk_enum (xs := cells.map V.int)) (fun i σ H' => Ex H H' ∧ ∃ t : Int, ∃ u2 u3, σ = [some (.ref a), some (.int t), u2, u3]) ⟨Ex.refl _, _, _, _, rfl⟩ (fun i σ H' _ p => ex_l p.1 ha) ?_ ?_⟩
  · rintro i x σ H1 H2 hi ⟨e1, t, u2, u3, rfl⟩ ⟨T, x1, x2, rfl, hT, rfl, hx1, hx2⟩
    cases hx1
    obtain ⟨z, hz, rfl⟩ := int_item hx2
    rw [List.length_map] at hi
    refine ⟨T, _, rfl, .of upd_same, rfl, _, _, rfl, _, _, rfl, rfl, ?_⟩
    exact ⟨_, rfl, _, _, rfl, rfl, .inr (by decide), _, rfl, .inl ⟨_, rfl, _, rfl, _, _, rfl, rfl, _, _, rfl, rfl, .inr ⟨by omega, by omega⟩, _, _, rfl, rfl, .inl ⟨_, rfl, _, _, rfl, rfl, (by show (0 : Int) < _; decide), e1.trans (Ex.new hT), _, _, _, rfl⟩⟩⟩
  · rintro σ H1 ⟨e1, t, u2, u3, rfl⟩
    refine ⟨_, rfl, a, rfl, ⟨_, ex_l e1 ha⟩, fun D hD => lc_list (K := K) (a := a) (xs := cells.map .int) (fun j H' => ∃ acc, acc.length ≤ j ∧ Owns H1 H' [(D, lstI acc)]) ⟨[], Nat.le_refl _, (Owns.none H1).new hD⟩ (fun j H' _ ⟨_, _, w⟩ => ex_l (e1.trans w.ex) ha) ?_ ?_⟩
    · rintro j x H2 hx ⟨acc, hacc, w⟩
      obtain ⟨z, hz, rfl⟩ := int_item hx
      have hj := (List.getElem?_eq_some_iff.mp hz).1
      refine ⟨rfl, _, rfl, .inl ⟨_, rfl, _, rfl, _, w.get 0, szl (by rw [List.length_map]; omega), acc ++ [if z < 0 then -z else z], by rw [List.length_append, List.length_singleton]; omega, ?_⟩⟩
      have := w.write (o' := .lst (acc.map .int ++ [.int (if z < 0 then -z else z)])) 0
      unfold lstI
      rw [List.map_append]
      exact this
    · rintro H2 ⟨acc, hacc, w⟩
      refine ⟨_, rfl, (by show 4 ≤ sizeLine; decide), fun p hp => ?_⟩
      have w1 := w.new (o := handO D 0 0 t) hp
      exact k _ p D (handO D 0 0 t) acc (e1.trans w1.ex) (e1.free (w1.offA 0)) (e1.free (w1.offA 1)) (fun e => by subst e; rw [w.get 0] at hp; cases hp) (w1.get 0) ⟨0, 0, t, rfl, Int.le_refl 0⟩ (w1.get 1)
theorem dr_2 {a c : Addr} {cs : List Int} {many p q t : Int} {H1 : Hp} {D : Ends} {u2 u3 : Option V} (hm : 0 < many ∧ many < 1073741824) (b : But a H H1) (h1 : H1 a = some (handO c p q t)) (h0 : 0 ≤ p)
    (k : ∀ H' o' x, But a H H' → H' a = some o' → IsHand c o' → 0 ≤ x → x < many → D.rt (.int x) H') : t_law_draw_2 K E D [some (.ref a), some (.int many), u2, u3] H1 := by
  refine ⟨_, rfl, a, _, 3, _, rfl, rfl, .of h1, by rfl, _, _, rfl, rfl, .inl ⟨_, rfl, _, _, rfl, rfl, (by show (0 : Int) < _; decide), _, rfl, a, _, 3, 3, rfl, rfl, h1, by rfl, ?_⟩⟩
  have h2 : (upd H1 a (handO c p q ((t + 1) % 2147483549))) a = some (handO c p q ((t + 1) % 2147483549)) := upd_same
  refine ⟨_, rfl, a, _, 3, _, rfl, rfl, .of h2, by rfl, _, rfl, a, _, 1, _, rfl, rfl, .of h2, by rfl, _, _, rfl, fun H' r e hr => .inl ⟨_, rfl, _, rfl, _, _, rfl, rfl, hm.1, ?_⟩⟩
  exact k _ _ _ (b.trans (But.upd.trans (But.of e))) (e _ _ h2) ⟨_, _, _, rfl, h0⟩ (Int.emod_nonneg _ (by omega)) (Int.emod_lt_of_pos _ hm.1)
theorem dr_3 {a c : Addr} {cs : List Int} {many p q t : Int} {H1 : Hp} {D : Ends} {u2 u3 : Option V} (hm : 0 < many ∧ many < 1073741824) (b : But a H H1) (h1 : H1 a = some (handO c p q t)) (h0 : 0 ≤ p)
    (k : ∀ H' o' x, But a H H' → H' a = some o' → IsHand c o' → 0 ≤ x → x < many → D.rt (.int x) H') : t_law_draw_3 K E D [some (.ref a), some (.int many), u2, u3] H1 := by
  refine ⟨_, rfl, a, _, 2, _, rfl, rfl, .of h1, by rfl, _, _, rfl, rfl, _, rfl, iteB (fun _ => ?_) (fun _ => dr_2 (cs := cs) hm b h1 h0 k)⟩
  refine ⟨_, rfl, a, _, 2, _, rfl, rfl, .of h1, by rfl, _, rfl, _, rfl, _, _, rfl, rfl, hm, _, rfl, a, _, 2, 2, rfl, rfl, h1, by rfl, ?_⟩
  have h2 : (upd H1 a (handO c p (q / many) t)) a = some (handO c p (q / many) t) := upd_same
  exact ⟨_, rfl, .inl ⟨_, rfl, _, rfl, _, _, rfl, rfl, hm.1, k _ _ _ (b.trans But.upd) h2 ⟨_, _, _, rfl, h0⟩ (Int.emod_nonneg _ (by omega)) (Int.emod_lt_of_pos _ hm.1)⟩⟩
theorem rd_law_draw (h : sp_law_draw K vs H Q E) : t_law_draw K E { nx := fun _ H' => Q .non H', rt := Q } (start ["_law_hand_here", "_law_many", "_law_cell", "_law_rest"] vs) H := by
  obtain ⟨a, c, o, cs, many, rfl, ha, ⟨p, q, t, rfl, h0⟩, hc, hm, k⟩ := h
  refine ⟨_, rfl, a, _, 2, _, rfl, rfl, .of ha, by rfl, rfl, _, rfl, iteB (fun _ => ?_) (fun _ => iteF (dr_3 (cs := cs) hm (But.of (Ex.refl H)) ha h0 k))⟩
  refine ⟨_, rfl, a, _, 1, _, rfl, rfl, .of ha, by rfl, _, rfl, a, _, 0, _, rfl, rfl, .of ha, by rfl, c, _, rfl, .inl (.of hc), _, _, rfl, rfl, _, rfl, iteD (fun hlt => ?_) (fun _ => dr_3 (cs := cs) hm (But.of (Ex.refl H)) ha h0 k)⟩
  rw [List.length_map] at hlt
  obtain ⟨z, hz⟩ := some_at (l := cs) (i := p.toNat) (by omega)
  refine ⟨_, rfl, a, _, 0, _, rfl, rfl, .of ha, by rfl, _, rfl, a, _, 1, _, rfl, rfl, .of ha, by rfl, c, _, p, _, rfl, rfl, .of hc, atZ h0 hz, ?_⟩
  refine ⟨_, rfl, a, _, 1, _, rfl, rfl, .of ha, by rfl, _, _, rfl, rfl, _, rfl, a, _, 1, 1, rfl, rfl, ha, by rfl, ?_⟩
  have h2 : (upd H a (handO c (p + 1) q t)) a = some (handO c (p + 1) q t) := upd_same
  refine ⟨_, rfl, _, _, rfl, rfl, ⟨by decide, by decide, by decide⟩, _, _, rfl, rfl, _, rfl, iteB (fun _ => ?_) (fun _ => ?_)⟩
  · refine ⟨_, rfl, .inl ⟨_, rfl, _, _, rfl, rfl, (by show (0 : Int) < _; decide), _, rfl, a, _, 1, _, rfl, rfl, .of h2, by rfl, _, _, rfl, fun H' r e hr => .inl ⟨_, rfl, _, rfl, _, _, rfl, rfl, hm.1, ?_⟩⟩⟩
    exact k _ _ _ (But.upd.trans (But.of e)) (e _ _ h2) ⟨_, _, _, rfl, by omega⟩ (Int.emod_nonneg _ (by omega)) (Int.emod_lt_of_pos _ hm.1)
  · refine ⟨_, rfl, _, rfl, a, _, 2, 2, rfl, rfl, h2, by rfl, ?_⟩
    have h3 : (upd (upd H a (handO c (p + 1) q t)) a (handO c (p + 1) z t)) a = some (handO c (p + 1) z t) := upd_same
    exact dr_3 (cs := cs) hm (But.upd.trans But.upd) h3 (by omega) k
/-- a draw, by one who owns the hand -/
theorem draw_of {S : Hp} {l : List (Addr × HO)} {a c : Addr} {o : HO} {cs : List Int} {many : Int} (w : Owns S H ((a, o) :: l)) (ho : IsHand c o) (hc : S c = some (lstI cs)) (hm : 0 < many ∧ many < 1073741824)
    (q : ∀ H' o' x, Owns S H' ((a, o') :: l) → IsHand c o' → 0 ≤ x → x < many → Q (.int x) H') : sp_law_draw K [.ref a, .int many] H Q E :=
  ⟨a, c, o, cs, many, rfl, w.get 0, ho, w.ex _ _ hc, hm, fun H' o' x b h' ho' x0 x1 => q H' o' x (w.write' 0 rfl b h') ho' x0 x1⟩
theorem perm_erase {α : Type} {ys : List α} {k : Nat} {y : α} (h : ys[k]? = some y) : (y :: ys.eraseIdx k).Perm ys := by
  obtain ⟨hk, e⟩ := List.getElem?_eq_some_iff.mp h
  rw [List.eraseIdx_eq_take_drop_succ]
  have e2 : ys = ys.take k ++ y :: ys.drop (k + 1) := by
    rw [← e, List.getElem_cons_drop, List.take_append_drop]
  conv => rhs; rw [e2]
  exact List.perm_middle.symm
theorem rd_law_shuffled (h : sp_law_shuffled K vs H Q E) : t_law_shuffled K E { nx := fun _ H' => Q .non H', rt := Q } (start ["_law_hand_here", "_law_row_here", "_law_left", "_law_told", "_law_turn"] vs) H := by
  obtain ⟨a, r, c, o, cs, xs, rfl, ha, ho, hc, hra, hr, h1000, k⟩ := h
  obtain ⟨S, w0, hS⟩ := Owns.take (H := H) (l := [(a, o)]) (by simp) (fun p hp => by cases List.mem_singleton.mp hp; exact ha)
  have toS : ∀ b o, b ≠ a → H b = some o → S b = some o := fun b o hb h => hS b o h (fun p hp => by cases List.mem_singleton.mp hp; exact Ne.symm hb)
  have hca : c ≠ a := fun e => by
    rw [e, ha] at hc
    obtain ⟨p, q, t, rfl, _⟩ := ho
    injection hc with hc
    unfold handO lstI at hc
    injection hc with hc
    cases cs with
    | nil => cases hc
    | cons z cs => injection hc with h1 _; cases h1
  have gc := toS _ _ hca hc
  have gr := toS _ _ hra hr
  refine ⟨_, rfl, r, xs, rfl, .inl (.of hr), fun l hl => ⟨Nat.zero_le _, fun d hd => ?_⟩⟩
  have w1 := (w0.newE (o := .lst xs) hl).newE (o := .lst []) hd
  refine ⟨_, rfl, r, xs, rfl, .inl (.of (w1.ex _ _ gr)), _, rfl, by omega, by omega, ?_⟩
  refine for_range (lo := 0) (n := ((xs.length : Nat) : Int).toNat) (fun i σ H' => (∃ u, σ = [some (.ref a), some (.ref r), some (.ref l), some (.ref d), u]) ∧ ∃ o ys zs, IsHand c o ∧ (zs ++ ys).Perm xs ∧ zs.length = i ∧ Owns S H' [(a, o), (l, .lst ys), (d, .lst zs)]) ⟨⟨_, rfl⟩, o, xs, [], ho, List.Perm.refl _, rfl, w1⟩ ?_ ?_
  · rintro i σ H1 hi ⟨⟨u, rfl⟩, o1, ys, zs, ho1, hp, hz, w⟩
    have hlen := hp.length_eq
    rw [List.length_append] at hlen
    refine ⟨_, rfl, tyL (w.get 2), _, rfl, tyL (w.get 1), _, rfl, _, rfl, l, ys, rfl, .inl (.of (w.get 1)), draw_of w ho1 gc ⟨by omega, by omega⟩ fun H2 o2 x w2 ho2 x0 x1 => ?_⟩
    obtain ⟨y, hy⟩ := some_at (l := ys) (i := x.toNat) (by omega)
    have hix : seqIndex? x ys.length = some x.toNat := (ixN_seq (by unfold ixN; rw [if_pos x0, if_pos x1])).1
    refine ⟨l, ys, x, x.toNat, y, rfl, rfl, w2.get 1, by omega, by omega, hix, hy, ?_⟩
    have w3 := w2.write (o' := .lst (ys.eraseIdx x.toNat)) 1
    refine ⟨d, zs, y, rfl, rfl, w3.get 2, szl (by omega), ⟨_, rfl⟩, o2, ys.eraseIdx x.toNat, zs ++ [y], ho2, ?_, by rw [List.length_append, List.length_singleton, hz], w3.write 2⟩
    rw [List.append_assoc]
    exact ((perm_erase hy).append_left zs).trans hp
  · rintro σ H1 ⟨⟨u, rfl⟩, o1, ys, zs, ho1, hp, hz, w⟩
    have hlen := hp.length_eq
    rw [List.length_append] at hlen
    have hys : ys = [] := List.length_eq_zero_iff.mp (by omega)
    subst hys
    rw [List.append_nil] at hp
    refine ⟨_, rfl, k H1 o1 d zs (fun b ob hb hh => w.ex _ _ (toS b ob hb hh)) (w.get 0) ho1 ?_ (w.get 2) hp⟩
    exact (Ex.new hl).free hd
theorem rd_law_pick (h : sp_law_pick K vs H Q E) : t_law_pick K E { nx := fun _ H' => Q .non H', rt := Q } (start ["_law_hand_here", "_law_row_here"] vs) H := by
  obtain ⟨a, r, c, o, cs, xs, rfl, ha, ho, hc, hra, hr, hpos, h1000, k⟩ := h
  refine ⟨_, rfl, _, rfl, _, rfl, r, xs, rfl, .inl (.of hr), a, c, o, cs, _, rfl, ha, ho, hc, ⟨by omega, by omega⟩, fun H' o' x b h' ho' x0 x1 => ?_⟩
  obtain ⟨y, hy⟩ := some_at (l := xs) (i := x.toNat) (by omega)
  exact ⟨r, xs, x, y, rfl, rfl, .of (b _ _ hra hr), at_int x0 hy, k H' o' y b h' ho' (List.mem_of_getElem? hy)⟩
theorem rd_law_row (h : sp_law_row K vs H Q E) : t_law_row K E { nx := fun _ H' => Q .non H', rt := Q } (start ["_law_thing"] vs) H := by
  obtain ⟨d, v, rfl, hd, k⟩ := h
  exact ⟨_, rfl, (by show 2 ≤ sizeLine; decide), fun p hp => rIsiT_seq hd hp (k _ (Ex.new hp))⟩
end
end SF


namespace SF
open PySem L2
section
variable {P : Program} {w : World} {K : Fg} {mg : Str → Option Value} {base : Heap}
abbrev s_law_mix : Stmt := top 31
theorem sc_law_mix : FnScope ["_law_number", "_law_turn", "_law_once", "_law_twice"] ["_law_number", "_law_turn"] (defScope s_law_mix) := ⟨rfl, rfl, rfl, by decide +kernel, rfl, by decide +kernel, by decide +kernel⟩
theorem ok_law_mix (T : Txt K mg) {fd : FuncData} (F : FunD K "_law_mix" "_law_mix" (defArgs s_law_mix) (defBody s_law_mix) (defScope s_law_mix) [] [] (ga K "_law_mix") fd)  : FnOk P w K mg base (L2.CX P w) 1 (ga K "_law_mix") fd ["_law_number", "_law_turn"] (sp_law_mix) := by
  refine F.ok sc_law_mix (fun vs H Q E h => len_law_mix h) (fun cdv A outer s H vs Q E hr h => ?_)
  have hu := hu_of hr
  have nd := sc_law_mix.nd
  refine ⟨_, pss_cons (ps_set (i := 2) nd rfl (Or.inl rfl) (pe_op op_mod (pe_callTy call_int1 (by rfl) T.b_int (by decide +kernel) (pa_cons (pe_op op_add (pe_op op_add (pe_op op_mul (pv 0) (pe_int)) (pe_op op_mul (pv 1) (pe_int))) (pe_int)) pa_nil)) (pe_int)))
    (pss_cons (ps_set (i := 3) nd rfl (Or.inl rfl) (pe_op op_mod (pe_callTy call_int1 (by rfl) T.b_int (by decide +kernel) (pa_cons (pe_op op_add (pe_op op_add (pe_op op_mul (pv 2) (pv 2)) (pe_op op_mul (pv 1) (pe_int))) (pe_op op_fdiv (pv 2) (pe_int))) pa_nil)) (pe_int)))
    (pss_one (ps_ret (pe_op op_fdiv (pe_op op_mod (pe_callTy call_int1 (by rfl) T.b_int (by decide +kernel) (pa_cons (pe_op op_add (pe_op op_mul (pv 3) (pe_int)) (pv 2)) pa_nil)) (pe_int)) (pe_int))))), ?_⟩
  exact rd_law_mix (K := K) h

abbrev s_law_hand : Stmt := top 30
theorem sc_law_hand : FnScope ["_law_script", "_law_total", "_law_k", "_law_cell"] ["_law_script"] (defScope s_law_hand) := ⟨rfl, rfl, rfl, by decide +kernel, rfl, by decide +kernel, by decide +kernel⟩
theorem ok_law_hand (T : Txt K mg) {fd : FuncData} (F : FunD K "_law_hand" "_law_hand" (defArgs s_law_hand) (defBody s_law_hand) (defScope s_law_hand) [] [] (ga K "_law_hand") fd)  : FnOk P w K mg base (L2.CX P w) 1 (ga K "_law_hand") fd ["_law_script"] (sp_law_hand K) := by
  refine F.ok sc_law_hand (fun vs H Q E h => len_law_hand h) (fun cdv A outer s H vs Q E hr h => ?_)
  have hu := hu_of hr
  have nd := sc_law_hand.nd
  refine ⟨_, pss_cons (ps_set (i := 1) nd rfl (Or.inl rfl) (pe_int))
    (pss_cons (ps_for (passes_of rfl) rfl (pi_enum (by rfl) T.b_enumerate (pa_cons (pv 0) pa_nil)) (pg_tup (by rfl) (pgs_cons (pg_name (i := 2) nd rfl (Or.inl rfl)) (pgs_cons (pg_name (i := 3) nd rfl (Or.inl rfl)) pgs_nil)))
      (pss_one (ps_set (i := 1) nd rfl (Or.inl rfl) (pe_op op_mod (pe_callTy call_int1 (by rfl) T.b_int (by decide +kernel) (pa_cons (pe_op op_add (pe_op op_mul (pv 1) (pe_int)) (pe_op op_mul (pe_callTy call_int1 (by rfl) T.b_int (by decide +kernel) (pa_cons (pv 3) pa_nil)) (pe_op op_add (pv 2) (pe_int)))) pa_nil)) (pe_int)))))
    (pss_one (ps_ret (pe_lst (pa_cons (pe_lc (own := [("_law_cell", 3)]) (g := (gName 3)) (tt := tYes) rfl nd (pi_list (pv 0)) (blkOk_by (by rfl)) (fun _ _ _ _ _ => pg_name (i := 3) nd rfl (Or.inl rfl)) (fun _ _ _ _ _ => pts_nil) (fun _ _ _ _ _ => (pe_callB call_abs (by rfl) T.b_abs (by decide +kernel) (pa_cons (pe_callTy call_int1 (by rfl) T.b_int (by decide +kernel) (pa_cons (pv 3) pa_nil)) pa_nil)))) (pa_cons (pe_int) (pa_cons (pe_int) (pa_cons (pv 1) pa_nil)))))))), ?_⟩
  exact rd_law_hand (K := K) h

abbrev s_law_draw : Stmt := top 32
theorem sc_law_draw : FnScope ["_law_hand_here", "_law_many", "_law_cell", "_law_rest"] ["_law_hand_here", "_law_many"] (defScope s_law_draw) := ⟨rfl, rfl, rfl, by decide +kernel, rfl, by decide +kernel, by decide +kernel⟩
theorem ok_law_draw (T : Txt K mg) {fd : FuncData} (F : FunD K "_law_draw" "_law_draw" (defArgs s_law_draw) (defBody s_law_draw) (defScope s_law_draw) [] [] (ga K "_law_draw") fd) (h_law_mix : Has P w K mg base 1 "_law_mix" ["_law_number", "_law_turn"] [[]] (sp_law_mix)) : FnOk P w K mg base (L2.CX P w) 2 (ga K "_law_draw") fd ["_law_hand_here", "_law_many"] (sp_law_draw K) := by
  refine F.ok sc_law_draw (fun vs H Q E h => len_law_draw h) (fun cdv A outer s H vs Q E hr h => ?_)
  have hu := hu_of hr
  have nd := sc_law_draw.nd
  refine ⟨_, pss_cons (ps_if (PW.pt (pw_and (pt_cmpR op_eq (pe_ix ix_list (pv 0) (pe_int) (fun _ _ => rfl)) (pe_int) (nomark _)) (pw_and1 (pt_cmpR op_lt (pe_ix ix_list (pv 0) (pe_int) (fun _ _ => rfl)) (pe_callB call_len_seq (by rfl) T.b_len (by decide +kernel) (pa_cons (pe_ix ix_list (pv 0) (pe_int) (fun _ _ => rfl)) pa_nil)) (nomark _)))))
      (pss_cons (ps_set (i := 2) nd rfl (Or.inl rfl) (pe_ix ix_list (pe_ix ix_list (pv 0) (pe_int) (fun _ _ => rfl)) (pe_ix ix_list (pv 0) (pe_int) (fun _ _ => rfl)) (fun _ _ => rfl)))
        (pss_cons (ps_asg (pe_op op_add (pe_ix ix_list (pv 0) (pe_int) (fun _ _ => rfl)) (pe_int)) (pg_sub (pv 0) (pe_int) set_list))
        (pss_cons (ps_if (pt_cmpR op_lt (pv 2) (pe_op op_pow (pe_int) (pe_int)) (nomark _))
          (pss_one (ps_ret (pe_op op_mod (pe_callTy call_int1 (by rfl) T.b_int (by decide +kernel) (pa_cons (pe_has (dvs := []) h_law_mix hr passL (pa_cons (pe_op op_mod (pe_callTy call_int1 (by rfl) T.b_int (by decide +kernel) (pa_cons (pv 2) pa_nil)) (pe_int)) (pa_cons (pe_ix ix_list (pv 0) (pe_int) (fun _ _ => rfl)) pa_nil))) pa_nil)) (pv 1))))
          (pss_nil))
        (pss_one (ps_asg (pv 2) (pg_sub (pv 0) (pe_int) set_list))))))
      (pss_nil))
    (pss_cons (ps_if (pt_cmpR op_gt (pe_ix ix_list (pv 0) (pe_int) (fun _ _ => rfl)) (pe_int) (nomark _))
      (pss_cons (ps_set (i := 3) nd rfl (Or.inl rfl) (pe_ix ix_list (pv 0) (pe_int) (fun _ _ => rfl)))
        (pss_cons (ps_asg (pe_op op_fdiv (pv 3) (pv 1)) (pg_sub (pv 0) (pe_int) set_list))
        (pss_one (ps_ret (pe_op op_mod (pe_callTy call_int1 (by rfl) T.b_int (by decide +kernel) (pa_cons (pv 3) pa_nil)) (pv 1))))))
      (pss_nil))
    (pss_cons (ps_asg (pe_op op_mod (pe_callTy call_int1 (by rfl) T.b_int (by decide +kernel) (pa_cons (pe_op op_add (pe_ix ix_list (pv 0) (pe_int) (fun _ _ => rfl)) (pe_int)) pa_nil)) (pe_int)) (pg_sub (pv 0) (pe_int) set_list))
    (pss_one (ps_ret (pe_op op_mod (pe_callTy call_int1 (by rfl) T.b_int (by decide +kernel) (pa_cons (pe_has (dvs := []) h_law_mix hr passL (pa_cons (pe_ix ix_list (pv 0) (pe_int) (fun _ _ => rfl)) (pa_cons (pe_ix ix_list (pv 0) (pe_int) (fun _ _ => rfl)) pa_nil))) pa_nil)) (pv 1)))))), ?_⟩
  exact rd_law_draw (K := K) h

abbrev s_law_shuffled : Stmt := top 33
theorem sc_law_shuffled : FnScope ["_law_hand_here", "_law_row_here", "_law_left", "_law_told", "_law_turn"] ["_law_hand_here", "_law_row_here"] (defScope s_law_shuffled) := ⟨rfl, rfl, rfl, by decide +kernel, rfl, by decide +kernel, by decide +kernel⟩
theorem ok_law_shuffled (T : Txt K mg) {fd : FuncData} (F : FunD K "_law_shuffled" "_law_shuffled" (defArgs s_law_shuffled) (defBody s_law_shuffled) (defScope s_law_shuffled) [] [] (ga K "_law_shuffled") fd) (h_law_draw : Has P w K mg base 2 "_law_draw" ["_law_hand_here", "_law_many"] [[]] (sp_law_draw K)) : FnOk P w K mg base (L2.CX P w) 3 (ga K "_law_shuffled") fd ["_law_hand_here", "_law_row_here"] (sp_law_shuffled K) := by
  refine F.ok sc_law_shuffled (fun vs H Q E h => len_law_shuffled h) (fun cdv A outer s H vs Q E hr h => ?_)
  have hu := hu_of hr
  have nd := sc_law_shuffled.nd
  refine ⟨_, pss_cons (ps_set (i := 2) nd rfl (Or.inl rfl) (pe_callTy call_list_of (by rfl) T.b_list (by decide +kernel) (pa_cons (pv 1) pa_nil)))
    (pss_cons (ps_set (i := 3) nd rfl (Or.inl rfl) (pe_lst pa_nil))
    (pss_cons (ps_for (passes_of rfl) rfl (pi_range1 (by rfl) T.b_range (pa_cons (pe_callB call_len_seq (by rfl) T.b_len (by decide +kernel) (pa_cons (pv 1) pa_nil)) pa_nil)) (pg_name (i := 4) nd rfl (Or.inl rfl))
      (pss_one (ps_expr (pe_bm PySem.F.plainAttrs_list PySem.F.slot_list_append PySem.F.type_list_append mt_append (pv 3) (pa_cons (pe_bm PySem.F.plainAttrs_list PySem.F.slot_list_pop PySem.F.type_list_pop mt_popAt (pv 2) (pa_cons (pe_has (dvs := []) h_law_draw hr passL (pa_cons (pv 0) (pa_cons (pe_callB call_len_seq (by rfl) T.b_len (by decide +kernel) (pa_cons (pv 2) pa_nil)) pa_nil))) pa_nil)) pa_nil)))))
    (pss_one (ps_ret (pv 3))))), ?_⟩
  exact rd_law_shuffled (K := K) h

abbrev s_law_pick : Stmt := top 35
theorem sc_law_pick : FnScope ["_law_hand_here", "_law_row_here"] ["_law_hand_here", "_law_row_here"] (defScope s_law_pick) := ⟨rfl, rfl, rfl, by decide +kernel, rfl, by decide +kernel, by decide +kernel⟩
theorem ok_law_pick (T : Txt K mg) {fd : FuncData} (F : FunD K "_law_pick" "_law_pick" (defArgs s_law_pick) (defBody s_law_pick) (defScope s_law_pick) [] [] (ga K "_law_pick") fd) (h_law_draw : Has P w K mg base 2 "_law_draw" ["_law_hand_here", "_law_many"] [[]] (sp_law_draw K)) : FnOk P w K mg base (L2.CX P w) 3 (ga K "_law_pick") fd ["_law_hand_here", "_law_row_here"] (sp_law_pick K) := by
  refine F.ok sc_law_pick (fun vs H Q E h => len_law_pick h) (fun cdv A outer s H vs Q E hr h => ?_)
  have hu := hu_of hr
  have nd := sc_law_pick.nd
  refine ⟨_, pss_one (ps_ret (pe_ix ix_list (pv 1) (pe_has (dvs := []) h_law_draw hr passL (pa_cons (pv 0) (pa_cons (pe_callB call_len_seq (by rfl) T.b_len (by decide +kernel) (pa_cons (pv 1) pa_nil)) pa_nil))) (fun _ _ => rfl))), ?_⟩
  exact rd_law_pick (K := K) h

abbrev s_law_row : Stmt := top 36
theorem sc_law_row : FnScope ["_law_thing"] ["_law_thing"] (defScope s_law_row) := ⟨rfl, rfl, rfl, by decide +kernel, rfl, by decide +kernel, by decide +kernel⟩
theorem ok_law_row (T : Txt K mg) {fd : FuncData} (F : FunD K "_law_row" "_law_row" (defArgs s_law_row) (defBody s_law_row) (defScope s_law_row) [] [] (ga K "_law_row") fd)  : FnOk P w K mg base (L2.CX P w) 1 (ga K "_law_row") fd ["_law_thing"] (sp_law_row K) := by
  refine F.ok sc_law_row (fun vs H Q E h => len_law_row h) (fun cdv A outer s H vs Q E hr h => ?_)
  have hu := hu_of hr
  have nd := sc_law_row.nd
  refine ⟨_, pss_one (ps_ret (pe_callB call_isiT (by rfl) T.b_isinstance (by decide +kernel) (pa_cons (pv 0) (pa_cons (pe_tup (pa_cons (pe_bltn (v := .ty "list") (by rfl) T.b_list (by decide +kernel) rfl) (pa_cons (pe_bltn (v := .ty "tuple") (by rfl) T.b_tuple (by decide +kernel) rfl) pa_nil))) pa_nil)))), ?_⟩
  exact rd_law_row (K := K) h

end
end SF

/-! R89q: the drawn graph: the loops that make its wants and arcs. -/
namespace SF
open PySem L2
theorem Owns.add {S H : Hp} {l : List (Addr × HO)} {p : Addr} {u : HO} (w : Owns S H l) (hp : H p = some u) (hS : S p = .none) (hn : ∀ q ∈ l, q.1 ≠ p) : Owns S H (l ++ [(p, u)]) where
  ex := w.ex
  nd := by
    rw [List.map_append]
    refine List.nodup_append.mpr ⟨w.nd, by simp, fun x hx y hy => ?_⟩
    obtain ⟨q, hq, rfl⟩ := List.mem_map.mp hx
    have : y = p := by simpa using hy
    rw [this]; exact hn q hq
  here := fun q hq => by
    rcases List.mem_append.mp hq with hq | hq
    · exact w.here q hq
    · cases List.mem_singleton.mp hq; exact hp
  off := fun q hq => by
    rcases List.mem_append.mp hq with hq | hq
    · exact w.off q hq
    · cases List.mem_singleton.mp hq; exact hS
theorem Rps.perm {α : Type} {S : Hp} {f : α → PyData} : ∀ {xs ys : List V}, ys.Perm xs → ∀ {as : List α}, Rps S (as.map f) xs → ∃ bs : List α, bs.Perm as ∧ Rps S (bs.map f) ys := by
  intro xs ys h
  induction h with
  | nil => intro as h; exact ⟨as, List.Perm.refl _, h⟩
  | cons x p ih =>
    intro as h
    cases as with
    | nil => have := h.nil'; cases this
    | cons a as =>
      obtain ⟨v, vs, e, h1, h2⟩ := Rps.cons' (ds := as.map f) h
      cases e
      obtain ⟨bs, q1, q2⟩ := ih h2
      exact ⟨a :: bs, q1.cons a, .cons h1 q2⟩
  | swap x y l =>
    intro as h
    cases as with
    | nil => have := h.nil'; cases this
    | cons a as =>
      cases as with
      | nil => obtain ⟨v, vs, e, h1, h2⟩ := Rps.cons' (ds := []) h; cases h2.nil'; cases e
      | cons b as =>
        obtain ⟨v, vs, e, h1, h2⟩ := Rps.cons' (ds := f b :: as.map f) h
        obtain ⟨v2, vs2, e2, h3, h4⟩ := h2.cons'
        subst e2
        cases e
        exact ⟨b :: a :: as, List.Perm.swap .., .cons h3 (.cons h1 h4)⟩
  | trans p q ih1 ih2 =>
    intro as h
    obtain ⟨bs, b1, b2⟩ := ih2 h
    obtain ⟨cs, c1, c2⟩ := ih1 b2
    exact ⟨cs, c1.trans b1, c2⟩
section
variable {K : Fg} {vs : List V} {H : Hp} {Q : VK} {E : XK}
/-- a comprehension over ints whose test draws -/
theorem kept_draw {S H4 : Hp} {l : List (Addr × HO)} {r D a c : Addr} {o : HO} {cs p : List Int} {N : Int} {σ0 : L2.St} {j : Nat} {tt : TT} {te : TE} {g : TG} {vs : List Nat} {Qd : Hp → Prop}
    (w : Owns S H4 ((a, o) :: l)) (ho : IsHand c o) (hc : S c = some (lstI cs)) (hr : S r = some (lstI p)) (hD : H4 D = none) (h1000 : p.length ≤ 1000) (hN : 0 < N ∧ N < 1073741824)
    (hg : ∀ z H R, R (σ0.set j (some (.int z))) H → g (.int z) (wipe σ0 vs) H R) (hwp : ∀ z, wipe (σ0.set j (some (.int z))) vs = wipe σ0 vs)
    (htt : ∀ z H Q, sp_law_draw K [.ref a, .int N] H (fun x h => rEq x (.int 0) h fun y h' => ∃ b, y = .bl b ∧ Q b h') E0 → tt (σ0.set j (some (.int z))) H Q)
    (hte : ∀ z H Q, Q (.int z) H → te (σ0.set j (some (.int z))) H Q)
    (q : ∀ H5 o' acc, IsHand c o' → acc.length ≤ p.length → Owns S H5 ((a, o') :: (D, lstI acc) :: l) → Qd H5) :
    ∃ W : Nat → Nat → Hp → Prop, (∃ m, W 0 m (upd H4 D (.lst []))) ∧ ∀ i m H, W i m H →
      ((Itl K r).stop i H ∧ Qd H) ∨ ((Itl K r).go i H ∧ ∃ Nx : Hp → Prop, (∀ H', Nx H' → ∃ m', m' < m ∧ W (i + 1) m' H') ∧ ∀ x H', (Itl K r).yld i H x H' → g x (wipe σ0 vs) H' fun σ2 H2 => wipe σ2 vs = wipe σ0 vs ∧ tt σ2 H2 fun b H3 =>
        if b = true then te σ2 H3 fun y H4 => ∃ acc, H4 D = some (.lst acc) ∧ acc.length < sizeLine ∧ Nx (upd H4 D (.lst (acc ++ [y]))) else Nx H3) := by
  refine lc_list (K := K) (a := r) (xs := p.map .int) (fun i H' => ∃ o' acc, IsHand c o' ∧ acc.length ≤ i ∧ Owns S H' ((a, o') :: (D, lstI acc) :: l)) ⟨o, [], ho, Nat.le_refl _, (w.new hD).perm (List.Perm.swap ..)⟩ (fun i H' _ ⟨_, _, _, _, w⟩ => .of (w.ex _ _ hr)) ?_ ?_
  · rintro i x H5 hx ⟨o1, acc, ho1, hacc, w5⟩
    obtain ⟨z, hz, rfl⟩ := int_item hx
    have hi := (List.getElem?_eq_some_iff.mp hz).1
    refine hg z H5 _ ⟨hwp z, htt z H5 _ (draw_of w5 ho1 hc hN fun H6 o2 y w6 ho2 _ _ => ⟨rfl, _, rfl, iteB (fun _ => ?_) (fun _ => ⟨o2, acc, ho2, by omega, w6⟩)⟩)⟩
    refine hte z H6 _ ⟨_, w6.get 1, szl (by rw [List.length_map]; omega), o2, acc ++ [z], ho2, by rw [List.length_append, List.length_singleton]; omega, ?_⟩
    have := w6.write (o' := .lst (acc.map .int ++ [.int z])) 1
    unfold lstI
    rw [List.map_append]
    exact this
  · rintro H5 ⟨o1, acc, ho1, hacc, w5⟩
    rw [List.length_map] at hacc
    exact q H5 o1 acc ho1 hacc w5
/-- the slots of _law_graph -/
abbrev gg (a : Addr) (most : Int) (m : Nat) (low : Int) (pl : Addr) (u5 u6 u7 u8 u9 u10 u11 u12 u13 : Option V) : L2.St := [some (.ref a), some (.int most), some (.int m), some (.int low), some (.ref pl), u5, u6, u7, u8, u9, u10, u11, u12, u13]
/-- wants so far -/
def GW (S1 : Hp) (a c : Addr) (most : Int) (m : Nat) (low : Int) (pl W : Addr) (i : Nat) (σ : L2.St) (H' : Hp) : Prop := (∃ u6 u7 u8 u9 u10 u11 u12 u13, σ = gg a most m low pl (some (.ref W)) u6 u7 u8 u9 u10 u11 u12 u13) ∧
  ∃ S o xs ls, Ex S1 S ∧ IsHand c o ∧ Owns S H' [(a, o), (W, .lst xs)] ∧ Rps S (List.map encL ls) xs ∧ ls.length = i
theorem lg_1 {S1 : Hp} {a c : Addr} {cs pool : List Int} {most : Int} {m : Nat} {low : Int} {pl W : Addr} {i : Nat} {σ : L2.St} {H' : Hp} {D : Ends} (hc : S1 c = some (lstI cs)) (hpl : S1 pl = some (lstI pool)) (hp3 : pool.length = 3) (hm : m ≤ 8) (hi : i < m) (h : GW S1 a c most m low pl W i σ H')
    (k : ∀ σ' H2, GW S1 a c most m low pl W (i + 1) σ' H2 → D.nx σ' H2) : t_law_graph_1 K E D σ H' := by
  obtain ⟨⟨u6, u7, u8, u9, u10, u11, u12, u13, rfl⟩, S, o, xs, ls, eS, ho, w, hrp, hls⟩ := h
  have hxl : xs.length = ls.length := by rw [hrp.length, List.length_map]
  refine ⟨_, rfl, pl, rfl, ⟨_, .of (w.ex _ _ (eS _ _ hpl))⟩, fun C hC => ?_⟩
  refine kept_draw (j := 13) (N := 4) (p := pool) w ho (eS _ _ hc) (eS _ _ hpl) hC (by omega) ⟨by decide, by decide⟩ (fun z H R q => q) (fun z => rfl) (fun z H Q q => ⟨_, rfl, q⟩) (fun z H Q q => ⟨_, rfl, q⟩) fun H5 o2 acc ho2 hacc w5 => ?_
  refine ⟨_, rfl, tyL (w5.get 2), _, rfl, draw_of w5 ho2 (eS _ _ hc) ⟨by decide, by decide⟩ fun H6 o3 y w6 ho3 _ _ => ⟨rfl, _, rfl, iteB (fun _ => ?_) (fun _ => ?_)⟩⟩
  · refine ⟨_, rfl, _, rfl, C, C, _, _, rfl, rfl, w6.get 1, w6.get 1, sz (by rw [List.length_map]; omega), fun p hp => ?_⟩
    rw [← List.map_append]
    have w7 := (w6.drop 1).grow (o := .lst ((acc ++ acc).map .int)) hp
    have e7 := (w6.drop 1).growEx (o := .lst ((acc ++ acc).map .int)) hp
    refine ⟨W, xs, _, rfl, rfl, w7.get 1, szl (by omega), k _ _ ⟨⟨_, _, _, _, _, _, _, _, rfl⟩, _, o3, xs ++ [.ref p], ls ++ [acc ++ acc], eS.trans e7, ho3, w7.write 1, ?_, by rw [List.length_append, List.length_singleton, hls]⟩⟩
    rw [show List.map encL (ls ++ [acc ++ acc]) = List.map encL ls ++ [encL (acc ++ acc)] from List.map_append]
    exact (hrp.up e7).append (.cons (.lst upd_same (.ints _)) .nil)
  · have w7 := w6.freeze 1
    have e7 := w6.freezeEx 1
    refine ⟨_, rfl, W, xs, _, rfl, rfl, w7.get 1, szl (by omega), k _ _ ⟨⟨_, _, _, _, _, _, _, _, rfl⟩, _, o3, xs ++ [.ref C], ls ++ [acc], eS.trans e7, ho3, w7.write 1, ?_, by rw [List.length_append, List.length_singleton, hls]⟩⟩
    rw [List.map_append]
    exact (hrp.up e7).append (.cons (.lst upd_same (.ints _)) .nil)
def AOk (m : Nat) (as : List Arc) : Prop := ∀ a ∈ as, ((0 ≤ a.1 ∧ a.1 < (m : Int)) ∧ (0 ≤ a.2.1 ∧ a.2.1 < (m : Int))) ∧ a.2.2.length ≤ 3
/-- arcs so far -/
def GA (S1 : Hp) (a c : Addr) (most : Int) (m : Nat) (low : Int) (pl W A : Addr) (v9 : Option V) (i : Nat) (σ : L2.St) (H' : Hp) : Prop := (∃ u6 u7 u10 u11 u12 u13, σ = gg a most m low pl (some (.ref W)) u6 u7 (some (.ref A)) v9 u10 u11 u12 u13) ∧
  ∃ S o xs as, Ex S1 S ∧ IsHand c o ∧ Owns S H' [(a, o), (A, .lst xs)] ∧ Rps S (List.map encA as) xs ∧ AOk m as ∧ as.length = i
def RingOk (m : Nat) (rg : List V) : Prop := rg.length ≤ m ∧ ∀ y ∈ rg, ∃ z : Int, y = .int z ∧ 0 ≤ z ∧ z < (m : Int)
theorem AOk.snoc {m : Nat} {as : List Arc} (h : AOk m as) {x y : Int} {l : List Int} (hx : 0 ≤ x ∧ x < (m : Int)) (hy : 0 ≤ y ∧ y < (m : Int)) (hl : l.length ≤ 3) : AOk m (as ++ [(x, y, l)]) := fun a ha => by
  rcases List.mem_append.mp ha with ha | ha
  · exact h a ha
  · rw [List.mem_singleton.mp ha]; exact ⟨⟨hx, hy⟩, hl⟩
theorem lg_2 {S1 : Hp} {a c : Addr} {cs pool : List Int} {most : Int} {m : Nat} {low : Int} {pl W A R : Addr} {rg : List V} {i j : Nat} {σ : L2.St} {H' : Hp} {D : Ends} (hc : S1 c = some (lstI cs)) (hpl : S1 pl = some (lstI pool)) (hp3 : pool.length = 3) (hm : m ≤ 8) (hR : S1 R = some (.lst rg)) (hrg : RingOk m rg)
    (hi : i < rg.length) (hj : j ≤ 100) (h : GA S1 a c most m low pl W A (some (.ref R)) j σ H') (hat : σ[10]? = some (some (.int (i : Int))))
    (k : ∀ σ' H2, GA S1 a c most m low pl W A (some (.ref R)) (j + 1) σ' H2 → D.nx σ' H2) : t_law_graph_2 K E D σ H' := by
  obtain ⟨⟨u6, u7, u10, u11, u12, u13, rfl⟩, S, o, xs, as, eS, ho, w, hrp, hok, hls⟩ := h
  have h10 : u10 = some (.int (i : Int)) := by simpa using hat
  subst h10
  have hxl : xs.length = as.length := by rw [hrp.length, List.length_map]
  refine ⟨_, rfl, pl, rfl, ⟨_, .of (w.ex _ _ (eS _ _ hpl))⟩, fun C hC => ?_⟩
  refine kept_draw (j := 13) (N := 2) (p := pool) w ho (eS _ _ hc) (eS _ _ hpl) hC (by omega) ⟨by decide, by decide⟩ (fun z H R q => q) (fun z => rfl) (fun z H Q q => ⟨_, rfl, q⟩) (fun z H Q q => ⟨_, rfl, q⟩) fun H5 o2 acc ho2 hacc w5 => ?_
  have gR := w5.ex _ _ (eS _ _ hR)
  obtain ⟨y1, hy1⟩ := some_at (l := rg) (i := i) hi
  obtain ⟨z1, rfl, q1⟩ := hrg.2 y1 (List.mem_of_getElem? hy1)
  have hj2 : (((i : Int) + 1) % (rg.length : Int)).toNat < rg.length := by
    have h1 := Int.emod_nonneg ((i : Int) + 1) (show (rg.length : Int) ≠ 0 by omega)
    have h2 := Int.emod_lt_of_pos ((i : Int) + 1) (show (0 : Int) < rg.length by omega)
    omega
  obtain ⟨y2, hy2⟩ := some_at (l := rg) (i := (((i : Int) + 1) % (rg.length : Int)).toNat) hj2
  obtain ⟨z2, rfl, q2⟩ := hrg.2 y2 (List.mem_of_getElem? hy2)
  refine ⟨_, rfl, tyL (w5.get 2), _, rfl, _, rfl, R, rg, _, _, rfl, rfl, .of gR, at_nat hy1, _, rfl, _, rfl, _, _, rfl, rfl, .inl ⟨_, rfl, _, rfl, R, rg, rfl, .inl (.of gR), _, _, rfl, rfl, (by show (0 : Int) < rg.length; omega), R, rg, _, _, rfl, rfl, .of gR, at_int (Int.emod_nonneg _ (by omega)) hy2, _, rfl, (by show 3 ≤ sizeLine; decide), fun p hp => ?_⟩⟩
  have w6 := w5.freeze 1
  have e6 := w5.freezeEx 1
  have w7 := w6.grow (o := .tup [.int z1, .int z2, .ref C]) hp
  have e7 := w6.growEx (o := .tup [.int z1, .int z2, .ref C]) hp
  refine ⟨A, xs, _, rfl, rfl, w7.get 1, szl (by omega), k _ _ ⟨⟨_, _, _, _, _, _, rfl⟩, _, o2, xs ++ [.ref p], as ++ [(z1, z2, acc)], eS.trans (e6.trans e7), ho2, w7.write 1, ?_, hok.snoc q1 q2 (by omega), by rw [List.length_append, List.length_singleton, hls]⟩⟩
  rw [List.map_append]
  exact (hrp.up (e6.trans e7)).append (.cons (.tup upd_same (.cons (.int z1) (.cons (.int z2) (.cons (.lst (e7 _ _ upd_same) (.ints _)) .nil)))) .nil)
theorem lg_3 {S1 : Hp} {a c : Addr} {cs pool : List Int} {most : Int} {m : Nat} {low : Int} {pl W A : Addr} {v9 : Option V} {j : Nat} {σ : L2.St} {H' : Hp} {D : Ends} (hc : S1 c = some (lstI cs)) (hpl : S1 pl = some (lstI pool)) (hp3 : pool.length = 3) (hm0 : 0 < m) (hm : m ≤ 8)
    (hj : j ≤ 100) (h : GA S1 a c most m low pl W A v9 j σ H')
    (k : ∀ σ' H2, GA S1 a c most m low pl W A v9 (j + 1) σ' H2 → D.nx σ' H2) : t_law_graph_3 K E D σ H' := by
  obtain ⟨⟨u6, u7, u10, u11, u12, u13, rfl⟩, S, o, xs, as, eS, ho, w, hrp, hok, hls⟩ := h
  have hxl : xs.length = as.length := by rw [hrp.length, List.length_map]
  refine ⟨_, rfl, pl, rfl, ⟨_, .of (w.ex _ _ (eS _ _ hpl))⟩, fun C hC => ?_⟩
  refine kept_draw (j := 13) (N := 3) (p := pool) w ho (eS _ _ hc) (eS _ _ hpl) hC (by omega) ⟨by decide, by decide⟩ (fun z H R q => q) (fun z => rfl) (fun z H Q q => ⟨_, rfl, q⟩) (fun z H Q q => ⟨_, rfl, q⟩) fun H5 o2 acc ho2 hacc w5 => ?_
  refine ⟨_, rfl, tyL (w5.get 2), _, rfl, _, rfl, draw_of w5 ho2 (eS _ _ hc) ⟨by omega, by omega⟩ fun H6 o3 z1 w6 ho3 a1 b1 => ⟨_, rfl, _, rfl, draw_of w6 ho3 (eS _ _ hc) ⟨by omega, by omega⟩ fun H7 o4 z2 w7 ho4 a2 b2 => ⟨_, rfl, (by show 3 ≤ sizeLine; decide), fun p hp => ?_⟩⟩⟩
  have w8 := w7.freeze 1
  have e6 := w7.freezeEx 1
  have w9 := w8.grow (o := .tup [.int z1, .int z2, .ref C]) hp
  have e7 := w8.growEx (o := .tup [.int z1, .int z2, .ref C]) hp
  refine ⟨A, xs, _, rfl, rfl, w9.get 1, szl (by omega), k _ _ ⟨⟨_, _, _, _, _, _, rfl⟩, _, o4, xs ++ [.ref p], as ++ [(z1, z2, acc)], eS.trans (e6.trans e7), ho4, w9.write 1, ?_, hok.snoc ⟨a1, b1⟩ ⟨a2, b2⟩ (by omega), by rw [List.length_append, List.length_singleton, hls]⟩⟩
  rw [List.map_append]
  exact (hrp.up (e6.trans e7)).append (.cons (.tup upd_same (.cons (.int z1) (.cons (.int z2) (.cons (.lst (e7 _ _ upd_same) (.ints _)) .nil)))) .nil)
end
end SF

/-! R89r: the reading of _law_graph, whole. -/
namespace SF
open PySem L2
section
variable {K : Fg} {vs : List V} {H : Hp} {Q : VK} {E : XK}
/-- what one wants of the drawn graph -/
def GK (S0 : Hp) (a c : Addr) (most : Nat) (Q : VK) : Prop := ∀ S' H' o' t vw va ws as, Ex S0 S' → Owns S' H' [(a, o')] → IsHand c o' → S' t = some (.tup [vw, va]) → Rp S' (encLL ws) vw → Rp S' (encAs as) va → Drawn most ws as → Q (.ref t) H'
theorem lg_4 {S0 S1 : Hp} {a c : Addr} {cs pool : List Int} {most m : Nat} {low : Int} {pl W A : Addr} {v6 v7 v9 v10 v11 v12 v13 : Option V} {o : HO} {al : List V} {as : List Arc} {ls : List (List Int)} {H' : Hp} {D : Ends} (e01 : Ex S0 S1) (hc : S1 c = some (lstI cs)) (hpl : S1 pl = some (lstI pool)) (hp3 : pool.length = 3) (hm0 : 0 < m) (hm : m ≤ most) (hm8 : most ≤ 8)
    (hW : Rp S1 (encLL ls) (.ref W)) (hls : ls.length = m) (ho : IsHand c o) (w : Owns S1 H' [(a, o), (A, .lst al)]) (hr : Rps S1 (List.map encA as) al) (hok : AOk m as) (hl : as.length ≤ m) (k : GK S0 a c most D.rt) :
    t_law_graph_4 K E D (gg a most m low pl (some (.ref W)) v6 v7 (some (.ref A)) v9 v10 v11 v12 v13) H' := by
  refine ⟨_, rfl, _, rfl, _, _, rfl, rfl, .inl (by decide), _, _, rfl, rfl, draw_of w ho hc ⟨by omega, by omega⟩ fun H1 o1 x w1 ho1 x0 x1 => ⟨x, rfl, by omega, by omega, ?_⟩⟩
  refine for_range (lo := 0) (n := x.toNat) (fun i => GA S1 a c most m low pl W A v9 (as.length + i)) ⟨⟨_, _, _, _, _, _, rfl⟩, S1, o1, al, as, Ex.refl _, ho1, w1, hr, hok, rfl⟩ ?_ ?_
  · rintro i σ H2 hi ⟨⟨u6, u7, u10, u11, u12, u13, rfl⟩, rest⟩
    exact lg_3 hc hpl hp3 hm0 (by omega) (by omega) ⟨⟨_, _, _, _, _, _, rfl⟩, rest⟩ fun σ' H3 q => q
  · rintro σ H2 ⟨⟨u6, u7, u10, u11, u12, u13, rfl⟩, S, o2, xs, as2, eS, ho2, w2, hr2, hok2, hl2⟩
    have hxl : xs.length = as2.length := by rw [hr2.length, List.length_map]
    have hAa : A ≠ a := fun e => by
      have := w2.nd
      simp [e] at this
    refine ⟨_, rfl, _, rfl, _, rfl, a, A, c, o2, cs, xs, rfl, w2.get 0, ho2, w2.ex _ _ (eS _ _ hc), hAa, w2.get 1, by omega, fun H3 o3 p ys b h3 ho3 hpn hp perm => ⟨(by show 2 ≤ sizeLine; decide), fun t ht => ?_⟩⟩
    have w3 := w2.write' 0 rfl b h3
    have w4 := w3.add hp (w2.ex.free hpn) (fun q hq e => by
      rcases List.mem_cons.mp hq with rfl | hq
      · have := w2.get 0; rw [show a = p from e, hpn] at this; cases this
      · cases List.mem_singleton.mp hq
        have := w2.get 1; rw [show A = p from e, hpn] at this; cases this)
    have w5 := w4.freeze 2
    have e5 := w4.freezeEx 2
    have w6 := (w5.drop 1).grow (o := .tup [.ref W, .ref p]) ht
    have e6 := (w5.drop 1).growEx (o := .tup [.ref W, .ref p]) ht
    obtain ⟨bs, hb, hrb⟩ := hr2.perm perm
    have hbl := hb.length_eq
    refine k _ _ o3 t (.ref W) (.ref p) ls bs (e01.trans (eS.trans (e5.trans e6))) w6 ho3 upd_same (hW.up (eS.trans (e5.trans e6))) (.lst (e6 _ _ upd_same) (hrb.up (e5.trans e6))) ⟨by omega, by omega, fun q hq => ?_, fun q hq => ?_⟩
    · rw [hls]; exact (hok2 q (hb.mem_iff.mp hq)).1
    · exact (hok2 q (hb.mem_iff.mp hq)).2
theorem lg_5 {S0 S1 : Hp} {a c : Addr} {cs pool : List Int} {most m : Nat} {low : Int} {pl W A : Addr} {v6 v7 v9 v10 v11 v12 v13 : Option V} {o : HO} {ls : List (List Int)} {H' : Hp} {D : Ends} (e01 : Ex S0 S1) (hc : S1 c = some (lstI cs)) (hpl : S1 pl = some (lstI pool)) (hp3 : pool.length = 3) (hm0 : 0 < m) (hm : m ≤ most) (hm8 : most ≤ 8)
    (hW : Rp S1 (encLL ls) (.ref W)) (hls : ls.length = m) (ho : IsHand c o) (w : Owns S1 H' [(a, o), (A, .lst [])]) (k : GK S0 a c most D.rt) :
    t_law_graph_5 K E D (gg a most m low pl (some (.ref W)) v6 v7 (some (.ref A)) v9 v10 v11 v12 v13) H' := by
  refine ⟨_, rfl, draw_of w ho hc ⟨by decide, by decide⟩ fun H1 o1 y w1 ho1 _ _ => ⟨rfl, _, rfl, iteB (fun _ => ?_) (fun _ => ?_)⟩⟩
  · refine ⟨_, rfl, _, rfl, _, rfl, RgOk.of_le (Int.le_refl 0) (by omega) (by omega) (by omega), fun p5 hp5 => ?_⟩
    rw [rgV_eq]
    have w2 := w1.grow (o := .lst ((rngI m).map .int)) hp5
    have e2 := w1.growEx (o := .lst ((rngI m).map .int)) hp5
    have hpa : p5 ≠ a := fun e => by have := w1.get 0; rw [← e, hp5] at this; cases this
    refine ⟨a, p5, c, o1, cs, (rngI m).map .int, rfl, w2.get 0, ho1, w2.ex _ _ (e2 _ _ hc), hpa, upd_same, by rw [List.length_map, rng_len]; omega, fun H3 o3 p ys b h3 ho3 hpn hp perm => ?_⟩
    have w3 := w2.write' 0 rfl b h3
    have w4 := w3.add hp (w2.ex.free hpn) (fun q hq e => by
      rcases List.mem_cons.mp hq with rfl | hq
      · have := w2.get 0; rw [show a = p from e, hpn] at this; cases this
      · cases List.mem_singleton.mp hq
        have := w2.get 1; rw [show A = p from e, hpn] at this; cases this)
    refine ⟨_, rfl, _, rfl, draw_of w4 ho3 (e2 _ _ hc) ⟨by omega, by omega⟩ fun H4 o4 x w5 ho4 x0 x1 => ⟨_, _, rfl, rfl, _, rfl, p, ys, rfl, .of (w5.get 2), fun R hR => ?_⟩⟩
    generalize hrg : cutV ys none (some (1 + x)) = rg
    have rok : RingOk m rg := by
      refine ⟨?_, fun y hy => ?_⟩
      · have h1 := cutV_length ys none (some (1 + x))
        have h2 := perm.length_eq
        rw [List.length_map, rng_len] at h2
        rw [hrg] at h1
        omega
      · have hy2 : y ∈ ys := by
          rw [← hrg] at hy
          exact List.mem_of_mem_drop (List.mem_of_mem_take hy)
        obtain ⟨z, hz, rfl⟩ := List.mem_map.mp (perm.mem_iff.mp hy2)
        exact ⟨z, rfl, (memb_rng m).rng z hz⟩
    have w6 := (w5.drop 2).grow (o := .lst rg) hR
    have e6 := (w5.drop 2).growEx (o := .lst rg) hR
    have gR : (upd (upd S1 p5 (.lst ((rngI m).map .int))) R (.lst rg)) R = some (.lst rg) := upd_same
    have e26 := e2.trans e6
    generalize hS2 : upd (upd S1 p5 (.lst ((rngI m).map .int))) R (.lst rg) = S2 at w6 e26 gR
    refine ⟨_, rfl, R, rg, rfl, .inl (.of (w6.ex _ _ gR)), _, rfl, by have := rok.1; omega, by have := rok.1; omega, ?_⟩
    refine for_range (lo := 0) (n := ((rg.length : Nat) : Int).toNat) (fun i => GA S2 a c most m low pl W A (some (.ref R)) i) ⟨⟨_, _, _, _, _, _, rfl⟩, S2, o4, [], [], Ex.refl _, ho4, w6, .nil, (fun q hq => by cases hq), rfl⟩ ?_ ?_
    · rintro i σ H5 hi ⟨⟨u6, u7, u10, u11, u12, u13, rfl⟩, rest⟩
      have hr1 := rok.1
      exact lg_2 (i := i) (j := i) (e26 _ _ hc) (e26 _ _ hpl) hp3 (by omega) gR rok (by omega) (by omega) ⟨⟨_, _, _, _, _, _, rfl⟩, rest⟩ (by show some (some (V.int (0 + (i : Int)))) = _; rw [Int.zero_add]) fun σ' H3 q => q
    · rintro σ H5 ⟨⟨u6, u7, u10, u11, u12, u13, rfl⟩, S, o5, xs, as, eS, ho5, w7, hr7, hok7, hl7⟩
      have e3 := e26.trans eS
      have hr1 := rok.1
      exact lg_4 (e01.trans e3) (e3 _ _ hc) (e3 _ _ hpl) hp3 hm0 hm hm8 (hW.up e3) hls ho5 w7 hr7 hok7 (by omega) k
  · exact lg_4 (as := []) e01 hc hpl hp3 hm0 hm hm8 hW hls ho1 w1 .nil (fun q hq => by cases hq) (Nat.zero_le _) k
theorem rd_law_graph (h : sp_law_graph K vs H Q E) : t_law_graph K E { nx := fun _ H' => Q .non H', rt := Q } (start ["_law_hand_here", "_law_most", "_law_many", "_law_low", "_law_pool", "_law_wants", "_law_vertex", "_law_row_here", "_law_arcs", "_law_ring", "_law_at", "_law_keys", "_law_turn", "_law_key"] vs) H := by
  obtain ⟨S, a, c, o, cs, most, rfl, w, ho, hc, hm8, k⟩ := h
  refine ⟨_, rfl, _, rfl, _, _, rfl, rfl, draw_of w ho hc ⟨by omega, by omega⟩ fun H1 o1 x w1 ho1 x0 x1 => ?_⟩
  obtain ⟨m, rfl⟩ : ∃ m : Nat, x = (m : Int) := ⟨x.toNat, by omega⟩
  refine ⟨_, rfl, draw_of w1 ho1 hc ⟨by decide, by decide⟩ fun H2 o2 y w2 ho2 _ _ => ⟨_, _, rfl, rfl, ?_⟩⟩
  refine ⟨_, rfl, _, rfl, _, _, rfl, rfl, _, _, rfl, rfl, ⟨by decide, by decide, by decide⟩, _, rfl, _, _, rfl, rfl, (by show 3 ≤ sizeLine; decide), fun pl hp => ?_⟩
  have w3 := w2.grow (o := lstI [y - 3, y - 3 + 1, 10 ^ (24 : Int).toNat + (y - 3)]) hp
  have e3 := w2.growEx (o := lstI [y - 3, y - 3 + 1, 10 ^ (24 : Int).toNat + (y - 3)]) hp
  have gpl : (upd S pl (lstI [y - 3, y - 3 + 1, 10 ^ (24 : Int).toNat + (y - 3)])) pl = some (lstI [y - 3, y - 3 + 1, 10 ^ (24 : Int).toNat + (y - 3)]) := upd_same
  refine ⟨Nat.zero_le _, fun W hW => ?_⟩
  have w4 := w3.newE (o := .lst []) hW
  generalize hS1 : upd S pl (lstI [y - 3, y - 3 + 1, 10 ^ (24 : Int).toNat + (y - 3)]) = S1 at w4 e3 gpl
  refine ⟨_, rfl, _, rfl, by omega, by omega, ?_⟩
  refine for_range (lo := 0) (n := ((m : Nat) : Int).toNat) (GW S1 a c most m (y - 3) pl W) ⟨⟨_, _, _, _, _, _, _, _, rfl⟩, S1, o2, [], [], Ex.refl _, ho2, w4, .nil, rfl⟩ ?_ ?_
  · rintro i σ H5 hi ⟨⟨u6, u7, u8, u9, u10, u11, u12, u13, rfl⟩, rest⟩
    exact lg_1 (e3 _ _ hc) gpl rfl (by omega) (by omega) ⟨⟨_, _, _, _, _, _, _, _, rfl⟩, rest⟩ fun σ' H3 q => q
  · rintro σ H5 ⟨⟨u6, u7, u8, u9, u10, u11, u12, u13, rfl⟩, S2, o5, xs, ls, eS, ho5, w5, hr5, hl5⟩
    have w6 := w5.freeze 1
    have e6 := w5.freezeEx 1
    have hWd : Rp (upd S2 W (.lst xs)) (encLL ls) (.ref W) := .lst upd_same (hr5.up e6)
    have e16 := e3.trans (eS.trans e6)
    have e1 := eS.trans e6
    generalize hS3 : upd S2 W (.lst xs) = S3 at w6 hWd e16 e1
    refine ⟨Nat.zero_le _, fun A hA => ?_⟩
    have w7 := w6.newE (o := .lst []) hA
    have hlm : ls.length = m := by omega
    refine ⟨_, rfl, rfl, _, rfl, iteD (fun hz => ?_) (fun hz => ?_)⟩
    · have hm0 : m = 0 := by injection hz with hz; omega
      refine ⟨_, rfl, _, rfl, (by show 2 ≤ sizeLine; decide), fun t ht => ?_⟩
      have w8 := w7.freeze 1
      have e8 := w7.freezeEx 1
      have w9 := w8.grow (o := .tup [.ref W, .ref A]) ht
      have e9 := w8.growEx (o := .tup [.ref W, .ref A]) ht
      exact k _ _ o5 t (.ref W) (.ref A) ls [] (e16.trans (e8.trans e9)) w9 ho5 upd_same (hWd.up (e8.trans e9)) (.lst (e9 _ _ upd_same) .nil) ⟨by omega, Nat.zero_le _, (fun q hq => by cases hq), fun q hq => by cases hq⟩
    · have hm0 : 0 < m := Nat.pos_of_ne_zero fun e => hz (by rw [e]; rfl)
      exact lg_5 e16 (e16 _ _ hc) (e1 _ _ gpl) rfl hm0 (by omega) hm8 hWd hlm ho5 w7 k
end
end SF


namespace SF
open PySem L2
section
variable {P : Program} {w : World} {K : Fg} {mg : Str → Option Value} {base : Heap}
abbrev s_law_graph : Stmt := top 34
theorem sc_law_graph : FnScope ["_law_hand_here", "_law_most", "_law_many", "_law_low", "_law_pool", "_law_wants", "_law_vertex", "_law_row_here", "_law_arcs", "_law_ring", "_law_at", "_law_keys", "_law_turn", "_law_key"] ["_law_hand_here", "_law_most"] (defScope s_law_graph) := ⟨rfl, rfl, rfl, by decide +kernel, rfl, by decide +kernel, by decide +kernel⟩
theorem ok_law_graph (T : Txt K mg) {fd : FuncData} (F : FunD K "_law_graph" "_law_graph" (defArgs s_law_graph) (defBody s_law_graph) (defScope s_law_graph) [] [] (ga K "_law_graph") fd) (h_law_draw : Has P w K mg base 2 "_law_draw" ["_law_hand_here", "_law_many"] [[]] (sp_law_draw K)) (h_law_shuffled : Has P w K mg base 3 "_law_shuffled" ["_law_hand_here", "_law_row_here"] [[]] (sp_law_shuffled K)) : FnOk P w K mg base (L2.CX P w) 4 (ga K "_law_graph") fd ["_law_hand_here", "_law_most"] (sp_law_graph K) := by
  refine F.ok sc_law_graph (fun vs H Q E h => len_law_graph h) (fun cdv A outer s H vs Q E hr h => ?_)
  have hu := hu_of hr
  have nd := sc_law_graph.nd
  refine ⟨_, pss_cons (ps_set (i := 2) nd rfl (Or.inl rfl) (pe_has (dvs := []) h_law_draw hr passL (pa_cons (pv 0) (pa_cons (pe_op op_add (pv 1) (pe_int)) pa_nil))))
    (pss_cons (ps_set (i := 3) nd rfl (Or.inl rfl) (pe_op op_sub (pe_has (dvs := []) h_law_draw hr passL (pa_cons (pv 0) (pa_cons (pe_int) pa_nil))) (pe_int)))
    (pss_cons (ps_set (i := 4) nd rfl (Or.inl rfl) (pe_lst (pa_cons (pv 3) (pa_cons (pe_op op_add (pv 3) (pe_int)) (pa_cons (pe_op op_add (pe_op op_pow (pe_int) (pe_int)) (pv 3)) pa_nil)))))
    (pss_cons (ps_set (i := 5) nd rfl (Or.inl rfl) (pe_lst pa_nil))
    (pss_cons (ps_for (passes_of rfl) rfl (pi_range1 (by rfl) T.b_range (pa_cons (pv 2) pa_nil)) (pg_name (i := 6) nd rfl (Or.inl rfl))
      (pss_cons (ps_setLc (i := 7) (own := [("_law_key", 13)]) (g := (gName 13)) (tt := (e_law_graph_5 K E)) rfl nd rfl rfl (sw_true rfl rfl rfl (by decide +kernel)) (pi_list (pv 4)) (blkOk_by (by rfl)) (fun _ _ _ _ _ => pg_name (i := 13) nd rfl (Or.inl rfl)) (fun _ _ _ _ _ => (pts_one (pt_cmpR op_eq (pe_has (sp := sp_law_draw K) (dvs := []) h_law_draw hr passL (pa_cons (pv 0) (pa_cons (pe_int) pa_nil))) (pe_int) (nomark _)))) (fun _ _ _ _ _ => (pv 13)))
        (pss_one (ps_expr (pe_bm PySem.F.plainAttrs_list PySem.F.slot_list_append PySem.F.type_list_append mt_append (pv 5) (pa_cons (pe_ifExp (pt_cmpR op_eq (pe_has (dvs := []) h_law_draw hr passL (pa_cons (pv 0) (pa_cons (pe_int) pa_nil))) (pe_int) (nomark _)) (pe_op op_cat (pv 7) (pv 7)) (pv 7)) pa_nil))))))
    (pss_cons (ps_set (i := 8) nd rfl (Or.inl rfl) (pe_lst pa_nil))
    (pss_cons (ps_if (pt_cmpR op_eq (pv 2) (pe_int) (nomark _))
      (pss_one (ps_ret (pe_tup (pa_cons (pv 5) (pa_cons (pv 8) pa_nil)))))
      (pss_nil))
    (pss_cons (ps_if (pt_cmpR op_eq (pe_has (dvs := []) h_law_draw hr passL (pa_cons (pv 0) (pa_cons (pe_int) pa_nil))) (pe_int) (nomark _))
      (pss_cons (ps_set (i := 9) nd rfl (Or.inl rfl) (pe_slice sl_list (pe_has (dvs := []) h_law_shuffled hr passL (pa_cons (pv 0) (pa_cons (pe_listRg rfl (by rfl) T.b_list (prg_1 (by rfl) T.b_range (pv 2))) pa_nil))) po_none (po_some (pe_op op_add (pe_int) (pe_has (dvs := []) h_law_draw hr passL (pa_cons (pv 0) (pa_cons (pv 2) pa_nil)))))))
        (pss_one (ps_for (passes_of rfl) rfl (pi_range1 (by rfl) T.b_range (pa_cons (pe_callB call_len_seq (by rfl) T.b_len (by decide +kernel) (pa_cons (pv 9) pa_nil)) pa_nil)) (pg_name (i := 10) nd rfl (Or.inl rfl))
          (pss_cons (ps_setLc (i := 11) (own := [("_law_key", 13)]) (g := (gName 13)) (tt := (e_law_graph_12 K E)) rfl nd rfl rfl (sw_true rfl rfl rfl (by decide +kernel)) (pi_list (pv 4)) (blkOk_by (by rfl)) (fun _ _ _ _ _ => pg_name (i := 13) nd rfl (Or.inl rfl)) (fun _ _ _ _ _ => (pts_one (pt_cmpR op_eq (pe_has (sp := sp_law_draw K) (dvs := []) h_law_draw hr passL (pa_cons (pv 0) (pa_cons (pe_int) pa_nil))) (pe_int) (nomark _)))) (fun _ _ _ _ _ => (pv 13)))
            (pss_one (ps_expr (pe_bm PySem.F.plainAttrs_list PySem.F.slot_list_append PySem.F.type_list_append mt_append (pv 8) (pa_cons (pe_tup (pa_cons (pe_ix ix_list (pv 9) (pv 10) (fun _ _ => rfl)) (pa_cons (pe_ix ix_list (pv 9) (pe_op op_mod (pe_callTy call_int1 (by rfl) T.b_int (by decide +kernel) (pa_cons (pe_op op_add (pv 10) (pe_int)) pa_nil)) (pe_callB call_len_seq (by rfl) T.b_len (by decide +kernel) (pa_cons (pv 9) pa_nil))) (fun _ _ => rfl)) (pa_cons (pv 11) pa_nil)))) pa_nil))))))))
      (pss_nil))
    (pss_cons (ps_for (passes_of rfl) rfl (pi_range1 (by rfl) T.b_range (pa_cons (pe_has (dvs := []) h_law_draw hr passL (pa_cons (pv 0) (pa_cons (pe_op op_add (pe_op op_mul (pe_int) (pv 2)) (pe_int)) pa_nil))) pa_nil)) (pg_name (i := 12) nd rfl (Or.inl rfl))
      (pss_cons (ps_setLc (i := 11) (own := [("_law_key", 13)]) (g := (gName 13)) (tt := (e_law_graph_16 K E)) rfl nd rfl rfl (sw_true rfl rfl rfl (by decide +kernel)) (pi_list (pv 4)) (blkOk_by (by rfl)) (fun _ _ _ _ _ => pg_name (i := 13) nd rfl (Or.inl rfl)) (fun _ _ _ _ _ => (pts_one (pt_cmpR op_eq (pe_has (sp := sp_law_draw K) (dvs := []) h_law_draw hr passL (pa_cons (pv 0) (pa_cons (pe_int) pa_nil))) (pe_int) (nomark _)))) (fun _ _ _ _ _ => (pv 13)))
        (pss_one (ps_expr (pe_bm PySem.F.plainAttrs_list PySem.F.slot_list_append PySem.F.type_list_append mt_append (pv 8) (pa_cons (pe_tup (pa_cons (pe_has (dvs := []) h_law_draw hr passL (pa_cons (pv 0) (pa_cons (pv 2) pa_nil))) (pa_cons (pe_has (dvs := []) h_law_draw hr passL (pa_cons (pv 0) (pa_cons (pv 2) pa_nil))) (pa_cons (pv 11) pa_nil)))) pa_nil))))))
    (pss_one (ps_ret (pe_tup (pa_cons (pv 5) (pa_cons (pe_has (dvs := []) h_law_shuffled hr passL (pa_cons (pv 0) (pa_cons (pv 8) pa_nil))) pa_nil))))))))))))), ?_⟩
  exact rd_law_graph (K := K) h

end
end SF

/-! R89s: the reading of _law_graph_word. -/
namespace SF
open PySem L2
section
variable {K : Fg} {vs : List V} {H : Hp} {Q : VK} {E : XK}
theorem wd_bad {D : Ends} {H1 : Hp} {p : Str × Int} {u0 u1 u2 u3 : Option V} (hK : excOk K) (k : ∀ H' t, Ex H1 H' → H' t = some (.tup [.str p.1, .int p.2, .bl true]) → D.rt (.ref t) H') :
    Bad K H1 (WE (wAs K (.ref (ga K "BadGraph")) 3 (tx_law_graph_word K) (fun _ _ _ _ => False) D) [u0, u1, u2, u3]) p := by
  intro H' d e hd
  refine ⟨true, hK.2, fun _ a ha => ?_, fun z => nomatch z⟩
  refine ⟨_, rfl, rfl, rfl, d, _, .str p.1, rfl, hd, by rfl, _, rfl, rfl, rfl, d, _, .int p.2, rfl, hd, by rfl, _, rfl, _, _, true, d, _, rfl, rfl, rfl, hd, (fun u h => h), hK.1, (by show 3 ≤ sizeLine; decide), fun t ht => ?_⟩
  exact k _ t (e.trans (Ex.new ht)) upd_same
theorem rd_law_graph_word (h : sp_law_graph_word K vs H Q E) : t_law_graph_word K E { nx := fun _ H' => Q .non H', rt := Q } (start ["_law_name", "_law_wants", "_law_arcs", "error"] vs) H := by
  obtain ⟨dw, da, vw, va, nm, rfl, hw, ha, hl, hK, h⟩ := h
  refine ⟨_, rfl, rfl, _, rfl, iteB (fun _ => ?_) (fun c0 => ⟨_, rfl, rfl, _, rfl, iteB (fun _ => ?_) (fun c1 => ⟨_, rfl, rfl, _, rfl, iteB (fun _ => ?_) (fun c2 => ⟨_, rfl, rfl, _, rfl, iteB (fun _ => ?_) (fun c3 => ⟨_, rfl, rfl, _, rfl, iteB (fun _ => ?_) (fun c4 => ?_)⟩)⟩)⟩)⟩)⟩
  · refine ⟨_, rfl, _, rfl, dw, da, vw, va, [], rfl, hw, ha, hl, rfl, ?_⟩
    rcases h with ⟨p, hp, k⟩ | ⟨n, ws, as, rfl, rfl, h0, h50, h200, Va, hnm, k⟩
    · exact .inl ⟨p, hp, wd_bad hK k⟩
    · exact .inr ⟨n, ws, as, rfl, rfl, h0, h50, h200, Va, True.intro, fun H' v e => k H' e⟩
  · refine ⟨_, rfl, _, rfl, (by show 1 ≤ sizeLine; decide), fun q hq => ?_⟩
    have e := Ex.new (o := .tup [.int 0]) hq
    refine ⟨dw, da, vw, va, [.ref q], rfl, hw.up e, ha.up e, hl, rfl, ?_⟩
    rcases h with ⟨p, hp, k⟩ | ⟨n, ws, as, rfl, rfl, h0, h50, h200, Va, hnm, k⟩
    · exact .inl ⟨p, hp, wd_bad hK fun H' t e2 => k H' t (e.trans e2)⟩
    · exact .inr ⟨n, ws, as, rfl, rfl, h0, h50, h200, Va, ⟨q, rfl, upd_same⟩, fun H' v e2 => k H' (e.trans e2)⟩
  · refine ⟨_, rfl, _, rfl, dw, da, vw, va, [], rfl, hw, ha, hl, rfl, ?_⟩
    rcases h with ⟨p, hp, k⟩ | ⟨n, ws, as, rfl, rfl, h0, h50, h200, Va, hnm, k⟩
    · exact .inl ⟨p, hp, wd_bad hK k⟩
    · exact .inr ⟨n, ws, as, rfl, rfl, h0, h50, h200, Va, True.intro, fun H' v e => k H' e⟩
  · refine ⟨_, rfl, _, rfl, Nat.zero_le _, fun q hq => ?_⟩
    have e := Ex.new (o := .tup []) hq
    refine ⟨dw, da, vw, va, [.ref q], rfl, hw.up e, ha.up e, hl, rfl, ?_⟩
    rcases h with ⟨p, hp, k⟩ | ⟨n, ws, as, rfl, rfl, h0, h50, h200, Va, hnm, k⟩
    · exact .inl ⟨p, hp, wd_bad hK fun H' t e2 => k H' t (e.trans e2)⟩
    · exact .inr ⟨n, ws, as, rfl, rfl, h0, h50, h200, Va, ⟨q, rfl, upd_same⟩, fun H' v e2 => k H' (e.trans e2)⟩
  · refine ⟨_, rfl, _, rfl, Nat.zero_le _, fun q hq => ?_⟩
    have e := Ex.new (o := .tup []) hq
    refine ⟨dw, da, vw, va, [.int 0, .ref q], rfl, hw.up e, ha.up e, hl, rfl, ?_⟩
    rcases h with ⟨p, hp, k⟩ | ⟨n, ws, as, rfl, rfl, h0, h50, h200, Va, hnm, k⟩
    · exact .inl ⟨p, hp, wd_bad hK fun H' t e2 => k H' t (e.trans e2)⟩
    · exact .inr ⟨n, ws, as, rfl, rfl, h0, h50, h200, Va, ⟨q, rfl, upd_same⟩, fun H' v e2 => k H' (e.trans e2)⟩
  · rcases h with ⟨p, hp, k⟩ | ⟨n, ws, as, rfl, rfl, h0, h50, h200, Va, hnm, k⟩
    · exact ⟨_, rfl, _, rfl, dw, da, vw, va, p, rfl, hw, ha, hl, hp, wd_bad hK k⟩
    · exfalso
      have f : ∀ i : Int, decide (V.int nm = V.int i) = false → nm ≠ i := fun i h e => by rw [e] at h; simp at h
      have := f _ c0; have := f _ c1; have := f _ c2; have := f _ c3; have := f _ c4
      omega
end
end SF


namespace SF
open PySem L2
section
variable {P : Program} {w : World} {K : Fg} {mg : Str → Option Value} {base : Heap}
abbrev s_law_graph_word : Stmt := top 37
theorem sc_law_graph_word : FnScope ["_law_name", "_law_wants", "_law_arcs", "error"] ["_law_name", "_law_wants", "_law_arcs"] (defScope s_law_graph_word) := ⟨rfl, rfl, rfl, by decide +kernel, rfl, by decide +kernel, by decide +kernel⟩
theorem ok_law_graph_word (T : Txt K mg) {fd : FuncData} (F : FunD K "_law_graph_word" "_law_graph_word" (defArgs s_law_graph_word) (defBody s_law_graph_word) (defScope s_law_graph_word) [] [] (ga K "_law_graph_word") fd) (h_fair_lots : Has P w K mg base 5 "fair_lots" ["wants", "arcs"] [[]] (sp_fair_lots K)) (h_is_fair_lot : Has P w K mg base 5 "is_fair_lot" ["wants", "arcs", "lot"] [[]] (sp_is_fair_lot K)) (h_fair_tour : Has P w K mg base 6 "fair_tour" ["wants", "arcs", "lot", "vertex"] [[]] (sp_fair_tour K)) (h_tour_fault : Has P w K mg base 5 "tour_fault" ["wants", "arcs", "vertex", "tour"] [[]] (sp_tour_fault K)) (h_no_lot_paper : Has P w K mg base 5 "no_lot_paper" ["wants", "arcs"] [[]] (sp_no_lot_paper K)) (h_no_lot_fault : Has P w K mg base 5 "no_lot_fault" ["wants", "arcs", "steps"] [[]] (sp_no_lot_fault K)) : FnOk P w K mg base (L2.CX P w) 7 (ga K "_law_graph_word") fd ["_law_name", "_law_wants", "_law_arcs"] (sp_law_graph_word K) := by
  refine F.ok sc_law_graph_word (fun vs H Q E h => len_law_graph_word h) (fun cdv A outer s H vs Q E hr h => ?_)
  have hu := hu_of hr
  have nd := sc_law_graph_word.nd
  refine ⟨_, pss_cons (ps_try_as (i := 3) (tb := tb_law_graph_word K) (ts := tx_law_graph_word K) (Wout := fun _ _ _ _ => False) rfl rfl nd rfl rfl ⟨rfl, by decide, Or.inl T.g_BadGraph⟩ takes0
      (fun W pn xe tk po => pss_one (ps_if (pt_cmpR op_eq (pv 0) (pe_int) (nomark _))
          (pss_one (ps_expr (pe_hasS (dvs := []) h_fair_lots hr (fun σ => passAt tk σ) (pa_cons (pv 1) (pa_cons (pv 2) pa_nil)))))
          (pss_one (ps_if (pt_cmpR op_eq (pv 0) (pe_int) (nomark _))
              (pss_one (ps_expr (pe_hasS (dvs := []) h_is_fair_lot hr (fun σ => passAt tk σ) (pa_cons (pv 1) (pa_cons (pv 2) (pa_cons (pe_tup (pa_cons (pe_int) pa_nil)) pa_nil))))))
              (pss_one (ps_if (pt_cmpR op_eq (pv 0) (pe_int) (nomark _))
                  (pss_one (ps_expr (pe_hasS (dvs := []) h_no_lot_paper hr (fun σ => passAt tk σ) (pa_cons (pv 1) (pa_cons (pv 2) pa_nil)))))
                  (pss_one (ps_if (pt_cmpR op_eq (pv 0) (pe_int) (nomark _))
                      (pss_one (ps_expr (pe_hasS (dvs := []) h_no_lot_fault hr (fun σ => passAt tk σ) (pa_cons (pv 1) (pa_cons (pv 2) (pa_cons (pe_tup pa_nil) pa_nil))))))
                      (pss_one (ps_if (pt_cmpR op_eq (pv 0) (pe_int) (nomark _))
                          (pss_one (ps_expr (pe_hasS (dvs := []) h_tour_fault hr (fun σ => passAt tk σ) (pa_cons (pv 1) (pa_cons (pv 2) (pa_cons (pe_int) (pa_cons (pe_tup pa_nil) pa_nil)))))))
                          (pss_one (ps_expr (pe_hasS (dvs := []) h_fair_tour hr (fun σ => passAt tk σ) (pa_cons (pv 1) (pa_cons (pv 2) (pa_cons (pe_non) (pa_cons (pe_int) pa_nil)))))))))))))))))
      (fun a oe cls d pn hz hf => pss_one (ps_ret (pe_tup (pa_cons (pe_xf T.xf_BadGraph T.no_BadGraph_what hz hf (pv 3)) (pa_cons (pe_xf T.xf_BadGraph T.no_BadGraph_at hz hf (pv 3)) (pa_cons (pe_callB (call_isED T.xc_BadGraph hz hf) (by rfl) T.b_isinstance (by decide +kernel) (pa_cons (pv 3) (pa_cons (pe_glob (v := .ref (ga K "FrameError")) (by rfl) T.g_FrameError rfl) pa_nil))) pa_nil)))))))
    (pss_one (ps_ret (pe_non))), ?_⟩
  exact rd_law_graph_word (K := K) h

end
end SF

/-! R89t: the faults of the spoilt graphs; the reading of law. -/
namespace SF
open PySem L2
theorem cut_take {xs : List V} {i : Int} (h0 : 0 ≤ i) (h : i ≤ xs.length) : cutV xs none (some i) = xs.take i.toNat := by
  obtain ⟨k, rfl⟩ : ∃ k : Nat, i = k := ⟨i.toNat, by omega⟩
  unfold cutV
  rw [HT.sIx_none, HT.sIx_nat, List.drop_zero, Int.toNat_natCast, Nat.min_eq_left (by omega), Nat.sub_zero]
theorem cut_drop {xs : List V} {i : Int} (h0 : 0 ≤ i) (h : i ≤ xs.length) : cutV xs (some i) none = xs.drop i.toNat := by
  obtain ⟨k, rfl⟩ : ∃ k : Nat, i = k := ⟨i.toNat, by omega⟩
  unfold cutV
  rw [HT.sIx_none, HT.sIx_nat, Int.toNat_natCast, Nat.min_eq_left (by omega)]
  exact List.take_of_length_le (by rw [List.length_drop]; omega)
theorem wants_ok (ws : List (List Int)) : firstNot isKeysD (itemsD (encLL ws)) = none := firstNot_all.mpr fun e he => by
  obtain ⟨l, _, rfl⟩ := List.mem_map.mp (show e ∈ ws.map encL from he)
  exact keys_encL l
/-- a list with another item at i -/
def swapAt (ds : List PyData) (i : Nat) (d : PyData) : List PyData := ds.take i ++ [d] ++ ds.drop (i + 1)
theorem swap_len {ds : List PyData} {i : Nat} {d : PyData} (h : i < ds.length) : (swapAt ds i d).length = ds.length := by
  unfold swapAt
  rw [List.length_append, List.length_append, List.length_take, List.length_drop, List.length_singleton]
  omega
theorem swap_first {f : PyData → Bool} {ds : List PyData} {i : Nat} {d : PyData} (h : i < ds.length) (hf : f d = false) (ha : ∀ e ∈ ds, f e = true) : firstNot f (swapAt ds i d) = some i := by
  have hl : (ds.take i).length = i := by rw [List.length_take]; omega
  refine firstNot_some (d := d) ?_ hf fun j hj e he => ?_
  · unfold swapAt
    rw [List.append_assoc, List.getElem?_append_right (by omega), hl, Nat.sub_self]; rfl
  · unfold swapAt at he
    rw [List.append_assoc, List.getElem?_append_left (by omega)] at he
    exact ha e (List.mem_of_mem_take (List.mem_of_getElem? he))
section
variable {n : Nat} {ws : List (List Int)} {as : List Arc} {d da : PyData} {i : Nat}
theorem gf_wants (V : Valid n ws as) (hi : i < n) (hd : isKeysD d = false) : gFault (.list (swapAt (ws.map encL) i d)) da = some (("wants" : Str), (i : Int)) := by
  have hl : (ws.map encL).length = n := by rw [List.length_map, V.len]
  have hm := V.most
  unfold gFault
  rw [show isSeqD (.list (swapAt (ws.map encL) i d)) = true from rfl, show itemsD (.list (swapAt (ws.map encL) i d)) = swapAt (ws.map encL) i d from rfl, swap_len (by omega), hl, decide_eq_false (by omega), swap_first (by omega) hd fun e he => by
    obtain ⟨l, _, rfl⟩ := List.mem_map.mp he
    exact keys_encL l]
  rfl
theorem gf_arcs (V : Valid n ws as) (hi : i < as.length) (hd : isArcD ((n : Int) - 1) d = false) : gFault (encLL ws) (.list (swapAt (as.map encA) i d)) = some (("arcs" : Str), (i : Int)) := by
  have hl : (itemsD (encLL ws)).length = n := by show (ws.map encL).length = n; rw [List.length_map, V.len]
  have hm := V.most
  unfold gFault
  rw [show isSeqD (encLL ws) = true from rfl, hl, decide_eq_false (by omega), show isSeqD (.list (swapAt (as.map encA) i d)) = true from rfl, show itemsD (.list (swapAt (as.map encA) i d)) = swapAt (as.map encA) i d from rfl,
    wants_ok ws, swap_first (f := isArcD ((n : Int) - 1)) (by rw [List.length_map]; exact hi) hd fun e he => by
    obtain ⟨a, ha, rfl⟩ := List.mem_map.mp he
    exact arc_encA (V.ends a ha)]
  rfl
theorem gf_noseq (h : isSeqD d = false) : gFault d da = some (("wants" : Str), (0 : Int)) := by unfold gFault; rw [h]; rfl
theorem gf_noarcs (V : Valid n ws as) (h : isSeqD d = false) : gFault (encLL ws) d = some (("arcs" : Str), (0 : Int)) := by
  have hl : (itemsD (encLL ws)).length = n := by show (ws.map encL).length = n; rw [List.length_map, V.len]
  have hm := V.most
  unfold gFault
  rw [show isSeqD (encLL ws) = true from rfl, hl, decide_eq_false (by omega), h, wants_ok ws]
  rfl
end
theorem Rps.swap {S : Hp} {ds : List PyData} {xs : List V} {d : PyData} {v : V} (h : Rps S ds xs) (i : Nat) (hd : Rp S d v) : Rps S (swapAt ds i d) (xs.take i ++ [v] ++ xs.drop (i + 1)) := by
  unfold swapAt
  exact ((h.take i).append (.cons hd .nil)).append (h.drop (i + 1))
/-- what the errors come back as -/
def wordD (p : Str × Int) : PyData := .tuple [.str p.1, .int p.2, .bool true]
theorem shaped_word {p : Str × Int} (h : PyData.strOk p.1 = true) : SeqAt.shaped (wordD p) = true := shaped_of (by simp [wordD, PyData.canLay0, PyData.canLayAll0, h]) (by simp [wordD, PyData.depth, PyData.depthAll])
theorem eqv_word (p : Str × Int) : PyData.eqv (wordD p) (wordD p) = true := by simp [wordD, PyData.eqv, PyData.eqvAll]
theorem rp_word {H : Hp} {t : Addr} {p : Str × Int} (h : H t = some (.tup [.str p.1, .int p.2, .bl true])) : Rp H (wordD p) (.ref t) := .tup h (.cons (.str _) (.cons (.int _) (.cons (.bl _) .nil)))
section
variable {K : Fg} {vs : List V} {H : Hp} {Q : VK} {E : XK}
/-- asked of a wrong graph -/
theorem word_bad {dw da : PyData} {vw va : V} {nm : Int} {p : Str × Int} (hK : excOk K) (hw : Rp H dw vw) (ha : Rp H da va) (hl : (itemsD da).length < 2 ^ 62) (hp : gFault dw da = some p) (k : ∀ H' t, Ex H H' → Rp H' (wordD p) (.ref t) → Q (.ref t) H') :
    sp_law_graph_word K [.int nm, vw, va] H Q E := ⟨dw, da, vw, va, nm, rfl, hw, ha, hl, hK, .inl ⟨p, hp, fun H' t e h => k H' t e (rp_word h)⟩⟩
theorem ne_word {H : Hp} {t q : Addr} {p : Str × Int} {R : Bool → Hp → Prop} (hs : PyData.strOk p.1 = true) (h : Rp H (wordD p) (.ref t)) (hq : H q = none) (k : R false (upd H q (.tup [.str p.1, .int p.2, .bl true]))) :
    rNeD K (.ref t) (.ref q) (upd H q (.tup [.str p.1, .int p.2, .bl true])) fun x h => ∃ c, x = .bl c ∧ R c h :=
  neD (h.up (Ex.new hq)) (rp_word upd_same) (shaped_word hs) (shaped_word hs) ⟨_, rfl, by rw [eqv_word]; exact k⟩
theorem pick_of {S : Hp} {a c r : Addr} {o : HO} {cs : List Int} {xs : List V} (w : Owns S H [(a, o)]) (ho : IsHand c o) (hc : S c = some (lstI cs)) (hr : S r = some (.lst xs)) (h0 : 0 < xs.length) (h1 : xs.length ≤ 1000)
    (q : ∀ H' o' x, Owns S H' [(a, o')] → IsHand c o' → x ∈ xs → Q x H') : sp_law_pick K [.ref a, .ref r] H Q E := by
  refine ⟨a, r, c, o, cs, xs, rfl, w.get 0, ho, w.ex _ _ hc, fun e => ?_, w.ex _ _ hr, h0, h1, fun H' o' x b h' ho' hx => q H' o' x (w.write' 0 rfl b h') ho' hx⟩
  have := w.offA 0
  rw [← e, hr] at this
  cases this
end
end SF

/-! R89u: the reading of law. -/
namespace SF
open PySem L2
theorem okW : PyData.strOk ("wants" : Str) = true := by decide +kernel
theorem okA : PyData.strOk ("arcs" : Str) = true := by decide +kernel
theorem nnm {v : V} : (!decide (v = V.non)) = false → v = .non := fun h => by simpa using h
/-- what stands when the graphs are made -/
structure LS (n : Nat) (S : Hp) (ws : List (List Int)) (as : List Arc) (xw xa : List V) (W A : Addr) : Prop where
  val : Valid n ws as
  n0 : 0 < n
  n9 : n ≤ 9
  a0 : 0 < as.length
  a99 : as.length ≤ 99
  gw : S W = some (.lst xw)
  ga : S A = some (.lst xa)
  rw_ : Rps S (ws.map encL) xw
  ra : Rps S (as.map encA) xa
section
variable {n : Nat} {S S' : Hp} {ws : List (List Int)} {as : List Arc} {xw xa : List V} {W A : Addr}
theorem LS.up (h : LS n S ws as xw xa W A) (e : Ex S S') : LS n S' ws as xw xa W A := ⟨h.val, h.n0, h.n9, h.a0, h.a99, e _ _ h.gw, e _ _ h.ga, h.rw_.up e, h.ra.up e⟩
theorem LS.rpw (h : LS n S ws as xw xa W A) : Rp S (encLL ws) (.ref W) := .lst h.gw h.rw_
theorem LS.rpa (h : LS n S ws as xw xa W A) : Rp S (encAs as) (.ref A) := .lst h.ga h.ra
theorem LS.lw (h : LS n S ws as xw xa W A) : xw.length = n := by rw [h.rw_.length, List.length_map, h.val.len]
theorem LS.la (h : LS n S ws as xw xa W A) : xa.length = as.length := by rw [h.ra.length, List.length_map]
end
section
variable {K : Fg} {vs : List V} {H : Hp} {Q : VK} {E : XK}
/-- the last three questions -/
theorem lw_1 {n : Nat} {S : Hp} {ws : List (List Int)} {as : List Arc} {xw xa : List V} {W A G hnd : Addr} {nm at_ pl : Int} {odd bad : PyData} {vo v8 : V} {u0 : Option V} {D : Ends} (hK : excOk K) (L : LS n S ws as xw xa W A) (hpl : 0 ≤ pl ∧ pl < as.length) (ho : Rp S odd vo) (hodd : isKeysD odd = false)
    (hb : isArcD ((n : Int) - 1) bad = false) (hg : Rp S (.list (swapAt (as.map encA) pl.toNat bad)) (.ref G)) (k : ∀ H', Ex S H' → D.rt (.bl true) H') {H : Hp} (e : Ex S H) :
    t_law_1 K E D [u0, some (.ref hnd), some (.ref W), some (.ref A), some (.int nm), some (.int at_), some (.int pl), some vo, some v8, some (.ref G)] H := by
  have hgl : (itemsD (.list (swapAt (as.map encA) pl.toNat bad))).length < 2 ^ 62 := by
    show (swapAt (as.map encA) pl.toNat bad).length < 2 ^ 62
    rw [swap_len (by rw [List.length_map]; omega), List.length_map]
    have := L.a99; omega
  have hp1 : gFault (encLL ws) (.list (swapAt (as.map encA) pl.toNat bad)) = some (("arcs" : Str), pl) := by
    rw [gf_arcs L.val (by omega) hb, Int.toNat_of_nonneg hpl.1]
  refine ⟨_, rfl, _, rfl, _, rfl, word_bad hK (L.rpw.up e) (hg.up e) hgl hp1 fun H1 t e1 r1 => ⟨_, rfl, (by show 3 ≤ sizeLine; decide), fun q hq => ne_word okA r1 hq (iteF ?_)⟩⟩
  have e2 := e.trans (e1.trans (Ex.new (o := .tup [.str "arcs", .int pl, .bl true]) hq))
  refine ⟨_, rfl, _, rfl, odd, vo, rfl, ho.up e2, fun H3 e3 => ⟨_, rfl, ?_⟩⟩
  have e23 := e2.trans e3
  have fin : ∀ H', Ex S H' → tRet (e_law_16 K E) D [u0, some (.ref hnd), some (.ref W), some (.ref A), some (.int nm), some (.int at_), some (.int pl), some vo, some v8, some (.ref G)] H' := fun H' e4 => by
    refine ⟨_, rfl, _, rfl, word_bad hK (L.rpw.up e4) .non (by show 0 < 2 ^ 62; decide) (gf_noarcs L.val rfl) fun H5 t e5 r5 => ⟨(by show 3 ≤ sizeLine; decide), fun q hq => ?_⟩⟩
    refine eqD (r5.up (Ex.new hq)) (rp_word (p := (("arcs" : Str), (0 : Int))) upd_same) (shaped_word okA) (shaped_word okA) ?_
    rw [eqv_word]
    exact k _ (e4.trans (e5.trans (Ex.new hq)))
  refine iteN (fun c => ⟨_, rfl, ?_⟩) (fun c => ?_)
  · refine ⟨_, rfl, word_bad hK (ho.up e23) (hg.up e23) hgl (gf_noseq c) fun H5 t e5 r5 => ⟨(by show 3 ≤ sizeLine; decide), fun q hq => ne_word okW r5 hq (iteF (fin _ (e23.trans (e5.trans (Ex.new hq)))))⟩⟩
  · refine ⟨_, rfl, word_bad hK .non (hg.up e23) hgl (gf_noseq rfl) fun H5 t e5 r5 => ⟨(by show 3 ≤ sizeLine; decide), fun q hq => ne_word okW r5 hq (iteF (fin _ (e23.trans (e5.trans (Ex.new hq)))))⟩⟩
end
end SF

/-! R89v: the reading of law, whole. -/
namespace SF
open PySem L2
theorem Owns.put {S H : Hp} {l : List (Addr × HO)} {a : Addr} {o : HO} (w : Owns S H l) (h : H a = .none) : ∃ S', Ex S S' ∧ S' a = some o ∧ Owns S' (upd H a o) l := ⟨_, w.growEx h, upd_same, w.grow h⟩
def OddOk (S : Hp) (v : V) : Prop := ∃ d, Rp S d v ∧ isKeysD d = false
def BadOk (last : Int) (S : Hp) (v : V) : Prop := ∃ d, Rp S d v ∧ isArcD last d = false
section
variable {K : Fg} {vs : List V} {H : Hp} {Q : VK} {E : XK}
/-- the odd things -/
theorem odd_of {S : Hp} {a c : Addr} {o : HO} {cs : List Int} {σ : L2.St} (hσ : σ[1]? = some (some (.ref a))) (w : Owns S H [(a, o)]) (ho : IsHand c o) (hc : S c = some (lstI cs)) (q : ∀ S' H' o' x, Ex S S' → Owns S' H' [(a, o')] → IsHand c o' → OddOk S' x → Q x H') : e_law_9 K E σ H Q := by
  refine ⟨_, hσ, (by show 1 ≤ sizeLine; decide), fun p7 h7 => ⟨(by show 1 ≤ sizeLine; decide), fun p8 h8 => ⟨(by show 1 ≤ sizeLine; decide), fun p9 h9 => fun pd hd => ?_⟩⟩⟩
  obtain ⟨S1, e1, g7, w1⟩ := w.put (o := .lst [.str "a"]) h7
  obtain ⟨S2, e2, g8, w2⟩ := w1.put (o := .lst [.bl true]) h8
  obtain ⟨S3, e3, g9, w3⟩ := w2.put (o := .lst [.non]) h9
  have w4 := (w3.new (o := .dK []) hd).write (o' := .dK [(.inl 0, .int 1)]) 0
  have e5 := w4.freezeEx 0
  have w5 := w4.freeze 0
  have gd : (upd S3 pd (.dK [(.inl 0, .int 1)])) pd = some (.dK [(.inl 0, .int 1)]) := upd_same
  refine ⟨upd_same, [(.inl 0, .int 1)], rfl, by decide, (by show 6 ≤ sizeLine; decide), fun p6 h6 => ?_⟩
  obtain ⟨S6, e6, g6, w6⟩ := w5.put (o := .lst [.non, .int 7, .ref p7, .ref p8, .ref p9, .ref pd]) h6
  have e06 := e1.trans (e2.trans (e3.trans (e5.trans e6)))
  refine pick_of w6 ho (e06 _ _ hc) g6 (by simp) (by simp) fun H' o' x w' ho' hx => q S6 H' o' x e06 w' ho' ?_
  simp only [List.mem_cons, List.not_mem_nil, or_false] at hx
  rcases hx with rfl | rfl | rfl | rfl | rfl | rfl
  · exact ⟨.none, .non, rfl⟩
  · exact ⟨.int 7, .int 7, rfl⟩
  · exact ⟨.list [.str "a"], .lst ((e2.trans (e3.trans (e5.trans e6))) _ _ g7) (.cons (.str _) .nil), rfl⟩
  · exact ⟨.list [.bool true], .lst ((e3.trans (e5.trans e6)) _ _ g8) (.cons (.bl _) .nil), rfl⟩
  · exact ⟨.list [.none], .lst ((e5.trans e6) _ _ g9) (.cons .non .nil), rfl⟩
  · exact ⟨.dict [], .dct (e6 _ _ gd), rfl⟩
/-- the bad arcs -/
theorem bads_of {S : Hp} {a : Addr} {o : HO} {l : List (Addr × HO)} {σ : L2.St} {W : Addr} {xw : List V} {vo : V} (hσ : σ[2]? = some (some (.ref W))) (h7 : σ[7]? = some (some vo)) (w : Owns S H l) (hW : S W = some (.lst xw)) (hodd : OddOk S vo)
    (q : ∀ S' p xs, Ex S S' → S' p = some (.lst xs) → xs.length = 7 → (∀ x ∈ xs, BadOk ((xw.length : Int) - 1) S' x) → ∀ H', Owns S' H' l → Q (.ref p) H') : e_law_10 K E σ H Q := by
  refine ⟨_, hσ, W, xw, rfl, .inl (.of (w.ex _ _ hW)), Nat.zero_le _, fun p12 h12 => ⟨(by show 3 ≤ sizeLine; decide), fun p11 h11 => ⟨_, rfl, Nat.zero_le _, fun p14 h14 => ⟨(by show 3 ≤ sizeLine; decide), fun p13 h13 => ⟨_, h7, (by show 3 ≤ sizeLine; decide), fun p15 h15 => ⟨(by show 2 ≤ sizeLine; decide), fun p16 h16 => ⟨Nat.zero_le _, fun p18 h18 => ⟨(by show 3 ≤ sizeLine; decide), fun p17 h17 => ⟨Nat.zero_le _, fun p20 h20 => ⟨(by show 4 ≤ sizeLine; decide), fun p19 h19 => ⟨(by show 7 ≤ sizeLine; decide), fun p10 h10 => ?_⟩⟩⟩⟩⟩⟩⟩⟩⟩⟩⟩
  obtain ⟨S1, e1, g12, w1⟩ := w.put (o := .lst []) h12
  obtain ⟨S2, e2, g11, w2⟩ := w1.put (o := .tup [.int 0, .int xw.length, .ref p12]) h11
  obtain ⟨S3, e3, g14, w3⟩ := w2.put (o := .lst []) h14
  obtain ⟨S4, e4, g13, w4⟩ := w3.put (o := .tup [.int (-1), .int 0, .ref p14]) h13
  obtain ⟨S5, e5, g15, w5⟩ := w4.put (o := .tup [.int 0, .int 0, vo]) h15
  obtain ⟨S6, e6, g16, w6⟩ := w5.put (o := .tup [.int 0, .int 0]) h16
  obtain ⟨S7, e7, g18, w7⟩ := w6.put (o := .lst []) h18
  obtain ⟨S8, e8, g17, w8⟩ := w7.put (o := .tup [.bl true, .int 0, .ref p18]) h17
  obtain ⟨S9, e9, g20, w9⟩ := w8.put (o := .lst []) h20
  obtain ⟨S10, e10, g19, w10⟩ := w9.put (o := .tup [.int 0, .int 0, .ref p20, .int 0]) h19
  obtain ⟨S11, e11, g10, w11⟩ := w10.put (o := .lst [.ref p11, .ref p13, .ref p15, .ref p16, .non, .ref p17, .ref p19]) h10
  have f10 := e11
  have f9 := e10.trans f10
  have f8 := e9.trans f9
  have f7 := e8.trans f8
  have f6 := e7.trans f7
  have f5 := e6.trans f6
  have f4 := e5.trans f5
  have f3 := e4.trans f4
  have f2 := e3.trans f3
  have f1 := e2.trans f2
  have f0 := e1.trans f1
  refine q S11 p10 _ f0 g10 rfl (fun x hx => ?_) _ w11
  simp only [List.mem_cons, List.not_mem_nil, or_false] at hx
  rcases hx with rfl | rfl | rfl | rfl | rfl | rfl | rfl
  · refine ⟨.tuple [.int 0, .int xw.length, .list []], .tup (f2 _ _ g11) (.cons (.int _) (.cons (.int _) (.cons (.lst (f1 _ _ g12) .nil) .nil))), ?_⟩
    simp only [isArcD, isSeqD, itemsD, Bool.true_and, isWholeD]
    rw [decide_eq_false (by omega : ¬ ((xw.length : Int) ≤ (xw.length : Int) - 1))]
    simp
  · refine ⟨.tuple [.int (-1), .int 0, .list []], .tup (f4 _ _ g13) (.cons (.int _) (.cons (.int _) (.cons (.lst (f3 _ _ g14) .nil) .nil))), ?_⟩
    simp [isArcD, isSeqD, itemsD, isWholeD]
  · obtain ⟨d, rd, kd⟩ := hodd
    refine ⟨.tuple [.int 0, .int 0, d], .tup (f5 _ _ g15) (.cons (.int _) (.cons (.int _) (.cons (rd.up f0) .nil))), ?_⟩
    simp [isArcD, isSeqD, itemsD, isWholeD, kd]
  · exact ⟨.tuple [.int 0, .int 0], .tup (f6 _ _ g16) (.cons (.int _) (.cons (.int _) .nil)), rfl⟩
  · exact ⟨.none, .non, rfl⟩
  · exact ⟨.tuple [.bool true, .int 0, .list []], .tup (f8 _ _ g17) (.cons (.bl _) (.cons (.int _) (.cons (.lst (f7 _ _ g18) .nil) .nil))), rfl⟩
  · exact ⟨.tuple [.int 0, .int 0, .list [], .int 0], .tup (f10 _ _ g19) (.cons (.int _) (.cons (.int _) (.cons (.lst (f9 _ _ g20) .nil) (.cons (.int _) .nil)))), rfl⟩
theorem lw_2 {n : Nat} {S : Hp} {ws : List (List Int)} {as : List Arc} {xw xa : List V} {W A hnd c : Addr} {o : HO} {cs : List Int} {u0 u4 u5 u6 u7 u8 u9 : Option V} {D : Ends} (hK : excOk K) (L : LS n S ws as xw xa W A) (w : Owns S H [(hnd, o)]) (ho : IsHand c o) (hc : S c = some (lstI cs))
    (k : ∀ H', Ex S H' → D.rt (.bl true) H') : t_law_2 K E D [u0, some (.ref hnd), some (.ref W), some (.ref A), u4, u5, u6, u7, u8, u9] H := by
  have hlw := L.lw
  have hla := L.la
  have hn9 := L.n9
  have hn0 := L.n0
  have ha0 := L.a0
  have ha99 := L.a99
  refine ⟨_, rfl, _, rfl, W, xw, rfl, .inl (.of (w.ex _ _ L.gw)), draw_of w ho hc ⟨by omega, by omega⟩ fun H1 o1 at_ w1 ho1 a0 a1 => ?_⟩
  refine ⟨_, rfl, _, rfl, A, xa, rfl, .inl (.of (w1.ex _ _ L.ga)), draw_of w1 ho1 hc ⟨by omega, by omega⟩ fun H2 o2 pl w2 ho2 b0 b1 => ?_⟩
  refine odd_of (E := E) (by rfl) w2 ho2 hc fun S3 H3 o3 vo e3 w3 ho3 hodd => ?_
  show e_law_10 K E [u0, some (.ref hnd), some (.ref W), some (.ref A), u4, some (.int at_), some (.int pl), some vo, u8, u9] H3 (fun v H' => tSeq (tAsg (e_law_11 K E) (gName 9)) (tSeq (tAsg (e_law_12 K E) (gName 4)) (tSeq (tIfS (e_law_13 K E) (tRet fun σ H Q => Q (V.bl false) H) tNext) (t_law_1 K E))) D [u0, some (.ref hnd), some (.ref W), some (.ref A), u4, some (.int at_), some (.int pl), some vo, some v, u9] H')
  refine bads_of (K := K) (E := E) (σ := [u0, some (.ref hnd), some (.ref W), some (.ref A), u4, some (.int at_), some (.int pl), some vo, u8, u9]) (W := W) (vo := vo) (a := hnd) (o := o3) rfl rfl w3 (e3 _ _ L.gw) hodd fun S4 p10 xs e4 g10 hx7 hbads H4 w4 => ?_
  have e04 := e3.trans e4
  refine ⟨_, rfl, _, rfl, pl, rfl, A, xa, rfl, .of (w4.ex _ _ (e04 _ _ L.ga)), fun q1 hq1 => ?_⟩
  obtain ⟨S5, e5, g1, w5⟩ := w4.put (o := .lst (cutV xa none (some pl))) hq1
  refine ⟨_, rfl, _, rfl, pick_of w5 ho3 (e5 _ _ (e04 _ _ hc)) (e5 _ _ g10) (by omega) (by omega) fun H6 o6 x9 w6 ho6 hx9 => ⟨(by show 1 ≤ sizeLine; decide), fun p21 h21 => ?_⟩⟩
  obtain ⟨S7, e7, g21, w7⟩ := w6.put (o := .lst [x9]) h21
  have hcl := cutV_length xa none (some pl)
  refine ⟨q1, p21, _, _, rfl, rfl, w7.ex _ _ (e7 _ _ g1), w7.ex _ _ g21, sz (by rw [List.length_singleton]; omega), fun q2 hq2 => ?_⟩
  obtain ⟨S8, e8, g2, w8⟩ := w7.put (o := .lst (cutV xa none (some pl) ++ [x9])) hq2
  have e48 := e5.trans (e7.trans e8)
  refine ⟨_, rfl, _, rfl, _, _, rfl, rfl, _, rfl, A, xa, rfl, .of (w8.ex _ _ (e48 _ _ (e04 _ _ L.ga))), fun q3 hq3 => ?_⟩
  obtain ⟨S9, e9, g3, w9⟩ := w8.put (o := .lst (cutV xa (some (pl + 1)) none)) hq3
  have hcl2 := cutV_length xa (some (pl + 1)) none
  refine ⟨q2, q3, _, _, rfl, rfl, w9.ex _ _ (e9 _ _ g2), w9.ex _ _ g3, sz (by rw [List.length_append, List.length_singleton]; omega), fun G hG => ?_⟩
  obtain ⟨S10, e10, gG, w10⟩ := w9.put (o := .lst (cutV xa none (some pl) ++ [x9] ++ cutV xa (some (pl + 1)) none)) hG
  have e410 := e48.trans (e9.trans e10)
  have e010 := e04.trans e410
  have L10 := L.up e010
  obtain ⟨bad, rbad, hbad⟩ := hbads x9 hx9
  rw [hlw] at hbad
  have hGd : Rp S10 (.list (swapAt (as.map encA) pl.toNat bad)) (.ref G) := by
    refine .lst gG ?_
    rw [cut_take b0 (by omega), cut_drop (by omega) (by omega), show (pl + 1).toNat = pl.toNat + 1 by omega]
    exact L10.ra.swap pl.toNat (rbad.up e410)
  have hgl : (itemsD (.list (swapAt (as.map encA) pl.toNat bad))).length < 2 ^ 62 := by
    show (swapAt (as.map encA) pl.toNat bad).length < 2 ^ 62
    rw [swap_len (by rw [List.length_map]; omega), List.length_map]
    omega
  obtain ⟨odd, rodd, hoddk⟩ := hodd
  refine ⟨_, rfl, draw_of w10 ho6 (e010 _ _ hc) ⟨by decide, by decide⟩ fun H11 o11 nm w11 ho11 n0 n1 => ?_⟩
  refine ⟨_, rfl, _, rfl, _, rfl, at_, rfl, W, xw, rfl, .of (w11.ex _ _ L10.gw), fun r1 hr1 => ?_⟩
  obtain ⟨S12, e12, k1, w12⟩ := w11.put (o := .lst (cutV xw none (some at_))) hr1
  refine ⟨_, rfl, (by show 1 ≤ sizeLine; decide), fun p22 h22 => ?_⟩
  obtain ⟨S13, e13, k22, w13⟩ := w12.put (o := .lst [vo]) h22
  have hcw := cutV_length xw none (some at_)
  refine ⟨r1, p22, _, _, rfl, rfl, w13.ex _ _ (e13 _ _ k1), w13.ex _ _ k22, sz (by rw [List.length_singleton]; omega), fun r2 hr2 => ?_⟩
  obtain ⟨S14, e14, k2, w14⟩ := w13.put (o := .lst (cutV xw none (some at_) ++ [vo])) hr2
  have e1014 := e12.trans (e13.trans e14)
  refine ⟨_, rfl, _, rfl, _, _, rfl, rfl, _, rfl, W, xw, rfl, .of (w14.ex _ _ (e1014 _ _ L10.gw)), fun r3 hr3 => ?_⟩
  obtain ⟨S15, e15, k3, w15⟩ := w14.put (o := .lst (cutV xw (some (at_ + 1)) none)) hr3
  have hcw2 := cutV_length xw (some (at_ + 1)) none
  refine ⟨r2, r3, _, _, rfl, rfl, w15.ex _ _ (e15 _ _ k2), w15.ex _ _ k3, sz (by rw [List.length_append, List.length_singleton]; omega), fun r4 hr4 => ?_⟩
  obtain ⟨S16, e16, k4, w16⟩ := w15.put (o := .lst (cutV xw none (some at_) ++ [vo] ++ cutV xw (some (at_ + 1)) none)) hr4
  have e1016 := e1014.trans (e15.trans e16)
  have L16 := L10.up e1016
  have hWd : Rp S16 (.list (swapAt (ws.map encL) at_.toNat odd)) (.ref r4) := by
    refine .lst k4 ?_
    rw [cut_take a0 (by omega), cut_drop (by omega) (by omega), show (at_ + 1).toNat = at_.toNat + 1 by omega]
    exact L16.rw_.swap at_.toNat (rodd.up (e4.trans (e410.trans e1016)))
  have hp1 : gFault (.list (swapAt (ws.map encL) at_.toNat odd)) (.list (swapAt (as.map encA) pl.toNat bad)) = some (("wants" : Str), at_) := by
    rw [gf_wants L.val (by omega) hoddk, Int.toNat_of_nonneg a0]
  refine ⟨_, rfl, word_bad hK (hWd.up w16.ex) ((hGd.up e1016).up w16.ex) hgl hp1 fun H17 t e17 r17 => ⟨_, rfl, (by show 3 ≤ sizeLine; decide), fun q hq => ne_word okW r17 hq (iteF ?_)⟩⟩
  exact lw_1 hK L16 ⟨b0, by omega⟩ (rodd.up (e4.trans (e410.trans e1016))) hoddk hbad (hGd.up e1016) (fun H' e => k H' (e010.trans (e1016.trans e))) (w16.ex.trans (e17.trans (Ex.new hq)))
theorem sum_le {α : Type} {f : α → Nat} {b : Nat} : ∀ {l : List α}, (∀ x ∈ l, f x ≤ b) → (l.map f).sum ≤ b * l.length
  | [], _ => Nat.le_refl _
  | x :: l, h => by
    have h1 := h x List.mem_cons_self
    have ih := sum_le (l := l) fun y hy => h y (List.mem_cons_of_mem _ hy)
    simp only [List.map_cons, List.sum_cons, List.length_cons]
    rw [Nat.mul_succ]
    omega
theorem rd_law (h : sp_law K vs H Q E) : t_law K E { nx := fun _ H' => Q .non H', rt := Q } (start ["_law_script", "_law_hand_here", "_law_wants", "_law_arcs", "_law_name", "_law_at", "_law_place", "_law_odd", "_law_bad", "_law_wrong"] vs) H := by
  obtain ⟨a, cells, rfl, ha, hl, hK, k⟩ := h
  refine ⟨_, rfl, a, cells, rfl, ha, by omega, fun H1 h c o cs e1 hn hcn hne hh ho hc => ?_⟩
  have w0 : Owns H H1 [(h, o)] := (Owns.none H).came hn e1 hh
  obtain ⟨S1, eS1, w1, hS1⟩ := w0.growAll (Ex.refl H1)
  have gc : S1 c = some (lstI cs) := hS1 _ _ hc (fun q hq => by cases List.mem_singleton.mp hq; exact hne)
  refine ⟨_, rfl, S1, h, c, o, cs, 4, rfl, w1, ho, gc, by omega, fun S2 H2 o2 t vw va ws as e2 w2 ho2 ht hvw hva Dr => ?_⟩
  refine ⟨t, _, rfl, .of (w2.ex _ _ ht), rfl, _, _, rfl, _, _, rfl, rfl, ?_⟩
  obtain ⟨W0, xw, rfl, gW0, rW⟩ := hvw.lst'
  obtain ⟨A0, xa, rfl, gA0, rA⟩ := hva.lst'
  have lxw : xw.length = ws.length := by rw [rW.length, List.length_map]
  have lxa : xa.length = as.length := by rw [rA.length, List.length_map]
  have d1 := Dr.len
  have d2 := Dr.arcs
  refine ⟨_, rfl, Nat.zero_le _, fun p2 h2 => ⟨(by show 1 ≤ sizeLine; decide), fun p1 h1 => ?_⟩⟩
  obtain ⟨S3, e3, g2, w3⟩ := w2.put (o := .lst []) h2
  obtain ⟨S4, e4, g1, w4⟩ := w3.put (o := .lst [.ref p2]) h1
  refine ⟨W0, p1, _, _, rfl, rfl, w4.ex _ _ (e4 _ _ (e3 _ _ gW0)), w4.ex _ _ g1, sz (by rw [List.length_singleton]; omega), fun W hW => ?_⟩
  obtain ⟨S5, e5, gW, w5⟩ := w4.put (o := .lst (xw ++ [.ref p2])) hW
  refine ⟨Nat.zero_le _, fun p5 h5 => ⟨(by show 3 ≤ sizeLine; decide), fun p4 h4 => ⟨(by show 1 ≤ sizeLine; decide), fun p3 h3 => ?_⟩⟩⟩
  obtain ⟨S6, e6, g5, w6⟩ := w5.put (o := .lst []) h5
  obtain ⟨S7, e7, g4, w7⟩ := w6.put (o := .tup [.int 0, .int 0, .ref p5]) h4
  obtain ⟨S8, e8, g3, w8⟩ := w7.put (o := .lst [.ref p4]) h3
  have e28 : Ex S2 S8 := e3.trans (e4.trans (e5.trans (e6.trans (e7.trans e8))))
  refine ⟨_, rfl, p3, A0, _, _, rfl, rfl, w8.ex _ _ g3, w8.ex _ _ (e28 _ _ gA0), sz (by rw [List.length_singleton]; omega), fun A hA => ?_⟩
  obtain ⟨S9, e9, gA, w9⟩ := w8.put (o := .lst ([.ref p4] ++ xa)) hA
  have e29 := e28.trans e9
  have L : LS (ws.length + 1) S9 (ws ++ [[]]) ((0, 0, []) :: as) (xw ++ [.ref p2]) (.ref p4 :: xa) W A := by
    refine ⟨⟨by simp, by omega, by simp; omega, fun q hq => ?_, ?_⟩, by omega, by omega, by simp, by simp; omega, (e6.trans (e7.trans (e8.trans e9))) _ _ gW, gA, ?_, ?_⟩
    · rcases List.mem_cons.mp hq with rfl | hq
      · exact ⟨⟨Int.le_refl 0, by show (0 : Int) < _; omega⟩, ⟨Int.le_refl 0, by show (0 : Int) < _; omega⟩⟩
      · have := Dr.ends q hq
        omega
    · have := sum_le (l := (0, 0, []) :: as) (f := fun q : Arc => q.2.2.length) (b := 3) fun q hq => by
        rcases List.mem_cons.mp hq with rfl | hq
        · exact Nat.zero_le _
        · exact Dr.keys q hq
      simp only [List.length_cons] at this
      omega
    · rw [List.map_append]
      exact (rW.up e29).append (.cons (.lst ((e4.trans (e5.trans (e6.trans (e7.trans (e8.trans e9))))) _ _ g2) .nil) .nil)
    · exact .cons (.tup ((e8.trans e9) _ _ g4) (.cons (.int 0) (.cons (.int 0) (.cons (.lst ((e7.trans (e8.trans e9)) _ _ g5) .nil) .nil)))) (rA.up e29)
  have gc9 : S9 c = some (lstI cs) := e29 _ _ (e2 _ _ gc)
  refine ⟨_, rfl, draw_of w9 ho2 gc9 ⟨by decide, by decide⟩ fun H10 o10 nm w10 ho10 n0 n1 => ?_⟩
  have hn9 := L.n9
  have ha99 := L.a99
  refine ⟨_, rfl, _, rfl, _, rfl, _, _, _, _, nm, rfl, L.rpw.up w10.ex, L.rpa.up w10.ex, by show (List.map encA ((0, 0, []) :: as)).length < 2 ^ 62; rw [List.length_map]; omega, hK, .inr ⟨_, _, _, rfl, rfl, L.n0, by omega, by omega, L.val, ⟨n0, n1⟩, fun H11 e11 => ⟨rfl, _, rfl, ifF (by simp) ?_⟩⟩⟩
  exact lw_2 hK L (w10.call e11) ho10 gc9 fun H' e => k H' ((eS1.trans (e2.trans e29)).trans e)
end
end SF


namespace SF
open PySem L2
section
variable {P : Program} {w : World} {K : Fg} {mg : Str → Option Value} {base : Heap}
abbrev s_law : Stmt := top 38
theorem sc_law : FnScope ["_law_script", "_law_hand_here", "_law_wants", "_law_arcs", "_law_name", "_law_at", "_law_place", "_law_odd", "_law_bad", "_law_wrong"] ["_law_script"] (defScope s_law) := ⟨rfl, rfl, rfl, by decide +kernel, rfl, by decide +kernel, by decide +kernel⟩
theorem ok_law (T : Txt K mg) {fd : FuncData} (F : FunD K "law" "law" (defArgs s_law) (defBody s_law) (defScope s_law) [] [] (ga K "law") fd) (h_law_hand : Has P w K mg base 1 "_law_hand" ["_law_script"] [[]] (sp_law_hand K)) (h_law_draw : Has P w K mg base 2 "_law_draw" ["_law_hand_here", "_law_many"] [[]] (sp_law_draw K)) (h_law_graph : Has P w K mg base 4 "_law_graph" ["_law_hand_here", "_law_most"] [[]] (sp_law_graph K)) (h_law_pick : Has P w K mg base 3 "_law_pick" ["_law_hand_here", "_law_row_here"] [[]] (sp_law_pick K)) (h_law_row : Has P w K mg base 1 "_law_row" ["_law_thing"] [[]] (sp_law_row K)) (h_law_graph_word : Has P w K mg base 7 "_law_graph_word" ["_law_name", "_law_wants", "_law_arcs"] [[]] (sp_law_graph_word K)) : FnOk P w K mg base (L2.CX P w) 8 (ga K "law") fd ["_law_script"] (sp_law K) := by
  refine F.ok sc_law (fun vs H Q E h => len_law h) (fun cdv A outer s H vs Q E hr h => ?_)
  have hu := hu_of hr
  have nd := sc_law.nd
  refine ⟨_, pss_cons (ps_set (i := 1) nd rfl (Or.inl rfl) (pe_has (dvs := []) h_law_hand hr passL (pa_cons (pv 0) pa_nil)))
    (pss_cons (ps_asg (pe_has (dvs := []) h_law_graph hr passL (pa_cons (pv 1) (pa_cons (pe_int) pa_nil))) (pg_tup (by rfl) (pgs_cons (pg_name (i := 2) nd rfl (Or.inl rfl)) (pgs_cons (pg_name (i := 3) nd rfl (Or.inl rfl)) pgs_nil))))
    (pss_cons (ps_set (i := 2) nd rfl (Or.inl rfl) (pe_op op_cat (pv 2) (pe_lst (pa_cons (pe_lst pa_nil) pa_nil))))
    (pss_cons (ps_set (i := 3) nd rfl (Or.inl rfl) (pe_op op_cat (pe_lst (pa_cons (pe_tup (pa_cons (pe_int) (pa_cons (pe_int) (pa_cons (pe_lst pa_nil) pa_nil)))) pa_nil)) (pv 3)))
    (pss_cons (ps_set (i := 4) nd rfl (Or.inl rfl) (pe_has (dvs := []) h_law_draw hr passL (pa_cons (pv 1) (pa_cons (pe_int) pa_nil))))
    (pss_cons (ps_if (pt_cmpR op_notN (pe_has (dvs := []) h_law_graph_word hr passL (pa_cons (pv 4) (pa_cons (pv 2) (pa_cons (pv 3) pa_nil)))) (pe_non) (nomark _))
      (pss_one (ps_ret (pe_bl)))
      (pss_nil))
    (pss_cons (ps_set (i := 5) nd rfl (Or.inl rfl) (pe_has (dvs := []) h_law_draw hr passL (pa_cons (pv 1) (pa_cons (pe_callB call_len_seq (by rfl) T.b_len (by decide +kernel) (pa_cons (pv 2) pa_nil)) pa_nil))))
    (pss_cons (ps_set (i := 6) nd rfl (Or.inl rfl) (pe_has (dvs := []) h_law_draw hr passL (pa_cons (pv 1) (pa_cons (pe_callB call_len_seq (by rfl) T.b_len (by decide +kernel) (pa_cons (pv 3) pa_nil)) pa_nil))))
    (pss_cons (ps_set (i := 7) nd rfl (Or.inl rfl) (pe_has (dvs := []) h_law_pick hr passL (pa_cons (pv 1) (pa_cons (pe_lst (pa_cons (pe_non) (pa_cons (pe_int) (pa_cons (pe_lst (pa_cons (pe_str) pa_nil)) (pa_cons (pe_lst (pa_cons (pe_bl) pa_nil)) (pa_cons (pe_lst (pa_cons (pe_non) pa_nil)) (pa_cons (pe_disp (pps_cons (pe_int) (pe_int) pps_nil) (by rfl) (by rfl) (fun z => by cases z) (by decide)) pa_nil))))))) pa_nil))))
    (pss_cons (ps_set (i := 8) nd rfl (Or.inl rfl) (pe_lst (pa_cons (pe_tup (pa_cons (pe_int) (pa_cons (pe_callB call_len_seq (by rfl) T.b_len (by decide +kernel) (pa_cons (pv 2) pa_nil)) (pa_cons (pe_lst pa_nil) pa_nil)))) (pa_cons (pe_tup (pa_cons (pe_un un_neg (pe_int)) (pa_cons (pe_int) (pa_cons (pe_lst pa_nil) pa_nil)))) (pa_cons (pe_tup (pa_cons (pe_int) (pa_cons (pe_int) (pa_cons (pv 7) pa_nil)))) (pa_cons (pe_tup (pa_cons (pe_int) (pa_cons (pe_int) pa_nil))) (pa_cons (pe_non) (pa_cons (pe_tup (pa_cons (pe_bl) (pa_cons (pe_int) (pa_cons (pe_lst pa_nil) pa_nil)))) (pa_cons (pe_tup (pa_cons (pe_int) (pa_cons (pe_int) (pa_cons (pe_lst pa_nil) (pa_cons (pe_int) pa_nil))))) pa_nil)))))))))
    (pss_cons (ps_set (i := 9) nd rfl (Or.inl rfl) (pe_op op_cat (pe_op op_cat (pe_slice sl_list (pv 3) po_none (po_some (pv 6))) (pe_lst (pa_cons (pe_has (dvs := []) h_law_pick hr passL (pa_cons (pv 1) (pa_cons (pv 8) pa_nil))) pa_nil))) (pe_slice sl_list (pv 3) (po_some (pe_op op_add (pv 6) (pe_int))) po_none)))
    (pss_cons (ps_set (i := 4) nd rfl (Or.inl rfl) (pe_has (dvs := []) h_law_draw hr passL (pa_cons (pv 1) (pa_cons (pe_int) pa_nil))))
    (pss_cons (ps_if (pt_cmpR (op_neD hr.units) (pe_has (dvs := []) h_law_graph_word hr passL (pa_cons (pv 4) (pa_cons (pe_op op_cat (pe_op op_cat (pe_slice sl_list (pv 2) po_none (po_some (pv 5))) (pe_lst (pa_cons (pv 7) pa_nil))) (pe_slice sl_list (pv 2) (po_some (pe_op op_add (pv 5) (pe_int))) po_none)) (pa_cons (pv 9) pa_nil)))) (pe_tup (pa_cons (pe_str) (pa_cons (pv 5) (pa_cons (pe_bl) pa_nil)))) (nomark _))
      (pss_one (ps_ret (pe_bl)))
      (pss_nil))
    (pss_cons (ps_if (pt_cmpR (op_neD hr.units) (pe_has (dvs := []) h_law_graph_word hr passL (pa_cons (pv 4) (pa_cons (pv 2) (pa_cons (pv 9) pa_nil)))) (pe_tup (pa_cons (pe_str) (pa_cons (pv 6) (pa_cons (pe_bl) pa_nil)))) (nomark _))
      (pss_one (ps_ret (pe_bl)))
      (pss_nil))
    (pss_cons (ps_if (pt_cmpR (op_neD hr.units) (pe_has (dvs := []) h_law_graph_word hr passL (pa_cons (pv 4) (pa_cons (pe_ifExp (pt_not (pt_val (pe_has (dvs := []) h_law_row hr passL (pa_cons (pv 7) pa_nil)))) (pv 7) (pe_non)) (pa_cons (pv 9) pa_nil)))) (pe_tup (pa_cons (pe_str) (pa_cons (pe_int) (pa_cons (pe_bl) pa_nil)))) (nomark _))
      (pss_one (ps_ret (pe_bl)))
      (pss_nil))
    (pss_one (ps_ret (pe_cmpR (op_eqD hr.units) (pe_has (dvs := []) h_law_graph_word hr passL (pa_cons (pv 4) (pa_cons (pv 2) (pa_cons (pe_non) pa_nil)))) (pe_tup (pa_cons (pe_str) (pa_cons (pe_int) (pa_cons (pe_bl) pa_nil)))) (nomark _)))))))))))))))))), ?_⟩
  exact rd_law (K := K) h

end
end SF

/-! SF5: facts of own exception classes as Bools; a def by its name from what the head tells. -/
namespace SF
open PySem PySem.Spec PyProof.Rows L2
def oexB (K : Fg) (C : Addr) : Bool := (match K.lookup C with
  | some ⟨.type "type", _, .cls cd, sl⟩ => (match cd.mro, sl.toList with
    | .ref C' :: bm, [_, _, _, _, some (.builtin n), _] => C' == C && (n == "ValueError.__new__") && !cd.hasDel && cd.hasDict && PySem.HandSPX.refsVE bm
    | _, _ => false)
  | _ => false) && (decide (PySem.W.findIn K (.ref C) "__setattr__" = some (some (.builtin "object.__setattr__"))) && (decide (PySem.W.subIn K (.ref C) (.type "BaseException") = some true) && (decide (PySem.W.typeIn K (.ref C) = some (.type "type")) && PySem.W.keepIn K (.ref C))))
theorem oexB_ok {K : Fg} {C : Addr} (q : oexB K C = true) : OexC K C := by
  unfold oexB at q
  obtain ⟨q, q4⟩ := He.ba q
  obtain ⟨q5, q6⟩ := He.ba q4
  obtain ⟨q7, q8⟩ := He.ba q6
  obtain ⟨q9, q10⟩ := He.ba q8
  refine ⟨?_, of_decide_eq_true q5, of_decide_eq_true q7, of_decide_eq_true q9, q10⟩
  split at q
  · rename_i dd cd sl ho
    split at q
    · rename_i C' bm k0 k1 k2 k3 n k5 hm hs
      simp only [Bool.and_eq_true, beq_iff_eq, Bool.not_eq_true'] at q
      obtain ⟨⟨⟨⟨rfl, rfl⟩, hdel⟩, hdd⟩, ht⟩ := q
      obtain ⟨nm, bs, mro, ns, qn, hd, sn, sub, ab, col, del⟩ := cd
      dsimp only at hm hdel hdd
      subst hm hdel hdd
      have hsl : sl = #[k0, k1, k2, k3, some (.builtin "ValueError.__new__"), k5] := by
        obtain ⟨l⟩ := sl
        simp only at hs
        rw [hs]
      subst hsl
      exact ⟨nm, qn, ns, bs, bm, sn, sub, ab, col, dd, k0, k1, k2, k3, k5, ho, ht⟩
    · cases q
  · cases q
def xcB (K : Fg) (D : Addr) : Bool := (PySem.W.clsIn K D).isSome && (decide (PySem.W.findIn K (.ref D) "__getattribute__" = some (some (.builtin "BaseException.__getattribute__"))) && (decide (PySem.W.findIn K (.ref D) "__getattr__" = some none) &&
  (decide (PySem.W.subIn K (.ref D) (.type "BaseException") = some true) && (decide (PySem.W.findIn K (.ref D) "__class__" = some (some (.builtin "object.__class__"))) &&
  (decide (PySem.W.specialIn K (.builtin "object.__class__") "__get__" = some (some (.builtin "getset_descriptor.__get__"))) && (decide (PySem.W.takesIn K (.builtin "object.__class__") = some true) && decide (PySem.W.mroIn K D (.type "object") = some true)))))))
theorem xcB_ok {K : Fg} {D : Addr} (q : xcB K D = true) : XcC K D := by
  unfold xcB at q
  obtain ⟨q1, q⟩ := He.ba q
  obtain ⟨q2, q⟩ := He.ba q
  obtain ⟨q3, q⟩ := He.ba q
  obtain ⟨q4, q⟩ := He.ba q
  obtain ⟨q5, q⟩ := He.ba q
  obtain ⟨q6, q⟩ := He.ba q
  obtain ⟨q7, q8⟩ := He.ba q
  exact ⟨q1, of_decide_eq_true q2, of_decide_eq_true q3, of_decide_eq_true q4, of_decide_eq_true q5, of_decide_eq_true q6, of_decide_eq_true q7, of_decide_eq_true q8⟩
/-- the class's own __init__ -/
def iniB (K : Fg) (C : Addr) : Bool := decide (PySem.W.findIn K (.ref C) "__init__" = some (some (.ref (He.ma K C "__init__")))) && decide (PySem.W.typeIn K (.ref (He.ma K C "__init__")) = some (.type "function"))
def kitIs (K : Fg) (x y : Str) (b : Bool) : Bool := decide (PySem.W.kitOne K (.ref (ga K x)) (.ref (ga K y)) = some b)
section
variable {P : Program} {w : World} {K : Fg} {mg : Str → Option Value} {base : Heap} {x qual : Str} {params : Arguments} {body : List Stmt} {scope : Scope} {dvs : List V} {fd : FuncData} {k : Nat} {ps : List Str} {sp : Sp} {h : Heap}
/-- a def of no defaults -/
theorem has0 (X : K.In h) (G : h.Ns mainGlobals mg) (c : (He.Fa.glo x).ok K = true) (F : FunD K x qual params body scope [] [] (ga K x) fd) (ok : FnOk P w K mg base (L2.CX P w) k (ga K x) fd ps sp)
    (hb : ∀ (kV doc pm : Value) (an : Option Addr) (cdv ct : Value) (us : List Value), us.length = ps.length → bindArgs (PySem.W.fnOf x qual params body scope .none kV doc pm an cdv ct) ⟨us, []⟩ = pure (ps.zip us)) : Has P w K mg base k x ps [[]] sp :=
  ⟨He.glo_ok X G c, F.kp, fd, ok, fun dv h => by cases List.mem_singleton.mp h; exact ⟨[], F.bindsN hb, .nil⟩⟩
theorem has_all {D : List (List V)} (X : K.In h) (G : h.Ns mainGlobals mg) (c : (He.Fa.glo x).ok K = true) (F : FunD K x qual params body scope dvs [] (ga K x) fd) (ok : FnOk P w K mg base (L2.CX P w) k (ga K x) fd ps sp)
    (hb : ∀ dv ∈ D, ∃ ds, Vals dv ds ∧ Binds K fd ps ds) : Has P w K mg base k x ps D sp :=
  ⟨He.glo_ok X G c, F.kp, fd, ok, fun dv h => by obtain ⟨ds, h1, h2⟩ := hb dv h; exact ⟨ds, h2, h1⟩⟩
end
/-- a law's end where a call may raise: the air of exceptions goes by the world -/
theorem walk_ofW {l : PySem.W.OpenLaw} {n k : Nat} {q : Program} {loose : List Str} {XP : (Str → Option Value) → Heap → Prop} {YP : World → Heap → Prop} {d : DefRec} {x : Str} {CX : World → CXT}
    (hn : l.most = some n) (hs : n ≤ sizeLine) (hdf : d.params.defaults = []) (hr : Room k callerA)
    (F : ∀ (w : World) (mg : Str → Option Value) (fa : Addr) (h : Heap), YP w h → h.Ns mainGlobals mg → mg d.name = some (.ref fa) → ∃ (K : Fg) (fd : FuncData) (sp : Sp), K.In h ∧ (∀ (s : Shared) (u : Value), BindsTo s fd ⟨[u], []⟩ [(x, u)]) ∧
      (∀ (H : Hp) (a : Addr) (ns : List Int), ns.length ≤ n → Only H → SqL K H a (ns.map V.int) → sp [.ref a] H (fun v _ => v = .bl true) fun _ _ _ => False) ∧ ∀ base : Heap, K.In base → base.Ns mainGlobals mg → FnOk l.prog w K mg base (CX w) k fa fd [x] sp)
    (no : ∀ (w : World) (H : Hp) (s : Shared) (e : Value) (s' : Shared), CX w [] H s (fun _ _ _ => False) e s' → False) : PySem.W.WalkO q loose XP YP l.row.toRowW d [] (fun f vs => PySem.call f vs) :=
  Att.attach_call hn hdf fun w s₀ s₁ mg mb fa o pm cd doc a vs ns G Y ho hd hcd hmg hobj hints hlen hg => by
    have ⟨K, fd, sp, KX, hb, hsp, hF⟩ := F w mg fa _ Y G.T.g hmg
    exact law_call KX G.T.g G.T.b G.T.builtins G.T.nolimit hg hobj hints (Nat.le_trans hlen hs) hr hF hb (fun H hO hS => hsp H a ns hlen hO hS) fun H e s' c => no w H s₁ e s' c
end SF


namespace SF
open PySem PySem.Spec PyProof.Rows L2
def d_BadGraph_init : He.DefD := ⟨("BadGraph", some "__init__"), "__init__", "BadGraph.__init__", defArgs s_BadGraph_init, defBody s_BadGraph_init, defScope s_BadGraph_init, [], []⟩
def d_law_hand : He.DefD := ⟨("_law_hand", none), "_law_hand", "_law_hand", defArgs s_law_hand, defBody s_law_hand, defScope s_law_hand, [], []⟩
def d_law_mix : He.DefD := ⟨("_law_mix", none), "_law_mix", "_law_mix", defArgs s_law_mix, defBody s_law_mix, defScope s_law_mix, [], []⟩
def d_law_draw : He.DefD := ⟨("_law_draw", none), "_law_draw", "_law_draw", defArgs s_law_draw, defBody s_law_draw, defScope s_law_draw, [], []⟩
def d_law_shuffled : He.DefD := ⟨("_law_shuffled", none), "_law_shuffled", "_law_shuffled", defArgs s_law_shuffled, defBody s_law_shuffled, defScope s_law_shuffled, [], []⟩
def d_law_graph : He.DefD := ⟨("_law_graph", none), "_law_graph", "_law_graph", defArgs s_law_graph, defBody s_law_graph, defScope s_law_graph, [], []⟩
def d_law_pick : He.DefD := ⟨("_law_pick", none), "_law_pick", "_law_pick", defArgs s_law_pick, defBody s_law_pick, defScope s_law_pick, [], []⟩
def d_law_row : He.DefD := ⟨("_law_row", none), "_law_row", "_law_row", defArgs s_law_row, defBody s_law_row, defScope s_law_row, [], []⟩
def d_is_sequence : He.DefD := ⟨("is_sequence", none), "is_sequence", "is_sequence", defArgs s_is_sequence, defBody s_is_sequence, defScope s_is_sequence, [], []⟩
def d_is_whole : He.DefD := ⟨("is_whole", none), "is_whole", "is_whole", defArgs s_is_whole, defBody s_is_whole, defScope s_is_whole, [.non, .non], []⟩
def d_are_keys : He.DefD := ⟨("are_keys", none), "are_keys", "are_keys", defArgs s_are_keys, defBody s_are_keys, defScope s_are_keys, [], []⟩
def d_is_arc : He.DefD := ⟨("is_arc", none), "is_arc", "is_arc", defArgs s_is_arc, defBody s_is_arc, defScope s_is_arc, [], []⟩
def d_check_graph : He.DefD := ⟨("check_graph", none), "check_graph", "check_graph", defArgs s_check_graph, defBody s_check_graph, defScope s_check_graph, [], []⟩
def d_leaving_arcs : He.DefD := ⟨("leaving_arcs", none), "leaving_arcs", "leaving_arcs", defArgs s_leaving_arcs, defBody s_leaving_arcs, defScope s_leaving_arcs, [], []⟩
def d_arcs_within : He.DefD := ⟨("arcs_within", none), "arcs_within", "arcs_within", defArgs s_arcs_within, defBody s_arcs_within, defScope s_arcs_within, [], []⟩
def d_take_part : He.DefD := ⟨("take_part", none), "take_part", "take_part", defArgs s_take_part, defBody s_take_part, defScope s_take_part, [], []⟩
def d_tied_parts : He.DefD := ⟨("tied_parts", none), "tied_parts", "tied_parts", defArgs s_tied_parts, defBody s_tied_parts, defScope s_tied_parts, [], []⟩
def d_keys_within : He.DefD := ⟨("keys_within", none), "keys_within", "keys_within", defArgs s_keys_within, defBody s_keys_within, defScope s_keys_within, [], []⟩
def d_is_content : He.DefD := ⟨("is_content", none), "is_content", "is_content", defArgs s_is_content, defBody s_is_content, defScope s_is_content, [], []⟩
def d_fair_lots : He.DefD := ⟨("fair_lots", none), "fair_lots", "fair_lots", defArgs s_fair_lots, defBody s_fair_lots, defScope s_fair_lots, [], []⟩
def d_is_fair_lot : He.DefD := ⟨("is_fair_lot", none), "is_fair_lot", "is_fair_lot", defArgs s_is_fair_lot, defBody s_is_fair_lot, defScope s_is_fair_lot, [], []⟩
def d_fair_tour : He.DefD := ⟨("fair_tour", none), "fair_tour", "fair_tour", defArgs s_fair_tour, defBody s_fair_tour, defScope s_fair_tour, [], []⟩
def d_tour_fault : He.DefD := ⟨("tour_fault", none), "tour_fault", "tour_fault", defArgs s_tour_fault, defBody s_tour_fault, defScope s_tour_fault, [], []⟩
def d_first_missing : He.DefD := ⟨("first_missing", none), "first_missing", "first_missing", defArgs s_first_missing, defBody s_first_missing, defScope s_first_missing, [], []⟩
def d_no_lot_paper : He.DefD := ⟨("no_lot_paper", none), "no_lot_paper", "no_lot_paper", defArgs s_no_lot_paper, defBody s_no_lot_paper, defScope s_no_lot_paper, [], []⟩
def d_no_lot_fault : He.DefD := ⟨("no_lot_fault", none), "no_lot_fault", "no_lot_fault", defArgs s_no_lot_fault, defBody s_no_lot_fault, defScope s_no_lot_fault, [], []⟩
def d_law_graph_word : He.DefD := ⟨("_law_graph_word", none), "_law_graph_word", "_law_graph_word", defArgs s_law_graph_word, defBody s_law_graph_word, defScope s_law_graph_word, [], []⟩
def d_law : He.DefD := ⟨("law", none), "law", "law", defArgs s_law, defBody s_law, defScope s_law, [], []⟩
def fn89 : List He.DefD := [d_BadGraph_init, d_law_hand, d_law_mix, d_law_draw, d_law_shuffled, d_law_graph, d_law_pick, d_law_row, d_is_sequence, d_is_whole, d_are_keys, d_is_arc, d_check_graph, d_leaving_arcs, d_arcs_within, d_take_part, d_tied_parts, d_keys_within, d_is_content, d_fair_lots, d_is_fair_lot, d_fair_tour, d_tour_fault, d_first_missing, d_no_lot_paper, d_no_lot_fault, d_law_graph_word, d_law]
def fa89 : List He.Fa := [.glo "_law_hand", .glo "_law_mix", .glo "_law_draw", .glo "_law_shuffled", .glo "_law_graph", .glo "_law_pick", .glo "_law_row", .glo "is_sequence", .glo "is_whole", .glo "are_keys", .glo "is_arc", .glo "check_graph", .glo "leaving_arcs", .glo "arcs_within", .glo "take_part", .glo "tied_parts", .glo "keys_within", .glo "is_content", .glo "fair_lots", .glo "is_fair_lot", .glo "fair_tour", .glo "tour_fault", .glo "first_missing", .glo "no_lot_paper", .glo "no_lot_fault", .glo "_law_graph_word", .glo "law", .glo "FrameError", .glo "BadGraph", .glo "NoTour", .free "abs", .free "bool", .free "enumerate", .free "int", .free "isinstance", .free "len", .free "list", .free "min", .free "range", .free "sorted", .free "tuple", .int "MOST_VERTICES" 30000, .noat "BadGraph" "what", .noat "BadGraph" "at", .exm "BadGraph" "BadGraph" true]
def ex89 (K : Fg) : Bool := oexB K (ga K "BadGraph") && (iniB K (ga K "BadGraph") && (xfB K (ga K "BadGraph") && (xcB K (ga K "BadGraph") && (kitIs K "BadGraph" "FrameError" true))))
theorem facts89 {P : Program} {w : World} {K : Fg} {h : Heap} {mg : Str → Option Value} {f : Addr} (X : K.In h) (G : h.Ns mainGlobals mg) (hfa : mg ("law" : Str) = some (.ref f)) (c : He.SaysX fa89 fn89 [] [] ex89 w h K) :
    ∃ fd : FuncData, (∀ (s : Shared) (v : Value), BindsTo s fd ⟨[v], []⟩ [("_law_script", v)]) ∧ ex89 K = true ∧ (He.SaysD fa89 fn89 K) ∧ ∀ base : Heap, K.In base → base.Ns mainGlobals mg → FnOk P w K mg base (L2.CX P w) 8 f fd ["_law_script"] (sp_law K) := by
  have D := c.t.d
  have E := c.more
  obtain ⟨e0, q0⟩ := He.ba E
  obtain ⟨e1, q1⟩ := He.ba q0
  obtain ⟨e2, q2⟩ := He.ba q1
  obtain ⟨e3, q3⟩ := He.ba q2
  have e4 := q3
  have T : Txt K mg := ⟨He.free_ok X G (D.fact 30 (f := .free "abs") rfl), He.free_ok X G (D.fact 31 (f := .free "bool") rfl), He.free_ok X G (D.fact 32 (f := .free "enumerate") rfl), He.free_ok X G (D.fact 33 (f := .free "int") rfl), He.free_ok X G (D.fact 34 (f := .free "isinstance") rfl), He.free_ok X G (D.fact 35 (f := .free "len") rfl), He.free_ok X G (D.fact 36 (f := .free "list") rfl), He.free_ok X G (D.fact 37 (f := .free "min") rfl), He.free_ok X G (D.fact 38 (f := .free "range") rfl), He.free_ok X G (D.fact 39 (f := .free "sorted") rfl), He.free_ok X G (D.fact 40 (f := .free "tuple") rfl), He.int_ok X G (D.fact 41 (f := .int "MOST_VERTICES" 30000) rfl), He.glo_ok X G (D.fact 27 (f := .glo "FrameError") rfl), He.glo_ok X G (D.fact 28 (f := .glo "BadGraph") rfl), He.glo_ok X G (D.fact 29 (f := .glo "NoTour") rfl), xfB_ok e2, xcB_ok e3, He.noat_ok (D.fact 42 (f := .noat "BadGraph" "what") rfl), He.noat_ok (D.fact 43 (f := .noat "BadGraph" "at") rfl)⟩
  obtain ⟨fd0, F0⟩ := D.def_ 0 (d := d_BadGraph_init) rfl
  obtain ⟨fd1, F1⟩ := D.def_ 1 (d := d_law_hand) rfl
  obtain ⟨fd2, F2⟩ := D.def_ 2 (d := d_law_mix) rfl
  obtain ⟨fd3, F3⟩ := D.def_ 3 (d := d_law_draw) rfl
  obtain ⟨fd4, F4⟩ := D.def_ 4 (d := d_law_shuffled) rfl
  obtain ⟨fd5, F5⟩ := D.def_ 5 (d := d_law_graph) rfl
  obtain ⟨fd6, F6⟩ := D.def_ 6 (d := d_law_pick) rfl
  obtain ⟨fd7, F7⟩ := D.def_ 7 (d := d_law_row) rfl
  obtain ⟨fd8, F8⟩ := D.def_ 8 (d := d_is_sequence) rfl
  obtain ⟨fd9, F9⟩ := D.def_ 9 (d := d_is_whole) rfl
  obtain ⟨fd10, F10⟩ := D.def_ 10 (d := d_are_keys) rfl
  obtain ⟨fd11, F11⟩ := D.def_ 11 (d := d_is_arc) rfl
  obtain ⟨fd12, F12⟩ := D.def_ 12 (d := d_check_graph) rfl
  obtain ⟨fd13, F13⟩ := D.def_ 13 (d := d_leaving_arcs) rfl
  obtain ⟨fd14, F14⟩ := D.def_ 14 (d := d_arcs_within) rfl
  obtain ⟨fd15, F15⟩ := D.def_ 15 (d := d_take_part) rfl
  obtain ⟨fd16, F16⟩ := D.def_ 16 (d := d_tied_parts) rfl
  obtain ⟨fd17, F17⟩ := D.def_ 17 (d := d_keys_within) rfl
  obtain ⟨fd18, F18⟩ := D.def_ 18 (d := d_is_content) rfl
  obtain ⟨fd19, F19⟩ := D.def_ 19 (d := d_fair_lots) rfl
  obtain ⟨fd20, F20⟩ := D.def_ 20 (d := d_is_fair_lot) rfl
  obtain ⟨fd21, F21⟩ := D.def_ 21 (d := d_fair_tour) rfl
  obtain ⟨fd22, F22⟩ := D.def_ 22 (d := d_tour_fault) rfl
  obtain ⟨fd23, F23⟩ := D.def_ 23 (d := d_first_missing) rfl
  obtain ⟨fd24, F24⟩ := D.def_ 24 (d := d_no_lot_paper) rfl
  obtain ⟨fd25, F25⟩ := D.def_ 25 (d := d_no_lot_fault) rfl
  obtain ⟨fd26, F26⟩ := D.def_ 26 (d := d_law_graph_word) rfl
  obtain ⟨fd27, F27⟩ := D.def_ 27 (d := d_law) rfl
  have e := hfa.symm.trans (He.glo_ok X G (D.fact 26 (f := .glo "law") rfl))
  cases e
  refine ⟨fd27, fun s v => FunD.bindsA (ps := ["_law_script"]) F27 (fun _ _ _ _ _ _ us hl => match us, hl with | [_], _ => rfl) s [v] rfl, c.more, D, fun base _ _ => ?_⟩
  have i_BadGraph := He.ba e1
  have xh_BadGraph : ExHas P w K mg base "BadGraph" ["what", "at"] := ⟨oexB_ok e0, T.g_BadGraph, of_decide_eq_true i_BadGraph.1, of_decide_eq_true i_BadGraph.2, ⟨fd0, ok_BadGraph_init (oexB_ok e0) T.no_BadGraph_what T.no_BadGraph_at F0, F0.bindsN fun _ _ _ _ _ _ us hl => match us, hl with | [_, _, _], _ => rfl⟩⟩
  have h_law_hand : Has P w K mg base 1 "_law_hand" ["_law_script"] [[]] (sp_law_hand K) := has0 X G (D.fact 0 (f := .glo "_law_hand") rfl) F1 (ok_law_hand T F1 ) (fun _ _ _ _ _ _ us hl => match us, hl with | [_], _ => rfl)
  have h_law_mix : Has P w K mg base 1 "_law_mix" ["_law_number", "_law_turn"] [[]] (sp_law_mix) := has0 X G (D.fact 1 (f := .glo "_law_mix") rfl) F2 (ok_law_mix T F2 ) (fun _ _ _ _ _ _ us hl => match us, hl with | [_, _], _ => rfl)
  have h_law_draw : Has P w K mg base 2 "_law_draw" ["_law_hand_here", "_law_many"] [[]] (sp_law_draw K) := has0 X G (D.fact 2 (f := .glo "_law_draw") rfl) F3 (ok_law_draw T F3 h_law_mix) (fun _ _ _ _ _ _ us hl => match us, hl with | [_, _], _ => rfl)
  have h_law_shuffled : Has P w K mg base 3 "_law_shuffled" ["_law_hand_here", "_law_row_here"] [[]] (sp_law_shuffled K) := has0 X G (D.fact 3 (f := .glo "_law_shuffled") rfl) F4 (ok_law_shuffled T F4 h_law_draw) (fun _ _ _ _ _ _ us hl => match us, hl with | [_, _], _ => rfl)
  have h_law_graph : Has P w K mg base 4 "_law_graph" ["_law_hand_here", "_law_most"] [[]] (sp_law_graph K) := has0 X G (D.fact 4 (f := .glo "_law_graph") rfl) F5 (ok_law_graph T F5 h_law_draw h_law_shuffled) (fun _ _ _ _ _ _ us hl => match us, hl with | [_, _], _ => rfl)
  have h_law_pick : Has P w K mg base 3 "_law_pick" ["_law_hand_here", "_law_row_here"] [[]] (sp_law_pick K) := has0 X G (D.fact 5 (f := .glo "_law_pick") rfl) F6 (ok_law_pick T F6 h_law_draw) (fun _ _ _ _ _ _ us hl => match us, hl with | [_, _], _ => rfl)
  have h_law_row : Has P w K mg base 1 "_law_row" ["_law_thing"] [[]] (sp_law_row K) := has0 X G (D.fact 6 (f := .glo "_law_row") rfl) F7 (ok_law_row T F7 ) (fun _ _ _ _ _ _ us hl => match us, hl with | [_], _ => rfl)
  have h_is_sequence : Has P w K mg base 1 "is_sequence" ["thing"] [[]] (sp_is_sequence) := has0 X G (D.fact 7 (f := .glo "is_sequence") rfl) F8 (ok_is_sequence T F8 ) (fun _ _ _ _ _ _ us hl => match us, hl with | [_], _ => rfl)
  have h_is_whole : Has P w K mg base 1 "is_whole" ["thing", "low", "high"] [[], [.non], [.non, .non]] (sp_is_whole) := has_all X G (D.fact 8 (f := .glo "is_whole") rfl) F9 (ok_is_whole T F9 ) (by
    intro dv hd
    simp only [List.mem_cons, List.not_mem_nil, or_false] at hd
    rcases hd with rfl | rfl | rfl
    · exact F9.binds1 3 2 (by simp [He.DefD.dvs, d_is_whole]) rfl fun _ _ _ _ _ _ _ us its hu hi => match us, hu, its, hi with | [_, _, _], _, [_, _], _ => ⟨_, rfl, rfl⟩
    · exact F9.binds1 2 1 (by simp [He.DefD.dvs, d_is_whole]) rfl fun _ _ _ _ _ _ _ us its hu hi => match us, hu, its, hi with | [_, _], _, [_, _], _ => ⟨_, rfl, rfl⟩
    · exact F9.binds1 1 0 (by simp [He.DefD.dvs, d_is_whole]) rfl fun _ _ _ _ _ _ _ us its hu hi => match us, hu, its, hi with | [_], _, [_, _], _ => ⟨_, rfl, rfl⟩)
  have h_are_keys : Has P w K mg base 2 "are_keys" ["thing"] [[]] (sp_are_keys) := has0 X G (D.fact 9 (f := .glo "are_keys") rfl) F10 (ok_are_keys T F10 h_is_whole h_is_sequence) (fun _ _ _ _ _ _ us hl => match us, hl with | [_], _ => rfl)
  have h_is_arc : Has P w K mg base 3 "is_arc" ["thing", "last"] [[]] (sp_is_arc) := has0 X G (D.fact 10 (f := .glo "is_arc") rfl) F11 (ok_is_arc T F11 h_is_whole h_is_sequence h_are_keys) (fun _ _ _ _ _ _ us hl => match us, hl with | [_, _], _ => rfl)
  have h_check_graph : Has P w K mg base 4 "check_graph" ["wants", "arcs"] [[]] (sp_check_graph K) := has0 X G (D.fact 11 (f := .glo "check_graph") rfl) F12 (ok_check_graph T F12 h_is_sequence h_are_keys h_is_arc xh_BadGraph) (fun _ _ _ _ _ _ us hl => match us, hl with | [_, _], _ => rfl)
  have h_leaving_arcs : Has P w K mg base 1 "leaving_arcs" ["wants", "arcs"] [[]] (sp_leaving_arcs K) := has0 X G (D.fact 12 (f := .glo "leaving_arcs") rfl) F13 (ok_leaving_arcs T F13 ) (fun _ _ _ _ _ _ us hl => match us, hl with | [_, _], _ => rfl)
  have h_arcs_within : Has P w K mg base 1 "arcs_within" ["arcs", "leaving", "members"] [[]] (sp_arcs_within K) := has0 X G (D.fact 13 (f := .glo "arcs_within") rfl) F14 (ok_arcs_within T F14 ) (fun _ _ _ _ _ _ us hl => match us, hl with | [_, _, _], _ => rfl)
  have h_take_part : Has P w K mg base 1 "take_part" ["stack", "waiting", "vertex"] [[]] (sp_take_part K) := has0 X G (D.fact 14 (f := .glo "take_part") rfl) F15 (ok_take_part T F15 ) (fun _ _ _ _ _ _ us hl => match us, hl with | [_, _, _], _ => rfl)
  have h_tied_parts : Has P w K mg base 2 "tied_parts" ["arcs", "within"] [[]] (sp_tied_parts K) := has0 X G (D.fact 15 (f := .glo "tied_parts") rfl) F16 (ok_tied_parts T F16 h_take_part) (fun _ _ _ _ _ _ us hl => match us, hl with | [_, _], _ => rfl)
  have h_keys_within : Has P w K mg base 2 "keys_within" ["arcs", "leaving", "part"] [[]] (sp_keys_within K) := has0 X G (D.fact 16 (f := .glo "keys_within") rfl) F17 (ok_keys_within T F17 h_arcs_within) (fun _ _ _ _ _ _ us hl => match us, hl with | [_, _, _], _ => rfl)
  have h_is_content : Has P w K mg base 1 "is_content" ["wants", "vertex", "given"] [[]] (sp_is_content K) := has0 X G (D.fact 17 (f := .glo "is_content") rfl) F18 (ok_is_content T F18 ) (fun _ _ _ _ _ _ us hl => match us, hl with | [_, _, _], _ => rfl)
  have h_fair_lots : Has P w K mg base 5 "fair_lots" ["wants", "arcs"] [[]] (sp_fair_lots K) := has0 X G (D.fact 18 (f := .glo "fair_lots") rfl) F19 (ok_fair_lots T F19 h_check_graph h_leaving_arcs h_arcs_within h_tied_parts h_keys_within h_is_content) (fun _ _ _ _ _ _ us hl => match us, hl with | [_, _], _ => rfl)
  have h_is_fair_lot : Has P w K mg base 5 "is_fair_lot" ["wants", "arcs", "lot"] [[]] (sp_is_fair_lot K) := has0 X G (D.fact 19 (f := .glo "is_fair_lot") rfl) F20 (ok_is_fair_lot T F20 h_is_whole h_is_sequence h_check_graph h_leaving_arcs h_arcs_within h_tied_parts h_keys_within h_is_content) (fun _ _ _ _ _ _ us hl => match us, hl with | [_, _, _], _ => rfl)
  have h_fair_tour : Has P w K mg base 6 "fair_tour" ["wants", "arcs", "lot", "vertex"] [[]] (sp_fair_tour K) := has0 X G (D.fact 20 (f := .glo "fair_tour") rfl) F21 (ok_fair_tour T F21 h_is_whole h_is_fair_lot) (fun _ _ _ _ _ _ us hl => match us, hl with | [_, _, _, _], _ => rfl)
  have h_tour_fault : Has P w K mg base 5 "tour_fault" ["wants", "arcs", "vertex", "tour"] [[]] (sp_tour_fault K) := has0 X G (D.fact 21 (f := .glo "tour_fault") rfl) F22 (ok_tour_fault T F22 h_is_sequence h_check_graph h_is_content) (fun _ _ _ _ _ _ us hl => match us, hl with | [_, _, _, _], _ => rfl)
  have h_first_missing : Has P w K mg base 1 "first_missing" ["wants", "part", "given"] [[]] (sp_first_missing K) := has0 X G (D.fact 22 (f := .glo "first_missing") rfl) F23 (ok_first_missing T F23 ) (fun _ _ _ _ _ _ us hl => match us, hl with | [_, _, _], _ => rfl)
  have h_no_lot_paper : Has P w K mg base 5 "no_lot_paper" ["wants", "arcs"] [[]] (sp_no_lot_paper K) := has0 X G (D.fact 23 (f := .glo "no_lot_paper") rfl) F24 (ok_no_lot_paper T F24 h_check_graph h_leaving_arcs h_arcs_within h_tied_parts h_keys_within h_first_missing) (fun _ _ _ _ _ _ us hl => match us, hl with | [_, _], _ => rfl)
  have h_no_lot_fault : Has P w K mg base 5 "no_lot_fault" ["wants", "arcs", "steps"] [[]] (sp_no_lot_fault K) := has0 X G (D.fact 24 (f := .glo "no_lot_fault") rfl) F25 (ok_no_lot_fault T F25 h_is_sequence h_check_graph h_leaving_arcs) (fun _ _ _ _ _ _ us hl => match us, hl with | [_, _, _], _ => rfl)
  have h_law_graph_word : Has P w K mg base 7 "_law_graph_word" ["_law_name", "_law_wants", "_law_arcs"] [[]] (sp_law_graph_word K) := has0 X G (D.fact 25 (f := .glo "_law_graph_word") rfl) F26 (ok_law_graph_word T F26 h_fair_lots h_is_fair_lot h_fair_tour h_tour_fault h_no_lot_paper h_no_lot_fault) (fun _ _ _ _ _ _ us hl => match us, hl with | [_, _, _], _ => rfl)
  exact ok_law T F27 h_law_hand h_law_draw h_law_graph h_law_pick h_law_row h_law_graph_word
end SF


namespace SF
open PySem PySem.Spec PyProof.Rows L2
abbrev R89 : PySem.W.OpenRow := PySem.W.OpenLaw.row PySem.Challenge.rw_spentframes_k89_refused_graphs
abbrev hk89 : PySem.W.Hook := He.hookX 5 fa89 fn89 [] [] ex89
def ob89 (s : PySem.W.SharedT) : He.AlX := He.obsX 5 fa89 fn89 [] [] ex89 (HandSHeadRun.getT s)
theorem ob_eq89 (s : PySem.W.SharedT) : ob89 s = hk89.obs s.abs := He.obsX_eq (HandSHeadRun.getT_eq s)
abbrev lo89 : List Str := (["FrameError", "BadGraph", "NoTour", "MOST_VERTICES", "is_whole", "is_sequence", "are_keys", "is_arc", "check_graph", "leaving_arcs", "arcs_within", "take_part", "tied_parts", "keys_within", "is_content", "fair_lots", "is_fair_lot", "arcs_toward", "trace_arcs", "nearest_gift"] : List Str) ++ (["fair_tour", "tour_fault", "first_missing", "no_lot_paper", "step_fault", "no_lot_fault", "_law_hand", "_law_mix", "_law_draw", "_law_shuffled", "_law_graph", "_law_pick", "_law_row", "_law_graph_word"] : List Str)
theorem run89 (w : World) : HandSHeadRun.RunEq R89 (PySem.W.view R89.prog [38]) hk89 ob89 3000 lo89 w := by
  intro os
  kernel_rfl
end SF

/-! Z89: the law. -/
open PySem PySem.W PySem.Calls PyProof.Rows
theorem PySem.Challenge.cw_spentframes_k89_refused_graphs_holds : PySem.Challenge.rw_spentframes_k89_refused_graphs.Holds := by
  w_on; o_law
  refine HandSHeadRun.head_any (r := OpenLaw.row PySem.Challenge.rw_spentframes_k89_refused_graphs) (q := view (OpenLaw.row PySem.Challenge.rw_spentframes_k89_refused_graphs).prog [38]) (H := SF.hk89) (ob := SF.ob89) (M := 3000) (loose := SF.lo89) (d := HandSHeadRun.topDef (OpenLaw.row PySem.Challenge.rw_spentframes_k89_refused_graphs).prog 38) (kwd := []) SF.ob_eq89
    (by kernel_rfl) (fun s => by kernel_rfl) SF.run89 (by kernel_rfl) (by kernel_rfl) (by kernel_rfl) (by rfl) (by first | assumption | decide +kernel) (by decide +kernel) ⟨rfl, rfl, rfl, rfl, rfl, by decide +kernel⟩ ?hw ?hc
  case hw => w_witness2
  case hc =>
    refine SF.walk_ofW (l := PySem.Challenge.rw_spentframes_k89_refused_graphs) (n := 63) (k := 8) (x := "_law_script") (CX := fun w => L2.CX PySem.Challenge.pw_spentframes_k89_refused_graphs w) rfl (by decide) (by kernel_rfl) ⟨rfl, by decide, by decide⟩ ?F (fun w H s e s' ⟨_, _, _, _, _, _, _, _, _, _, _, _, z⟩ => z)
    intro w mg fa h Y G hmg0
    obtain ⟨K, KX, c⟩ := Y
    have hmg : mg ("law" : PySem.Str) = some (.ref fa) := by
      have e : (HandSHeadRun.topDef (OpenLaw.row PySem.Challenge.rw_spentframes_k89_refused_graphs).prog 38).name = ("law" : PySem.Str) := by kernel_rfl
      rw [← e]
      exact hmg0
    obtain ⟨fd, hb, hx, D, hF⟩ := SF.facts89 (P := PySem.Challenge.pw_spentframes_k89_refused_graphs) (w := w) KX G hmg c
    have hK : SF.excOk K := by
      refine ⟨?_, He.exm_ok (D.facts (f := .exm "BadGraph" "BadGraph" true) (by simp [SF.fa89]))⟩
      have q := (He.ba (He.ba (He.ba (He.ba hx).2).2).2).2
      exact of_decide_eq_true q
    exact ⟨K, fd, SF.sp_law K, KX, hb, fun H a ns hl _ hS => ⟨a, ns, rfl, hS, hl, hK, fun _ _ => rfl⟩, hF⟩

