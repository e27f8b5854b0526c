import PyProof.Rows.All
import Wide.All
import OpenK.AllK
import Wide.FinOn
import HandS.ForMost
import HandS.Exc
import HandS.TryOnly
import HandS.ExcOwn
import HandS.WordsExc
import HandS.IsInst
import HandS.Defaults
import HandS.DictComp
import HandS.Conv
import HandS.ExcInit
import HandS.ExcField
import HandS.ExcIs
import HandS.NoneIn
import HandS.TupAny
import HandS.CallSlots
import HandS.HeadHook4
import HandS.HeadEnd
import HandS.Head2
import KE.KExcIs
import HandS.SortInts
import HandS.MakeKwOnly
import HandS.Style
import HandS.Walk
import HandS.Zip
import HandS.MakeKw
import PySem.Challenge.RW_spentframes_k75_whole_streams_through_lo
set_option Elab.async false
set_option linter.all false
set_option maxRecDepth 100000
set_option maxHeartbeats 4000000
/-! SF0: the layer of this work over HandS, no row in sight: data and what stands for it, calls of defs by name, operators by short names. -/
namespace SF
open PySem PySem.Spec PyProof.Rows L2
abbrev ga := He.ga
abbrev Fg := PySem.W.Frag
/-- all that is tracked in H stands in H' -/
def Ex (H H' : Hp) : Prop := ∀ a o, H a = some o → H' a = some o
theorem Ex.refl (H : Hp) : Ex H H := fun _ _ h => h
theorem Ex.trans {H H1 H2 : Hp} (a : Ex H H1) (b : Ex H1 H2) : Ex H H2 := fun x o h => b x o (a x o h)
theorem Ex.new {H : Hp} {p : Addr} {o : HO} (h : H p = none) : Ex H (upd H p o) := fun _ u e => by rw [upd_ne (ne_of_none e h)]; exact e
theorem Ex.mut {H H' : Hp} {p : Addr} {o : HO} (e : Ex H H') (h : H p = none) : Ex H (upd H' p o) := fun a u ha => by rw [upd_ne (ne_of_none ha h)]; exact e a u ha
theorem Ex.free {H H' : Hp} {p : Addr} (e : Ex H H') (h : H' p = none) : H p = none := by
  cases q : H p with
  | none => rfl
  | some o => rw [e p o q] at h; cases h
theorem ex_l {K : Fg} {H H' : Hp} {a : Addr} {xs : List V} (e : Ex H H') (h : SqL K H a xs) : SqL K H' a xs := by
  rcases h with (h | ⟨o, h⟩) | h
  · exact .inl (.inl (e _ _ h))
  · exact .inl (.inr ⟨o, e _ _ h⟩)
  · exact .inr h

/-! ### data and what stands for it -/
mutual
def Rp (S : Hp) : PyData → V → Prop
  | .none, v => v = .non
  | .bool b, v => v = .bl b
  | .int i, v => v = .int i
  | .str z, v => v = .str z
  | .list ds, v => ∃ a xs, v = .ref a ∧ S a = some (.lst xs) ∧ Rps S ds xs
  | .tuple ds, v => ∃ a xs, v = .ref a ∧ S a = some (.tup xs) ∧ Rps S ds xs
  | .dict _, v => ∃ a es, v = .ref a ∧ S a = some (.dK es)
def Rps (S : Hp) : List PyData → List V → Prop
  | [], xs => xs = []
  | d :: ds, xs => ∃ v vs, xs = v :: vs ∧ Rp S d v ∧ Rps S ds vs
end
mutual
theorem Rp.mono {S S' : Hp} (e : Ex S S') : ∀ (d : PyData) (v : V), Rp S d v → Rp S' d v
  | .none, _, h => by unfold Rp at h ⊢; exact h
  | .bool _, _, h => by unfold Rp at h ⊢; exact h
  | .int _, _, h => by unfold Rp at h ⊢; exact h
  | .str _, _, h => by unfold Rp at h ⊢; exact h
  | .list ds, _, h => by
    unfold Rp at h ⊢
    obtain ⟨a, xs, rfl, h1, h2⟩ := h
    exact ⟨a, xs, rfl, e _ _ h1, Rps.mono e ds xs h2⟩
  | .tuple ds, _, h => by
    unfold Rp at h ⊢
    obtain ⟨a, xs, rfl, h1, h2⟩ := h
    exact ⟨a, xs, rfl, e _ _ h1, Rps.mono e ds xs h2⟩
  | .dict _, _, h => by
    unfold Rp at h ⊢
    obtain ⟨a, es, rfl, h1⟩ := h
    exact ⟨a, es, rfl, e _ _ h1⟩
theorem Rps.mono {S S' : Hp} (e : Ex S S') : ∀ (ds : List PyData) (xs : List V), Rps S ds xs → Rps S' ds xs
  | [], _, h => by unfold Rps at h ⊢; exact h
  | d :: ds, _, h => by
    unfold Rps at h ⊢
    obtain ⟨v, vs, rfl, h1, h2⟩ := h
    exact ⟨v, vs, rfl, Rp.mono e d v h1, Rps.mono e ds vs h2⟩
end
section
variable {S S' H : Hp} {d : PyData} {ds es : List PyData} {v : V} {xs ys : List V} {a : Addr}
theorem Rp.up (h : Rp S d v) (e : Ex S S') : Rp S' d v := Rp.mono e d v h
theorem Rps.up (h : Rps S ds xs) (e : Ex S S') : Rps S' ds xs := Rps.mono e ds xs h
theorem Rps.nil : Rps S [] [] := by unfold Rps; rfl
theorem Rps.cons (h : Rp S d v) (t : Rps S ds xs) : Rps S (d :: ds) (v :: xs) := by unfold Rps; exact ⟨v, xs, rfl, h, t⟩
theorem Rps.cons' (h : Rps S (d :: ds) xs) : ∃ v vs, xs = v :: vs ∧ Rp S d v ∧ Rps S ds vs := by unfold Rps at h; exact h
theorem Rps.nil' (h : Rps S [] xs) : xs = [] := by unfold Rps at h; exact h
theorem Rps.length : ∀ {ds : List PyData} {xs : List V}, Rps S ds xs → xs.length = ds.length
  | [], _, h => by rw [h.nil']; rfl
  | d :: ds, _, h => by
    obtain ⟨v, vs, rfl, _, h2⟩ := h.cons'
    rw [List.length_cons, List.length_cons, h2.length]
theorem Rps.get : ∀ {ds : List PyData} {xs : List V} {i : Nat} {d : PyData}, Rps S ds xs → ds[i]? = some d → ∃ v, xs[i]? = some v ∧ Rp S d v
  | [], _, i, d, _, e => by simp at e
  | d0 :: ds, _, 0, d, h, e => by
    obtain ⟨v, vs, rfl, h1, _⟩ := h.cons'
    simp at e
    subst e
    exact ⟨v, by simp, h1⟩
  | d0 :: ds, _, i + 1, d, h, e => by
    obtain ⟨v, vs, rfl, _, h2⟩ := h.cons'
    obtain ⟨u, e1, e2⟩ := Rps.get (i := i) h2 (by simpa using e)
    exact ⟨u, by simpa using e1, e2⟩
theorem Rps.get' {i : Nat} (h : Rps S ds xs) (e : xs[i]? = some v) : ∃ d, ds[i]? = some d ∧ Rp S d v := by
  have hl := h.length
  obtain ⟨hi, _⟩ := List.getElem?_eq_some_iff.mp e
  have hd : ds[i]? = some ds[i] := List.getElem?_eq_getElem (by omega)
  obtain ⟨u, e1, r⟩ := h.get hd
  rw [e] at e1
  cases e1
  exact ⟨_, hd, r⟩
theorem Rps.append : ∀ {ds es : List PyData} {xs ys : List V}, Rps S ds xs → Rps S es ys → Rps S (ds ++ es) (xs ++ ys)
  | [], _, _, _, h, t => by rw [h.nil']; exact t
  | d :: ds, _, _, _, h, t => by
    obtain ⟨v, vs, rfl, h1, h2⟩ := h.cons'
    exact .cons h1 (Rps.append h2 t)
theorem Rps.take : ∀ {ds : List PyData} {xs : List V} (n : Nat), Rps S ds xs → Rps S (ds.take n) (xs.take n)
  | _, _, 0, _ => by simp; exact .nil
  | [], _, n + 1, h => by rw [h.nil']; exact .nil
  | d :: ds, _, n + 1, h => by
    obtain ⟨v, vs, rfl, h1, h2⟩ := h.cons'
    exact .cons h1 (Rps.take n h2)
theorem Rps.drop : ∀ {ds : List PyData} {xs : List V} (n : Nat), Rps S ds xs → Rps S (ds.drop n) (xs.drop n)
  | _, _, 0, h => by simpa using h
  | [], _, n + 1, h => by rw [h.nil']; exact .nil
  | d :: ds, _, n + 1, h => by
    obtain ⟨v, vs, rfl, h1, h2⟩ := h.cons'
    exact Rps.drop n h2
theorem Rps.eraseIdx : ∀ {ds : List PyData} {xs : List V} (n : Nat), Rps S ds xs → Rps S (ds.eraseIdx n) (xs.eraseIdx n)
  | [], _, n, h => by rw [h.nil']; simp; exact .nil
  | d :: ds, _, 0, h => by
    obtain ⟨v, vs, rfl, h1, h2⟩ := h.cons'
    exact h2
  | d :: ds, _, n + 1, h => by
    obtain ⟨v, vs, rfl, h1, h2⟩ := h.cons'
    exact .cons h1 (Rps.eraseIdx n h2)
theorem Rp.non : Rp S .none .non := by unfold Rp; rfl
theorem Rp.bl (b : Bool) : Rp S (.bool b) (.bl b) := by unfold Rp; rfl
theorem Rp.int (i : Int) : Rp S (.int i) (.int i) := by unfold Rp; rfl
theorem Rp.str (z : Str) : Rp S (.str z) (.str z) := by unfold Rp; rfl
theorem Rp.lst (h : S a = some (.lst xs)) (t : Rps S ds xs) : Rp S (.list ds) (.ref a) := by unfold Rp; exact ⟨a, xs, rfl, h, t⟩
theorem Rp.tup (h : S a = some (.tup xs)) (t : Rps S ds xs) : Rp S (.tuple ds) (.ref a) := by unfold Rp; exact ⟨a, xs, rfl, h, t⟩
theorem Rp.dct {kvs : List (PyData × PyData)} {es : List (Key × V)} (h : S a = some (.dK es)) : Rp S (.dict kvs) (.ref a) := by unfold Rp; exact ⟨a, es, rfl, h⟩
theorem Rp.non' (h : Rp S .none v) : v = .non := by unfold Rp at h; exact h
theorem Rp.bl' {b : Bool} (h : Rp S (.bool b) v) : v = .bl b := by unfold Rp at h; exact h
theorem Rp.int' {i : Int} (h : Rp S (.int i) v) : v = .int i := by unfold Rp at h; exact h
theorem Rp.str' {z : Str} (h : Rp S (.str z) v) : v = .str z := by unfold Rp at h; exact h
theorem Rp.lst' (h : Rp S (.list ds) v) : ∃ a xs, v = .ref a ∧ S a = some (.lst xs) ∧ Rps S ds xs := by unfold Rp at h; exact h
theorem Rp.tup' (h : Rp S (.tuple ds) v) : ∃ a xs, v = .ref a ∧ S a = some (.tup xs) ∧ Rps S ds xs := by unfold Rp at h; exact h
theorem Rp.dct' {kvs : List (PyData × PyData)} (h : Rp S (.dict kvs) v) : ∃ a es, v = .ref a ∧ S a = some (.dK es) := by unfold Rp at h; exact h
theorem Rps.ints (ns : List Int) : Rps S (ns.map .int) (ns.map .int) := by
  induction ns with
  | nil => exact .nil
  | cons n r ih => exact .cons (.int n) ih
theorem Rps.ints' : ∀ {ns : List Int} {xs : List V}, Rps S (ns.map .int) xs → xs = ns.map .int
  | [], _, h => h.nil'
  | n :: r, _, h => by
    obtain ⟨v, vs, rfl, h1, h2⟩ := Rps.cons' (ds := r.map .int) h
    rw [h1.int', h2.ints']
    rfl
end

/-! ### the kinds of data -/
def tyD : PyData → String
  | .none => "NoneType" | .bool _ => "bool" | .int _ => "int" | .str _ => "str" | .list _ => "list" | .tuple _ => "tuple" | .dict _ => "dict"
def isIntD : PyData → Bool | .int _ => true | .bool _ => true | _ => false
def isBoolD : PyData → Bool | .bool _ => true | _ => false
def isStrD : PyData → Bool | .str _ => true | _ => false
def isSeqD : PyData → Bool | .list _ => true | .tuple _ => true | _ => false
def isTupD : PyData → Bool | .tuple _ => true | _ => false
def isLstD : PyData → Bool | .list _ => true | _ => false
theorem tyx_of {K : Fg} {S : Hp} : ∀ {d : PyData} {v : V}, Rp S d v → TyX K S v (.type (tyD d))
  | .none, _, h => by rw [h.non']; exact .base .non
  | .bool b, _, h => by rw [h.bl']; exact .base (.bl b)
  | .int i, _, h => by rw [h.int']; exact .base (.int i)
  | .str z, _, h => by rw [h.str']; exact .base (.str z)
  | .list ds, _, h => by obtain ⟨a, xs, rfl, h1, _⟩ := h.lst'; exact .base (.lst h1)
  | .tuple ds, _, h => by obtain ⟨a, xs, rfl, h1, _⟩ := h.tup'; exact .base (.tup h1)
  | .dict ds, _, h => by obtain ⟨a, xs, rfl, h1⟩ := h.dct'; exact .base (.dK h1)
theorem kit_int : ∀ d : PyData, kitB (tyD d) "int" = some (isIntD d)
  | .none => (by decide +kernel : kitB "NoneType" "int" = some false)
  | .bool _ => (by decide +kernel : kitB "bool" "int" = some true)
  | .int _ => (by decide +kernel : kitB "int" "int" = some true)
  | .str _ => (by decide +kernel : kitB "str" "int" = some false)
  | .list _ => (by decide +kernel : kitB "list" "int" = some false)
  | .tuple _ => (by decide +kernel : kitB "tuple" "int" = some false)
  | .dict _ => (by decide +kernel : kitB "dict" "int" = some false)
theorem kit_bool : ∀ d : PyData, kitB (tyD d) "bool" = some (isBoolD d)
  | .none => (by decide +kernel : kitB "NoneType" "bool" = some false)
  | .bool _ => (by decide +kernel : kitB "bool" "bool" = some true)
  | .int _ => (by decide +kernel : kitB "int" "bool" = some false)
  | .str _ => (by decide +kernel : kitB "str" "bool" = some false)
  | .list _ => (by decide +kernel : kitB "list" "bool" = some false)
  | .tuple _ => (by decide +kernel : kitB "tuple" "bool" = some false)
  | .dict _ => (by decide +kernel : kitB "dict" "bool" = some false)
theorem kit_str : ∀ d : PyData, kitB (tyD d) "str" = some (isStrD d)
  | .none => (by decide +kernel : kitB "NoneType" "str" = some false)
  | .bool _ => (by decide +kernel : kitB "bool" "str" = some false)
  | .int _ => (by decide +kernel : kitB "int" "str" = some false)
  | .str _ => (by decide +kernel : kitB "str" "str" = some true)
  | .list _ => (by decide +kernel : kitB "list" "str" = some false)
  | .tuple _ => (by decide +kernel : kitB "tuple" "str" = some false)
  | .dict _ => (by decide +kernel : kitB "dict" "str" = some false)
theorem kit_tup : ∀ d : PyData, kitB (tyD d) "tuple" = some (isTupD d)
  | .none => (by decide +kernel : kitB "NoneType" "tuple" = some false)
  | .bool _ => (by decide +kernel : kitB "bool" "tuple" = some false)
  | .int _ => (by decide +kernel : kitB "int" "tuple" = some false)
  | .str _ => (by decide +kernel : kitB "str" "tuple" = some false)
  | .list _ => (by decide +kernel : kitB "list" "tuple" = some false)
  | .tuple _ => (by decide +kernel : kitB "tuple" "tuple" = some true)
  | .dict _ => (by decide +kernel : kitB "dict" "tuple" = some false)
theorem kit_lst : ∀ d : PyData, kitB (tyD d) "list" = some (isLstD d)
  | .none => (by decide +kernel : kitB "NoneType" "list" = some false)
  | .bool _ => (by decide +kernel : kitB "bool" "list" = some false)
  | .int _ => (by decide +kernel : kitB "int" "list" = some false)
  | .str _ => (by decide +kernel : kitB "str" "list" = some false)
  | .list _ => (by decide +kernel : kitB "list" "list" = some true)
  | .tuple _ => (by decide +kernel : kitB "tuple" "list" = some false)
  | .dict _ => (by decide +kernel : kitB "dict" "list" = some false)
section
variable {K : Fg} {H : Hp} {d : PyData} {v : V} {Q : VK}
theorem rIsi_int (h : Rp H d v) (q : Q (.bl (isIntD d)) H) : rIsi K [v, .ty "int"] H Q := ⟨v, _, _, _, _, rfl, .ty "int", tyx_of h, kit_ty (kit_int d), q⟩
theorem rIsi_bool (h : Rp H d v) (q : Q (.bl (isBoolD d)) H) : rIsi K [v, .ty "bool"] H Q := ⟨v, _, _, _, _, rfl, .ty "bool", tyx_of h, kit_ty (kit_bool d), q⟩
theorem rIsi_str (h : Rp H d v) (q : Q (.bl (isStrD d)) H) : rIsi K [v, .ty "str"] H Q := ⟨v, _, _, _, _, rfl, .ty "str", tyx_of h, kit_ty (kit_str d), q⟩
theorem rIsi_tup (h : Rp H d v) (q : Q (.bl (isTupD d)) H) : rIsi K [v, .ty "tuple"] H Q := ⟨v, _, _, _, _, rfl, .ty "tuple", tyx_of h, kit_ty (kit_tup d), q⟩
theorem kitAny2 {t c1 c2 : Value} {b1 b2 : Bool} (h1 : PySem.W.kitOne K t c1 = some b1) (h2 : PySem.W.kitOne K t c2 = some b2) : PySem.W.kitAny K t [c1, c2] = some (b1 || b2) := by
  cases b1
  · refine kitAny_cons h1 (fun _ => ?_) (fun z => nomatch z)
    cases b2
    · exact kitAny_cons h2 (fun _ => kitAny_nil) (fun z => nomatch z)
    · exact kitAny_cons h2 (fun z => nomatch z) (fun _ => rfl)
  · exact kitAny_cons h1 (fun z => nomatch z) (fun _ => rfl)
theorem seq_or (d : PyData) : (isLstD d || isTupD d) = isSeqD d := by cases d <;> rfl
theorem rIsiT_seq {p : Addr} (h : Rp H d v) (hp : H p = none) (q : Q (.bl (isSeqD d)) (upd H p (.tup [.ty "list", .ty "tuple"]))) : rIsiT K [v, .ref p] (upd H p (.tup [.ty "list", .ty "tuple"])) Q := by
  rw [← seq_or] at q
  exact ⟨v, p, _, _, _, _, rfl, upd_same, .cons (.ty "list") (.cons (.ty "tuple") .nil), tyx_of (h.up (Ex.new hp)), kitAny2 (kit_ty (kit_lst d)) (kit_ty (kit_tup d)), q⟩
end

/-! ### heaps: a new object, an owned one changed -/
theorem ex_new {H : Hp} {p : Addr} {o : HO} (hp : H p = none) {G : Hp → Prop} (k : ∀ H1, Ex H H1 → H1 p = some o → G H1) : G (upd H p o) := k _ (Ex.new hp) upd_same
theorem ne_free {H : Hp} {a p : Addr} {o : HO} (h : H a = some o) (hp : H p = none) : a ≠ p := ne_of_none h hp
/-- all but a stands -/
def But (a : Addr) (H H' : Hp) : Prop := ∀ b o, b ≠ a → H b = some o → H' b = some o
theorem But.upd {a : Addr} {H : Hp} {o : HO} : But a H (upd H a o) := fun b u hb e => by rw [upd_ne hb]; exact e
theorem But.of {a : Addr} {H H' : Hp} (e : Ex H H') : But a H H' := fun b u _ h => e b u h
theorem But.trans {a : Addr} {H H1 H2 : Hp} (x : But a H H1) (y : But a H1 H2) : But a H H2 := fun b u hb e => y b u hb (x b u hb e)
/-- S stands apart from a -/
theorem But.ex {a : Addr} {S H H' : Hp} (b : But a H H') (e : Ex S H) (ha : S a = none) : Ex S H' := fun c o h => b c o (ne_of_none h ha) (e c o h)

/-! ### operators and calls by short names -/
abbrev oAdd : R2 := rI0 fun i j => .int (i + j)
abbrev oSub : R2 := rI0 fun i j => .int (i - j)
abbrev oMul : R2 := rI CMul fun i j => .int (i * j)
abbrev oMod : R2 := rI (fun _ j => 0 < j) fun i j => .int (i % j)
abbrev oFdiv : R2 := rI CDiv fun i j => .int (i / j)
abbrev oPow : R2 := rI CPow fun i j => .int (i ^ j.toNat)
abbrev oLt : R2 := rI0 fun i j => .bl (decide (i < j))
abbrev oLe : R2 := rI0 fun i j => .bl (decide (i ≤ j))
abbrev oGt : R2 := rI0 fun i j => .bl (decide (j < i))
abbrev oGe : R2 := rI0 fun i j => .bl (decide (j ≤ i))
abbrev oIsN : R2 := fun x y H Q => y = .non ∧ Q (.bl (decide (x = .non))) H
abbrev oNotN : R2 := fun x y H Q => y = .non ∧ Q (.bl (!decide (x = .non))) H
abbrev rNeg : V → Hp → VK → Prop := rU fun i => .int (-i)
abbrev rInt1 : List V → Hp → VK → Prop := fun xs H Q => (∃ i, xs = [.int i] ∧ Q (.int i) H) ∨ ∃ k, xs = [.bl k] ∧ Q (.int (if k then 1 else 0)) H
abbrev rAbs : List V → Hp → VK → Prop := fun xs H Q => ∃ i, xs = [.int i] ∧ Q (.int (if i < 0 then -i else i)) H
abbrev rMin2 : List V → Hp → VK → Prop := fun xs H Q => ∃ i j, xs = [.int i, .int j] ∧ Q (.int (if j < i then j else i)) H
abbrev rLenQ (K : Fg) : List V → Hp → VK → Prop := fun xs H Q => ∃ p ys, xs = [.ref p] ∧ (SqL K H p ys ∨ SqT K H p ys) ∧ Q (.int ys.length) H
abbrev rLenD : List V → Hp → VK → Prop := fun xs H Q => ∃ a kvs, xs = [V.ref a] ∧ H a = some (.dK kvs) ∧ Q (.int kvs.length) H
abbrev rListQ (K : Fg) : List V → Hp → VK → Prop := fun xs H Q => ∃ p ys, xs = [.ref p] ∧ (SqL K H p ys ∨ SqT K H p ys) ∧ ∀ l, H l = none → Q (.ref l) (upd H l (.lst ys))
abbrev rTupQ (K : Fg) : List V → Hp → VK → Prop := fun xs H Q => ∃ p ys, xs = [.ref p] ∧ ((SqL K H p ys ∧ ∀ l, H l = none → Q (.ref l) (upd H l (.tup ys))) ∨ (SqT K H p ys ∧ Q (.ref p) H))
abbrev rIxQ (K : Fg) : R2 := fun x y H Q => rIxL K x y H Q ∨ rIxT K x y H Q

theorem pe_globI {X : Cx} {x : Str} {i : Int} {pos : Pos} (h : ∃ t, X.mg x = some (.int i t)) (hg : Gl X x := by rfl) (hd : (x == ("__debug__" : Str)) = false := by decide) : PE X (.Name x pos) (tC (.int i)) := by
  obtain ⟨t, h⟩ := h
  exact pe_glob (v := .int i) hg h ⟨t, rfl⟩ hd
/-! ### a def by its name -/
structure Has (P : Program) (w : World) (K : Fg) (mg : Str → Option Value) (base : Heap) (k : Nat) (x : Str) (ps : List Str) (D : List (List V)) (sp : Sp) : Prop where
  g : mg x = some (.ref (ga K x))
  kp : PySem.W.keepIn K (.ref (ga K x)) = true
  ok : ∃ fd, FnOk P w K mg base (L2.CX P w) k (ga K x) fd ps sp ∧ ∀ dv, dv ∈ D → ∃ ds, Binds K fd ps ds ∧ Vals dv ds
section
variable {X : Cx} {x : Str} {k j : Nat} {ps : List Str} {D : List (List V)} {dvs : List V} {sp : Sp} {E : XK} {e : Expr} {es : List Expr} {t : TA} {p pos : Pos}
theorem pe_has (h : Has X.prog X.w X.K X.mg X.base k x ps D sp) (hr : Room j X.A) (hx : Passes (L2.CX X.prog X.w) X E) (ha : PA X (e :: es) t) (hg : Gl X x := by rfl) (hD : dvs ∈ D := by simp) (hk : k ≤ j := by decide) (hdb : (x == ("__debug__" : Str)) = false := by decide)
    (he : starEach (e :: es) X.env = (false, eval e X.env) :: starEach es X.env := by rfl) (hpl : (backTo pos (starEach es X.env)).any (·.1) = false := by rfl) :
    PE X (.Call (.Name x p) (e :: es) [] pos) (tCall sp dvs E t) := by
  obtain ⟨fd, F, b⟩ := h.ok
  obtain ⟨ds, b1, b2⟩ := b _ hD
  exact pe_call F (hr.mono hk) hg h.g h.kp b1 b2 hx ha hdb he hpl
theorem pe_hasS {E : L2.St → XK} (h : Has X.prog X.w X.K X.mg X.base k x ps D sp) (hr : Room j X.A) (hx : ∀ σ, PassesAt (L2.CX X.prog X.w) X σ (E σ)) (ha : PA X (e :: es) t) (hg : Gl X x := by rfl) (hD : dvs ∈ D := by simp) (hk : k ≤ j := by decide) (hdb : (x == ("__debug__" : Str)) = false := by decide)
    (he : starEach (e :: es) X.env = (false, eval e X.env) :: starEach es X.env := by rfl) (hpl : (backTo pos (starEach es X.env)).any (·.1) = false := by rfl) :
    PE X (.Call (.Name x p) (e :: es) [] pos) (tCallSD sp dvs E t) := by
  obtain ⟨fd, F, b⟩ := h.ok
  obtain ⟨ds, b1, b2⟩ := b _ hD
  exact pe_callSD F (hr.mono hk) hg h.g h.kp b1 b2 hx ha hdb he hpl
end
end SF

/-! SF1: exceptions made and caught by the names of their classes; sequences walked whatever their kind. -/
namespace SF
open PySem PySem.Spec PyProof.Rows L2
/-! ### what an __init__ that stores its parameters promises -/
def exFs (fields : List Str) (ws : List V) : List (Str × V) := (fields.zip ws).reverse
def sp_exI (C : Addr) (fields : List Str) : Sp := fun vs H Q _ => ∃ (a : Addr) (ws : List V), vs = .ref a :: ws ∧ ws.length = fields.length ∧ H a = some (exo a C none) ∧
  ∀ d, H d = none → d ≠ a → Q .non (upd (upd H a (exo a C (some d))) d (exd d (exFs fields ws)))
structure ExHas (P : Program) (w : World) (K : Fg) (mg : Str → Option Value) (base : Heap) (x : Str) (fields : List Str) : Prop where
  oex : OexC K (ga K x)
  g : mg x = some (.ref (ga K x))
  iC : PySem.W.findIn K (.ref (ga K x)) "__init__" = some (some (.ref (He.ma K (ga K x) "__init__")))
  tI : PySem.W.typeIn K (.ref (He.ma K (ga K x) "__init__")) = some (.type "function")
  ok : ∃ fd, FnOk P w K mg base (L2.CX P w) 1 (He.ma K (ga K x) "__init__") fd ("self" :: fields) (sp_exI (ga K x) fields) ∧ Binds K fd ("self" :: fields) []
def tRaiseF (C : Addr) (fields : List Str) (E : XK) (ta : TA) : TS := fun _ σ H => ta σ H fun vs H1 => vs.length = fields.length ∧ ∀ d, H1 d = none → E (.ref C) (some d) (upd H1 d (.xd (exFs fields vs)))
section
variable {X : Cx} {x : Str} {j : Nat} {fields : List Str} {e : Expr} {es : List Expr} {ta : TA} {p pos : Pos}
/-- the closure of an argument list's reading -/
theorem PA.up {es : List Expr} (h : PA X es ta) : PA X es (fun σ H Q => ∃ k, ta σ H k ∧ ∀ vs H1, k vs H1 → Q vs H1) := by
  refine ⟨fun pos pins s σ H Q I ⟨k, h1, h2⟩ => thn (h.run pos pins s σ H k I h1) fun us s1 ⟨vs, H1, I1, r, q⟩ => ⟨vs, H1, I1, r, h2 _ _ q⟩⟩
theorem pmk_has (h : ExHas X.prog X.w X.K X.mg X.base x fields) (hr : Room j X.A) (ha : PA X (e :: es) ta) (hg : Gl X x := by rfl) (hk : 2 ≤ j := by decide) (hf : fields.length ≤ 900 := by decide)
    (hdb : (x == ("__debug__" : Str)) = false := by decide) (he : starEach (e :: es) X.env = (false, eval e X.env) :: starEach es X.env := by rfl) (hpl : (backTo pos (starEach es X.env)).any (·.1) = false := by rfl) :
    PMk X (.Call (.Name x p) (e :: es) [] pos) (fun σ H Q => ta σ H fun vs H1 => vs.length = fields.length ∧ ∀ d, H1 d = none → Q (.ref (ga X.K x)) (some d) (upd H1 d (.xd (exFs fields vs)))) := by
  obtain ⟨fd, F, b⟩ := h.ok
  have Z := pmk_oex (p := p) (pos := pos) (dvs := []) (ds := []) h.oex h.iC h.tI F (hr.mono hk) b .nil passL hg h.g (PA.up ha) hdb he hpl
  intro pins s σ H Q I q
  refine Z pins s σ H Q I ⟨_, q, fun vs H1 ⟨hl, q1⟩ => ⟨by omega, fun a hn => ?_⟩⟩
  refine ⟨a, vs ++ [], rfl, by simpa using hl, upd_same, fun d hd hda => ?_⟩
  have hd1 : H1 d = none := by rw [upd_ne hda] at hd; exact hd
  refine ⟨rfl, d, exFs fields vs, ?_, ?_, hd1, ?_⟩
  · rw [upd_ne (Ne.symm hda), upd_same]
  · rw [upd_same, List.append_nil]
  · have q2 := q1 d hd1
    have e1 : upd (del (upd (upd (upd H1 a (exo a (ga X.K x) none)) a (exo a (ga X.K x) (some d))) d (exd d (exFs fields (vs ++ [])))) a) d (.xd (exFs fields vs)) = upd H1 d (.xd (exFs fields vs)) := by
      funext b
      by_cases h1 : b = d
      · rw [h1, upd_same, upd_same]
      · rw [upd_ne h1, upd_ne h1]
        by_cases h2 : b = a
        · rw [h2, del_same, hn]
        · rw [del_ne h2, upd_ne h1, upd_ne h2, upd_ne h2]
    rw [e1]
    exact q2
/-! ### the readings of such an __init__ (self in slot 0, the parameters behind it) -/
abbrev tvar (i : Nat) : TE := fun σ H Q => ∃ v, σ[i]? = some (some v) ∧ Q v H
section
variable {K : Fg} {C : Addr} {f1 f2 : Str} {vs : List V} {H : Hp} {Q : VK} {E : XK} {N : List Str}
theorem rd_exI1 (oex : OexC K C) (n1 : PySem.W.findIn K (.ref C) f1 = some none) (h : sp_exI C [f1] vs H Q E) : tOst K f1 (tvar 0) (tvar 1) { nx := fun _ H' => Q .non H', rt := Q } (start N vs) H := by
  obtain ⟨a, ws, rfl, hl, ha, k⟩ := h
  match ws, hl with
  | [w1], _ =>
    refine ⟨_, rfl, _, rfl, a, C, rfl, oex, n1, .inl ⟨ha, fun dx hd hda => ?_⟩⟩
    have e : upd (upd H dx (exd dx [(f1, w1)])) a (exo a C (some dx)) = upd (upd H a (exo a C (some dx))) dx (exd dx (exFs [f1] [w1])) := by
      funext b
      by_cases h1 : b = a
      · subst h1; rw [upd_same, upd_ne (Ne.symm hda), upd_same]
      · rw [upd_ne h1]
        by_cases h2 : b = dx
        · subst h2; rw [upd_same, upd_same]; rfl
        · rw [upd_ne h2, upd_ne h2, upd_ne h1]
    rw [e]
    exact k dx hd hda
theorem rd_exI2 (oex : OexC K C) (n1 : PySem.W.findIn K (.ref C) f1 = some none) (n2 : PySem.W.findIn K (.ref C) f2 = some none) (h : sp_exI C [f1, f2] vs H Q E) :
    tSeq (tOst K f1 (tvar 0) (tvar 1)) (tOst K f2 (tvar 0) (tvar 2)) { nx := fun _ H' => Q .non H', rt := Q } (start N vs) H := by
  obtain ⟨a, ws, rfl, hl, ha, k⟩ := h
  match ws, hl with
  | [w1, w2], _ =>
    refine ⟨_, rfl, _, rfl, a, C, rfl, oex, n1, .inl ⟨ha, fun dx hd hda => ?_⟩⟩
    refine ⟨_, rfl, _, rfl, a, C, rfl, oex, n2, .inr ⟨dx, [(f1, w1)], upd_same, by rw [upd_ne hda, upd_same], (by show 1 ≤ 900; decide), ?_⟩⟩
    have e : upd (upd (upd H dx (exd dx [(f1, w1)])) a (exo a C (some dx))) dx (exd dx [(f2, w2), (f1, w1)]) = upd (upd H a (exo a C (some dx))) dx (exd dx (exFs [f1, f2] [w1, w2])) := by
      funext b
      by_cases h2 : b = dx
      · subst h2; rw [upd_same, upd_same]; rfl
      · rw [upd_ne h2, upd_ne h2]
        by_cases h1 : b = a
        · subst h1; rw [upd_same, upd_same]
        · rw [upd_ne h1, upd_ne h2, upd_ne h1]
    rw [e]
    exact k dx hd hda
end
/-! ### a list or a tuple, walked -/
theorem pi_seqQ {tg l : Expr} {tl : TE} (hl : PE X l tl) : PI X tg l (fun σ H R => tl σ H fun x H1 => ∃ a, x = .ref a ∧ (((∃ xs, SqL X.K H1 a xs) ∧ R (Itl X.K a) H1) ∨ ((∃ xs, SqT X.K H1 a xs) ∧ R (Itt X.K a) H1))) := by
  refine ⟨fun pins s σ H R I h => thn (hl.run pins s σ H _ I h) fun v s1 ⟨x, H1, I1, r1, a, ex, q⟩ => ?_⟩
  subst ex
  cases r1
  rcases q with ⟨⟨xs, hq⟩, q⟩ | ⟨⟨xs, hq⟩, q⟩
  · obtain ⟨its, rv, pl, hz⟩ := I1.list hq
    refine wpAny_pyIter_list pl.isList ⟨s1.heap.objs.size, [s1.heap.objs.size], _, _, H1, rfl, I1.kept (t' := s1.toks) fun b o e => Heap.get?_push_of_some _ e, turn_list a _, ⟨_, Heap.get?_push_size _ rfl, rfl, rfl⟩, fun b hb => ?_, q⟩
    cases List.mem_singleton.mp hb
    exact I1.fpOk (Nat.le_refl _) (I1.hok.fresh (Nat.le_refl _))
  · obtain ⟨its, rv, pl, hz⟩ := I1.tuple hq
    have pl2 : s1.heap.IsTuple a its.toArray := pl
    refine wpAny_pyIter_tuple pl2 ⟨s1.heap.objs.size, [s1.heap.objs.size], _, _, H1, rfl, I1.kept (t' := s1.toks) fun b o e => Heap.get?_push_of_some _ e, turn_tuple a _, ⟨_, Heap.get?_push_size _ rfl, rfl, rfl⟩, fun b hb => ?_, q⟩
    cases List.mem_singleton.mp hb
    exact I1.fpOk (Nat.le_refl _) (I1.hok.fresh (Nat.le_refl _))
end
/-! ### isinstance of the error that a suite holds, its dict beside it -/
structure XcC (K : Fg) (D : Addr) : Prop where
  hcl : (PySem.W.clsIn K D).isSome = true
  hg : PySem.W.findIn K (.ref D) "__getattribute__" = some (some (.builtin "BaseException.__getattribute__"))
  hk : PySem.W.findIn K (.ref D) "__getattr__" = some none
  hs : PySem.W.subIn K (.ref D) (.type "BaseException") = some true
  ha : PySem.W.findIn K (.ref D) "__class__" = some (some (.builtin "object.__class__"))
  hn : PySem.W.specialIn K (.builtin "object.__class__") "__get__" = some (some (.builtin "getset_descriptor.__get__"))
  ht : PySem.W.takesIn K (.builtin "object.__class__") = some true
  hm : PySem.W.mroIn K D (.type "object") = some true
def rIsED (K : Fg) (D a : Addr) (cls : Value) (d : Option Addr) : List V → Hp → VK → Prop := fun xs H Q => ∃ (c : V) (cv : Value) (b : Bool) (dd : Addr) (fs : List (Str × V)),
  xs = [.ref a, c] ∧ cls = .ref D ∧ d = some dd ∧ H dd = some (.xd fs) ∧ (∀ u, RelV c u → u = cv) ∧ PySem.W.kitOne K (.ref D) cv = some b ∧ Q (.bl b) H
theorem call_isED {X : Cx} {a D : Addr} {oe : Obj} {cls : Value} {d : Option Addr} {pn : List (Addr × Obj)} (C : XcC X.K D) (hz : Zc cls d oe) (hf : ∃ vs, oe.data = .fields vs) :
    CallR (X.suite a ((a, oe) :: pn)) (.builtin "isinstance") (rIsED X.K D a cls d) := by
  intro pins s σ H xs us Q I r h
  obtain ⟨c, cv, b, dd, fs, rfl, rfl, rfl, hdd, hcv, e, q⟩ := h
  obtain ⟨u1, u2, rfl, r1, r2⟩ := vals2 r
  cases (show u1 = Value.ref a from r1)
  cases hcv _ r2
  obtain ⟨hget, _⟩ := I.pin (a, oe) (List.mem_append.mpr (.inl List.mem_cons_self))
  obtain ⟨mA, hns, _⟩ := (show ObjOk (X.suite a ((a, oe) :: pn)).prog (X.suite a ((a, oe) :: pn)).w H s.heap dd (.xd fs) from I.hok dd _ hdd)
  obtain ⟨od, ho, _⟩ := lookIn_ns hns
  obtain ⟨vs, hv⟩ := hf
  obtain ⟨z1, z2⟩ := hz
  have J : PySem.W.InstAt s.heap a oe D (some od) := ⟨hget, z1, by unfold PySem.W.notCls; rw [hv] <;> rfl, by rw [z2]; exact ho⟩
  exact PySem.W.kia_one (PySem.W.kitx_exc C.hcl C.hg C.hk C.hs C.ha C.hn C.ht C.hm) I.kIn J e (fun z => nomatch z) fun tk => ⟨.bl b, H, I.kept (t' := tk) fun _ _ z => z, rfl, q⟩
end SF

/-! SF2: short ways through readings: tests, loops over data, stores. -/
namespace SF
open PySem L2
theorem iteB {c : Bool} {A B : Prop} (h1 : c = true → A) (h2 : c = false → B) : if c = true then A else B := by
  cases c
  · exact h2 rfl
  · exact h1 rfl
theorem ifT {c : Bool} {A B : Prop} (h : c = true) (a : A) : if c = true then A else B := by rw [if_pos h]; exact a
theorem ifF {c : Bool} {A B : Prop} (h : c = false) (b : B) : if c = true then A else B := by rw [h]; exact iteF b
theorem ifNT {c : Bool} {A B : Prop} (h : c = false) (a : A) : if (!c) = true then A else B := by rw [h]; exact iteT a
theorem ifNF {c : Bool} {A B : Prop} (h : c = true) (b : B) : if (!c) = true then A else B := by rw [h]; exact iteF b
theorem iteN {c : Bool} {A B : Prop} (h1 : c = false → A) (h2 : c = true → B) : if (!c) = true then A else B := by
  cases c
  · exact iteT (h1 rfl)
  · exact iteF (h2 rfl)
/-- a decided test -/
theorem iteD {p : Prop} [Decidable p] {A B : Prop} (h1 : p → A) (h2 : ¬ p → B) : if decide p = true then A else B := iteB (fun c => h1 (of_decide_eq_true c)) fun c => h2 (of_decide_eq_false c)
theorem iteND {p : Prop} [Decidable p] {A B : Prop} (h1 : ¬ p → A) (h2 : p → B) : if (!decide p) = true then A else B := iteN (fun c => h1 (of_decide_eq_false c)) fun c => h2 (of_decide_eq_true c)
def itemsD : PyData → List PyData | .list ds => ds | .tuple ds => ds | _ => []
section
variable {K : Fg} {H S : Hp} {d : PyData} {ds : List PyData} {v : V} {xs : List V} {a : Addr} {g : TG} {tb : TS} {D : Ends} {σ : St}
theorem seq_of (h : Rp H d v) (hs : isSeqD d = true) : ∃ a xs, v = .ref a ∧ (H a = some (.lst xs) ∨ H a = some (.tup xs)) ∧ Rps H (itemsD d) xs := by
  cases d <;> first | cases hs | skip
  · obtain ⟨a, xs, rfl, h1, h2⟩ := h.lst'; exact ⟨a, xs, rfl, .inl h1, h2⟩
  · obtain ⟨a, xs, rfl, h1, h2⟩ := h.tup'; exact ⟨a, xs, rfl, .inr h1, h2⟩
theorem SqQ.of {H' : Hp} (h : H a = some (.lst xs) ∨ H a = some (.tup xs)) (e : Ex H H') : SqL K H' a xs ∨ SqT K H' a xs := h.elim (fun h => .inl (.of (e _ _ h))) fun h => .inr (.of (e _ _ h))
theorem at_nat {xs : List V} {i : Nat} {v : V} (h : xs[i]? = some v) : atI xs (i : Int) = some v := atI_nat h
/-- an item of a list or a tuple -/
theorem ixQ {H' : Hp} {i : Int} {Q : VK} (h : H a = some (.lst xs) ∨ H a = some (.tup xs)) (e : Ex H H') (hi : atI xs i = some v) (q : Q v H') : rIxQ K (.ref a) (.int i) H' Q := by
  rcases h with h | h
  · exact .inl ⟨a, xs, i, v, rfl, rfl, .of (e _ _ h), hi, q⟩
  · exact .inr ⟨a, xs, i, v, rfl, rfl, .of (e _ _ h), hi, q⟩
theorem lenQ {H' : Hp} {Q : VK} (h : H a = some (.lst xs) ∨ H a = some (.tup xs)) (e : Ex H H') (q : Q (.int xs.length) H') : rLenQ K [.ref a] H' Q := ⟨a, xs, rfl, SqQ.of h e, q⟩
/-- for x in a sequence that stays, whatever its kind -/
theorem for_seqQ (hv : H a = some (.lst xs) ∨ H a = some (.tup xs)) (Pv : Nat → St → Hp → Prop) (h0 : Pv 0 σ H) (hx : ∀ i σ H', Pv i σ H' → Ex H H')
    (hs : ∀ i x σ H', xs[i]? = some x → Pv i σ H' → g x σ H' fun σ2 H2 => tb { D with nx := Pv (i + 1), ct := Pv (i + 1), bk := D.nx } σ2 H2) (hd : ∀ σ H', Pv xs.length σ H' → D.nx σ H') :
    ∃ a', V.ref a = .ref a' ∧ (((∃ xs, SqL K H a' xs) ∧ ∃ W : Nat → Nat → St → Hp → Prop, (∃ m, W 0 m σ H) ∧ ∀ i m σ H, W i m σ H → ((Itl K a').stop i H ∧ D.nx σ H) ∨ ((Itl K a').go i H ∧ ∃ N : St → Hp → Prop, (∀ σ' H', N σ' H' → ∃ m', m' < m ∧ W (i + 1) m' σ' H') ∧ ∀ x H', (Itl K a').yld i H x H' → g x σ H' fun σ2 H2 => tb { D with nx := N, ct := N, bk := D.nx } σ2 H2)) ∨
      ((∃ xs, SqT K H a' xs) ∧ ∃ W : Nat → Nat → St → Hp → Prop, (∃ m, W 0 m σ H) ∧ ∀ i m σ H, W i m σ H → ((Itt K a').stop i H ∧ D.nx σ H) ∨ ((Itt K a').go i H ∧ ∃ N : St → Hp → Prop, (∀ σ' H', N σ' H' → ∃ m', m' < m ∧ W (i + 1) m' σ' H') ∧ ∀ x H', (Itt K a').yld i H x H' → g x σ H' fun σ2 H2 => tb { D with nx := N, ct := N, bk := D.nx } σ2 H2))) := by
  refine ⟨a, rfl, ?_⟩
  rcases hv with hv | hv
  · exact .inl ⟨⟨_, .of hv⟩, for_list (K := K) (a := a) (xs := xs) Pv h0 (fun i σ H' _ p => .of (hx i σ H' p _ _ hv)) hs hd⟩
  · exact .inr ⟨⟨_, .of hv⟩, for_tup (K := K) (a := a) (xs := xs) Pv h0 (fun i σ H' _ p => .of (hx i σ H' p _ _ hv)) hs hd⟩
end
/-! ### what is owned: objects that may still change, apart from all that stands in S -/
structure Owns (S H : Hp) (l : List (Addr × HO)) : Prop where
  ex : Ex S H
  nd : (l.map (·.1)).Nodup
  here : ∀ p ∈ l, H p.1 = some p.2
  off : ∀ p ∈ l, S p.1 = none
section
variable {S S' H H' : Hp} {l l' : List (Addr × HO)} {a : Addr} {o o' : HO}
theorem Owns.none (S : Hp) : Owns S S [] := ⟨Ex.refl S, List.nodup_nil, (fun _ h => by cases h), (fun _ h => by cases h)⟩
theorem Owns.get (w : Owns S H l) (i : Nat) (h : l[i]? = some (a, o) := by rfl) : H a = some o := w.here _ (List.mem_of_getElem? h)
theorem Owns.offA (w : Owns S H l) (i : Nat) (h : l[i]? = some (a, o) := by rfl) : S a = .none := w.off _ (List.mem_of_getElem? h)
theorem Owns.call (w : Owns S H l) (e : Ex H H') : Owns S H' l := ⟨w.ex.trans e, w.nd, fun p hp => e _ _ (w.here p hp), w.off⟩
theorem Owns.base {B : Hp} (w : Owns S H l) (e : Ex B S) : Owns B H l := ⟨e.trans w.ex, w.nd, w.here, fun p hp => e.free (w.off p hp)⟩
theorem Owns.perm (w : Owns S H l) (p : l'.Perm l) : Owns S H l' := ⟨w.ex, (p.map _).nodup_iff.mpr w.nd, fun q hq => w.here q (p.mem_iff.mp hq), fun q hq => w.off q (p.mem_iff.mp hq)⟩
theorem Owns.sub (w : Owns S H l) (s : l'.Sublist l) : Owns S H l' := ⟨w.ex, w.nd.sublist (s.map _), fun q hq => w.here q (s.subset hq), fun q hq => w.off q (s.subset hq)⟩
theorem Owns.new (w : Owns S H l) (h : H a = .none) : Owns S (upd H a o) ((a, o) :: l) where
  ex := w.ex.trans (Ex.new h)
  nd := by
    refine List.nodup_cons.mpr ⟨fun hm => ?_, w.nd⟩
    obtain ⟨p, hp, e⟩ := List.mem_map.mp hm
    have := w.here p hp
    rw [e, h] at this
    cases this
  here := fun p hp => by
    rcases List.mem_cons.mp hp with rfl | hp
    · exact upd_same
    · exact Ex.new h _ _ (w.here p hp)
  off := fun p hp => by
    rcases List.mem_cons.mp hp with rfl | hp
    · exact w.ex.free h
    · exact w.off p hp
theorem Owns.newE (w : Owns S H l) (h : H a = .none) : Owns S (upd H a o) (l ++ [(a, o)]) := (w.new h).perm (List.perm_append_comm)
/-- a new object that came by a call -/
theorem Owns.came (w : Owns S H l) (h : H a = .none) (e : Ex H H') (h' : H' a = some o) : Owns S H' ((a, o) :: l) where
  ex := w.ex.trans e
  nd := by
    refine List.nodup_cons.mpr ⟨fun hm => ?_, w.nd⟩
    obtain ⟨p, hp, e⟩ := List.mem_map.mp hm
    have := w.here p hp
    rw [e, h] at this
    cases this
  here := fun p hp => by
    rcases List.mem_cons.mp hp with rfl | hp
    · exact h'
    · exact e _ _ (w.here p hp)
  off := fun p hp => by
    rcases List.mem_cons.mp hp with rfl | hp
    · exact w.ex.free h
    · exact w.off p hp
theorem keys_set : ∀ {l : List (Addr × HO)} {i : Nat}, l[i]? = some (a, o) → (l.set i (a, o')).map (·.1) = l.map (·.1)
  | [], i, h => by simp at h
  | p :: l, 0, h => by simp at h; subst h; rfl
  | p :: l, i + 1, h => by
    simp only [List.set_cons_succ, List.map_cons]
    rw [keys_set (i := i) (by simpa using h)]
theorem set_mem : ∀ {l : List (Addr × HO)} {i : Nat}, l[i]? = some (a, o) → (l.map (·.1)).Nodup → ∀ p ∈ l.set i (a, o'), p = (a, o') ∨ (p ∈ l ∧ p.1 ≠ a)
  | [], i, h, _, _, _ => by simp at h
  | q :: l, 0, h, n, p, hp => by
    simp at h; subst h
    simp only [List.set_cons_zero, List.mem_cons] at hp
    rcases hp with rfl | hp
    · exact .inl rfl
    · refine .inr ⟨List.mem_cons_of_mem _ hp, fun e => ?_⟩
      rw [List.map_cons, List.nodup_cons] at n
      exact n.1 (e ▸ List.mem_map_of_mem (f := (·.1)) hp)
  | q :: l, i + 1, h, n, p, hp => by
    have h' : l[i]? = some (a, o) := by simpa using h
    rw [List.map_cons, List.nodup_cons] at n
    simp only [List.set_cons_succ, List.mem_cons] at hp
    rcases hp with rfl | hp
    · refine .inr ⟨List.mem_cons_self, fun e => n.1 ?_⟩
      rw [e]
      exact List.mem_map_of_mem (f := (·.1)) (List.mem_of_getElem? h')
    · rcases set_mem h' n.2 p hp with e | ⟨e1, e2⟩
      · exact .inl e
      · exact .inr ⟨List.mem_cons_of_mem _ e1, e2⟩
theorem Owns.write' (w : Owns S H l) (i : Nat) (h : l[i]? = some (a, o)) (b : But a H H') (h' : H' a = some o') : Owns S H' (l.set i (a, o')) where
  ex := b.ex w.ex (w.offA i h)
  nd := by rw [keys_set h]; exact w.nd
  here := fun p hp => by
    rcases set_mem h w.nd p hp with rfl | ⟨e1, e2⟩
    · exact h'
    · exact b _ _ e2 (w.here p e1)
  off := fun p hp => by
    rcases set_mem h w.nd p hp with rfl | ⟨e1, e2⟩
    · exact w.offA i h
    · exact w.off p e1
theorem Owns.write (w : Owns S H l) (i : Nat) (h : l[i]? = some (a, o) := by rfl) : Owns S (upd H a o') (l.set i (a, o')) := w.write' i h But.upd upd_same
theorem mem_erase : ∀ {l : List (Addr × HO)} {i : Nat}, l[i]? = some (a, o) → (l.map (·.1)).Nodup → ∀ p ∈ l.eraseIdx i, p ∈ l ∧ p.1 ≠ a
  | [], i, h, _, _, _ => by simp at h
  | q :: l, 0, h, n, p, hp => by
    simp at h; subst h
    rw [List.map_cons, List.nodup_cons] at n
    simp only [List.eraseIdx_cons_zero] at hp
    exact ⟨List.mem_cons_of_mem _ hp, fun e => n.1 (e ▸ List.mem_map_of_mem (f := (·.1)) hp)⟩
  | q :: l, i + 1, h, n, p, hp => by
    have h' : l[i]? = some (a, o) := by simpa using h
    rw [List.map_cons, List.nodup_cons] at n
    simp only [List.eraseIdx_cons_succ, List.mem_cons] at hp
    rcases hp with rfl | hp
    · refine ⟨List.mem_cons_self, fun e => n.1 ?_⟩
      rw [e]
      exact List.mem_map_of_mem (f := (·.1)) (List.mem_of_getElem? h')
    · obtain ⟨e1, e2⟩ := mem_erase h' n.2 p hp
      exact ⟨List.mem_cons_of_mem _ e1, e2⟩
theorem Owns.drop (w : Owns S H l) (i : Nat) : Owns S H (l.eraseIdx i) := w.sub (List.eraseIdx_sublist ..)
/-- an owned object that won't change any more -/
theorem Owns.freeze (w : Owns S H l) (i : Nat) (h : l[i]? = some (a, o) := by rfl) : Owns (upd S a o) H (l.eraseIdx i) where
  ex := fun b u e => by
    by_cases hb : b = a
    · subst hb; rw [upd_same] at e; cases e; exact w.get i h
    · rw [upd_ne hb] at e; exact w.ex b u e
  nd := w.nd.sublist ((List.eraseIdx_sublist ..).map _)
  here := fun p hp => w.here p (mem_erase h w.nd p hp).1
  off := fun p hp => by rw [upd_ne (mem_erase h w.nd p hp).2]; exact w.off p (mem_erase h w.nd p hp).1
theorem Owns.freezeEx (w : Owns S H l) (i : Nat) (h : l[i]? = some (a, o) := by rfl) : Ex S (upd S a o) := Ex.new (w.offA i h)
/-- a new object that never changes -/
theorem Owns.grow (w : Owns S H l) (h : H a = .none) : Owns (upd S a o) (upd H a o) l where
  ex := fun b u e => by
    by_cases hb : b = a
    · subst hb; rw [upd_same] at e ⊢; exact e
    · rw [upd_ne hb] at e ⊢; exact w.ex b u e
  nd := w.nd
  here := fun p hp => Ex.new h _ _ (w.here p hp)
  off := fun p hp => by rw [upd_ne (ne_free (w.here p hp) h)]; exact w.off p hp
theorem Owns.growEx (w : Owns S H l) (h : H a = .none) : Ex S (upd S a o) := Ex.new (w.ex.free h)
/-- all that a call brought stands from now on -/
theorem Owns.growAll (w : Owns S H l) (e : Ex H H') : ∃ S', Ex S S' ∧ Owns S' H' l ∧ ∀ b o, H' b = some o → (∀ p ∈ l, p.1 ≠ b) → S' b = some o := by
  refine ⟨fun b => if b ∈ l.map (·.1) then .none else H' b, fun b o hb => ?_, ⟨fun b o hb => ?_, w.nd, fun p hp => e _ _ (w.here p hp), fun p hp => ?_⟩, fun b o hb hn => ?_⟩
  · have hnb : b ∉ l.map (·.1) := fun hm => by
      obtain ⟨p, hp, rfl⟩ := List.mem_map.mp hm
      rw [w.off p hp] at hb; cases hb
    show (if b ∈ l.map (·.1) then .none else H' b) = some o
    rw [if_neg hnb]
    exact e _ _ (w.ex _ _ hb)
  · by_cases hm : b ∈ l.map (·.1)
    · rw [if_pos hm] at hb; cases hb
    · rw [if_neg hm] at hb; exact hb
  · show (if p.1 ∈ l.map (·.1) then .none else H' p.1) = .none
    rw [if_pos (List.mem_map_of_mem (f := (·.1)) hp)]
  · have hnb : b ∉ l.map (·.1) := fun hm => by
      obtain ⟨p, hp, rfl⟩ := List.mem_map.mp hm
      exact hn p hp rfl
    show (if b ∈ l.map (·.1) then .none else H' b) = some o
    rw [if_neg hnb]
    exact hb
end
end SF

/-! SF3: == of data that stand; lists that are empty or not; dicts whose values are True. -/
namespace SF
open PySem L2
section
variable {K : Fg} {S H : Hp} {d e : PyData} {ds es : List PyData} {v u : V} {xs : List V} {a : Addr} {Q : VK}
mutual
theorem dp_of : ∀ {d : PyData} {v : V}, d.canLay0 = true → Rp H d v → Dp K H v d
  | .none, _, _, h => by rw [h.non']; exact .non
  | .bool b, _, _, h => by rw [h.bl']; exact .bl b
  | .int i, _, _, h => by rw [h.int']; exact .int i
  | .str z, _, _, h => by rw [h.str']; exact .str z
  | .list ds, _, c, h => by
    obtain ⟨a, xs, rfl, h1, h2⟩ := h.lst'
    exact .lst (.of h1) (dps_of (by simpa [PyData.canLay0] using c) h2)
  | .tuple ds, _, c, h => by
    obtain ⟨a, xs, rfl, h1, h2⟩ := h.tup'
    exact .tup (.of h1) (dps_of (by simpa [PyData.canLay0] using c) h2)
  | .dict kv, _, c, h => by simp [PyData.canLay0] at c
theorem dps_of : ∀ {ds : List PyData} {xs : List V}, PyData.canLayAll0 ds = true → Rps H ds xs → DpAll K H xs ds
  | [], _, _, h => by rw [h.nil']; exact .nil
  | d :: ds, _, c, h => by
    obtain ⟨v, vs, rfl, h1, h2⟩ := h.cons'
    have c' : d.canLay0 = true ∧ PyData.canLayAll0 ds = true := by simpa [PyData.canLayAll0] using c
    exact .cons (dp_of c'.1 h1) (dps_of c'.2 h2)
end
theorem canLay_of (h : SeqAt.shaped d = true) : d.canLay0 = true := SeqAt.canLay_of_shaped h
theorem eqD (hd : Rp H d v) (he : Rp H e u) (sd : SeqAt.shaped d = true) (se : SeqAt.shaped e = true) (q : Q (.bl (PyData.eqv d e)) H) : rEqD K v u H Q := ⟨d, e, dp_of (canLay_of sd) hd, dp_of (canLay_of se) he, sd, se, q⟩
theorem neD (hd : Rp H d v) (he : Rp H e u) (sd : SeqAt.shaped d = true) (se : SeqAt.shaped e = true) (q : Q (.bl (!PyData.eqv d e)) H) : rNeD K v u H Q := ⟨d, e, dp_of (canLay_of sd) hd, dp_of (canLay_of se) he, sd, se, q⟩
theorem shaped_nil : SeqAt.shaped (.list []) = true := by decide +kernel
theorem eqv_nil (ds : List PyData) : PyData.eqv (.list ds) (.list []) = ds.isEmpty := by
  cases ds <;> simp [PyData.eqv, PyData.eqvAll]
/-- == [], != [] of a list of data -/
theorem eqNil {p : Addr} (hd : Rp H (.list ds) v) (sd : SeqAt.shaped (.list ds) = true) (hp : H p = none) (q : Q (.bl ds.isEmpty) (upd H p (.lst []))) : rEqD K v (.ref p) (upd H p (.lst [])) Q := by
  rw [← eqv_nil] at q
  exact eqD (hd.up (Ex.new hp)) (.lst upd_same .nil) sd shaped_nil q
theorem neNil {p : Addr} (hd : Rp H (.list ds) v) (sd : SeqAt.shaped (.list ds) = true) (hp : H p = none) (q : Q (.bl (!ds.isEmpty)) (upd H p (.lst []))) : rNeD K v (.ref p) (upd H p (.lst [])) Q := by
  rw [← eqv_nil] at q
  exact neD (hd.up (Ex.new hp)) (.lst upd_same .nil) sd shaped_nil q
theorem lay_ints : ∀ ns : List Int, PyData.canLayAll0 (ns.map .int) = true
  | [] => by simp [PyData.canLayAll0]
  | n :: r => by simp [PyData.canLayAll0, PyData.canLay0, lay_ints r]
theorem depth_ints : ∀ ns : List Int, PyData.depthAll (ns.map .int) = 0
  | [] => by simp [PyData.depthAll]
  | n :: r => by simp [PyData.depthAll, PyData.depth, depth_ints r]
theorem shaped_of (c : d.canLay0 = true) (h : d.depth ≤ 64) : SeqAt.shaped d = true := by unfold SeqAt.shaped; rw [c, decide_eq_true h]; rfl
theorem shaped_ints (ns : List Int) : SeqAt.shaped (.list (ns.map .int)) = true := shaped_of (by simp [PyData.canLay0, lay_ints]) (by simp [PyData.depth, depth_ints])
/-- lists of data all alike: f of the items -/
theorem lay_map {α : Type} {f : α → PyData} (h : ∀ x, (f x).canLay0 = true) : ∀ l : List α, PyData.canLayAll0 (l.map f) = true
  | [] => by simp [PyData.canLayAll0]
  | n :: r => by simp [PyData.canLayAll0, h, lay_map h r]
theorem depth_map {α : Type} {f : α → PyData} {n : Nat} (h : ∀ x, (f x).depth ≤ n) : ∀ l : List α, PyData.depthAll (l.map f) ≤ n
  | [] => by simp [PyData.depthAll]
  | x :: r => by
    have h1 := h x
    have h2 := depth_map h r
    simp only [List.map_cons, PyData.depthAll]
    omega
theorem shaped_map {α : Type} {f : α → PyData} (h : ∀ x, (f x).canLay0 = true) (hd : ∀ x, (f x).depth ≤ 60) (l : List α) : SeqAt.shaped (.list (l.map f)) = true :=
  shaped_of (by simp [PyData.canLay0, lay_map h]) (by have := depth_map hd l; simp only [PyData.depth]; omega)
/-- a list of ints at a -/
theorem rp_ints {ns : List Int} (h : H a = some (.lst (ns.map .int))) : Rp H (.list (ns.map .int)) (.ref a) := .lst h (.ints ns)
end
theorem some_at {α : Type} {l : List α} {i : Nat} (h : i < l.length) : ∃ x, l[i]? = some x := ⟨_, List.getElem?_eq_getElem h⟩
theorem tyL {K : Fg} {H : Hp} {a : Addr} {xs : List V} (h : H a = some (.lst xs)) : tyV K "list" (.ref a) H := .inl ⟨rfl, xs, .inl (.inl h)⟩
theorem atR {rs : List Addr} {x : Int} {r : Addr} (h0 : 0 ≤ x) (h : rs[x.toNat]? = some r) : atI (rs.map V.ref) x = some (.ref r) := at_of (j := x.toNat) (by omega) (by rw [List.getElem?_map, h]; rfl)
theorem atZ {ns : List Int} {x y : Int} (h0 : 0 ≤ x) (h : ns[x.toNat]? = some y) : atI (ns.map V.int) x = some (.int y) := at_of (j := x.toNat) (by omega) (by rw [List.getElem?_map, h]; rfl)
theorem zip_at {α β : Type} {l : List α} {m : List β} {i : Nat} {a : α} {b : β} (h : l[i]? = some a) (h' : m[i]? = some b) : (l.zip m)[i]? = some (a, b) := (List.getElem?_zip_eq_some (z := (a, b))).mpr ⟨h, h'⟩
theorem zip_set {α β : Type} {l : List α} {m : List β} {i j : Nat} {b : β} (h : i ≠ j) : (l.zip (m.set i b))[j]? = (l.zip m)[j]? := by
  show (List.zipWith Prod.mk l (m.set i b))[j]? = (List.zipWith Prod.mk l m)[j]?
  rw [List.getElem?_zipWith, List.getElem?_zipWith, List.getElem?_set_ne h]
/-! ### dict comprehensions over a list -/
theorem dc_lst {K : Fg} {a : Addr} {xs : List V} {g : TG} {tt : TT} {tk tv : TE} {vs : List Nat} {σ : L2.St} {H1 : Hp} {D : Addr} {Qd : Hp → Prop} (Pv : Nat → Hp → Prop) (h0 : Pv 0 (upd H1 D (.dK [])))
    (hl : ∀ i H, i ≤ xs.length → Pv i H → SqL K H a xs)
    (hs : ∀ i x H, xs[i]? = some x → Pv i H → g x (wipe σ vs) H fun σ2 H2 => wipe σ2 vs = wipe σ vs ∧ tt σ2 H2 fun b H3 => if b = true then tk σ2 H3 fun y H4 => tv σ2 H4 fun z H5 => ∃ kvs k, y = kV k ∧ H5 D = some (.dK kvs) ∧ kvs.length < sizeLine ∧ Pv (i + 1) (upd H5 D (.dK (putK kvs k z))) else Pv (i + 1) H3)
    (hd : ∀ H, Pv xs.length H → Qd H) :
    ∃ W : Nat → Nat → Hp → Prop, (∃ m, W 0 m (upd H1 D (.dK []))) ∧ ∀ i m H, W i m H → ((Itl K a).stop i H ∧ Qd H) ∨ ((Itl K a).go i H ∧ ∃ Nx : Hp → Prop, (∀ H', Nx H' → ∃ m', m' < m ∧ W (i + 1) m' H') ∧
      ∀ x H', (Itl K a).yld i H x H' → g x (wipe σ vs) H' fun σ2 H2 => wipe σ2 vs = wipe σ vs ∧ tt σ2 H2 fun b H3 => if b = true then tk σ2 H3 fun y H4 => tv σ2 H4 fun z H5 => ∃ kvs k, y = kV k ∧ H5 D = some (.dK kvs) ∧ kvs.length < sizeLine ∧ Nx (upd H5 D (.dK (putK kvs k z))) else Nx H3) := by
  refine ⟨fun i m H => m + i = xs.length ∧ Pv i H, ⟨xs.length, rfl, h0⟩, fun i m H ⟨hm, p⟩ => ?_⟩
  have q := hl i H (by omega) p
  rcases Nat.lt_or_ge i xs.length with hlt | hge
  · have hi : xs[i]? = some xs[i] := List.getElem?_eq_getElem hlt
    refine .inr ⟨⟨xs, _, q, hi⟩, Pv (i + 1), fun H' p' => ⟨xs.length - (i + 1), by omega, by omega, p'⟩, fun x H' y => ?_⟩
    obtain ⟨rfl, y⟩ := y
    exact hs i x _ (y xs q) p
  · have e : i = xs.length := by omega
    subst e
    exact .inl ⟨⟨xs, q, Nat.le_refl _⟩, hd H p⟩
theorem putK_new {κ : Type} [DecidableEq κ] {kvs : List (κ × V)} {k : κ} {v : V} (h : k ∉ kvs.map (·.1)) : putK kvs k v = kvs ++ [(k, v)] := by
  unfold putK
  rw [if_neg]
  intro q
  obtain ⟨p, hp, e⟩ := List.any_eq_true.mp q
  exact h (of_decide_eq_true e ▸ List.mem_map_of_mem (f := (·.1)) hp)
theorem valV_some {κ : Type} [DecidableEq κ] : ∀ {kvs : List (κ × V)} {k : κ}, k ∈ kvs.map (·.1) → ∃ v, valV kvs k = some v ∧ (k, v) ∈ kvs
  | [], k, h => by simp at h
  | (k', v) :: r, k, h => by
    by_cases e : k' = k
    · subst e; exact ⟨v, valV_pos rfl, List.mem_cons_self⟩
    · have hk : k ∈ r.map (·.1) := by
        rcases List.mem_cons.mp h with h | h
        · exact absurd h.symm e
        · exact h
      obtain ⟨u, h1, h2⟩ := valV_some hk
      exact ⟨u, by unfold valV at h1 ⊢; rw [List.find?_cons_of_neg (by simpa using e)]; exact h1, List.mem_cons_of_mem _ h2⟩
theorem valV_none {κ : Type} [DecidableEq κ] {kvs : List (κ × V)} {k : κ} (h : k ∉ kvs.map (·.1)) : valV kvs k = none := by
  unfold valV
  rw [List.find?_eq_none.mpr, Option.map_none]
  intro p hp q
  exact h (of_decide_eq_true q ▸ List.mem_map_of_mem (f := (·.1)) hp)
/-- is a key there -/
theorem valV_iff {κ : Type} [DecidableEq κ] {kvs : List (κ × V)} {k : κ} : (valV kvs k).isSome = decide (k ∈ kvs.map (·.1)) := by
  by_cases h : k ∈ kvs.map (·.1)
  · obtain ⟨v, h1, _⟩ := valV_some h
    rw [h1, decide_eq_true h]; rfl
  · rw [valV_none h, decide_eq_false h]; rfl
theorem dgR {H : Hp} {a : Addr} {kvs : List (Key × V)} (i : Int) (h : Rd H a (.dK kvs)) : DGet H a (.int i) (valV kvs (.inl i)) := .inl ⟨kvs, .inl i, h, rfl, rfl⟩
theorem dgI {H : Hp} {a : Addr} {kvs : List (Key × V)} (i : Int) (h : H a = some (.dK kvs)) : DGet H a (.int i) (valV kvs (.inl i)) := dgR i (.inl h)
/-- any objects of the heap that are told apart may be owned -/
theorem Owns.take {H : Hp} {l : List (Addr × HO)} (nd : (l.map (·.1)).Nodup) (h : ∀ p ∈ l, H p.1 = some p.2) : ∃ S, Owns S H l ∧ ∀ b o, H b = some o → (∀ p ∈ l, p.1 ≠ b) → S b = some o := by
  refine ⟨fun b => if b ∈ l.map (·.1) then .none else H b, ⟨fun b o hb => ?_, nd, h, fun p hp => ?_⟩, fun b o hb hn => ?_⟩
  · by_cases hm : b ∈ l.map (·.1)
    · rw [if_pos hm] at hb; cases hb
    · rw [if_neg hm] at hb; exact hb
  · show (if p.1 ∈ l.map (·.1) then .none else H p.1) = .none
    rw [if_pos (List.mem_map_of_mem (f := (·.1)) hp)]
  · show (if b ∈ l.map (·.1) then .none else H b) = some o
    rw [if_neg (fun hm => by
      obtain ⟨p, hp, rfl⟩ := List.mem_map.mp hm
      exact hn p hp rfl)]
    exact hb
/-- a while's turn goes on -/
theorem go_on {W : Nat → L2.St → Hp → Prop} {m : Nat} {tb : TS} {D : Ends} {σ : L2.St} {H1 : Hp} {B : Prop} (h : tb { D with nx := fun σ' H' => ∃ m', m' < m ∧ W m' σ' H', ct := fun σ' H' => ∃ m', m' < m ∧ W m' σ' H', bk := D.nx } σ H1) :
    if true = true then ∃ N : L2.St → Hp → Prop, (∀ σ' H', N σ' H' → ∃ m', m' < m ∧ W m' σ' H') ∧ tb { D with nx := N, ct := N, bk := D.nx } σ H1 else B := iteT ⟨_, fun _ _ x => x, h⟩
end SF

/-! SF6: several except clauses that name the error; what is wished of a call's error whatever the slots; own instances by their class. -/
namespace SF
open PySem PySem.Spec PyProof.Rows L2
/-! ### errors wished for whatever the slots -/
def EL (n : Nat) (W : WX) : XK := fun cls d H => ∀ σ : L2.St, σ.length = n → W cls d σ H
theorem passEL {X : Cx} {W : WX} (tk : Takes X W) : Passes (L2.CX X.prog X.w) X (EL X.N.length W) := fun _ σ _ _ e s' I c => tk e s' (XE.of_call I (fun _ _ _ h => h σ I.len) c)
/-! ### except A as n: .. except B as n: .. -/
abbrev HdT : Type := Value × Nat × (Addr → Value → Option Addr → TS)
def goneD (D : Ends) (i : Nat) : Ends := { nx := fun σ' H' => D.nx (σ'.set i none) H', rt := D.rt, bk := fun σ' H' => D.bk (σ'.set i none) H', ct := fun σ' H' => D.ct (σ'.set i none) H' }
def wAsM (K : Fg) (Wout : WX) (D : Ends) : List HdT → WX
  | [] => Wout
  | (c, i, ts) :: r => fun cls d σ H => ∃ b, PySem.W.exmOne K cls c = some b ∧ (b = true → ∀ a, H a = none → ts a cls d (goneD D i) (σ.set i (some (.ref a))) H) ∧ (b = false → wAsM K Wout D r cls d σ H)
inductive HdsAs (X : Cx) : List ExceptHandler → List HdT → Prop
  | nil : HdsAs X [] []
  | cons {x n : Str} {c : Value} {i : Nat} {ts : Addr → Value → Option Addr → TS} {b₀ : Stmt} {su : List Stmt} {np ep : Pos} {hs : List ExceptHandler} {l : List HdT} (hi : X.N[i]? = some n) (hk : X.env.kindOf n = some .local) (hc : Names X x c)
      (hsu : ∀ (a : Addr) (oe : Obj) (cls : Value) (d : Option Addr) (pn : List (Addr × Obj)), Zc cls d oe → (∃ vs, oe.data = .fields vs) → PSs (X.suite a ((a, oe) :: pn)) (b₀ :: su) (ts a cls d)) (r : HdsAs X hs l) :
      HdsAs X (.ExceptHandler (some (.Name x np)) (some n) (b₀ :: su) ep :: hs) ((c, i, ts) :: l)
section
variable {X : Cx} {body : List Stmt} {h0 : ExceptHandler} {hds : List ExceptHandler} {l : List HdT} {pos : Pos} {tb : WX → TS} {Wout : WX}
theorem ps_try_asM (hst : X.stack = X.env :: X.outer) (hfr : X.env.frame = some X.env.locals) (nd : X.N.Nodup) (tk : Takes X Wout)
    (hb : ∀ (W : WX) (pn : List (Addr × Obj)) (xe : Value → Shared → Prop), Takes (X.tr pn xe) W → PassesOwn (model X.prog X.w) X.A X.env xe → PSs (X.tr pn xe) body (tb W)) (hh : HdsAs X (h0 :: hds) l) :
    PS X (.Try body (h0 :: hds) [] [] pos) (fun D σ H => tb (wAsM X.K Wout D l) D σ H) := by
  refine ⟨fun pins s σ H D I h => wpAny_Try_except ?_⟩
  have frs_ : X.A.frames = some (X.env :: X.outer) := by rw [I.ok.frames, hst]
  have run := (hb (wAsM X.K Wout D l) (X.pn ++ pins) (fun e t1 => wpAny (model X.prog X.w) X.A (noteFrame e X.env) (fun _ t2 => wpAny (model X.prog X.w) X.A (setFlight e none) (fun _ t3 => wpAny (model X.prog X.w) X.A (handleBy e X.env (h0 :: hds)) (SP X pins D) X.xe t3) X.xe t2) X.xe t1) (fun u t xx => by
      obtain ⟨a, B, sI, pins', σ', H', cls, d, rfl, J', nb, up, sky, na, os, ag, w⟩ := xx
      have J : Inv X pins σ' H' sI := J'.ofTry I.ok
      have sky2 : Sky B (X.env :: X.outer) a (Zc cls d) X.env.locals t.heap := by rw [← hst]; exact sky
      show wpAny (model X.prog X.w) X.A (noteFrame (.ref a) X.env) _ _ _
      refine Sky.land Zc.steady frs_ hfr sky2 fun h3 fl3 up3 => ?_
      have J3 : Inv X pins σ' H' { t with heap := h3 } := J.landed nb fl3.1 (up.trans up3) os ag
      obtain ⟨oe3, vs3, he3, hz3, hd3⟩ := fl3.there
      have nfr : a ∉ frs (X.env :: X.outer) := fun hm => by
        obtain ⟨_, o2, e2, hnf⟩ := fl3.2.2.1.mem hm
        rw [he3] at e2; cases e2
        exact hnf _ hd3
      have nL : a ≠ X.env.locals := fun z => nfr (List.mem_filterMap.mpr ⟨X.env, List.mem_cons_self, by rw [hfr, z]⟩)
      have nF : a ∉ X.fs := fun hm => by
        obtain ⟨e, he, q⟩ := List.mem_filterMap.mp hm
        exact nfr (List.mem_filterMap.mpr ⟨e, List.mem_cons_of_mem _ he, q⟩)
      have S3 := J3.suite he3 hd3 na nL nF
      have go : ∀ {hs' : List ExceptHandler} {l' : List HdT}, HdsAs X hs' l' → wAsM X.K Wout D l' cls d σ' H' → wpAny (model X.prog X.w) X.A (handleBy (.ref a) X.env hs') (SP X pins D) X.xe { t with heap := h3 } := by
        intro hs' l' hk
        induction hk with
        | nil =>
          intro w
          refine wpAny_handleBy_nil ?_
          obtain ⟨_, _, _, oe, vs, T, oT, _, he, _, hd, h1, _⟩ := id fl3
          unfold PySem.passOn
          refine wpAny_bind (wpAny_field he hd h1 ?_)
          rw [if_neg (by simp : ¬ ((Value.ref T == Value.none) = true))]
          have fin : wpAny (model X.prog X.w) X.A (setFlight (.ref a) X.env.frame) (fun _ s4 => wpAny (model X.prog X.w) X.A (throw (.ref a) : Sem Flow) (SP X pins D) X.xe s4) X.xe { t with heap := h3 } := by
            rw [hfr]
            exact HandSPX.setFlight_upZ fl3 fun h4 hh4 up4 => wpAny_throw (tk _ _ ⟨a, B, sI, pins, σ', H', cls, d, rfl, J, nb, (up.trans up3).trans up4, .inr (.inr (by rw [hst]; exact hh4)), na, os, ag, w⟩)
          first | exact wpAny_bind (wpAny_pure (wpAny_bind fin)) | exact wpAny_bind fin
        | @cons x n c i ts b₀ su np ep hs2 l2 hi hkn hc hsu r ih =>
          intro w
          obtain ⟨b, hb1, hyes, hno⟩ := w
          refine wpAny_handleBy_cons (codeAny_handlers_test ?_) (by intro q; cases q)
          have LM := PySem.W.exm_one (M := model X.prog X.w) J3.kIn (fun A Q E s k q => wpAny_typeOf_ref (k _ _ he3) (by rw [hz3.1]; exact q)) hb1
          have test : ∀ {Q : Value → Shared → Prop} {E : Value → Shared → Prop}, Q c { t with heap := h3 } → wpAny (model X.prog X.w) (X.A.mark (some (.ref a))) (eval (.Name x np) X.env) Q E { t with heap := h3 } := fun {Q E} q => by
            obtain ⟨hg, hdb, hm | ⟨hm, hv, hnn⟩⟩ := hc
            · exact ld_glob (X := X.suite a ((a, oe3) :: (X.pn ++ pins))) S3 hg hm q hdb
            · exact ld_blt (X := X.suite a ((a, oe3) :: (X.pn ++ pins))) S3 hg hm hv q hnn hdb
          refine test (LM.here ?_)
          cases b with
          | false => exact ih (hno rfl)
          | true =>
            refine codeAny_handlers_suite_as (HandSPX.lands_againZ fl3 fun h4 fl4 up4 => ?_)
            have J4 : Inv X pins σ' H' { t with heap := h4 } := J.landed nb fl4.1 ((up.trans up3).trans up4) os ag
            obtain ⟨oe4, vs4, he4, hz4, hd4⟩ := fl4.there
            refine store_ok (X := X.suite a ((a, oe4) :: (X.pn ++ pins))) (v := .ref a) (J4.suite he4 hd4 na nL nF) nd hi (.inl hkn) rfl (fun s5 S5 => ?_) (.inr hkn)
            refine wpAny_mono ((hsu a oe4 cls d (X.pn ++ pins) hz4 ⟨_, hd4⟩).run [] s5 _ H' _ S5 (hyes rfl a na)) (fun f s6 hsp => ?_) (fun _ _ z => z.elim)
            have fin : ∀ {σ6 : L2.St} {H6 : Hp} {Q : Shared → Prop}, Inv (X.suite a ((a, oe4) :: (X.pn ++ pins))) [] σ6 H6 s6 → (∀ s7, Inv X pins (σ6.set i none) H6 s7 → Q s7) →
                wpAny (model X.prog X.w) X.A (do bindName X.env n .none; unbindBehindTheSuite X.env n ep) (fun _ s7 => Q s7) X.xe s6 := fun S6 hq => gone_ok (S6.unsuite I.ok) nd hi hkn hq
            cases f with
            | ret u => obtain ⟨v6, σ6, H6, S6, r6, q6⟩ := hsp; exact fin S6 fun s7 J7 => ⟨_, _, _, J7, r6, q6⟩
            | _ => obtain ⟨σ6, H6, S6, q6⟩ := hsp; exact fin S6 fun s7 J7 => ⟨_, _, J7, q6⟩
      exact go hh w) PassesOwn.looking).run [] s σ H D (I.toTry _) h
  refine wpAny_mono run (fun f s1 hsp => ?_) fun e s1 he => he
  cases f with
  | next => obtain ⟨σ', H', J', q⟩ := hsp; exact wpAny_execs_nil ⟨σ', H', J'.ofTry I.ok, q⟩
  | ret u => obtain ⟨v, σ', H', J', r, q⟩ := hsp; exact ⟨v, σ', H', J'.ofTry I.ok, r, q⟩
  | _ => obtain ⟨σ', H', J', q⟩ := hsp; exact ⟨σ', H', J'.ofTry I.ok, q⟩
end
end SF

/-! SF7: own instances by their class: fields, stores, methods (of one class, of one of two), making. -/
namespace SF
open PySem PySem.Spec PyProof.Rows L2
section
variable {X : Cx} {e o value : Expr} {ta tv : TE} {C : Addr} {f : Str} {pos pos' : Pos}
theorem PE.up (h : PE X e ta) : PE X e (fun σ H Q => ∃ k, ta σ H k ∧ ∀ v H1, k v H1 → Q v H1) :=
  ⟨fun pins s σ H Q I ⟨k, h1, h2⟩ => thn (h.run pins s σ H k I h1) fun u s1 ⟨v, H1, I1, r, q⟩ => ⟨v, H1, I1, r, h2 _ _ q⟩⟩
/-- o.f, o of the class C -/
def tFldC (C : Addr) (ta : TE) (f : Str) : TE := fun σ H Q => ta σ H fun x H1 => ∃ a dx fs v, x = .ref a ∧ H1 a = some (.ins C dx fs) ∧ fs.lookup f = some v ∧ Q v H1
theorem pe_fldC (he : PE X e ta) (c : Cls X.K C) (n : NoAttr X.K C f) (hb : attributeBase e f X.env (eval e X.env) = eval e X.env := by rfl) : PE X (.Attribute e f pos) (tFldC C ta f) :=
  ⟨fun pins s σ H Q I h => (pe_fld (PE.up he) hb).run pins s σ H Q I ⟨_, h, fun _ _ ⟨a, dx, fs, v, h1, h2, h3, q⟩ => ⟨a, C, dx, fs, v, h1, h2, c, n, h3, q⟩⟩⟩
/-- o.f = value -/
def sFldC (C : Addr) (ta tv : TE) (f : Str) : TS := fun D σ H => tv σ H fun y H1 => ta σ H1 fun x H2 => ∃ a dx fs, x = .ref a ∧ H2 a = some (.ins C dx fs) ∧ fs.length < 1000 ∧ D.nx σ (upd H2 a (.ins C dx (putF f y fs)))
theorem ps_fldC (ho : PE X o ta) (hv : PE X value tv) (c : Cls X.K C) (n : NoAttr X.K C f) (hs : swapsWith value (some (.Attribute o f pos')) pos.line X.env = pure false := by rfl) : PS X (.Assign [.Attribute o f pos'] value pos) (sFldC C ta tv f) :=
  ⟨fun pins s σ H D I h => (ps_fld (PE.up ho) (PE.up hv) hs).run pins s σ H D I ⟨_, h, fun _ _ h1 => ⟨_, h1, fun _ _ ⟨a, dx, fs, q1, q2, q3, q4⟩ => ⟨a, C, dx, fs, q1, q2, c, n, q3, q4⟩⟩⟩⟩
end
/-- a method by its class and name -/
structure HasM (P : Program) (w : World) (K : Fg) (mg : Str → Option Value) (base : Heap) (k : Nat) (C : Addr) (m : Str) (ps : List Str) (D : List (List V)) (sp : Sp) : Prop where
  c : Cls K C
  me : Meth K C m (He.ma K C m)
  ok : ∃ fd, FnOk P w K mg base (L2.CX P w) k (He.ma K C m) fd ps sp ∧ ∀ dv, dv ∈ D → ∃ ds, Binds K fd ps ds ∧ Vals dv ds
/-- a class by its name, made -/
structure HasC (P : Program) (w : World) (K : Fg) (mg : Str → Option Value) (base : Heap) (k : Nat) (x : Str) (ps : List Str) (D : List (List V)) (sp : Sp) : Prop where
  g : mg x = some (.ref (ga K x))
  mkr : Mk K (ga K x) (He.ma K (ga K x) "__init__")
  ok : ∃ fd, FnOk P w K mg base (L2.CX P w) k (He.ma K (ga K x) "__init__") fd ps sp ∧ ∀ dv, dv ∈ D → ∃ ds, Binds K fd ps ds ∧ Vals dv ds
section
variable {X : Cx} {C C2 : Addr} {m x : Str} {k j j2 : Nat} {ps ps2 : List Str} {D D2 : List (List V)} {dvs dvs2 : List V} {sp sp2 : Sp} {E : XK} {o e : Expr} {es : List Expr} {ta : TE} {t : TA} {p pos apos : Pos} {pl : Sem Bool}
theorem pe_hasM (h : HasM X.prog X.w X.K X.mg X.base k C m ps D sp) (hr : Room j X.A) (hx : Passes (L2.CX X.prog X.w) X E) (ho : PE X o ta) (ha : PA X (e :: es) t) (hD : dvs ∈ D := by simp) (hk : k ≤ j := by decide)
    (hst : starEach (e :: es) X.env = (false, eval e X.env) :: starEach es X.env := by rfl) (hpl : (backTo pos (starEach es X.env)).any (·.1) = false := by rfl)
    (ht : eval (.Call (.Attribute o m apos) (e :: es) [] pos) X.env = (do let ov ← eval o X.env; standAt apos.atName; let (f, first) ← holding [ov] (getMethod ov m pl); callWith pos f first (backTo pos (starEach (e :: es) X.env)) (backToKw pos (keywordEach [] X.env))) := by rfl) :
    PE X (.Call (.Attribute o m apos) (e :: es) [] pos) (tMeth C m sp dvs E ta t) := by
  obtain ⟨fd, F, b⟩ := h.ok
  obtain ⟨ds, b1, b2⟩ := b _ hD
  exact pe_meth ho h.c h.me F (hr.mono hk) b1 b2 hx ha hst hpl ht
theorem pe_hasM0 (h : HasM X.prog X.w X.K X.mg X.base k C m ps D sp) (hr : Room j X.A) (hx : Passes (L2.CX X.prog X.w) X E) (ho : PE X o ta) (hD : dvs ∈ D := by simp) (hk : k ≤ j := by decide)
    (ht : eval (.Call (.Attribute o m apos) [] [] pos) X.env = (do let ov ← eval o X.env; standAt apos.atName; let (f, first) ← holding [ov] (getMethod ov m pl); callWith pos f first (backTo pos (starEach [] X.env)) (backToKw pos (keywordEach [] X.env))) := by rfl) :
    PE X (.Call (.Attribute o m apos) [] [] pos) (tMeth C m sp dvs E ta tNil) := by
  obtain ⟨fd, F, b⟩ := h.ok
  obtain ⟨ds, b1, b2⟩ := b _ hD
  exact pe_meth0 ho h.c h.me F (hr.mono hk) b1 b2 hx ht
/-- o.m(..), o of one of two classes -/
def tMeth2 (C C2 : Addr) (m : Str) (sp sp2 : Sp) (E : XK) (ta : TE) (t : TA) : TE := fun σ H Q => ta σ H fun x H1 => ∃ a dx fs, x = .ref a ∧ fs.lookup m = none ∧
  ((H1 a = some (.ins C dx fs) ∧ t σ H1 fun vs H2 => sp (x :: vs) H2 Q E) ∨ (H1 a = some (.ins C2 dx fs) ∧ t σ H1 fun vs H2 => sp2 (x :: vs) H2 Q E))
theorem pe_hasM2 (h : HasM X.prog X.w X.K X.mg X.base k C m ps D sp) (h2 : HasM X.prog X.w X.K X.mg X.base j2 C2 m ps2 D2 sp2) (hr : Room j X.A) (hx : Passes (L2.CX X.prog X.w) X E) (ho : PE X o ta) (ha : PA X (e :: es) t) (hD : ([] : List V) ∈ D := by simp) (hk : k ≤ j := by decide) (hD2 : ([] : List V) ∈ D2 := by simp) (hk2 : j2 ≤ j := by decide)
    (hst : starEach (e :: es) X.env = (false, eval e X.env) :: starEach es X.env := by rfl) (hpl : (backTo pos (starEach es X.env)).any (·.1) = false := by rfl)
    (ht : eval (.Call (.Attribute o m apos) (e :: es) [] pos) X.env = (do let ov ← eval o X.env; standAt apos.atName; let (f, first) ← holding [ov] (getMethod ov m pl); callWith pos f first (backTo pos (starEach (e :: es) X.env)) (backToKw pos (keywordEach [] X.env))) := by rfl) :
    PE X (.Call (.Attribute o m apos) (e :: es) [] pos) (tMeth2 C C2 m sp sp2 E ta t) := by
  obtain ⟨fd, F, b⟩ := h.ok
  obtain ⟨ds, b1, b2⟩ := b _ hD
  obtain ⟨fd2, F2, bb⟩ := h2.ok
  obtain ⟨ds2, b3, b4⟩ := bb _ hD2
  refine ⟨fun pins s σ H Q I q => PySem.W.methodCall_KW (pl := pl) (thn (ho.run pins s σ H _ I q) fun u s1 ⟨y, H1, I1, rx, a, dx, fs, ex, l, q1⟩ => ?_) ht⟩
  subst ex
  obtain rfl : u = Value.ref a := rx
  rcases q1 with ⟨ea, q1⟩ | ⟨ea, q1⟩
  · refine getmeth_ok I1 ea h.c h.me l (PySem.W.callWith_K (first := [.ref a]) (h₀ := X.base) I.ok.mod.kin h.me.kp (thn (ha.run pos pins s1 σ H1 _ I1 q1) fun us s2 ⟨vs, H2, I2, r, q2⟩ => ⟨I2.kIn, ?_⟩) hst hpl)
    have hv : sp ((V.ref a :: vs) ++ []) H2 Q E := by rw [List.append_nil]; exact q2
    cases b2
    exact run_fn (us := .ref a :: us) (vs := .ref a :: vs) F (hr.mono hk) b1 .nil hx I2 (.cons rfl r) hv
  · refine getmeth_ok I1 ea h2.c h2.me l (PySem.W.callWith_K (first := [.ref a]) (h₀ := X.base) I.ok.mod.kin h2.me.kp (thn (ha.run pos pins s1 σ H1 _ I1 q1) fun us s2 ⟨vs, H2, I2, r, q2⟩ => ⟨I2.kIn, ?_⟩) hst hpl)
    have hv : sp2 ((V.ref a :: vs) ++ []) H2 Q E := by rw [List.append_nil]; exact q2
    cases b4
    exact run_fn (us := .ref a :: us) (vs := .ref a :: vs) F2 (hr.mono hk2) b3 .nil hx I2 (.cons rfl r) hv
/-- C(..) -/
theorem pe_hasC (h : HasC X.prog X.w X.K X.mg X.base k x ps D sp) (hr : Room j X.A) (hx : Passes (L2.CX X.prog X.w) X E) (ha : PA X (e :: es) t) (hg : Gl X x := by rfl) (hD : dvs ∈ D := by simp) (hk : k + 1 ≤ j := by decide) (hdb : (x == ("__debug__" : Str)) = false := by decide)
    (he : starEach (e :: es) X.env = (false, eval e X.env) :: starEach es X.env := by rfl) (hpl : (backTo pos (starEach es X.env)).any (·.1) = false := by rfl) : PE X (.Call (.Name x p) (e :: es) [] pos) (tMake (ga X.K x) sp dvs E t) := by
  obtain ⟨fd, F, b⟩ := h.ok
  obtain ⟨ds, b1, b2⟩ := b _ hD
  exact pe_make h.mkr F (hr.mono hk) hg h.g b1 b2 hx ha hdb he hpl
end
end SF

/-! SF8: data and what stands for it, constants of the program among it (Rk); kinds, lengths, items, equality. -/
namespace SF
open PySem PySem.Spec PyProof.Rows L2
theorem ex_t {K : Fg} {H H' : Hp} {a : Addr} {xs : List V} (e : Ex H H') (h : SqT K H a xs) : SqT K H' a xs := by
  rcases h with (h | ⟨o, h⟩) | h
  · exact .inl (.inl (e _ _ h))
  · exact .inl (.inr ⟨o, e _ _ h⟩)
  · exact .inr h
/-! ### data and what stands for it -/
mutual
def Rk (K : Fg) (S : Hp) : PyData → V → Prop
  | .none, v => v = .non
  | .bool b, v => v = .bl b
  | .int i, v => v = .int i
  | .str z, v => v = .str z
  | .list ds, v => ∃ a xs, v = .ref a ∧ SqL K S a xs ∧ Rks K S ds xs
  | .tuple ds, v => ∃ a xs, v = .ref a ∧ SqT K S a xs ∧ Rks K S ds xs
  | .dict _, v => ∃ a es, v = .ref a ∧ S a = some (.dK es)
def Rks (K : Fg) (S : Hp) : List PyData → List V → Prop
  | [], xs => xs = []
  | d :: ds, xs => ∃ v vs, xs = v :: vs ∧ Rk K S d v ∧ Rks K S ds vs
end
mutual
theorem Rk.mono {K : Fg} {S S' : Hp} (e : Ex S S') : ∀ (d : PyData) (v : V), Rk K S d v → Rk K S' d v
  | .none, _, h => by unfold Rk at h ⊢; exact h
  | .bool _, _, h => by unfold Rk at h ⊢; exact h
  | .int _, _, h => by unfold Rk at h ⊢; exact h
  | .str _, _, h => by unfold Rk at h ⊢; exact h
  | .list ds, _, h => by
    unfold Rk at h ⊢
    obtain ⟨a, xs, rfl, h1, h2⟩ := h
    exact ⟨a, xs, rfl, ex_l e h1, Rks.mono e ds xs h2⟩
  | .tuple ds, _, h => by
    unfold Rk at h ⊢
    obtain ⟨a, xs, rfl, h1, h2⟩ := h
    exact ⟨a, xs, rfl, ex_t e h1, Rks.mono e ds xs h2⟩
  | .dict _, _, h => by
    unfold Rk at h ⊢
    obtain ⟨a, es, rfl, h1⟩ := h
    exact ⟨a, es, rfl, e _ _ h1⟩
theorem Rks.mono {K : Fg} {S S' : Hp} (e : Ex S S') : ∀ (ds : List PyData) (xs : List V), Rks K S ds xs → Rks K S' ds xs
  | [], _, h => by unfold Rks at h ⊢; exact h
  | d :: ds, _, h => by
    unfold Rks at h ⊢
    obtain ⟨v, vs, rfl, h1, h2⟩ := h
    exact ⟨v, vs, rfl, Rk.mono e d v h1, Rks.mono e ds vs h2⟩
end
section
variable {K : Fg} {S S' H : Hp} {d : PyData} {ds es : List PyData} {v : V} {xs ys : List V} {a : Addr}
theorem Rk.up (h : Rk K S d v) (e : Ex S S') : Rk K S' d v := Rk.mono e d v h
theorem Rks.up (h : Rks K S ds xs) (e : Ex S S') : Rks K S' ds xs := Rks.mono e ds xs h
theorem Rks.nil : Rks K S [] [] := by unfold Rks; rfl
theorem Rks.cons (h : Rk K S d v) (t : Rks K S ds xs) : Rks K S (d :: ds) (v :: xs) := by unfold Rks; exact ⟨v, xs, rfl, h, t⟩
theorem Rks.cons' (h : Rks K S (d :: ds) xs) : ∃ v vs, xs = v :: vs ∧ Rk K S d v ∧ Rks K S ds vs := by unfold Rks at h; exact h
theorem Rks.nil' (h : Rks K S [] xs) : xs = [] := by unfold Rks at h; exact h
theorem Rks.length : ∀ {ds : List PyData} {xs : List V}, Rks K S ds xs → xs.length = ds.length
  | [], _, h => by rw [h.nil']; rfl
  | d :: ds, _, h => by
    obtain ⟨v, vs, rfl, _, h2⟩ := h.cons'
    rw [List.length_cons, List.length_cons, h2.length]
theorem Rks.get : ∀ {ds : List PyData} {xs : List V} {i : Nat} {d : PyData}, Rks K S ds xs → ds[i]? = some d → ∃ v, xs[i]? = some v ∧ Rk K S d v
  | [], _, i, d, _, e => by simp at e
  | d0 :: ds, _, 0, d, h, e => by
    obtain ⟨v, vs, rfl, h1, _⟩ := h.cons'
    simp at e
    subst e
    exact ⟨v, by simp, h1⟩
  | d0 :: ds, _, i + 1, d, h, e => by
    obtain ⟨v, vs, rfl, _, h2⟩ := h.cons'
    obtain ⟨u, e1, e2⟩ := Rks.get (i := i) h2 (by simpa using e)
    exact ⟨u, by simpa using e1, e2⟩
theorem Rks.get' {i : Nat} (h : Rks K S ds xs) (e : xs[i]? = some v) : ∃ d, ds[i]? = some d ∧ Rk K S d v := by
  have hl := h.length
  obtain ⟨hi, _⟩ := List.getElem?_eq_some_iff.mp e
  have hd : ds[i]? = some ds[i] := List.getElem?_eq_getElem (by omega)
  obtain ⟨u, e1, r⟩ := h.get hd
  rw [e] at e1
  cases e1
  exact ⟨_, hd, r⟩
theorem Rks.append : ∀ {ds es : List PyData} {xs ys : List V}, Rks K S ds xs → Rks K S es ys → Rks K S (ds ++ es) (xs ++ ys)
  | [], _, _, _, h, t => by rw [h.nil']; exact t
  | d :: ds, _, _, _, h, t => by
    obtain ⟨v, vs, rfl, h1, h2⟩ := h.cons'
    exact .cons h1 (Rks.append h2 t)
theorem Rks.take : ∀ {ds : List PyData} {xs : List V} (n : Nat), Rks K S ds xs → Rks K S (ds.take n) (xs.take n)
  | _, _, 0, _ => by simp; exact .nil
  | [], _, n + 1, h => by rw [h.nil']; exact .nil
  | d :: ds, _, n + 1, h => by
    obtain ⟨v, vs, rfl, h1, h2⟩ := h.cons'
    exact .cons h1 (Rks.take n h2)
theorem Rks.drop : ∀ {ds : List PyData} {xs : List V} (n : Nat), Rks K S ds xs → Rks K S (ds.drop n) (xs.drop n)
  | _, _, 0, h => by simpa using h
  | [], _, n + 1, h => by rw [h.nil']; exact .nil
  | d :: ds, _, n + 1, h => by
    obtain ⟨v, vs, rfl, h1, h2⟩ := h.cons'
    exact Rks.drop n h2
theorem Rks.eraseIdx : ∀ {ds : List PyData} {xs : List V} (n : Nat), Rks K S ds xs → Rks K S (ds.eraseIdx n) (xs.eraseIdx n)
  | [], _, n, h => by rw [h.nil']; simp; exact .nil
  | d :: ds, _, 0, h => by
    obtain ⟨v, vs, rfl, h1, h2⟩ := h.cons'
    exact h2
  | d :: ds, _, n + 1, h => by
    obtain ⟨v, vs, rfl, h1, h2⟩ := h.cons'
    exact .cons h1 (Rks.eraseIdx n h2)
theorem Rk.non : Rk K S .none .non := by unfold Rk; rfl
theorem Rk.bl (b : Bool) : Rk K S (.bool b) (.bl b) := by unfold Rk; rfl
theorem Rk.int (i : Int) : Rk K S (.int i) (.int i) := by unfold Rk; rfl
theorem Rk.str (z : Str) : Rk K S (.str z) (.str z) := by unfold Rk; rfl
theorem Rk.lst (h : SqL K S a xs) (t : Rks K S ds xs) : Rk K S (.list ds) (.ref a) := by unfold Rk; exact ⟨a, xs, rfl, h, t⟩
theorem Rk.tup (h : SqT K S a xs) (t : Rks K S ds xs) : Rk K S (.tuple ds) (.ref a) := by unfold Rk; exact ⟨a, xs, rfl, h, t⟩
theorem Rk.dct {kvs : List (PyData × PyData)} {es : List (Key × V)} (h : S a = some (.dK es)) : Rk K S (.dict kvs) (.ref a) := by unfold Rk; exact ⟨a, es, rfl, h⟩
theorem Rk.non' (h : Rk K S .none v) : v = .non := by unfold Rk at h; exact h
theorem Rk.bl' {b : Bool} (h : Rk K S (.bool b) v) : v = .bl b := by unfold Rk at h; exact h
theorem Rk.int' {i : Int} (h : Rk K S (.int i) v) : v = .int i := by unfold Rk at h; exact h
theorem Rk.str' {z : Str} (h : Rk K S (.str z) v) : v = .str z := by unfold Rk at h; exact h
theorem Rk.lst' (h : Rk K S (.list ds) v) : ∃ a xs, v = .ref a ∧ SqL K S a xs ∧ Rks K S ds xs := by unfold Rk at h; exact h
theorem Rk.tup' (h : Rk K S (.tuple ds) v) : ∃ a xs, v = .ref a ∧ SqT K S a xs ∧ Rks K S ds xs := by unfold Rk at h; exact h
theorem Rk.dct' {kvs : List (PyData × PyData)} (h : Rk K S (.dict kvs) v) : ∃ a es, v = .ref a ∧ S a = some (.dK es) := by unfold Rk at h; exact h
theorem Rks.ints (ns : List Int) : Rks K S (ns.map .int) (ns.map .int) := by
  induction ns with
  | nil => exact .nil
  | cons n r ih => exact .cons (.int n) ih
theorem Rks.ints' : ∀ {ns : List Int} {xs : List V}, Rks K S (ns.map .int) xs → xs = ns.map .int
  | [], _, h => h.nil'
  | n :: r, _, h => by
    obtain ⟨v, vs, rfl, h1, h2⟩ := Rks.cons' (ds := r.map .int) h
    rw [h1.int', h2.ints']
    rfl
end


theorem rk_ints {K : Fg} {S : Hp} (ns : List Int) : Rks K S (ns.map .int) (ns.map .int) := by
  induction ns with
  | nil => exact .nil
  | cons n r ih => exact .cons (.int n) ih
section
variable {K : Fg} {S H : Hp} {d e : PyData} {ds : List PyData} {v u : V} {xs : List V} {a : Addr} {Q : VK}
theorem tyk_of : ∀ {d : PyData} {v : V}, Rk K S d v → TyX K S v (.type (tyD d))
  | .none, _, h => by rw [h.non']; exact .base .non
  | .bool b, _, h => by rw [h.bl']; exact .base (.bl b)
  | .int i, _, h => by rw [h.int']; exact .base (.int i)
  | .str z, _, h => by rw [h.str']; exact .base (.str z)
  | .list ds, _, h => by
    obtain ⟨a, xs, rfl, h1, _⟩ := h.lst'
    rcases h1 with (h1 | ⟨o, h1⟩) | ⟨o, its, n, h1, h2, _⟩
    · exact .base (.lst h1)
    · exact .base (.frz h1)
    · exact .kList h1 h2
  | .tuple ds, _, h => by
    obtain ⟨a, xs, rfl, h1, _⟩ := h.tup'
    rcases h1 with (h1 | ⟨o, h1⟩) | ⟨o, its, n, h1, h2, _⟩
    · exact .base (.tup h1)
    · exact .fTuple h1
    · exact .kTuple h1 h2
  | .dict ds, _, h => by obtain ⟨a, xs, rfl, h1⟩ := h.dct'; exact .base (.dK h1)
theorem kIsi_int (h : Rk K H d v) (q : Q (.bl (isIntD d)) H) : rIsi K [v, .ty "int"] H Q := ⟨v, _, _, _, _, rfl, .ty "int", tyk_of h, kit_ty (kit_int d), q⟩
theorem kIsi_bool (h : Rk K H d v) (q : Q (.bl (isBoolD d)) H) : rIsi K [v, .ty "bool"] H Q := ⟨v, _, _, _, _, rfl, .ty "bool", tyk_of h, kit_ty (kit_bool d), q⟩
theorem kIsi_str (h : Rk K H d v) (q : Q (.bl (isStrD d)) H) : rIsi K [v, .ty "str"] H Q := ⟨v, _, _, _, _, rfl, .ty "str", tyk_of h, kit_ty (kit_str d), q⟩
theorem kIsi_tup (h : Rk K H d v) (q : Q (.bl (isTupD d)) H) : rIsi K [v, .ty "tuple"] H Q := ⟨v, _, _, _, _, rfl, .ty "tuple", tyk_of h, kit_ty (kit_tup d), q⟩
theorem kIsiT_seq {p : Addr} (h : Rk K H d v) (hp : H p = none) (q : Q (.bl (isSeqD d)) (upd H p (.tup [.ty "list", .ty "tuple"]))) : rIsiT K [v, .ref p] (upd H p (.tup [.ty "list", .ty "tuple"])) Q := by
  rw [← seq_or] at q
  exact ⟨v, p, _, _, _, _, rfl, upd_same, .cons (.ty "list") (.cons (.ty "tuple") .nil), tyk_of (h.up (Ex.new hp)), kitAny2 (kit_ty (kit_lst d)) (kit_ty (kit_tup d)), q⟩
theorem kseq_of (h : Rk K H d v) (hs : isSeqD d = true) : ∃ a xs, v = .ref a ∧ (SqL K H a xs ∨ SqT K H a xs) ∧ Rks K H (itemsD d) xs := by
  cases d <;> first | cases hs | skip
  · obtain ⟨a, xs, rfl, h1, h2⟩ := h.lst'; exact ⟨a, xs, rfl, .inl h1, h2⟩
  · obtain ⟨a, xs, rfl, h1, h2⟩ := h.tup'; exact ⟨a, xs, rfl, .inr h1, h2⟩
theorem ex_q {H' : Hp} (e : Ex H H') (h : SqL K H a xs ∨ SqT K H a xs) : SqL K H' a xs ∨ SqT K H' a xs := h.imp (ex_l e) (ex_t e)
theorem kixQ {i : Int} (h : SqL K H a xs ∨ SqT K H a xs) (hi : atI xs i = some v) (q : Q v H) : rIxQ K (.ref a) (.int i) H Q := by
  rcases h with h | h
  · exact .inl ⟨a, xs, i, v, rfl, rfl, h, hi, q⟩
  · exact .inr ⟨a, xs, i, v, rfl, rfl, h, hi, q⟩
mutual
theorem kdp_of : ∀ {d : PyData} {v : V}, d.canLay0 = true → Rk K H d v → Dp K H v d
  | .none, _, _, h => by rw [h.non']; exact .non
  | .bool b, _, _, h => by rw [h.bl']; exact .bl b
  | .int i, _, _, h => by rw [h.int']; exact .int i
  | .str z, _, _, h => by rw [h.str']; exact .str z
  | .list ds, _, c, h => by
    obtain ⟨a, xs, rfl, h1, h2⟩ := h.lst'
    exact .lst h1 (kdps_of (by simpa [PyData.canLay0] using c) h2)
  | .tuple ds, _, c, h => by
    obtain ⟨a, xs, rfl, h1, h2⟩ := h.tup'
    exact .tup h1 (kdps_of (by simpa [PyData.canLay0] using c) h2)
  | .dict kv, _, c, h => by simp [PyData.canLay0] at c
theorem kdps_of : ∀ {ds : List PyData} {xs : List V}, PyData.canLayAll0 ds = true → Rks K H ds xs → DpAll K H xs ds
  | [], _, _, h => by rw [h.nil']; exact .nil
  | d :: ds, _, c, h => by
    obtain ⟨v, vs, rfl, h1, h2⟩ := h.cons'
    have c' : d.canLay0 = true ∧ PyData.canLayAll0 ds = true := by simpa [PyData.canLayAll0] using c
    exact .cons (kdp_of c'.1 h1) (kdps_of c'.2 h2)
end
theorem keqD (hd : Rk K H d v) (he : Rk K H e u) (sd : SeqAt.shaped d = true) (se : SeqAt.shaped e = true) (q : Q (.bl (PyData.eqv d e)) H) : rEqD K v u H Q := ⟨d, e, kdp_of (canLay_of sd) hd, kdp_of (canLay_of se) he, sd, se, q⟩
theorem kneD (hd : Rk K H d v) (he : Rk K H e u) (sd : SeqAt.shaped d = true) (se : SeqAt.shaped e = true) (q : Q (.bl (!PyData.eqv d e)) H) : rNeD K v u H Q := ⟨d, e, kdp_of (canLay_of sd) hd, kdp_of (canLay_of se) he, sd, se, q⟩
end
end SF

/-! SF9: for over data of either kind, zip of two tuples, tuple(..) of data, is of a bool, str of an int. -/
namespace SF
open PySem PySem.Spec PyProof.Rows L2
abbrev rStrI : List V → Hp → VK → Prop := fun xs H Q => ∃ i, xs = [.int i] ∧ i.natAbs.log2 < 1920 ∧ Q (.str (toString i)) H
section
variable {K : Fg} {H S : Hp} {d : PyData} {ds : List PyData} {v : V} {xs ys : List V} {a b : Addr} {g : TG} {tb : TS} {D : Ends} {σ : L2.St} {Q : VK}
theorem kfor_seqQ (hv : SqL K S a xs ∨ SqT K S a xs) (eS : Ex S H) (Pv : Nat → L2.St → Hp → Prop) (h0 : Pv 0 σ H) (hx : ∀ i σ H', Pv i σ H' → Ex S H')
    (hs : ∀ i x σ H', xs[i]? = some x → Pv i σ H' → g x σ H' fun σ2 H2 => tb { D with nx := Pv (i + 1), ct := Pv (i + 1), bk := D.nx } σ2 H2) (hd : ∀ σ H', Pv xs.length σ H' → D.nx σ H') :
    ∃ a', V.ref a = .ref a' ∧ (((∃ xs, SqL K H a' xs) ∧ ∃ W : Nat → Nat → L2.St → Hp → Prop, (∃ m, W 0 m σ H) ∧ ∀ i m σ H, W i m σ H → ((Itl K a').stop i H ∧ D.nx σ H) ∨ ((Itl K a').go i H ∧ ∃ N : L2.St → Hp → Prop, (∀ σ' H', N σ' H' → ∃ m', m' < m ∧ W (i + 1) m' σ' H') ∧ ∀ x H', (Itl K a').yld i H x H' → g x σ H' fun σ2 H2 => tb { D with nx := N, ct := N, bk := D.nx } σ2 H2)) ∨
      ((∃ xs, SqT K H a' xs) ∧ ∃ W : Nat → Nat → L2.St → Hp → Prop, (∃ m, W 0 m σ H) ∧ ∀ i m σ H, W i m σ H → ((Itt K a').stop i H ∧ D.nx σ H) ∨ ((Itt K a').go i H ∧ ∃ N : L2.St → Hp → Prop, (∀ σ' H', N σ' H' → ∃ m', m' < m ∧ W (i + 1) m' σ' H') ∧ ∀ x H', (Itt K a').yld i H x H' → g x σ H' fun σ2 H2 => tb { D with nx := N, ct := N, bk := D.nx } σ2 H2))) := by
  refine ⟨a, rfl, ?_⟩
  rcases hv with hv | hv
  · exact .inl ⟨⟨_, ex_l eS hv⟩, for_list (K := K) (a := a) (xs := xs) Pv h0 (fun i σ H' _ p => ex_l (hx i σ H' p) hv) hs hd⟩
  · exact .inr ⟨⟨_, ex_t eS hv⟩, for_tup (K := K) (a := a) (xs := xs) Pv h0 (fun i σ H' _ p => ex_t (hx i σ H' p) hv) hs hd⟩
theorem walk_zipT {n : Nat} (hn : n = min xs.length ys.length) : Walk (RZ.ItzT K a b) n (fun H => SqT K H a xs ∧ SqT K H b ys) (YPair (fun i => xs[i]?) (fun i => ys[i]?)) := by
  subst hn
  refine ⟨fun i _ hi q => ?_, fun _ q => ⟨xs, ys, q.1, q.2, by omega⟩, fun i H v H' _ q y => ?_⟩
  · obtain ⟨x, hx⟩ := some_at (l := xs) (i := i) (by omega)
    obtain ⟨y, hy⟩ := some_at (l := ys) (i := i) (by omega)
    exact ⟨xs, ys, x, y, q.1, q.2, hx, hy⟩
  · obtain ⟨T, x, y, e, hn, e2, h1, h2⟩ := y
    exact ⟨T, x, y, e, hn, e2, h1 xs q.1, h2 ys q.2⟩
/-- tuple(x) -/
theorem tupQ_of (hv : SqL K H a xs ∨ SqT K H a xs) (hr : Rks K H ds xs) (k : ∀ H' u, Ex H H' → Rk K H' (.tuple ds) u → Q u H') : rTupQ K [.ref a] H Q := by
  rcases hv with hv | hv
  · exact ⟨a, xs, rfl, .inl ⟨hv, fun l hl => k _ _ (Ex.new hl) (.tup (.of upd_same) (hr.up (Ex.new hl)))⟩⟩
  · exact ⟨a, xs, rfl, .inr ⟨hv, k _ _ (Ex.refl _) (.tup hv hr)⟩⟩
/-- list(x) -/
theorem lstQ_of (hv : SqL K H a xs ∨ SqT K H a xs) (k : ∀ l, H l = none → Q (.ref l) (upd H l (.lst xs))) : rListQ K [.ref a] H Q := ⟨a, xs, rfl, hv, k⟩
/-- x + y of tuples -/
theorem catA_of {x y : V} {es : List PyData} (hx : Rk K H (.tuple ds) x) (hy : Rk K H (.tuple es) y) (hl : ds.length + es.length ≤ sizeLine) (k : ∀ H' u, Ex H H' → Rk K H' (.tuple (ds ++ es)) u → Q u H') : rCatA K x y H Q := by
  obtain ⟨a, xs, rfl, h1, h2⟩ := hx.tup'
  obtain ⟨b, ys, rfl, h3, h4⟩ := hy.tup'
  refine ⟨a, b, xs, ys, rfl, rfl, h1, h3, by rw [h2.length, h4.length]; exact hl, fun e => ?_, fun _ e => ?_, fun _ _ p hp => ?_⟩
  · subst e
    cases ds with
    | nil => exact k _ _ (Ex.refl _) (.tup h3 h4)
    | cons d ds => have := h2.length; simp at this
  · subst e
    cases es with
    | nil => rw [List.append_nil] at k; exact k _ _ (Ex.refl _) (.tup h1 h2)
    | cons d es => have := h4.length; simp at this
  · exact k _ _ (Ex.new hp) (.tup (.of upd_same) ((h2.append h4).up (Ex.new hp)))
end
end SF

/-! PH: the law's hand: what its defs promise. -/
namespace SF
open PySem L2
def lstI (l : List Int) : HO := .lst (l.map .int)
/-- the hand: cells at c, place, rest, total -/
def handO (c : Addr) (p q t : Int) : HO := .lst [.ref c, .int p, .int q, .int t]
def IsHand (c : Addr) (o : HO) : Prop := ∃ p q t, o = handO c p q t ∧ 0 ≤ p
def sp_law_hand (K : Fg) : Sp := fun vs H Q _ => ∃ a, ∃ cells : List Int, vs = [.ref a] ∧ SqL K H a (cells.map .int) ∧ cells.length ≤ 100 ∧
  ∀ H' h c o cs, Ex H H' → H h = none → H c = none → h ≠ c → H' h = some o → IsHand c o → H' c = some (lstI cs) → Q (.ref h) H'
theorem len_law_hand {K vs H Q E} (h : sp_law_hand K vs H Q E) : vs.length = 1 := by obtain ⟨_, _, rfl, _⟩ := h; rfl
def sp_law_mix : Sp := fun vs H Q _ => ∃ i j, vs = [.int i, .int j] ∧ ∀ H' r, Ex H H' → 0 ≤ r → Q (.int r) H'
theorem len_law_mix {vs H Q E} (h : sp_law_mix vs H Q E) : vs.length = 2 := by obtain ⟨_, _, rfl, _⟩ := h; rfl
def sp_law_draw (K : Fg) : Sp := fun vs H Q _ => ∃ a c o cs many, vs = [.ref a, .int many] ∧ H a = some o ∧ IsHand c o ∧ H c = some (lstI cs) ∧ (0 < many ∧ many < 1073741824) ∧
  ∀ H' o' x, But a H H' → H' a = some o' → IsHand c o' → 0 ≤ x → x < many → Q (.int x) H'
theorem len_law_draw {K vs H Q E} (h : sp_law_draw K vs H Q E) : vs.length = 2 := by obtain ⟨_, _, _, _, _, rfl, _⟩ := h; rfl
end SF


namespace SF
open PySem L2
def t_law_mix (K : Fg) (E : XK) : TS :=
    tSeq (tAsg (fun σ H Q => ∃ v1, σ[0]? = some (some v1) ∧ oMul v1 (V.int 69069) H (fun x1 h1 => ∃ v2, σ[1]? = some (some v2) ∧ oMul v2 (V.int 30011) h1 (fun x2 h2 => oAdd x1 x2 h2 (fun x3 h3 => oAdd x3 (V.int 7) h3 (fun x4 h4 => rInt1 [x4] h4 (fun x5 h5 => oMod x5 (V.int 2147483629) h5 Q)))))) (gName 2))
    (tSeq (tAsg (fun σ H Q => ∃ v3, σ[2]? = some (some v3) ∧ ∃ v4, σ[2]? = some (some v4) ∧ oMul v3 v4 H (fun x6 h6 => ∃ v5, σ[1]? = some (some v5) ∧ oMul v5 (V.int 40503) h6 (fun x7 h7 => oAdd x6 x7 h7 (fun x8 h8 => ∃ v6, σ[2]? = some (some v6) ∧ oFdiv v6 (V.int 977) h8 (fun x9 h9 => oAdd x8 x9 h9 (fun x10 h10 => rInt1 [x10] h10 (fun x11 h11 => oMod x11 (V.int 2147483587) h11 Q))))))) (gName 3))
    (tRet (fun σ H Q => ∃ v7, σ[3]? = some (some v7) ∧ oMul v7 (V.int 48271) H (fun x12 h12 => ∃ v8, σ[2]? = some (some v8) ∧ oAdd x12 v8 h12 (fun x13 h13 => rInt1 [x13] h13 (fun x14 h14 => oMod x14 (V.int 2147483563) h14 (fun x15 h15 => oFdiv x15 (V.int 8) h15 Q)))))))

abbrev e_law_draw_1 (K : Fg) (E : XK) : TE := (fun σ H Q => ∃ v1, σ[0]? = some (some v1) ∧ rIxL K v1 (V.int 0) H (fun x1 h1 => ∃ v2, σ[0]? = some (some v2) ∧ rIxL K v2 (V.int 1) h1 (fun x2 h2 => rIxL K x1 x2 h2 Q)))
abbrev e_law_draw_2 (K : Fg) (E : XK) : TE := (fun σ H Q => ∃ v4, σ[0]? = some (some v4) ∧ rIxL K v4 (V.int 1) H (fun x3 h3 => oAdd x3 (V.int 1) h3 Q))
abbrev e_law_draw_3 (K : Fg) (E : XK) : TE := (fun σ H Q => ∃ v5, σ[2]? = some (some v5) ∧ rInt1 [v5] H (fun x4 h4 => oMod x4 (V.int 2147483629) h4 (fun x5 h5 => ∃ v6, σ[0]? = some (some v6) ∧ rIxL K v6 (V.int 1) h5 (fun x6 h6 => sp_law_mix [x5, x6] h6 (fun x7 h7 => rInt1 [x7] h7 (fun x8 h8 => ∃ v7, σ[1]? = some (some v7) ∧ oMod x8 v7 h8 Q)) E0))))
abbrev e_law_draw_4 (K : Fg) (E : XK) : TT := (fun σ H Q => ∃ v8, σ[2]? = some (some v8) ∧ oPow (V.int 10) (V.int 18) H (fun x9 h9 => oLt v8 x9 h9 (fun x10 h10 => ∃ c1, x10 = .bl c1 ∧ Q c1 h10)))
abbrev e_law_draw_5 (K : Fg) (E : XK) : TT := (fun σ H Q => ∃ v11, σ[0]? = some (some v11) ∧ rIxL K v11 (V.int 2) H (fun x11 h11 => rEq x11 (V.int 0) h11 (fun x12 h12 => ∃ c2, x12 = .bl c2 ∧ if c2 = true then ∃ v12, σ[0]? = some (some v12) ∧ rIxL K v12 (V.int 1) h12 (fun x13 h13 => ∃ v13, σ[0]? = some (some v13) ∧ rIxL K v13 (V.int 0) h13 (fun x14 h14 => rLenQ K [x14] h14 (fun x15 h15 => oLt x13 x15 h15 (fun x16 h16 => ∃ c3, x16 = .bl c3 ∧ Q c3 h16)))) else Q false h12)))
abbrev e_law_draw_6 (K : Fg) (E : XK) : TE := (fun σ H Q => ∃ v14, σ[0]? = some (some v14) ∧ rIxL K v14 (V.int 2) H Q)
abbrev e_law_draw_7 (K : Fg) (E : XK) : TE := (fun σ H Q => ∃ v16, σ[3]? = some (some v16) ∧ ∃ v17, σ[1]? = some (some v17) ∧ oFdiv v16 v17 H Q)
abbrev e_law_draw_8 (K : Fg) (E : XK) : TE := (fun σ H Q => ∃ v18, σ[3]? = some (some v18) ∧ rInt1 [v18] H (fun x17 h17 => ∃ v19, σ[1]? = some (some v19) ∧ oMod x17 v19 h17 Q))
abbrev e_law_draw_9 (K : Fg) (E : XK) : TT := (fun σ H Q => ∃ v20, σ[0]? = some (some v20) ∧ rIxL K v20 (V.int 2) H (fun x18 h18 => oGt x18 (V.int 0) h18 (fun x19 h19 => ∃ c4, x19 = .bl c4 ∧ Q c4 h19)))
abbrev e_law_draw_10 (K : Fg) (E : XK) : TE := (fun σ H Q => ∃ v22, σ[0]? = some (some v22) ∧ rIxL K v22 (V.int 3) H (fun x20 h20 => oAdd x20 (V.int 1) h20 (fun x21 h21 => rInt1 [x21] h21 (fun x22 h22 => oMod x22 (V.int 2147483549) h22 Q))))
abbrev e_law_draw_11 (K : Fg) (E : XK) : TE := (fun σ H Q => ∃ v23, σ[0]? = some (some v23) ∧ rIxL K v23 (V.int 3) H (fun x23 h23 => ∃ v24, σ[0]? = some (some v24) ∧ rIxL K v24 (V.int 1) h23 (fun x24 h24 => sp_law_mix [x23, x24] h24 (fun x25 h25 => rInt1 [x25] h25 (fun x26 h26 => ∃ v25, σ[1]? = some (some v25) ∧ oMod x26 v25 h26 Q)) E0)))
def t_law_draw_1 (K : Fg) (E : XK) : TS :=
    tAsg (fun σ H Q => ∃ v10, σ[2]? = some (some v10) ∧ Q v10 H) (fun v σ H Q => ∃ v9, σ[0]? = some (some v9) ∧ rSetL v9 (V.int 2) v H (fun h9 => Q σ h9))
def t_law_draw_2 (K : Fg) (E : XK) : TS :=
    tSeq (tAsg (e_law_draw_10 K E) (fun v σ H Q => ∃ v21, σ[0]? = some (some v21) ∧ rSetL v21 (V.int 3) v H (fun h9 => Q σ h9)))
    (tRet (e_law_draw_11 K E))
def t_law_draw_3 (K : Fg) (E : XK) : TS :=
    tSeq (tIfS (e_law_draw_9 K E)
      (tSeq (tAsg (e_law_draw_6 K E) (gName 3))
        (tSeq (tAsg (e_law_draw_7 K E) (fun v σ H Q => ∃ v15, σ[0]? = some (some v15) ∧ rSetL v15 (V.int 2) v H (fun h9 => Q σ h9)))
        (tRet (e_law_draw_8 K E))))
      (tNext))
    (t_law_draw_2 K E)
def t_law_draw (K : Fg) (E : XK) : TS :=
    tSeq (tIfS (e_law_draw_5 K E)
      (tSeq (tAsg (e_law_draw_1 K E) (gName 2))
        (tSeq (tAsg (e_law_draw_2 K E) (fun v σ H Q => ∃ v3, σ[0]? = some (some v3) ∧ rSetL v3 (V.int 1) v H (fun h9 => Q σ h9)))
        (tSeq (tIfS (e_law_draw_4 K E)
          (tRet (e_law_draw_3 K E))
          (tNext))
        (t_law_draw_1 K E))))
      (tNext))
    (t_law_draw_3 K E)

abbrev e_law_hand_1 (K : Fg) (E : XK) : TE := (fun σ H Q => ∃ v6, σ[3]? = some (some v6) ∧ rInt1 [v6] H (fun x7 h7 => rAbs [x7] h7 Q))
def t_law_hand_1 (K : Fg) (E : XK) : TS :=
    tAsg (fun σ H Q => ∃ v2, σ[1]? = some (some v2) ∧ oMul v2 (V.int 41) H (fun x1 h1 => ∃ v3, σ[3]? = some (some v3) ∧ rInt1 [v3] h1 (fun x2 h2 => ∃ v4, σ[2]? = some (some v4) ∧ oAdd v4 (V.int 3) h2 (fun x3 h3 => oMul x2 x3 h3 (fun x4 h4 => oAdd x1 x4 h4 (fun x5 h5 => rInt1 [x5] h5 (fun x6 h6 => oMod x6 (V.int 2147483549) h6 Q))))))) (gName 1)
def t_law_hand (K : Fg) (E : XK) : TS :=
    tSeq (tAsg (fun σ H Q => Q (V.int 0) H) (gName 1))
    (tSeq (tFor (iEnum K (fun σ H Q => ∃ v1, σ[0]? = some (some v1) ∧ Q [v1] H)) (gTup K 2 (gCons (gName 2) (gCons (gName 3) gNil)))
      (t_law_hand_1 K E))
    (tRet (fun σ H Q => tLc (fun σ H R => ∃ v5, σ[0]? = some (some v5) ∧ ∃ a, v5 = .ref a ∧ (∃ xs, SqL K H a xs) ∧ R (Itl K a) H) (gName 3) tYes (e_law_hand_1 K E) [3] σ H (fun x8 h8 => ∃ v7, σ[1]? = some (some v7) ∧ 4 ≤ sizeLine ∧ ∀ p1, h8 p1 = none → Q (V.ref p1) (upd h8 p1 (.lst [x8, (V.int 0), (V.int 0), v7]))))))

end SF

/-! RH: the readings of the law's hand and its draws. -/
namespace SF
open PySem L2
theorem szl {n : Nat} (h : n ≤ 100000) : n < sizeLine := Nat.lt_of_le_of_lt h (by decide)
theorem sz {n : Nat} (h : n ≤ 100000) : n ≤ sizeLine := Nat.le_trans h (by decide)
theorem int_item {ns : List Int} {i : Nat} {x : V} (h : (ns.map V.int)[i]? = some x) : ∃ z, ns[i]? = some z ∧ x = .int z := by
  rw [List.getElem?_map] at h
  obtain ⟨z, h1, h2⟩ := Option.map_eq_some_iff.mp h
  exact ⟨z, h1, h2.symm⟩
theorem at_int {xs : List V} {x : Int} {v : V} (h0 : 0 ≤ x) (h : xs[x.toNat]? = some v) : atI xs x = some v := at_of (by omega) h
theorem Owns.put {S H : Hp} {l : List (Addr × HO)} {a : Addr} {o : HO} (w : Owns S H l) (h : H a = .none) : ∃ S', Ex S S' ∧ S' a = some o ∧ Owns S' (upd H a o) l := ⟨_, w.growEx h, upd_same, w.grow h⟩
section
variable {K : Fg} {vs : List V} {H : Hp} {Q : VK} {E : XK}
theorem rd_law_mix (h : sp_law_mix vs H Q E) : t_law_mix K E { nx := fun _ H' => Q .non H', rt := Q } (start ["_law_number", "_law_turn", "_law_once", "_law_twice"] vs) H := by
  obtain ⟨i, j, rfl, k⟩ := h
  refine ⟨_, rfl, _, _, rfl, rfl, .inr (by decide), _, rfl, _, _, rfl, rfl, .inr (by decide), _, _, rfl, rfl, _, _, rfl, rfl, .inl ⟨_, rfl, _, _, rfl, rfl, (by show (0 : Int) < _; decide), ?_⟩⟩
  generalize hx : (i * 69069 + j * 30011 + 7) % 2147483629 = x
  have x0 : 0 ≤ x ∧ x < 2147483629 := by omega
  refine ⟨_, rfl, _, rfl, _, _, rfl, rfl, .inl ⟨by omega, by omega⟩, _, rfl, _, _, rfl, rfl, .inr (by decide), _, _, rfl, rfl, _, rfl, _, _, rfl, rfl, ⟨by decide, by decide⟩, _, _, rfl, rfl, .inl ⟨_, rfl, _, _, rfl, rfl, (by show (0 : Int) < _; decide), ?_⟩⟩
  generalize hy : (x * x + j * 40503 + x / 977) % 2147483587 = y
  refine ⟨_, rfl, _, _, rfl, rfl, .inr (by decide), _, rfl, _, _, rfl, rfl, .inl ⟨_, rfl, _, _, rfl, rfl, (by show (0 : Int) < _; decide), _, _, rfl, rfl, ⟨by decide, by decide⟩, k _ _ (Ex.refl _) (by omega)⟩⟩
theorem rd_law_hand (h : sp_law_hand K vs H Q E) : t_law_hand K E { nx := fun _ H' => Q .non H', rt := Q } (start ["_law_script", "_law_total", "_law_k", "_law_cell"] vs) H := by
  obtain ⟨a, cells, rfl, ha, hl, k⟩ := h
  refine ⟨_, rfl, a, _, rfl, ha, for_it (walk_enum (xs := cells.map V.int)) (fun i σ H' => Ex H H' ∧ ∃ t : Int, ∃ u2 u3, σ = [some (.ref a), some (.int t), u2, u3]) ⟨Ex.refl _, _, _, _, rfl⟩ (fun i σ H' _ p => ex_l p.1 ha) ?_ ?_⟩
  · rintro i x σ H1 H2 hi ⟨e1, t, u2, u3, rfl⟩ ⟨T, x1, x2, rfl, hT, rfl, hx1, hx2⟩
    cases hx1
    obtain ⟨z, hz, rfl⟩ := int_item hx2
    rw [List.length_map] at hi
    refine ⟨T, _, rfl, .of upd_same, rfl, _, _, rfl, _, _, rfl, rfl, ?_⟩
    exact ⟨_, rfl, _, _, rfl, rfl, .inr (by decide), _, rfl, .inl ⟨_, rfl, _, rfl, _, _, rfl, rfl, _, _, rfl, rfl, .inr ⟨by omega, by omega⟩, _, _, rfl, rfl, .inl ⟨_, rfl, _, _, rfl, rfl, (by show (0 : Int) < _; decide), e1.trans (Ex.new hT), _, _, _, rfl⟩⟩⟩
  · rintro σ H1 ⟨e1, t, u2, u3, rfl⟩
    refine ⟨_, rfl, a, rfl, ⟨_, ex_l e1 ha⟩, fun D hD => lc_list (K := K) (a := a) (xs := cells.map .int) (fun j H' => ∃ acc, acc.length ≤ j ∧ Owns H1 H' [(D, lstI acc)]) ⟨[], Nat.le_refl _, (Owns.none H1).new hD⟩ (fun j H' _ ⟨_, _, w⟩ => ex_l (e1.trans w.ex) ha) ?_ ?_⟩
    · rintro j x H2 hx ⟨acc, hacc, w⟩
      obtain ⟨z, hz, rfl⟩ := int_item hx
      have hj := (List.getElem?_eq_some_iff.mp hz).1
      refine ⟨rfl, _, rfl, .inl ⟨_, rfl, _, rfl, _, w.get 0, szl (by rw [List.length_map]; omega), acc ++ [if z < 0 then -z else z], by rw [List.length_append, List.length_singleton]; omega, ?_⟩⟩
      have := w.write (o' := .lst (acc.map .int ++ [.int (if z < 0 then -z else z)])) 0
      unfold lstI
      rw [List.map_append]
      exact this
    · rintro H2 ⟨acc, hacc, w⟩
      refine ⟨_, rfl, (by show 4 ≤ sizeLine; decide), fun p hp => ?_⟩
      have w1 := w.new (o := handO D 0 0 t) hp
      exact k _ p D (handO D 0 0 t) acc (e1.trans w1.ex) (e1.free (w1.offA 0)) (e1.free (w1.offA 1)) (fun e => by subst e; rw [w.get 0] at hp; cases hp) (w1.get 0) ⟨0, 0, t, rfl, Int.le_refl 0⟩ (w1.get 1)
theorem dr_2 {a c : Addr} {cs : List Int} {many p q t : Int} {H1 : Hp} {D : Ends} {u2 u3 : Option V} (hm : 0 < many ∧ many < 1073741824) (b : But a H H1) (h1 : H1 a = some (handO c p q t)) (h0 : 0 ≤ p)
    (k : ∀ H' o' x, But a H H' → H' a = some o' → IsHand c o' → 0 ≤ x → x < many → D.rt (.int x) H') : t_law_draw_2 K E D [some (.ref a), some (.int many), u2, u3] H1 := by
  refine ⟨_, rfl, a, _, 3, _, rfl, rfl, .of h1, by rfl, _, _, rfl, rfl, .inl ⟨_, rfl, _, _, rfl, rfl, (by show (0 : Int) < _; decide), _, rfl, a, _, 3, 3, rfl, rfl, h1, by rfl, ?_⟩⟩
  have h2 : (upd H1 a (handO c p q ((t + 1) % 2147483549))) a = some (handO c p q ((t + 1) % 2147483549)) := upd_same
  refine ⟨_, rfl, a, _, 3, _, rfl, rfl, .of h2, by rfl, _, rfl, a, _, 1, _, rfl, rfl, .of h2, by rfl, _, _, rfl, fun H' r e hr => .inl ⟨_, rfl, _, rfl, _, _, rfl, rfl, hm.1, ?_⟩⟩
  exact k _ _ _ (b.trans (But.upd.trans (But.of e))) (e _ _ h2) ⟨_, _, _, rfl, h0⟩ (Int.emod_nonneg _ (by omega)) (Int.emod_lt_of_pos _ hm.1)
theorem dr_3 {a c : Addr} {cs : List Int} {many p q t : Int} {H1 : Hp} {D : Ends} {u2 u3 : Option V} (hm : 0 < many ∧ many < 1073741824) (b : But a H H1) (h1 : H1 a = some (handO c p q t)) (h0 : 0 ≤ p)
    (k : ∀ H' o' x, But a H H' → H' a = some o' → IsHand c o' → 0 ≤ x → x < many → D.rt (.int x) H') : t_law_draw_3 K E D [some (.ref a), some (.int many), u2, u3] H1 := by
  refine ⟨_, rfl, a, _, 2, _, rfl, rfl, .of h1, by rfl, _, _, rfl, rfl, _, rfl, iteB (fun _ => ?_) (fun _ => dr_2 (cs := cs) hm b h1 h0 k)⟩
  refine ⟨_, rfl, a, _, 2, _, rfl, rfl, .of h1, by rfl, _, rfl, _, rfl, _, _, rfl, rfl, hm, _, rfl, a, _, 2, 2, rfl, rfl, h1, by rfl, ?_⟩
  have h2 : (upd H1 a (handO c p (q / many) t)) a = some (handO c p (q / many) t) := upd_same
  exact ⟨_, rfl, .inl ⟨_, rfl, _, rfl, _, _, rfl, rfl, hm.1, k _ _ _ (b.trans But.upd) h2 ⟨_, _, _, rfl, h0⟩ (Int.emod_nonneg _ (by omega)) (Int.emod_lt_of_pos _ hm.1)⟩⟩
theorem rd_law_draw (h : sp_law_draw K vs H Q E) : t_law_draw K E { nx := fun _ H' => Q .non H', rt := Q } (start ["_law_hand_here", "_law_many", "_law_cell", "_law_rest"] vs) H := by
  obtain ⟨a, c, o, cs, many, rfl, ha, ⟨p, q, t, rfl, h0⟩, hc, hm, k⟩ := h
  refine ⟨_, rfl, a, _, 2, _, rfl, rfl, .of ha, by rfl, rfl, _, rfl, iteB (fun _ => ?_) (fun _ => iteF (dr_3 (cs := cs) hm (But.of (Ex.refl H)) ha h0 k))⟩
  refine ⟨_, rfl, a, _, 1, _, rfl, rfl, .of ha, by rfl, _, rfl, a, _, 0, _, rfl, rfl, .of ha, by rfl, c, _, rfl, .inl (.of hc), _, _, rfl, rfl, _, rfl, iteD (fun hlt => ?_) (fun _ => dr_3 (cs := cs) hm (But.of (Ex.refl H)) ha h0 k)⟩
  rw [List.length_map] at hlt
  obtain ⟨z, hz⟩ := some_at (l := cs) (i := p.toNat) (by omega)
  refine ⟨_, rfl, a, _, 0, _, rfl, rfl, .of ha, by rfl, _, rfl, a, _, 1, _, rfl, rfl, .of ha, by rfl, c, _, p, _, rfl, rfl, .of hc, atZ h0 hz, ?_⟩
  refine ⟨_, rfl, a, _, 1, _, rfl, rfl, .of ha, by rfl, _, _, rfl, rfl, _, rfl, a, _, 1, 1, rfl, rfl, ha, by rfl, ?_⟩
  have h2 : (upd H a (handO c (p + 1) q t)) a = some (handO c (p + 1) q t) := upd_same
  refine ⟨_, rfl, _, _, rfl, rfl, ⟨by decide, by decide, by decide⟩, _, _, rfl, rfl, _, rfl, iteB (fun _ => ?_) (fun _ => ?_)⟩
  · refine ⟨_, rfl, .inl ⟨_, rfl, _, _, rfl, rfl, (by show (0 : Int) < _; decide), _, rfl, a, _, 1, _, rfl, rfl, .of h2, by rfl, _, _, rfl, fun H' r e hr => .inl ⟨_, rfl, _, rfl, _, _, rfl, rfl, hm.1, ?_⟩⟩⟩
    exact k _ _ _ (But.upd.trans (But.of e)) (e _ _ h2) ⟨_, _, _, rfl, by omega⟩ (Int.emod_nonneg _ (by omega)) (Int.emod_lt_of_pos _ hm.1)
  · refine ⟨_, rfl, _, rfl, a, _, 2, 2, rfl, rfl, h2, by rfl, ?_⟩
    have h3 : (upd (upd H a (handO c (p + 1) q t)) a (handO c (p + 1) z t)) a = some (handO c (p + 1) z t) := upd_same
    exact dr_3 (cs := cs) hm (But.upd.trans But.upd) h3 (by omega) k
/-- a draw, by one who owns the hand -/
theorem draw_of {S : Hp} {l : List (Addr × HO)} {a c : Addr} {o : HO} {cs : List Int} {many : Int} (w : Owns S H ((a, o) :: l)) (ho : IsHand c o) (hc : S c = some (lstI cs)) (hm : 0 < many ∧ many < 1073741824)
    (q : ∀ H' o' x, Owns S H' ((a, o') :: l) → IsHand c o' → 0 ≤ x → x < many → Q (.int x) H') : sp_law_draw K [.ref a, .int many] H Q E :=
  ⟨a, c, o, cs, many, rfl, w.get 0, ho, w.ex _ _ hc, hm, fun H' o' x b h' ho' x0 x1 => q H' o' x (w.write' 0 rfl b h') ho' x0 x1⟩
end
end SF

/-! PW: wholes.py over data with constants (Rk): what it promises; small plain lemmas; errors of one field. -/
namespace SF
open PySem L2
def optV : Option Int → V | none => .non | some i => .int i
def isWholeD (lo hi : Option Int) : PyData → Bool
  | .int i => (match lo with | none => true | some l => decide (l ≤ i)) && (match hi with | none => true | some h => decide (i ≤ h))
  | _ => false
def sp_is_whole (K : Fg) : Sp := fun vs H Q _ => ∃ d v lo hi, vs = [v, optV lo, optV hi] ∧ Rk K H d v ∧ ∀ H', Ex H H' → Q (.bl (isWholeD lo hi d)) H'
theorem len_is_whole {K vs H Q E} (h : sp_is_whole K vs H Q E) : vs.length = 3 := by obtain ⟨_, _, _, _, rfl, _⟩ := h; rfl
def sp_is_sequence (K : Fg) : Sp := fun vs H Q _ => ∃ d v, vs = [v] ∧ Rk K H d v ∧ ∀ H', Ex H H' → Q (.bl (isSeqD d)) H'
theorem len_is_sequence {K vs H Q E} (h : sp_is_sequence K vs H Q E) : vs.length = 1 := by obtain ⟨_, _, rfl, _⟩ := h; rfl
/-- the first place where f does not hold -/
def firstNot (f : PyData → Bool) (l : List PyData) : Option Nat := l.findIdx? fun d => !f d
theorem firstNot_all {f : PyData → Bool} {l : List PyData} : firstNot f l = none ↔ ∀ d ∈ l, f d = true := by
  unfold firstNot
  rw [List.findIdx?_eq_none_iff]
  constructor
  · intro h d hd; have := h d hd; simpa using this
  · intro h d hd; have := h d hd; simpa using this
theorem firstNot_some {f : PyData → Bool} {l : List PyData} {i : Nat} {d : PyData} (hd : l[i]? = some d) (hf : f d = false) (hb : ∀ j < i, ∀ e, l[j]? = some e → f e = true) : firstNot f l = some i := by
  unfold firstNot
  obtain ⟨hi, e⟩ := List.getElem?_eq_some_iff.mp hd
  rw [List.findIdx?_eq_some_iff_getElem]
  refine ⟨hi, by rw [e]; simp [hf], fun j hj => ?_⟩
  have := hb j hj _ (List.getElem?_eq_getElem (by omega))
  simp [this]
/-- what is wanted where c(i) is raised, f the error's field -/
def BadOne (K : Fg) (H : Hp) (E : XK) (c f : Str) (i : Int) : Prop := ∀ H' d, Ex H H' → H' d = some (.xd (exFs [f] [.int i])) → E (.ref (ga K c)) (some d) H'
theorem BadOne.up {K : Fg} {H H1 : Hp} {E : XK} {c f : Str} {i : Int} (b : BadOne K H E c f i) (e : Ex H H1) : BadOne K H1 E c f i := fun H' d e1 h => b H' d (e.trans e1) h
end SF


namespace SF
open PySem L2
def t_is_whole_1 (K : Fg) (E : XK) : TS :=
    tRet (fun σ H Q => ∃ v6, σ[2]? = some (some v6) ∧ oIsN v6 V.non H (fun x5 h5 => ∃ c5, x5 = .bl c5 ∧ if c5 = true then Q (V.bl true) h5 else ∃ v7, σ[0]? = some (some v7) ∧ ∃ v8, σ[2]? = some (some v8) ∧ oLe v7 v8 h5 Q))
def t_is_whole_2 (K : Fg) (E : XK) : TS :=
    tSeq (tIfS (fun σ H Q => ∃ v3, σ[1]? = some (some v3) ∧ oNotN v3 V.non H (fun x3 h3 => ∃ c3, x3 = .bl c3 ∧ if c3 = true then ∃ v4, σ[0]? = some (some v4) ∧ ∃ v5, σ[1]? = some (some v5) ∧ oLt v4 v5 h3 (fun x4 h4 => ∃ c4, x4 = .bl c4 ∧ Q c4 h4) else Q false h3))
      (tRet (fun σ H Q => Q (V.bl false) H))
      (tNext))
    (t_is_whole_1 K E)
def t_is_whole (K : Fg) (E : XK) : TS :=
    tSeq (tIfS (fun σ H Q => ∃ v1, σ[0]? = some (some v1) ∧ rIsi K [v1, (V.ty "int")] H (fun x1 h1 => ∃ c1, x1 = .bl c1 ∧ if (!c1) = true then Q true h1 else ∃ v2, σ[0]? = some (some v2) ∧ rIsi K [v2, (V.ty "bool")] h1 (fun x2 h2 => ∃ c2, x2 = .bl c2 ∧ Q c2 h2)))
      (tRet (fun σ H Q => Q (V.bl false) H))
      (tNext))
    (t_is_whole_2 K E)

def t_is_sequence (K : Fg) (E : XK) : TS :=
    tRet (fun σ H Q => ∃ v1, σ[0]? = some (some v1) ∧ 2 ≤ sizeLine ∧ ∀ p1, H p1 = none → rIsiT K [v1, (V.ref p1)] (upd H p1 (.tup [(V.ty "list"), (V.ty "tuple")])) Q)

end SF

/-! RW: the readings of wholes.py. -/
namespace SF
open PySem L2
section
variable {K : Fg} {vs : List V} {H : Hp} {Q : VK} {E : XK}
theorem rd_is_whole (h : sp_is_whole K vs H Q E) : t_is_whole K E { nx := fun _ H' => Q .non H', rt := Q } (start ["thing", "low", "high"] vs) H := by
  obtain ⟨d, v, lo, hi, rfl, hd, k⟩ := h
  have k0 := k H (Ex.refl H)
  refine ⟨_, rfl, kIsi_int hd ⟨_, rfl, ?_⟩⟩
  cases d <;> try (exact iteT (iteT k0))
  case bool b => exact iteF ⟨_, rfl, kIsi_bool hd ⟨_, rfl, iteT k0⟩⟩
  case int i =>
    cases hd.int'
    refine iteF ⟨_, rfl, kIsi_bool hd ⟨_, rfl, iteF ?_⟩⟩
    have fin : (∀ h, hi = some h → Q (.bl (decide (i ≤ h))) H) → (hi = none → Q (.bl true) H) → tRet (fun σ H Q => ∃ v6, σ[2]? = some (some v6) ∧ oIsN v6 .non H (fun x5 h5 => ∃ c5, x5 = .bl c5 ∧ if c5 = true then Q (.bl true) h5 else ∃ v7, σ[0]? = some (some v7) ∧ ∃ v8, σ[2]? = some (some v8) ∧ oLe v7 v8 h5 Q)) { nx := fun _ H' => Q .non H', rt := Q } (start ["thing", "low", "high"] [.int i, optV lo, optV hi]) H := by
      intro f1 f2
      refine ⟨_, rfl, rfl, _, rfl, ?_⟩
      cases hi with
      | none => exact iteT (f2 rfl)
      | some h => exact iteF ⟨_, rfl, _, rfl, _, _, rfl, rfl, f1 h rfl⟩
    refine ⟨_, rfl, rfl, _, rfl, ?_⟩
    cases lo with
    | none =>
      refine iteF (iteF (fin (fun h e => ?_) (fun e => ?_)))
      · subst e; exact k0
      · subst e; exact k0
    | some l =>
      refine iteT ⟨_, rfl, _, rfl, _, _, rfl, rfl, _, rfl, ?_⟩
      refine iteD (fun c => ?_) (fun c => fin (fun h e => ?_) (fun e => ?_))
      · have z : decide (l ≤ i) = false := decide_eq_false (by omega)
        simp only [isWholeD, z, Bool.false_and] at k0
        exact k0
      · have z : decide (l ≤ i) = true := decide_eq_true (by omega)
        subst e
        simp only [isWholeD, z, Bool.true_and] at k0
        exact k0
      · have z : decide (l ≤ i) = true := decide_eq_true (by omega)
        subst e
        simp only [isWholeD, z, Bool.true_and] at k0
        exact k0
theorem rd_is_sequence (h : sp_is_sequence K vs H Q E) : t_is_sequence K E { nx := fun _ H' => Q .non H', rt := Q } (start ["thing"] vs) H := by
  obtain ⟨d, v, rfl, hd, k⟩ := h
  exact ⟨_, rfl, (by show 2 ≤ sizeLine; decide), fun p hp => kIsiT_seq hd hp (k _ (Ex.new hp))⟩
end
end SF

/-! P75a: streams.py: what its defs tell, as functions of data; their promises. -/
namespace SF
open PySem L2
def okM (least : Int) (d : PyData) : Bool := isWholeD (some least) (some 6) d
def sp_check_count (K : Fg) : Sp := fun vs H Q E => ∃ d v, ∃ most : Int, vs = [v, .int most] ∧ Rk K H d v ∧
  (if isWholeD (some 0) (some most) d = true then ∀ H', Ex H H' → Q v H' else BadOne K H E "BadCount" "most" most)
theorem len_check_count {K vs H Q E} (h : sp_check_count K vs H Q E) : vs.length = 2 := by obtain ⟨_, _, _, rfl, _⟩ := h; rfl
def sp_check_letters (K : Fg) : Sp := fun vs H Q E => ∃ d v, ∃ least : Int, vs = [v, .int least] ∧ Rk K H d v ∧
  (if okM least d = true then ∀ H', Ex H H' → Q .non H' else BadOne K H E "BadCount" "most" 6)
theorem len_check_letters {K vs H Q E} (h : sp_check_letters K vs H Q E) : vs.length = 2 := by obtain ⟨_, _, _, rfl, _⟩ := h; rfl
/-- what is wrong in digits: -1: no sequence -/
def dFault (m : Int) (d : PyData) : Option Int := if isSeqD d = true then (firstNot (isWholeD (some 0) (some (m - 2))) (itemsD d)).map Int.ofNat else some (-1)
def sp_digits_fault (K : Fg) : Sp := fun vs H Q _ => ∃ d v, ∃ m : Int, vs = [.int m, v] ∧ Rk K H d v ∧ (itemsD d).length < 2 ^ 60 ∧ ∀ H', Ex H H' → Q (optV (dFault m d)) H'
theorem len_digits_fault {K vs H Q E} (h : sp_digits_fault K vs H Q E) : vs.length = 2 := by obtain ⟨_, _, _, rfl, _⟩ := h; rfl
def asI : PyData → Int | .int i => i | _ => 0
def sp_count_words (K : Fg) : Sp := fun vs H Q E => ∃ dm dd vm vd, vs = [vm, vd] ∧ Rk K H dm vm ∧ Rk K H dd vd ∧
  (if okM 2 dm = true then (if isWholeD (some 0) (some 64) dd = true then ∀ H', Ex H H' → Q (.int ((asI dm - 1) ^ (asI dd).toNat)) H' else BadOne K H E "BadCount" "most" 64) else BadOne K H E "BadCount" "most" 6)
theorem len_count_words {K vs H Q E} (h : sp_count_words K vs H Q E) : vs.length = 2 := by obtain ⟨_, _, _, _, rfl, _⟩ := h; rfl
/-- the first wrong frame of a word -/
def wScan (m last : Int) (i : Nat) : List PyData → Option Nat
  | [] => none
  | d :: r => match d with
    | .int x => if decide (0 ≤ x) && (decide (x ≤ m - 1) && !decide (x = last)) then wScan m x (i + 1) r else some i
    | _ => some i
def wFault (m : Int) (d : PyData) : Option Int := if isSeqD d = true then (wScan m (m - 1) 0 (itemsD d)).map Int.ofNat else some (-1)
def tupI (ns : List Int) : PyData := .tuple (ns.map .int)
def sp_check_word (K : Fg) : Sp := fun vs H Q E => ∃ dm dw vm vw, vs = [vm, vw] ∧ Rk K H dm vm ∧ Rk K H dw vw ∧ (itemsD dw).length < 2 ^ 60 ∧
  (if okM 2 dm = true then (match wFault (asI dm) dw with | some i => BadOne K H E "BadWord" "at" i | none => ∀ H' v, Ex H H' → Rk K H' (.tuple (itemsD dw)) v → Q v H') else BadOne K H E "BadCount" "most" 6)
theorem len_check_word {K vs H Q E} (h : sp_check_word K vs H Q E) : vs.length = 2 := by obtain ⟨_, _, _, _, rfl, _⟩ := h; rfl
def fb (last d : Int) : Int := if d < last then d else d + 1
def db (last f : Int) : Int := if f < last then f else f - 1
def sp_frame_behind (K : Fg) : Sp := fun vs H Q _ => ∃ l d : Int, vs = [.int l, .int d] ∧ ∀ H', Ex H H' → Q (.int (fb l d)) H'
theorem len_frame_behind {K vs H Q E} (h : sp_frame_behind K vs H Q E) : vs.length = 2 := by obtain ⟨_, _, rfl, _⟩ := h; rfl
def sp_digit_behind (K : Fg) : Sp := fun vs H Q _ => ∃ l f : Int, vs = [.int l, .int f] ∧ ∀ H', Ex H H' → Q (.int (db l f)) H'
theorem len_digit_behind {K vs H Q E} (h : sp_digit_behind K vs H Q E) : vs.length = 2 := by obtain ⟨_, _, rfl, _⟩ := h; rfl
def spell (last : Int) : List Int → List Int
  | [] => []
  | d :: r => fb last d :: spell (fb last d) r
def unspell (last : Int) : List Int → List Int
  | [] => []
  | f :: r => db last f :: unspell f r
def sp_spell_figures (K : Fg) : Sp := fun vs H Q _ => ∃ d v ns, ∃ l : Int, vs = [.int l, v] ∧ Rk K H d v ∧ isSeqD d = true ∧ itemsD d = ns.map .int ∧ ns.length ≤ 10000 ∧ ∀ H' u, Ex H H' → Rk K H' (tupI (spell l ns)) u → Q u H'
theorem len_spell_figures {K vs H Q E} (h : sp_spell_figures K vs H Q E) : vs.length = 2 := by obtain ⟨_, _, _, _, rfl, _⟩ := h; rfl
def sp_digits_to_word (K : Fg) : Sp := fun vs H Q E => ∃ dm d vm v, vs = [vm, v] ∧ Rk K H dm vm ∧ Rk K H d v ∧ (itemsD d).length ≤ 10000 ∧
  (if okM 2 dm = true then (match dFault (asI dm) d with | some i => BadOne K H E "BadDigits" "at" i | none => ∀ H' u, Ex H H' → Rk K H' (tupI (spell (asI dm - 1) ((itemsD d).map asI))) u → Q u H') else BadOne K H E "BadCount" "most" 6)
theorem len_digits_to_word {K vs H Q E} (h : sp_digits_to_word K vs H Q E) : vs.length = 2 := by obtain ⟨_, _, _, _, rfl, _⟩ := h; rfl
def sp_word_to_digits (K : Fg) : Sp := fun vs H Q E => ∃ dm d vm v, vs = [vm, v] ∧ Rk K H dm vm ∧ Rk K H d v ∧ (itemsD d).length ≤ 10000 ∧
  (if okM 2 dm = true then (match wFault (asI dm) d with | some i => BadOne K H E "BadWord" "at" i | none => ∀ H' u, Ex H H' → Rk K H' (tupI (unspell (asI dm - 1) ((itemsD d).map asI))) u → Q u H') else BadOne K H E "BadCount" "most" 6)
theorem len_word_to_digits {K vs H Q E} (h : sp_word_to_digits K vs H Q E) : vs.length = 2 := by obtain ⟨_, _, _, _, rfl, _⟩ := h; rfl
/-- where the default of StreamSource's digits stands -/
def dfT (K : Fg) : Addr := match K.lookup (He.ma K (ga K "StreamSource") "__init__") with
  | some ⟨_, _, .func fd, _⟩ => (match fd.defaults with
    | .ref T => (match K.lookup T with
      | some ⟨_, _, .seq its _, _⟩ => (match its.getD 0 PySem.Value.none with
        | PySem.Value.ref a => a
        | _ => 0)
      | _ => 0)
    | _ => 0)
  | _ => 0
/-! ### the source and the sink -/
def frV : Option Int → V | none => .non | some f => .int f
def srcO (K : Fg) (dx : Addr) (m : Int) (vd : V) (t : Int) (fr : Option Int) : HO := .ins (ga K "StreamSource") dx [("m", .int m), ("digits", vd), ("told", .int t), ("frame", frV fr)]
def snkO (K : Fg) (dx : Addr) (m : Int) (vd : V) (fr : Option Int) : HO := .ins (ga K "StreamSink") dx [("m", .int m), ("digits", vd), ("frame", frV fr)]
/-- the frame that a source sends when digits are waiting -/
def sendOn (m : Int) (ds : List Int) (t : Nat) (fr : Option Int) : Option Int := match ds[t]? with
  | some d => some (fb (fr.getD (m - 1)) d)
  | none => fr
def sp_StreamSource_send_on (K : Fg) : Sp := fun vs H Q _ => ∃ S l a dx m ds vd, ∃ t : Nat, ∃ fr, vs = [.ref a] ∧ Owns S H ((a, srcO K dx m vd t fr) :: l) ∧ Rk K S (tupI ds) vd ∧
  ∀ H', Owns S H' ((a, srcO K dx m vd t (sendOn m ds t fr)) :: l) → Q .non H'
theorem len_StreamSource_send_on {K vs H Q E} (h : sp_StreamSource_send_on K vs H Q E) : vs.length = 1 := by obtain ⟨_, _, _, _, _, _, _, _, _, rfl, _⟩ := h; rfl
def sp_StreamSource_put (K : Fg) : Sp := fun vs H Q E => ∃ S l a dx m ds vd, ∃ t : Nat, ∃ fr d v, vs = [.ref a, v] ∧ Owns S H ((a, srcO K dx m vd t fr) :: l) ∧ Rk K S (tupI ds) vd ∧ Rk K S d v ∧ (itemsD d).length ≤ 10000 ∧ ds.length ≤ 10000 ∧ t ≤ ds.length ∧
  (match dFault m d with
    | some i => BadOne K H E "BadDigits" "at" i
    | none => ∀ S' H' vd', Ex S S' → Owns S' H' ((a, srcO K dx m vd' t (if t = ds.length then sendOn m (ds ++ (itemsD d).map asI) t fr else fr)) :: l) → Rk K S' (tupI (ds ++ (itemsD d).map asI)) vd' → Q .non H')
theorem len_StreamSource_put {K vs H Q E} (h : sp_StreamSource_put K vs H Q E) : vs.length = 2 := by obtain ⟨_, _, _, _, _, _, _, _, _, _, _, rfl, _⟩ := h; rfl
def hears (t n : Nat) : Option Int → PyData → Bool
  | some g, .int f => decide (t < n) && decide (f = g)
  | _, _ => false
def sp_StreamSource_hear (K : Fg) : Sp := fun vs H Q _ => ∃ S l a dx m ds vd, ∃ t : Nat, ∃ fr d v, vs = [.ref a, v] ∧ Owns S H ((a, srcO K dx m vd t fr) :: l) ∧ Rk K S (tupI ds) vd ∧ Rk K S d v ∧ t ≤ ds.length ∧
  (t < ds.length → fr ≠ none) ∧ ∀ H', Owns S H' ((a, if hears t ds.length fr d = true then srcO K dx m vd ((t + 1 : Nat) : Int) (sendOn m ds (t + 1) fr) else srcO K dx m vd t fr) :: l) → Q .non H'
theorem len_StreamSource_hear {K vs H Q E} (h : sp_StreamSource_hear K vs H Q E) : vs.length = 2 := by obtain ⟨_, _, _, _, _, _, _, _, _, _, _, rfl, _⟩ := h; rfl
def sp_StreamSource___init__ (K : Fg) : Sp := fun vs H Q E => ∃ S l a dx dm d vm v, vs = [.ref a, vm, v] ∧ Owns S H ((a, .ins (ga K "StreamSource") dx []) :: l) ∧ Rk K S dm vm ∧ Rk K S d v ∧ (itemsD d).length ≤ 10000 ∧
  (if okM 3 dm = true then (match dFault (asI dm) d with
    | some i => BadOne K S E "BadDigits" "at" i
    | none => ∀ S' H' vd, Ex S S' → Owns S' H' ((a, srcO K dx (asI dm) vd 0 (sendOn (asI dm) ((itemsD d).map asI) 0 none)) :: l) → Rk K S' (tupI ((itemsD d).map asI)) vd → Q .non H') else BadOne K S E "BadCount" "most" 6)
theorem len_StreamSource___init__ {K vs H Q E} (h : sp_StreamSource___init__ K vs H Q E) : vs.length = 3 := by obtain ⟨_, _, _, _, _, _, _, _, rfl, _⟩ := h; rfl
def sp_StreamSink___init__ (K : Fg) : Sp := fun vs H Q E => ∃ S l a dx dm vm, vs = [.ref a, vm] ∧ Owns S H ((a, .ins (ga K "StreamSink") dx []) :: l) ∧ Rk K S dm vm ∧
  (if okM 3 dm = true then ∀ S' H' vd, Ex S S' → Owns S' H' ((a, snkO K dx (asI dm) vd none) :: l) → Rk K S' (tupI []) vd → Q .non H' else BadOne K S E "BadCount" "most" 6)
theorem len_StreamSink___init__ {K vs H Q E} (h : sp_StreamSink___init__ K vs H Q E) : vs.length = 2 := by obtain ⟨_, _, _, _, _, _, rfl, _⟩ := h; rfl
/-- what a sink takes in -/
def takes (m : Int) (fr : Option Int) : PyData → Option Int
  | .int f => if decide (0 ≤ f) && (decide (f ≤ m - 1) && !decide (f = fr.getD (m - 1))) then some f else none
  | _ => none
def sp_StreamSink_hear (K : Fg) : Sp := fun vs H Q _ => ∃ S l a dx m ds vd fr d v, vs = [.ref a, v] ∧ Owns S H ((a, snkO K dx m vd fr) :: l) ∧ Rk K S (tupI ds) vd ∧ ds.length ≤ 10000 ∧ Rk K S d v ∧
  ∀ S' H' vd' ds' fr', (match takes m fr d with | some f => ds' = ds ++ [db (fr.getD (m - 1)) f] ∧ fr' = some f | none => ds' = ds ∧ fr' = fr) → Ex S S' → Owns S' H' ((a, snkO K dx m vd' fr') :: l) → Rk K S' (tupI ds') vd' → Q .non H'
theorem len_StreamSink_hear {K vs H Q E} (h : sp_StreamSink_hear K vs H Q E) : vs.length = 2 := by obtain ⟨_, _, _, _, _, _, _, _, _, _, rfl, _⟩ := h; rfl
end SF


namespace SF
open PySem L2
def t_check_count (K : Fg) (E : XK) : TS :=
    tSeq (tIfS (fun σ H Q => ∃ v2, σ[0]? = some (some v2) ∧ ∃ v3, σ[1]? = some (some v3) ∧ sp_is_whole K [v2, (V.int 0), v3] H (fun x1 h1 => ∃ c1, x1 = .bl c1 ∧ Q (!c1) h1) E0)
      (tRaiseF (ga K "BadCount") ["most"] E (fun σ H Q => ∃ v1, σ[1]? = some (some v1) ∧ Q [v1] H))
      (tNext))
    (tRet (fun σ H Q => ∃ v4, σ[0]? = some (some v4) ∧ Q v4 H))

def t_check_letters (K : Fg) (E : XK) : TS :=
    tIfS (fun σ H Q => ∃ v1, σ[0]? = some (some v1) ∧ ∃ v2, σ[1]? = some (some v2) ∧ sp_is_whole K [v1, v2, (V.int 6)] H (fun x1 h1 => ∃ c1, x1 = .bl c1 ∧ Q (!c1) h1) E0)
      (tRaiseF (ga K "BadCount") ["most"] E (fun σ H Q => Q [(V.int 6)] H))
      (tNext)

def t_digits_fault_1 (K : Fg) (E : XK) : TS :=
    tIfS (fun σ H Q => ∃ v4, σ[1]? = some (some v4) ∧ ∃ v5, σ[2]? = some (some v5) ∧ rIxQ K v4 v5 H (fun x3 h3 => ∃ v6, σ[0]? = some (some v6) ∧ oSub v6 (V.int 2) h3 (fun x4 h4 => sp_is_whole K [x3, (V.int 0), x4] h4 (fun x5 h5 => ∃ c2, x5 = .bl c2 ∧ Q (!c2) h5) E0)))
          (tRet (fun σ H Q => ∃ v3, σ[2]? = some (some v3) ∧ Q v3 H))
          (tNext)
def t_digits_fault_2 (K : Fg) (E : XK) : TS :=
    tSeq (tFor (fun σ H R => ∃ v2, σ[1]? = some (some v2) ∧ rLenQ K [v2] H (fun x2 h2 => ∃ j : Int, [x2] = [.int j] ∧ -(2 ^ 62) ≤ j ∧ j < 2 ^ 62 ∧ R (Itr 0 j.toNat) h2)) (gName 2)
      (t_digits_fault_1 K E))
    (tRet (fun σ H Q => Q V.non H))
def t_digits_fault (K : Fg) (E : XK) : TS :=
    tSeq (tIfS (fun σ H Q => ∃ v1, σ[1]? = some (some v1) ∧ sp_is_sequence K [v1] H (fun x1 h1 => ∃ c1, x1 = .bl c1 ∧ Q (!c1) h1) E0)
      (tRet (fun σ H Q => rNeg (V.int 1) H Q))
      (tNext))
    (t_digits_fault_2 K E)

def t_count_words_1 (K : Fg) (E : XK) : TS :=
    tAsg (fun σ H Q => ∃ v4, σ[2]? = some (some v4) ∧ ∃ v5, σ[0]? = some (some v5) ∧ oSub v5 (V.int 1) H (fun x1 h1 => oMul v4 x1 h1 Q)) (gName 2)
def t_count_words (K : Fg) (E : XK) : TS :=
    tSeq (tDrop (fun σ H Q => ∃ v1, σ[0]? = some (some v1) ∧ sp_check_letters K [v1, (V.int 2)] H Q E))
    (tSeq (tDrop (fun σ H Q => ∃ v2, σ[1]? = some (some v2) ∧ sp_check_count K [v2, (V.int 64)] H Q E))
    (tSeq (tAsg (fun σ H Q => Q (V.int 1) H) (gName 2))
    (tSeq (tFor (fun σ H R => ∃ v3, σ[1]? = some (some v3) ∧ ∃ j : Int, [v3] = [.int j] ∧ -(2 ^ 62) ≤ j ∧ j < 2 ^ 62 ∧ R (Itr 0 j.toNat) H) (gName 3)
      (t_count_words_1 K E))
    (tRet (fun σ H Q => ∃ v6, σ[2]? = some (some v6) ∧ Q v6 H)))))

abbrev e_check_word_1 (K : Fg) (E : XK) : TE := (fun σ H Q => ∃ v1, σ[0]? = some (some v1) ∧ sp_check_letters K [v1, (V.int 2)] H Q E)
abbrev e_check_word_2 (K : Fg) (E : XK) : TT := (fun σ H Q => ∃ v2, σ[1]? = some (some v2) ∧ sp_is_sequence K [v2] H (fun x2 h2 => ∃ c1, x2 = .bl c1 ∧ Q (!c1) h2) E0)
abbrev e_check_word_3 (K : Fg) (E : XK) : TE := (fun σ H Q => ∃ v3, σ[0]? = some (some v3) ∧ oSub v3 (V.int 1) H Q)
abbrev e_check_word_4 (K : Fg) (E : XK) : TT := (fun σ H Q => ∃ v6, σ[1]? = some (some v6) ∧ ∃ v7, σ[3]? = some (some v7) ∧ rIxQ K v6 v7 H (fun x4 h4 => ∃ v8, σ[0]? = some (some v8) ∧ oSub v8 (V.int 1) h4 (fun x5 h5 => sp_is_whole K [x4, (V.int 0), x5] h5 (fun x6 h6 => ∃ c2, x6 = .bl c2 ∧ if (!c2) = true then Q true h6 else ∃ v9, σ[1]? = some (some v9) ∧ ∃ v10, σ[3]? = some (some v10) ∧ rIxQ K v9 v10 h6 (fun x7 h7 => ∃ v11, σ[2]? = some (some v11) ∧ rEq x7 v11 h7 (fun x8 h8 => ∃ c3, x8 = .bl c3 ∧ Q c3 h8))) E0)))
abbrev e_check_word_5 (K : Fg) (E : XK) : TE := (fun σ H Q => ∃ v12, σ[1]? = some (some v12) ∧ ∃ v13, σ[3]? = some (some v13) ∧ rIxQ K v12 v13 H Q)
abbrev e_check_word_6 (K : Fg) (E : XK) : TE := (fun σ H Q => ∃ v14, σ[1]? = some (some v14) ∧ rTupQ K [v14] H Q)
def t_check_word_1 (K : Fg) (E : XK) : TS :=
    tSeq (tIfS (e_check_word_4 K E)
          (tRaiseF (ga K "BadWord") ["at"] E (fun σ H Q => ∃ v5, σ[3]? = some (some v5) ∧ Q [v5] H))
          (tNext))
        (tAsg (e_check_word_5 K E) (gName 2))
def t_check_word_2 (K : Fg) (E : XK) : TS :=
    tSeq (tAsg (e_check_word_3 K E) (gName 2))
    (tSeq (tFor (fun σ H R => ∃ v4, σ[1]? = some (some v4) ∧ rLenQ K [v4] H (fun x3 h3 => ∃ j : Int, [x3] = [.int j] ∧ -(2 ^ 62) ≤ j ∧ j < 2 ^ 62 ∧ R (Itr 0 j.toNat) h3)) (gName 3)
      (t_check_word_1 K E))
    (tRet (e_check_word_6 K E)))
def t_check_word (K : Fg) (E : XK) : TS :=
    tSeq (tDrop (e_check_word_1 K E))
    (tSeq (tIfS (e_check_word_2 K E)
      (tRaiseF (ga K "BadWord") ["at"] E (fun σ H Q => rNeg (V.int 1) H (fun x1 h1 => Q [x1] h1)))
      (tNext))
    (t_check_word_2 K E))

def t_frame_behind (K : Fg) (E : XK) : TS :=
    tRet (fun σ H Q => ∃ v1, σ[1]? = some (some v1) ∧ ∃ v2, σ[0]? = some (some v2) ∧ oLt v1 v2 H (fun x1 h1 => ∃ c1, x1 = .bl c1 ∧ if c1 = true then ∃ v3, σ[1]? = some (some v3) ∧ Q v3 h1 else ∃ v4, σ[1]? = some (some v4) ∧ oAdd v4 (V.int 1) h1 Q))

def t_digit_behind (K : Fg) (E : XK) : TS :=
    tRet (fun σ H Q => ∃ v1, σ[1]? = some (some v1) ∧ ∃ v2, σ[0]? = some (some v2) ∧ oLt v1 v2 H (fun x1 h1 => ∃ c1, x1 = .bl c1 ∧ if c1 = true then ∃ v3, σ[1]? = some (some v3) ∧ Q v3 h1 else ∃ v4, σ[1]? = some (some v4) ∧ oSub v4 (V.int 1) h1 Q))

def t_spell_figures_1 (K : Fg) (E : XK) : TS :=
    tSeq (tAsg (fun σ H Q => ∃ v2, σ[0]? = some (some v2) ∧ ∃ v3, σ[3]? = some (some v3) ∧ sp_frame_behind K [v2, v3] H Q E0) (gName 0))
        (tDrop (fun σ H Q => ∃ v4, σ[2]? = some (some v4) ∧ tyV K "list" v4 H ∧ ∃ v5, σ[0]? = some (some v5) ∧ rAppend v4 [v5] H Q))
def t_spell_figures (K : Fg) (E : XK) : TS :=
    tSeq (tAsg (fun σ H Q => 0 ≤ sizeLine ∧ ∀ p1, H p1 = none → Q (V.ref p1) (upd H p1 (.lst []))) (gName 2))
    (tSeq (tFor (fun σ H R => ∃ v1, σ[1]? = some (some v1) ∧ ∃ a, v1 = .ref a ∧ (((∃ xs, SqL K H a xs) ∧ R (Itl K a) H) ∨ ((∃ xs, SqT K H a xs) ∧ R (Itt K a) H))) (gName 3)
      (t_spell_figures_1 K E))
    (tRet (fun σ H Q => ∃ v6, σ[2]? = some (some v6) ∧ rTupQ K [v6] H Q)))

def t_digits_to_word_1 (K : Fg) (E : XK) : TS :=
    tRet (fun σ H Q => ∃ v6, σ[0]? = some (some v6) ∧ oSub v6 (V.int 1) H (fun x2 h2 => ∃ v7, σ[1]? = some (some v7) ∧ sp_spell_figures K [x2, v7] h2 Q E0))
def t_digits_to_word (K : Fg) (E : XK) : TS :=
    tSeq (tDrop (fun σ H Q => ∃ v1, σ[0]? = some (some v1) ∧ sp_check_letters K [v1, (V.int 2)] H Q E))
    (tSeq (tAsg (fun σ H Q => ∃ v2, σ[0]? = some (some v2) ∧ ∃ v3, σ[1]? = some (some v3) ∧ sp_digits_fault K [v2, v3] H Q E0) (gName 2))
    (tSeq (tIfS (fun σ H Q => ∃ v5, σ[2]? = some (some v5) ∧ oNotN v5 V.non H (fun x1 h1 => ∃ c1, x1 = .bl c1 ∧ Q c1 h1))
      (tRaiseF (ga K "BadDigits") ["at"] E (fun σ H Q => ∃ v4, σ[2]? = some (some v4) ∧ Q [v4] H))
      (tNext))
    (t_digits_to_word_1 K E)))

abbrev e_word_to_digits_1 (K : Fg) (E : XK) : TE := (fun σ H Q => ∃ v6, σ[3]? = some (some v6) ∧ ∃ v7, σ[4]? = some (some v7) ∧ sp_digit_behind K [v6, v7] H Q E0)
def t_word_to_digits (K : Fg) (E : XK) : TS :=
    tSeq (tAsg (fun σ H Q => ∃ v1, σ[0]? = some (some v1) ∧ ∃ v2, σ[1]? = some (some v2) ∧ sp_check_word K [v1, v2] H Q E) (gName 2))
    (tRet (fun σ H Q => tLc (RZ.iZipA K (fun σ H Q => ∃ v3, σ[0]? = some (some v3) ∧ oSub v3 (V.int 1) H (fun x1 h1 => 1 ≤ sizeLine ∧ ∀ p1, h1 p1 = none → ∃ v4, σ[2]? = some (some v4) ∧ rCatA K (V.ref p1) v4 (upd h1 p1 (.tup [x1])) (fun x2 h2 => ∃ v5, σ[2]? = some (some v5) ∧ Q [x2, v5] h2)))) (gTup K 2 (gCons (gName 3) (gCons (gName 4) gNil))) tYes (e_word_to_digits_1 K E) [3, 4] σ H (fun x3 h3 => rTupQ K [x3] h3 Q)))

abbrev e_StreamSource_send_on_1 (K : Fg) (E : XK) : TE := (fun σ H Q => ∃ v2, σ[0]? = some (some v2) ∧ ∃ a1 dx1 fs1 v1, v2 = .ref a1 ∧ H a1 = some (.ins (ga K "StreamSource") dx1 fs1) ∧ fs1.lookup ("frame" : Str) = some v1 ∧ oIsN v1 V.non H (fun x1 h1 => ∃ c1, x1 = .bl c1 ∧ if c1 = true then ∃ v4, σ[0]? = some (some v4) ∧ ∃ a2 dx2 fs2 v3, v4 = .ref a2 ∧ h1 a2 = some (.ins (ga K "StreamSource") dx2 fs2) ∧ fs2.lookup ("m" : Str) = some v3 ∧ oSub v3 (V.int 1) h1 Q else ∃ v6, σ[0]? = some (some v6) ∧ ∃ a3 dx3 fs3 v5, v6 = .ref a3 ∧ h1 a3 = some (.ins (ga K "StreamSource") dx3 fs3) ∧ fs3.lookup ("frame" : Str) = some v5 ∧ Q v5 h1))
abbrev e_StreamSource_send_on_2 (K : Fg) (E : XK) : TE := (fun σ H Q => ∃ v8, σ[1]? = some (some v8) ∧ ∃ v10, σ[0]? = some (some v10) ∧ ∃ a4 dx4 fs4 v9, v10 = .ref a4 ∧ H a4 = some (.ins (ga K "StreamSource") dx4 fs4) ∧ fs4.lookup ("digits" : Str) = some v9 ∧ ∃ v12, σ[0]? = some (some v12) ∧ ∃ a5 dx5 fs5 v11, v12 = .ref a5 ∧ H a5 = some (.ins (ga K "StreamSource") dx5 fs5) ∧ fs5.lookup ("told" : Str) = some v11 ∧ rIxT K v9 v11 H (fun x2 h2 => sp_frame_behind K [v8, x2] h2 Q E0))
abbrev e_StreamSource_send_on_3 (K : Fg) (E : XK) : TT := (fun σ H Q => ∃ v14, σ[0]? = some (some v14) ∧ ∃ a6 dx6 fs6 v13, v14 = .ref a6 ∧ H a6 = some (.ins (ga K "StreamSource") dx6 fs6) ∧ fs6.lookup ("told" : Str) = some v13 ∧ ∃ v16, σ[0]? = some (some v16) ∧ ∃ a7 dx7 fs7 v15, v16 = .ref a7 ∧ H a7 = some (.ins (ga K "StreamSource") dx7 fs7) ∧ fs7.lookup ("digits" : Str) = some v15 ∧ rLenQ K [v15] H (fun x3 h3 => oLt v13 x3 h3 (fun x4 h4 => ∃ c2, x4 = .bl c2 ∧ Q c2 h4)))
def t_StreamSource_send_on (K : Fg) (E : XK) : TS :=
    tIfS (e_StreamSource_send_on_3 K E)
      (tSeq (tAsg (e_StreamSource_send_on_1 K E) (gName 1))
        (sFldC (ga K "StreamSource") (fun σ H Q => ∃ v7, σ[0]? = some (some v7) ∧ Q v7 H) (e_StreamSource_send_on_2 K E) "frame"))
      (tNext)

abbrev e_StreamSource_put_1 (K : Fg) (E : XK) : TE := (fun σ H Q => ∃ v2, σ[0]? = some (some v2) ∧ ∃ a1 dx1 fs1 v1, v2 = .ref a1 ∧ H a1 = some (.ins (ga K "StreamSource") dx1 fs1) ∧ fs1.lookup ("m" : Str) = some v1 ∧ ∃ v3, σ[1]? = some (some v3) ∧ sp_digits_fault K [v1, v3] H Q E0)
abbrev e_StreamSource_put_2 (K : Fg) (E : XK) : TT := (fun σ H Q => ∃ v5, σ[2]? = some (some v5) ∧ oNotN v5 V.non H (fun x1 h1 => ∃ c1, x1 = .bl c1 ∧ Q c1 h1))
abbrev e_StreamSource_put_3 (K : Fg) (E : XK) : TE := (fun σ H Q => ∃ v7, σ[0]? = some (some v7) ∧ ∃ a2 dx2 fs2 v6, v7 = .ref a2 ∧ H a2 = some (.ins (ga K "StreamSource") dx2 fs2) ∧ fs2.lookup ("told" : Str) = some v6 ∧ ∃ v9, σ[0]? = some (some v9) ∧ ∃ a3 dx3 fs3 v8, v9 = .ref a3 ∧ H a3 = some (.ins (ga K "StreamSource") dx3 fs3) ∧ fs3.lookup ("digits" : Str) = some v8 ∧ rLenQ K [v8] H (fun x2 h2 => rEq v6 x2 h2 Q))
abbrev e_StreamSource_put_4 (K : Fg) (E : XK) : TE := (fun σ H Q => ∃ v12, σ[0]? = some (some v12) ∧ ∃ a4 dx4 fs4 v11, v12 = .ref a4 ∧ H a4 = some (.ins (ga K "StreamSource") dx4 fs4) ∧ fs4.lookup ("digits" : Str) = some v11 ∧ ∃ v13, σ[1]? = some (some v13) ∧ rTupQ K [v13] H (fun x3 h3 => rCatA K v11 x3 h3 Q))
abbrev e_StreamSource_put_5 (K : Fg) (E : XK) : TE := (fun σ H Q => ∃ v14, σ[0]? = some (some v14) ∧ ∃ a5 dx5 fs5, v14 = .ref a5 ∧ H a5 = some (.ins (ga K "StreamSource") dx5 fs5) ∧ fs5.lookup ("send_on" : Str) = none ∧ sp_StreamSource_send_on K [v14] H Q E0)
abbrev e_StreamSource_put_6 (K : Fg) (E : XK) : TT := (fun σ H Q => ∃ v15, σ[3]? = some (some v15) ∧ ∃ c2, v15 = .bl c2 ∧ Q c2 H)
def t_StreamSource_put_1 (K : Fg) (E : XK) : TS :=
    tSeq (tAsg (e_StreamSource_put_3 K E) (gName 3))
    (tSeq (sFldC (ga K "StreamSource") (fun σ H Q => ∃ v10, σ[0]? = some (some v10) ∧ Q v10 H) (e_StreamSource_put_4 K E) "digits")
    (tIfS (e_StreamSource_put_6 K E)
      (tDrop (e_StreamSource_put_5 K E))
      (tNext)))
def t_StreamSource_put (K : Fg) (E : XK) : TS :=
    tSeq (tAsg (e_StreamSource_put_1 K E) (gName 2))
    (tSeq (tIfS (e_StreamSource_put_2 K E)
      (tRaiseF (ga K "BadDigits") ["at"] E (fun σ H Q => ∃ v4, σ[2]? = some (some v4) ∧ Q [v4] H))
      (tNext))
    (t_StreamSource_put_1 K E))

abbrev e_StreamSource_hear_1 (K : Fg) (E : XK) : TE := (fun σ H Q => ∃ v3, σ[0]? = some (some v3) ∧ ∃ a1 dx1 fs1 v2, v3 = .ref a1 ∧ H a1 = some (.ins (ga K "StreamSource") dx1 fs1) ∧ fs1.lookup ("told" : Str) = some v2 ∧ oAdd v2 (V.int 1) H Q)
abbrev e_StreamSource_hear_2 (K : Fg) (E : XK) : TE := (fun σ H Q => ∃ v4, σ[0]? = some (some v4) ∧ ∃ a2 dx2 fs2, v4 = .ref a2 ∧ H a2 = some (.ins (ga K "StreamSource") dx2 fs2) ∧ fs2.lookup ("send_on" : Str) = none ∧ sp_StreamSource_send_on K [v4] H Q E0)
abbrev e_StreamSource_hear_3 (K : Fg) (E : XK) : TT := (fun σ H Q => ∃ v5, σ[1]? = some (some v5) ∧ sp_is_whole K [v5, .non, .non] H (fun x1 h1 => ∃ c1, x1 = .bl c1 ∧ if c1 = true then ∃ v7, σ[0]? = some (some v7) ∧ ∃ a3 dx3 fs3 v6, v7 = .ref a3 ∧ h1 a3 = some (.ins (ga K "StreamSource") dx3 fs3) ∧ fs3.lookup ("told" : Str) = some v6 ∧ ∃ v9, σ[0]? = some (some v9) ∧ ∃ a4 dx4 fs4 v8, v9 = .ref a4 ∧ h1 a4 = some (.ins (ga K "StreamSource") dx4 fs4) ∧ fs4.lookup ("digits" : Str) = some v8 ∧ rLenQ K [v8] h1 (fun x2 h2 => oLt v6 x2 h2 (fun x3 h3 => ∃ c2, x3 = .bl c2 ∧ if c2 = true then ∃ v10, σ[1]? = some (some v10) ∧ ∃ v12, σ[0]? = some (some v12) ∧ ∃ a5 dx5 fs5 v11, v12 = .ref a5 ∧ h3 a5 = some (.ins (ga K "StreamSource") dx5 fs5) ∧ fs5.lookup ("frame" : Str) = some v11 ∧ rEq v10 v11 h3 (fun x4 h4 => ∃ c3, x4 = .bl c3 ∧ Q c3 h4) else Q false h3)) else Q false h1) E0)
def t_StreamSource_hear (K : Fg) (E : XK) : TS :=
    tIfS (e_StreamSource_hear_3 K E)
      (tSeq (sFldC (ga K "StreamSource") (fun σ H Q => ∃ v1, σ[0]? = some (some v1) ∧ Q v1 H) (e_StreamSource_hear_1 K E) "told")
        (tDrop (e_StreamSource_hear_2 K E)))
      (tNext)

def t_StreamSource___init__ (K : Fg) (E : XK) : TS :=
    tSeq (tDrop (fun σ H Q => ∃ v1, σ[1]? = some (some v1) ∧ sp_check_letters K [v1, (V.int 3)] H Q E))
    (tSeq (sFldC (ga K "StreamSource") (fun σ H Q => ∃ v2, σ[0]? = some (some v2) ∧ Q v2 H) (fun σ H Q => ∃ v3, σ[1]? = some (some v3) ∧ Q v3 H) "m")
    (tSeq (sFldC (ga K "StreamSource") (fun σ H Q => ∃ v4, σ[0]? = some (some v4) ∧ Q v4 H) (fun σ H Q => 0 ≤ sizeLine ∧ ∀ p1, H p1 = none → Q (V.ref p1) (upd H p1 (.tup []))) "digits")
    (tSeq (sFldC (ga K "StreamSource") (fun σ H Q => ∃ v5, σ[0]? = some (some v5) ∧ Q v5 H) (fun σ H Q => Q (V.int 0) H) "told")
    (tSeq (sFldC (ga K "StreamSource") (fun σ H Q => ∃ v6, σ[0]? = some (some v6) ∧ Q v6 H) (fun σ H Q => Q V.non H) "frame")
    (tDrop (fun σ H Q => ∃ v7, σ[0]? = some (some v7) ∧ ∃ a1 dx1 fs1, v7 = .ref a1 ∧ H a1 = some (.ins (ga K "StreamSource") dx1 fs1) ∧ fs1.lookup ("put" : Str) = none ∧ ∃ v8, σ[2]? = some (some v8) ∧ sp_StreamSource_put K [v7, v8] H Q E))))))

def t_StreamSink___init__ (K : Fg) (E : XK) : TS :=
    tSeq (tDrop (fun σ H Q => ∃ v1, σ[1]? = some (some v1) ∧ sp_check_letters K [v1, (V.int 3)] H Q E))
    (tSeq (sFldC (ga K "StreamSink") (fun σ H Q => ∃ v2, σ[0]? = some (some v2) ∧ Q v2 H) (fun σ H Q => ∃ v3, σ[1]? = some (some v3) ∧ Q v3 H) "m")
    (tSeq (sFldC (ga K "StreamSink") (fun σ H Q => ∃ v4, σ[0]? = some (some v4) ∧ Q v4 H) (fun σ H Q => 0 ≤ sizeLine ∧ ∀ p1, H p1 = none → Q (V.ref p1) (upd H p1 (.tup []))) "digits")
    (sFldC (ga K "StreamSink") (fun σ H Q => ∃ v5, σ[0]? = some (some v5) ∧ Q v5 H) (fun σ H Q => Q V.non H) "frame")))

abbrev e_StreamSink_hear_1 (K : Fg) (E : XK) : TE := (fun σ H Q => ∃ v2, σ[0]? = some (some v2) ∧ ∃ a1 dx1 fs1 v1, v2 = .ref a1 ∧ H a1 = some (.ins (ga K "StreamSink") dx1 fs1) ∧ fs1.lookup ("frame" : Str) = some v1 ∧ oIsN v1 V.non H (fun x1 h1 => ∃ c1, x1 = .bl c1 ∧ if c1 = true then ∃ v4, σ[0]? = some (some v4) ∧ ∃ a2 dx2 fs2 v3, v4 = .ref a2 ∧ h1 a2 = some (.ins (ga K "StreamSink") dx2 fs2) ∧ fs2.lookup ("m" : Str) = some v3 ∧ oSub v3 (V.int 1) h1 Q else ∃ v6, σ[0]? = some (some v6) ∧ ∃ a3 dx3 fs3 v5, v6 = .ref a3 ∧ h1 a3 = some (.ins (ga K "StreamSink") dx3 fs3) ∧ fs3.lookup ("frame" : Str) = some v5 ∧ Q v5 h1))
abbrev e_StreamSink_hear_2 (K : Fg) (E : XK) : TE := (fun σ H Q => ∃ v9, σ[0]? = some (some v9) ∧ ∃ a4 dx4 fs4 v8, v9 = .ref a4 ∧ H a4 = some (.ins (ga K "StreamSink") dx4 fs4) ∧ fs4.lookup ("digits" : Str) = some v8 ∧ ∃ v10, σ[2]? = some (some v10) ∧ ∃ v11, σ[1]? = some (some v11) ∧ sp_digit_behind K [v10, v11] H (fun x2 h2 => 1 ≤ sizeLine ∧ ∀ p1, h2 p1 = none → rCatA K v8 (V.ref p1) (upd h2 p1 (.tup [x2])) Q) E0)
abbrev e_StreamSink_hear_3 (K : Fg) (E : XK) : TT := (fun σ H Q => ∃ v14, σ[1]? = some (some v14) ∧ ∃ v16, σ[0]? = some (some v16) ∧ ∃ a5 dx5 fs5 v15, v16 = .ref a5 ∧ H a5 = some (.ins (ga K "StreamSink") dx5 fs5) ∧ fs5.lookup ("m" : Str) = some v15 ∧ oSub v15 (V.int 1) H (fun x3 h3 => sp_is_whole K [v14, (V.int 0), x3] h3 (fun x4 h4 => ∃ c2, x4 = .bl c2 ∧ if c2 = true then ∃ v17, σ[1]? = some (some v17) ∧ ∃ v18, σ[2]? = some (some v18) ∧ rNe v17 v18 h4 (fun x5 h5 => ∃ c3, x5 = .bl c3 ∧ Q c3 h5) else Q false h4) E0))
def t_StreamSink_hear (K : Fg) (E : XK) : TS :=
    tSeq (tAsg (e_StreamSink_hear_1 K E) (gName 2))
    (tIfS (e_StreamSink_hear_3 K E)
      (tSeq (sFldC (ga K "StreamSink") (fun σ H Q => ∃ v7, σ[0]? = some (some v7) ∧ Q v7 H) (e_StreamSink_hear_2 K E) "digits")
        (sFldC (ga K "StreamSink") (fun σ H Q => ∃ v12, σ[0]? = some (some v12) ∧ Q v12 H) (fun σ H Q => ∃ v13, σ[1]? = some (some v13) ∧ Q v13 H) "frame"))
      (tNext))

end SF

/-! R75a: the readings of streams.py's checks and words. -/
namespace SF
open PySem L2
theorem okM_int {least : Int} {d : PyData} (h : okM least d = true) : ∃ m, d = .int m ∧ least ≤ m ∧ m ≤ 6 := by
  cases d <;> first | cases h | skip
  rename_i m
  unfold okM isWholeD at h
  simp only [Bool.and_eq_true, decide_eq_true_eq] at h
  exact ⟨m, rfl, h.1, h.2⟩
theorem whole_int {lo hi : Int} {d : PyData} (h : isWholeD (some lo) (some hi) d = true) : ∃ m, d = .int m ∧ lo ≤ m ∧ m ≤ hi := by
  cases d <;> first | cases h | skip
  rename_i m
  unfold isWholeD at h
  simp only [Bool.and_eq_true, decide_eq_true_eq] at h
  exact ⟨m, rfl, h.1, h.2⟩
theorem if_t {c : Bool} {A B : Prop} (h : c = true) (q : if c = true then A else B) : A := by rw [if_pos h] at q; exact q
theorem if_f {c : Bool} {A B : Prop} (h : c = false) (q : if c = true then A else B) : B := by rw [h] at q; simpa using q
section
variable {K : Fg} {vs : List V} {H : Hp} {Q : VK} {E : XK}
theorem rd_check_count (h : sp_check_count K vs H Q E) : t_check_count K E { nx := fun _ H' => Q .non H', rt := Q } (start ["m", "most"] vs) H := by
  obtain ⟨d, v, most, rfl, hd, k⟩ := h
  refine ⟨_, rfl, _, rfl, d, v, some 0, some most, rfl, hd, fun H1 e1 => ⟨_, rfl, iteN (fun c => ?_) (fun c => ⟨_, rfl, if_t c k _ e1⟩)⟩⟩
  exact ⟨_, rfl, rfl, fun dd hdd => if_f c k _ dd (e1.trans (Ex.new hdd)) upd_same⟩
theorem rd_check_letters (h : sp_check_letters K vs H Q E) : t_check_letters K E { nx := fun _ H' => Q .non H', rt := Q } (start ["m", "least"] vs) H := by
  obtain ⟨d, v, least, rfl, hd, k⟩ := h
  refine ⟨_, rfl, _, rfl, d, v, some least, some 6, rfl, hd, fun H1 e1 => ⟨_, rfl, iteN (fun c => ?_) (fun c => if_t c k _ e1)⟩⟩
  exact ⟨rfl, fun dd hdd => if_f c k _ dd (e1.trans (Ex.new hdd)) upd_same⟩
theorem rd_digits_fault (h : sp_digits_fault K vs H Q E) : t_digits_fault K E { nx := fun _ H' => Q .non H', rt := Q } (start ["m", "digits", "at"] vs) H := by
  obtain ⟨d, v, m, rfl, hd, hl, k⟩ := h
  refine ⟨_, rfl, d, v, rfl, hd, fun H1 e1 => ⟨_, rfl, iteN (fun c => ?_) (fun c => ?_)⟩⟩
  · have k1 := k H1 e1
    unfold dFault at k1
    rw [c] at k1
    exact ⟨_, rfl, k1⟩
  · obtain ⟨a, xs, rfl, hq, hr⟩ := kseq_of hd c
    have hlen := hr.length
    have k2 : ∀ H', Ex H H' → Q (optV ((firstNot (isWholeD (some 0) (some (m - 2))) (itemsD d)).map Int.ofNat)) H' := fun H' e => by
      have := k H' e
      unfold dFault at this
      rw [if_pos c] at this
      exact this
    refine ⟨_, rfl, a, xs, rfl, ex_q e1 hq, _, rfl, by omega, by omega, ?_⟩
    refine for_range (lo := 0) (n := ((xs.length : Nat) : Int).toNat) (fun i σ H' => Ex H H' ∧ (∃ u, σ = [some (.int m), some (.ref a), u]) ∧ ∀ j < i, ∀ e, (itemsD d)[j]? = some e → isWholeD (some 0) (some (m - 2)) e = true) ⟨e1, ⟨_, rfl⟩, fun j hj => absurd hj (Nat.not_lt_zero j)⟩ ?_ ?_
    · rintro i σ H2 hi ⟨e2, ⟨u, rfl⟩, hb⟩
      obtain ⟨x, hx⟩ := some_at (l := xs) (i := i) (by omega)
      obtain ⟨de, hde, rx⟩ := hr.get' hx
      refine ⟨_, rfl, _, rfl, kixQ (v := x) (ex_q e2 hq) (at_of (j := i) (by omega) hx) ⟨_, rfl, _, _, rfl, rfl, de, x, some 0, some (m - 2), rfl, rx.up e2, fun H3 e3 => ⟨_, rfl, iteN (fun c2 => ?_) (fun c2 => ?_)⟩⟩⟩
      · have k3 := k2 H3 (e2.trans e3)
        rw [firstNot_some hde c2 hb] at k3
        refine ⟨_, rfl, ?_⟩
        have : (0 : Int) + (i : Int) = (i : Int) := by omega
        rw [this]
        exact k3
      · refine ⟨e2.trans e3, ⟨_, rfl⟩, fun j hj e he => ?_⟩
        rcases Nat.lt_or_ge j i with q | q
        · exact hb j q e he
        · have : j = i := by omega
          subst this
          rw [hde] at he; cases he
          exact c2
    · rintro σ H2 ⟨e2, ⟨u, rfl⟩, hb⟩
      have k3 := k2 H2 e2
      rw [firstNot_all.mpr fun e he => by
        obtain ⟨j, hj, rfl⟩ := List.getElem_of_mem he
        exact hb j (by omega) _ (List.getElem?_eq_getElem hj)] at k3
      exact k3
theorem rd_count_words (h : sp_count_words K vs H Q E) : t_count_words K E { nx := fun _ H' => Q .non H', rt := Q } (start ["m", "d", "total", "_"] vs) H := by
  obtain ⟨dm, dd, vm, vd, rfl, hm, hd, k⟩ := h
  refine ⟨_, rfl, dm, vm, 2, rfl, hm, ?_⟩
  refine iteB (fun c => fun H1 e1 => ?_) (fun c => if_f c k)
  have k1 := if_t c k
  obtain ⟨m, rfl, m0, m1⟩ := okM_int c
  refine ⟨_, rfl, dd, vd, 64, rfl, hd.up e1, ?_⟩
  refine iteB (fun c2 => fun H2 e2 => ?_) (fun c2 => (if_f c2 k1).up e1)
  have k2 := if_t c2 k1
  obtain ⟨n, rfl, n0, n1⟩ := whole_int c2
  cases hd.int'
  cases hm.int'
  refine ⟨_, rfl, n, rfl, by omega, by omega, ?_⟩
  refine for_range (lo := 0) (n := n.toNat) (fun i σ H' => Ex H H' ∧ ∃ u, σ = [some (.int m), some (.int n), some (.int ((m - 1) ^ i)), u]) ⟨e1.trans e2, none, by rw [Int.pow_zero]; rfl⟩ ?_ ?_
  · rintro i σ H3 hi ⟨e3, u, rfl⟩
    refine ⟨_, rfl, _, rfl, _, _, rfl, rfl, _, _, rfl, rfl, .inr ⟨by omega, by omega⟩, e3, some (.int (0 + (i : Nat))), ?_⟩
    rw [Int.pow_succ]; rfl
  · rintro σ H3 ⟨e3, u, rfl⟩
    exact ⟨_, rfl, k2 _ e3⟩
theorem rd_frame_behind (h : sp_frame_behind K vs H Q E) : t_frame_behind K E { nx := fun _ H' => Q .non H', rt := Q } (start ["last", "digit"] vs) H := by
  obtain ⟨l, d, rfl, k⟩ := h
  have k0 := k H (Ex.refl H)
  unfold fb at k0
  refine ⟨_, rfl, _, rfl, _, _, rfl, rfl, _, rfl, iteD (fun c => ⟨_, rfl, ?_⟩) (fun c => ⟨_, rfl, _, _, rfl, rfl, ?_⟩)⟩
  · rw [if_pos c] at k0; exact k0
  · rw [if_neg c] at k0; exact k0
theorem rd_digit_behind (h : sp_digit_behind K vs H Q E) : t_digit_behind K E { nx := fun _ H' => Q .non H', rt := Q } (start ["last", "frame"] vs) H := by
  obtain ⟨l, d, rfl, k⟩ := h
  have k0 := k H (Ex.refl H)
  unfold db at k0
  refine ⟨_, rfl, _, rfl, _, _, rfl, rfl, _, rfl, iteD (fun c => ⟨_, rfl, ?_⟩) (fun c => ⟨_, rfl, _, _, rfl, rfl, ?_⟩)⟩
  · rw [if_pos c] at k0; exact k0
  · rw [if_neg c] at k0; exact k0
end
end SF


namespace SF
open PySem L2
def top (i : Nat) : Stmt := PySem.Challenge.pw_spentframes_k75_whole_streams_through_lo.main.body.getD i (.Pass ⟨0, 0, 0, 0⟩)
structure Txt (K : Fg) (mg : Str → Option Value) : Prop where
  b_abs : mg "abs" = none
  b_bool : mg "bool" = none
  b_enumerate : mg "enumerate" = none
  b_int : mg "int" = none
  b_isinstance : mg "isinstance" = none
  b_len : mg "len" = none
  b_list : mg "list" = none
  b_min : mg "min" = none
  b_range : mg "range" = none
  b_str : mg "str" = none
  b_tuple : mg "tuple" = none
  b_zip : mg "zip" = none
  c_WORD_FRAMES : ∃ t, mg "WORD_FRAMES" = some (.int 6 t)
  c_MOST_DIGITS : ∃ t, mg "MOST_DIGITS" = some (.int 64 t)
  g_FrameError : mg "FrameError" = some (.ref (ga K "FrameError"))
  g_BadCount : mg "BadCount" = some (.ref (ga K "BadCount"))
  g_BadWord : mg "BadWord" = some (.ref (ga K "BadWord"))
  g_BadDigits : mg "BadDigits" = some (.ref (ga K "BadDigits"))
  g_StreamSource : mg "StreamSource" = some (.ref (ga K "StreamSource"))
  g_StreamSink : mg "StreamSink" = some (.ref (ga K "StreamSink"))
  cl_StreamSource : Cls K (ga K "StreamSource")
  na_StreamSource_m : NoAttr K (ga K "StreamSource") "m"
  na_StreamSource_digits : NoAttr K (ga K "StreamSource") "digits"
  na_StreamSource_told : NoAttr K (ga K "StreamSource") "told"
  na_StreamSource_frame : NoAttr K (ga K "StreamSource") "frame"
  cl_StreamSink : Cls K (ga K "StreamSink")
  na_StreamSink_m : NoAttr K (ga K "StreamSink") "m"
  na_StreamSink_digits : NoAttr K (ga K "StreamSink") "digits"
  na_StreamSink_frame : NoAttr K (ga K "StreamSink") "frame"
  xf_BadCount : XfC K (ga K "BadCount")
  xc_BadCount : XcC K (ga K "BadCount")
  xf_BadWord : XfC K (ga K "BadWord")
  xc_BadWord : XcC K (ga K "BadWord")
  xf_BadDigits : XfC K (ga K "BadDigits")
  xc_BadDigits : XcC K (ga K "BadDigits")
  no_BadCount_most : PySem.W.findIn K (.ref (ga K "BadCount")) "most" = some none
  no_BadWord_at : PySem.W.findIn K (.ref (ga K "BadWord")) "at" = some none
  no_BadDigits_at : PySem.W.findIn K (.ref (ga K "BadDigits")) "at" = some none
section
variable {P : Program} {w : World} {K : Fg} {mg : Str → Option Value} {base : Heap}
abbrev s_BadCount_init : Stmt := inClass (top 2) 0
theorem sc_BadCount_init : FnScope ["self", "most"] ["self", "most"] (defScope s_BadCount_init) := ⟨rfl, rfl, rfl, by decide +kernel, rfl, by decide +kernel, by decide +kernel⟩
theorem ok_BadCount_init (oex : OexC K (ga K "BadCount")) (n1 : PySem.W.findIn K (.ref (ga K "BadCount")) "most" = some none) {fd : FuncData} (F : FunD K "__init__" "BadCount.__init__" (defArgs s_BadCount_init) (defBody s_BadCount_init) (defScope s_BadCount_init) [] [] (He.ma K (ga K "BadCount") "__init__") fd) : FnOk P w K mg base (L2.CX P w) 1 (He.ma K (ga K "BadCount") "__init__") fd ["self", "most"] (sp_exI (ga K "BadCount") ["most"]) := by
  refine F.ok sc_BadCount_init (fun vs H Q E h => by obtain ⟨_, ws, rfl, hl, _⟩ := h; simpa using hl) (fun cdv A outer s H vs Q E hr h => ⟨_, ?_, rd_exI1 oex n1 h⟩)
  exact pss_one (ps_ost (pv 0) (pv 1))

abbrev s_BadWord_init : Stmt := inClass (top 3) 0
theorem sc_BadWord_init : FnScope ["self", "at"] ["self", "at"] (defScope s_BadWord_init) := ⟨rfl, rfl, rfl, by decide +kernel, rfl, by decide +kernel, by decide +kernel⟩
theorem ok_BadWord_init (oex : OexC K (ga K "BadWord")) (n1 : PySem.W.findIn K (.ref (ga K "BadWord")) "at" = some none) {fd : FuncData} (F : FunD K "__init__" "BadWord.__init__" (defArgs s_BadWord_init) (defBody s_BadWord_init) (defScope s_BadWord_init) [] [] (He.ma K (ga K "BadWord") "__init__") fd) : FnOk P w K mg base (L2.CX P w) 1 (He.ma K (ga K "BadWord") "__init__") fd ["self", "at"] (sp_exI (ga K "BadWord") ["at"]) := by
  refine F.ok sc_BadWord_init (fun vs H Q E h => by obtain ⟨_, ws, rfl, hl, _⟩ := h; simpa using hl) (fun cdv A outer s H vs Q E hr h => ⟨_, ?_, rd_exI1 oex n1 h⟩)
  exact pss_one (ps_ost (pv 0) (pv 1))

abbrev s_BadDigits_init : Stmt := inClass (top 4) 0
theorem sc_BadDigits_init : FnScope ["self", "at"] ["self", "at"] (defScope s_BadDigits_init) := ⟨rfl, rfl, rfl, by decide +kernel, rfl, by decide +kernel, by decide +kernel⟩
theorem ok_BadDigits_init (oex : OexC K (ga K "BadDigits")) (n1 : PySem.W.findIn K (.ref (ga K "BadDigits")) "at" = some none) {fd : FuncData} (F : FunD K "__init__" "BadDigits.__init__" (defArgs s_BadDigits_init) (defBody s_BadDigits_init) (defScope s_BadDigits_init) [] [] (He.ma K (ga K "BadDigits") "__init__") fd) : FnOk P w K mg base (L2.CX P w) 1 (He.ma K (ga K "BadDigits") "__init__") fd ["self", "at"] (sp_exI (ga K "BadDigits") ["at"]) := by
  refine F.ok sc_BadDigits_init (fun vs H Q E h => by obtain ⟨_, ws, rfl, hl, _⟩ := h; simpa using hl) (fun cdv A outer s H vs Q E hr h => ⟨_, ?_, rd_exI1 oex n1 h⟩)
  exact pss_one (ps_ost (pv 0) (pv 1))

abbrev s_is_whole : Stmt := top 6
theorem sc_is_whole : FnScope ["thing", "low", "high"] ["thing", "low", "high"] (defScope s_is_whole) := ⟨rfl, rfl, rfl, by decide +kernel, rfl, by decide +kernel, by decide +kernel⟩
theorem ok_is_whole (T : Txt K mg) {fd : FuncData} (F : FunD K "is_whole" "is_whole" (defArgs s_is_whole) (defBody s_is_whole) (defScope s_is_whole) [.non, .non] [] (ga K "is_whole") fd)  : FnOk P w K mg base (L2.CX P w) 1 (ga K "is_whole") fd ["thing", "low", "high"] (sp_is_whole K) := by
  refine F.ok sc_is_whole (fun vs H Q E h => len_is_whole h) (fun cdv A outer s H vs Q E hr h => ?_)
  have hu := hu_of hr
  have nd := sc_is_whole.nd
  refine ⟨_, pss_cons (ps_if (PW.pt (pw_or (pt_not (pt_val (pe_callB call_isi (by rfl) T.b_isinstance (by decide +kernel) (pa_cons (pv 0) (pa_cons (pe_bltn (v := .ty "int") (by rfl) T.b_int (by decide +kernel) rfl) pa_nil))))) (pw_or1 (pt_val (pe_callB call_isi (by rfl) T.b_isinstance (by decide +kernel) (pa_cons (pv 0) (pa_cons (pe_bltn (v := .ty "bool") (by rfl) T.b_bool (by decide +kernel) rfl) pa_nil)))))))
      (pss_one (ps_ret (pe_bl)))
      (pss_nil))
    (pss_cons (ps_if (PW.pt (pw_and (pt_cmpR op_notN (pv 1) (pe_non) (nomark _)) (pw_and1 (pt_cmpR op_lt (pv 0) (pv 1) (nomark _)))))
      (pss_one (ps_ret (pe_bl)))
      (pss_nil))
    (pss_one (ps_ret (pe_or (pe_cmpR op_isN (pv 2) (pe_non) (nomark _)) (pe_one (pe_cmpR op_le (pv 0) (pv 2) (nomark _))))))), ?_⟩
  exact rd_is_whole (K := K) h

abbrev s_is_sequence : Stmt := top 7
theorem sc_is_sequence : FnScope ["thing"] ["thing"] (defScope s_is_sequence) := ⟨rfl, rfl, rfl, by decide +kernel, rfl, by decide +kernel, by decide +kernel⟩
theorem ok_is_sequence (T : Txt K mg) {fd : FuncData} (F : FunD K "is_sequence" "is_sequence" (defArgs s_is_sequence) (defBody s_is_sequence) (defScope s_is_sequence) [] [] (ga K "is_sequence") fd)  : FnOk P w K mg base (L2.CX P w) 1 (ga K "is_sequence") fd ["thing"] (sp_is_sequence K) := by
  refine F.ok sc_is_sequence (fun vs H Q E h => len_is_sequence h) (fun cdv A outer s H vs Q E hr h => ?_)
  have hu := hu_of hr
  have nd := sc_is_sequence.nd
  refine ⟨_, pss_one (ps_ret (pe_callB call_isiT (by rfl) T.b_isinstance (by decide +kernel) (pa_cons (pv 0) (pa_cons (pe_tup (pa_cons (pe_bltn (v := .ty "list") (by rfl) T.b_list (by decide +kernel) rfl) (pa_cons (pe_bltn (v := .ty "tuple") (by rfl) T.b_tuple (by decide +kernel) rfl) pa_nil))) pa_nil)))), ?_⟩
  exact rd_is_sequence (K := K) h

abbrev s_check_count : Stmt := top 9
theorem sc_check_count : FnScope ["m", "most"] ["m", "most"] (defScope s_check_count) := ⟨rfl, rfl, rfl, by decide +kernel, rfl, by decide +kernel, by decide +kernel⟩
theorem ok_check_count (T : Txt K mg) {fd : FuncData} (F : FunD K "check_count" "check_count" (defArgs s_check_count) (defBody s_check_count) (defScope s_check_count) [.int 24] [] (ga K "check_count") fd) (h_is_whole : Has P w K mg base 1 "is_whole" ["thing", "low", "high"] [[], [.non], [.non, .non]] (sp_is_whole K)) (xh_BadCount : ExHas P w K mg base "BadCount" ["most"]) : FnOk P w K mg base (L2.CX P w) 3 (ga K "check_count") fd ["m", "most"] (sp_check_count K) := by
  refine F.ok sc_check_count (fun vs H Q E h => len_check_count h) (fun cdv A outer s H vs Q E hr h => ?_)
  have hu := hu_of hr
  have nd := sc_check_count.nd
  refine ⟨_, pss_cons (ps_if (pt_not (pt_val (pe_has (dvs := []) h_is_whole hr passL (pa_cons (pv 0) (pa_cons (pe_int) (pa_cons (pv 1) pa_nil))))))
      (pss_one (ps_raise (W := fun cls d _ H => E cls d H) rfl (takes_of rfl rfl rfl rfl) (pmk_has xh_BadCount hr (pa_cons (pv 1) pa_nil))))
      (pss_nil))
    (pss_one (ps_ret (pv 0))), ?_⟩
  exact rd_check_count (K := K) h

abbrev s_check_letters : Stmt := top 13
theorem sc_check_letters : FnScope ["m", "least"] ["m", "least"] (defScope s_check_letters) := ⟨rfl, rfl, rfl, by decide +kernel, rfl, by decide +kernel, by decide +kernel⟩
theorem ok_check_letters (T : Txt K mg) {fd : FuncData} (F : FunD K "check_letters" "check_letters" (defArgs s_check_letters) (defBody s_check_letters) (defScope s_check_letters) [] [] (ga K "check_letters") fd) (h_is_whole : Has P w K mg base 1 "is_whole" ["thing", "low", "high"] [[], [.non], [.non, .non]] (sp_is_whole K)) (xh_BadCount : ExHas P w K mg base "BadCount" ["most"]) : FnOk P w K mg base (L2.CX P w) 3 (ga K "check_letters") fd ["m", "least"] (sp_check_letters K) := by
  refine F.ok sc_check_letters (fun vs H Q E h => len_check_letters h) (fun cdv A outer s H vs Q E hr h => ?_)
  have hu := hu_of hr
  have nd := sc_check_letters.nd
  refine ⟨_, pss_one (ps_if (pt_not (pt_val (pe_has (dvs := []) h_is_whole hr passL (pa_cons (pv 0) (pa_cons (pv 1) (pa_cons (pe_globI (i := 6) T.c_WORD_FRAMES) pa_nil))))))
      (pss_one (ps_raise (W := fun cls d _ H => E cls d H) rfl (takes_of rfl rfl rfl rfl) (pmk_has xh_BadCount hr (pa_cons (pe_globI (i := 6) T.c_WORD_FRAMES) pa_nil))))
      (pss_nil)), ?_⟩
  exact rd_check_letters (K := K) h

abbrev s_digits_fault : Stmt := top 14
theorem sc_digits_fault : FnScope ["m", "digits", "at"] ["m", "digits"] (defScope s_digits_fault) := ⟨rfl, rfl, rfl, by decide +kernel, rfl, by decide +kernel, by decide +kernel⟩
theorem ok_digits_fault (T : Txt K mg) {fd : FuncData} (F : FunD K "digits_fault" "digits_fault" (defArgs s_digits_fault) (defBody s_digits_fault) (defScope s_digits_fault) [] [] (ga K "digits_fault") fd) (h_is_whole : Has P w K mg base 1 "is_whole" ["thing", "low", "high"] [[], [.non], [.non, .non]] (sp_is_whole K)) (h_is_sequence : Has P w K mg base 1 "is_sequence" ["thing"] [[]] (sp_is_sequence K)) : FnOk P w K mg base (L2.CX P w) 2 (ga K "digits_fault") fd ["m", "digits"] (sp_digits_fault K) := by
  refine F.ok sc_digits_fault (fun vs H Q E h => len_digits_fault h) (fun cdv A outer s H vs Q E hr h => ?_)
  have hu := hu_of hr
  have nd := sc_digits_fault.nd
  refine ⟨_, pss_cons (ps_if (pt_not (pt_val (pe_has (dvs := []) h_is_sequence hr passL (pa_cons (pv 1) pa_nil))))
      (pss_one (ps_ret (pe_un un_neg (pe_int))))
      (pss_nil))
    (pss_cons (ps_for (passes_of rfl) rfl (pi_range1 (by rfl) T.b_range (pa_cons (pe_callB call_len_seq (by rfl) T.b_len (by decide +kernel) (pa_cons (pv 1) pa_nil)) pa_nil)) (pg_name (i := 2) nd rfl (Or.inl rfl))
      (pss_one (ps_if (pt_not (pt_val (pe_has (dvs := []) h_is_whole hr passL (pa_cons (pe_ix (IxR.or ix_list ix_tup) (pv 1) (pv 2) (fun _ _ => rfl)) (pa_cons (pe_int) (pa_cons (pe_op op_sub (pv 0) (pe_int)) pa_nil))))))
          (pss_one (ps_ret (pv 2)))
          (pss_nil))))
    (pss_one (ps_ret (pe_non)))), ?_⟩
  exact rd_digits_fault (K := K) h

abbrev s_count_words : Stmt := top 15
theorem sc_count_words : FnScope ["m", "d", "total", "_"] ["m", "d"] (defScope s_count_words) := ⟨rfl, rfl, rfl, by decide +kernel, rfl, by decide +kernel, by decide +kernel⟩
theorem ok_count_words (T : Txt K mg) {fd : FuncData} (F : FunD K "count_words" "count_words" (defArgs s_count_words) (defBody s_count_words) (defScope s_count_words) [] [] (ga K "count_words") fd) (h_check_count : Has P w K mg base 3 "check_count" ["m", "most"] [[], [.int 24]] (sp_check_count K)) (h_check_letters : Has P w K mg base 3 "check_letters" ["m", "least"] [[]] (sp_check_letters K)) : FnOk P w K mg base (L2.CX P w) 4 (ga K "count_words") fd ["m", "d"] (sp_count_words K) := by
  refine F.ok sc_count_words (fun vs H Q E h => len_count_words h) (fun cdv A outer s H vs Q E hr h => ?_)
  have hu := hu_of hr
  have nd := sc_count_words.nd
  refine ⟨_, pss_cons (ps_expr (pe_has (dvs := []) h_check_letters hr (passes_call (W := fun cls d _ H => E cls d H) (takes_of rfl rfl rfl rfl) (fun _ _ _ _ z => z)) (pa_cons (pv 0) (pa_cons (pe_int) pa_nil))))
    (pss_cons (ps_expr (pe_has (dvs := []) h_check_count hr (passes_call (W := fun cls d _ H => E cls d H) (takes_of rfl rfl rfl rfl) (fun _ _ _ _ z => z)) (pa_cons (pv 1) (pa_cons (pe_globI (i := 64) T.c_MOST_DIGITS) pa_nil))))
    (pss_cons (ps_set (i := 2) nd rfl (Or.inl rfl) (pe_int))
    (pss_cons (ps_for (passes_of rfl) rfl (pi_range1 (by rfl) T.b_range (pa_cons (pv 1) pa_nil)) (pg_name (i := 3) nd rfl (Or.inl rfl))
      (pss_one (ps_set (i := 2) nd rfl (Or.inl rfl) (pe_op op_mul (pv 2) (pe_op op_sub (pv 0) (pe_int))))))
    (pss_one (ps_ret (pv 2)))))), ?_⟩
  exact rd_count_words (K := K) h

abbrev s_frame_behind : Stmt := top 17
theorem sc_frame_behind : FnScope ["last", "digit"] ["last", "digit"] (defScope s_frame_behind) := ⟨rfl, rfl, rfl, by decide +kernel, rfl, by decide +kernel, by decide +kernel⟩
theorem ok_frame_behind (T : Txt K mg) {fd : FuncData} (F : FunD K "frame_behind" "frame_behind" (defArgs s_frame_behind) (defBody s_frame_behind) (defScope s_frame_behind) [] [] (ga K "frame_behind") fd)  : FnOk P w K mg base (L2.CX P w) 1 (ga K "frame_behind") fd ["last", "digit"] (sp_frame_behind K) := by
  refine F.ok sc_frame_behind (fun vs H Q E h => len_frame_behind h) (fun cdv A outer s H vs Q E hr h => ?_)
  have hu := hu_of hr
  have nd := sc_frame_behind.nd
  refine ⟨_, pss_one (ps_ret (pe_ifExp (pt_cmpR op_lt (pv 1) (pv 0) (nomark _)) (pv 1) (pe_op op_add (pv 1) (pe_int)))), ?_⟩
  exact rd_frame_behind (K := K) h

abbrev s_digit_behind : Stmt := top 18
theorem sc_digit_behind : FnScope ["last", "frame"] ["last", "frame"] (defScope s_digit_behind) := ⟨rfl, rfl, rfl, by decide +kernel, rfl, by decide +kernel, by decide +kernel⟩
theorem ok_digit_behind (T : Txt K mg) {fd : FuncData} (F : FunD K "digit_behind" "digit_behind" (defArgs s_digit_behind) (defBody s_digit_behind) (defScope s_digit_behind) [] [] (ga K "digit_behind") fd)  : FnOk P w K mg base (L2.CX P w) 1 (ga K "digit_behind") fd ["last", "frame"] (sp_digit_behind K) := by
  refine F.ok sc_digit_behind (fun vs H Q E h => len_digit_behind h) (fun cdv A outer s H vs Q E hr h => ?_)
  have hu := hu_of hr
  have nd := sc_digit_behind.nd
  refine ⟨_, pss_one (ps_ret (pe_ifExp (pt_cmpR op_lt (pv 1) (pv 0) (nomark _)) (pv 1) (pe_op op_sub (pv 1) (pe_int)))), ?_⟩
  exact rd_digit_behind (K := K) h

end
end SF

/-! R75b: the readings of check_word, spell_figures, digits_to_word, word_to_digits. -/
namespace SF
open PySem L2
theorem ints_of {lo hi : Int} : ∀ {ds : List PyData}, (∀ e ∈ ds, isWholeD (some lo) (some hi) e = true) → ds = (ds.map asI).map .int
  | [], _ => rfl
  | d :: ds, h => by
    obtain ⟨m, rfl, _⟩ := whole_int (h d List.mem_cons_self)
    rw [List.map_cons, List.map_cons, ← ints_of (ds := ds) fun e he => h e (List.mem_cons_of_mem _ he)]
    rfl
theorem dFault_none {m : Int} {d : PyData} (h : dFault m d = none) : isSeqD d = true ∧ ∀ e ∈ itemsD d, isWholeD (some 0) (some (m - 2)) e = true := by
  unfold dFault at h
  by_cases c : isSeqD d = true
  · rw [if_pos c] at h
    exact ⟨c, firstNot_all.mp (Option.map_eq_none_iff.mp h)⟩
  · rw [if_neg c] at h; cases h
theorem wScan_int {m L z : Int} {i : Nat} {r : List PyData} : wScan m L i (.int z :: r) = if (decide (0 ≤ z) && (decide (z ≤ m - 1) && !decide (z = L))) = true then wScan m z (i + 1) r else some i := rfl
theorem wScan_ints {m : Int} : ∀ {ds : List PyData} {last : Int} {i : Nat}, wScan m last i ds = none → ds = (ds.map asI).map .int
  | [], _, _, _ => rfl
  | d :: ds, last, i, h => by
    cases d <;> first | cases h | skip
    rename_i x
    rw [wScan_int] at h
    split at h
    · rw [List.map_cons, List.map_cons, ← wScan_ints h]; rfl
    · cases h
theorem wFault_none {m : Int} {d : PyData} (h : wFault m d = none) : isSeqD d = true ∧ itemsD d = ((itemsD d).map asI).map .int := by
  unfold wFault at h
  by_cases c : isSeqD d = true
  · rw [if_pos c] at h
    exact ⟨c, wScan_ints (Option.map_eq_none_iff.mp h)⟩
  · rw [if_neg c] at h; cases h
section
variable {K : Fg} {vs : List V} {H : Hp} {Q : VK} {E : XK}
theorem rd_check_word (h : sp_check_word K vs H Q E) : t_check_word K E { nx := fun _ H' => Q .non H', rt := Q } (start ["m", "word", "last", "at"] vs) H := by
  obtain ⟨dm, dw, vm, vw, rfl, hm, hw, hl, k⟩ := h
  refine ⟨_, rfl, dm, vm, 2, rfl, hm, iteB (fun c => fun H1 e1 => ?_) (fun c => if_f c k)⟩
  have k1 := if_t c k
  obtain ⟨m, rfl, m0, m1⟩ := okM_int c
  cases hm.int'
  refine ⟨_, rfl, dw, vw, rfl, hw.up e1, fun H2 e2 => ⟨_, rfl, iteN (fun c2 => ?_) (fun c2 => ?_)⟩⟩
  · have e : wFault m dw = some (-1) := by unfold wFault; rw [c2]; rfl
    have k2 : BadOne K H E "BadWord" "at" (-1) := by
      have k1' := k1
      rw [show asI (.int m) = m from rfl, e] at k1'
      exact k1'
    exact ⟨1, rfl, rfl, fun dd hdd => k2 _ dd ((e1.trans e2).trans (Ex.new hdd)) upd_same⟩
  · have e12 := e1.trans e2
    obtain ⟨a, xs, rfl, hq, hr⟩ := kseq_of hw c2
    have hlen := hr.length
    have ew : wFault m dw = (wScan m (m - 1) 0 (itemsD dw)).map Int.ofNat := by unfold wFault; rw [if_pos c2]
    refine ⟨_, rfl, _, _, rfl, rfl, ?_⟩
    refine ⟨_, rfl, a, xs, rfl, ex_q e12 hq, _, rfl, by omega, by omega, ?_⟩
    refine for_range (lo := 0) (n := ((xs.length : Nat) : Int).toNat) (fun i σ H' => Ex H H' ∧ ∃ L : Int, (∃ u, σ = [some (.int m), some (.ref a), some (.int L), u]) ∧ wScan m (m - 1) 0 (itemsD dw) = wScan m L i ((itemsD dw).drop i)) ⟨e12, m - 1, ⟨_, rfl⟩, by rw [List.drop_zero]⟩ ?_ ?_
    · rintro i σ H3 hi ⟨e3, L, ⟨u, rfl⟩, hs⟩
      obtain ⟨x, hx⟩ := some_at (l := xs) (i := i) (by omega)
      obtain ⟨de, hde, rx⟩ := hr.get' hx
      obtain ⟨hi2, ede⟩ := List.getElem?_eq_some_iff.mp hde
      rw [List.drop_eq_getElem_cons hi2, ede] at hs
      have bad : wScan m L i (de :: (itemsD dw).drop (i + 1)) = some i → ∀ {H4 : Hp}, Ex H3 H4 → tRaiseF (ga K "BadWord") ["at"] E (fun σ H Q => ∃ v5, σ[3]? = some (some v5) ∧ Q [v5] H) { nx := fun _ H' => Q .non H', rt := Q } [some (.int m), some (.ref a), some (.int L), some (.int (0 + (i : Int)))] H4 := by
        intro hb H4 e4
        have k2 : BadOne K H E "BadWord" "at" (i : Int) := by
          have k1' := k1
          rw [show asI (.int m) = m from rfl, ew, hs, hb] at k1'
          exact k1'
        refine ⟨_, rfl, rfl, fun dd hdd => ?_⟩
        have : (0 : Int) + (i : Int) = (i : Int) := by omega
        rw [this]
        exact k2 _ dd ((e3.trans e4).trans (Ex.new hdd)) upd_same
      refine ⟨_, rfl, _, rfl, kixQ (v := x) (ex_q e3 hq) (at_of (j := i) (by omega) hx) ⟨_, rfl, _, _, rfl, rfl, de, x, some 0, some (m - 1), rfl, rx.up e3, fun H4 e4 => ⟨_, rfl, iteN (fun c3 => ?_) (fun c3 => ?_)⟩⟩⟩
      · refine iteT (bad ?_ e4)
        cases de <;> try rfl
        rename_i z
        rw [wScan_int, if_neg]
        intro q
        simp only [Bool.and_eq_true, decide_eq_true_eq] at q
        unfold isWholeD at c3
        simp only [Bool.and_eq_false_iff, decide_eq_false_iff_not] at c3
        omega
      · obtain ⟨z, rfl, z0, z1⟩ := whole_int c3
        cases rx.int'
        refine ⟨_, rfl, _, rfl, kixQ (v := .int z) (ex_q (e3.trans e4) hq) (at_of (j := i) (by omega) hx) ⟨_, rfl, rfl, _, rfl, iteD (fun c4 => ?_) (fun c4 => ?_)⟩⟩
        · refine bad ?_ e4
          have : z = L := by injection c4
          rw [wScan_int, if_neg]
          intro q
          simp only [Bool.and_eq_true, decide_eq_true_eq, Bool.not_eq_true', decide_eq_false_iff_not] at q
          omega
        · have hz : z ≠ L := fun e => c4 (by rw [e])
          refine ⟨_, rfl, _, rfl, kixQ (v := .int z) (ex_q (e3.trans e4) hq) (at_of (j := i) (by omega) hx) ⟨e3.trans e4, z, ⟨_, rfl⟩, ?_⟩⟩
          rw [hs, wScan_int, if_pos (by simp [z0, z1, hz])]
    · rintro σ H3 ⟨e3, L, ⟨u, rfl⟩, hs⟩
      have hnil : (itemsD dw).drop ((xs.length : Nat) : Int).toNat = [] := List.drop_eq_nil_of_le (by omega)
      rw [hnil] at hs
      have k2 : ∀ H' v, Ex H H' → Rk K H' (.tuple (itemsD dw)) v → Q v H' := by
        have k1' := k1
        rw [show asI (.int m) = m from rfl, ew, hs] at k1'
        exact k1'
      exact ⟨_, rfl, tupQ_of (ex_q e3 hq) (hr.up e3) fun H' u e r => k2 H' u (e3.trans e) r⟩
end
end SF

/-! R75c: the readings of spell_figures, digits_to_word, word_to_digits. -/
namespace SF
open PySem L2
theorem spell_app : ∀ (l : Int) (a b : List Int), spell l (a ++ b) = spell l a ++ spell ((spell l a).getLastD l) b
  | l, [], b => rfl
  | l, d :: a, b => by
    show fb l d :: spell (fb l d) (a ++ b) = fb l d :: (spell (fb l d) a ++ spell ((fb l d :: spell (fb l d) a).getLastD l) b)
    rw [spell_app (fb l d) a b, List.getLastD_cons]
theorem spell_len : ∀ (l : Int) (a : List Int), (spell l a).length = a.length
  | _, [] => rfl
  | l, d :: a => by show (spell (fb l d) a).length + 1 = _; rw [spell_len (fb l d) a]; rfl
theorem unspell_app : ∀ (l : Int) (a b : List Int), unspell l (a ++ b) = unspell l a ++ unspell (a.getLastD l) b
  | l, [], b => rfl
  | l, d :: a, b => by
    show db l d :: unspell d (a ++ b) = db l d :: (unspell d a ++ unspell ((d :: a).getLastD l) b)
    rw [unspell_app d a b, List.getLastD_cons]
theorem unspell_len : ∀ (l : Int) (a : List Int), (unspell l a).length = a.length
  | _, [] => rfl
  | l, d :: a => by show (unspell d a).length + 1 = _; rw [unspell_len d a]; rfl
theorem takeS {α : Type} {l : List α} {i : Nat} {x : α} (h : l[i]? = some x) : l.take (i + 1) = l.take i ++ [x] := by rw [List.take_add_one, h]; rfl
theorem rks_ints {K : Fg} {S : Hp} : ∀ {ns : List Int} {xs : List V}, Rks K S (ns.map .int) xs → xs = ns.map .int
  | [], _, h => h.nil'
  | n :: r, _, h => by
    obtain ⟨v, vs, rfl, h1, h2⟩ := Rks.cons' (ds := r.map .int) h
    rw [h1.int', rks_ints h2]
    rfl
section
variable {K : Fg} {vs : List V} {H : Hp} {Q : VK} {E : XK}
theorem rd_spell_figures (h : sp_spell_figures K vs H Q E) : t_spell_figures K E { nx := fun _ H' => Q .non H', rt := Q } (start ["last", "figures", "word", "digit"] vs) H := by
  obtain ⟨d, v, ns, l, rfl, hd, hs, hi, hl, k⟩ := h
  obtain ⟨a, xs, rfl, hq, hr⟩ := kseq_of hd hs
  rw [hi] at hr
  have hx : xs = ns.map .int := rks_ints hr
  subst hx
  refine ⟨Nat.zero_le _, fun D hD => ?_⟩
  have w := (Owns.none H).new (o := .lst []) hD
  refine ⟨_, rfl, kfor_seqQ (xs := ns.map .int) hq w.ex (fun i σ H' => (∃ u, σ = [some (.int ((spell l (ns.take i)).getLastD l)), some (.ref a), some (.ref D), u]) ∧ Owns H H' [(D, lstI (spell l (ns.take i)))]) ⟨⟨_, rfl⟩, w⟩ (fun i σ H' p => p.2.ex) ?_ ?_⟩
  · rintro i x σ H1 hx ⟨⟨u, rfl⟩, w1⟩
    obtain ⟨z, hz, rfl⟩ := int_item hx
    have hi' := (List.getElem?_eq_some_iff.mp hz).1
    refine ⟨_, rfl, _, rfl, _, _, rfl, fun H2 e2 => ⟨_, rfl, tyL ((w1.call e2).get 0), _, rfl, D, _, _, rfl, rfl, (w1.call e2).get 0, szl (by rw [List.length_map, spell_len, List.length_take]; omega), ?_⟩⟩
    have es : spell l (ns.take (i + 1)) = spell l (ns.take i) ++ [fb ((spell l (ns.take i)).getLastD l) z] := by rw [takeS hz, spell_app]; rfl
    have el : (spell l (ns.take (i + 1))).getLastD l = fb ((spell l (ns.take i)).getLastD l) z := by rw [es]; simp
    refine ⟨⟨some (.int z), by rw [el]; rfl⟩, ?_⟩
    have w2 := (w1.call e2).write (o' := .lst ((spell l (ns.take i)).map .int ++ [.int (fb ((spell l (ns.take i)).getLastD l) z)])) 0
    rw [es]
    unfold lstI
    rw [List.map_append]
    exact w2
  · rintro σ H1 ⟨⟨u, rfl⟩, w1⟩
    rw [List.length_map, List.take_length] at w1
    exact ⟨_, rfl, tupQ_of (.inl (.of (w1.get 0))) (rk_ints (spell l ns)) fun H2 u e r => k H2 u (w1.ex.trans e) r⟩
theorem rd_digits_to_word (h : sp_digits_to_word K vs H Q E) : t_digits_to_word K E { nx := fun _ H' => Q .non H', rt := Q } (start ["m", "digits", "at"] vs) H := by
  obtain ⟨dm, d, vm, v, rfl, hm, hd, hl, k⟩ := h
  refine ⟨_, rfl, dm, vm, 2, rfl, hm, iteB (fun c => fun H1 e1 => ?_) (fun c => if_f c k)⟩
  have k1 := if_t c k
  obtain ⟨m, rfl, m0, m1⟩ := okM_int c
  cases hm.int'
  refine ⟨_, rfl, _, rfl, d, v, m, rfl, hd.up e1, by omega, fun H2 e2 => ?_⟩
  rw [show asI (.int m) = m from rfl] at k1
  cases hf : dFault m d with
  | some i =>
    rw [hf] at k1
    exact ⟨_, rfl, rfl, _, rfl, iteT ⟨_, rfl, rfl, fun dd hdd => k1 _ dd ((e1.trans e2).trans (Ex.new hdd)) upd_same⟩⟩
  | none =>
    rw [hf] at k1
    obtain ⟨hs, hi⟩ := dFault_none hf
    refine ⟨_, rfl, rfl, _, rfl, ifF (by rfl) ⟨_, rfl, _, _, rfl, rfl, _, rfl, d, v, (itemsD d).map asI, m - 1, rfl, hd.up (e1.trans e2), hs, ints_of hi, by rw [List.length_map]; exact hl, fun H' u e r => k1 H' u ((e1.trans e2).trans e) r⟩⟩
theorem rd_word_to_digits (h : sp_word_to_digits K vs H Q E) : t_word_to_digits K E { nx := fun _ H' => Q .non H', rt := Q } (start ["m", "word", "frames", "last", "frame"] vs) H := by
  obtain ⟨dm, d, vm, v, rfl, hm, hd, hl, k⟩ := h
  refine ⟨_, rfl, _, rfl, dm, d, vm, v, rfl, hm, hd, by omega, iteB (fun c => ?_) (fun c => if_f c k)⟩
  have k1 := if_t c k
  obtain ⟨m, rfl, m0, m1⟩ := okM_int c
  cases hm.int'
  rw [show asI (.int m) = m from rfl] at k1 ⊢
  cases hf : wFault m d with
  | some i => rw [hf] at k1; exact k1
  | none =>
    rw [hf] at k1
    obtain ⟨hs, hi⟩ := wFault_none hf
    generalize hns : (itemsD d).map asI = ns at hi k1
    have hln : ns.length ≤ 10000 := by rw [← hns, List.length_map]; exact hl
    rw [hi]
    refine fun H1 u e1 r1 => ?_
    refine ⟨_, rfl, _, _, rfl, rfl, (by show 1 ≤ sizeLine; decide), fun p1 hp1 => ⟨_, rfl, ?_⟩⟩
    refine catA_of (ds := [.int (m - 1)]) (es := ns.map .int) (.tup (.of upd_same) (.cons (.int _) .nil)) (r1.up (Ex.new hp1)) (sz (by rw [List.length_map, List.length_singleton]; omega)) fun H2 x2 e2 r2 => ?_
    obtain ⟨ax, xx, rfl, g1, g2⟩ := r2.tup'
    obtain ⟨au, xu, rfl, g3, g4⟩ := (r1.up ((Ex.new hp1).trans e2)).tup'
    have hxu : xu = ns.map .int := rks_ints g4
    have hxx : xx = ((m - 1) :: ns).map .int := rks_ints (ns := (m - 1) :: ns) g2
    subst hxu hxx
    refine ⟨_, rfl, ax, au, _, _, rfl, .inr ⟨g1, g3, fun D hD => ?_⟩⟩
    have w := (Owns.none H2).new (o := .lst []) hD
    refine lc_it (walk_zipT (xs := ((m - 1) :: ns).map V.int) (ys := ns.map V.int) (n := ns.length) (by simp)) (fun i H' => Owns H2 H' [(D, lstI (unspell (m - 1) (ns.take i)))]) w (fun i H' _ p => ⟨ex_t p.ex g1, ex_t p.ex g3⟩) ?_ ?_
    · rintro i x H3 H4 hi3 w3 ⟨T, x1, x2, rfl, hT, rfl, hx1, hx2⟩
      obtain ⟨z2, hz2, rfl⟩ := int_item hx2
      obtain ⟨z1, hz1, rfl⟩ := int_item hx1
      have w4 := w3.call (Ex.new (o := .tup [.int z1, .int z2]) hT)
      refine ⟨T, _, rfl, .of upd_same, rfl, _, _, rfl, _, _, rfl, rfl, rfl, _, rfl, _, rfl, _, _, rfl, fun H5 e5 => ⟨_, (w4.call e5).get 0, szl (by rw [List.length_map, unspell_len, List.length_take]; omega), ?_⟩⟩
      have el : z1 = (ns.take i).getLastD (m - 1) := by
        cases i with
        | zero => simp at hz1; rw [← hz1]; rfl
        | succ i =>
          rw [List.getElem?_cons_succ] at hz1
          rw [takeS hz1]; simp
      have es : unspell (m - 1) (ns.take (i + 1)) = unspell (m - 1) (ns.take i) ++ [db z1 z2] := by rw [takeS hz2, unspell_app, ← el]; rfl
      have w5 := (w4.call e5).write (o' := .lst ((unspell (m - 1) (ns.take i)).map .int ++ [.int (db z1 z2)])) 0
      rw [es]
      unfold lstI
      rw [List.map_append]
      exact w5
    · intro H3 w3
      rw [List.take_length] at w3
      exact tupQ_of (.inl (.of (w3.get 0))) (rk_ints (unspell (m - 1) ns)) fun H4 u e r => k1 H4 u ((e1.trans ((Ex.new hp1).trans e2)).trans (w3.ex.trans e)) r
end
end SF


namespace SF
open PySem L2
section
variable {P : Program} {w : World} {K : Fg} {mg : Str → Option Value} {base : Heap}
abbrev s_check_word : Stmt := top 16
theorem sc_check_word : FnScope ["m", "word", "last", "at"] ["m", "word"] (defScope s_check_word) := ⟨rfl, rfl, rfl, by decide +kernel, rfl, by decide +kernel, by decide +kernel⟩
theorem ok_check_word (T : Txt K mg) {fd : FuncData} (F : FunD K "check_word" "check_word" (defArgs s_check_word) (defBody s_check_word) (defScope s_check_word) [] [] (ga K "check_word") fd) (h_is_whole : Has P w K mg base 1 "is_whole" ["thing", "low", "high"] [[], [.non], [.non, .non]] (sp_is_whole K)) (h_is_sequence : Has P w K mg base 1 "is_sequence" ["thing"] [[]] (sp_is_sequence K)) (h_check_letters : Has P w K mg base 3 "check_letters" ["m", "least"] [[]] (sp_check_letters K)) (xh_BadWord : ExHas P w K mg base "BadWord" ["at"]) : FnOk P w K mg base (L2.CX P w) 4 (ga K "check_word") fd ["m", "word"] (sp_check_word K) := by
  refine F.ok sc_check_word (fun vs H Q E h => len_check_word h) (fun cdv A outer s H vs Q E hr h => ?_)
  have hu := hu_of hr
  have nd := sc_check_word.nd
  refine ⟨_, pss_cons (ps_expr (pe_has (dvs := []) h_check_letters hr (passes_call (W := fun cls d _ H => E cls d H) (takes_of rfl rfl rfl rfl) (fun _ _ _ _ z => z)) (pa_cons (pv 0) (pa_cons (pe_int) pa_nil))))
    (pss_cons (ps_if (pt_not (pt_val (pe_has (dvs := []) h_is_sequence hr passL (pa_cons (pv 1) pa_nil))))
      (pss_one (ps_raise (W := fun cls d _ H => E cls d H) rfl (takes_of rfl rfl rfl rfl) (pmk_has xh_BadWord hr (pa_cons (pe_un un_neg (pe_int)) pa_nil))))
      (pss_nil))
    (pss_cons (ps_set (i := 2) nd rfl (Or.inl rfl) (pe_op op_sub (pv 0) (pe_int)))
    (pss_cons (ps_for (passes_of rfl) rfl (pi_range1 (by rfl) T.b_range (pa_cons (pe_callB call_len_seq (by rfl) T.b_len (by decide +kernel) (pa_cons (pv 1) pa_nil)) pa_nil)) (pg_name (i := 3) nd rfl (Or.inl rfl))
      (pss_cons (ps_if (PW.pt (pw_or (pt_not (pt_val (pe_has (dvs := []) h_is_whole hr passL (pa_cons (pe_ix (IxR.or ix_list ix_tup) (pv 1) (pv 3) (fun _ _ => rfl)) (pa_cons (pe_int) (pa_cons (pe_op op_sub (pv 0) (pe_int)) pa_nil)))))) (pw_or1 (pt_cmpR op_eq (pe_ix (IxR.or ix_list ix_tup) (pv 1) (pv 3) (fun _ _ => rfl)) (pv 2) (nomark _)))))
          (pss_one (ps_raise (W := fun cls d _ H => E cls d H) rfl (takes_of rfl rfl rfl rfl) (pmk_has xh_BadWord hr (pa_cons (pv 3) pa_nil))))
          (pss_nil))
        (pss_one (ps_set (i := 2) nd rfl (Or.inl rfl) (pe_ix (IxR.or ix_list ix_tup) (pv 1) (pv 3) (fun _ _ => rfl))))))
    (pss_one (ps_ret (pe_callTy call_tuple_of (by rfl) T.b_tuple (by decide +kernel) (pa_cons (pv 1) pa_nil))))))), ?_⟩
  exact rd_check_word (K := K) h

abbrev s_spell_figures : Stmt := top 19
theorem sc_spell_figures : FnScope ["last", "figures", "word", "digit"] ["last", "figures"] (defScope s_spell_figures) := ⟨rfl, rfl, rfl, by decide +kernel, rfl, by decide +kernel, by decide +kernel⟩
theorem ok_spell_figures (T : Txt K mg) {fd : FuncData} (F : FunD K "spell_figures" "spell_figures" (defArgs s_spell_figures) (defBody s_spell_figures) (defScope s_spell_figures) [] [] (ga K "spell_figures") fd) (h_frame_behind : Has P w K mg base 1 "frame_behind" ["last", "digit"] [[]] (sp_frame_behind K)) : FnOk P w K mg base (L2.CX P w) 2 (ga K "spell_figures") fd ["last", "figures"] (sp_spell_figures K) := by
  refine F.ok sc_spell_figures (fun vs H Q E h => len_spell_figures h) (fun cdv A outer s H vs Q E hr h => ?_)
  have hu := hu_of hr
  have nd := sc_spell_figures.nd
  refine ⟨_, pss_cons (ps_set (i := 2) nd rfl (Or.inl rfl) (pe_lst pa_nil))
    (pss_cons (ps_for (passes_of rfl) rfl (pi_seqQ (pv 1)) (pg_name (i := 3) nd rfl (Or.inl rfl))
      (pss_cons (ps_set (i := 0) nd rfl (Or.inl rfl) (pe_has (dvs := []) h_frame_behind hr passL (pa_cons (pv 0) (pa_cons (pv 3) pa_nil))))
        (pss_one (ps_expr (pe_bm PySem.F.plainAttrs_list PySem.F.slot_list_append PySem.F.type_list_append mt_append (pv 2) (pa_cons (pv 0) pa_nil))))))
    (pss_one (ps_ret (pe_callTy call_tuple_of (by rfl) T.b_tuple (by decide +kernel) (pa_cons (pv 2) pa_nil))))), ?_⟩
  exact rd_spell_figures (K := K) h

abbrev s_digits_to_word : Stmt := top 20
theorem sc_digits_to_word : FnScope ["m", "digits", "at"] ["m", "digits"] (defScope s_digits_to_word) := ⟨rfl, rfl, rfl, by decide +kernel, rfl, by decide +kernel, by decide +kernel⟩
theorem ok_digits_to_word (T : Txt K mg) {fd : FuncData} (F : FunD K "digits_to_word" "digits_to_word" (defArgs s_digits_to_word) (defBody s_digits_to_word) (defScope s_digits_to_word) [] [] (ga K "digits_to_word") fd) (h_check_letters : Has P w K mg base 3 "check_letters" ["m", "least"] [[]] (sp_check_letters K)) (h_digits_fault : Has P w K mg base 2 "digits_fault" ["m", "digits"] [[]] (sp_digits_fault K)) (h_spell_figures : Has P w K mg base 2 "spell_figures" ["last", "figures"] [[]] (sp_spell_figures K)) (xh_BadDigits : ExHas P w K mg base "BadDigits" ["at"]) : FnOk P w K mg base (L2.CX P w) 4 (ga K "digits_to_word") fd ["m", "digits"] (sp_digits_to_word K) := by
  refine F.ok sc_digits_to_word (fun vs H Q E h => len_digits_to_word h) (fun cdv A outer s H vs Q E hr h => ?_)
  have hu := hu_of hr
  have nd := sc_digits_to_word.nd
  refine ⟨_, pss_cons (ps_expr (pe_has (dvs := []) h_check_letters hr (passes_call (W := fun cls d _ H => E cls d H) (takes_of rfl rfl rfl rfl) (fun _ _ _ _ z => z)) (pa_cons (pv 0) (pa_cons (pe_int) pa_nil))))
    (pss_cons (ps_set (i := 2) nd rfl (Or.inl rfl) (pe_has (dvs := []) h_digits_fault hr passL (pa_cons (pv 0) (pa_cons (pv 1) pa_nil))))
    (pss_cons (ps_if (pt_cmpR op_notN (pv 2) (pe_non) (nomark _))
      (pss_one (ps_raise (W := fun cls d _ H => E cls d H) rfl (takes_of rfl rfl rfl rfl) (pmk_has xh_BadDigits hr (pa_cons (pv 2) pa_nil))))
      (pss_nil))
    (pss_one (ps_ret (pe_has (dvs := []) h_spell_figures hr passL (pa_cons (pe_op op_sub (pv 0) (pe_int)) (pa_cons (pv 1) pa_nil))))))), ?_⟩
  exact rd_digits_to_word (K := K) h

abbrev s_word_to_digits : Stmt := top 21
theorem sc_word_to_digits : FnScope ["m", "word", "frames", "last", "frame"] ["m", "word"] (defScope s_word_to_digits) := ⟨rfl, rfl, rfl, by decide +kernel, rfl, by decide +kernel, by decide +kernel⟩
theorem ok_word_to_digits (T : Txt K mg) {fd : FuncData} (F : FunD K "word_to_digits" "word_to_digits" (defArgs s_word_to_digits) (defBody s_word_to_digits) (defScope s_word_to_digits) [] [] (ga K "word_to_digits") fd) (h_check_word : Has P w K mg base 4 "check_word" ["m", "word"] [[]] (sp_check_word K)) (h_digit_behind : Has P w K mg base 1 "digit_behind" ["last", "frame"] [[]] (sp_digit_behind K)) : FnOk P w K mg base (L2.CX P w) 5 (ga K "word_to_digits") fd ["m", "word"] (sp_word_to_digits K) := by
  refine F.ok sc_word_to_digits (fun vs H Q E h => len_word_to_digits h) (fun cdv A outer s H vs Q E hr h => ?_)
  have hu := hu_of hr
  have nd := sc_word_to_digits.nd
  refine ⟨_, pss_cons (ps_set (i := 2) nd rfl (Or.inl rfl) (pe_has (dvs := []) h_check_word hr (passes_call (W := fun cls d _ H => E cls d H) (takes_of rfl rfl rfl rfl) (fun _ _ _ _ z => z)) (pa_cons (pv 0) (pa_cons (pv 1) pa_nil))))
    (pss_one (ps_ret (pe_callTy call_tuple_of (by rfl) T.b_tuple (by decide +kernel) (pa_cons (pe_lc (own := [("last", 3), ("frame", 4)]) (g := (gTup K 2 (gCons (gName 3) (gCons (gName 4) gNil)))) (tt := tYes) rfl nd (RZ.pi_zipA (by rfl) T.b_zip (pa_cons (pe_op op_catA (pe_tup (pa_cons (pe_op op_sub (pv 0) (pe_int)) pa_nil)) (pv 2)) (pa_cons (pv 2) pa_nil))) (blkOk_by (by rfl)) (fun _ _ _ _ _ => pg_tup (by rfl) (pgs_cons (pg_name (i := 3) nd rfl (Or.inl rfl)) (pgs_cons (pg_name (i := 4) nd rfl (Or.inl rfl)) pgs_nil))) (fun _ _ _ _ _ => pts_nil) (fun _ _ _ _ _ => (pe_has (sp := sp_digit_behind K) (dvs := []) h_digit_behind hr passL (pa_cons (pv 3) (pa_cons (pv 4) pa_nil))))) pa_nil)))), ?_⟩
  exact rd_word_to_digits (K := K) h

end
end SF

/-! R75d: the readings of the source's and the sink's methods. -/
namespace SF
open PySem L2
section
variable {K : Fg} {vs : List V} {H : Hp} {Q : VK} {E : XK}
theorem rd_StreamSource_send_on (h : sp_StreamSource_send_on K vs H Q E) : t_StreamSource_send_on K E { nx := fun _ H' => Q .non H', rt := Q } (start ["self", "last"] vs) H := by
  obtain ⟨S, l, a, dx, m, ds, vd, t, fr, rfl, w, hd, k⟩ := h
  obtain ⟨ap, xs, rfl, g1, g2⟩ := hd.tup'
  have hx := rks_ints g2
  subst hx
  have gt := ex_t w.ex g1
  refine ⟨_, rfl, a, dx, _, _, rfl, w.get 0, rfl, _, rfl, a, dx, _, _, rfl, w.get 0, rfl, ap, _, rfl, .inr gt, _, _, rfl, rfl, _, rfl, iteD (fun c => ?_) (fun c => ?_)⟩
  · rw [List.length_map] at c
    obtain ⟨d, hd⟩ := some_at (l := ds) (i := t) (by omega)
    have es : sendOn m ds t fr = some (fb (fr.getD (m - 1)) d) := by unfold sendOn; rw [hd]
    rw [es] at k
    have fin : tSeq tNext (sFldC (ga K "StreamSource") (fun σ H Q => ∃ v7, σ[0]? = some (some v7) ∧ Q v7 H) (e_StreamSource_send_on_2 K E) "frame") { nx := fun _ H' => Q .non H', rt := Q } [some (.ref a), some (.int (fr.getD (m - 1)))] H := by
      refine ⟨_, rfl, _, rfl, a, dx, _, _, rfl, w.get 0, rfl, _, rfl, a, dx, _, _, rfl, w.get 0, rfl, ap, _, t, .int d, rfl, rfl, gt, at_nat (by rw [List.getElem?_map, hd]; rfl), _, _, rfl, fun H1 e1 => ?_⟩
      refine ⟨_, rfl, a, dx, _, rfl, (w.call e1).get 0, (by show 4 < 1000; decide), k _ ((w.call e1).write 0)⟩
    cases fr with
    | none => exact ⟨_, rfl, a, dx, _, .non, rfl, w.get 0, rfl, rfl, _, rfl, ifT (by rfl) ⟨_, rfl, a, dx, _, _, rfl, w.get 0, rfl, _, _, rfl, rfl, fin⟩⟩
    | some f => exact ⟨_, rfl, a, dx, _, .int f, rfl, w.get 0, rfl, rfl, _, rfl, ifF (by rfl) ⟨_, rfl, a, dx, _, _, rfl, w.get 0, rfl, fin⟩⟩
  · rw [List.length_map] at c
    have es : sendOn m ds t fr = fr := by unfold sendOn; rw [List.getElem?_eq_none (by omega)]
    rw [es] at k
    exact k _ w
theorem rd_StreamSource_hear (h : sp_StreamSource_hear K vs H Q E) : t_StreamSource_hear K E { nx := fun _ H' => Q .non H', rt := Q } (start ["self", "frame"] vs) H := by
  obtain ⟨S, l, a, dx, m, ds, vd, t, fr, d, v, rfl, w, hd, hv, ht, hfr, k⟩ := h
  obtain ⟨ap, xs, rfl, g1, g2⟩ := hd.tup'
  have hx := rks_ints g2
  subst hx
  refine ⟨_, rfl, d, v, none, none, rfl, hv.up w.ex, fun H1 e1 => ⟨_, rfl, ?_⟩⟩
  have w1 := w.call e1
  have gt := ex_t w1.ex g1
  have no : hears t ds.length fr d = false → Q .non H1 := fun e => by
    have q := k H1
    rw [e] at q
    exact q w1
  cases d <;> try (exact iteF (iteF (no (by cases fr <;> rfl))))
  rename_i f
  cases hv.int'
  refine iteT ⟨_, rfl, a, dx, _, _, rfl, w1.get 0, rfl, _, rfl, a, dx, _, _, rfl, w1.get 0, rfl, ap, _, rfl, .inr gt, _, _, rfl, rfl, _, rfl, iteD (fun c => ?_) (fun c => ?_)⟩
  · rw [List.length_map] at c
    have hlt : t < ds.length := by omega
    obtain ⟨g, rfl⟩ : ∃ g, fr = some g := by
      cases fr with
      | none => exact absurd rfl (hfr hlt)
      | some g => exact ⟨g, rfl⟩
    refine ⟨_, rfl, _, rfl, a, dx, _, _, rfl, w1.get 0, rfl, rfl, _, rfl, iteD (fun c2 => ?_) (fun c2 => ?_)⟩
    · have hfg : f = g := by injection c2
      have hh : hears t ds.length (some g) (.int f) = true := by simp [hears, hlt, hfg]
      refine ⟨_, rfl, a, dx, _, _, rfl, w1.get 0, rfl, _, _, rfl, rfl, _, rfl, a, dx, _, rfl, w1.get 0, (by show 4 < 1000; decide), ?_⟩
      have w2 := w1.write (o' := srcO K dx m (.ref ap) ((t + 1 : Nat) : Int) (some g)) 0
      refine ⟨_, rfl, a, dx, _, rfl, w2.get 0, rfl, S, l, a, dx, m, ds, .ref ap, t + 1, some g, rfl, w2, .tup g1 g2, fun H2 w3 => ?_⟩
      have q := k H2
      rw [hh] at q
      exact q w3
    · refine no ?_
      have hfg : f ≠ g := fun e => c2 (by rw [e]; rfl)
      simp [hears, hfg]
  · rw [List.length_map] at c
    refine iteF (no ?_)
    cases fr with
    | none => rfl
    | some g => simp [hears]; intro q; omega
end
end SF

/-! R75e: the readings of put, of both __init__, of the sink's hear. -/
namespace SF
open PySem L2
section
variable {K : Fg} {S H : Hp} {L : List (Addr × HO)} {a b : Addr} {xs ys : List V} {ds es : List PyData} {Q : VK}
/-- tuple(x), things owned beside -/
theorem tupQ_ow (w : Owns S H L) (hv : SqL K S a xs ∨ SqT K S a xs) (hr : Rks K S ds xs) (k : ∀ S' H' u, Ex S S' → Owns S' H' L → Rk K S' (.tuple ds) u → Q u H') : rTupQ K [.ref a] H Q := by
  rcases hv with hv | hv
  · exact ⟨a, xs, rfl, .inl ⟨ex_l w.ex hv, fun l hl => k _ _ _ (w.growEx hl) (w.grow hl) (.tup (.of upd_same) (hr.up (w.growEx hl)))⟩⟩
  · exact ⟨a, xs, rfl, .inr ⟨ex_t w.ex hv, k _ _ _ (Ex.refl _) w (.tup hv hr)⟩⟩
theorem catA_ow {x y : V} (w : Owns S H L) (hx : Rk K S (.tuple ds) x) (hy : Rk K S (.tuple es) y) (hl : ds.length + es.length ≤ sizeLine) (k : ∀ S' H' u, Ex S S' → Owns S' H' L → Rk K S' (.tuple (ds ++ es)) u → Q u H') : rCatA K x y H Q := by
  obtain ⟨a, xs, rfl, h1, h2⟩ := hx.tup'
  obtain ⟨b, ys, rfl, h3, h4⟩ := hy.tup'
  refine ⟨a, b, xs, ys, rfl, rfl, ex_t w.ex h1, ex_t w.ex h3, by rw [h2.length, h4.length]; exact hl, fun e => ?_, fun _ e => ?_, fun _ _ p hp => ?_⟩
  · subst e
    cases ds with
    | nil => exact k _ _ _ (Ex.refl _) w (.tup h3 h4)
    | cons d ds => have := h2.length; simp at this
  · subst e
    cases es with
    | nil => rw [List.append_nil] at k; exact k _ _ _ (Ex.refl _) w (.tup h1 h2)
    | cons d es => have := h4.length; simp at this
  · exact k _ _ _ (w.growEx hp) (w.grow hp) (.tup (.of upd_same) ((h2.append h4).up (w.growEx hp)))
end
section
variable {K : Fg} {vs : List V} {H : Hp} {Q : VK} {E : XK}
theorem rd_StreamSource_put (h : sp_StreamSource_put K vs H Q E) : t_StreamSource_put K E { nx := fun _ H' => Q .non H', rt := Q } (start ["self", "digits", "at", "waits"] vs) H := by
  obtain ⟨S, l, a, dx, m, ds, vd, t, fr, d, v, rfl, w, hd, hv, hl, hl2, ht, k⟩ := h
  refine ⟨_, rfl, a, dx, _, .int m, rfl, w.get 0, rfl, _, rfl, d, v, m, rfl, hv.up w.ex, by omega, fun H1 e1 => ?_⟩
  have w1 := w.call e1
  cases hf : dFault m d with
  | some i =>
    rw [hf] at k
    exact ⟨_, rfl, rfl, _, rfl, iteT ⟨_, rfl, rfl, fun dd hdd => k _ dd (e1.trans (Ex.new hdd)) upd_same⟩⟩
  | none =>
    rw [hf] at k
    obtain ⟨hs, hi⟩ := dFault_none hf
    obtain ⟨ai, xi, rfl, gi, ri⟩ := kseq_of hv hs
    have hii := ints_of hi
    generalize hns : (itemsD d).map asI = ns at hii k
    have hln : ns.length ≤ 10000 := by rw [← hns, List.length_map]; exact hl
    obtain ⟨ap, xs, rfl, g1, g2⟩ := hd.tup'
    have hx := rks_ints g2
    subst hx
    have gt := ex_t w1.ex g1
    refine ⟨_, rfl, rfl, _, rfl, ifF (by rfl) ?_⟩
    refine ⟨_, rfl, a, dx, _, .int t, rfl, w1.get 0, rfl, _, rfl, a, dx, _, .ref ap, rfl, w1.get 0, rfl, ap, _, rfl, .inr gt, rfl, ?_⟩
    refine ⟨_, rfl, a, dx, _, .ref ap, rfl, w1.get 0, rfl, _, rfl, tupQ_ow w1 gi ri fun S2 H2 u e2 w2 r2 => catA_ow w2 (ds := ds.map .int) (.tup (ex_t e2 g1) (g2.up e2)) r2 (sz (by rw [List.length_map, hii, List.length_map]; omega)) fun S3 H3 u3 e3 w3 r3 => ?_⟩
    rw [hii, ← List.map_append] at r3
    have w4 := w3.write (o' := srcO K dx m u3 t fr) 0
    refine ⟨_, rfl, a, dx, _, rfl, w3.get 0, (by show 4 < 1000; decide), ?_⟩
    refine ⟨_, rfl, _, rfl, ?_⟩
    rw [List.length_map]
    refine iteD (fun c => ?_) (fun c => ?_)
    · have hc : t = ds.length := by injection c with c; omega
      refine ⟨_, rfl, a, dx, _, rfl, w4.get 0, rfl, S3, l, a, dx, m, ds ++ ns, u3, t, fr, rfl, w4, r3, fun H5 w5 => k S3 H5 u3 (e2.trans e3) ?_ r3⟩
      rw [if_pos hc]
      exact w5
    · have hc : ¬ t = ds.length := fun e => c (by rw [e])
      refine k S3 _ u3 (e2.trans e3) ?_ r3
      rw [if_neg hc]
      exact w4
theorem rd_StreamSource___init__ (h : sp_StreamSource___init__ K vs H Q E) : t_StreamSource___init__ K E { nx := fun _ H' => Q .non H', rt := Q } (start ["self", "m", "digits"] vs) H := by
  obtain ⟨S, l, a, dx, dm, d, vm, v, rfl, w, hm, hv, hl, k⟩ := h
  refine ⟨_, rfl, dm, vm, 3, rfl, hm.up w.ex, iteB (fun c => fun H1 e1 => ?_) (fun c => (if_f c k).up w.ex)⟩
  have k1 := if_t c k
  obtain ⟨m, rfl, m0, m1⟩ := okM_int c
  cases hm.int'
  rw [show asI (.int m) = m from rfl] at k1
  have w1 := w.call e1
  refine ⟨_, rfl, _, rfl, a, dx, [], rfl, w1.get 0, (by decide), ?_⟩
  have w2 := w1.write (o' := .ins (ga K "StreamSource") dx [("m", .int m)]) 0
  refine ⟨Nat.zero_le _, fun p hp => ?_⟩
  have w3 := w2.grow (o := .tup []) hp
  have e3 := w2.growEx (o := .tup []) hp
  have rp : Rk K (upd S p (.tup [])) (tupI []) (.ref p) := .tup (.of upd_same) .nil
  refine ⟨_, rfl, a, dx, _, rfl, w3.get 0, (by show 1 < 1000; decide), ?_⟩
  have w4 := w3.write (o' := .ins (ga K "StreamSource") dx [("m", .int m), ("digits", .ref p)]) 0
  refine ⟨_, rfl, a, dx, _, rfl, w4.get 0, (by show 2 < 1000; decide), ?_⟩
  have w5 := w4.write (o' := .ins (ga K "StreamSource") dx [("m", .int m), ("digits", .ref p), ("told", .int 0)]) 0
  refine ⟨_, rfl, a, dx, _, rfl, w5.get 0, (by show 3 < 1000; decide), ?_⟩
  have w6 := w5.write (o' := srcO K dx m (.ref p) 0 none) 0
  refine ⟨_, rfl, a, dx, _, rfl, w6.get 0, rfl, _, rfl, upd S p (.tup []), l, a, dx, m, [], .ref p, 0, none, d, v, rfl, w6, rp, hv.up e3, hl, by simp, Nat.le_refl _, ?_⟩
  cases hf : dFault m d with
  | some i =>
    rw [hf] at k1
    exact k1.up (e3.trans w6.ex)
  | none =>
    rw [hf] at k1
    intro S' H' vd' e7 w7 r7
    exact k1 S' H' vd' (e3.trans e7) w7 r7
theorem rd_StreamSink___init__ (h : sp_StreamSink___init__ K vs H Q E) : t_StreamSink___init__ K E { nx := fun _ H' => Q .non H', rt := Q } (start ["self", "m"] vs) H := by
  obtain ⟨S, l, a, dx, dm, vm, rfl, w, hm, k⟩ := h
  refine ⟨_, rfl, dm, vm, 3, rfl, hm.up w.ex, iteB (fun c => fun H1 e1 => ?_) (fun c => (if_f c k).up w.ex)⟩
  have k1 := if_t c k
  obtain ⟨m, rfl, m0, m1⟩ := okM_int c
  cases hm.int'
  rw [show asI (.int m) = m from rfl] at k1
  have w1 := w.call e1
  refine ⟨_, rfl, _, rfl, a, dx, [], rfl, w1.get 0, (by decide), ?_⟩
  have w2 := w1.write (o' := .ins (ga K "StreamSink") dx [("m", .int m)]) 0
  refine ⟨Nat.zero_le _, fun p hp => ?_⟩
  have w3 := w2.grow (o := .tup []) hp
  have e3 := w2.growEx (o := .tup []) hp
  have rp : Rk K (upd S p (.tup [])) (tupI []) (.ref p) := .tup (.of upd_same) .nil
  refine ⟨_, rfl, a, dx, _, rfl, w3.get 0, (by show 1 < 1000; decide), ?_⟩
  have w4 := w3.write (o' := .ins (ga K "StreamSink") dx [("m", .int m), ("digits", .ref p)]) 0
  refine ⟨_, rfl, a, dx, _, rfl, w4.get 0, (by show 2 < 1000; decide), ?_⟩
  exact k1 _ _ (.ref p) e3 (w4.write (o' := snkO K dx m (.ref p) none) 0) rp
theorem rd_StreamSink_hear (h : sp_StreamSink_hear K vs H Q E) : t_StreamSink_hear K E { nx := fun _ H' => Q .non H', rt := Q } (start ["self", "frame", "last"] vs) H := by
  obtain ⟨S, l, a, dx, m, ds, vd, fr, d, v, rfl, w, hd, hl, hv, k⟩ := h
  have no : takes m fr d = none → ∀ {H'}, Owns S H' ((a, snkO K dx m vd fr) :: l) → Q .non H' := fun e H' w' => k S H' vd ds fr (by rw [e]; exact ⟨rfl, rfl⟩) (Ex.refl _) w' hd
  have fin : ∀ σ : L2.St, σ = [some (.ref a), some v, some (.int (fr.getD (m - 1)))] → tIfS (e_StreamSink_hear_3 K E) (tSeq (sFldC (ga K "StreamSink") (fun σ H Q => ∃ v7, σ[0]? = some (some v7) ∧ Q v7 H) (e_StreamSink_hear_2 K E) "digits")
        (sFldC (ga K "StreamSink") (fun σ H Q => ∃ v12, σ[0]? = some (some v12) ∧ Q v12 H) (fun σ H Q => ∃ v13, σ[1]? = some (some v13) ∧ Q v13 H) "frame")) tNext { nx := fun _ H' => Q .non H', rt := Q } σ H := by
    rintro σ rfl
    refine ⟨_, rfl, _, rfl, a, dx, _, .int m, rfl, w.get 0, rfl, _, _, rfl, rfl, d, v, some 0, some (m - 1), rfl, hv.up w.ex, fun H1 e1 => ⟨_, rfl, iteB (fun c => ?_) (fun c => iteF (no ?_ (w.call e1)))⟩⟩
    · obtain ⟨f, rfl, f0, f1⟩ := whole_int c
      cases hv.int'
      have w1 := w.call e1
      refine ⟨_, rfl, _, rfl, rfl, _, rfl, iteN (fun c2 => ?_) (fun c2 => no ?_ w1)⟩
      · have hne : f ≠ fr.getD (m - 1) := fun e => by rw [e] at c2; simp at c2
        have ht : takes m fr (.int f) = some f := by simp [takes, f0, f1, hne]
        refine ⟨_, rfl, a, dx, _, vd, rfl, w1.get 0, rfl, _, rfl, _, rfl, _, _, rfl, fun H2 e2 => ⟨(by show 1 ≤ sizeLine; decide), fun p hp => ?_⟩⟩
        have w2 := (w1.call e2).grow (o := .tup [.int (db (fr.getD (m - 1)) f)]) hp
        have e3 := (w1.call e2).growEx (o := .tup [.int (db (fr.getD (m - 1)) f)]) hp
        refine catA_ow w2 (ds := ds.map .int) (es := [db (fr.getD (m - 1)) f].map .int) (hd.up e3) (.tup (.of upd_same) (.cons (.int _) .nil)) (sz (by rw [List.length_map, List.length_map, List.length_singleton]; omega)) fun S3 H3 u e4 w3 r3 => ?_
        rw [← List.map_append] at r3
        refine ⟨_, rfl, a, dx, _, rfl, w3.get 0, (by show 3 < 1000; decide), ?_⟩
        have w4 := w3.write (o' := snkO K dx m u fr) 0
        refine ⟨_, rfl, _, rfl, a, dx, _, rfl, w4.get 0, (by show 3 < 1000; decide), ?_⟩
        exact k S3 _ u (ds ++ [db (fr.getD (m - 1)) f]) (some f) (by rw [ht]; exact ⟨rfl, rfl⟩) (e3.trans e4) (w4.write (o' := snkO K dx m u (some f)) 0) r3
      · have he : f = fr.getD (m - 1) := by simpa using c2
        simp [takes, he]
    · cases d <;> try rfl
      rename_i z
      unfold isWholeD at c
      simp only [Bool.and_eq_false_iff, decide_eq_false_iff_not] at c
      simp only [takes]
      rw [if_neg]
      intro q
      simp only [Bool.and_eq_true, decide_eq_true_eq] at q
      omega
  cases fr with
  | none => exact ⟨_, rfl, a, dx, _, .non, rfl, w.get 0, rfl, rfl, _, rfl, ifT (by rfl) ⟨_, rfl, a, dx, _, .int m, rfl, w.get 0, rfl, _, _, rfl, rfl, fin _ rfl⟩⟩
  | some f => exact ⟨_, rfl, a, dx, _, .int f, rfl, w.get 0, rfl, rfl, _, rfl, ifF (by rfl) ⟨_, rfl, a, dx, _, .int f, rfl, w.get 0, rfl, fin _ rfl⟩⟩
end
end SF


namespace SF
open PySem L2
section
variable {P : Program} {w : World} {K : Fg} {mg : Str → Option Value} {base : Heap}
abbrev s_StreamSource_send_on : Stmt := inClass (top 22) 2
theorem sc_StreamSource_send_on : FnScope ["self", "last"] ["self"] (defScope s_StreamSource_send_on) := ⟨rfl, rfl, rfl, by decide +kernel, rfl, by decide +kernel, by decide +kernel⟩
theorem ok_StreamSource_send_on (T : Txt K mg) {fd : FuncData} (F : FunD K "send_on" "StreamSource.send_on" (defArgs s_StreamSource_send_on) (defBody s_StreamSource_send_on) (defScope s_StreamSource_send_on) [] [] (He.ma K (ga K "StreamSource") "send_on") fd) (h_frame_behind : Has P w K mg base 1 "frame_behind" ["last", "digit"] [[]] (sp_frame_behind K)) : FnOk P w K mg base (L2.CX P w) 2 (He.ma K (ga K "StreamSource") "send_on") fd ["self"] (sp_StreamSource_send_on K) := by
  refine F.ok sc_StreamSource_send_on (fun vs H Q E h => len_StreamSource_send_on h) (fun cdv A outer s H vs Q E hr h => ?_)
  have hu := hu_of hr
  have nd := sc_StreamSource_send_on.nd
  refine ⟨_, pss_one (ps_if (pt_cmpR op_lt (pe_fldC (pv 0) T.cl_StreamSource T.na_StreamSource_told) (pe_callB call_len_seq (by rfl) T.b_len (by decide +kernel) (pa_cons (pe_fldC (pv 0) T.cl_StreamSource T.na_StreamSource_digits) pa_nil)) (nomark _))
      (pss_cons (ps_set (i := 1) nd rfl (Or.inl rfl) (pe_ifExp (pt_cmpR op_isN (pe_fldC (pv 0) T.cl_StreamSource T.na_StreamSource_frame) (pe_non) (nomark _)) (pe_op op_sub (pe_fldC (pv 0) T.cl_StreamSource T.na_StreamSource_m) (pe_int)) (pe_fldC (pv 0) T.cl_StreamSource T.na_StreamSource_frame)))
        (pss_one (ps_fldC (pv 0) (pe_has (dvs := []) h_frame_behind hr passL (pa_cons (pv 1) (pa_cons (pe_ix ix_tup (pe_fldC (pv 0) T.cl_StreamSource T.na_StreamSource_digits) (pe_fldC (pv 0) T.cl_StreamSource T.na_StreamSource_told) (fun _ _ => rfl)) pa_nil))) T.cl_StreamSource T.na_StreamSource_frame)))
      (pss_nil)), ?_⟩
  exact rd_StreamSource_send_on (K := K) h

abbrev s_StreamSource_put : Stmt := inClass (top 22) 1
theorem sc_StreamSource_put : FnScope ["self", "digits", "at", "waits"] ["self", "digits"] (defScope s_StreamSource_put) := ⟨rfl, rfl, rfl, by decide +kernel, rfl, by decide +kernel, by decide +kernel⟩
theorem ok_StreamSource_put (T : Txt K mg) {fd : FuncData} (F : FunD K "put" "StreamSource.put" (defArgs s_StreamSource_put) (defBody s_StreamSource_put) (defScope s_StreamSource_put) [] [] (He.ma K (ga K "StreamSource") "put") fd) (h_digits_fault : Has P w K mg base 2 "digits_fault" ["m", "digits"] [[]] (sp_digits_fault K)) (h_StreamSource_send_on : HasM P w K mg base 2 (ga K "StreamSource") "send_on" ["self"] [[]] (sp_StreamSource_send_on K)) (xh_BadDigits : ExHas P w K mg base "BadDigits" ["at"]) : FnOk P w K mg base (L2.CX P w) 3 (He.ma K (ga K "StreamSource") "put") fd ["self", "digits"] (sp_StreamSource_put K) := by
  refine F.ok sc_StreamSource_put (fun vs H Q E h => len_StreamSource_put h) (fun cdv A outer s H vs Q E hr h => ?_)
  have hu := hu_of hr
  have nd := sc_StreamSource_put.nd
  refine ⟨_, pss_cons (ps_set (i := 2) nd rfl (Or.inl rfl) (pe_has (dvs := []) h_digits_fault hr passL (pa_cons (pe_fldC (pv 0) T.cl_StreamSource T.na_StreamSource_m) (pa_cons (pv 1) pa_nil))))
    (pss_cons (ps_if (pt_cmpR op_notN (pv 2) (pe_non) (nomark _))
      (pss_one (ps_raise (W := fun cls d _ H => E cls d H) rfl (takes_of rfl rfl rfl rfl) (pmk_has xh_BadDigits hr (pa_cons (pv 2) pa_nil))))
      (pss_nil))
    (pss_cons (ps_set (i := 3) nd rfl (Or.inl rfl) (pe_cmpR op_eq (pe_fldC (pv 0) T.cl_StreamSource T.na_StreamSource_told) (pe_callB call_len_seq (by rfl) T.b_len (by decide +kernel) (pa_cons (pe_fldC (pv 0) T.cl_StreamSource T.na_StreamSource_digits) pa_nil)) (nomark _)))
    (pss_cons (ps_fldC (pv 0) (pe_op op_catA (pe_fldC (pv 0) T.cl_StreamSource T.na_StreamSource_digits) (pe_callTy call_tuple_of (by rfl) T.b_tuple (by decide +kernel) (pa_cons (pv 1) pa_nil))) T.cl_StreamSource T.na_StreamSource_digits)
    (pss_one (ps_if (pt_val (pv 3))
      (pss_one (ps_expr (pe_hasM0 (dvs := []) h_StreamSource_send_on hr passL (pv 0))))
      (pss_nil)))))), ?_⟩
  exact rd_StreamSource_put (K := K) h

abbrev s_StreamSource_hear : Stmt := inClass (top 22) 3
theorem sc_StreamSource_hear : FnScope ["self", "frame"] ["self", "frame"] (defScope s_StreamSource_hear) := ⟨rfl, rfl, rfl, by decide +kernel, rfl, by decide +kernel, by decide +kernel⟩
theorem ok_StreamSource_hear (T : Txt K mg) {fd : FuncData} (F : FunD K "hear" "StreamSource.hear" (defArgs s_StreamSource_hear) (defBody s_StreamSource_hear) (defScope s_StreamSource_hear) [] [] (He.ma K (ga K "StreamSource") "hear") fd) (h_is_whole : Has P w K mg base 1 "is_whole" ["thing", "low", "high"] [[], [.non], [.non, .non]] (sp_is_whole K)) (h_StreamSource_send_on : HasM P w K mg base 2 (ga K "StreamSource") "send_on" ["self"] [[]] (sp_StreamSource_send_on K)) : FnOk P w K mg base (L2.CX P w) 3 (He.ma K (ga K "StreamSource") "hear") fd ["self", "frame"] (sp_StreamSource_hear K) := by
  refine F.ok sc_StreamSource_hear (fun vs H Q E h => len_StreamSource_hear h) (fun cdv A outer s H vs Q E hr h => ?_)
  have hu := hu_of hr
  have nd := sc_StreamSource_hear.nd
  refine ⟨_, pss_one (ps_if (PW.pt (pw_and (pt_val (pe_has (dvs := [.non, .non]) h_is_whole hr passL (pa_cons (pv 1) pa_nil))) (pw_and (pt_cmpR op_lt (pe_fldC (pv 0) T.cl_StreamSource T.na_StreamSource_told) (pe_callB call_len_seq (by rfl) T.b_len (by decide +kernel) (pa_cons (pe_fldC (pv 0) T.cl_StreamSource T.na_StreamSource_digits) pa_nil)) (nomark _)) (pw_and1 (pt_cmpR op_eq (pv 1) (pe_fldC (pv 0) T.cl_StreamSource T.na_StreamSource_frame) (nomark _))))))
      (pss_cons (ps_fldC (pv 0) (pe_op op_add (pe_fldC (pv 0) T.cl_StreamSource T.na_StreamSource_told) (pe_int)) T.cl_StreamSource T.na_StreamSource_told)
        (pss_one (ps_expr (pe_hasM0 (dvs := []) h_StreamSource_send_on hr passL (pv 0)))))
      (pss_nil)), ?_⟩
  exact rd_StreamSource_hear (K := K) h

abbrev s_StreamSource___init__ : Stmt := inClass (top 22) 0
theorem sc_StreamSource___init__ : FnScope ["self", "m", "digits"] ["self", "m", "digits"] (defScope s_StreamSource___init__) := ⟨rfl, rfl, rfl, by decide +kernel, rfl, by decide +kernel, by decide +kernel⟩
theorem ok_StreamSource___init__ (T : Txt K mg) {fd : FuncData} (F : FunD K "__init__" "StreamSource.__init__" (defArgs s_StreamSource___init__) (defBody s_StreamSource___init__) (defScope s_StreamSource___init__) [.ref (dfT K)] [] (He.ma K (ga K "StreamSource") "__init__") fd) (h_check_letters : Has P w K mg base 3 "check_letters" ["m", "least"] [[]] (sp_check_letters K)) (h_StreamSource_put : HasM P w K mg base 3 (ga K "StreamSource") "put" ["self", "digits"] [[]] (sp_StreamSource_put K)) : FnOk P w K mg base (L2.CX P w) 4 (He.ma K (ga K "StreamSource") "__init__") fd ["self", "m", "digits"] (sp_StreamSource___init__ K) := by
  refine F.ok sc_StreamSource___init__ (fun vs H Q E h => len_StreamSource___init__ h) (fun cdv A outer s H vs Q E hr h => ?_)
  have hu := hu_of hr
  have nd := sc_StreamSource___init__.nd
  refine ⟨_, pss_cons (ps_expr (pe_has (dvs := []) h_check_letters hr (passes_call (W := fun cls d _ H => E cls d H) (takes_of rfl rfl rfl rfl) (fun _ _ _ _ z => z)) (pa_cons (pv 1) (pa_cons (pe_int) pa_nil))))
    (pss_cons (ps_fldC (pv 0) (pv 1) T.cl_StreamSource T.na_StreamSource_m)
    (pss_cons (ps_fldC (pv 0) (pe_tup pa_nil) T.cl_StreamSource T.na_StreamSource_digits)
    (pss_cons (ps_fldC (pv 0) (pe_int) T.cl_StreamSource T.na_StreamSource_told)
    (pss_cons (ps_fldC (pv 0) (pe_non) T.cl_StreamSource T.na_StreamSource_frame)
    (pss_one (ps_expr (pe_hasM (dvs := []) h_StreamSource_put hr (passes_call (W := fun cls d _ H => E cls d H) (takes_of rfl rfl rfl rfl) (fun _ _ _ _ z => z)) (pv 0) (pa_cons (pv 2) pa_nil)))))))), ?_⟩
  exact rd_StreamSource___init__ (K := K) h

abbrev s_StreamSink___init__ : Stmt := inClass (top 23) 0
theorem sc_StreamSink___init__ : FnScope ["self", "m"] ["self", "m"] (defScope s_StreamSink___init__) := ⟨rfl, rfl, rfl, by decide +kernel, rfl, by decide +kernel, by decide +kernel⟩
theorem ok_StreamSink___init__ (T : Txt K mg) {fd : FuncData} (F : FunD K "__init__" "StreamSink.__init__" (defArgs s_StreamSink___init__) (defBody s_StreamSink___init__) (defScope s_StreamSink___init__) [] [] (He.ma K (ga K "StreamSink") "__init__") fd) (h_check_letters : Has P w K mg base 3 "check_letters" ["m", "least"] [[]] (sp_check_letters K)) : FnOk P w K mg base (L2.CX P w) 4 (He.ma K (ga K "StreamSink") "__init__") fd ["self", "m"] (sp_StreamSink___init__ K) := by
  refine F.ok sc_StreamSink___init__ (fun vs H Q E h => len_StreamSink___init__ h) (fun cdv A outer s H vs Q E hr h => ?_)
  have hu := hu_of hr
  have nd := sc_StreamSink___init__.nd
  refine ⟨_, pss_cons (ps_expr (pe_has (dvs := []) h_check_letters hr (passes_call (W := fun cls d _ H => E cls d H) (takes_of rfl rfl rfl rfl) (fun _ _ _ _ z => z)) (pa_cons (pv 1) (pa_cons (pe_int) pa_nil))))
    (pss_cons (ps_fldC (pv 0) (pv 1) T.cl_StreamSink T.na_StreamSink_m)
    (pss_cons (ps_fldC (pv 0) (pe_tup pa_nil) T.cl_StreamSink T.na_StreamSink_digits)
    (pss_one (ps_fldC (pv 0) (pe_non) T.cl_StreamSink T.na_StreamSink_frame)))), ?_⟩
  exact rd_StreamSink___init__ (K := K) h

abbrev s_StreamSink_hear : Stmt := inClass (top 23) 1
theorem sc_StreamSink_hear : FnScope ["self", "frame", "last"] ["self", "frame"] (defScope s_StreamSink_hear) := ⟨rfl, rfl, rfl, by decide +kernel, rfl, by decide +kernel, by decide +kernel⟩
theorem ok_StreamSink_hear (T : Txt K mg) {fd : FuncData} (F : FunD K "hear" "StreamSink.hear" (defArgs s_StreamSink_hear) (defBody s_StreamSink_hear) (defScope s_StreamSink_hear) [] [] (He.ma K (ga K "StreamSink") "hear") fd) (h_is_whole : Has P w K mg base 1 "is_whole" ["thing", "low", "high"] [[], [.non], [.non, .non]] (sp_is_whole K)) (h_digit_behind : Has P w K mg base 1 "digit_behind" ["last", "frame"] [[]] (sp_digit_behind K)) : FnOk P w K mg base (L2.CX P w) 2 (He.ma K (ga K "StreamSink") "hear") fd ["self", "frame"] (sp_StreamSink_hear K) := by
  refine F.ok sc_StreamSink_hear (fun vs H Q E h => len_StreamSink_hear h) (fun cdv A outer s H vs Q E hr h => ?_)
  have hu := hu_of hr
  have nd := sc_StreamSink_hear.nd
  refine ⟨_, pss_cons (ps_set (i := 2) nd rfl (Or.inl rfl) (pe_ifExp (pt_cmpR op_isN (pe_fldC (pv 0) T.cl_StreamSink T.na_StreamSink_frame) (pe_non) (nomark _)) (pe_op op_sub (pe_fldC (pv 0) T.cl_StreamSink T.na_StreamSink_m) (pe_int)) (pe_fldC (pv 0) T.cl_StreamSink T.na_StreamSink_frame)))
    (pss_one (ps_if (PW.pt (pw_and (pt_val (pe_has (dvs := []) h_is_whole hr passL (pa_cons (pv 1) (pa_cons (pe_int) (pa_cons (pe_op op_sub (pe_fldC (pv 0) T.cl_StreamSink T.na_StreamSink_m) (pe_int)) pa_nil))))) (pw_and1 (pt_cmpR op_ne (pv 1) (pv 2) (nomark _)))))
      (pss_cons (ps_fldC (pv 0) (pe_op op_catA (pe_fldC (pv 0) T.cl_StreamSink T.na_StreamSink_digits) (pe_tup (pa_cons (pe_has (dvs := []) h_digit_behind hr passL (pa_cons (pv 2) (pa_cons (pv 1) pa_nil))) pa_nil))) T.cl_StreamSink T.na_StreamSink_digits)
        (pss_one (ps_fldC (pv 0) (pv 1) T.cl_StreamSink T.na_StreamSink_frame)))
      (pss_nil))), ?_⟩
  exact rd_StreamSink_hear (K := K) h

end
end SF

/-! P75b: what the law's own small defs promise (k75). -/
namespace SF
open PySem L2
mutual
/-- data that _law_exact is asked about: tuples, ints, texts, None, this deep at most -/
def exOk : Nat → PyData → Bool
  | _, .none => true
  | _, .int _ => true
  | _, .str z => PyData.strOk z
  | n + 1, .tuple ds => decide (ds.length ≤ 100000) && exOks n ds
  | _, _ => false
def exOks : Nat → List PyData → Bool
  | _, [] => true
  | n, d :: ds => exOk n d && exOks n ds
end
def sp_law_exact (K : Fg) : Nat → Sp
  | 0 => fun _ _ _ _ => False
  | n + 1 => fun vs H Q _ => ∃ d v u, vs = [v, u] ∧ Rk K H d v ∧ Rk K H d u ∧ exOk n d = true ∧ ∀ H', Ex H H' → Q (.bl true) H'
theorem len_law_exact {K n vs H Q E} (h : sp_law_exact K n vs H Q E) : vs.length = 2 := by
  cases n with
  | zero => exact h.elim
  | succ n => obtain ⟨_, _, _, rfl, _⟩ := h; rfl
/-- a list or a tuple of the same items -/
def sp_law_seq (K : Fg) : Sp := fun vs H Q _ => ∃ S l a c o cs d v, vs = [.ref a, v] ∧ Owns S H ((a, o) :: l) ∧ IsHand c o ∧ S c = some (lstI cs) ∧ Rk K S d v ∧ isSeqD d = true ∧
  ∀ S' H' o' d' u, Ex S S' → Owns S' H' ((a, o') :: l) → IsHand c o' → Rk K S' d' u → isSeqD d' = true → itemsD d' = itemsD d → Q u H'
theorem len_law_seq {K vs H Q E} (h : sp_law_seq K vs H Q E) : vs.length = 2 := by obtain ⟨_, _, _, _, _, _, _, _, rfl, _⟩ := h; rfl
/-- something that is no whole number from low to high -/
def sp_law_odd (K : Fg) : Sp := fun vs H Q _ => ∃ S l a c o cs, ∃ low high : Int, vs = [.ref a, .int low, .int high] ∧ Owns S H ((a, o) :: l) ∧ IsHand c o ∧ S c = some (lstI cs) ∧ (0 ≤ low ∧ low ≤ 1000 ∧ low ≤ high ∧ high ≤ 1000) ∧
  ∀ S' H' o' d u, Ex S S' → Owns S' H' ((a, o') :: l) → IsHand c o' → Rk K S' d u → isWholeD (some low) (some high) d = false → (itemsD d).length ≤ 10 → Q u H'
theorem len_law_odd {K vs H Q E} (h : sp_law_odd K vs H Q E) : vs.length = 3 := by obtain ⟨_, _, _, _, _, _, _, _, rfl, _⟩ := h; rfl
/-- a line: what was read last, what waits -/
def optD : Option Int → PyData | none => .none | some i => .int i
def lineD (last : Option Int) (tail : List Int) : PyData := .tuple [optD last, tupI tail]
def lineQ (last : Option Int) (tail : List Int) : List Int := last.toList ++ tail
def sp_law_put (K : Fg) : Sp := fun vs H Q _ => ∃ S L last tail v, ∃ f : Int, vs = [v, .int f] ∧ Owns S H L ∧ Rk K S (lineD last tail) v ∧ tail.length ≤ 10000 ∧
  ∀ S' H' u, Ex S S' → Owns S' H' L → Rk K S' (if (lineQ last tail).getLast? = some f then lineD last tail else lineD last (tail ++ [f])) u → Q u H'
theorem len_law_put {K vs H Q E} (h : sp_law_put K vs H Q E) : vs.length = 2 := by obtain ⟨_, _, _, _, _, _, rfl, _⟩ := h; rfl
def sp_law_whole (K : Fg) : Sp := fun vs H Q _ => ∃ i lo hi : Int, vs = [.int i, .int lo, .int hi] ∧ ∀ H', Ex H H' → Q (.bl (decide (lo ≤ i) && decide (i ≤ hi))) H'
theorem len_law_whole {K vs H Q E} (h : sp_law_whole K vs H Q E) : vs.length = 3 := by obtain ⟨_, _, _, rfl, _⟩ := h; rfl
def sp_law_word (K : Fg) : Sp := fun vs H Q _ => ∃ S L, ∃ m : Int, ∃ ds a, vs = [.int m, .ref a] ∧ Owns S H L ∧ H a = some (lstI ds) ∧ (2 ≤ m ∧ m ≤ 6) ∧ (∀ d ∈ ds, 0 ≤ d ∧ d ≤ m - 2) ∧ ds.length ≤ 10000 ∧
  ∀ S' H' u, Ex S S' → Owns S' H' L → Rk K S' (tupI (spell (m - 1) ds)) u → Q u H'
theorem len_law_word {K vs H Q E} (h : sp_law_word K vs H Q E) : vs.length = 2 := by obtain ⟨_, _, _, _, _, rfl, _⟩ := h; rfl
def sp_law_read (K : Fg) : Sp := fun vs H Q _ => ∃ S l a c o cs last tail v, vs = [.ref a, v] ∧ Owns S H ((a, o) :: l) ∧ IsHand c o ∧ S c = some (lstI cs) ∧ Rk K S (lineD last tail) v ∧ tail.length ≤ 10000 ∧
  (lineQ last tail = [] → ∀ H', Ex H H' → Q .non H') ∧
  (∀ S' H' o' u, ∀ k : Nat, ∀ x, (lineQ last tail)[k]? = some x → Ex S S' → Owns S' H' ((a, o') :: l) → IsHand c o' → Rk K S' (lineD (some x) ((lineQ last tail).drop (k + 1))) u → Q u H')
theorem len_law_read {K vs H Q E} (h : sp_law_read K vs H Q E) : vs.length = 2 := by obtain ⟨_, _, _, _, _, _, _, _, _, rfl, _⟩ := h; rfl
/-- the answers of the asked defs, as data -/
def toldD (d : PyData) : PyData := .tuple [.str "told", d]
def errD (z : Str) (i : Int) : PyData := .tuple [.str z, .int i]
def askD (which : Int) (dm d : PyData) : PyData :=
  if which = 0 then (if okM 2 dm = true then (match dFault (asI dm) d with | some i => errD "digits" i | none => toldD (tupI (spell (asI dm - 1) ((itemsD d).map asI)))) else errD "count" 6)
  else if which = 1 then (if okM 2 dm = true then (match wFault (asI dm) d with | some i => errD "word" i | none => toldD (tupI (unspell (asI dm - 1) ((itemsD d).map asI)))) else errD "count" 6)
  else if which = 2 then (if okM 2 dm = true then (match wFault (asI dm) d with | some i => errD "word" i | none => toldD (.tuple (itemsD d))) else errD "count" 6)
  else if which = 3 then (if okM 2 dm = true then (if isWholeD (some 0) (some 64) d = true then toldD (.int ((asI dm - 1) ^ (asI d).toNat)) else errD "count" 64) else errD "count" 6)
  else if which = 5 then (if okM 3 dm = true then (match dFault (asI dm) d with | some i => errD "digits" i | none => toldD (tupI ((itemsD d).map asI))) else errD "count" 6)
  else (if okM 3 dm = true then toldD (tupI []) else errD "count" 6)
def excOk75 (K : Fg) : Prop := ∀ x ∈ (["BadDigits", "BadWord", "BadCount"] : List Str), ∀ y ∈ (["BadDigits", "BadWord", "BadCount"] : List Str), PySem.W.exmOne K (.ref (ga K x)) (.ref (ga K y)) = some (decide (x = y))
def sp_law_asked (K : Fg) : Sp := fun vs H Q _ => ∃ S L, ∃ which : Int, ∃ vm v vs', vs = [.int which, vm, v, vs'] ∧ Owns S H L ∧ excOk75 K ∧
  ((which ≠ 4 ∧ ∃ dm d, Rk K S dm vm ∧ Rk K S d v ∧ (itemsD d).length ≤ 10000 ∧ ∀ H' u, Ex H H' → Rk K H' (askD which dm d) u → Q u H') ∨
   (which = 4 ∧ ∃ l a dx m ds vd, ∃ t : Nat, ∃ fr d, vs' = .ref a ∧ L = (a, srcO K dx m vd t fr) :: l ∧ Rk K S (tupI ds) vd ∧ Rk K S d v ∧ (itemsD d).length ≤ 10000 ∧ ds.length ≤ 10000 ∧ t ≤ ds.length ∧
    (match dFault m d with
      | some i => ∀ H' u, Ex H H' → Rk K H' (errD "digits" i) u → Q u H'
      | none => ∀ S' H' vd' u, Ex S S' → Owns S' H' ((a, srcO K dx m vd' t (if t = ds.length then sendOn m (ds ++ (itemsD d).map asI) t fr else fr)) :: l) → Rk K S' (tupI (ds ++ (itemsD d).map asI)) vd' → Rk K S' (toldD .none) u → Q u H')))
theorem len_law_asked {K vs H Q E} (h : sp_law_asked K vs H Q E) : vs.length = 4 := by obtain ⟨_, _, _, _, _, _, rfl, _⟩ := h; rfl
end SF


namespace SF
open PySem L2
abbrev e_law_exact_1 (K : Fg) (n : Nat) (E : XK) : TT := (fun σ H Q => ∃ v1, σ[0]? = some (some v1) ∧ rIsi K [v1, (V.ty "tuple")] H (fun x1 h1 => ∃ c1, x1 = .bl c1 ∧ if (!c1) = true then Q true h1 else ∃ v2, σ[0]? = some (some v2) ∧ rLenQ K [v2] h1 (fun x2 h2 => ∃ v3, σ[1]? = some (some v3) ∧ rLenQ K [v3] h2 (fun x3 h3 => rNe x2 x3 h3 (fun x4 h4 => ∃ c2, x4 = .bl c2 ∧ Q c2 h4)))))
abbrev e_law_exact_2 (K : Fg) (n : Nat) (E : XK) : TT := (fun σ H Q => ∃ v5, σ[0]? = some (some v5) ∧ ∃ v6, σ[2]? = some (some v6) ∧ rIxT K v5 v6 H (fun x6 h6 => ∃ v7, σ[1]? = some (some v7) ∧ ∃ v8, σ[2]? = some (some v8) ∧ rIxT K v7 v8 h6 (fun x7 h7 => sp_law_exact K n [x6, x7] h7 (fun x8 h8 => ∃ c3, x8 = .bl c3 ∧ Q (!c3) h8) E0)))
abbrev e_law_exact_3 (K : Fg) (n : Nat) (E : XK) : TE := (fun σ H Q => ∃ v9, σ[2]? = some (some v9) ∧ Q v9 H)
abbrev e_law_exact_4 (K : Fg) (n : Nat) (E : XK) : TE := (fun σ H Q => tLc (fun σ H R => ∃ v4, σ[1]? = some (some v4) ∧ rLenQ K [v4] H (fun x5 h5 => ∃ j : Int, [x5] = [.int j] ∧ -(2 ^ 62) ≤ j ∧ j < 2 ^ 62 ∧ R (Itr 0 j.toNat) h5)) (gName 2) (e_law_exact_2 K n E) (e_law_exact_3 K n E) [2] σ H (fun x9 h9 => 0 ≤ sizeLine ∧ ∀ p1, h9 p1 = none → rEqD K x9 (V.ref p1) (upd h9 p1 (.lst [])) Q))
abbrev e_law_exact_5 (K : Fg) (n : Nat) (E : XK) : TT := (fun σ H Q => ∃ v10, σ[1]? = some (some v10) ∧ rIsi K [v10, (V.ty "tuple")] H (fun x10 h10 => ∃ c4, x10 = .bl c4 ∧ Q c4 h10))
abbrev e_law_exact_6 (K : Fg) (n : Nat) (E : XK) : TE := (fun σ H Q => ∃ v11, σ[0]? = some (some v11) ∧ oIsN v11 V.non H Q)
abbrev e_law_exact_7 (K : Fg) (n : Nat) (E : XK) : TT := (fun σ H Q => ∃ v12, σ[1]? = some (some v12) ∧ oIsN v12 V.non H (fun x11 h11 => ∃ c5, x11 = .bl c5 ∧ Q c5 h11))
abbrev e_law_exact_8 (K : Fg) (n : Nat) (E : XK) : TE := (fun σ H Q => ∃ v13, σ[1]? = some (some v13) ∧ ∃ c6, TruV K v13 H c6 ∧ if c6 = true then ∃ v14, σ[0]? = some (some v14) ∧ rIsB v14 (V.bl true) H Q else ∃ v15, σ[0]? = some (some v15) ∧ rIsB v15 (V.bl false) H Q)
abbrev e_law_exact_9 (K : Fg) (n : Nat) (E : XK) : TT := (fun σ H Q => ∃ v16, σ[1]? = some (some v16) ∧ rIsi K [v16, (V.ty "bool")] H (fun x12 h12 => ∃ c7, x12 = .bl c7 ∧ Q c7 h12))
abbrev e_law_exact_10 (K : Fg) (n : Nat) (E : XK) : TE := (fun σ H Q => ∃ v17, σ[0]? = some (some v17) ∧ rIsi K [v17, (V.ty "str")] H (fun x13 h13 => ∃ c8, x13 = .bl c8 ∧ if c8 = true then ∃ v18, σ[0]? = some (some v18) ∧ ∃ v19, σ[1]? = some (some v19) ∧ rEq v18 v19 h13 Q else Q (V.bl false) h13))
abbrev e_law_exact_11 (K : Fg) (n : Nat) (E : XK) : TT := (fun σ H Q => ∃ v20, σ[1]? = some (some v20) ∧ rIsi K [v20, (V.ty "str")] H (fun x14 h14 => ∃ c9, x14 = .bl c9 ∧ Q c9 h14))
abbrev e_law_exact_12 (K : Fg) (n : Nat) (E : XK) : TE := (fun σ H Q => ∃ v21, σ[0]? = some (some v21) ∧ rIsi K [v21, (V.ty "int")] H (fun x15 h15 => ∃ c10, x15 = .bl c10 ∧ if c10 = true then ∃ v22, σ[0]? = some (some v22) ∧ rIsi K [v22, (V.ty "bool")] h15 (fun x16 h16 => ∃ c12, x16 = .bl c12 ∧ ∃ c11, (V.bl (!c12)) = .bl c11 ∧ if c11 = true then ∃ v23, σ[0]? = some (some v23) ∧ ∃ v24, σ[1]? = some (some v24) ∧ rEq v23 v24 h16 Q else Q (V.bl false) h16) else Q (V.bl false) h15))
def t_law_exact_1 (K : Fg) (n : Nat) (E : XK) : TS :=
    tSeq (tIfS (e_law_exact_9 K n E)
      (tRet (e_law_exact_8 K n E))
      (tNext))
    (tSeq (tIfS (e_law_exact_11 K n E)
      (tRet (e_law_exact_10 K n E))
      (tNext))
    (tRet (e_law_exact_12 K n E)))
def t_law_exact (K : Fg) (n : Nat) (E : XK) : TS :=
    tSeq (tIfS (e_law_exact_5 K n E)
      (tSeq (tIfS (e_law_exact_1 K n E)
          (tRet (fun σ H Q => Q (V.bl false) H))
          (tNext))
        (tRet (e_law_exact_4 K n E)))
      (tNext))
    (tSeq (tIfS (e_law_exact_7 K n E)
      (tRet (e_law_exact_6 K n E))
      (tNext))
    (t_law_exact_1 K n E))

end SF


namespace SF
open PySem L2
def t_law_seq (K : Fg) (E : XK) : TS :=
    tRet (fun σ H Q => ∃ v1, σ[0]? = some (some v1) ∧ sp_law_draw K [v1, (V.int 2)] H (fun x1 h1 => rEq x1 (V.int 0) h1 (fun x2 h2 => ∃ c1, x2 = .bl c1 ∧ if c1 = true then ∃ v2, σ[1]? = some (some v2) ∧ rListQ K [v2] h2 Q else ∃ v3, σ[1]? = some (some v3) ∧ rTupQ K [v3] h2 Q)) E0)

abbrev e_law_odd_1 (K : Fg) (E : XK) : TE := (fun σ H Q => ∃ v1, σ[0]? = some (some v1) ∧ sp_law_draw K [v1, (V.int 9)] H Q E0)
abbrev e_law_odd_2 (K : Fg) (E : XK) : TE := (fun σ H Q => ∃ v2, σ[1]? = some (some v2) ∧ oSub v2 (V.int 1) H (fun x1 h1 => ∃ v3, σ[2]? = some (some v3) ∧ oAdd v3 (V.int 1) h1 (fun x2 h2 => 2 ≤ sizeLine ∧ ∀ p1, h2 p1 = none → ∃ v4, σ[3]? = some (some v4) ∧ rIxL K (V.ref p1) v4 (upd h2 p1 (.lst [x1, x2])) Q)))
abbrev e_law_odd_3 (K : Fg) (E : XK) : TT := (fun σ H Q => ∃ v5, σ[3]? = some (some v5) ∧ oLt v5 (V.int 2) H (fun x3 h3 => ∃ c1, x3 = .bl c1 ∧ Q c1 h3))
abbrev e_law_odd_4 (K : Fg) (E : XK) : TE := (fun σ H Q => oPow (V.int 10) (V.int 30) H (fun x4 h4 => oSub (V.int 0) x4 h4 (fun x5 h5 => oSub x5 (V.int 1) h5 (fun x6 h6 => oPow (V.int 10) (V.int 30) h6 (fun x7 h7 => ∃ v6, σ[2]? = some (some v6) ∧ oAdd x7 v6 h7 (fun x8 h8 => 2 ≤ sizeLine ∧ ∀ p2, h8 p2 = none → ∃ v7, σ[3]? = some (some v7) ∧ oSub v7 (V.int 2) (upd h8 p2 (.lst [x6, x8])) (fun x9 h9 => rIxL K (V.ref p2) x9 h9 Q)))))))
abbrev e_law_odd_5 (K : Fg) (E : XK) : TT := (fun σ H Q => ∃ v8, σ[3]? = some (some v8) ∧ oLt v8 (V.int 4) H (fun x10 h10 => ∃ c2, x10 = .bl c2 ∧ Q c2 h10))
abbrev e_law_odd_6 (K : Fg) (E : XK) : TE := (fun σ H Q => ∃ v9, σ[1]? = some (some v9) ∧ rStrI [v9] H (fun x11 h11 => ∃ v10, σ[1]? = some (some v10) ∧ 1 ≤ sizeLine ∧ ∀ p4, h11 p4 = none → 5 ≤ sizeLine ∧ ∀ p3, (upd h11 p4 (.tup [v10])) p3 = none → ∃ v11, σ[3]? = some (some v11) ∧ oSub v11 (V.int 4) (upd (upd h11 p4 (.tup [v10])) p3 (.lst [V.non, (V.bl true), (V.bl false), x11, (V.ref p4)])) (fun x12 h12 => rIxL K (V.ref p3) x12 h12 Q)))
def t_law_odd (K : Fg) (E : XK) : TS :=
    tSeq (tAsg (e_law_odd_1 K E) (gName 3))
    (tSeq (tIfS (e_law_odd_3 K E)
      (tRet (e_law_odd_2 K E))
      (tNext))
    (tSeq (tIfS (e_law_odd_5 K E)
      (tRet (e_law_odd_4 K E))
      (tNext))
    (tRet (e_law_odd_6 K E))))

def t_law_put (K : Fg) (E : XK) : TS :=
    tSeq (tAsg (fun σ H Q => ∃ v1, σ[0]? = some (some v1) ∧ rIxT K v1 (V.int 1) H (fun x1 h1 => 0 ≤ sizeLine ∧ ∀ p1, h1 p1 = none → rNeD K x1 (V.ref p1) (upd h1 p1 (.tup [])) (fun x2 h2 => ∃ c1, x2 = .bl c1 ∧ if c1 = true then ∃ v2, σ[0]? = some (some v2) ∧ rIxT K v2 (V.int 1) h2 (fun x3 h3 => rNeg (V.int 1) h3 (fun x4 h4 => rIxT K x3 x4 h4 Q)) else ∃ v3, σ[0]? = some (some v3) ∧ rIxT K v3 (V.int 0) h2 Q))) (gName 2))
    (tRet (fun σ H Q => ∃ v4, σ[2]? = some (some v4) ∧ ∃ v5, σ[1]? = some (some v5) ∧ rEq v4 v5 H (fun x5 h5 => ∃ c2, x5 = .bl c2 ∧ if c2 = true then ∃ v6, σ[0]? = some (some v6) ∧ Q v6 h5 else ∃ v7, σ[0]? = some (some v7) ∧ rIxT K v7 (V.int 0) h5 (fun x6 h6 => ∃ v8, σ[0]? = some (some v8) ∧ rIxT K v8 (V.int 1) h6 (fun x7 h7 => ∃ v9, σ[1]? = some (some v9) ∧ 1 ≤ sizeLine ∧ ∀ p3, h7 p3 = none → rCatA K x7 (V.ref p3) (upd h7 p3 (.tup [v9])) (fun x8 h8 => 2 ≤ sizeLine ∧ ∀ p2, h8 p2 = none → Q (V.ref p2) (upd h8 p2 (.tup [x6, x8]))))))))

def t_law_whole (K : Fg) (E : XK) : TS :=
    tRet (fun σ H Q => ∃ v1, σ[0]? = some (some v1) ∧ rIsi K [v1, (V.ty "int")] H (fun x1 h1 => ∃ c1, x1 = .bl c1 ∧ if c1 = true then ∃ v2, σ[0]? = some (some v2) ∧ rIsi K [v2, (V.ty "bool")] h1 (fun x2 h2 => ∃ c3, x2 = .bl c3 ∧ ∃ c2, (V.bl (!c3)) = .bl c2 ∧ if c2 = true then tChain oLe oLe (fun σ H Q => ∃ v3, σ[1]? = some (some v3) ∧ Q v3 H) (fun σ H Q => ∃ v4, σ[0]? = some (some v4) ∧ Q v4 H) (fun σ H Q => ∃ v5, σ[2]? = some (some v5) ∧ Q v5 H) σ h2 Q else Q (V.bl false) h2) else Q (V.bl false) h1))

abbrev e_law_word_1 (K : Fg) (E : XK) : TT := (fun σ H Q => ∃ v4, σ[5]? = some (some v4) ∧ ∃ v5, σ[2]? = some (some v5) ∧ rNe v4 v5 H (fun x1 h1 => ∃ c1, x1 = .bl c1 ∧ Q c1 h1))
abbrev e_law_word_2 (K : Fg) (E : XK) : TE := (fun σ H Q => ∃ v6, σ[5]? = some (some v6) ∧ Q v6 H)
def t_law_word_1 (K : Fg) (E : XK) : TS :=
    tSeq (tAsg (fun σ H Q => tLc (fun σ H R => ∃ v3, σ[0]? = some (some v3) ∧ ∃ j : Int, [v3] = [.int j] ∧ -(2 ^ 62) ≤ j ∧ j < 2 ^ 62 ∧ R (Itr 0 j.toNat) H) (gName 5) (e_law_word_1 K E) (e_law_word_2 K E) [5] σ H (fun x2 h2 => ∃ v7, σ[4]? = some (some v7) ∧ rIxL K x2 v7 h2 Q)) (gName 2))
        (tDrop (fun σ H Q => ∃ v8, σ[3]? = some (some v8) ∧ tyV K "list" v8 H ∧ ∃ v9, σ[2]? = some (some v9) ∧ rAppend v8 [v9] H Q))
def t_law_word (K : Fg) (E : XK) : TS :=
    tSeq (tAsg (fun σ H Q => ∃ v1, σ[0]? = some (some v1) ∧ oSub v1 (V.int 1) H Q) (gName 2))
    (tSeq (tAsg (fun σ H Q => 0 ≤ sizeLine ∧ ∀ p1, H p1 = none → Q (V.ref p1) (upd H p1 (.lst []))) (gName 3))
    (tSeq (tFor (fun σ H R => ∃ v2, σ[1]? = some (some v2) ∧ ∃ a, v2 = .ref a ∧ (∃ xs, SqL K H a xs) ∧ R (Itl K a) H) (gName 4)
      (t_law_word_1 K E))
    (tRet (fun σ H Q => ∃ v10, σ[3]? = some (some v10) ∧ rTupQ K [v10] H Q))))

abbrev e_law_read_1 (K : Fg) (E : XK) : TE := (fun σ H Q => ∃ v1, σ[1]? = some (some v1) ∧ rIxT K v1 (V.int 1) H (fun x1 h1 => rLenQ K [x1] h1 (fun x2 h2 => (fun R1 => ∃ v2, σ[1]? = some (some v2) ∧ rIxT K v2 (V.int 0) h2 (fun x3 h3 => oIsN x3 V.non h3 (fun x4 h4 => ∃ c1, x4 = .bl c1 ∧ if c1 = true then R1 (V.int 0) h4 else R1 (V.int 1) h4))) (fun x5 h5 => oAdd x2 x5 h5 Q))))
abbrev e_law_read_2 (K : Fg) (E : XK) : TT := (fun σ H Q => ∃ v3, σ[2]? = some (some v3) ∧ rEq v3 (V.int 0) H (fun x6 h6 => ∃ c2, x6 = .bl c2 ∧ Q c2 h6))
abbrev e_law_read_3 (K : Fg) (E : XK) : TE := (fun σ H Q => ∃ v4, σ[0]? = some (some v4) ∧ ∃ v5, σ[2]? = some (some v5) ∧ sp_law_draw K [v4, v5] H (fun x7 h7 => (fun R2 => ∃ v6, σ[1]? = some (some v6) ∧ rIxT K v6 (V.int 0) h7 (fun x8 h8 => oIsN x8 V.non h8 (fun x9 h9 => ∃ c3, x9 = .bl c3 ∧ if c3 = true then R2 (V.int 1) h9 else R2 (V.int 0) h9))) (fun x10 h10 => oAdd x7 x10 h10 Q)) E0)
abbrev e_law_read_4 (K : Fg) (E : XK) : TE := (fun σ H Q => ∃ v7, σ[3]? = some (some v7) ∧ rEq v7 (V.int 0) H (fun x11 h11 => ∃ c4, x11 = .bl c4 ∧ if c4 = true then ∃ v8, σ[1]? = some (some v8) ∧ Q v8 h11 else ∃ v9, σ[1]? = some (some v9) ∧ rIxT K v9 (V.int 1) h11 (fun x12 h12 => ∃ v10, σ[3]? = some (some v10) ∧ oSub v10 (V.int 1) h12 (fun x13 h13 => rIxT K x12 x13 h13 (fun x14 h14 => ∃ v11, σ[1]? = some (some v11) ∧ rIxT K v11 (V.int 1) h14 (fun x15 h15 => ∃ v12, σ[3]? = some (some v12) ∧ ∃ i1, v12 = .int i1 ∧ rSlA K x15 (some i1) none h15 (fun x16 h16 => 2 ≤ sizeLine ∧ ∀ p1, h16 p1 = none → Q (V.ref p1) (upd h16 p1 (.tup [x14, x16])))))))))
def t_law_read (K : Fg) (E : XK) : TS :=
    tSeq (tAsg (e_law_read_1 K E) (gName 2))
    (tSeq (tIfS (e_law_read_2 K E)
      (tRet (fun σ H Q => Q V.non H))
      (tNext))
    (tSeq (tAsg (e_law_read_3 K E) (gName 3))
    (tRet (e_law_read_4 K E))))

def t_law_asked_1 (K : Fg) (W : WX) : TS :=
    tRet (fun σ H Q => (fun R1 => ∃ v16, σ[0]? = some (some v16) ∧ rEq v16 (V.int 5) H (fun x11 h11 => ∃ c6, x11 = .bl c6 ∧ if c6 = true then ∃ v18, σ[1]? = some (some v18) ∧ ∃ v19, σ[2]? = some (some v19) ∧ [v18].length = 1 ∧ [v19].length = 1 ∧ ∀ x12 dx3, h11 x12 = none → h11 dx3 = none → dx3 ≠ x12 → sp_StreamSource___init__ K [(.ref x12), v18, v19] (upd (upd h11 dx3 (.own x12)) x12 (.ins (ga K "StreamSource") dx3 [])) (fun v20 h12 => v20 = .non ∧ ∃ a2 dx2 fs2 v17, (V.ref x12) = .ref a2 ∧ h12 a2 = some (.ins (ga K "StreamSource") dx2 fs2) ∧ fs2.lookup ("digits" : Str) = some v17 ∧ R1 v17 h12) (EL 5 W) else ∃ v22, σ[1]? = some (some v22) ∧ ∀ x13 dx5, h11 x13 = none → h11 dx5 = none → dx5 ≠ x13 → sp_StreamSink___init__ K [(.ref x13), v22] (upd (upd h11 dx5 (.own x13)) x13 (.ins (ga K "StreamSink") dx5 [])) (fun v23 h13 => v23 = .non ∧ ∃ a3 dx4 fs3 v21, (V.ref x13) = .ref a3 ∧ h13 a3 = some (.ins (ga K "StreamSink") dx4 fs3) ∧ fs3.lookup ("digits" : Str) = some v21 ∧ R1 v21 h13) (EL 5 W))) (fun x14 h14 => 2 ≤ sizeLine ∧ ∀ p6, h14 p6 = none → Q (V.ref p6) (upd h14 p6 (.tup [(V.str "told"), x14]))))
def t_law_asked_2 (K : Fg) (W : WX) : TS :=
    tSeq (tIfS (fun σ H Q => ∃ v15, σ[0]? = some (some v15) ∧ rEq v15 (V.int 4) H (fun x10 h10 => ∃ c5, x10 = .bl c5 ∧ Q c5 h10))
          (tRet (fun σ H Q => ∃ v13, σ[3]? = some (some v13) ∧ ∃ a1 dx1 fs1, v13 = .ref a1 ∧ H a1 = some (.ins (ga K "StreamSource") dx1 fs1) ∧ fs1.lookup ("put" : Str) = none ∧ ∃ v14, σ[2]? = some (some v14) ∧ sp_StreamSource_put K [v13, v14] H (fun x9 h9 => 2 ≤ sizeLine ∧ ∀ p5, h9 p5 = none → Q (V.ref p5) (upd h9 p5 (.tup [(V.str "told"), x9]))) (EL 5 W)))
          (tNext))
        (t_law_asked_1 K W)
def t_law_asked_3 (K : Fg) (W : WX) : TS :=
    tSeq (tIfS (fun σ H Q => ∃ v12, σ[0]? = some (some v12) ∧ rEq v12 (V.int 3) H (fun x8 h8 => ∃ c4, x8 = .bl c4 ∧ Q c4 h8))
          (tRet (fun σ H Q => ∃ v10, σ[1]? = some (some v10) ∧ ∃ v11, σ[2]? = some (some v11) ∧ sp_count_words K [v10, v11] H (fun x7 h7 => 2 ≤ sizeLine ∧ ∀ p4, h7 p4 = none → Q (V.ref p4) (upd h7 p4 (.tup [(V.str "told"), x7]))) (EL 5 W)))
          (tNext))
        (t_law_asked_2 K W)
def t_law_asked_4 (K : Fg) (W : WX) : TS :=
    tSeq (tIfS (fun σ H Q => ∃ v9, σ[0]? = some (some v9) ∧ rEq v9 (V.int 2) H (fun x6 h6 => ∃ c3, x6 = .bl c3 ∧ Q c3 h6))
          (tRet (fun σ H Q => ∃ v7, σ[1]? = some (some v7) ∧ ∃ v8, σ[2]? = some (some v8) ∧ sp_check_word K [v7, v8] H (fun x5 h5 => 2 ≤ sizeLine ∧ ∀ p3, h5 p3 = none → Q (V.ref p3) (upd h5 p3 (.tup [(V.str "told"), x5]))) (EL 5 W)))
          (tNext))
        (t_law_asked_3 K W)
def t_law_asked_5 (K : Fg) (W : WX) : TS :=
    tSeq (tIfS (fun σ H Q => ∃ v6, σ[0]? = some (some v6) ∧ rEq v6 (V.int 1) H (fun x4 h4 => ∃ c2, x4 = .bl c2 ∧ Q c2 h4))
          (tRet (fun σ H Q => ∃ v4, σ[1]? = some (some v4) ∧ ∃ v5, σ[2]? = some (some v5) ∧ sp_word_to_digits K [v4, v5] H (fun x3 h3 => 2 ≤ sizeLine ∧ ∀ p2, h3 p2 = none → Q (V.ref p2) (upd h3 p2 (.tup [(V.str "told"), x3]))) (EL 5 W)))
          (tNext))
        (t_law_asked_4 K W)
def tb_law_asked (K : Fg) (W : WX) : TS :=
    tSeq (tIfS (fun σ H Q => ∃ v3, σ[0]? = some (some v3) ∧ rEq v3 (V.int 0) H (fun x2 h2 => ∃ c1, x2 = .bl c1 ∧ Q c1 h2))
          (tRet (fun σ H Q => ∃ v1, σ[1]? = some (some v1) ∧ ∃ v2, σ[2]? = some (some v2) ∧ sp_digits_to_word K [v1, v2] H (fun x1 h1 => 2 ≤ sizeLine ∧ ∀ p1, h1 p1 = none → Q (V.ref p1) (upd h1 p1 (.tup [(V.str "told"), x1]))) (EL 5 W)))
          (tNext))
        (t_law_asked_5 K W)
def tx_law_asked_1 (K : Fg) (a : Addr) (cls : Value) (d : Option Addr) : TS :=
    tRet (fun σ H Q => tXf a cls d (ga K "BadDigits") "at" (tVar 4) σ H (fun x15 h15 => 2 ≤ sizeLine ∧ ∀ p7, h15 p7 = none → Q (V.ref p7) (upd h15 p7 (.tup [(V.str "digits"), x15]))))
def tx_law_asked_2 (K : Fg) (a : Addr) (cls : Value) (d : Option Addr) : TS :=
    tRet (fun σ H Q => tXf a cls d (ga K "BadWord") "at" (tVar 4) σ H (fun x16 h16 => 2 ≤ sizeLine ∧ ∀ p8, h16 p8 = none → Q (V.ref p8) (upd h16 p8 (.tup [(V.str "word"), x16]))))
def tx_law_asked_3 (K : Fg) (a : Addr) (cls : Value) (d : Option Addr) : TS :=
    tRet (fun σ H Q => tXf a cls d (ga K "BadCount") "most" (tVar 4) σ H (fun x17 h17 => 2 ≤ sizeLine ∧ ∀ p9, h17 p9 = none → Q (V.ref p9) (upd h17 p9 (.tup [(V.str "count"), x17]))))
def tTry_law_asked (K : Fg) : TS := fun D σ H => tb_law_asked K (wAsM K (fun _ _ _ _ => False) D [(.ref (ga K "BadDigits"), 4, tx_law_asked_1 K), (.ref (ga K "BadWord"), 4, tx_law_asked_2 K), (.ref (ga K "BadCount"), 4, tx_law_asked_3 K)]) D σ H
def t_law_asked (K : Fg) (E : XK) : TS :=
    tTry_law_asked K

end SF

/-! R75f: the readings of _law_exact, _law_seq, _law_whole, _law_put, _law_read. -/
namespace SF
open PySem L2
theorem exOks_mem {n : Nat} : ∀ {ds : List PyData} {d : PyData}, exOks n ds = true → d ∈ ds → exOk n d = true
  | e :: ds, d, h, hd => by
    have h' : exOk n e = true ∧ exOks n ds = true := by simpa [exOks] using h
    rcases List.mem_cons.mp hd with rfl | hd
    · exact h'.1
    · exact exOks_mem h'.2 hd
section
variable {K : Fg} {n : Nat} {vs : List V} {H : Hp} {Q : VK} {E : XK}
theorem rd_law_exact (h : sp_law_exact K (n + 1) vs H Q E) : t_law_exact K n E { nx := fun _ H' => Q .non H', rt := Q } (start ["_law_told", "_law_due", "_law_k"] vs) H := by
  obtain ⟨d, v, u, rfl, hv, hu, hx, k⟩ := h
  cases d with
  | none =>
    cases hv.non'; cases hu.non'
    exact ⟨_, rfl, kIsi_tup hu ⟨_, rfl, iteF ⟨_, rfl, rfl, _, rfl, ifT (by simp) ⟨_, rfl, rfl, k _ (Ex.refl _)⟩⟩⟩⟩
  | int i =>
    cases hv.int'; cases hu.int'
    refine ⟨_, rfl, kIsi_tup hu ⟨_, rfl, iteF ?_⟩⟩
    refine ⟨_, rfl, rfl, _, rfl, ifF (by simp) ?_⟩
    refine ⟨_, rfl, kIsi_bool hu ⟨_, rfl, iteF ?_⟩⟩
    refine ⟨_, rfl, kIsi_str hu ⟨_, rfl, iteF ?_⟩⟩
    refine ⟨_, rfl, kIsi_int hv ⟨_, rfl, iteT ?_⟩⟩
    refine ⟨_, rfl, kIsi_bool hv ⟨_, rfl, _, rfl, iteT ?_⟩⟩
    refine ⟨_, rfl, _, rfl, (by simp [scal]), ?_⟩
    rw [decide_eq_true rfl]; exact k _ (Ex.refl _)
  | str z =>
    cases hv.str'; cases hu.str'
    refine ⟨_, rfl, kIsi_tup hu ⟨_, rfl, iteF ?_⟩⟩
    refine ⟨_, rfl, rfl, _, rfl, ifF (by simp) ?_⟩
    refine ⟨_, rfl, kIsi_bool hu ⟨_, rfl, iteF ?_⟩⟩
    refine ⟨_, rfl, kIsi_str hu ⟨_, rfl, iteT ?_⟩⟩
    refine ⟨_, rfl, kIsi_str hv ⟨_, rfl, iteT ?_⟩⟩
    refine ⟨_, rfl, _, rfl, (by simp [scal]), ?_⟩
    rw [decide_eq_true rfl]; exact k _ (Ex.refl _)
  | tuple ds =>
    cases n with
    | zero => simp [exOk] at hx
    | succ n =>
    have hx2 : ds.length ≤ 100000 ∧ exOks n ds = true := by simpa [exOk] using hx
    obtain ⟨hl', hx'⟩ := hx2
    obtain ⟨a, xs, rfl, g1, g2⟩ := hv.tup'
    obtain ⟨b, ys, rfl, g3, g4⟩ := hu.tup'
    have l1 := g2.length
    have l2 := g4.length
    refine ⟨_, rfl, kIsi_tup hu ⟨_, rfl, iteT ⟨_, rfl, kIsi_tup hv ⟨_, rfl, iteF ⟨_, rfl, a, xs, rfl, .inr g1, _, rfl, b, ys, rfl, .inr g3, rfl, _, rfl, ifF (by rw [l1, l2]; simp) ?_⟩⟩⟩⟩⟩
    refine ⟨_, rfl, b, ys, rfl, .inr g3, _, rfl, by omega, by omega, fun D hD => ?_⟩
    refine lc_it (walk_range (lo := 0) (n := ((ys.length : Nat) : Int).toNat)) (fun i H' => Owns H H' [(D, .lst [])]) ((Owns.none H).new hD) (fun _ _ _ _ => True.intro) ?_ ?_
    · rintro i x H1 H2 hi w1 ⟨rfl, rfl⟩
      obtain ⟨x, hx1⟩ := some_at (l := xs) (i := i) (by omega)
      obtain ⟨y, hy1⟩ := some_at (l := ys) (i := i) (by omega)
      obtain ⟨e, he, r1⟩ := g2.get' hx1
      obtain ⟨e2, he2, r2⟩ := g4.get' hy1
      rw [he] at he2
      cases he2
      refine ⟨rfl, _, rfl, _, rfl, a, xs, _, x, rfl, rfl, ex_t w1.ex g1, at_of (j := i) (by omega) hx1, _, rfl, _, rfl, b, ys, _, y, rfl, rfl, ex_t w1.ex g3, at_of (j := i) (by omega) hy1, ?_⟩
      have hmem := List.mem_of_getElem? he
      exact ⟨e, x, y, rfl, r1.up w1.ex, r2.up w1.ex, exOks_mem hx' hmem, fun H3 e3 => ⟨_, rfl, iteF (w1.call e3)⟩⟩
    · intro H1 w1
      exact ⟨Nat.zero_le _, fun p hp => eqNil (.lst (w1.get 0) .nil) shaped_nil hp (k _ (w1.ex.trans (Ex.new hp)))⟩
  | _ => simp [exOk] at hx
end
end SF

/-! R75g: the readings of _law_seq, _law_whole, _law_odd, _law_put, _law_read. -/
namespace SF
open PySem L2
theorem shaped_tupI (ns : List Int) : SeqAt.shaped (tupI ns) = true := shaped_of (by simp [tupI, PyData.canLay0, lay_ints]) (by simp [tupI, PyData.depth, depth_ints])
theorem eqv_tupI_nil (ns : List Int) : PyData.eqv (tupI ns) (tupI []) = ns.isEmpty := by cases ns <;> simp [tupI, PyData.eqv, PyData.eqvAll]
theorem optD_of {K : Fg} {S : Hp} {o : Option Int} {v : V} (h : Rk K S (optD o) v) : v = optV o := by
  cases o with
  | none => exact h.non'
  | some i => exact h.int'
theorem rk_optV {K : Fg} {S : Hp} (o : Option Int) : Rk K S (optD o) (optV o) := by
  cases o with
  | none => exact .non
  | some i => exact .int i
section
variable {K : Fg} {vs : List V} {H : Hp} {Q : VK} {E : XK}
theorem rd_law_seq (h : sp_law_seq K vs H Q E) : t_law_seq K E { nx := fun _ H' => Q .non H', rt := Q } (start ["_law_hand_here", "_law_row"] vs) H := by
  obtain ⟨S, l, a, c, o, cs, d, v, rfl, w, ho, hc, hv, hs, k⟩ := h
  refine ⟨_, rfl, draw_of w ho hc ⟨by decide, by decide⟩ fun H1 o1 x w1 ho1 _ _ => ⟨rfl, _, rfl, iteB (fun _ => ?_) (fun _ => ?_)⟩⟩
  · obtain ⟨b, xs, rfl, hq, hr⟩ := kseq_of hv hs
    exact ⟨_, rfl, b, xs, rfl, ex_q w1.ex hq, fun p hp => k _ _ o1 (.list (itemsD d)) (.ref p) (w1.growEx hp) (w1.grow hp) ho1 (.lst (.of upd_same) (hr.up (w1.growEx hp))) rfl rfl⟩
  · obtain ⟨b, xs, rfl, hq, hr⟩ := kseq_of hv hs
    exact ⟨_, rfl, tupQ_ow w1 hq hr fun S2 H2 u e2 w2 r2 => k S2 H2 o1 (.tuple (itemsD d)) u e2 w2 ho1 r2 rfl rfl⟩
theorem rd_law_whole (h : sp_law_whole K vs H Q E) : t_law_whole K E { nx := fun _ H' => Q .non H', rt := Q } (start ["_law_thing", "_law_low", "_law_high"] vs) H := by
  obtain ⟨i, lo, hi, rfl, k⟩ := h
  have k0 := k H (Ex.refl H)
  refine ⟨_, rfl, kIsi_int (d := .int i) (.int i) ⟨_, rfl, iteT ⟨_, rfl, kIsi_bool (d := .int i) (.int i) ⟨_, rfl, _, rfl, iteT ?_⟩⟩⟩⟩
  refine ⟨_, rfl, _, rfl, _, _, rfl, rfl, _, rfl, ?_⟩
  refine iteD (fun c => ⟨_, rfl, _, _, rfl, rfl, ?_⟩) (fun c => ?_)
  · rw [decide_eq_true c, Bool.true_and] at k0; exact k0
  · rw [decide_eq_false c, Bool.false_and] at k0; exact k0
theorem rd_law_odd (h : sp_law_odd K vs H Q E) : t_law_odd K E { nx := fun _ H' => Q .non H', rt := Q } (start ["_law_hand_here", "_law_low", "_law_high", "_law_way"] vs) H := by
  obtain ⟨S, l, a, c, o, cs, low, high, rfl, w, ho, hc, ⟨h1, h2, h3, h4⟩, k⟩ := h
  refine ⟨_, rfl, draw_of w ho hc ⟨by decide, by decide⟩ fun H1 o1 x w1 ho1 x0 x1 => ?_⟩
  have big : ∀ i : Int, (i < low ∨ high < i) → isWholeD (some low) (some high) (.int i) = false := fun i hi => by
    simp only [isWholeD, Bool.and_eq_false_iff, decide_eq_false_iff_not]; omega
  have ki : ∀ {S' H'} (i : Int), Ex S S' → Owns S' H' ((a, o1) :: l) → (i < low ∨ high < i) → Q (.int i) H' := fun i e w' hi => k _ _ o1 (.int i) (.int i) e w' ho1 (.int i) (big i hi) (by show 0 ≤ 10; decide)
  refine ⟨_, rfl, _, _, rfl, rfl, _, rfl, iteD (fun c2 => ?_) (fun c2 => ?_)⟩
  · refine ⟨_, rfl, _, _, rfl, rfl, _, rfl, _, _, rfl, rfl, (by show 2 ≤ sizeLine; decide), fun p hp => ?_⟩
    have w2 := w1.grow (o := .lst [.int (low - 1), .int (high + 1)]) hp
    have e2 := w1.growEx (o := .lst [.int (low - 1), .int (high + 1)]) hp
    rcases (by omega : x = 0 ∨ x = 1) with rfl | rfl
    · exact ⟨_, rfl, p, _, _, _, rfl, rfl, .of upd_same, by rfl, ki _ e2 w2 (by omega)⟩
    · exact ⟨_, rfl, p, _, _, _, rfl, rfl, .of upd_same, by rfl, ki _ e2 w2 (by omega)⟩
  · refine ⟨_, rfl, _, _, rfl, rfl, _, rfl, iteD (fun c3 => ?_) (fun c3 => ?_)⟩
    · refine ⟨_, _, rfl, rfl, ⟨by decide, by decide, by decide⟩, _, _, rfl, rfl, _, _, rfl, rfl, _, _, rfl, rfl, ⟨by decide, by decide, by decide⟩, _, rfl, _, _, rfl, rfl, (by show 2 ≤ sizeLine; decide), fun p hp => ?_⟩
      have w2 := w1.grow (o := .lst [.int (0 - 10 ^ (30 : Int).toNat - 1), .int (10 ^ (30 : Int).toNat + high)]) hp
      have e2 := w1.growEx (o := .lst [.int (0 - 10 ^ (30 : Int).toNat - 1), .int (10 ^ (30 : Int).toNat + high)]) hp
      have p30 : (0 : Int) < 10 ^ (30 : Int).toNat := by decide +kernel
      rcases (by omega : x = 2 ∨ x = 3) with rfl | rfl
      · exact ⟨_, rfl, _, _, rfl, rfl, p, _, _, _, rfl, rfl, .of upd_same, by rfl, ki _ e2 w2 (by omega)⟩
      · exact ⟨_, rfl, _, _, rfl, rfl, p, _, _, _, rfl, rfl, .of upd_same, by rfl, ki _ e2 w2 (by omega)⟩
    · refine ⟨_, rfl, low, rfl, Nat.lt_of_le_of_lt (Nat.log2_le_self _) (by omega), _, rfl, (by show 1 ≤ sizeLine; decide), fun p4 hp4 => ⟨(by show 5 ≤ sizeLine; decide), fun p3 hp3 => ?_⟩⟩
      have w2 := w1.grow (o := .tup [.int low]) hp4
      have e2 := w1.growEx (o := .tup [.int low]) hp4
      have w3 := w2.grow (o := .lst [.non, .bl true, .bl false, .str (toString low), .ref p4]) hp3
      have e3 := w2.growEx (o := .lst [.non, .bl true, .bl false, .str (toString low), .ref p4]) hp3
      have e23 := e2.trans e3
      rcases (by omega : x = 4 ∨ x = 5 ∨ x = 6 ∨ x = 7 ∨ x = 8) with rfl | rfl | rfl | rfl | rfl
      · exact ⟨_, rfl, _, _, rfl, rfl, p3, _, _, _, rfl, rfl, .of upd_same, by rfl, k _ _ o1 .none .non e23 w3 ho1 .non rfl (by decide)⟩
      · exact ⟨_, rfl, _, _, rfl, rfl, p3, _, _, _, rfl, rfl, .of upd_same, by rfl, k _ _ o1 (.bool true) _ e23 w3 ho1 (.bl true) rfl (by decide)⟩
      · exact ⟨_, rfl, _, _, rfl, rfl, p3, _, _, _, rfl, rfl, .of upd_same, by rfl, k _ _ o1 (.bool false) _ e23 w3 ho1 (.bl false) rfl (by decide)⟩
      · exact ⟨_, rfl, _, _, rfl, rfl, p3, _, _, _, rfl, rfl, .of upd_same, by rfl, k _ _ o1 (.str (toString low)) _ e23 w3 ho1 (.str _) rfl (by show 0 ≤ 10; decide)⟩
      · exact ⟨_, rfl, _, _, rfl, rfl, p3, _, _, _, rfl, rfl, .of upd_same, by rfl, k _ _ o1 (.tuple [.int low]) _ e23 w3 ho1 (.tup (.of (e3 _ _ upd_same)) (.cons (.int low) .nil)) rfl (by show 1 ≤ 10; decide)⟩
end
end SF

/-! R75h: the readings of _law_put, _law_read. -/
namespace SF
open PySem L2
theorem line_at {K : Fg} {S : Hp} {last : Option Int} {tail : List Int} {v : V} (h : Rk K S (lineD last tail) v) : ∃ (a at_ : Addr), v = .ref a ∧ SqT K S a [optV last, .ref at_] ∧ SqT K S at_ (tail.map .int) := by
  obtain ⟨a, xs, rfl, g1, g2⟩ := h.tup'
  obtain ⟨v1, _, rfl, r1, g2⟩ := g2.cons'
  obtain ⟨v2, _, rfl, r2, g2⟩ := g2.cons'
  cases g2.nil'
  obtain ⟨at_, ys, rfl, g3, g4⟩ := r2.tup'
  have h1 := optD_of r1
  have h2 := rks_ints g4
  subst h1 h2
  exact ⟨a, at_, rfl, g1, g3⟩
theorem getLast_line {last : Option Int} {tail : List Int} : (lineQ last tail).getLast? = if tail.isEmpty then last else tail.getLast? := by
  unfold lineQ
  cases tail with
  | nil => cases last <;> rfl
  | cons t r => cases last <;> simp
theorem optV_int {o : Option Int} {f : Int} : decide (optV o = V.int f) = decide (o = some f) := by
  cases o with
  | none => simp [optV]
  | some i => simp [optV]
theorem last_atI {tail : List Int} {x : Int} (h : tail.getLast? = some x) : atI (tail.map V.int) (-1) = some (.int x) := by
  rcases List.eq_nil_or_concat tail with rfl | ⟨t, y, rfl⟩
  · cases h
  · rw [List.concat_eq_append] at h ⊢
    have hy : y = x := by simpa using h
    subst hy
    rw [List.map_append]
    unfold atI ixN
    rw [if_neg (by decide), if_pos (by simp; omega)]
    show (t.map V.int ++ [V.int y])[_]? = _
    have e2 : (-1 + ((t.map V.int ++ [y].map V.int).length : Int)).toNat = (t.map V.int).length := by simp; omega
    rw [e2, List.getElem?_append_right (Nat.le_refl _), Nat.sub_self]; rfl
section
variable {K : Fg} {vs : List V} {H : Hp} {Q : VK} {E : XK}
theorem rd_law_put (h : sp_law_put K vs H Q E) : t_law_put K E { nx := fun _ H' => Q .non H', rt := Q } (start ["_law_line", "_law_frame", "_law_newest"] vs) H := by
  obtain ⟨S, L, last, tail, v, f, rfl, w, hv, hl, k⟩ := h
  obtain ⟨a, at_, rfl, g1, g3⟩ := line_at hv
  have rt : Rk K S (tupI tail) (.ref at_) := .tup g3 (rk_ints tail)
  -- what follows, the newest known
  have fin : ∀ {S1 H1}, Ex S S1 → Owns S1 H1 L → tRet (fun σ H Q => ∃ v4, σ[2]? = some (some v4) ∧ ∃ v5, σ[1]? = some (some v5) ∧ rEq v4 v5 H (fun x5 h5 => ∃ c2, x5 = .bl c2 ∧ if c2 = true then ∃ v6, σ[0]? = some (some v6) ∧ Q v6 h5 else ∃ v7, σ[0]? = some (some v7) ∧ rIxT K v7 (V.int 0) h5 (fun x6 h6 => ∃ v8, σ[0]? = some (some v8) ∧ rIxT K v8 (V.int 1) h6 (fun x7 h7 => ∃ v9, σ[1]? = some (some v9) ∧ 1 ≤ sizeLine ∧ ∀ p3, h7 p3 = none → rCatA K x7 (V.ref p3) (upd h7 p3 (.tup [v9])) (fun x8 h8 => 2 ≤ sizeLine ∧ ∀ p2, h8 p2 = none → Q (V.ref p2) (upd h8 p2 (.tup [x6, x8]))))))) { nx := fun _ H' => Q .non H', rt := Q } [some (.ref a), some (.int f), some (optV (lineQ last tail).getLast?)] H1 := by
    intro S1 H1 e1 w1
    refine ⟨_, rfl, _, rfl, ?_, _, rfl, ?_⟩
    · cases (lineQ last tail).getLast? <;> rfl
    · rw [optV_int]
      refine iteD (fun c => ?_) (fun c => ?_)
      · rw [if_pos c] at k
        exact ⟨_, rfl, k S1 H1 _ e1 w1 (hv.up e1)⟩
      · rw [if_neg c] at k
        refine ⟨_, rfl, a, _, 0, _, rfl, rfl, ex_t w1.ex (ex_t e1 g1), by rfl, _, rfl, a, _, 1, _, rfl, rfl, ex_t w1.ex (ex_t e1 g1), by rfl, _, rfl, (by show 1 ≤ sizeLine; decide), fun p3 hp3 => ?_⟩
        have w2 := w1.grow (o := .tup [.int f]) hp3
        have e2 := w1.growEx (o := .tup [.int f]) hp3
        refine catA_ow w2 (ds := tail.map .int) (es := [f].map .int) (rt.up (e1.trans e2)) (.tup (.of upd_same) (.cons (.int f) .nil)) (sz (by rw [List.length_map, List.length_map, List.length_singleton]; omega)) fun S3 H3 u e3 w3 r3 => ?_
        rw [← List.map_append] at r3
        refine ⟨(by show 2 ≤ sizeLine; decide), fun p2 hp2 => ?_⟩
        have e4 := w3.growEx (o := .tup [optV last, u]) hp2
        exact k _ _ (.ref p2) (e1.trans (e2.trans (e3.trans e4))) (w3.grow hp2) (.tup (.of upd_same) (.cons (rk_optV last) (.cons (r3.up e4) .nil)))
  refine ⟨_, rfl, a, _, 1, _, rfl, rfl, ex_t w.ex g1, by rfl, Nat.zero_le _, fun p1 hp1 => ?_⟩
  have w1 := w.grow (o := .tup []) hp1
  have e1 := w.growEx (o := .tup []) hp1
  refine kneD (d := tupI tail) (e := tupI []) ((rt.up e1).up w1.ex) (.tup (.of upd_same) .nil) (shaped_tupI tail) (shaped_tupI []) ⟨_, rfl, ?_⟩
  rw [eqv_tupI_nil]
  refine iteN (fun c => ?_) (fun c => ?_)
  · obtain ⟨x, hx⟩ : ∃ x, tail.getLast? = some x := by
      rcases List.eq_nil_or_concat tail with rfl | ⟨t, y, rfl⟩
      · cases c
      · exact ⟨y, by rw [List.concat_eq_append]; simp⟩
    have eq : (lineQ last tail).getLast? = some x := by rw [getLast_line, c]; exact hx
    have q := fin e1 w1
    rw [eq] at q
    exact ⟨_, rfl, a, _, 1, _, rfl, rfl, ex_t w1.ex (ex_t e1 g1), by rfl, 1, rfl, at_, _, -1, _, rfl, rfl, ex_t w1.ex (ex_t e1 g3), last_atI hx, q⟩
  · have eq : (lineQ last tail).getLast? = last := by rw [getLast_line, c]; rfl
    have q := fin e1 w1
    rw [eq] at q
    exact ⟨_, rfl, a, _, 0, _, rfl, rfl, ex_t w1.ex (ex_t e1 g1), by rfl, q⟩
end
end SF

/-! R75i: the readings of _law_read, _law_word. -/
namespace SF
open PySem L2
theorem cut_drop75 {xs : List V} {k : Nat} : cutV xs (some (k : Int)) none = xs.drop k := by
  unfold cutV
  rw [HT.sIx_none, HT.sIx_nat]
  rcases Nat.le_total k xs.length with q | q
  · rw [Nat.min_eq_left q]
    exact List.take_of_length_le (by rw [List.length_drop]; omega)
  · rw [Nat.min_eq_right q, Nat.sub_self, List.take_zero, List.drop_eq_nil_of_le q]
section
variable {K : Fg} {vs : List V} {H : Hp} {Q : VK} {E : XK}
theorem rd_law_read (h : sp_law_read K vs H Q E) : t_law_read K E { nx := fun _ H' => Q .non H', rt := Q } (start ["_law_hand_here", "_law_line", "_law_many", "_law_k"] vs) H := by
  obtain ⟨S, l, a, c, o, cs, last, tail, v, rfl, w, ho, hc, hv, hl, kn, k⟩ := h
  obtain ⟨b, at_, rfl, g1, g3⟩ := line_at hv
  -- the last step, the place known
  have fin : ∀ {H1 o1} (q : Nat) (u2 : Option V), 1 ≤ q → q ≤ tail.length → Owns S H1 ((a, o1) :: l) → IsHand c o1 → (∀ S' H' u z, tail[q - 1]? = some z → Ex S S' → Owns S' H' ((a, o1) :: l) → Rk K S' (lineD (some z) (tail.drop q)) u → Q u H') →
      tRet (e_law_read_4 K E) { nx := fun _ H' => Q .non H', rt := Q } [some (.ref a), some (.ref b), u2, some (.int (q : Int))] H1 := by
    intro H1 o1 q u2 q1 q2 w1 ho1 kk
    obtain ⟨z, hz⟩ := some_at (l := tail) (i := q - 1) (by omega)
    have t1 := ex_t w1.ex g1
    have t3 := ex_t w1.ex g3
    refine ⟨_, rfl, rfl, _, rfl, iteD (fun e => ?_) (fun _ => ?_)⟩
    · exfalso; injection e with e; omega
    · refine ⟨_, rfl, b, _, 1, _, rfl, rfl, t1, by rfl, _, rfl, _, _, rfl, rfl, at_, _, _, .int z, rfl, rfl, t3, at_of (j := q - 1) (by omega) (by rw [List.getElem?_map, hz]; rfl), _, rfl, b, _, 1, _, rfl, rfl, t1, by rfl, _, rfl, _, rfl, at_, _, rfl, t3, fun e => ?_, fun _ p hp => ?_⟩
      · exfalso
        have e1 := e.1
        rw [HT.sIx_nat, List.length_map] at e1
        omega
      · rw [cut_drop75, ← List.map_drop]
        have w2 := w1.grow (o := .tup ((tail.drop q).map .int)) hp
        have e2 := w1.growEx (o := .tup ((tail.drop q).map .int)) hp
        refine ⟨(by show 2 ≤ sizeLine; decide), fun p1 hp1 => ?_⟩
        have e3 := w2.growEx (o := .tup [.int z, .ref p]) hp1
        exact kk _ _ (.ref p1) z hz (e2.trans e3) (w2.grow hp1) (.tup (.of upd_same) (.cons (.int z) (.cons (.tup (.of (e3 _ _ upd_same)) (rk_ints (tail.drop q))) .nil)))
  have t1 := ex_t w.ex g1
  have t3 := ex_t w.ex g3
  cases last with
  | none =>
    refine ⟨_, rfl, b, _, 1, _, rfl, rfl, t1, by rfl, at_, _, rfl, .inr t3, _, rfl, b, _, 0, .non, rfl, rfl, t1, by rfl, rfl, _, rfl, ifT (by rfl) ⟨_, _, rfl, rfl, ?_⟩⟩
    rw [List.length_map]
    refine ⟨_, rfl, rfl, _, rfl, iteD (fun e => ?_) (fun e => ?_)⟩
    · have e0 : tail.length = 0 := by injection e with e; omega
      exact kn (by unfold lineQ; rw [List.length_eq_zero_iff.mp e0]; rfl) _ (Ex.refl _)
    · have e0 : tail.length ≠ 0 := fun z => e (by rw [z]; rfl)
      refine ⟨_, rfl, _, rfl, draw_of w ho hc ⟨by omega, by omega⟩ fun H1 o1 x w1 ho1 x0 x1 => ⟨_, rfl, b, _, 0, .non, rfl, rfl, ex_t w1.ex g1, by rfl, rfl, _, rfl, ifT (by rfl) ⟨_, _, rfl, rfl, ?_⟩⟩⟩
      obtain ⟨y, rfl⟩ : ∃ y : Nat, x = y := ⟨x.toNat, by omega⟩
      refine fin (y + 1) _ (by omega) (by omega) w1 ho1 fun S' H' u z hz e2 w2 r2 => k S' H' o1 u y z ?_ e2 w2 ho1 r2
      show ([] ++ tail)[y]? = _
      rw [List.nil_append]; exact hz
  | some x0 =>
    refine ⟨_, rfl, b, _, 1, _, rfl, rfl, t1, by rfl, at_, _, rfl, .inr t3, _, rfl, b, _, 0, .int x0, rfl, rfl, t1, by rfl, rfl, _, rfl, ifF (by rfl) ⟨_, _, rfl, rfl, ?_⟩⟩
    rw [List.length_map]
    refine ⟨_, rfl, rfl, _, rfl, iteD (fun e => ?_) (fun e => ?_)⟩
    · exfalso; injection e with e; omega
    · refine ⟨_, rfl, _, rfl, draw_of w ho hc ⟨by omega, by omega⟩ fun H1 o1 x w1 ho1 x0' x1 => ⟨_, rfl, b, _, 0, .int x0, rfl, rfl, ex_t w1.ex g1, by rfl, rfl, _, rfl, ifF (by rfl) ⟨_, _, rfl, rfl, ?_⟩⟩⟩
      obtain ⟨y, rfl⟩ : ∃ y : Nat, x = y := ⟨x.toNat, by omega⟩
      cases y with
      | zero => exact ⟨_, rfl, rfl, _, rfl, ifT (by rfl) ⟨_, rfl, k S H1 o1 _ 0 x0 rfl (Ex.refl _) w1 ho1 hv⟩⟩
      | succ y =>
        show tRet (e_law_read_4 K E) _ [_, _, _, some (.int (((y + 1 : Nat) : Int) + 0))] H1
        rw [Int.add_zero]
        exact fin (y + 1) _ (by omega) (by omega) w1 ho1 fun S' H' u z hz e2 w2 r2 => k S' H' o1 u (y + 1) z hz e2 w2 ho1 r2
end
end SF

/-! R75j: the reading of _law_word; answers of tuples alone stand apart from what is owned. -/
namespace SF
open PySem L2
/-- the frames below n, less one -/
def lessL (l : Int) : Nat → List Int
  | 0 => []
  | n + 1 => if (n : Int) = l then lessL l n else lessL l n ++ [(n : Int)]
theorem lessL_below {l : Int} : ∀ {n : Nat}, (n : Int) ≤ l → lessL l n = (List.range n).map Int.ofNat
  | 0, _ => rfl
  | n + 1, h => by
    unfold lessL
    rw [if_neg (by omega), lessL_below (n := n) (by omega), List.range_succ, List.map_append]
    rfl
theorem lessL_len_le {l : Int} : ∀ (n : Nat), (lessL l n).length ≤ n
  | 0 => Nat.le_refl _
  | n + 1 => by
    have h := lessL_len_le (l := l) n
    unfold lessL
    split
    · omega
    · rw [List.length_append]; simp; omega
theorem lessL_above {l : Int} (h0 : 0 ≤ l) : ∀ {n : Nat}, l < n → (lessL l n).length = n - 1 ∧ ∀ d : Nat, d + 1 < n → (lessL l n)[d]? = some (fb l d)
  | 0, h => by omega
  | n + 1, h => by
    by_cases e : (n : Int) = l
    · have e1 : lessL l (n + 1) = (List.range n).map Int.ofNat := by
        show (if (n : Int) = l then lessL l n else _) = _
        rw [if_pos e, lessL_below (by omega)]
      rw [e1]
      refine ⟨by simp, fun d hd => ?_⟩
      rw [List.getElem?_map, List.getElem?_range (by omega)]
      show some (d : Int) = _
      unfold fb
      rw [if_pos (by omega)]
    · obtain ⟨h1, h2⟩ := lessL_above h0 (n := n) (by omega)
      have e1 : lessL l (n + 1) = lessL l n ++ [(n : Int)] := by
        show (if (n : Int) = l then lessL l n else _) = _
        rw [if_neg e]
      rw [e1]
      refine ⟨by rw [List.length_append, h1]; simp; omega, fun d hd => ?_⟩
      by_cases q : d + 1 < n
      · rw [List.getElem?_append_left (by omega)]; exact h2 d q
      · have : d = n - 1 := by omega
        subst this
        rw [List.getElem?_append_right (by omega), h1, Nat.sub_self]
        show some (n : Int) = _
        unfold fb
        rw [if_neg (by omega)]
        congr 1
        omega
theorem fb_in {l d m : Int} (h0 : 0 ≤ d) (h1 : d ≤ m - 2) : 0 ≤ fb l d ∧ fb l d < m := by unfold fb; split <;> omega
theorem spell_last_in {m : Int} : ∀ {ds : List Int} {l : Int}, 0 ≤ l → l < m → (∀ d ∈ ds, 0 ≤ d ∧ d ≤ m - 2) → 0 ≤ (spell l ds).getLastD l ∧ (spell l ds).getLastD l < m
  | [], l, h0, h1, _ => ⟨h0, h1⟩
  | d :: r, l, h0, h1, h => by
    have hd := h d List.mem_cons_self
    have q := fb_in (l := l) hd.1 hd.2
    have e : (spell l (d :: r)).getLastD l = (spell (fb l d) r).getLastD (fb l d) := by
      show (fb l d :: spell (fb l d) r).getLastD l = _
      rw [List.getLastD_cons]
    rw [e]
    exact spell_last_in q.1 q.2 fun x hx => h x (List.mem_cons_of_mem _ hx)
section
variable {K : Fg} {vs : List V} {H : Hp} {Q : VK} {E : XK}
theorem rd_law_word (h : sp_law_word K vs H Q E) : t_law_word K E { nx := fun _ H' => Q .non H', rt := Q } (start ["_law_m", "_law_digits", "_law_last", "_law_told", "_law_digit", "_law_frame"] vs) H := by
  obtain ⟨S, L, m, ds, a, rfl, w0, ha, hm, hd, hl, k⟩ := h
  have l1 : 0 ≤ m - 1 := by omega
  refine ⟨_, rfl, _, _, rfl, rfl, ?_⟩
  refine ⟨Nat.zero_le _, fun D hD => ?_⟩
  have w := w0.new (o := .lst []) hD
  have eD : Ex H (upd H D (.lst [])) := Ex.new hD
  refine ⟨_, rfl, a, rfl, ⟨_, .inl (.of (eD _ _ ha))⟩, for_list (K := K) (a := a) (xs := ds.map V.int) (fun i σ H' => (∃ u u2, σ = [some (.int m), some (.ref a), some (.int ((spell (m - 1) (ds.take i)).getLastD (m - 1))), some (.ref D), u, u2]) ∧ Owns S H' ((D, lstI (spell (m - 1) (ds.take i))) :: L) ∧ H' a = some (lstI ds)) ⟨⟨_, _, rfl⟩, w, eD _ _ ha⟩ (fun i σ H' _ p => .inl (.of p.2.2)) ?_ ?_⟩
  · rintro i x σ H1 hx ⟨⟨u, u2, rfl⟩, w1, ha1⟩
    obtain ⟨z, hz, rfl⟩ := int_item hx
    have hi := (List.getElem?_eq_some_iff.mp hz).1
    have hzr := hd z (List.mem_of_getElem? hz)
    have hin := spell_last_in (m := m) (ds := ds.take i) (l := m - 1) (by omega) (by omega) fun x hx => hd x (List.mem_of_mem_take hx)
    have es : spell (m - 1) (ds.take (i + 1)) = spell (m - 1) (ds.take i) ++ [fb ((spell (m - 1) (ds.take i)).getLastD (m - 1)) z] := by rw [takeS hz, spell_app]; rfl
    have el : (spell (m - 1) (ds.take (i + 1))).getLastD (m - 1) = fb ((spell (m - 1) (ds.take i)).getLastD (m - 1)) z := by rw [es]; simp
    rw [el, es]
    have hlen : (spell (m - 1) (ds.take i)).length < 100000 := by rw [spell_len, List.length_take]; omega
    generalize spell (m - 1) (ds.take i) = sp at hin w1 hlen ⊢
    generalize sp.getLastD (m - 1) = l at hin ⊢
    obtain ⟨mn, rfl⟩ : ∃ mn : Nat, m = mn := ⟨m.toNat, by omega⟩
    refine ⟨_, rfl, mn, rfl, by omega, by omega, fun C hC => ?_⟩
    refine lc_it (walk_range (lo := 0) (n := ((mn : Nat) : Int).toNat)) (fun j H' => Owns H1 H' [(C, lstI (lessL l j))]) ((Owns.none H1).new hC) (fun _ _ _ _ => True.intro) ?_ ?_
    · rintro j x H2 H3 hj w2 ⟨rfl, rfl⟩
      refine ⟨rfl, _, rfl, _, rfl, rfl, _, rfl, ?_⟩
      have hle := lessL_len_le (l := l) j
      by_cases c : (j : Int) = l
      · have e1 : lessL l (j + 1) = lessL l j := by show (if (j : Int) = l then lessL l j else _) = _; rw [if_pos c]
        rw [e1]
        refine ifF (by simp [c]) ?_
        exact w2
      · have e1 : lessL l (j + 1) = lessL l j ++ [(j : Int)] := by show (if (j : Int) = l then lessL l j else _) = _; rw [if_neg c]
        rw [e1]
        refine ifT (by simp [c]) ⟨_, rfl, _, w2.get 0, szl (by rw [List.length_map]; omega), ?_⟩
        have w3 := w2.write (o' := .lst ((lessL l j).map .int ++ [.int (j : Int)])) 0
        simp only [Int.zero_add, lstI, List.map_append, List.map_cons, List.map_nil]
        exact w3
    · intro H2 w2
      obtain ⟨zn, rfl⟩ : ∃ zn : Nat, z = zn := ⟨z.toNat, by omega⟩
      have hat := (lessL_above hin.1 (n := mn) hin.2).2 zn (by omega)
      rw [show ((mn : Nat) : Int).toNat = mn from rfl] at w2
      have wb := w1.call w2.ex
      refine ⟨_, rfl, C, _, _, .int (fb l zn), rfl, rfl, .inl (.of (w2.get 0)), at_of (j := zn) (by omega) (by rw [List.getElem?_map, hat]; rfl), ?_⟩
      refine ⟨_, rfl, tyL (wb.get 0), _, rfl, D, _, _, rfl, rfl, wb.get 0, szl (by rw [List.length_map]; omega), ?_⟩
      have w4 := wb.write (o' := .lst (sp.map .int ++ [.int (fb l zn)])) 0
      refine ⟨⟨_, _, rfl⟩, ?_, ?_⟩
      · unfold lstI
        rw [List.map_append]
        exact w4
      · have hne : a ≠ D := fun e => by
          rw [e] at ha
          rw [hD] at ha
          cases ha
        rw [upd_ne hne]
        exact w2.ex _ _ ha1
  · rintro σ H1 ⟨⟨u, u2, rfl⟩, w1, ha1⟩
    rw [List.length_map, List.take_length] at w1
    refine ⟨_, rfl, D, _, rfl, .inl ⟨.inl (.of (w1.get 0)), fun p hp => ?_⟩⟩
    exact k _ _ (.ref p) (w1.growEx hp) ((w1.grow hp).drop 0) (.tup (.of upd_same) (rk_ints (spell (m - 1) ds)))
end

mutual
/-- data of tuples and scalars alone -/
def tupD : PyData → Bool
  | .none => true
  | .bool _ => true
  | .int _ => true
  | .str _ => true
  | .tuple ds => tupDs ds
  | _ => false
def tupDs : List PyData → Bool
  | [] => true
  | d :: ds => tupD d && tupDs ds
end
/-- nothing owned is a tuple -/
def NoTup (l : List (Addr × HO)) : Prop := ∀ p ∈ l, (∀ xs, p.2 ≠ .tup xs) ∧ ∀ o xs, p.2 ≠ .frz o (.tup xs)
mutual
theorem growTup_d {K : Fg} {S' H' : Hp} (hg : ∀ a xs, SqT K H' a xs → SqT K S' a xs) : ∀ (d : PyData) (v : V), tupD d = true → Rk K H' d v → Rk K S' d v
  | .none, v, _, h => by rw [h.non']; exact .non
  | .bool b, v, _, h => by rw [h.bl']; exact .bl b
  | .int i, v, _, h => by rw [h.int']; exact .int i
  | .str z, v, _, h => by rw [h.str']; exact .str z
  | .tuple ds, v, t, h => by
    obtain ⟨a, xs, rfl, g, r⟩ := h.tup'
    exact .tup (hg a xs g) (growTup_ds hg ds xs (by simpa [tupD] using t) r)
  | .list _, v, t, h => by simp [tupD] at t
  | .dict _, v, t, h => by simp [tupD] at t
theorem growTup_ds {K : Fg} {S' H' : Hp} (hg : ∀ a xs, SqT K H' a xs → SqT K S' a xs) : ∀ (ds : List PyData) (xs : List V), tupDs ds = true → Rks K H' ds xs → Rks K S' ds xs
  | [], xs, _, h => by rw [h.nil']; exact .nil
  | d :: ds, xs, t, h => by
    obtain ⟨v, vs, rfl, h1, h2⟩ := h.cons'
    have t2 : tupD d = true ∧ tupDs ds = true := by simpa [tupDs] using t
    exact .cons (growTup_d hg d v t2.1 h1) (growTup_ds hg ds vs t2.2 h2)
end
/-- an answer of tuples alone stands apart from what is owned -/
theorem growTup {K : Fg} {S H H' : Hp} {l : List (Addr × HO)} {d : PyData} {u : V} (w : Owns S H l) (nt : NoTup l) (e : Ex H H') (t : tupD d = true) (h : Rk K H' d u) :
    ∃ S', Ex S S' ∧ Owns S' H' l ∧ Rk K S' d u := by
  obtain ⟨S', e1, w1, hs⟩ := w.growAll e
  refine ⟨S', e1, w1, growTup_d (fun a xs g => ?_) d u t h⟩
  rcases g with (g | ⟨o, g⟩) | g
  · refine .inl (.inl (hs a _ g fun p hp q => ?_))
    have := w1.here p hp
    rw [q, g] at this
    injection this with this
    exact (nt p hp).1 _ this.symm
  · refine .inl (.inr ⟨o, hs a _ g fun p hp q => ?_⟩)
    have := w1.here p hp
    rw [q, g] at this
    injection this with this
    exact (nt p hp).2 _ _ this.symm
  · exact .inr g
end SF

/-! R75k: the reading of _law_asked. -/
namespace SF
open PySem L2
section
variable {K : Fg} {vs : List V} {H : Hp} {Q : VK} {E : XK}
abbrev askW (K : Fg) (D : Ends) : WX := wAsM K (fun _ _ _ _ => False) D [(.ref (ga K "BadDigits"), 4, tx_law_asked_1 K), (.ref (ga K "BadWord"), 4, tx_law_asked_2 K), (.ref (ga K "BadCount"), 4, tx_law_asked_3 K)]
theorem set4 {σ : L2.St} {x : Option V} (h : σ.length = 5) : (σ.set 4 x)[4]? = some x := by
  rw [List.getElem?_set_self (by omega)]
theorem ask_bad1 {D : Ends} {i : Int} (hK : excOk75 K) (k : ∀ H' u, Ex H H' → Rk K H' (errD "digits" i) u → D.rt u H') : BadOne K H (EL 5 (askW K D)) "BadDigits" "at" i := by
  intro H' d e hd σ hσ
  refine ⟨true, (hK "BadDigits" (by simp) "BadDigits" (by simp)).trans (by rfl), fun _ a ha => ?_, fun z => nomatch z⟩
  refine ⟨.ref a, set4 hσ, rfl, rfl, d, _, .int i, rfl, hd, by rfl, (by show 2 ≤ sizeLine; decide), fun t ht => ?_⟩
  exact k _ (.ref t) (e.trans (Ex.new ht)) (.tup (.of upd_same) (.cons (.str "digits") (.cons (.int i) .nil)))
theorem ask_bad2 {D : Ends} {i : Int} (hK : excOk75 K) (k : ∀ H' u, Ex H H' → Rk K H' (errD "word" i) u → D.rt u H') : BadOne K H (EL 5 (askW K D)) "BadWord" "at" i := by
  intro H' d e hd σ hσ
  refine ⟨false, (hK "BadWord" (by simp) "BadDigits" (by simp)).trans (by rfl), fun z => Bool.noConfusion z, fun _ => ?_⟩
  refine ⟨true, (hK "BadWord" (by simp) "BadWord" (by simp)).trans (by rfl), fun _ a ha => ?_, fun z => nomatch z⟩
  refine ⟨.ref a, set4 hσ, rfl, rfl, d, _, .int i, rfl, hd, by rfl, (by show 2 ≤ sizeLine; decide), fun t ht => ?_⟩
  exact k _ (.ref t) (e.trans (Ex.new ht)) (.tup (.of upd_same) (.cons (.str "word") (.cons (.int i) .nil)))
theorem ask_bad3 {D : Ends} {i : Int} (hK : excOk75 K) (k : ∀ H' u, Ex H H' → Rk K H' (errD "count" i) u → D.rt u H') : BadOne K H (EL 5 (askW K D)) "BadCount" "most" i := by
  intro H' d e hd σ hσ
  refine ⟨false, (hK "BadCount" (by simp) "BadDigits" (by simp)).trans (by rfl), fun z => Bool.noConfusion z, fun _ => ?_⟩
  refine ⟨false, (hK "BadCount" (by simp) "BadWord" (by simp)).trans (by rfl), fun z => Bool.noConfusion z, fun _ => ?_⟩
  refine ⟨true, (hK "BadCount" (by simp) "BadCount" (by simp)).trans (by rfl), fun _ a ha => ?_, fun z => nomatch z⟩
  refine ⟨.ref a, set4 hσ, rfl, rfl, d, _, .int i, rfl, hd, by rfl, (by show 2 ≤ sizeLine; decide), fun t ht => ?_⟩
  exact k _ (.ref t) (e.trans (Ex.new ht)) (.tup (.of upd_same) (.cons (.str "count") (.cons (.int i) .nil)))
theorem told_k {H' : Hp} {d : PyData} {x : V} {p : Addr} (h : Rk K H' d x) (hp : H' p = none) : Rk K (upd H' p (.tup [.str "told", x])) (toldD d) (.ref p) :=
  .tup (.of upd_same) (.cons (.str "told") (.cons (h.up (Ex.new hp)) .nil))
theorem askD_0 {dm d : PyData} : askD 0 dm d = (if okM 2 dm = true then (match dFault (asI dm) d with | some i => errD "digits" i | none => toldD (tupI (spell (asI dm - 1) ((itemsD d).map asI)))) else errD "count" 6) := by
  unfold askD; rw [if_pos rfl] <;> rfl
theorem askD_1 {dm d : PyData} : askD 1 dm d = (if okM 2 dm = true then (match wFault (asI dm) d with | some i => errD "word" i | none => toldD (tupI (unspell (asI dm - 1) ((itemsD d).map asI)))) else errD "count" 6) := by
  unfold askD; rw [if_neg (by decide), if_pos rfl] <;> rfl
theorem askD_2 {dm d : PyData} : askD 2 dm d = (if okM 2 dm = true then (match wFault (asI dm) d with | some i => errD "word" i | none => toldD (.tuple (itemsD d))) else errD "count" 6) := by
  unfold askD; rw [if_neg (by decide), if_neg (by decide), if_pos rfl] <;> rfl
theorem askD_3 {dm d : PyData} : askD 3 dm d = (if okM 2 dm = true then (if isWholeD (some 0) (some 64) d = true then toldD (.int ((asI dm - 1) ^ (asI d).toNat)) else errD "count" 64) else errD "count" 6) := by
  unfold askD; rw [if_neg (by decide), if_neg (by decide), if_neg (by decide), if_pos rfl]
theorem askD_5 {dm d : PyData} : askD 5 dm d = (if okM 3 dm = true then (match dFault (asI dm) d with | some i => errD "digits" i | none => toldD (tupI ((itemsD d).map asI))) else errD "count" 6) := by
  unfold askD; rw [if_neg (by decide), if_neg (by decide), if_neg (by decide), if_neg (by decide), if_pos rfl] <;> rfl
theorem askD_6 {w : Int} {dm d : PyData} (h0 : w ≠ 0) (h1 : w ≠ 1) (h2 : w ≠ 2) (h3 : w ≠ 3) (h5 : w ≠ 5) : askD w dm d = (if okM 3 dm = true then toldD (tupI []) else errD "count" 6) := by
  unfold askD; rw [if_neg h0, if_neg h1, if_neg h2, if_neg h3, if_neg h5]
theorem rd_law_asked (h : sp_law_asked K vs H Q E) : t_law_asked K E { nx := fun _ H' => Q .non H', rt := Q } (start ["_law_which", "_law_m", "_law_thing", "_law_source", "raised"] vs) H := by
  obtain ⟨S, L, which, vm, v, vs', rfl, w, hK, h⟩ := h
  rcases h with ⟨h4, dm, d, hm', hd', hl, k⟩ | ⟨rfl, l, a, dx, m, ds, vd, t, fr, d, rfl, rfl, hvd, hd', hl, hl2, ht, k⟩
  · have hm := hm'.up w.ex
    have hd := hd'.up w.ex
    refine ⟨_, rfl, rfl, _, rfl, iteD (fun c0 => ?_) (fun c0 => ⟨_, rfl, rfl, _, rfl, iteD (fun c1 => ?_) (fun c1 => ⟨_, rfl, rfl, _, rfl, iteD (fun c2 => ?_) (fun c2 => ⟨_, rfl, rfl, _, rfl, iteD (fun c3 => ?_) (fun c3 => ⟨_, rfl, rfl, _, rfl, iteD (fun c4 => ?_) (fun c4 => ⟨_, rfl, rfl, _, rfl, iteD (fun c5 => ?_) (fun c5 => ?_)⟩)⟩)⟩)⟩)⟩)⟩
    · obtain rfl : which = 0 := by injection c0
      rw [askD_0] at k
      refine ⟨_, rfl, _, rfl, dm, d, vm, v, rfl, hm, hd, hl, ?_⟩
      by_cases c : okM 2 dm = true
      · rw [if_pos c] at k ⊢
        cases hf : dFault (asI dm) d with
        | some i => rw [hf] at k; exact ask_bad1 hK k
        | none => rw [hf] at k; exact fun H1 u e r => ⟨(by show 2 ≤ sizeLine; decide), fun p hp => k _ (.ref p) (e.trans (Ex.new hp)) (told_k r hp)⟩
      · rw [if_neg c] at k ⊢
        exact ask_bad3 hK k
    · obtain rfl : which = 1 := by injection c1
      rw [askD_1] at k
      refine ⟨_, rfl, _, rfl, dm, d, vm, v, rfl, hm, hd, hl, ?_⟩
      by_cases c : okM 2 dm = true
      · rw [if_pos c] at k ⊢
        cases hf : wFault (asI dm) d with
        | some i => rw [hf] at k; exact ask_bad2 hK k
        | none => rw [hf] at k; exact fun H1 u e r => ⟨(by show 2 ≤ sizeLine; decide), fun p hp => k _ (.ref p) (e.trans (Ex.new hp)) (told_k r hp)⟩
      · rw [if_neg c] at k ⊢
        exact ask_bad3 hK k
    · obtain rfl : which = 2 := by injection c2
      rw [askD_2] at k
      refine ⟨_, rfl, _, rfl, dm, d, vm, v, rfl, hm, hd, by omega, ?_⟩
      by_cases c : okM 2 dm = true
      · rw [if_pos c] at k ⊢
        cases hf : wFault (asI dm) d with
        | some i => rw [hf] at k; exact ask_bad2 hK k
        | none => rw [hf] at k; exact fun H1 u e r => ⟨(by show 2 ≤ sizeLine; decide), fun p hp => k _ (.ref p) (e.trans (Ex.new hp)) (told_k r hp)⟩
      · rw [if_neg c] at k ⊢
        exact ask_bad3 hK k
    · obtain rfl : which = 3 := by injection c3
      rw [askD_3] at k
      refine ⟨_, rfl, _, rfl, dm, d, vm, v, rfl, hm, hd, ?_⟩
      by_cases c : okM 2 dm = true
      · rw [if_pos c] at k ⊢
        by_cases c' : isWholeD (some 0) (some 64) d = true
        · rw [if_pos c'] at k ⊢
          exact fun H1 e => ⟨(by show 2 ≤ sizeLine; decide), fun p hp => k _ (.ref p) (e.trans (Ex.new hp)) (told_k (.int _) hp)⟩
        · rw [if_neg c'] at k ⊢
          exact ask_bad3 hK k
      · rw [if_neg c] at k ⊢
        exact ask_bad3 hK k
    · exact absurd (by injection c4) h4
    · obtain rfl : which = 5 := by injection c5
      rw [askD_5] at k
      refine ⟨_, rfl, _, rfl, rfl, rfl, fun x ix hx hix hne => ?_⟩
      have w2 := ((Owns.none H).new (o := .own x) hix).new (a := x) (o := .ins (ga K "StreamSource") ix []) (by rw [upd_ne hne.symm]; exact hx)
      refine ⟨H, _, x, ix, dm, d, vm, v, rfl, w2, hm, hd, hl, ?_⟩
      by_cases c : okM 3 dm = true
      · rw [if_pos c] at k ⊢
        cases hf : dFault (asI dm) d with
        | some i => rw [hf] at k; exact ask_bad1 hK k
        | none =>
          rw [hf] at k
          exact fun S1 H1 u e w3 r => ⟨rfl, x, _, _, u, rfl, w3.get 0, by rfl, (by show 2 ≤ sizeLine; decide), fun p hp => k _ (.ref p) ((e.trans w3.ex).trans (Ex.new hp)) (told_k (r.up w3.ex) hp)⟩
      · rw [if_neg c] at k ⊢
        exact ask_bad3 hK k
    · rw [askD_6 (fun z => c0 (by rw [z])) (fun z => c1 (by rw [z])) (fun z => c2 (by rw [z])) (fun z => c3 (by rw [z])) (fun z => c5 (by rw [z]))] at k
      refine ⟨_, rfl, fun x ix hx hix hne => ?_⟩
      have w2 := ((Owns.none H).new (o := .own x) hix).new (a := x) (o := .ins (ga K "StreamSink") ix []) (by rw [upd_ne hne.symm]; exact hx)
      refine ⟨H, _, x, ix, dm, vm, rfl, w2, hm, ?_⟩
      by_cases c : okM 3 dm = true
      · rw [if_pos c] at k ⊢
        exact fun S1 H1 u e w3 r => ⟨rfl, x, _, _, u, rfl, w3.get 0, by rfl, (by show 2 ≤ sizeLine; decide), fun p hp => k _ (.ref p) ((e.trans w3.ex).trans (Ex.new hp)) (told_k (r.up w3.ex) hp)⟩
      · rw [if_neg c] at k ⊢
        exact ask_bad3 hK k
  · refine ⟨_, rfl, rfl, _, rfl, ifF (by rfl) ⟨_, rfl, rfl, _, rfl, ifF (by rfl) ⟨_, rfl, rfl, _, rfl, ifF (by rfl) ⟨_, rfl, rfl, _, rfl, ifF (by rfl) ⟨_, rfl, rfl, _, rfl, ifT (by rfl) ?_⟩⟩⟩⟩⟩
    refine ⟨_, rfl, a, _, _, rfl, w.get 0, by rfl, _, rfl, S, l, a, dx, m, ds, vd, t, fr, d, v, rfl, w, hvd, hd', hl, hl2, ht, ?_⟩
    cases hf : dFault m d with
    | some i => rw [hf] at k; exact ask_bad1 hK k
    | none =>
      rw [hf] at k
      exact fun S1 H1 vd' e w1 r => ⟨(by show 2 ≤ sizeLine; decide), fun p hp => k _ _ vd' (.ref p) (e.trans (w1.growEx hp)) (w1.grow hp) (r.up (w1.growEx hp)) (.tup (.of upd_same) (.cons (.str "told") (.cons .non .nil)))⟩
end
end SF


namespace SF
open PySem L2
section
variable {P : Program} {w : World} {K : Fg} {mg : Str → Option Value} {base : Heap}
abbrev s_law_mix : Stmt := top 25
theorem sc_law_mix : FnScope ["_law_number", "_law_turn", "_law_once", "_law_twice"] ["_law_number", "_law_turn"] (defScope s_law_mix) := ⟨rfl, rfl, rfl, by decide +kernel, rfl, by decide +kernel, by decide +kernel⟩
theorem ok_law_mix (T : Txt K mg) {fd : FuncData} (F : FunD K "_law_mix" "_law_mix" (defArgs s_law_mix) (defBody s_law_mix) (defScope s_law_mix) [] [] (ga K "_law_mix") fd)  : FnOk P w K mg base (L2.CX P w) 1 (ga K "_law_mix") fd ["_law_number", "_law_turn"] (sp_law_mix) := by
  refine F.ok sc_law_mix (fun vs H Q E h => len_law_mix h) (fun cdv A outer s H vs Q E hr h => ?_)
  have hu := hu_of hr
  have nd := sc_law_mix.nd
  refine ⟨_, pss_cons (ps_set (i := 2) nd rfl (Or.inl rfl) (pe_op op_mod (pe_callTy call_int1 (by rfl) T.b_int (by decide +kernel) (pa_cons (pe_op op_add (pe_op op_add (pe_op op_mul (pv 0) (pe_int)) (pe_op op_mul (pv 1) (pe_int))) (pe_int)) pa_nil)) (pe_int)))
    (pss_cons (ps_set (i := 3) nd rfl (Or.inl rfl) (pe_op op_mod (pe_callTy call_int1 (by rfl) T.b_int (by decide +kernel) (pa_cons (pe_op op_add (pe_op op_add (pe_op op_mul (pv 2) (pv 2)) (pe_op op_mul (pv 1) (pe_int))) (pe_op op_fdiv (pv 2) (pe_int))) pa_nil)) (pe_int)))
    (pss_one (ps_ret (pe_op op_fdiv (pe_op op_mod (pe_callTy call_int1 (by rfl) T.b_int (by decide +kernel) (pa_cons (pe_op op_add (pe_op op_mul (pv 3) (pe_int)) (pv 2)) pa_nil)) (pe_int)) (pe_int))))), ?_⟩
  exact rd_law_mix (K := K) h

abbrev s_law_draw : Stmt := top 26
theorem sc_law_draw : FnScope ["_law_hand_here", "_law_many", "_law_cell", "_law_rest"] ["_law_hand_here", "_law_many"] (defScope s_law_draw) := ⟨rfl, rfl, rfl, by decide +kernel, rfl, by decide +kernel, by decide +kernel⟩
theorem ok_law_draw (T : Txt K mg) {fd : FuncData} (F : FunD K "_law_draw" "_law_draw" (defArgs s_law_draw) (defBody s_law_draw) (defScope s_law_draw) [] [] (ga K "_law_draw") fd) (h_law_mix : Has P w K mg base 1 "_law_mix" ["_law_number", "_law_turn"] [[]] (sp_law_mix)) : FnOk P w K mg base (L2.CX P w) 2 (ga K "_law_draw") fd ["_law_hand_here", "_law_many"] (sp_law_draw K) := by
  refine F.ok sc_law_draw (fun vs H Q E h => len_law_draw h) (fun cdv A outer s H vs Q E hr h => ?_)
  have hu := hu_of hr
  have nd := sc_law_draw.nd
  refine ⟨_, pss_cons (ps_if (PW.pt (pw_and (pt_cmpR op_eq (pe_ix ix_list (pv 0) (pe_int) (fun _ _ => rfl)) (pe_int) (nomark _)) (pw_and1 (pt_cmpR op_lt (pe_ix ix_list (pv 0) (pe_int) (fun _ _ => rfl)) (pe_callB call_len_seq (by rfl) T.b_len (by decide +kernel) (pa_cons (pe_ix ix_list (pv 0) (pe_int) (fun _ _ => rfl)) pa_nil)) (nomark _)))))
      (pss_cons (ps_set (i := 2) nd rfl (Or.inl rfl) (pe_ix ix_list (pe_ix ix_list (pv 0) (pe_int) (fun _ _ => rfl)) (pe_ix ix_list (pv 0) (pe_int) (fun _ _ => rfl)) (fun _ _ => rfl)))
        (pss_cons (ps_asg (pe_op op_add (pe_ix ix_list (pv 0) (pe_int) (fun _ _ => rfl)) (pe_int)) (pg_sub (pv 0) (pe_int) set_list))
        (pss_cons (ps_if (pt_cmpR op_lt (pv 2) (pe_op op_pow (pe_int) (pe_int)) (nomark _))
          (pss_one (ps_ret (pe_op op_mod (pe_callTy call_int1 (by rfl) T.b_int (by decide +kernel) (pa_cons (pe_has (dvs := []) h_law_mix hr passL (pa_cons (pe_op op_mod (pe_callTy call_int1 (by rfl) T.b_int (by decide +kernel) (pa_cons (pv 2) pa_nil)) (pe_int)) (pa_cons (pe_ix ix_list (pv 0) (pe_int) (fun _ _ => rfl)) pa_nil))) pa_nil)) (pv 1))))
          (pss_nil))
        (pss_one (ps_asg (pv 2) (pg_sub (pv 0) (pe_int) set_list))))))
      (pss_nil))
    (pss_cons (ps_if (pt_cmpR op_gt (pe_ix ix_list (pv 0) (pe_int) (fun _ _ => rfl)) (pe_int) (nomark _))
      (pss_cons (ps_set (i := 3) nd rfl (Or.inl rfl) (pe_ix ix_list (pv 0) (pe_int) (fun _ _ => rfl)))
        (pss_cons (ps_asg (pe_op op_fdiv (pv 3) (pv 1)) (pg_sub (pv 0) (pe_int) set_list))
        (pss_one (ps_ret (pe_op op_mod (pe_callTy call_int1 (by rfl) T.b_int (by decide +kernel) (pa_cons (pv 3) pa_nil)) (pv 1))))))
      (pss_nil))
    (pss_cons (ps_asg (pe_op op_mod (pe_callTy call_int1 (by rfl) T.b_int (by decide +kernel) (pa_cons (pe_op op_add (pe_ix ix_list (pv 0) (pe_int) (fun _ _ => rfl)) (pe_int)) pa_nil)) (pe_int)) (pg_sub (pv 0) (pe_int) set_list))
    (pss_one (ps_ret (pe_op op_mod (pe_callTy call_int1 (by rfl) T.b_int (by decide +kernel) (pa_cons (pe_has (dvs := []) h_law_mix hr passL (pa_cons (pe_ix ix_list (pv 0) (pe_int) (fun _ _ => rfl)) (pa_cons (pe_ix ix_list (pv 0) (pe_int) (fun _ _ => rfl)) pa_nil))) pa_nil)) (pv 1)))))), ?_⟩
  exact rd_law_draw (K := K) h

abbrev s_law_hand : Stmt := top 32
theorem sc_law_hand : FnScope ["_law_script", "_law_total", "_law_k", "_law_cell"] ["_law_script"] (defScope s_law_hand) := ⟨rfl, rfl, rfl, by decide +kernel, rfl, by decide +kernel, by decide +kernel⟩
theorem ok_law_hand (T : Txt K mg) {fd : FuncData} (F : FunD K "_law_hand" "_law_hand" (defArgs s_law_hand) (defBody s_law_hand) (defScope s_law_hand) [] [] (ga K "_law_hand") fd)  : FnOk P w K mg base (L2.CX P w) 1 (ga K "_law_hand") fd ["_law_script"] (sp_law_hand K) := by
  refine F.ok sc_law_hand (fun vs H Q E h => len_law_hand h) (fun cdv A outer s H vs Q E hr h => ?_)
  have hu := hu_of hr
  have nd := sc_law_hand.nd
  refine ⟨_, pss_cons (ps_set (i := 1) nd rfl (Or.inl rfl) (pe_int))
    (pss_cons (ps_for (passes_of rfl) rfl (pi_enum (by rfl) T.b_enumerate (pa_cons (pv 0) pa_nil)) (pg_tup (by rfl) (pgs_cons (pg_name (i := 2) nd rfl (Or.inl rfl)) (pgs_cons (pg_name (i := 3) nd rfl (Or.inl rfl)) pgs_nil)))
      (pss_one (ps_set (i := 1) nd rfl (Or.inl rfl) (pe_op op_mod (pe_callTy call_int1 (by rfl) T.b_int (by decide +kernel) (pa_cons (pe_op op_add (pe_op op_mul (pv 1) (pe_int)) (pe_op op_mul (pe_callTy call_int1 (by rfl) T.b_int (by decide +kernel) (pa_cons (pv 3) pa_nil)) (pe_op op_add (pv 2) (pe_int)))) pa_nil)) (pe_int)))))
    (pss_one (ps_ret (pe_lst (pa_cons (pe_lc (own := [("_law_cell", 3)]) (g := (gName 3)) (tt := tYes) rfl nd (pi_list (pv 0)) (blkOk_by (by rfl)) (fun _ _ _ _ _ => pg_name (i := 3) nd rfl (Or.inl rfl)) (fun _ _ _ _ _ => pts_nil) (fun _ _ _ _ _ => (pe_callB call_abs (by rfl) T.b_abs (by decide +kernel) (pa_cons (pe_callTy call_int1 (by rfl) T.b_int (by decide +kernel) (pa_cons (pv 3) pa_nil)) pa_nil)))) (pa_cons (pe_int) (pa_cons (pe_int) (pa_cons (pv 1) pa_nil)))))))), ?_⟩
  exact rd_law_hand (K := K) h

abbrev s_law_seq : Stmt := top 28
theorem sc_law_seq : FnScope ["_law_hand_here", "_law_row"] ["_law_hand_here", "_law_row"] (defScope s_law_seq) := ⟨rfl, rfl, rfl, by decide +kernel, rfl, by decide +kernel, by decide +kernel⟩
theorem ok_law_seq (T : Txt K mg) {fd : FuncData} (F : FunD K "_law_seq" "_law_seq" (defArgs s_law_seq) (defBody s_law_seq) (defScope s_law_seq) [] [] (ga K "_law_seq") fd) (h_law_draw : Has P w K mg base 2 "_law_draw" ["_law_hand_here", "_law_many"] [[]] (sp_law_draw K)) : FnOk P w K mg base (L2.CX P w) 3 (ga K "_law_seq") fd ["_law_hand_here", "_law_row"] (sp_law_seq K) := by
  refine F.ok sc_law_seq (fun vs H Q E h => len_law_seq h) (fun cdv A outer s H vs Q E hr h => ?_)
  have hu := hu_of hr
  have nd := sc_law_seq.nd
  refine ⟨_, pss_one (ps_ret (pe_ifExp (pt_cmpR op_eq (pe_has (dvs := []) h_law_draw hr passL (pa_cons (pv 0) (pa_cons (pe_int) pa_nil))) (pe_int) (nomark _)) (pe_callTy call_list_of (by rfl) T.b_list (by decide +kernel) (pa_cons (pv 1) pa_nil)) (pe_callTy call_tuple_of (by rfl) T.b_tuple (by decide +kernel) (pa_cons (pv 1) pa_nil)))), ?_⟩
  exact rd_law_seq (K := K) h

abbrev s_law_odd : Stmt := top 29
theorem sc_law_odd : FnScope ["_law_hand_here", "_law_low", "_law_high", "_law_way"] ["_law_hand_here", "_law_low", "_law_high"] (defScope s_law_odd) := ⟨rfl, rfl, rfl, by decide +kernel, rfl, by decide +kernel, by decide +kernel⟩
theorem ok_law_odd (T : Txt K mg) {fd : FuncData} (F : FunD K "_law_odd" "_law_odd" (defArgs s_law_odd) (defBody s_law_odd) (defScope s_law_odd) [] [] (ga K "_law_odd") fd) (h_law_draw : Has P w K mg base 2 "_law_draw" ["_law_hand_here", "_law_many"] [[]] (sp_law_draw K)) : FnOk P w K mg base (L2.CX P w) 3 (ga K "_law_odd") fd ["_law_hand_here", "_law_low", "_law_high"] (sp_law_odd K) := by
  refine F.ok sc_law_odd (fun vs H Q E h => len_law_odd h) (fun cdv A outer s H vs Q E hr h => ?_)
  have hu := hu_of hr
  have nd := sc_law_odd.nd
  refine ⟨_, pss_cons (ps_set (i := 3) nd rfl (Or.inl rfl) (pe_has (dvs := []) h_law_draw hr passL (pa_cons (pv 0) (pa_cons (pe_int) pa_nil))))
    (pss_cons (ps_if (pt_cmpR op_lt (pv 3) (pe_int) (nomark _))
      (pss_one (ps_ret (pe_ix ix_list (pe_lst (pa_cons (pe_op op_sub (pv 1) (pe_int)) (pa_cons (pe_op op_add (pv 2) (pe_int)) pa_nil))) (pv 3) (fun _ _ => rfl))))
      (pss_nil))
    (pss_cons (ps_if (pt_cmpR op_lt (pv 3) (pe_int) (nomark _))
      (pss_one (ps_ret (pe_ix ix_list (pe_lst (pa_cons (pe_op op_sub (pe_op op_sub (pe_int) (pe_op op_pow (pe_int) (pe_int))) (pe_int)) (pa_cons (pe_op op_add (pe_op op_pow (pe_int) (pe_int)) (pv 2)) pa_nil))) (pe_op op_sub (pv 3) (pe_int)) (fun _ _ => rfl))))
      (pss_nil))
    (pss_one (ps_ret (pe_ix ix_list (pe_lst (pa_cons (pe_non) (pa_cons (pe_bl) (pa_cons (pe_bl) (pa_cons (pe_callTy call_str_int (by rfl) T.b_str (by decide +kernel) (pa_cons (pv 1) pa_nil)) (pa_cons (pe_tup (pa_cons (pv 1) pa_nil)) pa_nil)))))) (pe_op op_sub (pv 3) (pe_int)) (fun _ _ => rfl)))))), ?_⟩
  exact rd_law_odd (K := K) h

abbrev s_law_put : Stmt := top 30
theorem sc_law_put : FnScope ["_law_line", "_law_frame", "_law_newest"] ["_law_line", "_law_frame"] (defScope s_law_put) := ⟨rfl, rfl, rfl, by decide +kernel, rfl, by decide +kernel, by decide +kernel⟩
theorem ok_law_put (T : Txt K mg) {fd : FuncData} (F : FunD K "_law_put" "_law_put" (defArgs s_law_put) (defBody s_law_put) (defScope s_law_put) [] [] (ga K "_law_put") fd)  : FnOk P w K mg base (L2.CX P w) 1 (ga K "_law_put") fd ["_law_line", "_law_frame"] (sp_law_put K) := by
  refine F.ok sc_law_put (fun vs H Q E h => len_law_put h) (fun cdv A outer s H vs Q E hr h => ?_)
  have hu := hu_of hr
  have nd := sc_law_put.nd
  refine ⟨_, pss_cons (ps_set (i := 2) nd rfl (Or.inl rfl) (pe_ifExp (pt_cmpR (op_neD hr.units) (pe_ix ix_tup (pv 0) (pe_int) (fun _ _ => rfl)) (pe_tup pa_nil) (nomark _)) (pe_ix ix_tup (pe_ix ix_tup (pv 0) (pe_int) (fun _ _ => rfl)) (pe_un un_neg (pe_int)) (fun _ _ => rfl)) (pe_ix ix_tup (pv 0) (pe_int) (fun _ _ => rfl))))
    (pss_one (ps_ret (pe_ifExp (pt_cmpR op_eq (pv 2) (pv 1) (nomark _)) (pv 0) (pe_tup (pa_cons (pe_ix ix_tup (pv 0) (pe_int) (fun _ _ => rfl)) (pa_cons (pe_op op_catA (pe_ix ix_tup (pv 0) (pe_int) (fun _ _ => rfl)) (pe_tup (pa_cons (pv 1) pa_nil))) pa_nil)))))), ?_⟩
  exact rd_law_put (K := K) h

abbrev s_law_whole : Stmt := top 31
theorem sc_law_whole : FnScope ["_law_thing", "_law_low", "_law_high"] ["_law_thing", "_law_low", "_law_high"] (defScope s_law_whole) := ⟨rfl, rfl, rfl, by decide +kernel, rfl, by decide +kernel, by decide +kernel⟩
theorem ok_law_whole (T : Txt K mg) {fd : FuncData} (F : FunD K "_law_whole" "_law_whole" (defArgs s_law_whole) (defBody s_law_whole) (defScope s_law_whole) [] [] (ga K "_law_whole") fd)  : FnOk P w K mg base (L2.CX P w) 1 (ga K "_law_whole") fd ["_law_thing", "_law_low", "_law_high"] (sp_law_whole K) := by
  refine F.ok sc_law_whole (fun vs H Q E h => len_law_whole h) (fun cdv A outer s H vs Q E hr h => ?_)
  have hu := hu_of hr
  have nd := sc_law_whole.nd
  refine ⟨_, pss_one (ps_ret (pe_and (pe_callB call_isi (by rfl) T.b_isinstance (by decide +kernel) (pa_cons (pv 0) (pa_cons (pe_bltn (v := .ty "int") (by rfl) T.b_int (by decide +kernel) rfl) pa_nil))) (pe_and (pe_not (pe_callB call_isi (by rfl) T.b_isinstance (by decide +kernel) (pa_cons (pv 0) (pa_cons (pe_bltn (v := .ty "bool") (by rfl) T.b_bool (by decide +kernel) rfl) pa_nil)))) (pe_one (pe_chain op_le op_le (pv 1) (pv 0) (pv 2)))))), ?_⟩
  exact rd_law_whole (K := K) h

abbrev s_law_word : Stmt := top 33
theorem sc_law_word : FnScope ["_law_m", "_law_digits", "_law_last", "_law_told", "_law_digit", "_law_frame"] ["_law_m", "_law_digits"] (defScope s_law_word) := ⟨rfl, rfl, rfl, by decide +kernel, rfl, by decide +kernel, by decide +kernel⟩
theorem ok_law_word (T : Txt K mg) {fd : FuncData} (F : FunD K "_law_word" "_law_word" (defArgs s_law_word) (defBody s_law_word) (defScope s_law_word) [] [] (ga K "_law_word") fd)  : FnOk P w K mg base (L2.CX P w) 1 (ga K "_law_word") fd ["_law_m", "_law_digits"] (sp_law_word K) := by
  refine F.ok sc_law_word (fun vs H Q E h => len_law_word h) (fun cdv A outer s H vs Q E hr h => ?_)
  have hu := hu_of hr
  have nd := sc_law_word.nd
  refine ⟨_, pss_cons (ps_set (i := 2) nd rfl (Or.inr rfl) (pe_op op_sub (pv 0) (pe_int)))
    (pss_cons (ps_set (i := 3) nd rfl (Or.inl rfl) (pe_lst pa_nil))
    (pss_cons (ps_for (passes_of rfl) rfl (pi_list (pv 1)) (pg_name (i := 4) nd rfl (Or.inl rfl))
      (pss_cons (ps_set (i := 2) nd rfl (Or.inr rfl) (pe_ix ix_list (pe_lc (own := [("_law_frame", 5)]) (g := (gName 5)) (tt := (e_law_word_1 K E)) rfl nd (pi_range1 (by rfl) T.b_range (pa_cons (pv 0) pa_nil)) (blkOk_by (by rfl)) (fun _ _ _ _ _ => pg_name (i := 5) nd rfl (Or.inl rfl)) (fun _ _ _ _ _ => (pts_one (pt_cmpR op_ne (pv 5) (pv 2) (nomark _)))) (fun _ _ _ _ _ => (pv 5))) (pv 4) (fun _ _ => rfl)))
        (pss_one (ps_expr (pe_bm PySem.F.plainAttrs_list PySem.F.slot_list_append PySem.F.type_list_append mt_append (pv 3) (pa_cons (pv 2) pa_nil))))))
    (pss_one (ps_ret (pe_callTy call_tuple_of (by rfl) T.b_tuple (by decide +kernel) (pa_cons (pv 3) pa_nil)))))), ?_⟩
  exact rd_law_word (K := K) h

abbrev s_law_read : Stmt := top 36
theorem sc_law_read : FnScope ["_law_hand_here", "_law_line", "_law_many", "_law_k"] ["_law_hand_here", "_law_line"] (defScope s_law_read) := ⟨rfl, rfl, rfl, by decide +kernel, rfl, by decide +kernel, by decide +kernel⟩
theorem ok_law_read (T : Txt K mg) {fd : FuncData} (F : FunD K "_law_read" "_law_read" (defArgs s_law_read) (defBody s_law_read) (defScope s_law_read) [] [] (ga K "_law_read") fd) (h_law_draw : Has P w K mg base 2 "_law_draw" ["_law_hand_here", "_law_many"] [[]] (sp_law_draw K)) : FnOk P w K mg base (L2.CX P w) 3 (ga K "_law_read") fd ["_law_hand_here", "_law_line"] (sp_law_read K) := by
  refine F.ok sc_law_read (fun vs H Q E h => len_law_read h) (fun cdv A outer s H vs Q E hr h => ?_)
  have hu := hu_of hr
  have nd := sc_law_read.nd
  refine ⟨_, pss_cons (ps_set (i := 2) nd rfl (Or.inl rfl) (pe_op op_add (pe_callB call_len_seq (by rfl) T.b_len (by decide +kernel) (pa_cons (pe_ix ix_tup (pv 1) (pe_int) (fun _ _ => rfl)) pa_nil)) (pe_ifExp (pt_cmpR op_isN (pe_ix ix_tup (pv 1) (pe_int) (fun _ _ => rfl)) (pe_non) (nomark _)) (pe_int) (pe_int))))
    (pss_cons (ps_if (pt_cmpR op_eq (pv 2) (pe_int) (nomark _))
      (pss_one (ps_ret (pe_non)))
      (pss_nil))
    (pss_cons (ps_set (i := 3) nd rfl (Or.inl rfl) (pe_op op_add (pe_has (dvs := []) h_law_draw hr passL (pa_cons (pv 0) (pa_cons (pv 2) pa_nil))) (pe_ifExp (pt_cmpR op_isN (pe_ix ix_tup (pv 1) (pe_int) (fun _ _ => rfl)) (pe_non) (nomark _)) (pe_int) (pe_int))))
    (pss_one (ps_ret (pe_ifExp (pt_cmpR op_eq (pv 3) (pe_int) (nomark _)) (pv 1) (pe_tup (pa_cons (pe_ix ix_tup (pe_ix ix_tup (pv 1) (pe_int) (fun _ _ => rfl)) (pe_op op_sub (pv 3) (pe_int)) (fun _ _ => rfl)) (pa_cons (pe_slice sl_tupA (pe_ix ix_tup (pv 1) (pe_int) (fun _ _ => rfl)) (po_some (pv 3)) po_none) pa_nil)))))))), ?_⟩
  exact rd_law_read (K := K) h

end
end SF


namespace SF
open PySem L2
section
variable {P : Program} {w : World} {K : Fg} {mg : Str → Option Value} {base : Heap}
abbrev s_law_exact : Stmt := top 27
theorem sc_law_exact : FnScope ["_law_told", "_law_due", "_law_k"] ["_law_told", "_law_due"] (defScope s_law_exact) := ⟨rfl, rfl, rfl, by decide +kernel, rfl, by decide +kernel, by decide +kernel⟩
theorem ok_law_exact (T : Txt K mg) {fd : FuncData} (F : FunD K "_law_exact" "_law_exact" (defArgs s_law_exact) (defBody s_law_exact) (defScope s_law_exact) [] [] (ga K "_law_exact") fd) (n d : Nat) (h_law_exact : Has P w K mg base d "_law_exact" ["_law_told", "_law_due"] [[]] (sp_law_exact K n)) : FnOk P w K mg base (L2.CX P w) (d + 1) (ga K "_law_exact") fd ["_law_told", "_law_due"] (sp_law_exact K (n + 1)) := by
  refine F.ok sc_law_exact (fun vs H Q E h => len_law_exact h) (fun cdv A outer s H vs Q E hr h => ?_)
  have hu := hu_of hr
  have nd := sc_law_exact.nd
  refine ⟨_, pss_cons (ps_if (pt_val (pe_callB call_isi (by rfl) T.b_isinstance (by decide +kernel) (pa_cons (pv 1) (pa_cons (pe_bltn (v := .ty "tuple") (by rfl) T.b_tuple (by decide +kernel) rfl) pa_nil))))
      (pss_cons (ps_if (PW.pt (pw_or (pt_not (pt_val (pe_callB call_isi (by rfl) T.b_isinstance (by decide +kernel) (pa_cons (pv 0) (pa_cons (pe_bltn (v := .ty "tuple") (by rfl) T.b_tuple (by decide +kernel) rfl) pa_nil))))) (pw_or1 (pt_cmpR op_ne (pe_callB call_len_seq (by rfl) T.b_len (by decide +kernel) (pa_cons (pv 0) pa_nil)) (pe_callB call_len_seq (by rfl) T.b_len (by decide +kernel) (pa_cons (pv 1) pa_nil)) (nomark _)))))
          (pss_one (ps_ret (pe_bl)))
          (pss_nil))
        (pss_one (ps_ret (pe_cmpR (op_eqD hr.units) (pe_lc (own := [("_law_k", 2)]) (g := (gName 2)) (tt := (e_law_exact_2 K n E)) rfl nd (pi_range1 (by rfl) T.b_range (pa_cons (pe_callB call_len_seq (by rfl) T.b_len (by decide +kernel) (pa_cons (pv 1) pa_nil)) pa_nil)) (blkOk_by (by rfl)) (fun _ _ _ _ _ => pg_name (i := 2) nd rfl (Or.inl rfl)) (fun _ _ _ _ _ => (pts_one (pt_not (pt_val (pe_has (sp := sp_law_exact K n) (dvs := []) h_law_exact hr passL (hk := Nat.le_refl _) (pa_cons (pe_ix ix_tup (pv 0) (pv 2) (fun _ _ => rfl)) (pa_cons (pe_ix ix_tup (pv 1) (pv 2) (fun _ _ => rfl)) pa_nil))))))) (fun _ _ _ _ _ => (pv 2))) (pe_lst pa_nil) (nomark _)))))
      (pss_nil))
    (pss_cons (ps_if (pt_cmpR op_isN (pv 1) (pe_non) (nomark _))
      (pss_one (ps_ret (pe_cmpR op_isN (pv 0) (pe_non) (nomark _))))
      (pss_nil))
    (pss_cons (ps_if (pt_val (pe_callB call_isi (by rfl) T.b_isinstance (by decide +kernel) (pa_cons (pv 1) (pa_cons (pe_bltn (v := .ty "bool") (by rfl) T.b_bool (by decide +kernel) rfl) pa_nil))))
      (pss_one (ps_ret (pe_ifExp (pt_truth (pv 1) (by intro _; rfl)) (pe_cmpR op_isBl (pv 0) (pe_bl) (nomark _)) (pe_cmpR op_isBl (pv 0) (pe_bl) (nomark _)))))
      (pss_nil))
    (pss_cons (ps_if (pt_val (pe_callB call_isi (by rfl) T.b_isinstance (by decide +kernel) (pa_cons (pv 1) (pa_cons (pe_bltn (v := .ty "str") (by rfl) T.b_str (by decide +kernel) rfl) pa_nil))))
      (pss_one (ps_ret (pe_and (pe_callB call_isi (by rfl) T.b_isinstance (by decide +kernel) (pa_cons (pv 0) (pa_cons (pe_bltn (v := .ty "str") (by rfl) T.b_str (by decide +kernel) rfl) pa_nil))) (pe_one (pe_cmpR op_eq (pv 0) (pv 1) (nomark _))))))
      (pss_nil))
    (pss_one (ps_ret (pe_and (pe_callB call_isi (by rfl) T.b_isinstance (by decide +kernel) (pa_cons (pv 0) (pa_cons (pe_bltn (v := .ty "int") (by rfl) T.b_int (by decide +kernel) rfl) pa_nil))) (pe_and (pe_not (pe_callB call_isi (by rfl) T.b_isinstance (by decide +kernel) (pa_cons (pv 0) (pa_cons (pe_bltn (v := .ty "bool") (by rfl) T.b_bool (by decide +kernel) rfl) pa_nil)))) (pe_one (pe_cmpR op_eq (pv 0) (pv 1) (nomark _)))))))))), ?_⟩
  exact rd_law_exact (K := K) h

theorem ok_law_exact_0 (T : Txt K mg) {fd : FuncData} (F : FunD K "_law_exact" "_law_exact" (defArgs s_law_exact) (defBody s_law_exact) (defScope s_law_exact) [] [] (ga K "_law_exact") fd) : FnOk P w K mg base (L2.CX P w) (0 + 1) (ga K "_law_exact") fd ["_law_told", "_law_due"] (sp_law_exact K 0) :=
  F.ok sc_law_exact (fun vs H Q E h => len_law_exact h) (fun cdv A outer s H vs Q E hr h => False.elim h)
end
end SF


/-! SF10: a class by its name, made with keywords. -/
namespace SF
open PySem PySem.Spec PyProof.Rows L2
/-- a class by its name, made with n values and the keywords ks -/
structure HasCK (P : Program) (w : World) (K : Fg) (mg : Str → Option Value) (base : Heap) (k : Nat) (x : Str) (ps : List Str) (n : Nat) (ks : List Str) (gV : List V → List V → List V) (sp : Sp) : Prop where
  g : mg x = some (.ref (ga K x))
  mkr : Mk K (ga K x) (He.ma K (ga K x) "__init__")
  ok : ∃ fd g, FnOk P w K mg base (L2.CX P w) k (He.ma K (ga K x) "__init__") fd ps sp ∧ KBn K fd ps (n + 1) ks g gV
section
variable {X : Cx} {x : Str} {k j n : Nat} {ps ks : List Str} {gV : List V → List V → List V} {sp : Sp} {E : XK} {e : Expr} {es : List Expr} {kws : List Keyword} {t tk : TA} {p pos : Pos}
theorem pe_hasCK (h : HasCK X.prog X.w X.K X.mg X.base k x ps n ks gV sp) (hr : Room j X.A) (hx : Passes (L2.CX X.prog X.w) X E) (ha : PA X (e :: es) t) (hkw : PK X kws tk) (hg : Gl X x := by rfl) (hk : k + 1 ≤ j := by decide)
    (hall : (backToKw pos (keywordEach kws X.env)).all (·.1.isSome) = true := by rfl) (hks : (backToKw pos (keywordEach kws X.env)).filterMap (·.1) = ks := by rfl)
    (hdb : (x == ("__debug__" : Str)) = false := by decide) (he : starEach (e :: es) X.env = (false, eval e X.env) :: starEach es X.env := by rfl)
    (hpl : ((backTo pos (starEach (e :: es) X.env)).any (·.1) || (backToKw pos (keywordEach kws X.env)).any (·.1.isNone)) = false := by rfl) :
    PE X (.Call (.Name x p) (e :: es) kws pos) (tMakeN (ga X.K x) n ks.length sp gV E t tk) := by
  obtain ⟨fd, g, F, b⟩ := h.ok
  exact pe_makeN h.mkr F (hr.mono hk) hg h.g b hx ha hkw hall hks hdb he hpl
end
end SF


namespace SF
open PySem L2
section
variable {P : Program} {w : World} {K : Fg} {mg : Str → Option Value} {base : Heap}
abbrev s_law_asked : Stmt := top 34
theorem sc_law_asked : FnScope ["_law_which", "_law_m", "_law_thing", "_law_source", "raised"] ["_law_which", "_law_m", "_law_thing", "_law_source"] (defScope s_law_asked) := ⟨rfl, rfl, rfl, by decide +kernel, rfl, by decide +kernel, by decide +kernel⟩
theorem ok_law_asked (T : Txt K mg) {fd : FuncData} (F : FunD K "_law_asked" "_law_asked" (defArgs s_law_asked) (defBody s_law_asked) (defScope s_law_asked) [] [] (ga K "_law_asked") fd) (h_count_words : Has P w K mg base 4 "count_words" ["m", "d"] [[]] (sp_count_words K)) (h_check_word : Has P w K mg base 4 "check_word" ["m", "word"] [[]] (sp_check_word K)) (h_digits_to_word : Has P w K mg base 4 "digits_to_word" ["m", "digits"] [[]] (sp_digits_to_word K)) (h_word_to_digits : Has P w K mg base 5 "word_to_digits" ["m", "word"] [[]] (sp_word_to_digits K)) (h_StreamSource_put : HasM P w K mg base 3 (ga K "StreamSource") "put" ["self", "digits"] [[]] (sp_StreamSource_put K)) (h_StreamSink___init__ : HasC P w K mg base 4 "StreamSink" ["self", "m"] [[]] (sp_StreamSink___init__ K)) (h_StreamSource___init___digits : HasCK P w K mg base 4 "StreamSource" ["self", "m", "digits"] 1 ["digits"] (fun vs zs => vs ++ zs) (sp_StreamSource___init__ K)) : FnOk P w K mg base (L2.CX P w) 6 (ga K "_law_asked") fd ["_law_which", "_law_m", "_law_thing", "_law_source"] (sp_law_asked K) := by
  refine F.ok sc_law_asked (fun vs H Q E h => len_law_asked h) (fun cdv A outer s H vs Q E hr h => ?_)
  have hu := hu_of hr
  have nd := sc_law_asked.nd
  refine ⟨_, pss_one (ps_try_asM (tb := tb_law_asked K) (l := [(.ref (ga K "BadDigits"), 4, tx_law_asked_1 K), (.ref (ga K "BadWord"), 4, tx_law_asked_2 K), (.ref (ga K "BadCount"), 4, tx_law_asked_3 K)]) (Wout := fun _ _ _ _ => False) rfl rfl nd takes0
      (fun W pn xe tk po => pss_cons (ps_if (pt_cmpR op_eq (pv 0) (pe_int) (nomark _))
          (pss_one (ps_ret (pe_tup (pa_cons (pe_str) (pa_cons (pe_has (dvs := []) h_digits_to_word hr (passEL tk) (pa_cons (pv 1) (pa_cons (pv 2) pa_nil))) pa_nil)))))
          (pss_nil))
        (pss_cons (ps_if (pt_cmpR op_eq (pv 0) (pe_int) (nomark _))
          (pss_one (ps_ret (pe_tup (pa_cons (pe_str) (pa_cons (pe_has (dvs := []) h_word_to_digits hr (passEL tk) (pa_cons (pv 1) (pa_cons (pv 2) pa_nil))) pa_nil)))))
          (pss_nil))
        (pss_cons (ps_if (pt_cmpR op_eq (pv 0) (pe_int) (nomark _))
          (pss_one (ps_ret (pe_tup (pa_cons (pe_str) (pa_cons (pe_has (dvs := []) h_check_word hr (passEL tk) (pa_cons (pv 1) (pa_cons (pv 2) pa_nil))) pa_nil)))))
          (pss_nil))
        (pss_cons (ps_if (pt_cmpR op_eq (pv 0) (pe_int) (nomark _))
          (pss_one (ps_ret (pe_tup (pa_cons (pe_str) (pa_cons (pe_has (dvs := []) h_count_words hr (passEL tk) (pa_cons (pv 1) (pa_cons (pv 2) pa_nil))) pa_nil)))))
          (pss_nil))
        (pss_cons (ps_if (pt_cmpR op_eq (pv 0) (pe_int) (nomark _))
          (pss_one (ps_ret (pe_tup (pa_cons (pe_str) (pa_cons (pe_hasM (dvs := []) h_StreamSource_put hr (passEL tk) (pv 3) (pa_cons (pv 2) pa_nil)) pa_nil)))))
          (pss_nil))
        (pss_one (ps_ret (pe_tup (pa_cons (pe_str) (pa_cons (pe_ifExp (pt_cmpR op_eq (pv 0) (pe_int) (nomark _)) (pe_fldC (pe_hasCK h_StreamSource___init___digits hr (passEL tk) (pa_cons (pv 1) pa_nil) (pk_cons (pv 2) pk_nil)) T.cl_StreamSource T.na_StreamSource_digits) (pe_fldC (pe_hasC (dvs := []) h_StreamSink___init__ hr (passEL tk) (pa_cons (pv 1) pa_nil)) T.cl_StreamSink T.na_StreamSink_digits)) pa_nil))))))))))
      (HdsAs.cons rfl rfl ⟨rfl, by decide, Or.inl T.g_BadDigits⟩ (fun a oe cls d pn hz hf => pss_one (ps_ret (pe_tup (pa_cons (pe_str) (pa_cons (pe_xf T.xf_BadDigits T.no_BadDigits_at hz hf (pv 4)) pa_nil))))) 
      (HdsAs.cons rfl rfl ⟨rfl, by decide, Or.inl T.g_BadWord⟩ (fun a oe cls d pn hz hf => pss_one (ps_ret (pe_tup (pa_cons (pe_str) (pa_cons (pe_xf T.xf_BadWord T.no_BadWord_at hz hf (pv 4)) pa_nil))))) 
      (HdsAs.cons rfl rfl ⟨rfl, by decide, Or.inl T.g_BadCount⟩ (fun a oe cls d pn hz hf => pss_one (ps_ret (pe_tup (pa_cons (pe_str) (pa_cons (pe_xf T.xf_BadCount T.no_BadCount_most hz hf (pv 4)) pa_nil))))) HdsAs.nil)))), ?_⟩
  exact rd_law_asked (K := K) h

end
end SF

/-! P75c: what _law_words, _law_kept_up, _law_step promise (k75). -/
namespace SF
open PySem L2
def sp_law_words (K : Fg) : Sp := fun vs H Q _ => ∃ S l a c o cs, vs = [.ref a] ∧ Owns S H ((a, o) :: l) ∧ IsHand c o ∧ S c = some (lstI cs) ∧ excOk75 K ∧ ∀ H', Q (.bl true) H'
theorem len_law_words {K vs H Q E} (h : sp_law_words K vs H Q E) : vs.length = 1 := by obtain ⟨_, _, _, _, _, _, rfl, _⟩ := h; rfl
end SF


namespace SF
open PySem L2
abbrev e_law_words_1 (K : Fg) (E : XK) : TE := (fun σ H Q => ∃ v1, σ[0]? = some (some v1) ∧ sp_law_draw K [v1, (V.int 5)] H (fun x1 h1 => oAdd (V.int 2) x1 h1 Q) E0)
abbrev e_law_words_2 (K : Fg) (E : XK) : TE := (fun σ H Q => ∃ v3, σ[0]? = some (some v3) ∧ ∃ v4, σ[1]? = some (some v4) ∧ oSub v4 (V.int 1) H (fun x3 h3 => sp_law_draw K [v3, x3] h3 Q E0))
abbrev e_law_words_3 (K : Fg) (E : XK) : TE := (fun σ H Q => ∃ v5, σ[1]? = some (some v5) ∧ ∃ v6, σ[2]? = some (some v6) ∧ sp_law_word K [v5, v6] H Q E0)
abbrev e_law_words_4 (K : Fg) (E : XK) : TT := (fun σ H Q => ∃ v7, σ[1]? = some (some v7) ∧ ∃ v8, σ[0]? = some (some v8) ∧ ∃ v9, σ[2]? = some (some v9) ∧ sp_law_seq K [v8, v9] H (fun x4 h4 => sp_law_asked K [(V.int 0), v7, x4, V.non] h4 (fun x5 h5 => ∃ v10, σ[3]? = some (some v10) ∧ 2 ≤ sizeLine ∧ ∀ p1, h5 p1 = none → sp_law_exact K 4 [x5, (V.ref p1)] (upd h5 p1 (.tup [(V.str "told"), v10])) (fun x6 h6 => ∃ c1, x6 = .bl c1 ∧ Q (!c1) h6) E0) E0) E0)
abbrev e_law_words_5 (K : Fg) (E : XK) : TT := (fun σ H Q => ∃ v11, σ[1]? = some (some v11) ∧ ∃ v12, σ[0]? = some (some v12) ∧ ∃ v13, σ[3]? = some (some v13) ∧ sp_law_seq K [v12, v13] H (fun x7 h7 => sp_law_asked K [(V.int 1), v11, x7, V.non] h7 (fun x8 h8 => ∃ v14, σ[2]? = some (some v14) ∧ rTupQ K [v14] h8 (fun x9 h9 => 2 ≤ sizeLine ∧ ∀ p2, h9 p2 = none → sp_law_exact K 4 [x8, (V.ref p2)] (upd h9 p2 (.tup [(V.str "told"), x9])) (fun x10 h10 => ∃ c2, x10 = .bl c2 ∧ Q (!c2) h10) E0)) E0) E0)
abbrev e_law_words_6 (K : Fg) (E : XK) : TT := (fun σ H Q => ∃ v15, σ[1]? = some (some v15) ∧ ∃ v16, σ[0]? = some (some v16) ∧ ∃ v17, σ[3]? = some (some v17) ∧ sp_law_seq K [v16, v17] H (fun x11 h11 => sp_law_asked K [(V.int 2), v15, x11, V.non] h11 (fun x12 h12 => ∃ v18, σ[3]? = some (some v18) ∧ 2 ≤ sizeLine ∧ ∀ p3, h12 p3 = none → sp_law_exact K 4 [x12, (V.ref p3)] (upd h12 p3 (.tup [(V.str "told"), v18])) (fun x13 h13 => ∃ c3, x13 = .bl c3 ∧ Q (!c3) h13) E0) E0) E0)
abbrev e_law_words_7 (K : Fg) (E : XK) : TE := (fun σ H Q => ∃ v20, σ[4]? = some (some v20) ∧ ∃ v21, σ[1]? = some (some v21) ∧ oSub v21 (V.int 1) H (fun x14 h14 => oMul v20 x14 h14 Q))
abbrev e_law_words_8 (K : Fg) (E : XK) : TT := (fun σ H Q => ∃ v22, σ[1]? = some (some v22) ∧ ∃ v23, σ[2]? = some (some v23) ∧ rLenQ K [v23] H (fun x15 h15 => sp_law_asked K [(V.int 3), v22, x15, V.non] h15 (fun x16 h16 => ∃ v24, σ[4]? = some (some v24) ∧ 2 ≤ sizeLine ∧ ∀ p4, h16 p4 = none → sp_law_exact K 4 [x16, (V.ref p4)] (upd h16 p4 (.tup [(V.str "told"), v24])) (fun x17 h17 => ∃ c4, x17 = .bl c4 ∧ Q (!c4) h17) E0) E0))
abbrev e_law_words_9 (K : Fg) (E : XK) : TE := (fun σ H Q => ∃ v25, σ[0]? = some (some v25) ∧ sp_law_draw K [v25, (V.int 65)] H Q E0)
abbrev e_law_words_10 (K : Fg) (E : XK) : TE := (fun σ H Q => ∃ v27, σ[4]? = some (some v27) ∧ ∃ v28, σ[1]? = some (some v28) ∧ oSub v28 (V.int 1) H (fun x18 h18 => oMul v27 x18 h18 Q))
abbrev e_law_words_11 (K : Fg) (E : XK) : TT := (fun σ H Q => ∃ v29, σ[1]? = some (some v29) ∧ ∃ v30, σ[6]? = some (some v30) ∧ sp_law_asked K [(V.int 3), v29, v30, V.non] H (fun x19 h19 => ∃ v31, σ[4]? = some (some v31) ∧ 2 ≤ sizeLine ∧ ∀ p5, h19 p5 = none → sp_law_exact K 4 [x19, (V.ref p5)] (upd h19 p5 (.tup [(V.str "told"), v31])) (fun x20 h20 => ∃ c5, x20 = .bl c5 ∧ Q (!c5) h20) E0) E0)
abbrev e_law_words_12 (K : Fg) (E : XK) : TT := (fun σ H Q => ∃ v32, σ[1]? = some (some v32) ∧ ∃ v33, σ[0]? = some (some v33) ∧ sp_law_odd K [v33, (V.int 0), (V.int 64)] H (fun x21 h21 => sp_law_asked K [(V.int 3), v32, x21, V.non] h21 (fun x22 h22 => 2 ≤ sizeLine ∧ ∀ p6, h22 p6 = none → sp_law_exact K 4 [x22, (V.ref p6)] (upd h22 p6 (.tup [(V.str "count"), (V.int 64)])) (fun x23 h23 => ∃ c6, x23 = .bl c6 ∧ Q (!c6) h23) E0) E0) E0)
abbrev e_law_words_13 (K : Fg) (E : XK) : TE := (fun σ H Q => ∃ v34, σ[0]? = some (some v34) ∧ ∃ v35, σ[2]? = some (some v35) ∧ rLenQ K [v35] H (fun x24 h24 => oAdd x24 (V.int 1) h24 (fun x25 h25 => sp_law_draw K [v34, x25] h25 Q E0)))
abbrev e_law_words_14 (K : Fg) (E : XK) : TE := (fun σ H Q => ∃ v36, σ[2]? = some (some v36) ∧ ∃ v37, σ[8]? = some (some v37) ∧ ∃ i1, v37 = .int i1 ∧ rSlL K v36 none (some i1) H (fun x26 h26 => ∃ v38, σ[1]? = some (some v38) ∧ oSub v38 (V.int 1) h26 (fun x27 h27 => rNeg (V.int 1) h27 (fun x28 h28 => 5 ≤ sizeLine ∧ ∀ p8, h28 p8 = none → ∃ v39, σ[0]? = some (some v39) ∧ sp_law_draw K [v39, (V.int 5)] (upd h28 p8 (.lst [x27, x28, (V.bl true), V.non, (V.str "0")])) (fun x29 h29 => rIxL K (V.ref p8) x29 h29 (fun x30 h30 => 1 ≤ sizeLine ∧ ∀ p7, h30 p7 = none → rCat x26 (V.ref p7) (upd h30 p7 (.lst [x30])) (fun x31 h31 => ∃ v40, σ[2]? = some (some v40) ∧ ∃ v41, σ[8]? = some (some v41) ∧ ∃ i2, v41 = .int i2 ∧ rSlL K v40 (some i2) none h31 (fun x32 h32 => rCat x31 x32 h32 Q)))) E0))))
abbrev e_law_words_15 (K : Fg) (E : XK) : TT := (fun σ H Q => ∃ v42, σ[1]? = some (some v42) ∧ ∃ v43, σ[9]? = some (some v43) ∧ sp_law_asked K [(V.int 0), v42, v43, V.non] H (fun x33 h33 => ∃ v44, σ[8]? = some (some v44) ∧ 2 ≤ sizeLine ∧ ∀ p9, h33 p9 = none → sp_law_exact K 4 [x33, (V.ref p9)] (upd h33 p9 (.tup [(V.str "digits"), v44])) (fun x34 h34 => ∃ c7, x34 = .bl c7 ∧ Q (!c7) h34) E0) E0)
abbrev e_law_words_16 (K : Fg) (E : XK) : TT := (fun σ H Q => ∃ v45, σ[1]? = some (some v45) ∧ oGt v45 (V.int 2) H (fun x35 h35 => ∃ c8, x35 = .bl c8 ∧ if c8 = true then ∃ v46, σ[1]? = some (some v46) ∧ ∃ v47, σ[9]? = some (some v47) ∧ sp_law_asked K [(V.int 5), v46, v47, V.non] h35 (fun x36 h36 => ∃ v48, σ[8]? = some (some v48) ∧ 2 ≤ sizeLine ∧ ∀ p10, h36 p10 = none → sp_law_exact K 4 [x36, (V.ref p10)] (upd h36 p10 (.tup [(V.str "digits"), v48])) (fun x37 h37 => ∃ c9, x37 = .bl c9 ∧ Q (!c9) h37) E0) E0 else Q false h35))
abbrev e_law_words_17 (K : Fg) (E : XK) : TT := (fun σ H Q => ∃ v49, σ[0]? = some (some v49) ∧ sp_law_draw K [v49, (V.int 4)] H (fun x38 h38 => oAdd (V.int 3) x38 h38 (fun x39 h39 => 3 ≤ sizeLine ∧ ∀ p11, h39 p11 = none → ∃ v50, σ[0]? = some (some v50) ∧ sp_law_draw K [v50, (V.int 3)] (upd h39 p11 (.lst [V.non, (V.str "01"), (V.int 3)])) (fun x40 h40 => rIxL K (V.ref p11) x40 h40 (fun x41 h41 => sp_law_asked K [(V.int 5), x39, x41, V.non] h41 (fun x42 h42 => rNeg (V.int 1) h42 (fun x43 h43 => 2 ≤ sizeLine ∧ ∀ p12, h43 p12 = none → sp_law_exact K 4 [x42, (V.ref p12)] (upd h43 p12 (.tup [(V.str "digits"), x43])) (fun x44 h44 => ∃ c10, x44 = .bl c10 ∧ Q (!c10) h44) E0)) E0)) E0)) E0)
abbrev e_law_words_18 (K : Fg) (E : XK) : TE := (fun σ H Q => ∃ v51, σ[8]? = some (some v51) ∧ oGt v51 (V.int 0) H (fun x45 h45 => ∃ c11, x45 = .bl c11 ∧ if c11 = true then ∃ v52, σ[3]? = some (some v52) ∧ ∃ v53, σ[8]? = some (some v53) ∧ oSub v53 (V.int 1) h45 (fun x46 h46 => rIxT K v52 x46 h46 Q) else ∃ v54, σ[1]? = some (some v54) ∧ oSub v54 (V.int 1) h45 Q))
abbrev e_law_words_19 (K : Fg) (E : XK) : TE := (fun σ H Q => ∃ v55, σ[3]? = some (some v55) ∧ ∃ v56, σ[8]? = some (some v56) ∧ ∃ i3, v56 = .int i3 ∧ rSlA K v55 none (some i3) H (fun x47 h47 => ∃ v57, σ[10]? = some (some v57) ∧ ∃ v58, σ[1]? = some (some v58) ∧ rNeg (V.int 1) h47 (fun x48 h48 => 5 ≤ sizeLine ∧ ∀ p14, h48 p14 = none → ∃ v59, σ[0]? = some (some v59) ∧ sp_law_draw K [v59, (V.int 5)] (upd h48 p14 (.lst [v57, v58, x48, V.non, (V.bl false)])) (fun x49 h49 => rIxL K (V.ref p14) x49 h49 (fun x50 h50 => 1 ≤ sizeLine ∧ ∀ p13, h50 p13 = none → rCatA K x47 (V.ref p13) (upd h50 p13 (.tup [x50])) (fun x51 h51 => ∃ v60, σ[3]? = some (some v60) ∧ ∃ v61, σ[8]? = some (some v61) ∧ ∃ i4, v61 = .int i4 ∧ rSlA K v60 (some i4) none h51 (fun x52 h52 => rCatA K x51 x52 h52 Q)))) E0)))
abbrev e_law_words_20 (K : Fg) (E : XK) : TT := (fun σ H Q => ∃ v62, σ[0]? = some (some v62) ∧ sp_law_draw K [v62, (V.int 2)] H (fun x53 h53 => oAdd (V.int 1) x53 h53 (fun x54 h54 => ∃ v63, σ[1]? = some (some v63) ∧ ∃ v64, σ[11]? = some (some v64) ∧ sp_law_asked K [x54, v63, v64, V.non] h54 (fun x55 h55 => ∃ v65, σ[8]? = some (some v65) ∧ 2 ≤ sizeLine ∧ ∀ p15, h55 p15 = none → sp_law_exact K 4 [x55, (V.ref p15)] (upd h55 p15 (.tup [(V.str "word"), v65])) (fun x56 h56 => ∃ c12, x56 = .bl c12 ∧ Q (!c12) h56) E0) E0)) E0)
abbrev e_law_words_21 (K : Fg) (E : XK) : TE := (fun σ H Q => ∃ v66, σ[0]? = some (some v66) ∧ sp_law_draw K [v66, (V.int 3)] H Q E0)
abbrev e_law_words_22 (K : Fg) (E : XK) : TT := (fun σ H Q => ∃ v67, σ[12]? = some (some v67) ∧ ∃ v68, σ[1]? = some (some v68) ∧ 3 ≤ sizeLine ∧ ∀ p16, H p16 = none → ∃ v69, σ[0]? = some (some v69) ∧ sp_law_draw K [v69, (V.int 3)] (upd H p16 (.lst [V.non, (V.str "01"), (V.int 3)])) (fun x57 h57 => rIxL K (V.ref p16) x57 h57 (fun x58 h58 => sp_law_asked K [v67, v68, x58, V.non] h58 (fun x59 h59 => (fun R1 => ∃ v70, σ[12]? = some (some v70) ∧ rEq v70 (V.int 0) h59 (fun x60 h60 => ∃ c14, x60 = .bl c14 ∧ if c14 = true then R1 (V.str "digits") h60 else R1 (V.str "word") h60)) (fun x61 h61 => rNeg (V.int 1) h61 (fun x62 h62 => 2 ≤ sizeLine ∧ ∀ p17, h62 p17 = none → sp_law_exact K 4 [x59, (V.ref p17)] (upd h62 p17 (.tup [x61, x62])) (fun x63 h63 => ∃ c13, x63 = .bl c13 ∧ Q (!c13) h63) E0))) E0)) E0)
abbrev e_law_words_23 (K : Fg) (E : XK) : TE := (fun σ H Q => ∃ v71, σ[0]? = some (some v71) ∧ sp_law_draw K [v71, (V.int 7)] H Q E0)
abbrev e_law_words_24 (K : Fg) (E : XK) : TT := (fun σ H Q => ∃ v72, σ[12]? = some (some v72) ∧ rEq v72 (V.int 4) H (fun x64 h64 => ∃ c15, x64 = .bl c15 ∧ Q c15 h64))
abbrev e_law_words_25 (K : Fg) (E : XK) : TE := (fun σ H Q => ∃ v73, σ[12]? = some (some v73) ∧ ∃ v74, σ[0]? = some (some v74) ∧ (fun R2 => ∃ v75, σ[12]? = some (some v75) ∧ oLt v75 (V.int 4) H (fun x65 h65 => ∃ c16, x65 = .bl c16 ∧ if c16 = true then R2 (V.int 2) h65 else R2 (V.int 3) h65)) (fun x66 h66 => sp_law_odd K [v74, x66, (V.int 6)] h66 (fun x67 h67 => sp_law_asked K [v73, x67, (V.str "a"), V.non] h67 (fun x68 h68 => 2 ≤ sizeLine ∧ ∀ p18, h68 p18 = none → sp_law_exact K 4 [x68, (V.ref p18)] (upd h68 p18 (.tup [(V.str "count"), (V.int 6)])) Q E0) E0) E0))
def t_law_words_1 (K : Fg) (E : XK) : TS :=
    tSeq (tAsg (e_law_words_23 K E) (gName 12))
    (tSeq (tIfS (e_law_words_24 K E)
      (tRet (fun σ H Q => Q (V.bl true) H))
      (tNext))
    (tRet (e_law_words_25 K E)))
def t_law_words_2 (K : Fg) (E : XK) : TS :=
    tSeq (tAsg (e_law_words_21 K E) (gName 12))
    (tSeq (tIfS (e_law_words_22 K E)
      (tRet (fun σ H Q => Q (V.bl false) H))
      (tNext))
    (t_law_words_1 K E))
def t_law_words_3 (K : Fg) (E : XK) : TS :=
    tSeq (tAsg (e_law_words_18 K E) (gName 10))
    (tSeq (tAsg (e_law_words_19 K E) (gName 11))
    (tSeq (tIfS (e_law_words_20 K E)
      (tRet (fun σ H Q => Q (V.bl false) H))
      (tNext))
    (t_law_words_2 K E)))
def t_law_words_4 (K : Fg) (E : XK) : TS :=
    tSeq (tIfS (e_law_words_16 K E)
      (tRet (fun σ H Q => Q (V.bl false) H))
      (tNext))
    (tSeq (tIfS (e_law_words_17 K E)
      (tRet (fun σ H Q => Q (V.bl false) H))
      (tNext))
    (t_law_words_3 K E))
def t_law_words_5 (K : Fg) (E : XK) : TS :=
    tSeq (tAsg (e_law_words_13 K E) (gName 8))
    (tSeq (tAsg (e_law_words_14 K E) (gName 9))
    (tSeq (tIfS (e_law_words_15 K E)
      (tRet (fun σ H Q => Q (V.bl false) H))
      (tNext))
    (t_law_words_4 K E)))
def t_law_words_6 (K : Fg) (E : XK) : TS :=
    tSeq (tAsg (e_law_words_9 K E) (gName 6))
    (tSeq (tAsg (fun σ H Q => Q (V.int 1) H) (gName 4))
    (tSeq (tFor (fun σ H R => ∃ v26, σ[6]? = some (some v26) ∧ ∃ j : Int, [v26] = [.int j] ∧ -(2 ^ 62) ≤ j ∧ j < 2 ^ 62 ∧ R (Itr 0 j.toNat) H) (gName 7)
      (tAsg (e_law_words_10 K E) (gName 4)))
    (tSeq (tIfS (e_law_words_11 K E)
      (tRet (fun σ H Q => Q (V.bl false) H))
      (tNext))
    (tSeq (tIfS (e_law_words_12 K E)
      (tRet (fun σ H Q => Q (V.bl false) H))
      (tNext))
    (t_law_words_5 K E)))))
def t_law_words_7 (K : Fg) (E : XK) : TS :=
    tSeq (tAsg (fun σ H Q => Q (V.int 1) H) (gName 4))
    (tSeq (tFor (fun σ H R => ∃ v19, σ[2]? = some (some v19) ∧ ∃ a, v19 = .ref a ∧ (∃ xs, SqL K H a xs) ∧ R (Itl K a) H) (gName 5)
      (tAsg (e_law_words_7 K E) (gName 4)))
    (tSeq (tIfS (e_law_words_8 K E)
      (tRet (fun σ H Q => Q (V.bl false) H))
      (tNext))
    (t_law_words_6 K E)))
def t_law_words_8 (K : Fg) (E : XK) : TS :=
    tSeq (tIfS (e_law_words_5 K E)
      (tRet (fun σ H Q => Q (V.bl false) H))
      (tNext))
    (tSeq (tIfS (e_law_words_6 K E)
      (tRet (fun σ H Q => Q (V.bl false) H))
      (tNext))
    (t_law_words_7 K E))
def t_law_words (K : Fg) (E : XK) : TS :=
    tSeq (tAsg (e_law_words_1 K E) (gName 1))
    (tSeq (tAsg (tLc (fun σ H R => ∃ v2, σ[0]? = some (some v2) ∧ sp_law_draw K [v2, (V.int 25)] H (fun x2 h2 => ∃ j : Int, [x2] = [.int j] ∧ -(2 ^ 62) ≤ j ∧ j < 2 ^ 62 ∧ R (Itr 0 j.toNat) h2) E0) (gName 7) tYes (e_law_words_2 K E) [7]) (gName 2))
    (tSeq (tAsg (e_law_words_3 K E) (gName 3))
    (tSeq (tIfS (e_law_words_4 K E)
      (tRet (fun σ H Q => Q (V.bl false) H))
      (tNext))
    (t_law_words_8 K E))))

end SF

/-! R75l: what _law_words asks, in plain data; helpers of its reading. -/
namespace SF
open PySem L2
theorem fb_ne {l d : Int} : fb l d ≠ l := by unfold fb; split <;> omega
theorem db_fb {l d : Int} : db l (fb l d) = d := by
  unfold fb db; split
  · rfl
  · rw [if_neg (by omega)]; omega
theorem unspell_spell : ∀ (ds : List Int) (l : Int), unspell l (spell l ds) = ds
  | [], l => rfl
  | d :: r, l => by
    show db l (fb l d) :: unspell (fb l d) (spell (fb l d) r) = d :: r
    rw [db_fb, unspell_spell]
theorem wScan_spell {m : Int} : ∀ (ds : List Int) (l : Int) (i : Nat) (r : List PyData), (∀ d ∈ ds, 0 ≤ d ∧ d ≤ m - 2) → wScan m l i ((spell l ds).map .int ++ r) = wScan m ((spell l ds).getLastD l) (i + ds.length) r
  | [], l, i, r, _ => rfl
  | d :: ds, l, i, r, h => by
    have hd := h d List.mem_cons_self
    have q := fb_in (l := l) hd.1 hd.2
    show wScan m l i (.int (fb l d) :: ((spell (fb l d) ds).map .int ++ r)) = _
    rw [wScan_int, if_pos (by simp only [Bool.and_eq_true, decide_eq_true_eq, Bool.not_eq_true', decide_eq_false_iff_not]; exact ⟨q.1, by omega, fb_ne⟩), wScan_spell ds (fb l d) (i + 1) r fun x hx => h x (List.mem_cons_of_mem _ hx)]
    have e : (spell l (d :: ds)).getLastD l = (spell (fb l d) ds).getLastD (fb l d) := by
      show (fb l d :: spell (fb l d) ds).getLastD l = _
      rw [List.getLastD_cons]
    rw [e, List.length_cons]
    congr 1
    omega
theorem wFault_spell {m : Int} {ds : List Int} {d : PyData} (hs : isSeqD d = true) (hi : itemsD d = (spell (m - 1) ds).map .int) (h : ∀ d ∈ ds, 0 ≤ d ∧ d ≤ m - 2) : wFault m d = none := by
  unfold wFault
  rw [if_pos hs, hi]
  have := wScan_spell (m := m) ds (m - 1) 0 [] h
  rw [List.append_nil] at this
  rw [this]
  rfl
/-- an item that no frame may be behind last -/
def wBad (m last : Int) : PyData → Bool
  | .int x => !(decide (0 ≤ x) && (decide (x ≤ m - 1) && !decide (x = last)))
  | _ => true
theorem wScan_bad {m l : Int} {i : Nat} {d : PyData} {r : List PyData} (h : wBad m l d = true) : wScan m l i (d :: r) = some i := by
  cases d with
  | int x =>
    rw [wScan_int]
    have h' : (decide (0 ≤ x) && (decide (x ≤ m - 1) && !decide (x = l))) = false := by
      unfold wBad at h
      rw [Bool.not_eq_true'] at h
      exact h
    rw [h']; rfl
  | _ => rfl
theorem wFault_bad {m : Int} {ds : List Int} {d : PyData} {r : List PyData} (h : ∀ d ∈ ds, 0 ≤ d ∧ d ≤ m - 2) (hb : wBad m ((spell (m - 1) ds).getLastD (m - 1)) d = true) :
    wFault m (.tuple ((spell (m - 1) ds).map .int ++ [d] ++ r)) = some ((ds.length : Nat) : Int) := by
  show (wScan m (m - 1) 0 ((spell (m - 1) ds).map .int ++ [d] ++ r)).map Int.ofNat = _
  rw [List.append_assoc, wScan_spell ds (m - 1) 0 _ h, List.singleton_append, wScan_bad hb, Nat.zero_add]
  rfl
theorem dFault_ok {m : Int} {ds : List Int} {d : PyData} (hs : isSeqD d = true) (hi : itemsD d = ds.map .int) (h : ∀ d ∈ ds, 0 ≤ d ∧ d ≤ m - 2) : dFault m d = none := by
  unfold dFault
  rw [if_pos hs, hi, firstNot_all.mpr]
  · rfl
  · intro e he
    obtain ⟨x, hx, rfl⟩ := List.mem_map.mp he
    have := h x hx
    unfold isWholeD
    simp only [Bool.and_eq_true, decide_eq_true_eq]
    exact this
theorem dFault_bad {m : Int} {ds : List Int} {d : PyData} {r : List PyData} (h : ∀ d ∈ ds, 0 ≤ d ∧ d ≤ m - 2) (hb : isWholeD (some 0) (some (m - 2)) d = false) :
    dFault m (.list (ds.map .int ++ [d] ++ r)) = some ((ds.length : Nat) : Int) := by
  show (firstNot _ (ds.map .int ++ [d] ++ r)).map Int.ofNat = _
  have hg : (ds.map PyData.int ++ [d] ++ r)[ds.length]? = some d := by
    rw [List.append_assoc, List.getElem?_append_right (by simp)]; simp
  rw [firstNot_some hg hb fun j hj e he => ?_]
  · rfl
  · rw [List.append_assoc, List.getElem?_append_left (by simpa using hj), List.getElem?_map] at he
    obtain ⟨x, hx, rfl⟩ := Option.map_eq_some_iff.mp he
    have := h x (List.mem_of_getElem? hx)
    unfold isWholeD
    simp only [Bool.and_eq_true, decide_eq_true_eq]
    exact this
theorem dFault_odd {m : Int} {d : PyData} (h : isSeqD d = false) : dFault m d = some (-1) := by unfold dFault; rw [h]; rfl
theorem wFault_odd {m : Int} {d : PyData} (h : isSeqD d = false) : wFault m d = some (-1) := by unfold wFault; rw [h]; rfl
theorem exOks_ints {n : Nat} : ∀ ns : List Int, exOks n (ns.map .int) = true
  | [] => rfl
  | i :: r => by show (exOk n (.int i) && exOks n (r.map .int)) = true; rw [exOks_ints r]; simp [exOk]
theorem exOk_told {ns : List Int} (h : ns.length ≤ 100000) : exOk 3 (.tuple [.str "told", tupI ns]) = true := by
  unfold tupI
  simp [exOk, exOks, exOks_ints, h, show PyData.strOk "told" = true from by decide +kernel]
theorem exOk_toldI {i : Int} : exOk 3 (.tuple [.str "told", .int i]) = true := by
  simp [exOk, exOks, show PyData.strOk "told" = true from by decide +kernel]
theorem exOk_err {z : Str} {i : Int} (h : PyData.strOk z = true) : exOk 3 (.tuple [.str z, .int i]) = true := by
  simp [exOk, exOks, h]
theorem askD_bad {which : Int} {dm d : PyData} (h : which < 4 → okM 2 dm = false) (h' : 4 ≤ which → okM 3 dm = false) : askD which dm d = errD "count" 6 := by
  rcases Int.lt_or_le which 4 with c | c
  · have := h c
    unfold askD
    rw [this]
    by_cases c0 : which = 0
    · rw [if_pos c0]; rfl
    rw [if_neg c0]
    by_cases c0 : which = 1
    · rw [if_pos c0]; rfl
    rw [if_neg c0]
    by_cases c0 : which = 2
    · rw [if_pos c0]; rfl
    rw [if_neg c0]
    by_cases c0 : which = 3
    · rw [if_pos c0]; rfl
    rw [if_neg c0]
    by_cases c5 : which = 5
    · omega
    rw [if_neg c5]
    have : okM 3 dm = false := by
      cases dm <;> first | rfl | skip
      rename_i i
      unfold okM isWholeD at this ⊢
      simp only [Bool.and_eq_false_iff, decide_eq_false_iff_not] at this ⊢
      omega
    rw [this]; rfl
  · have := h' c
    unfold askD
    rw [if_neg (by omega), if_neg (by omega), if_neg (by omega), if_neg (by omega), this]
    split <;> rfl
section
variable {K : Fg} {S H : Hp} {L : List (Addr × HO)} {Q : VK} {E : XK} {vs : List V} {ds : List PyData} {p : Addr} {x : Int}
theorem pick_of (w : Owns S H L) (hp : S p = some (.lst vs)) (hr : Rks K S ds vs) (x0 : 0 ≤ x) (x1 : x < ds.length) (k : ∀ d v, d ∈ ds → Rk K S d v → Q v H) : rIxL K (.ref p) (.int x) H Q := by
  have hl := hr.length
  obtain ⟨v, hv⟩ := some_at (l := vs) (i := x.toNat) (by omega)
  obtain ⟨d, hd, r⟩ := hr.get' hv
  exact ⟨p, vs, x, v, rfl, rfl, .of (w.ex _ _ hp), at_int x0 hv, k d v (List.mem_of_getElem? hd) r⟩
theorem ask_eq {which : Int} {dm d r : PyData} {vm v : V} (w : Owns S H L) (hK : excOk75 K) (hn : which ≠ 4) (hm : Rk K S dm vm) (hd : Rk K S d v) (hl : (itemsD d).length ≤ 10000) (he : askD which dm d = r)
    (k : ∀ H' u, Owns S H' L → Rk K H' r u → Q u H') : sp_law_asked K [.int which, vm, v, .non] H Q E :=
  ⟨S, L, which, vm, v, .non, rfl, w, hK, .inl ⟨hn, dm, d, hm, hd, hl, fun H' u e r' => k H' u (w.call e) (he ▸ r')⟩⟩
theorem exact_is {z : Str} {e : PyData} {y u : V} (w : Owns S H L) (hx : Rk K H (.tuple [.str z, e]) u) (hy : Rk K H e y) (ho : exOk 3 (.tuple [.str z, e]) = true) (k : ∀ H', Owns S H' L → Q (.bl true) H') :
    2 ≤ sizeLine ∧ ∀ p, H p = none → sp_law_exact K 4 [u, .ref p] (upd H p (.tup [.str z, y])) Q E :=
  ⟨by show 2 ≤ sizeLine; decide, fun p hp => ⟨_, u, .ref p, rfl, hx.up (Ex.new hp), .tup (.of upd_same) (.cons (.str z) (.cons (hy.up (Ex.new hp)) .nil)), ho, fun H' e => k H' ((w.call (Ex.new hp)).call e)⟩⟩
theorem slA_take {n : Nat} {v : V} (w : Owns S H L) (h : Rk K S (.tuple ds) v) (k : ∀ S' H' u, Ex S S' → Owns S' H' L → Rk K S' (.tuple (ds.take n)) u → Q u H') : rSlA K v none (some (n : Int)) H Q := by
  obtain ⟨a, xs, rfl, g, r⟩ := h.tup'
  refine ⟨a, xs, rfl, ex_t w.ex g, fun e => ?_, fun _ p hp => ?_⟩
  · have e2 := e.2
    rw [HT.sIx_nat] at e2
    have hl := r.length
    rw [List.take_of_length_le (by omega)] at k
    exact k S H _ (Ex.refl S) w (.tup g r)
  · have ec : cutV xs none (some (n : Int)) = xs.take n := by
      unfold cutV
      rw [HT.sIx_none, HT.sIx_nat, List.drop_zero, Nat.sub_zero]
      rcases Nat.le_total n xs.length with q | q
      · rw [Nat.min_eq_left q]
      · rw [Nat.min_eq_right q, List.take_of_length_le (Nat.le_refl _), List.take_of_length_le q]
    rw [ec]
    exact k _ _ _ (w.growEx hp) (w.grow hp) (.tup (.of upd_same) ((r.up (w.growEx hp)).take n))
theorem slA_drop {n : Nat} {v : V} (w : Owns S H L) (h : Rk K S (.tuple ds) v) (k : ∀ S' H' u, Ex S S' → Owns S' H' L → Rk K S' (.tuple (ds.drop n)) u → Q u H') : rSlA K v (some (n : Int)) none H Q := by
  obtain ⟨a, xs, rfl, g, r⟩ := h.tup'
  refine ⟨a, xs, rfl, ex_t w.ex g, fun e => ?_, fun _ p hp => ?_⟩
  · have e1 := e.1
    rw [HT.sIx_nat] at e1
    have hl := r.length
    by_cases q : n = 0
    · subst q
      rw [List.drop_zero] at k
      exact k S H _ (Ex.refl S) w (.tup g r)
    · have e0 : ds = [] := List.length_eq_zero_iff.mp (by omega)
      subst e0
      rw [List.drop_nil] at k
      exact k S H _ (Ex.refl S) w (.tup g r)
  · rw [cut_drop75]
    exact k _ _ _ (w.growEx hp) (w.grow hp) (.tup (.of upd_same) ((r.up (w.growEx hp)).drop n))
theorem slL_take {n : Nat} {v : V} (w : Owns S H L) (h : Rk K S (.list ds) v) (k : ∀ S' H' q xs, Ex S S' → Owns S' H' L → S' q = some (.lst xs) → Rks K S' (ds.take n) xs → Q (.ref q) H') : rSlL K v none (some (n : Int)) H Q := by
  obtain ⟨a, xs, rfl, g, r⟩ := h.lst'
  refine ⟨a, xs, rfl, ex_l w.ex g, fun p hp => ?_⟩
  have ec : cutV xs none (some (n : Int)) = xs.take n := by
    unfold cutV
    rw [HT.sIx_none, HT.sIx_nat, List.drop_zero, Nat.sub_zero]
    rcases Nat.le_total n xs.length with q | q
    · rw [Nat.min_eq_left q]
    · rw [Nat.min_eq_right q, List.take_of_length_le (Nat.le_refl _), List.take_of_length_le q]
  rw [ec]
  exact k _ _ _ _ (w.growEx hp) (w.grow hp) upd_same ((r.up (w.growEx hp)).take n)
theorem slL_drop {n : Nat} {v : V} (w : Owns S H L) (h : Rk K S (.list ds) v) (k : ∀ S' H' q xs, Ex S S' → Owns S' H' L → S' q = some (.lst xs) → Rks K S' (ds.drop n) xs → Q (.ref q) H') : rSlL K v (some (n : Int)) none H Q := by
  obtain ⟨a, xs, rfl, g, r⟩ := h.lst'
  refine ⟨a, xs, rfl, ex_l w.ex g, fun p hp => ?_⟩
  rw [cut_drop75]
  exact k _ _ _ _ (w.growEx hp) (w.grow hp) upd_same ((r.up (w.growEx hp)).drop n)
theorem cat_ow {q r : Addr} {xs ys : List V} {es : List PyData} (w : Owns S H L) (h1 : S q = some (.lst xs)) (h2 : S r = some (.lst ys)) (r1 : Rks K S ds xs) (r2 : Rks K S es ys) (hl : ds.length + es.length ≤ sizeLine)
    (k : ∀ S' H' q xs, Ex S S' → Owns S' H' L → S' q = some (.lst xs) → Rks K S' (ds ++ es) xs → Q (.ref q) H') : rCat (.ref q) (.ref r) H Q :=
  ⟨q, r, xs, ys, rfl, rfl, w.ex _ _ h1, w.ex _ _ h2, by rw [r1.length, r2.length]; exact hl, fun p hp => k _ _ _ _ (w.growEx hp) (w.grow hp) upd_same ((r1.append r2).up (w.growEx hp))⟩
end
end SF

/-! R75m: the reading of _law_words, from its end. -/
namespace SF
open PySem L2
/-- the slots of _law_words -/
abbrev ww (a : Addr) (m : Int) (u2 u3 u4 u5 u6 u7 u8 u9 u10 u11 u12 : Option V) : L2.St := [some (.ref a), some (.int m), u2, u3, u4, u5, u6, u7, u8, u9, u10, u11, u12]
section
variable {K : Fg} {S H : Hp} {l : List (Addr × HO)} {a c : Addr} {o : HO} {cs ds : List Int} {m : Int} {Q : VK} {E : XK} {u2 u3 u4 u5 u6 u7 u8 u9 u10 u11 u12 : Option V} {nx : L2.St → Hp → Prop}
theorem lw_1 (hK : excOk75 K) (w : Owns S H ((a, o) :: l)) (ho : IsHand c o) (hc : S c = some (lstI cs)) (k : ∀ H', Q (.bl true) H') :
    t_law_words_1 K E { nx := nx, rt := Q } (ww a m u2 u3 u4 u5 u6 u7 u8 u9 u10 u11 u12) H := by
  refine ⟨_, rfl, draw_of w ho hc ⟨by decide, by decide⟩ fun H1 o1 x w1 ho1 x0 x1 => ?_⟩
  refine ⟨_, rfl, rfl, _, rfl, iteD (fun _ => k _) fun c4 => ?_⟩
  have c4' : x ≠ 4 := fun e => c4 (by rw [e])
  refine ⟨_, rfl, _, rfl, _, rfl, _, _, rfl, rfl, _, rfl, iteD (fun c2 => ?_) fun c2 => ?_⟩
  · refine ⟨S, l, a, c, o1, cs, 2, 6, rfl, w1, ho1, hc, ⟨by decide, by decide, by decide, by decide⟩, fun S2 H2 o2 d u e2 w2 ho2 hd hb _ => ?_⟩
    refine ask_eq w2 hK c4' hd (.str "a") (by decide) (askD_bad (fun _ => hb) (fun z => by omega)) fun H3 u3 w3 r3 => ?_
    exact exact_is (z := "count") (e := .int 6) w3 r3 (.int 6) (exOk_err (by decide +kernel)) fun H4 _ => k H4
  · refine ⟨S, l, a, c, o1, cs, 3, 6, rfl, w1, ho1, hc, ⟨by decide, by decide, by decide, by decide⟩, fun S2 H2 o2 d u e2 w2 ho2 hd hb _ => ?_⟩
    refine ask_eq w2 hK c4' hd (.str "a") (by decide) (askD_bad (fun z => by omega) (fun _ => hb)) fun H3 u3 w3 r3 => ?_
    exact exact_is (z := "count") (e := .int 6) w3 r3 (.int 6) (exOk_err (by decide +kernel)) fun H4 _ => k H4
theorem lw_2 (hK : excOk75 K) (hm : 2 ≤ m ∧ m ≤ 6) (w : Owns S H ((a, o) :: l)) (ho : IsHand c o) (hc : S c = some (lstI cs)) (k : ∀ H', Q (.bl true) H') :
    t_law_words_2 K E { nx := nx, rt := Q } (ww a m u2 u3 u4 u5 u6 u7 u8 u9 u10 u11 u12) H := by
  refine ⟨_, rfl, draw_of w ho hc ⟨by decide, by decide⟩ fun H1 o1 x w1 ho1 x0 x1 => ?_⟩
  refine ⟨_, rfl, _, rfl, (by show 3 ≤ sizeLine; decide), fun p hp => ⟨_, rfl, ?_⟩⟩
  have w2 := w1.grow (o := .lst [.non, .str "01", .int 3]) hp
  have e2 := w1.growEx (o := .lst [.non, .str "01", .int 3]) hp
  refine draw_of w2 ho1 (e2 _ _ hc) ⟨by decide, by decide⟩ fun H2 o2 y w3 ho2 y0 y1 => ?_
  refine pick_of (ds := [.none, .str "01", .int 3]) w3 upd_same (.cons .non (.cons (.str "01") (.cons (.int 3) .nil))) y0 (by simpa using y1) fun d v hd r => ?_
  have hq : isSeqD d = false ∧ (itemsD d).length ≤ 10000 := by
    simp only [List.mem_cons, List.not_mem_nil, or_false] at hd
    rcases hd with rfl | rfl | rfl <;> exact ⟨rfl, by decide⟩
  have hok : okM 2 (.int m) = true := by unfold okM isWholeD; simp only [Bool.and_eq_true, decide_eq_true_eq]; exact hm
  by_cases c0 : x = 0
  · subst c0
    have ha : askD 0 (.int m) d = errD "digits" (-1) := by rw [askD_0, if_pos hok, dFault_odd hq.1]
    refine ask_eq w3 hK (by decide) (.int m) r hq.2 ha fun H3 u3 w4 r3 => ?_
    refine ⟨_, rfl, rfl, _, rfl, ifT (by rfl) ⟨1, rfl, ?_⟩⟩
    exact exact_is (z := "digits") (e := .int (-1)) w4 r3 (.int (-1)) (exOk_err (by decide +kernel)) fun H4 w5 => ⟨_, rfl, iteF (lw_1 hK w5 ho2 (e2 _ _ hc) k)⟩
  · have ha : askD x (.int m) d = errD "word" (-1) := by
      rcases (by omega : x = 1 ∨ x = 2) with rfl | rfl
      · rw [askD_1, if_pos hok, wFault_odd hq.1]
      · rw [askD_2, if_pos hok, wFault_odd hq.1]
    refine ask_eq w3 hK (by omega) (.int m) r hq.2 ha fun H3 u3 w4 r3 => ?_
    refine ⟨_, rfl, rfl, _, rfl, ifF (decide_eq_false fun z => c0 (by injection z)) ⟨1, rfl, ?_⟩⟩
    exact exact_is (z := "word") (e := .int (-1)) w4 r3 (.int (-1)) (exOk_err (by decide +kernel)) fun H4 w5 => ⟨_, rfl, iteF (lw_1 hK w5 ho2 (e2 _ _ hc) k)⟩
theorem last_take {l0 : Int} : ∀ {ws : List Int} {n : Nat}, n < ws.length → ws[n]? = some ((ws.take (n + 1)).getLastD l0) := fun {ws n} h => by
  have e : ws.take (n + 1) = ws.take n ++ [ws[n]] := takeS (List.getElem?_eq_getElem h)
  rw [e, List.getElem?_eq_getElem h, List.getLastD_concat]
theorem lw_3 {at_ : Nat} {vw : V} (hK : excOk75 K) (hm : 2 ≤ m ∧ m ≤ 6) (hd : ∀ d ∈ ds, 0 ≤ d ∧ d ≤ m - 2) (hl : ds.length ≤ 30) (hat : at_ ≤ ds.length) (hw : Rk K S (tupI (spell (m - 1) ds)) vw)
    (w : Owns S H ((a, o) :: l)) (ho : IsHand c o) (hc : S c = some (lstI cs)) (k : ∀ H', Q (.bl true) H') :
    t_law_words_3 K E { nx := nx, rt := Q } (ww a m u2 (some vw) u4 u5 u6 u7 (some (.int (at_ : Int))) u9 u10 u11 u12) H := by
  have hok : okM 2 (.int m) = true := by unfold okM isWholeD; simp only [Bool.and_eq_true, decide_eq_true_eq]; exact hm
  -- the rest, what stands before known
  have hsl := spell_len (m - 1) ds
  have htk : (spell (m - 1) ds).take at_ = spell (m - 1) (ds.take at_) := by
    have e : ds = ds.take at_ ++ ds.drop at_ := (List.take_append_drop ..).symm
    conv => lhs; rw [e, spell_app, List.take_left' (by rw [spell_len, List.length_take]; omega)]
  have fin : ∀ b : Int, b = (spell (m - 1) (ds.take at_)).getLastD (m - 1) →
      tSeq (tAsg (e_law_words_19 K E) (gName 11)) (tSeq (tIfS (e_law_words_20 K E) (tRet (fun σ H Q => Q (V.bl false) H)) (tNext)) (t_law_words_2 K E)) { nx := nx, rt := Q } (ww a m u2 (some vw) u4 u5 u6 u7 (some (.int (at_ : Int))) u9 (some (.int b)) u11 u12) H := by
    intro b hb
    refine ⟨_, rfl, _, rfl, _, rfl, slA_take w hw fun S1 H1 v1 e1 w1 r1 => ⟨_, rfl, _, rfl, 1, rfl, (by show 5 ≤ sizeLine; decide), fun p hp => ⟨_, rfl, ?_⟩⟩⟩
    have w2 := w1.grow (o := .lst [.int b, .int m, .int (-1), .non, .bl false]) hp
    have e2 := w1.growEx (o := .lst [.int b, .int m, .int (-1), .non, .bl false]) hp
    refine draw_of w2 ho (e2 _ _ (e1 _ _ hc)) ⟨by decide, by decide⟩ fun H2 o2 y w3 ho2 y0 y1 => ?_
    refine pick_of (ds := [.int b, .int m, .int (-1), .none, .bool false]) w3 upd_same (.cons (.int b) (.cons (.int m) (.cons (.int (-1)) (.cons .non (.cons (.bl false) .nil))))) y0 (by simpa using y1) fun d v hdm r => ?_
    have hbad : wBad m b d = true := by
      simp only [List.mem_cons, List.not_mem_nil, or_false] at hdm
      rcases hdm with rfl | rfl | rfl | rfl | rfl
      · simp [wBad]
      · show (!(decide (0 ≤ m) && (decide (m ≤ m - 1) && !decide (m = b)))) = true
        rw [decide_eq_false (show ¬ m ≤ m - 1 by omega)]; simp
      · rfl
      · rfl
      · rfl
    refine ⟨(by show 1 ≤ sizeLine; decide), fun p1 hp1 => ?_⟩
    have w4 := w3.grow (o := .tup [v]) hp1
    have e4 := w3.growEx (o := .tup [v]) hp1
    refine catA_ow w4 ((r1.up e2).up e4) (es := [d]) (.tup (.of upd_same) (.cons (r.up e4) .nil)) (sz (by simp; omega)) fun S5 H5 v5 e5 w5 r5 => ?_
    refine ⟨_, rfl, _, rfl, _, rfl, slA_drop w5 ((((hw.up e1).up e2).up e4).up e5) fun S6 H6 v6 e6 w6 r6 => ?_⟩
    refine catA_ow w6 (r5.up e6) r6 (sz (by simp; omega)) fun S7 H7 v7 e7 w7 r7 => ?_
    have eS : Ex S S7 := ((((e1.trans e2).trans e4).trans e5).trans e6).trans e7
    have hf := wFault_bad (m := m) (ds := ds.take at_) (d := d) (r := ((spell (m - 1) ds).map .int).drop at_) (fun x hx => hd x (List.mem_of_mem_take hx)) (by rw [← hb]; exact hbad)
    have hlen : (ds.take at_).length = at_ := by rw [List.length_take]; omega
    rw [hlen] at hf
    have r7' : Rk K S7 (.tuple ((spell (m - 1) (ds.take at_)).map .int ++ [d] ++ ((spell (m - 1) ds).map .int).drop at_)) v7 := by
      rw [← htk, List.map_take]; exact r7
    have hil : (itemsD (.tuple ((spell (m - 1) (ds.take at_)).map .int ++ [d] ++ ((spell (m - 1) ds).map .int).drop at_))).length ≤ 10000 := by
      simp [itemsD, spell_len]; omega
    refine ⟨_, rfl, draw_of w7 ho2 (eS _ _ hc) ⟨by decide, by decide⟩ fun H8 o3 y2 w8 ho3 y20 y21 => ⟨_, _, rfl, rfl, _, rfl, _, rfl, ?_⟩⟩
    have ha : askD (1 + y2) (.int m) (.tuple ((spell (m - 1) (ds.take at_)).map .int ++ [d] ++ ((spell (m - 1) ds).map .int).drop at_)) = errD "word" at_ := by
      rcases (by omega : y2 = 0 ∨ y2 = 1) with rfl | rfl
      · rw [show (1 + 0 : Int) = 1 from rfl, askD_1, if_pos hok, show asI (.int m) = m from rfl, hf]
      · rw [show (1 + 1 : Int) = 2 from rfl, askD_2, if_pos hok, show asI (.int m) = m from rfl, hf]
    refine ask_eq w8 hK (by omega) (.int m) r7' hil ha fun H9 u9' w9 r9 => ?_
    refine ⟨_, rfl, exact_is (z := "word") (e := .int at_) w9 r9 (.int _) (exOk_err (by decide +kernel)) fun H4 w5 => ⟨_, rfl, iteF (lw_2 hK hm w5 ho3 (eS _ _ hc) k)⟩⟩
  refine ⟨_, rfl, _, _, rfl, rfl, _, rfl, iteD (fun c0 => ?_) fun c0 => ?_⟩
  · obtain ⟨n, rfl⟩ : ∃ n, at_ = n + 1 := ⟨at_ - 1, by omega⟩
    obtain ⟨b, xs, rfl, g, r⟩ := hw.tup'
    have hx := rks_ints r
    subst hx
    refine ⟨_, rfl, _, rfl, _, _, rfl, rfl, b, _, _, .int ((spell (m - 1) (ds.take (n + 1))).getLastD (m - 1)), rfl, rfl, ex_t w.ex g, at_of (j := n) (by omega) ?_, fin _ rfl⟩
    rw [List.getElem?_map, last_take (l0 := m - 1) (by omega), htk]
    rfl
  · have : at_ = 0 := by omega
    subst this
    refine ⟨_, rfl, _, _, rfl, rfl, fin _ ?_⟩
    rfl
end
end SF

/-! R75n: the reading of _law_words, to its begin. -/
namespace SF
open PySem L2
section
variable {K : Fg} {S H : Hp} {l : List (Addr × HO)} {a c : Addr} {o : HO} {cs ds : List Int} {m : Int} {Q : VK} {E : XK} {u2 u3 u4 u5 u6 u7 u8 u9 u10 u11 u12 : Option V} {nx : L2.St → Hp → Prop}
theorem okM_of {least m : Int} (h : least ≤ m) (h' : m ≤ 6) : okM least (.int m) = true := by unfold okM isWholeD; simp only [Bool.and_eq_true, decide_eq_true_eq]; exact ⟨h, h'⟩
theorem lw_4 {at_ : Nat} {vw vr : V} {B : List PyData} {d : PyData} (hK : excOk75 K) (hm : 2 ≤ m ∧ m ≤ 6) (hd : ∀ d ∈ ds, 0 ≤ d ∧ d ≤ m - 2) (hl : ds.length ≤ 30) (hat : at_ ≤ ds.length) (hw : Rk K S (tupI (spell (m - 1) ds)) vw)
    (hr : Rk K S (.list ((ds.take at_).map .int ++ [d] ++ B)) vr) (hb : isWholeD (some 0) (some (m - 2)) d = false) (hB : B.length ≤ 30)
    (w : Owns S H ((a, o) :: l)) (ho : IsHand c o) (hc : S c = some (lstI cs)) (k : ∀ H', Q (.bl true) H') :
    t_law_words_4 K E { nx := nx, rt := Q } (ww a m u2 (some vw) u4 u5 u6 u7 (some (.int (at_ : Int))) (some vr) u10 u11 u12) H := by
  have hf := dFault_bad (m := m) (ds := ds.take at_) (d := d) (r := B) (fun x hx => hd x (List.mem_of_mem_take hx)) hb
  rw [show (ds.take at_).length = at_ by rw [List.length_take]; omega] at hf
  -- what follows the first test
  have fin : ∀ H, Owns S H ((a, o) :: l) → tSeq (tIfS (e_law_words_17 K E) (tRet (fun σ H Q => Q (V.bl false) H)) (tNext)) (t_law_words_3 K E) { nx := nx, rt := Q } (ww a m u2 (some vw) u4 u5 u6 u7 (some (.int (at_ : Int))) (some vr) u10 u11 u12) H := by
    intro H w
    refine ⟨_, rfl, draw_of w ho hc ⟨by decide, by decide⟩ fun H1 o1 x w1 ho1 x0 x1 => ⟨_, _, rfl, rfl, (by show 3 ≤ sizeLine; decide), fun p hp => ⟨_, rfl, ?_⟩⟩⟩
    have w2 := w1.grow (o := .lst [.non, .str "01", .int 3]) hp
    have e2 := w1.growEx (o := .lst [.non, .str "01", .int 3]) hp
    refine draw_of w2 ho1 (e2 _ _ hc) ⟨by decide, by decide⟩ fun H2 o2 y w3 ho2 y0 y1 => ?_
    refine pick_of (ds := [.none, .str "01", .int 3]) w3 upd_same (.cons .non (.cons (.str "01") (.cons (.int 3) .nil))) y0 (by simpa using y1) fun d v hd' r => ?_
    have hq : isSeqD d = false ∧ (itemsD d).length ≤ 10000 := by
      simp only [List.mem_cons, List.not_mem_nil, or_false] at hd'
      rcases hd' with rfl | rfl | rfl <;> exact ⟨rfl, by decide⟩
    refine ask_eq w3 hK (by decide) (.int (3 + x)) r hq.2 (r := errD "digits" (-1)) (by rw [askD_5, if_pos (okM_of (by omega) (by omega)), dFault_odd hq.1]) fun H3 u3 w4 r3 => ⟨1, rfl, ?_⟩
    exact exact_is (z := "digits") (e := .int (-1)) w4 r3 (.int (-1)) (exOk_err (by decide +kernel)) fun H4 w5 => ⟨_, rfl, iteF (lw_3 hK hm hd hl hat (hw.up e2) w5 ho2 (e2 _ _ hc) k)⟩
  refine ⟨_, rfl, _, _, rfl, rfl, _, rfl, iteD (fun c2 => ?_) fun c2 => iteF (fin _ w)⟩
  refine ⟨_, rfl, _, rfl, ask_eq w hK (by decide) (.int m) hr (by simp [itemsD]; omega) (r := errD "digits" at_) (by rw [askD_5, if_pos (okM_of (by omega) hm.2), show asI (.int m) = m from rfl, hf]) fun H3 u3 w4 r3 => ⟨_, rfl, ?_⟩⟩
  exact exact_is (z := "digits") (e := .int at_) w4 r3 (.int _) (exOk_err (by decide +kernel)) fun H4 w5 => ⟨_, rfl, iteF (fin _ w5)⟩
theorem lw_5 {vw : V} {D : Addr} (hK : excOk75 K) (hm : 2 ≤ m ∧ m ≤ 6) (hd : ∀ d ∈ ds, 0 ≤ d ∧ d ≤ m - 2) (hl : ds.length ≤ 30) (hw : Rk K S (tupI (spell (m - 1) ds)) vw) (hD : S D = some (lstI ds))
    (w : Owns S H ((a, o) :: l)) (ho : IsHand c o) (hc : S c = some (lstI cs)) (k : ∀ H', Q (.bl true) H') :
    t_law_words_5 K E { nx := nx, rt := Q } (ww a m (some (.ref D)) (some vw) u4 u5 u6 u7 u8 u9 u10 u11 u12) H := by
  have hDr : Rk K S (.list (ds.map .int)) (.ref D) := .lst (.of hD) (rk_ints ds)
  refine ⟨_, rfl, _, rfl, D, _, rfl, .inl (.of (w.ex _ _ hD)), _, _, rfl, rfl, ?_⟩
  rw [List.length_map]
  refine draw_of w ho hc ⟨by omega, by omega⟩ fun H1 o1 x w1 ho1 x0 x1 => ?_
  obtain ⟨at_, rfl⟩ : ∃ n : Nat, x = n := ⟨x.toNat, by omega⟩
  refine ⟨_, rfl, _, rfl, _, rfl, slL_take w1 hDr fun S2 H2 q1 xs1 e2 w2 h2 r2 => ⟨_, rfl, _, _, rfl, rfl, 1, rfl, (by show 5 ≤ sizeLine; decide), fun p hp => ⟨_, rfl, ?_⟩⟩⟩
  have w3 := w2.grow (o := .lst [.int (m - 1), .int (-1), .bl true, .non, .str "0"]) hp
  have e3 := w2.growEx (o := .lst [.int (m - 1), .int (-1), .bl true, .non, .str "0"]) hp
  refine draw_of w3 ho1 (e3 _ _ (e2 _ _ hc)) ⟨by decide, by decide⟩ fun H4 o2 y w4 ho2 y0 y1 => ?_
  refine pick_of (ds := [.int (m - 1), .int (-1), .bool true, .none, .str "0"]) w4 upd_same (.cons (.int (m - 1)) (.cons (.int (-1)) (.cons (.bl true) (.cons .non (.cons (.str "0") .nil))))) y0 (by simpa using y1) fun d v hdm r => ?_
  have hbad : isWholeD (some 0) (some (m - 2)) d = false := by
    simp only [List.mem_cons, List.not_mem_nil, or_false] at hdm
    rcases hdm with rfl | rfl | rfl | rfl | rfl
    · unfold isWholeD; simp only [Bool.and_eq_false_iff, decide_eq_false_iff_not]; omega
    · rfl
    · rfl
    · rfl
    · rfl
  refine ⟨(by show 1 ≤ sizeLine; decide), fun p1 hp1 => ?_⟩
  have w5 := w4.grow (o := .lst [v]) hp1
  have e5 := w4.growEx (o := .lst [v]) hp1
  refine cat_ow w5 (e5 _ _ (e3 _ _ h2)) upd_same ((r2.up e3).up e5) (es := [d]) (.cons (r.up e5) .nil) (sz (by simp; omega)) fun S6 H6 q6 xs6 e6 w6 h6 r6 => ?_
  refine ⟨_, rfl, _, rfl, _, rfl, slL_drop w6 ((((hDr.up e2).up e3).up e5).up e6) fun S7 H7 q7 xs7 e7 w7 h7 r7 => ?_⟩
  refine cat_ow w7 (e7 _ _ h6) h7 (r6.up e7) r7 (sz (by simp; omega)) fun S8 H8 q8 xs8 e8 w8 h8 r8 => ?_
  have eS : Ex S S8 := ((((e2.trans e3).trans e5).trans e6).trans e7).trans e8
  rw [← List.map_take] at r8
  have hr : Rk K S8 (.list ((ds.take at_).map .int ++ [d] ++ (ds.map .int).drop at_)) (.ref q8) := .lst (.of h8) r8
  have hf := dFault_bad (m := m) (ds := ds.take at_) (d := d) (r := (ds.map .int).drop at_) (fun x hx => hd x (List.mem_of_mem_take hx)) hbad
  rw [show (ds.take at_).length = at_ by rw [List.length_take]; omega] at hf
  refine ⟨_, rfl, _, rfl, ask_eq w8 hK (by decide) (.int m) hr (by simp [itemsD]; omega) (r := errD "digits" at_) (by rw [askD_0, if_pos (okM_of hm.1 hm.2), show asI (.int m) = m from rfl, hf]) fun H9 u9 w9 r9 => ⟨_, rfl, ?_⟩⟩
  exact exact_is (z := "digits") (e := .int at_) w9 r9 (.int _) (exOk_err (by decide +kernel)) fun H4 w10 => ⟨_, rfl, iteF (lw_4 hK hm hd hl (by omega) (hw.up eS) hr hbad (by simp; omega) w10 ho2 (eS _ _ hc) k)⟩
theorem pow_total {m : Int} {i : Nat} : (m - 1) ^ i * (m - 1) = (m - 1) ^ (i + 1) := by rw [Int.pow_succ]
theorem lw_6 {vw : V} {D : Addr} (hK : excOk75 K) (hm : 2 ≤ m ∧ m ≤ 6) (hd : ∀ d ∈ ds, 0 ≤ d ∧ d ≤ m - 2) (hl : ds.length ≤ 30) (hw : Rk K S (tupI (spell (m - 1) ds)) vw) (hD : S D = some (lstI ds))
    (w : Owns S H ((a, o) :: l)) (ho : IsHand c o) (hc : S c = some (lstI cs)) (k : ∀ H', Q (.bl true) H') :
    t_law_words_6 K E { nx := nx, rt := Q } (ww a m (some (.ref D)) (some vw) u4 u5 u6 u7 u8 u9 u10 u11 u12) H := by
  refine ⟨_, rfl, draw_of w ho hc ⟨by decide, by decide⟩ fun H1 o1 x w1 ho1 x0 x1 => ?_⟩
  refine ⟨_, rfl, x, rfl, by omega, by omega, ?_⟩
  refine for_range (lo := 0) (n := x.toNat) (fun i σ H' => Owns S H' ((a, o1) :: l) ∧ ∃ u7, σ = ww a m (some (.ref D)) (some vw) (some (.int ((m - 1) ^ i))) u5 (some (.int x)) u7 u8 u9 u10 u11 u12) ⟨w1, u7, by rw [Int.pow_zero]; rfl⟩ ?_ ?_
  · rintro i σ H2 hi ⟨w2, u7, rfl⟩
    refine ⟨_, rfl, _, rfl, _, _, rfl, rfl, _, _, rfl, rfl, .inr ⟨by omega, by omega⟩, w2, some (.int (0 + (i : Nat))), ?_⟩
    rw [← pow_total]; rfl
  · rintro σ H2 ⟨w2, u7, rfl⟩
    refine ⟨_, rfl, _, rfl, ask_eq w2 hK (by decide) (.int m) (.int x) (Nat.zero_le _) (r := toldD (.int ((m - 1) ^ x.toNat))) (by rw [askD_3, if_pos (okM_of hm.1 hm.2), if_pos (by unfold isWholeD; simp only [Bool.and_eq_true, decide_eq_true_eq]; omega)]; rfl) fun H3 u3 w3 r3 => ⟨_, rfl, ?_⟩⟩
    refine exact_is (z := "told") (e := .int _) w3 r3 (.int _) exOk_toldI fun H4 w4 => ⟨_, rfl, iteF ?_⟩
    refine ⟨_, rfl, _, rfl, S, l, a, c, o1, cs, 0, 64, rfl, w4, ho1, hc, ⟨by decide, by decide, by decide, by decide⟩, fun S5 H5 o5 d u e5 w5 ho5 hd5 hb hlen => ?_⟩
    refine ask_eq w5 hK (by decide) (.int m) hd5 (by omega) (r := errD "count" 64) (by rw [askD_3, if_pos (okM_of hm.1 hm.2), hb]; rfl) fun H6 u6 w6 r6 => ?_
    exact exact_is (z := "count") (e := .int 64) w6 r6 (.int 64) (exOk_err (by decide +kernel)) fun H7 w7 => ⟨_, rfl, iteF (lw_5 hK hm hd hl (hw.up e5) (e5 _ _ hD) w7 ho5 (e5 _ _ hc) k)⟩
theorem lw_7 {vw : V} {D : Addr} (hK : excOk75 K) (hm : 2 ≤ m ∧ m ≤ 6) (hd : ∀ d ∈ ds, 0 ≤ d ∧ d ≤ m - 2) (hl : ds.length ≤ 30) (hw : Rk K S (tupI (spell (m - 1) ds)) vw) (hD : S D = some (lstI ds))
    (w : Owns S H ((a, o) :: l)) (ho : IsHand c o) (hc : S c = some (lstI cs)) (k : ∀ H', Q (.bl true) H') :
    t_law_words_7 K E { nx := nx, rt := Q } (ww a m (some (.ref D)) (some vw) u4 u5 u6 u7 u8 u9 u10 u11 u12) H := by
  refine ⟨_, rfl, D, rfl, ⟨_, .of (w.ex _ _ hD)⟩, for_list (K := K) (a := D) (xs := ds.map V.int) (fun i σ H' => Owns S H' ((a, o) :: l) ∧ ∃ u5, σ = ww a m (some (.ref D)) (some vw) (some (.int ((m - 1) ^ i))) u5 u6 u7 u8 u9 u10 u11 u12) ⟨w, u5, by rw [Int.pow_zero]; rfl⟩ (fun i σ H' _ p => .of (p.1.ex _ _ hD)) ?_ ?_⟩
  · rintro i x σ H2 hx ⟨w2, u5, rfl⟩
    obtain ⟨z, hz, rfl⟩ := int_item hx
    refine ⟨_, rfl, _, rfl, _, _, rfl, rfl, _, _, rfl, rfl, .inr ⟨by omega, by omega⟩, w2, some (.int z), ?_⟩
    rw [← pow_total]; rfl
  · rintro σ H2 ⟨w2, u5, rfl⟩
    refine ⟨_, rfl, _, rfl, D, _, rfl, .inl (.of (w2.ex _ _ hD)), ?_⟩
    rw [List.length_map]
    refine ask_eq w2 hK (by decide) (.int m) (.int (ds.length : Int)) (Nat.zero_le _) (r := toldD (.int ((m - 1) ^ ds.length))) (by rw [askD_3, if_pos (okM_of hm.1 hm.2), if_pos (by unfold isWholeD; simp only [Bool.and_eq_true, decide_eq_true_eq]; omega)]; rfl) fun H3 u3 w3 r3 => ⟨_, rfl, ?_⟩
    exact exact_is (z := "told") (e := .int _) w3 r3 (.int _) exOk_toldI fun H4 w4 => ⟨_, rfl, iteF (lw_6 hK hm hd hl hw hD w4 ho hc k)⟩
theorem asI_ints (ns : List Int) : (ns.map PyData.int).map asI = ns := by induction ns with
  | nil => rfl
  | cons x r ih => show x :: _ = _; rw [ih]
theorem seq_ask {D : V} {d : PyData} (w : Owns S H ((a, o) :: l)) (ho : IsHand c o) (hc : S c = some (lstI cs)) (hr : Rk K S d D) (hs : isSeqD d = true)
    (k : ∀ S' H' o' d' u, Ex S S' → Owns S' H' ((a, o') :: l) → IsHand c o' → Rk K S' d' u → isSeqD d' = true → itemsD d' = itemsD d → Q u H') : sp_law_seq K [.ref a, D] H Q E := ⟨S, l, a, c, o, cs, d, D, rfl, w, ho, hc, hr, hs, k⟩
theorem lw_8 {vw : V} {D : Addr} (hK : excOk75 K) (hm : 2 ≤ m ∧ m ≤ 6) (hd : ∀ d ∈ ds, 0 ≤ d ∧ d ≤ m - 2) (hl : ds.length ≤ 30) (hw : Rk K S (tupI (spell (m - 1) ds)) vw) (hD : S D = some (lstI ds))
    (w : Owns S H ((a, o) :: l)) (ho : IsHand c o) (hc : S c = some (lstI cs)) (k : ∀ H', Q (.bl true) H') :
    t_law_words_8 K E { nx := nx, rt := Q } (ww a m (some (.ref D)) (some vw) u4 u5 u6 u7 u8 u9 u10 u11 u12) H := by
  have hsl := spell_len (m - 1) ds
  refine ⟨_, rfl, _, rfl, _, rfl, seq_ask w ho hc hw rfl fun S1 H1 o1 d1 v1 e1 w1 ho1 r1 s1 i1 => ?_⟩
  have i1' : itemsD d1 = (spell (m - 1) ds).map .int := i1
  refine ask_eq w1 hK (by decide) (.int m) r1 (by rw [i1', List.length_map]; omega) (r := toldD (tupI ds)) (by rw [askD_1, if_pos (okM_of hm.1 hm.2), show asI (.int m) = m from rfl, wFault_spell s1 i1' hd, i1', asI_ints, unspell_spell]) fun H2 u2' w2 r2 => ?_
  refine ⟨_, rfl, tupQ_of (.inl (.of (w2.ex _ _ (e1 _ _ hD)))) (rk_ints ds) fun H3 u3 e3 r3 => ?_⟩
  have w3 := w2.call e3
  refine exact_is (z := "told") (e := tupI ds) w3 (r2.up e3) r3 (exOk_told (by omega)) fun H4 w4 => ⟨_, rfl, iteF ?_⟩
  refine ⟨_, rfl, _, rfl, _, rfl, seq_ask w4 ho1 (e1 _ _ hc) (hw.up e1) rfl fun S5 H5 o5 d5 v5 e5 w5 ho5 r5 s5 i5 => ?_⟩
  have i5' : itemsD d5 = (spell (m - 1) ds).map .int := i5
  refine ask_eq w5 hK (by decide) (.int m) r5 (by rw [i5', List.length_map]; omega) (r := toldD (tupI (spell (m - 1) ds))) (by rw [askD_2, if_pos (okM_of hm.1 hm.2), show asI (.int m) = m from rfl, wFault_spell s5 i5' hd, i5']; rfl) fun H6 u6' w6 r6 => ?_
  have e15 := e1.trans e5
  refine ⟨_, rfl, exact_is (z := "told") (e := tupI (spell (m - 1) ds)) w6 r6 ((hw.up e15).up w6.ex) (exOk_told (by omega)) fun H4 w7 => ⟨_, rfl, iteF ?_⟩⟩
  exact lw_7 hK hm hd hl (hw.up e15) (e15 _ _ hD) w7 ho5 (e15 _ _ hc) k
end
section
variable {K : Fg} {vs : List V} {H : Hp} {Q : VK} {E : XK}
/-- a list of draws below N -/
theorem draws_of {S H4 : Hp} {l : List (Addr × HO)} {D a c : Addr} {o : HO} {cs : List Int} {N : Int} {n : Nat} {σ0 : L2.St} {j : Nat} {te : TE} {vs : List Nat} {Qd : Hp → Prop}
    (w : Owns S H4 ((a, o) :: l)) (ho : IsHand c o) (hc : S c = some (lstI cs)) (hD : H4 D = none) (h1000 : n ≤ 1000)
    (hg : ∀ (z : Int) H R, R (σ0.set j (some (.int z))) H → gName j (.int z) (wipe σ0 vs) H R) (hwp : ∀ z : Int, wipe (σ0.set j (some (.int z))) vs = wipe σ0 vs)
    (hte : ∀ (z : Int) H Q, sp_law_draw K [.ref a, .int N] H Q E0 → te (σ0.set j (some (.int z))) H Q) (hN : 0 < N ∧ N < 1073741824)
    (q : ∀ H5 o' acc, IsHand c o' → acc.length = n → (∀ d ∈ acc, 0 ≤ d ∧ d < N) → Owns S H5 ((a, o') :: (D, lstI acc) :: l) → Qd H5) :
    ∃ W : Nat → Nat → Hp → Prop, (∃ m, W 0 m (upd H4 D (.lst []))) ∧ ∀ i m H, W i m H →
      ((Itr 0 n).stop i H ∧ Qd H) ∨ ((Itr 0 n).go i H ∧ ∃ Nx : Hp → Prop, (∀ H', Nx H' → ∃ m', m' < m ∧ W (i + 1) m' H') ∧ ∀ x H', (Itr 0 n).yld i H x H' → gName j x (wipe σ0 vs) H' fun σ2 H2 => wipe σ2 vs = wipe σ0 vs ∧ tYes σ2 H2 fun b H3 =>
        if b = true then te σ2 H3 fun y H4 => ∃ acc, H4 D = some (.lst acc) ∧ acc.length < sizeLine ∧ Nx (upd H4 D (.lst (acc ++ [y]))) else Nx H3) := by
  refine lc_it (walk_range (lo := 0) (n := n)) (fun i H' => ∃ o' acc, IsHand c o' ∧ acc.length = i ∧ (∀ d ∈ acc, 0 ≤ d ∧ d < N) ∧ Owns S H' ((a, o') :: (D, lstI acc) :: l)) ⟨o, [], ho, rfl, fun d hd => (by cases hd), (w.new hD).perm (List.Perm.swap ..)⟩ (fun _ _ _ _ => True.intro) ?_ ?_
  · rintro i x H5 H6 hi ⟨o1, acc, ho1, hacc, hr, w5⟩ ⟨rfl, rfl⟩
    refine hg _ _ _ ⟨hwp _, (hte _ _ _ (draw_of w5 ho1 hc hN fun H6 o2 y w6 ho2 y0 y1 => ⟨_, w6.get 1, szl (by rw [List.length_map]; omega), o2, acc ++ [y], ho2, by rw [List.length_append, List.length_singleton]; omega, fun d hd => ?_, ?_⟩))⟩
    · rcases List.mem_append.mp hd with hd | hd
      · exact hr d hd
      · rw [List.mem_singleton.mp hd]; exact ⟨y0, y1⟩
    · have := w6.write (o' := .lst (acc.map .int ++ [.int y])) 1
      unfold lstI
      rw [List.map_append]
      exact this
  · rintro H5 ⟨o1, acc, ho1, hacc, hr, w5⟩
    exact q H5 o1 acc ho1 hacc hr w5
theorem rd_law_words (h : sp_law_words K vs H Q E) : t_law_words K E { nx := fun _ H' => Q .non H', rt := Q } (start ["_law_hand_here", "_law_m", "_law_digits", "_law_word_here", "_law_total", "_law_digit", "_law_far", "_law_turn", "_law_at", "_law_wrong", "_law_before", "_law_spoiled", "_law_which"] vs) H := by
  obtain ⟨S, l, a, c, o, cs, rfl, w, ho, hc, hK, k⟩ := h
  refine ⟨_, rfl, draw_of w ho hc ⟨by decide, by decide⟩ fun H1 o1 x w1 ho1 x0 x1 => ⟨_, _, rfl, rfl, ?_⟩⟩
  refine ⟨_, rfl, draw_of w1 ho1 hc ⟨by decide, by decide⟩ fun H2 o2 y w2 ho2 y0 y1 => ⟨y, rfl, by omega, by omega, fun D hD => ?_⟩⟩
  refine draws_of (N := 2 + x - 1) (n := y.toNat) (j := 7) w2 ho2 hc hD (by omega) (fun z H R q => q) (fun z => rfl) (fun z H Q q => ⟨_, rfl, _, rfl, _, _, rfl, rfl, q⟩) ⟨by omega, by omega⟩ fun H5 o3 ds ho3 hl hr w3 => ?_
  have w4 := w3.freeze 1
  have e4 := w3.freezeEx 1
  have hr' : ∀ d ∈ ds, 0 ≤ d ∧ d ≤ 2 + x - 2 := fun d hd => by have := hr d hd; omega
  refine ⟨_, rfl, _, rfl, _, _, 2 + x, ds, D, rfl, w4, w4.ex _ _ upd_same, ⟨by omega, by omega⟩, hr', by omega, fun S5 H5 u5 e5 w5 r5 => ?_⟩
  have hD5 : S5 D = some (lstI ds) := e5 _ _ upd_same
  have hl30 : ds.length ≤ 30 := by omega
  have hc5 := e5 _ _ (e4 _ _ hc)
  refine ⟨_, rfl, _, rfl, _, rfl, seq_ask w5 ho3 hc5 (d := .list (ds.map .int)) (.lst (.of hD5) (rk_ints ds)) rfl fun S6 H6 o6 d6 v6 e6 w6 ho6 r6 s6 i6 => ?_⟩
  have i6' : itemsD d6 = ds.map .int := i6
  refine ask_eq w6 hK (by decide) (.int (2 + x)) r6 (by rw [i6', List.length_map]; omega) (r := toldD (tupI (spell (2 + x - 1) ds))) (by rw [askD_0, if_pos (okM_of (by omega) (by omega)), show asI (.int (2 + x)) = 2 + x from rfl, dFault_ok s6 i6' hr', i6', asI_ints]) fun H7 u7 w7 r7 => ?_
  refine ⟨_, rfl, exact_is (z := "told") (e := tupI (spell (2 + x - 1) ds)) w7 r7 ((r5.up e6).up w7.ex) (exOk_told (by rw [spell_len]; omega)) fun H8 w8 => ⟨_, rfl, iteF ?_⟩⟩
  exact lw_8 hK ⟨by omega, by omega⟩ hr' hl30 (r5.up e6) (e6 _ _ hD5) w8 ho6 (e6 _ _ hc5) k
end
end SF

/-! M75: the run in numbers: words, lines, what is put, read, heard. -/
namespace SF
open PySem L2
/-- the word of digits, from the frame m - 1 on -/
def W75 (m : Int) (D : List Int) : List Int := spell (m - 1) D
theorem W_len (m : Int) (D : List Int) : (W75 m D).length = D.length := spell_len _ _
theorem W_app (m : Int) (D X : List Int) {n : Nat} (h : n ≤ D.length) : (W75 m (D ++ X)).take n = (W75 m D).take n := by
  unfold W75
  rw [spell_app, List.take_append_of_le_length (by rw [spell_len]; exact h)]
theorem W_take (m : Int) (D : List Int) {n : Nat} : (W75 m D).take n = W75 m (D.take n) := by
  rcases Nat.le_total n D.length with h | h
  · have e := W_app m (D.take n) (D.drop n) (n := n) (by rw [List.length_take]; omega)
    rw [List.take_append_drop] at e
    rw [e, List.take_of_length_le (by rw [W_len, List.length_take]; omega)]
  · rw [List.take_of_length_le (by rw [W_len]; omega), List.take_of_length_le h]
/-- the frame behind i frames -/
def last75 (m : Int) (D : List Int) (i : Nat) : Int := ((W75 m D).take i).getLastD (m - 1)
theorem W_at {m : Int} {D : List Int} {i : Nat} {d : Int} (h : D[i]? = some d) : (W75 m D)[i]? = some (fb (last75 m D i) d) := by
  have hi := (List.getElem?_eq_some_iff.mp h).1
  have e : W75 m (D.take (i + 1)) = W75 m (D.take i) ++ [fb (last75 m D i) d] := by
    unfold last75
    rw [W_take]
    unfold W75
    rw [takeS h, spell_app]; rfl
  have e2 : (W75 m D)[i]? = ((W75 m D).take (i + 1))[i]? := by rw [List.getElem?_take]; simp
  rw [e2, W_take, e, List.getElem?_append_right (by rw [W_len, List.length_take]; omega), W_len, List.length_take, Nat.min_eq_left (by omega), Nat.sub_self]
  rfl
theorem W_get {m : Int} {D : List Int} {i : Nat} (h : i < D.length) : ∃ d, D[i]? = some d ∧ (W75 m D)[i]? = some (fb (last75 m D i) d) := ⟨_, List.getElem?_eq_getElem h, W_at (List.getElem?_eq_getElem h)⟩
theorem last_succ {m : Int} {D : List Int} {i : Nat} {x : Int} (h : (W75 m D)[i]? = some x) : last75 m D (i + 1) = x ∧ ((W75 m D).take (i + 1)).getLast? = some x := by
  unfold last75
  rw [takeS h]
  exact ⟨by rw [List.getLastD_concat], by simp⟩
theorem last_getD {m : Int} {D : List Int} {i : Nat} : (((W75 m D).take i).getLast?).getD (m - 1) = last75 m D i := by
  unfold last75
  cases h : (W75 m D).take i with
  | nil => rfl
  | cons x r => rw [List.getLastD_eq_getLast?]
/-- what holds at every moment -/
structure Ok75 (m : Int) (D : List Int) (t k : Nat) : Prop where
  hm : 3 ≤ m ∧ m ≤ 6
  hD : ∀ d ∈ D, 0 ≤ d ∧ d ≤ m - 2
  hl : D.length ≤ 1000
  ht : t ≤ D.length
  hk : k = t ∨ (k = t + 1 ∧ k ≤ D.length)
theorem Ok75.fr {m : Int} {D : List Int} {t k : Nat} (h : Ok75 m D t k) {i : Nat} {x : Int} (e : (W75 m D)[i]? = some x) : 0 ≤ x ∧ x ≤ m - 1 ∧ x ≠ last75 m D i ∧ ∃ d, D[i]? = some d ∧ db (last75 m D i) x = d := by
  have hi := (List.getElem?_eq_some_iff.mp e).1
  rw [W_len] at hi
  obtain ⟨d, h1, h2⟩ := W_get (m := m) hi
  rw [e] at h2
  cases h2
  have hd := h.hD d (List.mem_of_getElem? h1)
  have q := fb_in (l := last75 m D i) hd.1 hd.2
  exact ⟨q.1, by omega, fb_ne, d, h1, db_fb⟩
/-- frames sent by the source -/
def nS (D : List Int) (t : Nat) : Nat := min (t + 1) D.length
def frS (m : Int) (D : List Int) (t : Nat) : Option Int := ((W75 m D).take (nS D t)).getLast?
def frK (m : Int) (D : List Int) (k : Nat) : Option Int := ((W75 m D).take k).getLast?
/-- a line holds what was sent from a on -/
def Line75 (w : List Int) (n k : Nat) (q : List Int) : Prop := ∃ a, q = (w.take n).drop a ∧ k ≤ a + 1 ∧ a ≤ n ∧ (0 < n → a < n)
theorem Line75.read {w q : List Int} {n k j : Nat} {x : Int} (h : Line75 w n k q) (hn : n ≤ w.length) (hj : q[j]? = some x) : ∃ i, w[i]? = some x ∧ i < n ∧ k ≤ i + 1 ∧ Line75 w n (i + 1) (x :: q.drop (j + 1)) := by
  obtain ⟨a, rfl, h1, h2, h3⟩ := h
  rw [List.getElem?_drop, List.getElem?_take] at hj
  by_cases hi : a + j < n
  · rw [if_pos hi] at hj
    refine ⟨a + j, hj, hi, by omega, a + j, ?_, by omega, by omega, fun _ => hi⟩
    have e : (w.take n).drop (a + j) = x :: (w.take n).drop (a + j + 1) := by
      have hg : (w.take n)[a + j]? = some x := by rw [List.getElem?_take, if_pos hi]; exact hj
      obtain ⟨hl, hx⟩ := List.getElem?_eq_some_iff.mp hg
      rw [List.drop_eq_getElem_cons hl, hx]
    rw [e, List.drop_drop]; rfl
  · rw [if_neg hi] at hj; cases hj
theorem Line75.less {w q : List Int} {n k k' : Nat} (h : Line75 w n k q) (hk : k' ≤ k) : Line75 w n k' q := by
  obtain ⟨a, h0, h1, h2, h3⟩ := h
  exact ⟨a, h0, by omega, h2, h3⟩
theorem Line75.app {m : Int} {D X q : List Int} {n k : Nat} (h : Line75 (W75 m D) n k q) (hn : n ≤ D.length) : Line75 (W75 m (D ++ X)) n k q := by
  obtain ⟨a, h0, h1, h2, h3⟩ := h
  exact ⟨a, by rw [W_app m D X hn]; exact h0, h1, h2, h3⟩
theorem drop_last {w : List Int} {n a : Nat} {x : Int} (h : w[n]? = some x) (ha : a ≤ n) : (w.take (n + 1)).drop a = (w.take n).drop a ++ [x] := by
  rw [takeS h, List.drop_append_of_le_length (by rw [List.length_take]; have := (List.getElem?_eq_some_iff.mp h).1; omega)]
theorem Line75.newest {w q : List Int} {n k : Nat} {x : Int} (h : Line75 w (n + 1) k q) (hx : w[n]? = some x) : q.getLast? = some x := by
  obtain ⟨a, rfl, h1, h2, h3⟩ := h
  have := h3 (by omega)
  rw [drop_last hx (by omega)]
  simp
/-- a frame is put on a line -/
theorem Line75.put {m : Int} {D q : List Int} {n n' k t k' : Nat} {x : Int} (o : Ok75 m D t k') (h : Line75 (W75 m D) n k q) (h1 : n ≤ n') (h2 : n' ≤ n + 1) (hx : 0 < n' ∧ (W75 m D)[n' - 1]? = some x) :
    Line75 (W75 m D) n' k (if q.getLast? = some x then q else q ++ [x]) := by
  obtain ⟨h0, hx⟩ := hx
  have hd := (o.fr hx).2.2.1
  rcases (by omega : n' = n ∨ n' = n + 1) with rfl | rfl
  · obtain ⟨z, rfl⟩ : ∃ z, n' = z + 1 := ⟨n' - 1, by omega⟩
    rw [if_pos (h.newest hx)]
    exact h
  · rw [Nat.add_sub_cancel] at hx hd
    have hq : q.getLast? ≠ some x := by
      cases n with
      | zero =>
        obtain ⟨a, rfl, _⟩ := h
        simp
      | succ z =>
        have hz := (List.getElem?_eq_some_iff.mp hx).1
        have ey : (W75 m D)[z]? = some (W75 m D)[z] := List.getElem?_eq_getElem (by omega)
        rw [h.newest ey]
        intro e
        injection e with e
        rw [(last_succ ey).1] at hd
        exact hd e.symm
    rw [if_neg hq]
    obtain ⟨a, rfl, h3, h4, h5⟩ := h
    exact ⟨a, (drop_last hx h4).symm, h3, by omega, fun _ => by omega⟩
/-- the source's frame, in numbers -/
theorem frS_some {m : Int} {D : List Int} {t : Nat} (h : t < D.length) : ∃ x, (W75 m D)[t]? = some x ∧ frS m D t = some x := by
  obtain ⟨d, _, e⟩ := W_get (m := m) h
  refine ⟨_, e, ?_⟩
  unfold frS nS
  rw [Nat.min_eq_left (by omega)]
  exact (last_succ e).2
theorem frS_eq {m : Int} {D : List Int} {t : Nat} (h : 0 < nS D t) : ∃ x, (W75 m D)[nS D t - 1]? = some x ∧ frS m D t = some x := by
  have hl : nS D t - 1 < D.length := by unfold nS at h ⊢; omega
  obtain ⟨d, _, e⟩ := W_get (m := m) hl
  refine ⟨_, e, ?_⟩
  have := (last_succ e).2
  rw [show nS D t - 1 + 1 = nS D t by omega] at this
  exact this
theorem frS_none {m : Int} {D : List Int} {t : Nat} (h : nS D t = 0) : frS m D t = none := by unfold frS; rw [h]; rfl
theorem frK_eq {m : Int} {D : List Int} {k : Nat} (h : 0 < k) (hl : k ≤ D.length) : ∃ x, (W75 m D)[k - 1]? = some x ∧ frK m D k = some x := by
  obtain ⟨d, _, e⟩ := W_get (m := m) (show k - 1 < D.length by omega)
  refine ⟨_, e, ?_⟩
  have := (last_succ e).2
  rw [show k - 1 + 1 = k by omega] at this
  exact this
/-- digits are put -/
theorem put_frame {m : Int} {D X : List Int} {t : Nat} (ht : t ≤ D.length) : (if t = D.length then sendOn m (D ++ X) t (frS m D t) else frS m D t) = frS m (D ++ X) t := by
  by_cases c : t = D.length
  · rw [if_pos c]
    subst c
    unfold sendOn
    have e0 : frS m D D.length = ((W75 m (D ++ X)).take D.length).getLast? := by
      unfold frS nS
      rw [Nat.min_eq_right (by omega), W_app m D X (Nat.le_refl _)]
    cases X with
    | nil =>
      rw [List.append_nil] at *
      rw [List.getElem?_eq_none (by omega)]
    | cons x r =>
      have hx : (D ++ x :: r)[D.length]? = some x := by rw [List.getElem?_append_right (Nat.le_refl _), Nat.sub_self]; rfl
      obtain ⟨y, h1, h2⟩ := frS_some (m := m) (D := D ++ x :: r) (t := D.length) (by simp)
      rw [hx, h2, e0, last_getD]
      have := W_at (m := m) hx
      rw [h1] at this
      exact this.symm
  · rw [if_neg c]
    unfold frS nS
    rw [Nat.min_eq_left (by omega), Nat.min_eq_left (by rw [List.length_append]; omega), W_app m D X (by omega)]
theorem hear_frame {m : Int} {D : List Int} {t : Nat} (ht : t < D.length) : sendOn m D (t + 1) (frS m D t) = frS m D (t + 1) := by
  unfold sendOn
  by_cases c : t + 1 < D.length
  · obtain ⟨x, h1, h2⟩ := frS_some (m := m) c
    obtain ⟨d, hd, e⟩ := W_get (m := m) c
    rw [hd, h2]
    have e0 : frS m D t = ((W75 m D).take (t + 1)).getLast? := by unfold frS nS; rw [Nat.min_eq_left (by omega)]
    show some (fb ((frS m D t).getD (m - 1)) d) = _
    rw [e0, last_getD, ← e, h1]
  · rw [List.getElem?_eq_none (by omega)]
    unfold frS nS
    rw [Nat.min_eq_right (by omega), Nat.min_eq_right (by omega)]
/-- the sink reads the frame at i -/
theorem sink_takes {m : Int} {D : List Int} {t k i : Nat} {x : Int} (o : Ok75 m D t k) (hx : (W75 m D)[i]? = some x) (h1 : k ≤ i + 1) (h2 : i < nS D t) :
    (i = k ∧ k = t ∧ k < D.length ∧ takes m (frK m D k) (.int x) = some x ∧ D.take k ++ [db ((frK m D k).getD (m - 1)) x] = D.take (k + 1) ∧ frK m D (k + 1) = some x) ∨ (k = i + 1 ∧ takes m (frK m D k) (.int x) = none) := by
  obtain ⟨f0, f1, f2, d, hd, hdb⟩ := o.fr hx
  have hk := o.hk
  unfold nS at h2
  rcases (by omega : i = k ∨ k = i + 1) with rfl | rfl
  · refine .inl ⟨rfl, by omega, by omega, ?_, ?_, (last_succ hx).2⟩
    · unfold takes frK
      rw [last_getD]
      simp only [decide_eq_true f0, decide_eq_true f1, decide_eq_false f2]
      rfl
    · unfold frK
      rw [last_getD, hdb, takeS hd]
  · refine .inr ⟨rfl, ?_⟩
    unfold takes frK
    rw [last_getD, (last_succ hx).1]
    simp
/-- the source reads the frame at i -/
theorem source_hears {m : Int} {D : List Int} {t k i : Nat} {x : Int} (o : Ok75 m D t k) (hx : (W75 m D)[i]? = some x) (h1 : t ≤ i + 1) (h2 : i < k) :
    (i = t ∧ t < D.length ∧ k = t + 1 ∧ hears t D.length (frS m D t) (.int x) = true) ∨ (t = i + 1 ∧ hears t D.length (frS m D t) (.int x) = false) := by
  have hk := o.hk
  rcases (by omega : i = t ∨ t = i + 1) with rfl | rfl
  · refine .inl ⟨rfl, by omega, by omega, ?_⟩
    obtain ⟨y, e1, e2⟩ := frS_some (m := m) (D := D) (t := i) (by omega)
    rw [hx] at e1; cases e1
    rw [e2]
    show (decide (i < D.length) && decide (x = x)) = true
    rw [decide_eq_true (show i < D.length by omega)]; simp
  · refine .inr ⟨rfl, ?_⟩
    by_cases c : i + 1 < D.length
    · obtain ⟨y, e1, e2⟩ := frS_some (m := m) (D := D) (t := i + 1) c
      rw [e2]
      have hd := (o.fr e1).2.2.1
      rw [(last_succ hx).1] at hd
      show (decide (i + 1 < D.length) && decide (x = y)) = false
      rw [decide_eq_false (show ¬ x = y from fun e => hd e.symm)]; simp
    · cases frS m D (i + 1) with
      | none => rfl
      | some g =>
        show (decide (i + 1 < D.length) && decide (x = g)) = false
        rw [decide_eq_false c]; rfl
end SF

/-! P75d: what _law_kept_up, _law_step promise (k75). -/
namespace SF
open PySem L2
/-- where the run's things stand -/
structure Ad75 where
  src : Addr
  d1 : Addr
  snk : Addr
  d2 : Addr
  ln : Addr
  sn : Addr
  pu : Addr
  e : Addr
/-- the run's things: m, D put, t told, k taken; n and k0 frames lie on the lines -/
def Z75 (K : Fg) (A : Ad75) (m : Int) (D : List Int) (t k n k0 : Nat) (l : List (Addr × HO)) (S H : Hp) : Prop := ∃ vd vd2 v0 v1 b0 r0 b1 r1,
  Owns S H ((A.src, srcO K A.d1 m vd t (frS m D t)) :: (A.snk, snkO K A.d2 m vd2 (frK m D k)) :: (A.ln, .lst [v0, v1]) :: (A.sn, lstI ((W75 m D).take n)) :: (A.pu, lstI D) :: l) ∧
  Rk K S (tupI D) vd ∧ Rk K S (tupI (D.take k)) vd2 ∧ Rk K S (lineD b0 r0) v0 ∧ Rk K S (lineD b1 r1) v1 ∧ Line75 (W75 m D) n k (lineQ b0 r0) ∧ Line75 (W75 m D) k0 t (lineQ b1 r1) ∧ Ok75 m D t k ∧ n ≤ D.length ∧ k0 ≤ D.length
def sp_law_kept_up (K : Fg) : Sp := fun vs H Q _ => ∃ S A m D t k n k0 l, vs = [.ref A.e, .ref A.ln, .ref A.sn, .ref A.pu] ∧ S A.e = some (.tup [.ref A.src, .ref A.snk]) ∧ Z75 K A m D t k n k0 l S H ∧
  (n ≤ nS D t ∧ nS D t ≤ n + 1) ∧ (k0 ≤ k ∧ k ≤ k0 + 1) ∧ D.length ≤ 1000 ∧ ∀ S' H', Ex S S' → Z75 K A m D t k (nS D t) k l S' H' → Q (.bl true) H'
theorem len_law_kept_up {K vs H Q E} (h : sp_law_kept_up K vs H Q E) : vs.length = 4 := by obtain ⟨_, _, _, _, _, _, _, _, _, rfl, _⟩ := h; rfl
def sp_law_step (K : Fg) : Sp := fun vs H Q _ => ∃ S A m D t k l a c o cs, vs = [.ref a, .int m, .ref A.e, .ref A.ln, .ref A.sn, .ref A.pu] ∧ S A.e = some (.tup [.ref A.src, .ref A.snk]) ∧ Z75 K A m D t k (nS D t) k ((a, o) :: l) S H ∧
  IsHand c o ∧ S c = some (lstI cs) ∧ excOk75 K ∧ D.length ≤ 70 ∧ ∀ S' H' D' t' k' o', D'.length ≤ 70 → Ex S S' → IsHand c o' → Z75 K A m D' t' k' (nS D' t') k' ((a, o') :: l) S' H' → Q (.bl true) H'
theorem len_law_step {K vs H Q E} (h : sp_law_step K vs H Q E) : vs.length = 6 := by obtain ⟨_, _, _, _, _, _, _, _, _, _, _, rfl, _⟩ := h; rfl
end SF


namespace SF
open PySem L2
abbrev e_law_kept_up_1 (K : Fg) (E : XK) : TE := (fun σ H Q => ∃ v2, σ[2]? = some (some v2) ∧ tyV K "list" v2 H ∧ ∃ v4, σ[4]? = some (some v4) ∧ ∃ a1 dx1 fs1 v3, v4 = .ref a1 ∧ H a1 = some (.ins (ga K "StreamSource") dx1 fs1) ∧ fs1.lookup ("frame" : Str) = some v3 ∧ rAppend v2 [v3] H Q)
abbrev e_law_kept_up_2 (K : Fg) (E : XK) : TT := (fun σ H Q => ∃ v5, σ[2]? = some (some v5) ∧ 0 ≤ sizeLine ∧ ∀ p1, H p1 = none → rEqD K v5 (V.ref p1) (upd H p1 (.lst [])) (fun x1 h1 => ∃ c1, x1 = .bl c1 ∧ if c1 = true then Q true h1 else ∃ v6, σ[2]? = some (some v6) ∧ rNeg (V.int 1) h1 (fun x2 h2 => rIxL K v6 x2 h2 (fun x3 h3 => ∃ v8, σ[4]? = some (some v8) ∧ ∃ a2 dx2 fs2 v7, v8 = .ref a2 ∧ h3 a2 = some (.ins (ga K "StreamSource") dx2 fs2) ∧ fs2.lookup ("frame" : Str) = some v7 ∧ rNe x3 v7 h3 (fun x4 h4 => ∃ c2, x4 = .bl c2 ∧ Q c2 h4)))))
abbrev e_law_kept_up_3 (K : Fg) (E : XK) : TE := (fun σ H Q => ∃ v10, σ[1]? = some (some v10) ∧ rIxL K v10 (V.int 0) H (fun x5 h5 => ∃ v12, σ[4]? = some (some v12) ∧ ∃ a3 dx3 fs3 v11, v12 = .ref a3 ∧ h5 a3 = some (.ins (ga K "StreamSource") dx3 fs3) ∧ fs3.lookup ("frame" : Str) = some v11 ∧ sp_law_put K [x5, v11] h5 Q E0))
abbrev e_law_kept_up_4 (K : Fg) (E : XK) : TT := (fun σ H Q => ∃ v14, σ[4]? = some (some v14) ∧ ∃ a4 dx4 fs4 v13, v14 = .ref a4 ∧ H a4 = some (.ins (ga K "StreamSource") dx4 fs4) ∧ fs4.lookup ("frame" : Str) = some v13 ∧ oNotN v13 V.non H (fun x6 h6 => ∃ c3, x6 = .bl c3 ∧ Q c3 h6))
abbrev e_law_kept_up_5 (K : Fg) (E : XK) : TE := (fun σ H Q => ∃ v16, σ[1]? = some (some v16) ∧ rIxL K v16 (V.int 1) H (fun x7 h7 => ∃ v18, σ[5]? = some (some v18) ∧ ∃ a5 dx5 fs5 v17, v18 = .ref a5 ∧ h7 a5 = some (.ins (ga K "StreamSink") dx5 fs5) ∧ fs5.lookup ("frame" : Str) = some v17 ∧ sp_law_put K [x7, v17] h7 Q E0))
abbrev e_law_kept_up_6 (K : Fg) (E : XK) : TT := (fun σ H Q => ∃ v20, σ[5]? = some (some v20) ∧ ∃ a6 dx6 fs6 v19, v20 = .ref a6 ∧ H a6 = some (.ins (ga K "StreamSink") dx6 fs6) ∧ fs6.lookup ("frame" : Str) = some v19 ∧ oNotN v19 V.non H (fun x8 h8 => ∃ c4, x8 = .bl c4 ∧ Q c4 h8))
abbrev e_law_kept_up_7 (K : Fg) (E : XK) : TT := (fun σ H Q => ∃ v22, σ[4]? = some (some v22) ∧ ∃ a7 dx7 fs7 v21, v22 = .ref a7 ∧ H a7 = some (.ins (ga K "StreamSource") dx7 fs7) ∧ fs7.lookup ("digits" : Str) = some v21 ∧ ∃ v23, σ[3]? = some (some v23) ∧ rTupQ K [v23] H (fun x9 h9 => sp_law_exact K 4 [v21, x9] h9 (fun x10 h10 => ∃ c5, x10 = .bl c5 ∧ if (!c5) = true then Q true h10 else ∃ v25, σ[5]? = some (some v25) ∧ ∃ a8 dx8 fs8 v24, v25 = .ref a8 ∧ h10 a8 = some (.ins (ga K "StreamSink") dx8 fs8) ∧ fs8.lookup ("digits" : Str) = some v24 ∧ rIsi K [v24, (V.ty "tuple")] h10 (fun x11 h11 => ∃ c6, x11 = .bl c6 ∧ Q (!c6) h11)) E0))
abbrev e_law_kept_up_8 (K : Fg) (E : XK) : TE := (fun σ H Q => ∃ v27, σ[4]? = some (some v27) ∧ ∃ a9 dx9 fs9 v26, v27 = .ref a9 ∧ H a9 = some (.ins (ga K "StreamSource") dx9 fs9) ∧ fs9.lookup ("told" : Str) = some v26 ∧ Q v26 H)
abbrev e_law_kept_up_9 (K : Fg) (E : XK) : TT := (fun σ H Q => ∃ v28, σ[6]? = some (some v28) ∧ ∃ v29, σ[3]? = some (some v29) ∧ rLenQ K [v29] H (fun x12 h12 => sp_law_whole K [v28, (V.int 0), x12] h12 (fun x13 h13 => ∃ c7, x13 = .bl c7 ∧ if (!c7) = true then Q true h13 else ∃ v31, σ[5]? = some (some v31) ∧ ∃ a10 dx10 fs10 v30, v31 = .ref a10 ∧ h13 a10 = some (.ins (ga K "StreamSink") dx10 fs10) ∧ fs10.lookup ("digits" : Str) = some v30 ∧ rLenQ K [v30] h13 (fun x14 h14 => ∃ v32, σ[6]? = some (some v32) ∧ ∃ v33, σ[6]? = some (some v33) ∧ oAdd v33 (V.int 1) h14 (fun x15 h15 => 2 ≤ sizeLine ∧ ∀ p2, h15 p2 = none → rIn K true x14 (V.ref p2) (upd h15 p2 (.tup [v32, x15])) (fun x16 h16 => ∃ c8, x16 = .bl c8 ∧ Q c8 h16)))) E0))
abbrev e_law_kept_up_10 (K : Fg) (E : XK) : TE := (fun σ H Q => ∃ v35, σ[5]? = some (some v35) ∧ ∃ a11 dx11 fs11 v34, v35 = .ref a11 ∧ H a11 = some (.ins (ga K "StreamSink") dx11 fs11) ∧ fs11.lookup ("digits" : Str) = some v34 ∧ ∃ v36, σ[3]? = some (some v36) ∧ ∃ v38, σ[5]? = some (some v38) ∧ ∃ a12 dx12 fs12 v37, v38 = .ref a12 ∧ H a12 = some (.ins (ga K "StreamSink") dx12 fs12) ∧ fs12.lookup ("digits" : Str) = some v37 ∧ rLenQ K [v37] H (fun x17 h17 => ∃ i1, x17 = .int i1 ∧ rSlL K v36 none (some i1) h17 (fun x18 h18 => rTupQ K [x18] h18 (fun x19 h19 => sp_law_exact K 4 [v34, x19] h19 (fun x20 h20 => ∃ c9, x20 = .bl c9 ∧ if c9 = true then ∃ v39, σ[2]? = some (some v39) ∧ rLenQ K [v39] h20 (fun x21 h21 => ∃ v40, σ[6]? = some (some v40) ∧ oAdd v40 (V.int 1) h21 (fun x22 h22 => ∃ v41, σ[3]? = some (some v41) ∧ rLenQ K [v41] h22 (fun x23 h23 => rMin2 [x22, x23] h23 (fun x24 h24 => rEq x21 x24 h24 Q)))) else Q (V.bl false) h20) E0))))
def t_law_kept_up_1 (K : Fg) (E : XK) : TS :=
    tSeq (tAsg (e_law_kept_up_8 K E) (gName 6))
    (tSeq (tIfS (e_law_kept_up_9 K E)
      (tRet (fun σ H Q => Q (V.bl false) H))
      (tNext))
    (tRet (e_law_kept_up_10 K E)))
def t_law_kept_up_2 (K : Fg) (E : XK) : TS :=
    tSeq (tIfS (e_law_kept_up_6 K E)
      (tAsg (e_law_kept_up_5 K E) (fun v σ H Q => ∃ v15, σ[1]? = some (some v15) ∧ rSetL v15 (V.int 1) v H (fun h9 => Q σ h9)))
      (tNext))
    (tSeq (tIfS (e_law_kept_up_7 K E)
      (tRet (fun σ H Q => Q (V.bl false) H))
      (tNext))
    (t_law_kept_up_1 K E))
def t_law_kept_up (K : Fg) (E : XK) : TS :=
    tSeq (tAsg (fun σ H Q => ∃ v1, σ[0]? = some (some v1) ∧ Q v1 H) (gTup K 2 (gCons (gName 4) (gCons (gName 5) gNil))))
    (tSeq (tIfS (e_law_kept_up_4 K E)
      (tSeq (tIfS (e_law_kept_up_2 K E)
          (tDrop (e_law_kept_up_1 K E))
          (tNext))
        (tAsg (e_law_kept_up_3 K E) (fun v σ H Q => ∃ v9, σ[1]? = some (some v9) ∧ rSetL v9 (V.int 0) v H (fun h9 => Q σ h9))))
      (tNext))
    (t_law_kept_up_2 K E))

abbrev e_law_step_1 (K : Fg) (E : XK) : TE := (fun σ H Q => ∃ v2, σ[0]? = some (some v2) ∧ sp_law_draw K [v2, (V.int 5)] H Q E0)
abbrev e_law_step_2 (K : Fg) (E : XK) : TE := (fun σ H Q => ∃ v4, σ[0]? = some (some v4) ∧ ∃ v5, σ[1]? = some (some v5) ∧ oSub v5 (V.int 1) H (fun x2 h2 => sp_law_draw K [v4, x2] h2 Q E0))
abbrev e_law_step_3 (K : Fg) (E : XK) : TE := (fun σ H Q => ∃ v6, σ[5]? = some (some v6) ∧ tyV K "list" v6 H ∧ ∃ v7, σ[9]? = some (some v7) ∧ rExtend v6 [v7] H Q)
abbrev e_law_step_4 (K : Fg) (E : XK) : TT := (fun σ H Q => ∃ v8, σ[1]? = some (some v8) ∧ ∃ v9, σ[0]? = some (some v9) ∧ ∃ v10, σ[9]? = some (some v10) ∧ sp_law_seq K [v9, v10] H (fun x3 h3 => ∃ v11, σ[6]? = some (some v11) ∧ sp_law_asked K [(V.int 4), v8, x3, v11] h3 (fun x4 h4 => 2 ≤ sizeLine ∧ ∀ p1, h4 p1 = none → rNeD K x4 (V.ref p1) (upd h4 p1 (.tup [(V.str "told"), V.non])) (fun x5 h5 => ∃ c1, x5 = .bl c1 ∧ Q c1 h5)) E0) E0)
abbrev e_law_step_5 (K : Fg) (E : XK) : TE := (fun σ H Q => ∃ v12, σ[1]? = some (some v12) ∧ oSub v12 (V.int 1) H (fun x6 h6 => rNeg (V.int 1) h6 (fun x7 h7 => 4 ≤ sizeLine ∧ ∀ p3, h7 p3 = none → ∃ v13, σ[0]? = some (some v13) ∧ sp_law_draw K [v13, (V.int 4)] (upd h7 p3 (.lst [x6, x7, (V.bl true), (V.str "0")])) (fun x8 h8 => rIxL K (V.ref p3) x8 h8 (fun x9 h9 => 2 ≤ sizeLine ∧ ∀ p2, h9 p2 = none → Q (V.ref p2) (upd h9 p2 (.lst [(V.int 0), x9])))) E0)))
abbrev e_law_step_6 (K : Fg) (E : XK) : TT := (fun σ H Q => ∃ v14, σ[1]? = some (some v14) ∧ ∃ v15, σ[10]? = some (some v15) ∧ ∃ v16, σ[6]? = some (some v16) ∧ sp_law_asked K [(V.int 4), v14, v15, v16] H (fun x10 h10 => 2 ≤ sizeLine ∧ ∀ p4, h10 p4 = none → sp_law_exact K 4 [x10, (V.ref p4)] (upd h10 p4 (.tup [(V.str "digits"), (V.int 1)])) (fun x11 h11 => ∃ c2, x11 = .bl c2 ∧ Q (!c2) h11) E0) E0)
abbrev e_law_step_7 (K : Fg) (E : XK) : TT := (fun σ H Q => ∃ v17, σ[1]? = some (some v17) ∧ 3 ≤ sizeLine ∧ ∀ p5, H p5 = none → ∃ v18, σ[0]? = some (some v18) ∧ sp_law_draw K [v18, (V.int 3)] (upd H p5 (.lst [V.non, (V.str "0"), (V.int 0)])) (fun x12 h12 => rIxL K (V.ref p5) x12 h12 (fun x13 h13 => ∃ v19, σ[6]? = some (some v19) ∧ sp_law_asked K [(V.int 4), v17, x13, v19] h13 (fun x14 h14 => rNeg (V.int 1) h14 (fun x15 h15 => 2 ≤ sizeLine ∧ ∀ p6, h15 p6 = none → sp_law_exact K 4 [x14, (V.ref p6)] (upd h15 p6 (.tup [(V.str "digits"), x15])) (fun x16 h16 => ∃ c3, x16 = .bl c3 ∧ Q (!c3) h16) E0)) E0)) E0)
abbrev e_law_step_8 (K : Fg) (E : XK) : TT := (fun σ H Q => ∃ v20, σ[2]? = some (some v20) ∧ ∃ v21, σ[0]? = some (some v21) ∧ sp_law_draw K [v21, (V.int 2)] H (fun x19 h19 => rIxT K v20 x19 h19 (fun x20 h20 => ∃ a1 dx1 fs1, x20 = .ref a1 ∧ fs1.lookup ("hear" : Str) = none ∧ ((h20 a1 = some (.ins (ga K "StreamSource") dx1 fs1) ∧ ∃ v22, σ[1]? = some (some v22) ∧ rNeg (V.int 1) h20 (fun x21 h21 => ∃ v23, σ[1]? = some (some v23) ∧ oAdd v23 (V.int 5) h21 (fun x22 h22 => 6 ≤ sizeLine ∧ ∀ p7, h22 p7 = none → ∃ v24, σ[0]? = some (some v24) ∧ sp_law_draw K [v24, (V.int 6)] (upd h22 p7 (.lst [v22, x21, (V.bl true), V.non, (V.str "0"), x22])) (fun x23 h23 => rIxL K (V.ref p7) x23 h23 (fun x24 h24 => sp_StreamSource_hear K [x20, x24] h24 (fun x17 h17 => oNotN x17 V.non h17 (fun x18 h18 => ∃ c4, x18 = .bl c4 ∧ Q c4 h18)) E0)) E0))) ∨ (h20 a1 = some (.ins (ga K "StreamSink") dx1 fs1) ∧ ∃ v25, σ[1]? = some (some v25) ∧ rNeg (V.int 1) h20 (fun x25 h25 => ∃ v26, σ[1]? = some (some v26) ∧ oAdd v26 (V.int 5) h25 (fun x26 h26 => 6 ≤ sizeLine ∧ ∀ p8, h26 p8 = none → ∃ v27, σ[0]? = some (some v27) ∧ sp_law_draw K [v27, (V.int 6)] (upd h26 p8 (.lst [v25, x25, (V.bl true), V.non, (V.str "0"), x26])) (fun x27 h27 => rIxL K (V.ref p8) x27 h27 (fun x28 h28 => sp_StreamSink_hear K [x20, x28] h28 (fun x17 h17 => oNotN x17 V.non h17 (fun x18 h18 => ∃ c4, x18 = .bl c4 ∧ Q c4 h18)) E0)) E0)))))) E0)
abbrev e_law_step_9 (K : Fg) (E : XK) : TE := (fun σ H Q => ∃ v28, σ[0]? = some (some v28) ∧ ∃ v29, σ[3]? = some (some v29) ∧ ∃ v30, σ[8]? = some (some v30) ∧ oMod v30 (V.int 2) H (fun x29 h29 => rIxL K v29 x29 h29 (fun x30 h30 => sp_law_read K [v28, x30] h30 Q E0)))
abbrev e_law_step_10 (K : Fg) (E : XK) : TT := (fun σ H Q => (fun R1 => ∃ v34, σ[8]? = some (some v34) ∧ oMod v34 (V.int 2) H (fun x34 h34 => rEq x34 (V.int 0) h34 (fun x35 h35 => ∃ c6, x35 = .bl c6 ∧ if c6 = true then ∃ v35, σ[7]? = some (some v35) ∧ R1 v35 h35 else ∃ v36, σ[6]? = some (some v36) ∧ R1 v36 h35))) (fun x36 h36 => ∃ a2 dx2 fs2, x36 = .ref a2 ∧ fs2.lookup ("hear" : Str) = none ∧ ((h36 a2 = some (.ins (ga K "StreamSource") dx2 fs2) ∧ ∃ v37, σ[11]? = some (some v37) ∧ rIxT K v37 (V.int 0) h36 (fun x37 h37 => sp_StreamSource_hear K [x36, x37] h37 (fun x32 h32 => oNotN x32 V.non h32 (fun x33 h33 => ∃ c5, x33 = .bl c5 ∧ Q c5 h33)) E0)) ∨ (h36 a2 = some (.ins (ga K "StreamSink") dx2 fs2) ∧ ∃ v38, σ[11]? = some (some v38) ∧ rIxT K v38 (V.int 0) h36 (fun x38 h38 => sp_StreamSink_hear K [x36, x38] h38 (fun x32 h32 => oNotN x32 V.non h32 (fun x33 h33 => ∃ c5, x33 = .bl c5 ∧ Q c5 h33)) E0)))))
abbrev e_law_step_11 (K : Fg) (E : XK) : TT := (fun σ H Q => ∃ v39, σ[11]? = some (some v39) ∧ oNotN v39 V.non H (fun x39 h39 => ∃ c7, x39 = .bl c7 ∧ Q c7 h39))
abbrev e_law_step_12 (K : Fg) (E : XK) : TT := (fun σ H Q => ∃ v40, σ[8]? = some (some v40) ∧ rEq v40 (V.int 1) H (fun x40 h40 => ∃ c8, x40 = .bl c8 ∧ Q c8 h40))
abbrev e_law_step_13 (K : Fg) (E : XK) : TT := (fun σ H Q => ∃ v41, σ[8]? = some (some v41) ∧ rEq v41 (V.int 0) H (fun x41 h41 => ∃ c9, x41 = .bl c9 ∧ if c9 = true then ∃ v42, σ[5]? = some (some v42) ∧ rLenQ K [v42] h41 (fun x42 h42 => oLt x42 (V.int 60) h42 (fun x43 h43 => ∃ c10, x43 = .bl c10 ∧ Q c10 h43)) else Q false h41))
abbrev e_law_step_14 (K : Fg) (E : XK) : TE := (fun σ H Q => ∃ v43, σ[2]? = some (some v43) ∧ ∃ v44, σ[3]? = some (some v44) ∧ ∃ v45, σ[4]? = some (some v45) ∧ ∃ v46, σ[5]? = some (some v46) ∧ sp_law_kept_up K [v43, v44, v45, v46] H Q E0)
def t_law_step_1 (K : Fg) (E : XK) : TS :=
    tSeq (tIfS (e_law_step_7 K E)
              (tRet (fun σ H Q => Q (V.bl false) H))
              (tNext))
            (tIfS (e_law_step_8 K E)
              (tRet (fun σ H Q => Q (V.bl false) H))
              (tNext))
def t_law_step (K : Fg) (E : XK) : TS :=
    tSeq (tAsg (fun σ H Q => ∃ v1, σ[2]? = some (some v1) ∧ Q v1 H) (gTup K 2 (gCons (gName 6) (gCons (gName 7) gNil))))
    (tSeq (tAsg (e_law_step_1 K E) (gName 8))
    (tSeq (tIfS (e_law_step_13 K E)
      (tSeq (tAsg (tLc (fun σ H R => ∃ v3, σ[0]? = some (some v3) ∧ sp_law_draw K [v3, (V.int 7)] H (fun x1 h1 => ∃ j : Int, [x1] = [.int j] ∧ -(2 ^ 62) ≤ j ∧ j < 2 ^ 62 ∧ R (Itr 0 j.toNat) h1) E0) (gName 12) tYes (e_law_step_2 K E) [12]) (gName 9))
        (tSeq (tDrop (e_law_step_3 K E))
        (tIfS (e_law_step_4 K E)
          (tRet (fun σ H Q => Q (V.bl false) H))
          (tNext))))
      (tIfS (e_law_step_12 K E)
          (tSeq (tAsg (e_law_step_5 K E) (gName 10))
            (tSeq (tIfS (e_law_step_6 K E)
              (tRet (fun σ H Q => Q (V.bl false) H))
              (tNext))
            (t_law_step_1 K E)))
          (tSeq (tAsg (e_law_step_9 K E) (gName 11))
            (tIfS (e_law_step_11 K E)
              (tSeq (tAsg (fun σ H Q => ∃ v33, σ[11]? = some (some v33) ∧ Q v33 H) (fun v σ H Q => ∃ v31, σ[3]? = some (some v31) ∧ ∃ v32, σ[8]? = some (some v32) ∧ oMod v32 (V.int 2) H (fun x31 h31 => rSetL v31 x31 v h31 (fun h9 => Q σ h9))))
                (tIfS (e_law_step_10 K E)
                  (tRet (fun σ H Q => Q (V.bl false) H))
                  (tNext)))
              (tNext)))))
    (tRet (e_law_step_14 K E))))

abbrev e_law_1 (K : Fg) (E : XK) : TE := (fun σ H Q => ∃ v1, σ[0]? = some (some v1) ∧ sp_law_hand K [v1] H Q E0)
abbrev e_law_2 (K : Fg) (E : XK) : TE := (fun σ H Q => ∃ v2, σ[1]? = some (some v2) ∧ sp_law_draw K [v2, (V.int 4)] H (fun x1 h1 => oAdd (V.int 3) x1 h1 Q) E0)
abbrev e_law_3 (K : Fg) (E : XK) : TE := (fun σ H Q => ∃ v4, σ[1]? = some (some v4) ∧ ∃ v5, σ[2]? = some (some v5) ∧ oSub v5 (V.int 1) H (fun x3 h3 => sp_law_draw K [v4, x3] h3 Q E0))
abbrev e_law_4 (K : Fg) (E : XK) : TE := (fun σ H Q => (fun R1 => ∃ v6, σ[1]? = some (some v6) ∧ sp_law_draw K [v6, (V.int 2)] H (fun x4 h4 => rEq x4 (V.int 0) h4 (fun x5 h5 => ∃ c1, x5 = .bl c1 ∧ if c1 = true then R1 true h5 else ∃ v7, σ[3]? = some (some v7) ∧ 0 ≤ sizeLine ∧ ∀ p1, h5 p1 = none → rNeD K v7 (V.ref p1) (upd h5 p1 (.lst [])) (fun x6 h6 => ∃ c2, x6 = .bl c2 ∧ R1 c2 h6))) E0) (fun x7 h7 => if x7 = true then ∃ v8, σ[2]? = some (some v8) ∧ ∃ v9, σ[1]? = some (some v9) ∧ ∃ v10, σ[3]? = some (some v10) ∧ sp_law_seq K [v9, v10] h7 (fun x8 h8 => ∀ x9 dx1, h8 x9 = none → h8 dx1 = none → dx1 ≠ x9 → sp_StreamSource___init__ K [(.ref x9), v8, x8] (upd (upd h8 dx1 (.own x9)) x9 (.ins (ga K "StreamSource") dx1 [])) (fun v11 h9 => v11 = .non ∧ Q (V.ref x9) h9) E) E0 else ∃ v12, σ[2]? = some (some v12) ∧ ∀ x10 dx2, h7 x10 = none → h7 dx2 = none → dx2 ≠ x10 → sp_StreamSource___init__ K [(.ref x10), v12, .ref (dfT K)] (upd (upd h7 dx2 (.own x10)) x10 (.ins (ga K "StreamSource") dx2 [])) (fun v13 h10 => v13 = .non ∧ Q (V.ref x10) h10) E))
abbrev e_law_5 (K : Fg) (E : XK) : TE := (fun σ H Q => ∃ v14, σ[2]? = some (some v14) ∧ ∀ x11 dx3, H x11 = none → H dx3 = none → dx3 ≠ x11 → sp_StreamSink___init__ K [(.ref x11), v14] (upd (upd H dx3 (.own x11)) x11 (.ins (ga K "StreamSink") dx3 [])) (fun v15 h11 => v15 = .non ∧ Q (V.ref x11) h11) E)
abbrev e_law_6 (K : Fg) (E : XK) : TE := (fun σ H Q => ∃ v16, σ[4]? = some (some v16) ∧ ∃ v17, σ[5]? = some (some v17) ∧ 2 ≤ sizeLine ∧ ∀ p2, H p2 = none → Q (V.ref p2) (upd H p2 (.tup [v16, v17])))
abbrev e_law_7 (K : Fg) (E : XK) : TE := (fun σ H Q => 0 ≤ sizeLine ∧ ∀ p5, H p5 = none → 2 ≤ sizeLine ∧ ∀ p4, (upd H p5 (.tup [])) p4 = none → 0 ≤ sizeLine ∧ ∀ p7, (upd (upd H p5 (.tup [])) p4 (.tup [V.non, (V.ref p5)])) p7 = none → 2 ≤ sizeLine ∧ ∀ p6, (upd (upd (upd H p5 (.tup [])) p4 (.tup [V.non, (V.ref p5)])) p7 (.tup [])) p6 = none → 2 ≤ sizeLine ∧ ∀ p3, (upd (upd (upd (upd H p5 (.tup [])) p4 (.tup [V.non, (V.ref p5)])) p7 (.tup [])) p6 (.tup [V.non, (V.ref p7)])) p3 = none → Q (V.ref p3) (upd (upd (upd (upd (upd H p5 (.tup [])) p4 (.tup [V.non, (V.ref p5)])) p7 (.tup [])) p6 (.tup [V.non, (V.ref p7)])) p3 (.lst [(V.ref p4), (V.ref p6)])))
abbrev e_law_8 (K : Fg) (E : XK) : TE := (fun σ H Q => 0 ≤ sizeLine ∧ ∀ p8, H p8 = none → Q (V.ref p8) (upd H p8 (.lst [])))
abbrev e_law_9 (K : Fg) (E : XK) : TT := (fun σ H Q => ∃ v19, σ[5]? = some (some v19) ∧ ∃ a1 dx4 fs1 v18, v19 = .ref a1 ∧ H a1 = some (.ins (ga K "StreamSink") dx4 fs1) ∧ fs1.lookup ("frame" : Str) = some v18 ∧ oNotN v18 V.non H (fun x12 h12 => ∃ c3, x12 = .bl c3 ∧ if c3 = true then Q true h12 else ∃ v21, σ[4]? = some (some v21) ∧ ∃ a2 dx5 fs2 v20, v21 = .ref a2 ∧ h12 a2 = some (.ins (ga K "StreamSource") dx5 fs2) ∧ fs2.lookup ("told" : Str) = some v20 ∧ rNe v20 (V.int 0) h12 (fun x13 h13 => ∃ c4, x13 = .bl c4 ∧ if c4 = true then Q true h13 else ∃ v22, σ[6]? = some (some v22) ∧ ∃ v23, σ[7]? = some (some v23) ∧ ∃ v24, σ[8]? = some (some v24) ∧ ∃ v25, σ[3]? = some (some v25) ∧ sp_law_kept_up K [v22, v23, v24, v25] h13 (fun x14 h14 => ∃ c5, x14 = .bl c5 ∧ Q (!c5) h14) E0)))
abbrev e_law_10 (K : Fg) (E : XK) : TT := (fun σ H Q => ∃ v27, σ[1]? = some (some v27) ∧ ∃ v28, σ[2]? = some (some v28) ∧ ∃ v29, σ[6]? = some (some v29) ∧ ∃ v30, σ[7]? = some (some v30) ∧ ∃ v31, σ[8]? = some (some v31) ∧ ∃ v32, σ[3]? = some (some v32) ∧ sp_law_step K [v27, v28, v29, v30, v31, v32] H (fun x17 h17 => ∃ c6, x17 = .bl c6 ∧ Q (!c6) h17) E0)
abbrev e_law_11 (K : Fg) (E : XK) : TE := (fun σ H Q => ∃ v34, σ[7]? = some (some v34) ∧ ∃ v35, σ[10]? = some (some v35) ∧ rIxL K v34 v35 H Q)
abbrev e_law_12 (K : Fg) (E : XK) : TE := (fun σ H Q => ∃ v38, σ[12]? = some (some v38) ∧ 0 ≤ sizeLine ∧ ∀ p9, H p9 = none → rNeD K v38 (V.ref p9) (upd H p9 (.tup [])) (fun x21 h21 => ∃ c7, x21 = .bl c7 ∧ if c7 = true then ∃ v39, σ[12]? = some (some v39) ∧ rNeg (V.int 1) h21 (fun x22 h22 => rIxT K v39 x22 h22 (fun x23 h23 => 0 ≤ sizeLine ∧ ∀ p11, h23 p11 = none → 2 ≤ sizeLine ∧ ∀ p10, (upd h23 p11 (.tup [])) p10 = none → Q (V.ref p10) (upd (upd h23 p11 (.tup [])) p10 (.tup [x23, (V.ref p11)])))) else ∃ v40, σ[11]? = some (some v40) ∧ 0 ≤ sizeLine ∧ ∀ p13, h21 p13 = none → 2 ≤ sizeLine ∧ ∀ p12, (upd h21 p13 (.tup [])) p12 = none → Q (V.ref p12) (upd (upd h21 p13 (.tup [])) p12 (.tup [v40, (V.ref p13)]))))
abbrev e_law_13 (K : Fg) (E : XK) : TE := (fun σ H Q => ∃ v41, σ[6]? = some (some v41) ∧ ∃ v42, σ[10]? = some (some v42) ∧ oSub (V.int 1) v42 H (fun x24 h24 => rIxT K v41 x24 h24 (fun x25 h25 => ∃ a3 dx6 fs3, x25 = .ref a3 ∧ fs3.lookup ("hear" : Str) = none ∧ ((h25 a3 = some (.ins (ga K "StreamSource") dx6 fs3) ∧ ∃ v43, σ[7]? = some (some v43) ∧ ∃ v44, σ[10]? = some (some v44) ∧ rIxL K v43 v44 h25 (fun x26 h26 => rIxT K x26 (V.int 0) h26 (fun x27 h27 => sp_StreamSource_hear K [x25, x27] h27 Q E0))) ∨ (h25 a3 = some (.ins (ga K "StreamSink") dx6 fs3) ∧ ∃ v45, σ[7]? = some (some v45) ∧ ∃ v46, σ[10]? = some (some v46) ∧ rIxL K v45 v46 h25 (fun x28 h28 => rIxT K x28 (V.int 0) h28 (fun x29 h29 => sp_StreamSink_hear K [x25, x29] h29 Q E0)))))))
abbrev e_law_14 (K : Fg) (E : XK) : TT := (fun σ H Q => ∃ v47, σ[6]? = some (some v47) ∧ ∃ v48, σ[7]? = some (some v48) ∧ ∃ v49, σ[8]? = some (some v49) ∧ ∃ v50, σ[3]? = some (some v50) ∧ sp_law_kept_up K [v47, v48, v49, v50] H (fun x30 h30 => ∃ c8, x30 = .bl c8 ∧ Q (!c8) h30) E0)
abbrev e_law_15 (K : Fg) (E : XK) : TT := (fun σ H Q => ∃ v51, σ[12]? = some (some v51) ∧ 0 ≤ sizeLine ∧ ∀ p14, H p14 = none → rNeD K v51 (V.ref p14) (upd H p14 (.tup [])) (fun x31 h31 => ∃ c9, x31 = .bl c9 ∧ if c9 = true then Q true h31 else ∃ v52, σ[11]? = some (some v52) ∧ oNotN v52 V.non h31 (fun x32 h32 => ∃ c10, x32 = .bl c10 ∧ Q c10 h32)))
abbrev e_law_16 (K : Fg) (E : XK) : TT := (fun σ H Q => ∃ v54, σ[4]? = some (some v54) ∧ ∃ a4 dx7 fs4 v53, v54 = .ref a4 ∧ H a4 = some (.ins (ga K "StreamSource") dx7 fs4) ∧ fs4.lookup ("told" : Str) = some v53 ∧ ∃ v55, σ[3]? = some (some v55) ∧ rLenQ K [v55] H (fun x33 h33 => rNe v53 x33 h33 (fun x34 h34 => ∃ c11, x34 = .bl c11 ∧ if c11 = true then Q true h34 else ∃ v57, σ[5]? = some (some v57) ∧ ∃ a5 dx8 fs5 v56, v57 = .ref a5 ∧ h34 a5 = some (.ins (ga K "StreamSink") dx8 fs5) ∧ fs5.lookup ("digits" : Str) = some v56 ∧ ∃ v58, σ[3]? = some (some v58) ∧ rTupQ K [v58] h34 (fun x35 h35 => sp_law_exact K 4 [v56, x35] h35 (fun x36 h36 => ∃ c12, x36 = .bl c12 ∧ if (!c12) = true then Q true h36 else ∃ v59, σ[8]? = some (some v59) ∧ rTupQ K [v59] h36 (fun x37 h37 => ∃ v60, σ[2]? = some (some v60) ∧ ∃ v61, σ[3]? = some (some v61) ∧ sp_law_word K [v60, v61] h37 (fun x38 h38 => rNeD K x37 x38 h38 (fun x39 h39 => ∃ c13, x39 = .bl c13 ∧ Q c13 h39)) E0)) E0))))
abbrev e_law_17 (K : Fg) (E : XK) : TE := (fun σ H Q => ∃ v62, σ[1]? = some (some v62) ∧ sp_law_words K [v62] H Q E0)
def t_law_1 (K : Fg) (E : XK) : TS :=
    tSeq (tAsg (e_law_11 K E) (gTup K 2 (gCons (gName 11) (gCons (gName 12) gNil))))
            (tIfS (e_law_15 K E)
              (tSeq (tAsg (e_law_12 K E) (fun v σ H Q => ∃ v36, σ[7]? = some (some v36) ∧ ∃ v37, σ[10]? = some (some v37) ∧ rSetL v36 v37 v H (fun h9 => Q σ h9)))
                (tSeq (tDrop (e_law_13 K E))
                (tIfS (e_law_14 K E)
                  (tRet (fun σ H Q => Q (V.bl false) H))
                  (tNext))))
              (tNext))
def t_law_2 (K : Fg) (E : XK) : TS :=
    tFor (fun σ H R => ∃ j : Int, [(V.int 2)] = [.int j] ∧ -(2 ^ 62) ≤ j ∧ j < 2 ^ 62 ∧ R (Itr 0 j.toNat) H) (gName 10)
          (t_law_1 K E)
def t_law_3 (K : Fg) (E : XK) : TS :=
    tSeq (tFor (fun σ H R => ∃ v26, σ[1]? = some (some v26) ∧ sp_law_draw K [v26, (V.int 60)] H (fun x15 h15 => oAdd (V.int 20) x15 h15 (fun x16 h16 => ∃ j : Int, [x16] = [.int j] ∧ -(2 ^ 62) ≤ j ∧ j < 2 ^ 62 ∧ R (Itr 0 j.toNat) h16)) E0) (gName 9)
      (tIfS (e_law_10 K E)
          (tRet (fun σ H Q => Q (V.bl false) H))
          (tNext)))
    (tSeq (tFor (fun σ H R => ∃ v33, σ[3]? = some (some v33) ∧ rLenQ K [v33] H (fun x18 h18 => oMul (V.int 2) x18 h18 (fun x19 h19 => oAdd x19 (V.int 4) h19 (fun x20 h20 => ∃ j : Int, [x20] = [.int j] ∧ -(2 ^ 62) ≤ j ∧ j < 2 ^ 62 ∧ R (Itr 0 j.toNat) h20)))) (gName 9)
      (t_law_2 K E))
    (tSeq (tIfS (e_law_16 K E)
      (tRet (fun σ H Q => Q (V.bl false) H))
      (tNext))
    (tRet (e_law_17 K E))))
def t_law (K : Fg) (E : XK) : TS :=
    tSeq (tAsg (e_law_1 K E) (gName 1))
    (tSeq (tAsg (e_law_2 K E) (gName 2))
    (tSeq (tAsg (tLc (fun σ H R => ∃ v3, σ[1]? = some (some v3) ∧ sp_law_draw K [v3, (V.int 6)] H (fun x2 h2 => ∃ j : Int, [x2] = [.int j] ∧ -(2 ^ 62) ≤ j ∧ j < 2 ^ 62 ∧ R (Itr 0 j.toNat) h2) E0) (gName 9) tYes (e_law_3 K E) [9]) (gName 3))
    (tSeq (tAsg (e_law_4 K E) (gName 4))
    (tSeq (tAsg (e_law_5 K E) (gName 5))
    (tSeq (tAsg (e_law_6 K E) (gName 6))
    (tSeq (tAsg (e_law_7 K E) (gName 7))
    (tSeq (tAsg (e_law_8 K E) (gName 8))
    (tSeq (tIfS (e_law_9 K E)
      (tRet (fun σ H Q => Q (V.bl false) H))
      (tNext))
    (t_law_3 K E)))))))))

end SF

/-! R75o: the reading of _law_kept_up. -/
namespace SF
open PySem L2
section
variable {K : Fg} {vs : List V} {S H : Hp} {Q : VK} {E : XK} {A : Ad75} {m : Int} {D : List Int} {t k n k0 : Nat} {l : List (Addr × HO)} {nx : L2.St → Hp → Prop}
theorem exOk_tupI {ns : List Int} (h : ns.length ≤ 100000) : exOk 3 (tupI ns) = true := by
  unfold tupI
  simp [exOk, exOks_ints, h]
theorem exact_tup {ns : List Int} {u v : V} {H : Hp} (hx : Rk K H (tupI ns) u) (hy : Rk K H (tupI ns) v) (hl : ns.length ≤ 100000) (k : ∀ H', Ex H H' → Q (.bl true) H') : sp_law_exact K 4 [u, v] H Q E :=
  ⟨_, u, v, rfl, hx, hy, exOk_tupI hl, k⟩
theorem Z75.call {H' : Hp} (z : Z75 K A m D t k n k0 l S H) (e : Ex H H') : Z75 K A m D t k n k0 l S H' := by
  obtain ⟨vd, vd2, v0, v1, b0, r0, b1, r1, w, r⟩ := z
  exact ⟨vd, vd2, v0, v1, b0, r0, b1, r1, w.call e, r⟩
theorem ku_1 {u6 : Option V} (z : Z75 K A m D t k (nS D t) k l S H) (hl : D.length ≤ 1000) (kk : ∀ H', Ex H H' → Q (.bl true) H') :
    t_law_kept_up_1 K E { nx := nx, rt := Q } [some (.ref A.e), some (.ref A.ln), some (.ref A.sn), some (.ref A.pu), some (.ref A.src), some (.ref A.snk), u6] H := by
  obtain ⟨vd, vd2, v0, v1, b0, r0, b1, r1, w, h1, h2, h3, h4, h5, h6, o, h7, h8⟩ := z
  have hk := o.hk
  have ht := o.ht
  have hkl : k ≤ D.length := by omega
  refine ⟨_, rfl, A.src, A.d1, _, .int t, rfl, w.get 0, rfl, ?_⟩
  obtain ⟨ad, xs, rfl, g1, g2⟩ := h2.tup'
  have hx := rks_ints g2
  subst hx
  have hlt : (D.take k).length = k := by rw [List.length_take]; omega
  refine ⟨_, rfl, _, rfl, A.pu, _, rfl, .inl (.inl (.inl (w.get 4))), t, 0, _, rfl, fun H1 e1 => ?_⟩
  have w1 := w.call e1
  have c7 : (decide ((0 : Int) ≤ (t : Int)) && decide ((t : Int) ≤ ((D.map V.int).length : Int))) = true := by
    rw [List.length_map, decide_eq_true (by omega), decide_eq_true (by omega)]; rfl
  rw [c7]
  refine ⟨_, rfl, iteF ⟨_, rfl, A.snk, A.d2, _, .ref ad, rfl, w1.get 1, rfl, ad, _, rfl, .inr (ex_t w1.ex g1), _, rfl, _, rfl, _, _, rfl, rfl, (by show 2 ≤ sizeLine; decide), fun p2 hp2 => ?_⟩⟩
  have e2 : Ex H1 (upd H1 p2 (.tup [.int (t : Int), .int ((t : Int) + 1)])) := Ex.new hp2
  refine ⟨p2, _, rfl, .inr (.of upd_same), rfl, rfl, ?_⟩
  have hin : inV (.int (((D.take k).map V.int).length : Int)) [.int (t : Int), .int ((t : Int) + 1)] = true := by
    rw [List.length_map, hlt]
    rcases hk with rfl | ⟨rfl, _⟩
    · simp [inV, eqV]
    · simp [inV, eqV]
  rw [hin]
  have w2 := w1.call e2
  refine ⟨_, rfl, iteF ?_⟩
  refine ⟨_, rfl, A.snk, A.d2, _, .ref ad, rfl, w2.get 1, rfl, _, rfl, _, rfl, A.snk, A.d2, _, .ref ad, rfl, w2.get 1, rfl, ad, _, rfl, .inr (ex_t w2.ex g1), _, rfl, A.pu, _, rfl, .inl (.inl (w2.get 4)), fun q hq => ?_⟩
  rw [List.length_map, hlt]
  have ec : cutV (D.map V.int) none (some (k : Int)) = (D.take k).map V.int := by
    unfold cutV
    rw [HT.sIx_none, HT.sIx_nat, List.drop_zero, Nat.sub_zero, Nat.min_eq_left (by rw [List.length_map]; omega), List.map_take]
  rw [ec]
  have e3 : Ex (upd H1 p2 (.tup [.int (t : Int), .int ((t : Int) + 1)])) (upd (upd H1 p2 (.tup [.int (t : Int), .int ((t : Int) + 1)])) q (.lst ((D.take k).map V.int))) := Ex.new hq
  have w3 := w2.call e3
  refine tupQ_of (.inl (.of upd_same)) (rk_ints (D.take k)) fun H4 u e4 r4 => ?_
  have w4 := w3.call e4
  refine exact_tup (ns := D.take k) (.tup (ex_t w4.ex g1) (g2.up w4.ex)) r4 (by omega) fun H5 e5 => ⟨_, rfl, iteT ?_⟩
  have w5 := w4.call e5
  refine ⟨_, rfl, A.sn, _, rfl, .inl (.inl (.inl (w5.get 3))), _, rfl, _, _, rfl, rfl, _, rfl, A.pu, _, rfl, .inl (.inl (.inl (w5.get 4))), _, _, rfl, rfl, ?_⟩
  have c := kk H5 ((((e1.trans e2).trans e3).trans e4).trans e5)
  have en : (if ((D.map V.int).length : Int) < (t : Int) + 1 then ((D.map V.int).length : Int) else (t : Int) + 1) = ((((W75 m D).take (nS D t)).map V.int).length : Int) := by
    rw [List.length_map, List.length_map, List.length_take, W_len]
    unfold nS
    split <;> omega
  rw [en]
  rw [decide_eq_true rfl]
  exact c
theorem lineQ_snoc {b : Option Int} {r : List Int} {x : Int} : lineQ b (r ++ [x]) = lineQ b r ++ [x] := by unfold lineQ; rw [List.append_assoc]
theorem line_len {w q : List Int} {n k : Nat} (h : Line75 w n k q) : q.length ≤ n := by
  obtain ⟨a, rfl, _⟩ := h
  rw [List.length_drop, List.length_take]; omega
theorem tail_len {b : Option Int} {r : List Int} : r.length ≤ (lineQ b r).length := by unfold lineQ; rw [List.length_append]; omega
theorem ku_2 {u6 : Option V} (z : Z75 K A m D t k (nS D t) k0 l S H) (h0 : k0 ≤ k ∧ k ≤ k0 + 1) (hl : D.length ≤ 1000) (kk : ∀ S' H', Ex S S' → Z75 K A m D t k (nS D t) k l S' H' → Q (.bl true) H') :
    t_law_kept_up_2 K E { nx := nx, rt := Q } [some (.ref A.e), some (.ref A.ln), some (.ref A.sn), some (.ref A.pu), some (.ref A.src), some (.ref A.snk), u6] H := by
  -- what is asked behind the line
  have fin : ∀ {S1 H1}, Ex S S1 → Z75 K A m D t k (nS D t) k l S1 H1 → tSeq (tIfS (e_law_kept_up_7 K E) (tRet (fun σ H Q => Q (V.bl false) H)) (tNext)) (t_law_kept_up_1 K E) { nx := nx, rt := Q } [some (.ref A.e), some (.ref A.ln), some (.ref A.sn), some (.ref A.pu), some (.ref A.src), some (.ref A.snk), u6] H1 := by
    intro S1 H1 eS z
    have z0 := z
    obtain ⟨vd, vd2, v0, v1, b0, r0, b1, r1, w, h1, h2, h3, h4, h5, h6, o, h7, h8⟩ := z0
    refine ⟨_, rfl, A.src, A.d1, _, vd, rfl, w.get 0, rfl, _, rfl, tupQ_of (.inl (.inl (.inl (w.get 4)))) (rk_ints D) fun H2 u e2 r2 => ?_⟩
    have w2 := w.call e2
    refine exact_tup (ns := D) ((h1.up w2.ex)) r2 (by omega) fun H3 e3 => ⟨_, rfl, iteF ?_⟩
    have w3 := w2.call e3
    refine ⟨_, rfl, A.snk, A.d2, _, vd2, rfl, w3.get 1, rfl, kIsi_tup (h2.up w3.ex) ⟨_, rfl, iteF ?_⟩⟩
    exact ku_1 ((z.call e2).call e3) hl fun H4 e4 => kk S1 H4 eS (((z.call e2).call e3).call e4)
  have z0 := z
  obtain ⟨vd, vd2, v0, v1, b0, r0, b1, r1, w, h1, h2, h3, h4, h5, h6, o, h7, h8⟩ := z0
  have hk := o.hk
  have ht := o.ht
  rcases Nat.eq_zero_or_pos k with c | c
  · have hx : frK m D k = none := by rw [c]; rfl
    refine ⟨_, rfl, A.snk, A.d2, _, frV (frK m D k), rfl, w.get 1, rfl, rfl, _, rfl, ?_⟩
    rw [hx]
    refine ifF (by rfl) (fin (Ex.refl S) ?_)
    obtain rfl : k0 = k := by omega
    exact z
  · obtain ⟨x, hx1, hx⟩ := frK_eq (m := m) (D := D) c (by omega)
    have w' := w
    rw [hx] at w'
    refine ⟨_, rfl, A.snk, A.d2, _, .int x, rfl, w'.get 1, rfl, rfl, _, rfl, ifT (by rfl) ?_⟩
    refine ⟨_, rfl, A.ln, _, 1, v1, rfl, rfl, .of (w.get 2), by rfl, _, rfl, A.snk, A.d2, _, .int x, rfl, w'.get 1, rfl, S, _, b1, r1, v1, x, rfl, w, h4, ?_, fun S2 H2 u e2 w2 r2 => ?_⟩
    · have := line_len h6
      have := tail_len (b := b1) (r := r1)
      omega
    · have w3 := w2.write (o' := .lst [v0, u]) 2
      refine ⟨_, rfl, A.ln, _, 1, 1, rfl, rfl, w2.get 2, by rfl, ?_⟩
      have hline := h6.put o h0.1 h0.2 ⟨c, hx1⟩
      refine fin e2 ?_
      by_cases q : (lineQ b1 r1).getLast? = some x
      · rw [if_pos q] at r2 hline
        exact ⟨vd, vd2, v0, u, b0, r0, b1, r1, w3, h1.up e2, h2.up e2, h3.up e2, r2, h5, hline, o, h7, by omega⟩
      · rw [if_neg q] at r2 hline
        exact ⟨vd, vd2, v0, u, b0, r0, b1, r1 ++ [x], w3, h1.up e2, h2.up e2, h3.up e2, r2, h5, by rw [lineQ_snoc]; exact hline, o, h7, by omega⟩
/-- is the source's frame a new one? -/
theorem ku_sent {x : Int} {u6 : Option V} {QT : Bool → Hp → Prop} {vd v0 v1 : V} {s2 : HO} (w : Owns S H ((A.src, srcO K A.d1 m vd t (some x)) :: (A.snk, s2) :: (A.ln, .lst [v0, v1]) :: (A.sn, lstI ((W75 m D).take n)) :: (A.pu, lstI D) :: l))
    (o : Ok75 m D t k) (hn : n ≤ nS D t ∧ nS D t ≤ n + 1) (h0 : 0 < nS D t) (hx : (W75 m D)[nS D t - 1]? = some x)
    (kT : ∀ H', Ex H H' → nS D t = n + 1 → QT true H') (kF : ∀ H', Ex H H' → nS D t = n → QT false H') :
    e_law_kept_up_2 K E [some (.ref A.e), some (.ref A.ln), some (.ref A.sn), some (.ref A.pu), some (.ref A.src), some (.ref A.snk), u6] H QT := by
  have hnl : nS D t ≤ D.length := by unfold nS; omega
  refine ⟨_, rfl, Nat.zero_le _, fun p hp => ?_⟩
  have ep : Ex H (upd H p (.lst [])) := Ex.new hp
  have w1 := w.call ep
  refine keqD (d := .list (((W75 m D).take n).map .int)) (e := .list []) (.lst (.inl (.inl (w1.get 3))) (rk_ints _)) (.lst (.of upd_same) .nil) (shaped_ints _) shaped_nil ⟨_, rfl, ?_⟩
  rw [eqv_nil]
  cases n with
  | zero => exact iteT (kT _ ep (by omega))
  | succ z =>
    have hz : z < (W75 m D).length := by rw [W_len]; omega
    have ey : (W75 m D)[z]? = some (W75 m D)[z] := List.getElem?_eq_getElem hz
    generalize hyy : (W75 m D)[z] = y at ey
    have el : ((W75 m D).take (z + 1)).getLast? = some y := (last_succ ey).2
    refine ifF (by rw [takeS ey]; simp) ?_
    refine ⟨_, rfl, 1, rfl, A.sn, _, -1, .int y, rfl, rfl, .of (w1.get 3), last_atI el, _, rfl, A.src, A.d1, _, .int x, rfl, w1.get 0, rfl, rfl, _, rfl, ?_⟩
    rcases (by omega : nS D t = z + 1 ∨ nS D t = z + 2) with e | e
    · rw [e, Nat.add_sub_cancel, ey] at hx
      obtain rfl : y = x := by injection hx
      rw [show (!decide (V.int y = V.int y)) = false by simp]
      exact kF _ ep e
    · rw [e, show z + 2 - 1 = z + 1 from rfl] at hx
      have hd := (o.fr hx).2.2.1
      rw [(last_succ ey).1] at hd
      rw [show (!decide (V.int y = V.int x)) = true by
        rw [Bool.not_eq_true', decide_eq_false_iff_not]
        intro q; injection q with q; exact hd q.symm]
      exact kT _ ep e
theorem rd_law_kept_up (h : sp_law_kept_up K vs H Q E) : t_law_kept_up K E { nx := fun _ H' => Q .non H', rt := Q } (start ["_law_ends", "_law_lines", "_law_sent", "_law_put_here", "_law_source", "_law_sink", "_law_told"] vs) H := by
  obtain ⟨S, A, m, D, t, k, n, k0, l, rfl, he, z, hn, h0, hl, kk⟩ := h
  have z0 := z
  obtain ⟨vd, vd2, v0, v1, b0, r0, b1, r1, w, h1, h2, h3, h4, h5, h6, o, h7, h8⟩ := z0
  refine ⟨_, rfl, A.e, _, rfl, .of (w.ex _ _ he), rfl, _, _, rfl, _, _, rfl, rfl, ?_⟩
  have hnl : nS D t ≤ D.length := by unfold nS; omega
  rcases Nat.eq_zero_or_pos (nS D t) with c | c
  · have hx : frS m D t = none := frS_none c
    refine ⟨_, rfl, A.src, A.d1, _, frV (frS m D t), rfl, w.get 0, rfl, rfl, _, rfl, ?_⟩
    rw [hx]
    refine ifF (by rfl) (ku_2 (k0 := k0) ?_ h0 hl kk)
    rw [show n = nS D t by omega] at z
    exact z
  · obtain ⟨x, hx1, hx⟩ := frS_eq (m := m) c
    have w' := w
    rw [hx] at w'
    refine ⟨_, rfl, A.src, A.d1, _, .int x, rfl, w'.get 0, rfl, rfl, _, rfl, ifT (by rfl) ?_⟩
    -- the line, what is sent known
    have fin : ∀ {H1}, Owns S H1 ((A.src, srcO K A.d1 m vd t (some x)) :: (A.snk, snkO K A.d2 m vd2 (frK m D k)) :: (A.ln, .lst [v0, v1]) :: (A.sn, lstI ((W75 m D).take (nS D t))) :: (A.pu, lstI D) :: l) →
        tAsg (e_law_kept_up_3 K E) (fun v σ H Q => ∃ v9, σ[1]? = some (some v9) ∧ rSetL v9 (V.int 0) v H (fun h9 => Q σ h9)) { nx := t_law_kept_up_2 K E { nx := fun _ H' => Q .non H', rt := Q }, rt := Q } [some (.ref A.e), some (.ref A.ln), some (.ref A.sn), some (.ref A.pu), some (.ref A.src), some (.ref A.snk), none] H1 := by
      intro H1 w1
      refine ⟨_, rfl, A.ln, _, 0, v0, rfl, rfl, .of (w1.get 2), by rfl, _, rfl, A.src, A.d1, _, .int x, rfl, w1.get 0, rfl, S, _, b0, r0, v0, x, rfl, w1, h3, ?_, fun S2 H2 u e2 w2 r2 => ?_⟩
      · have := line_len h5
        have := tail_len (b := b0) (r := r0)
        omega
      · have w3 := w2.write (o' := .lst [u, v1]) 2
        refine ⟨_, rfl, A.ln, _, 0, 0, rfl, rfl, w2.get 2, by rfl, ?_⟩
        have hline := h5.put o hn.1 hn.2 ⟨c, hx1⟩
        refine ku_2 (k0 := k0) ?_ h0 hl fun S3 H3 e3 z3 => kk S3 H3 (e2.trans e3) z3
        rw [← hx] at w3
        by_cases q : (lineQ b0 r0).getLast? = some x
        · rw [if_pos q] at r2 hline
          exact ⟨vd, vd2, u, v1, b0, r0, b1, r1, w3, h1.up e2, h2.up e2, r2, h4.up e2, hline, h6, o, hnl, h8⟩
        · rw [if_neg q] at r2 hline
          exact ⟨vd, vd2, u, v1, b0, r0 ++ [x], b1, r1, w3, h1.up e2, h2.up e2, r2, h4.up e2, by rw [lineQ_snoc]; exact hline, h6, o, hnl, h8⟩
    refine ku_sent (E := E) w' o hn c hx1 (fun H1 e1 hT => ?_) (fun H1 e1 hF => ?_)
    · have w1 := w'.call e1
      refine iteT ⟨_, rfl, tyL (w1.get 3), _, rfl, A.src, A.d1, _, .int x, rfl, w1.get 0, rfl, A.sn, _, _, rfl, rfl, w1.get 3, szl (by rw [List.length_map, List.length_take, W_len]; omega), ?_⟩
      have w2 := w1.write (o' := .lst (((W75 m D).take n).map .int ++ [.int x])) 3
      refine fin ?_
      rw [hT, Nat.add_sub_cancel] at hx1
      rw [hT, takeS hx1]
      unfold lstI
      rw [List.map_append]
      exact w2
    · have w1 := w'.call e1
      refine iteF (fin ?_)
      rw [hF]
      exact w1
end
end SF

/-! R75p: the run's deeds: what is heard; the reading of _law_step. -/
namespace SF
open PySem L2
section
variable {S H : Hp} {p1 p2 p3 p4 p5 q : Addr × HO} {l : List (Addr × HO)}
theorem Owns.front5 (w : Owns S H (p1 :: p2 :: p3 :: p4 :: p5 :: q :: l)) : Owns S H (q :: p1 :: p2 :: p3 :: p4 :: p5 :: l) := w.perm (List.perm_middle (l₁ := [p1, p2, p3, p4, p5])).symm
theorem Owns.back5 (w : Owns S H (q :: p1 :: p2 :: p3 :: p4 :: p5 :: l)) : Owns S H (p1 :: p2 :: p3 :: p4 :: p5 :: q :: l) := w.perm (List.perm_middle (l₁ := [p1, p2, p3, p4, p5]))
theorem Owns.swap2 (w : Owns S H (p1 :: p2 :: l)) : Owns S H (p2 :: p1 :: l) := w.perm (List.Perm.swap ..)
end
section
variable {K : Fg} {vs : List V} {S H : Hp} {Q : VK} {E : XK} {A : Ad75} {m : Int} {D : List Int} {t k n k0 i : Nat} {x : Int} {l : List (Addr × HO)} {nx : L2.St → Hp → Prop} {vd vd2 v0 v1 : V} {b0 b1 : Option Int} {r0 r1 : List Int} {a c : Addr} {o : HO} {cs : List Int}
theorem draw5 {many : Int} (w : Owns S H (p1 :: p2 :: p3 :: p4 :: p5 :: (a, o) :: l)) (ho : IsHand c o) (hc : S c = some (lstI cs)) (hm : 0 < many ∧ many < 1073741824)
    (q : ∀ H' o' x, Owns S H' (p1 :: p2 :: p3 :: p4 :: p5 :: (a, o') :: l) → IsHand c o' → 0 ≤ x → x < many → Q (.int x) H') : sp_law_draw K [.ref a, .int many] H Q E :=
  draw_of w.front5 ho hc hm fun H' o' x w' ho' x0 x1 => q H' o' x w'.back5 ho' x0 x1
/-- the sink reads the frame at i -/
theorem hear_sink (w : Owns S H ((A.src, srcO K A.d1 m vd t (frS m D t)) :: (A.snk, snkO K A.d2 m vd2 (frK m D k)) :: (A.ln, .lst [v0, v1]) :: (A.sn, lstI ((W75 m D).take n)) :: (A.pu, lstI D) :: l))
    (h1 : Rk K S (tupI D) vd) (h2 : Rk K S (tupI (D.take k)) vd2) (h3 : Rk K S (lineD b0 r0) v0) (h4 : Rk K S (lineD b1 r1) v1) (h5 : Line75 (W75 m D) n (i + 1) (lineQ b0 r0)) (h6 : Line75 (W75 m D) k0 t (lineQ b1 r1)) (ok : Ok75 m D t k)
    (h7 : n ≤ D.length) (h8 : k0 ≤ D.length) (hn : n ≤ nS D t) (hx : (W75 m D)[i]? = some x) (hi : i < n) (hki : k ≤ i + 1)
    (kk : ∀ S' H' k', Ex S S' → Z75 K A m D t k' n k0 l S' H' → k ≤ k' → k' ≤ k + 1 → i + 1 ≤ k' → Q .non H') : sp_StreamSink_hear K [.ref A.snk, .int x] H Q E := by
  have hl := ok.hl
  refine ⟨S, _, A.snk, A.d2, m, D.take k, vd2, frK m D k, .int x, .int x, rfl, w.swap2, h2, by rw [List.length_take]; omega, .int x, fun S' H' vd' ds' fr' hh e w' r' => ?_⟩
  rcases sink_takes ok hx hki (by omega) with ⟨rfl, rfl, q1, q2, q3, q4⟩ | ⟨rfl, q2⟩
  · rw [q2] at hh
    obtain ⟨rfl, rfl⟩ := hh
    rw [q3] at r'
    rw [← q4] at w'
    refine kk S' H' (i + 1) e ⟨vd, vd', v0, v1, b0, r0, b1, r1, w'.swap2, h1.up e, r', h3.up e, h4.up e, h5, h6, ⟨ok.hm, ok.hD, ok.hl, ok.ht, .inr ⟨rfl, by omega⟩⟩, h7, h8⟩ (by omega) (by omega) (by omega)
  · rw [q2] at hh
    obtain ⟨rfl, rfl⟩ := hh
    exact kk S' H' (i + 1) e ⟨vd, vd', v0, v1, b0, r0, b1, r1, w'.swap2, h1.up e, r', h3.up e, h4.up e, h5, h6, ok, h7, h8⟩ (by omega) (by omega) (by omega)
/-- the source reads the frame at i -/
theorem hear_source (w : Owns S H ((A.src, srcO K A.d1 m vd t (frS m D t)) :: (A.snk, snkO K A.d2 m vd2 (frK m D k)) :: (A.ln, .lst [v0, v1]) :: (A.sn, lstI ((W75 m D).take n)) :: (A.pu, lstI D) :: l))
    (h1 : Rk K S (tupI D) vd) (h2 : Rk K S (tupI (D.take k)) vd2) (h3 : Rk K S (lineD b0 r0) v0) (h4 : Rk K S (lineD b1 r1) v1) (h5 : Line75 (W75 m D) n k (lineQ b0 r0)) (h6 : Line75 (W75 m D) k0 (i + 1) (lineQ b1 r1)) (ok : Ok75 m D t k)
    (h7 : n ≤ D.length) (h8 : k0 ≤ D.length) (hn : n = nS D t) (hx : (W75 m D)[i]? = some x) (hi : i < k) (hki : t ≤ i + 1)
    (kk : ∀ H' t', Z75 K A m D t' k n k0 l S H' → n ≤ nS D t' → nS D t' ≤ n + 1 → t ≤ t' → i + 1 ≤ t' → Q .non H') : sp_StreamSource_hear K [.ref A.src, .int x] H Q E := by
  have hl := ok.hl
  have hk := ok.hk
  refine ⟨S, _, A.src, A.d1, m, D, vd, t, frS m D t, .int x, .int x, rfl, w, h1, .int x, ok.ht, fun c => ?_, fun H' w' => ?_⟩
  · obtain ⟨y, _, e⟩ := frS_some (m := m) c
    rw [e]; exact fun z => nomatch z
  · rcases source_hears ok hx hki hi with ⟨rfl, q1, q2, q3⟩ | ⟨rfl, q3⟩
    · rw [q3, if_pos rfl, hear_frame q1] at w'
      refine kk H' (i + 1) ⟨vd, vd2, v0, v1, b0, r0, b1, r1, w', h1, h2, h3, h4, h5, h6, ⟨ok.hm, ok.hD, ok.hl, by omega, .inl (by omega)⟩, h7, h8⟩ ?_ ?_ (by omega) (by omega)
      · unfold nS at hn ⊢; omega
      · unfold nS at hn ⊢; omega
    · rw [q3] at w'
      exact kk H' (i + 1) ⟨vd, vd2, v0, v1, b0, r0, b1, r1, w', h1, h2, h3, h4, h5, h6, ok, h7, h8⟩ (by omega) (by omega) (by omega) (by omega)
/-- the slots of _law_step -/
abbrev ws (A : Ad75) (a : Addr) (m : Int) (u8 u9 u10 u11 u12 : Option V) : L2.St := [some (.ref a), some (.int m), some (.ref A.e), some (.ref A.ln), some (.ref A.sn), some (.ref A.pu), some (.ref A.src), some (.ref A.snk), u8, u9, u10, u11, u12]
theorem step_end {u8 u9 u10 u11 u12 : Option V} (z : Z75 K A m D t k n k0 l S H) (hn : n ≤ nS D t ∧ nS D t ≤ n + 1) (h0 : k0 ≤ k ∧ k ≤ k0 + 1) (hl : D.length ≤ 70) (he : S A.e = some (.tup [.ref A.src, .ref A.snk]))
    (kk : ∀ S' H', Ex S S' → Z75 K A m D t k (nS D t) k l S' H' → Q (.bl true) H') : tRet (e_law_step_14 K E) { nx := nx, rt := Q } (ws A a m u8 u9 u10 u11 u12) H :=
  ⟨_, rfl, _, rfl, _, rfl, _, rfl, S, A, m, D, t, k, n, k0, l, rfl, he, z, hn, h0, by omega, kk⟩
/-- more digits -/
theorem step_put {u9 u10 u11 u12 : Option V} (z : Z75 K A m D t k (nS D t) k ((a, o) :: l) S H) (he : S A.e = some (.tup [.ref A.src, .ref A.snk])) (ho : IsHand c o) (hc : S c = some (lstI cs)) (hK : excOk75 K) (hl : D.length < 60)
    (kk : ∀ S' H' D' t' k' o', D'.length ≤ 70 → Ex S S' → IsHand c o' → Z75 K A m D' t' k' (nS D' t') k' ((a, o') :: l) S' H' → Q (.bl true) H') :
    tSeq (tAsg (tLc (fun σ H R => ∃ v3, σ[0]? = some (some v3) ∧ sp_law_draw K [v3, (V.int 7)] H (fun x1 h1 => ∃ j : Int, [x1] = [.int j] ∧ -(2 ^ 62) ≤ j ∧ j < 2 ^ 62 ∧ R (Itr 0 j.toNat) h1) E0) (gName 12) tYes (e_law_step_2 K E) [12]) (gName 9))
        (tSeq (tDrop (e_law_step_3 K E))
        (tIfS (e_law_step_4 K E)
          (tRet (fun σ H Q => Q (V.bl false) H))
          (tNext))) { nx := fun σ H => tRet (e_law_step_14 K E) { nx := nx, rt := Q } σ H, rt := Q } (ws A a m (some (.int 0)) u9 u10 u11 u12) H := by
  have z0 := z
  obtain ⟨vd, vd2, v0, v1, b0, r0, b1, r1, w, h1, h2, h3, h4, h5, h6, ok, h7, h8⟩ := z0
  have hm := ok.hm
  have ht := ok.ht
  refine ⟨_, rfl, draw5 w ho hc ⟨by decide, by decide⟩ fun H2 o2 y w2 ho2 y0 y1 => ⟨y, rfl, by omega, by omega, fun B hB => ?_⟩⟩
  refine draws_of (N := m - 1) (n := y.toNat) (j := 12) w2.front5 ho2 hc hB (by omega) (fun z H R q => q) (fun z => rfl) (fun z H Q q => ⟨_, rfl, _, rfl, _, _, rfl, rfl, q⟩) ⟨by omega, by omega⟩ fun H3 o3 X ho3 hX hr w3 => ?_
  have w4 := w3.freeze 1
  have e4 := w3.freezeEx 1
  have hr' : ∀ d ∈ X, 0 ≤ d ∧ d ≤ m - 2 := fun d hd => by have := hr d hd; omega
  refine ⟨_, rfl, tyL (w4.get 5), _, rfl, A.pu, B, _, _, rfl, rfl, w4.get 5, w4.ex _ _ upd_same, sz (by rw [List.length_map, List.length_map]; omega), ?_⟩
  have w5 := w4.write (o' := .lst (D.map .int ++ X.map .int)) 5
  refine ⟨_, rfl, _, rfl, _, rfl, seq_ask w5 ho3 (e4 _ _ hc) (d := .list (X.map .int)) (.lst (.of upd_same) (rk_ints X)) rfl fun S6 H6 o6 d6 v6 e6 w6 ho6 r6 s6 i6 => ?_⟩
  have i6' : itemsD d6 = X.map .int := i6
  have e46 := e4.trans e6
  have hf := dFault_ok (m := m) s6 i6' hr'
  refine ⟨_, rfl, S6, _, 4, .int m, v6, .ref A.src, rfl, w6.back5, hK, .inr ⟨rfl, _, A.src, A.d1, m, D, vd, t, frS m D t, d6, rfl, rfl, h1.up e46, r6, by rw [i6', List.length_map]; omega, by omega, ok.ht, ?_⟩⟩
  rw [hf]
  intro S7 H7 vd' u e7 w7 r7 r8
  rw [i6', asI_ints] at w7 r7
  rw [put_frame ok.ht] at w7
  refine ⟨by show 2 ≤ sizeLine; decide, fun p hp => ?_⟩
  have w8 := w7.call (Ex.new (o := .tup [.str "told", .non]) hp)
  refine kneD (d := toldD .none) (e := toldD .none) (r8.up w8.ex) (.tup (.of upd_same) (.cons (.str "told") (.cons .non .nil))) (by decide +kernel) (by decide +kernel) ⟨_, rfl, ?_⟩
  rw [show (!PyData.eqv (toldD .none) (toldD .none)) = false by decide +kernel]
  have eS := e46.trans e7
  have hnn : nS D t ≤ nS (D ++ X) t ∧ nS (D ++ X) t ≤ nS D t + 1 := by unfold nS; rw [List.length_append]; omega
  have hk := ok.hk
  have hkl : k ≤ D.length := by omega
  have hnl : nS D t ≤ D.length := by unfold nS; omega
  have ef : frK m D k = frK m (D ++ X) k := by unfold frK; rw [W_app m D X hkl]
  have es : (W75 m D).take (nS D t) = (W75 m (D ++ X)).take (nS D t) := (W_app m D X hnl).symm
  rw [ef, es, ← List.map_append] at w8
  have hdx : ∀ d ∈ D ++ X, 0 ≤ d ∧ d ≤ m - 2 := fun d hd => (List.mem_append.mp hd).elim (ok.hD d) (hr' d)
  have hlx : (D ++ X).length ≤ 70 := by rw [List.length_append]; omega
  refine step_end (E := E) (D := D ++ X) (n := nS D t) (k0 := k) ⟨vd', vd2, v0, v1, b0, r0, b1, r1, w8, r7, ?_, h3.up eS, h4.up eS, h5.app hnl, h6.app hkl, ⟨ok.hm, hdx, by omega, by rw [List.length_append]; omega, hk.imp id fun q => ⟨q.1, by rw [List.length_append]; omega⟩⟩, by rw [List.length_append]; omega, by rw [List.length_append]; omega⟩ hnn ⟨Nat.le_refl _, by omega⟩ hlx (eS _ _ he) fun S9 H9 e9 z9 => kk S9 H9 (D ++ X) t k o6 hlx (eS.trans e9) ho6 z9
  rw [List.take_append_of_le_length hkl]
  exact h2.up eS
end
end SF

/-! R75q: wrong digits and frames, a frame read; the reading of _law_step. -/
namespace SF
open PySem L2
section
variable {K : Fg} {vs : List V} {S H : Hp} {Q : VK} {E : XK} {A : Ad75} {m : Int} {D : List Int} {t k n k0 i : Nat} {x : Int} {l : List (Addr × HO)} {nx : L2.St → Hp → Prop} {vd vd2 v0 v1 : V} {b0 b1 : Option Int} {r0 r1 : List Int} {a c : Addr} {o : HO} {cs : List Int}
theorem ask4_bad {d : PyData} {v : V} {L : List (Addr × HO)} {fr : Option Int} {i : Int} (w : Owns S H ((A.src, srcO K A.d1 m vd t fr) :: L)) (hK : excOk75 K) (h1 : Rk K S (tupI D) vd) (hd : Rk K S d v) (hl : (itemsD d).length ≤ 10000) (hD : D.length ≤ 10000) (ht : t ≤ D.length)
    (hf : dFault m d = some i) (kk : ∀ H' u, Ex H H' → Rk K H' (errD "digits" i) u → Q u H') : sp_law_asked K [.int 4, .int m, v, .ref A.src] H Q E :=
  ⟨S, _, 4, .int m, v, .ref A.src, rfl, w, hK, .inr ⟨rfl, L, A.src, A.d1, m, D, vd, t, fr, d, rfl, rfl, h1, hd, hl, hD, ht, by rw [hf]; exact kk⟩⟩
/-- a thing that no end takes -/
def noFr (m : Int) : PyData → Bool
  | .int x => decide (x < 0) || decide (m ≤ x)
  | _ => true
theorem noFr_src {d : PyData} (ok : Ok75 m D t k) (h : noFr m d = true) : hears t D.length (frS m D t) d = false := by
  by_cases c : t < D.length
  · obtain ⟨y, e1, e2⟩ := frS_some (m := m) c
    obtain ⟨f0, f1, _⟩ := ok.fr e1
    rw [e2]
    cases d with
    | int x =>
      unfold noFr at h
      simp only [Bool.or_eq_true, decide_eq_true_eq] at h
      show (decide (t < D.length) && decide (x = y)) = false
      rw [decide_eq_false (show ¬ x = y by omega)]; simp
    | _ => rfl
  · cases frS m D t with
    | none => rfl
    | some g => cases d with
      | int x =>
        show (decide (t < D.length) && decide (x = g)) = false
        rw [decide_eq_false c]; rfl
      | _ => rfl
theorem noFr_snk {d : PyData} {fr : Option Int} (h : noFr m d = true) : takes m fr d = none := by
  cases d with
  | int x =>
    unfold noFr at h
    simp only [Bool.or_eq_true, decide_eq_true_eq] at h
    show (if (decide (0 ≤ x) && (decide (x ≤ m - 1) && !decide (x = fr.getD (m - 1)))) = true then some x else none) = none
    rw [if_neg]
    simp only [Bool.and_eq_true, decide_eq_true_eq]
    omega
  | _ => rfl
/-- wrong frames are heard by one of the ends -/
theorem step_odd {u8 u9 u10 u11 u12 : Option V} (z : Z75 K A m D t k n k0 ((a, o) :: l) S H) (he : S A.e = some (.tup [.ref A.src, .ref A.snk])) (ho : IsHand c o) (hc : S c = some (lstI cs))
    (kk : ∀ S' H' o', Ex S S' → IsHand c o' → Z75 K A m D t k n k0 ((a, o') :: l) S' H' → nx (ws A a m u8 u9 u10 u11 u12) H') :
    tIfS (e_law_step_8 K E) (tRet (fun σ H Q => Q (V.bl false) H)) (tNext) { nx := nx, rt := Q } (ws A a m u8 u9 u10 u11 u12) H := by
  obtain ⟨vd, vd2, v0, v1, b0, r0, b1, r1, w, h1, h2, h3, h4, h5, h6, ok, h7, h8⟩ := z
  have hlD := ok.hl
  have bad : ∀ d ∈ ([.int m, .int (-1), .bool true, .none, .str "0", .int (m + 5)] : List PyData), noFr m d = true := by
    intro d hd
    simp only [List.mem_cons, List.not_mem_nil, or_false] at hd
    rcases hd with rfl | rfl | rfl | rfl | rfl | rfl
    · simp [noFr]
    · simp [noFr]
    · rfl
    · rfl
    · rfl
    · simp [noFr]; omega
  refine ⟨_, rfl, _, rfl, draw5 w ho hc ⟨by decide, by decide⟩ fun H1 o1 y w1 ho1 y0 y1 => ?_⟩
  have ht := w1.ex _ _ he
  rcases (by omega : y = 0 ∨ y = 1) with rfl | rfl
  · refine ⟨A.e, _, 0, _, rfl, rfl, .of ht, by rfl, A.src, A.d1, _, rfl, ?_, .inl ⟨w1.get 0, _, rfl, 1, rfl, _, rfl, _, _, rfl, rfl, (by show 6 ≤ sizeLine; decide), fun p hp => ⟨_, rfl, ?_⟩⟩⟩
    · rfl
    have w2 := w1.grow (o := .lst [.int m, .int (-1), .bl true, .non, .str "0", .int (m + 5)]) hp
    have e2 := w1.growEx (o := .lst [.int m, .int (-1), .bl true, .non, .str "0", .int (m + 5)]) hp
    refine draw5 w2 ho1 (e2 _ _ hc) ⟨by decide, by decide⟩ fun H3 o3 y w3 ho3 y0 y1 => ?_
    refine pick_of (ds := [.int m, .int (-1), .bool true, .none, .str "0", .int (m + 5)]) w3 upd_same (.cons (.int m) (.cons (.int (-1)) (.cons (.bl true) (.cons .non (.cons (.str "0") (.cons (.int (m + 5)) .nil)))))) y0 (by simpa using y1) fun d v hd r => ?_
    refine ⟨_, _, A.src, A.d1, m, D, vd, t, frS m D t, d, v, rfl, w3, h1.up e2, r, ok.ht, fun c => ?_, fun H4 w4 => ?_⟩
    · obtain ⟨y, _, e⟩ := frS_some (m := m) c
      rw [e]; exact fun z => nomatch z
    · rw [noFr_src ok (bad d hd)] at w4
      exact ⟨rfl, _, rfl, iteF (kk _ _ o3 e2 ho3 ⟨vd, vd2, v0, v1, b0, r0, b1, r1, w4, h1.up e2, h2.up e2, h3.up e2, h4.up e2, h5, h6, ok, h7, h8⟩)⟩
  · refine ⟨A.e, _, 1, _, rfl, rfl, .of ht, by rfl, A.snk, A.d2, _, rfl, ?_, .inr ⟨w1.get 1, _, rfl, 1, rfl, _, rfl, _, _, rfl, rfl, (by show 6 ≤ sizeLine; decide), fun p hp => ⟨_, rfl, ?_⟩⟩⟩
    · rfl
    have w2 := w1.grow (o := .lst [.int m, .int (-1), .bl true, .non, .str "0", .int (m + 5)]) hp
    have e2 := w1.growEx (o := .lst [.int m, .int (-1), .bl true, .non, .str "0", .int (m + 5)]) hp
    refine draw5 w2 ho1 (e2 _ _ hc) ⟨by decide, by decide⟩ fun H3 o3 y w3 ho3 y0 y1 => ?_
    refine pick_of (ds := [.int m, .int (-1), .bool true, .none, .str "0", .int (m + 5)]) w3 upd_same (.cons (.int m) (.cons (.int (-1)) (.cons (.bl true) (.cons .non (.cons (.str "0") (.cons (.int (m + 5)) .nil)))))) y0 (by simpa using y1) fun d v hd r => ?_
    refine ⟨_, _, A.snk, A.d2, m, D.take k, vd2, frK m D k, d, v, rfl, w3.swap2, h2.up e2, by rw [List.length_take]; omega, r, fun S4 H4 vd' ds' fr' hh e4 w4 r4 => ?_⟩
    rw [noFr_snk (bad d hd)] at hh
    obtain ⟨rfl, rfl⟩ := hh
    have e24 := e2.trans e4
    exact ⟨rfl, _, rfl, iteF (kk _ _ o3 e24 ho3 ⟨vd, vd', v0, v1, b0, r0, b1, r1, w4.swap2, h1.up e24, r4, h3.up e24, h4.up e24, h5, h6, ok, h7, h8⟩)⟩
theorem exOk_err3 {i : Int} : exOk 3 (.tuple [.str "digits", .int i]) = true := exOk_err (by decide +kernel)
/-- wrong digits -/
theorem step_wrong {u8 u9 u10 u11 u12 : Option V} (z : Z75 K A m D t k n k0 ((a, o) :: l) S H) (he : S A.e = some (.tup [.ref A.src, .ref A.snk])) (ho : IsHand c o) (hc : S c = some (lstI cs)) (hK : excOk75 K)
    (kk : ∀ S' H' o' u10, Ex S S' → IsHand c o' → Z75 K A m D t k n k0 ((a, o') :: l) S' H' → nx (ws A a m u8 u9 u10 u11 u12) H') :
    tSeq (tAsg (e_law_step_5 K E) (gName 10))
            (tSeq (tIfS (e_law_step_6 K E)
              (tRet (fun σ H Q => Q (V.bl false) H))
              (tNext))
            (t_law_step_1 K E)) { nx := nx, rt := Q } (ws A a m u8 u9 u10 u11 u12) H := by
  obtain ⟨vd, vd2, v0, v1, b0, r0, b1, r1, w, h1, h2, h3, h4, h5, h6, ok, h7, h8⟩ := z
  have hlD := ok.hl
  have hm := ok.hm
  refine ⟨_, rfl, _, _, rfl, rfl, 1, rfl, (by show 4 ≤ sizeLine; decide), fun p hp => ⟨_, rfl, ?_⟩⟩
  have w2 := w.grow (o := .lst [.int (m - 1), .int (-1), .bl true, .str "0"]) hp
  have e2 := w.growEx (o := .lst [.int (m - 1), .int (-1), .bl true, .str "0"]) hp
  refine draw5 w2 ho (e2 _ _ hc) ⟨by decide, by decide⟩ fun H3 o3 y w3 ho3 y0 y1 => ?_
  refine pick_of (ds := [.int (m - 1), .int (-1), .bool true, .str "0"]) w3 upd_same (.cons (.int (m - 1)) (.cons (.int (-1)) (.cons (.bl true) (.cons (.str "0") .nil)))) y0 (by simpa using y1) fun d v hd r => ?_
  have hbad : isWholeD (some 0) (some (m - 2)) d = false := by
    simp only [List.mem_cons, List.not_mem_nil, or_false] at hd
    rcases hd with rfl | rfl | rfl | rfl
    · unfold isWholeD; simp only [Bool.and_eq_false_iff, decide_eq_false_iff_not]; omega
    · rfl
    · rfl
    · rfl
  refine ⟨(by show 2 ≤ sizeLine; decide), fun p4 hp4 => ?_⟩
  have w4 := w3.grow (o := .lst [.int 0, v]) hp4
  have e4 := w3.growEx (o := .lst [.int 0, v]) hp4
  have e24 := e2.trans e4
  have hf := dFault_bad (m := m) (ds := [0]) (d := d) (r := []) (fun x hx => by rw [List.mem_singleton.mp hx]; omega) hbad
  refine ⟨_, rfl, _, rfl, _, rfl, ask4_bad (i := 1) (d := .list [.int 0, d]) w4 hK (h1.up e24) (.lst (.of upd_same) (.cons (.int 0) (.cons (r.up e4) .nil))) (by show 2 ≤ 10000; decide) (by omega) ok.ht hf fun H5 u5 e5 r5 => ?_⟩
  have w5 := w4.call e5
  refine exact_is (z := "digits") (e := .int 1) w5 r5 (.int 1) exOk_err3 fun H6 w6 => ⟨_, rfl, iteF ?_⟩
  refine ⟨_, rfl, (by show 3 ≤ sizeLine; decide), fun p7 hp7 => ⟨_, rfl, ?_⟩⟩
  have w7 := w6.grow (o := .lst [.non, .str "0", .int 0]) hp7
  have e7 := w6.growEx (o := .lst [.non, .str "0", .int 0]) hp7
  have e27 := e24.trans e7
  refine draw5 w7 ho3 (e27 _ _ hc) ⟨by decide, by decide⟩ fun H8 o8 y w8 ho8 y0 y1 => ?_
  refine pick_of (ds := [.none, .str "0", .int 0]) w8 upd_same (.cons .non (.cons (.str "0") (.cons (.int 0) .nil))) y0 (by simpa using y1) fun d v hd r => ?_
  have hq : isSeqD d = false ∧ (itemsD d).length ≤ 10000 := by
    simp only [List.mem_cons, List.not_mem_nil, or_false] at hd
    rcases hd with rfl | rfl | rfl <;> exact ⟨rfl, by decide⟩
  refine ⟨_, rfl, ask4_bad (i := -1) w8 hK (h1.up e27) r hq.2 (by omega) ok.ht (dFault_odd hq.1) fun H9 u9' e9 r9 => ⟨1, rfl, ?_⟩⟩
  have w9 := w8.call e9
  refine exact_is (z := "digits") (e := .int (-1)) w9 r9 (.int (-1)) exOk_err3 fun H10 w10 => ⟨_, rfl, iteF ?_⟩
  exact step_odd (E := E) ⟨vd, vd2, v0, v1, b0, r0, b1, r1, w10, h1.up e27, h2.up e27, h3.up e27, h4.up e27, h5, h6, ok, h7, h8⟩ (e27 _ _ he) ho8 (e27 _ _ hc) fun S' H' o' e' ho' z' => kk S' H' o' _ (e27.trans e') ho' z'
theorem line_mk {b : Option Int} {r : List Int} {x : Int} : lineQ (some x) r = x :: r := rfl
/-- a frame is read off a line -/
theorem step_read {way : Int} {u9 u10 u11 u12 : Option V} (hway : 0 ≤ way) (z : Z75 K A m D t k (nS D t) k ((a, o) :: l) S H) (he : S A.e = some (.tup [.ref A.src, .ref A.snk])) (ho : IsHand c o) (hc : S c = some (lstI cs)) (hl : D.length ≤ 70)
    (kk : ∀ S' H' t' k' o', Ex S S' → IsHand c o' → Z75 K A m D t' k' (nS D t') k' ((a, o') :: l) S' H' → Q (.bl true) H') :
    tSeq (tAsg (e_law_step_9 K E) (gName 11))
            (tIfS (e_law_step_11 K E)
              (tSeq (tAsg (fun σ H Q => ∃ v33, σ[11]? = some (some v33) ∧ Q v33 H) (fun v σ H Q => ∃ v31, σ[3]? = some (some v31) ∧ ∃ v32, σ[8]? = some (some v32) ∧ oMod v32 (V.int 2) H (fun x31 h31 => rSetL v31 x31 v h31 (fun h9 => Q σ h9))))
                (tIfS (e_law_step_10 K E)
                  (tRet (fun σ H Q => Q (V.bl false) H))
                  (tNext)))
              (tNext)) { nx := fun σ H => tRet (e_law_step_14 K E) { nx := nx, rt := Q } σ H, rt := Q } (ws A a m (some (.int way)) u9 u10 u11 u12) H := by
  have z0 := z
  obtain ⟨vd, vd2, v0, v1, b0, r0, b1, r1, w, h1, h2, h3, h4, h5, h6, ok, h7, h8⟩ := z0
  have hlD := ok.hl
  have hk := ok.hk
  have htl := ok.ht
  have l0 := line_len h5
  have l0' := tail_len (b := b0) (r := r0)
  have l1 := line_len h6
  have l1' := tail_len (b := b1) (r := r1)
  have endz : ∀ {S1 H1 t' k' o' u11}, Ex S S1 → IsHand c o' → Z75 K A m D t' k' (nS D t) k ((a, o') :: l) S1 H1 → nS D t ≤ nS D t' ∧ nS D t' ≤ nS D t + 1 → k ≤ k' ∧ k' ≤ k + 1 → tRet (e_law_step_14 K E) { nx := nx, rt := Q } (ws A a m (some (.int way)) u9 u10 u11 u12) H1 :=
    fun e1 ho' z1 hn h0 => step_end (E := E) z1 hn h0 hl (e1 _ _ he) fun S2 H2 e2 z2 => kk S2 H2 _ _ _ (e1.trans e2) ho' z2
  refine ⟨_, rfl, _, rfl, _, rfl, _, _, rfl, rfl, (by show (0 : Int) < 2; decide), ?_⟩
  rcases (by omega : way % 2 = 0 ∨ way % 2 = 1) with c2 | c2
  · refine ⟨A.ln, _, way % 2, v0, rfl, rfl, .of (w.get 2), by rw [c2]; rfl, ?_⟩
    refine ⟨S, _, a, c, o, cs, b0, r0, v0, rfl, w.front5, ho, hc, h3, by omega, fun e H1 e1 => ?_, fun S1 H1 o1 u j x hj e1 w1 ho1 r1' => ?_⟩
    · exact ⟨_, rfl, rfl, _, rfl, ifF (by rfl) (endz (Ex.refl S) ho (z.call e1) ⟨Nat.le_refl _, by omega⟩ ⟨Nat.le_refl _, by omega⟩)⟩
    · obtain ⟨i, hx, hi, hki, hline⟩ := h5.read (by rw [W_len]; omega) hj
      obtain ⟨ua, uw, rfl, g1, g2⟩ := r1'.tup'
      have g2' := g2
      obtain ⟨q1, _, rfl, q2, g5⟩ := g2.cons'
      cases q2.int'
      obtain ⟨q3, _, rfl, q4, g6⟩ := g5.cons'
      cases g6.nil'
      refine ⟨_, rfl, rfl, _, rfl, ifT (by rfl) ?_⟩
      have w2 := w1.back5
      have w3 := w2.write (o' := .lst [.ref ua, v1]) 2
      refine ⟨_, rfl, _, rfl, _, rfl, _, _, rfl, rfl, (by show (0 : Int) < 2; decide), A.ln, _, way % 2, 0, rfl, rfl, w2.get 2, by rw [c2]; rfl, ?_⟩
      refine ⟨_, rfl, _, _, rfl, rfl, (by show (0 : Int) < 2; decide), ?_⟩
      refine ⟨rfl, _, rfl, ifT (by show decide (V.int (way % 2) = V.int 0) = true; rw [c2]; rfl) ⟨_, rfl, A.snk, A.d2, _, rfl, ?_, .inr ⟨w3.get 1, _, rfl, ua, _, 0, .int x, rfl, rfl, ex_t w3.ex g1, by rfl, ?_⟩⟩⟩
      · rfl
      refine hear_sink w3 (h1.up e1) (h2.up e1) (.tup g1 g2') (h4.up e1) hline h6 ok h7 h8 (Nat.le_refl _) hx hi hki fun S4 H4 k' e4 z4 k1 k2 _ => ⟨rfl, _, rfl, iteF ?_⟩
      exact endz (e1.trans e4) ho1 z4 ⟨Nat.le_refl _, by omega⟩ ⟨k1, k2⟩
  · refine ⟨A.ln, _, way % 2, v1, rfl, rfl, .of (w.get 2), by rw [c2]; rfl, ?_⟩
    refine ⟨S, _, a, c, o, cs, b1, r1, v1, rfl, w.front5, ho, hc, h4, by omega, fun e H1 e1 => ?_, fun S1 H1 o1 u j x hj e1 w1 ho1 r1' => ?_⟩
    · exact ⟨_, rfl, rfl, _, rfl, ifF (by rfl) (endz (Ex.refl S) ho (z.call e1) ⟨Nat.le_refl _, by omega⟩ ⟨Nat.le_refl _, by omega⟩)⟩
    · obtain ⟨i, hx, hi, hki, hline⟩ := h6.read (by rw [W_len]; omega) hj
      obtain ⟨ua, uw, rfl, g1, g2⟩ := r1'.tup'
      have g2' := g2
      obtain ⟨q1, _, rfl, q2, g5⟩ := g2.cons'
      cases q2.int'
      obtain ⟨q3, _, rfl, q4, g6⟩ := g5.cons'
      cases g6.nil'
      refine ⟨_, rfl, rfl, _, rfl, ifT (by rfl) ?_⟩
      have w2 := w1.back5
      have w3 := w2.write (o' := .lst [v0, .ref ua]) 2
      refine ⟨_, rfl, _, rfl, _, rfl, _, _, rfl, rfl, (by show (0 : Int) < 2; decide), A.ln, _, way % 2, 1, rfl, rfl, w2.get 2, by rw [c2]; rfl, ?_⟩
      refine ⟨_, rfl, _, _, rfl, rfl, (by show (0 : Int) < 2; decide), ?_⟩
      refine ⟨rfl, _, rfl, ifF (by show decide (V.int (way % 2) = V.int 0) = false; rw [c2]; decide) ⟨_, rfl, A.src, A.d1, _, rfl, ?_, .inl ⟨w3.get 0, _, rfl, ua, _, 0, .int x, rfl, rfl, ex_t w3.ex g1, by rfl, ?_⟩⟩⟩
      · rfl
      refine hear_source w3 (h1.up e1) (h2.up e1) (h3.up e1) (.tup g1 g2') h5 hline ok h7 h8 rfl hx hi hki fun H4 t' z4 n1 n2 _ _ => ⟨rfl, _, rfl, iteF ?_⟩
      exact endz e1 ho1 z4 ⟨n1, n2⟩ ⟨Nat.le_refl _, by omega⟩
theorem rd_law_step (h : sp_law_step K vs H Q E) : t_law_step K E { nx := fun _ H' => Q .non H', rt := Q } (start ["_law_hand_here", "_law_m", "_law_ends", "_law_lines", "_law_sent", "_law_put_here", "_law_source", "_law_sink", "_law_way", "_law_more", "_law_odd_here", "_law_line", "_law_turn"] vs) H := by
  obtain ⟨S, A, m, D, t, k, l, a, c, o, cs, rfl, he, z, ho, hc, hK, hl, kk⟩ := h
  have z0 := z
  obtain ⟨vd, vd2, v0, v1, b0, r0, b1, r1, w, h1, h2, h3, h4, h5, h6, ok, h7, h8⟩ := z0
  refine ⟨_, rfl, A.e, _, rfl, .of (w.ex _ _ he), rfl, _, _, rfl, _, _, rfl, rfl, ?_⟩
  refine ⟨_, rfl, draw5 w ho hc ⟨by decide, by decide⟩ fun H1 o1 way w1 ho1 y0 y1 => ?_⟩
  have z1 : Z75 K A m D t k (nS D t) k ((a, o1) :: l) S H1 := ⟨vd, vd2, v0, v1, b0, r0, b1, r1, w1, h1, h2, h3, h4, h5, h6, ok, h7, h8⟩
  have rest : ∀ {u8}, u8 = some (.int way) → tIfS (e_law_step_12 K E)
          (tSeq (tAsg (e_law_step_5 K E) (gName 10))
            (tSeq (tIfS (e_law_step_6 K E)
              (tRet (fun σ H Q => Q (V.bl false) H))
              (tNext))
            (t_law_step_1 K E)))
          (tSeq (tAsg (e_law_step_9 K E) (gName 11))
            (tIfS (e_law_step_11 K E)
              (tSeq (tAsg (fun σ H Q => ∃ v33, σ[11]? = some (some v33) ∧ Q v33 H) (fun v σ H Q => ∃ v31, σ[3]? = some (some v31) ∧ ∃ v32, σ[8]? = some (some v32) ∧ oMod v32 (V.int 2) H (fun x31 h31 => rSetL v31 x31 v h31 (fun h9 => Q σ h9))))
                (tIfS (e_law_step_10 K E)
                  (tRet (fun σ H Q => Q (V.bl false) H))
                  (tNext)))
              (tNext))) { nx := fun σ H => tRet (e_law_step_14 K E) { nx := fun _ H' => Q .non H', rt := Q } σ H, rt := Q } (ws A a m u8 none none none none) H1 := by
    rintro _ rfl
    refine ⟨_, rfl, rfl, _, rfl, iteD (fun _ => ?_) fun _ => ?_⟩
    · refine step_wrong z1 he ho1 hc hK fun S2 H2 o2 u10 e2 ho2 z2 => ?_
      exact step_end (E := E) z2 ⟨Nat.le_refl _, by omega⟩ ⟨Nat.le_refl _, by omega⟩ hl (e2 _ _ he) fun S3 H3 e3 z3 => kk S3 H3 D t k o2 hl (e2.trans e3) ho2 z3
    · exact step_read y0 z1 he ho1 hc hl fun S2 H2 t' k' o2 e2 ho2 z2 => kk S2 H2 D t' k' o2 hl e2 ho2 z2
  refine ⟨_, rfl, rfl, _, rfl, iteD (fun c0 => ?_) fun _ => iteF (rest rfl)⟩
  refine ⟨_, rfl, A.pu, _, rfl, .inl (.inl (.inl (w1.get 4))), _, _, rfl, rfl, _, rfl, iteD (fun c1 => ?_) fun _ => rest rfl⟩
  rw [List.length_map] at c1
  have e0 : way = 0 := by injection c0
  subst e0
  exact step_put z1 he ho1 hc hK (by omega) kk
end
end SF

/-! R75r: the last rounds of the run. -/
namespace SF
open PySem L2
/-- the law's own promise -/
def sp_law (K : Fg) : Sp := fun vs H Q _ => ∃ a, ∃ cells : List Int, vs = [.ref a] ∧ SqL K H a (cells.map .int) ∧ cells.length ≤ 63 ∧ excOk75 K ∧ (∀ H, SqT K H (dfT K) []) ∧ ∀ H', Q (.bl true) H'
theorem len_law {K vs H Q E} (h : sp_law K vs H Q E) : vs.length = 1 := by obtain ⟨_, _, rfl, _⟩ := h; rfl
theorem Line75.last {w q : List Int} {n k : Nat} (h : Line75 w n k q) (hn : 0 < n) (hl : n ≤ w.length) : ∃ x, w[n - 1]? = some x ∧ q.getLast? = some x ∧ Line75 w n n [x] := by
  obtain ⟨z, rfl⟩ : ∃ z, n = z + 1 := ⟨n - 1, by omega⟩
  obtain ⟨x, hx⟩ := some_at (l := w) (i := z) (by omega)
  refine ⟨x, hx, h.newest hx, z, ?_, by omega, by omega, fun _ => by omega⟩
  rw [drop_last hx (Nat.le_refl _), List.drop_eq_nil_of_le (by rw [List.length_take]; omega)]
  rfl
theorem Line75.none {w q : List Int} {k : Nat} (h : Line75 w 0 k q) : q = [] := by
  obtain ⟨a, rfl, _⟩ := h; simp
section
variable {K : Fg} {vs : List V} {S H : Hp} {Q : VK} {E : XK} {A : Ad75} {m : Int} {D : List Int} {t k n k0 i : Nat} {x : Int} {l L : List (Addr × HO)} {nx : L2.St → Hp → Prop} {vd vd2 v0 v1 : V} {b : Option Int} {r : List Int} {at_ : Addr} {σ : L2.St} {QT : Bool → Hp → Prop}
theorem e15_of (h11 : σ[11]? = some (some (optV b))) (h12 : σ[12]? = some (some (.ref at_))) (w : Owns S H L) (g : SqT K S at_ (r.map .int)) (kT : ∀ H', Ex H H' → lineQ b r ≠ [] → QT true H') (kF : ∀ H', Ex H H' → lineQ b r = [] → QT false H') :
    e_law_15 K E σ H QT := by
  refine ⟨_, h12, Nat.zero_le _, fun p hp => ?_⟩
  have e := Ex.new (o := .tup []) hp
  refine kneD (d := tupI r) (e := tupI []) (.tup (ex_t (w.call e).ex g) (rk_ints r)) (.tup (.of upd_same) .nil) (shaped_tupI r) (shaped_tupI []) ⟨_, rfl, ?_⟩
  rw [eqv_tupI_nil]
  cases r with
  | cons y r => exact iteT (kT _ e (by unfold lineQ; simp))
  | nil =>
    refine ifF (by rfl) ⟨_, h11, rfl, _, rfl, ?_⟩
    cases b with
    | none => exact kF _ e (by rfl)
    | some y => exact kT _ e (by unfold lineQ; simp)
theorem e12_of (h11 : σ[11]? = some (some (optV b))) (h12 : σ[12]? = some (some (.ref at_))) (w : Owns S H L) (g : SqT K S at_ (r.map .int)) (hq : (lineQ b r).getLast? = some x)
    (k : ∀ S' H' u, Ex S S' → Owns S' H' L → Rk K S' (lineD (some x) []) u → Q u H') : e_law_12 K E σ H Q := by
  refine ⟨_, h12, Nat.zero_le _, fun p hp => ?_⟩
  have e := Ex.new (o := .tup []) hp
  have w1 := w.call e
  refine kneD (d := tupI r) (e := tupI []) (.tup (ex_t w1.ex g) (rk_ints r)) (.tup (.of upd_same) .nil) (shaped_tupI r) (shaped_tupI []) ⟨_, rfl, ?_⟩
  rw [eqv_tupI_nil]
  rw [getLast_line] at hq
  cases r with
  | cons y r =>
    refine iteT ⟨_, h12, 1, rfl, at_, _, -1, .int x, rfl, rfl, ex_t w1.ex g, last_atI hq, Nat.zero_le _, fun p2 hp2 => ⟨(by show 2 ≤ sizeLine; decide), fun p3 hp3 => ?_⟩⟩
    have w2 := w1.grow (o := .tup []) hp2
    have e2 := w1.growEx (o := .tup []) hp2
    have e3 := w2.growEx (o := .tup [.int x, .ref p2]) hp3
    exact k _ _ (.ref p3) (e2.trans e3) (w2.grow hp3) (.tup (.of upd_same) (.cons (.int x) (.cons (.tup (.of (e3 _ _ upd_same)) .nil) .nil)))
  | nil =>
    cases b with
    | none => cases hq
    | some y =>
      obtain rfl : y = x := by injection hq
      refine ifF (by rfl) ⟨_, h11, Nat.zero_le _, fun p2 hp2 => ⟨(by show 2 ≤ sizeLine; decide), fun p3 hp3 => ?_⟩⟩
      have w2 := w1.grow (o := .tup []) hp2
      have e2 := w1.growEx (o := .tup []) hp2
      have e3 := w2.growEx (o := .tup [.int y, .ref p2]) hp3
      exact k _ _ (.ref p3) (e2.trans e3) (w2.grow hp3) (.tup (.of upd_same) (.cons (.int y) (.cons (.tup (.of (e3 _ _ upd_same)) .nil) .nil)))
theorem e12_s {g : TG} {tb : TS} {D : Ends} (h11 : σ[11]? = some (some (optV b))) (h12 : σ[12]? = some (some (.ref at_))) (w : Owns S H L) (g3 : SqT K S at_ (r.map .int)) (hq : (lineQ b r).getLast? = some x)
    (k : ∀ S' H' u, Ex S S' → Owns S' H' L → Rk K S' (lineD (some x) []) u → g u σ H' (tb D)) : tSeq (tAsg (e_law_12 K E) g) tb D σ H := e12_of (E := E) h11 h12 w g3 hq k
/-- the slots of law -/
abbrev wl (A : Ad75) (sc hd : V) (m : Int) (u9 u10 u11 u12 : Option V) : L2.St := [some sc, some hd, some (.int m), some (.ref A.pu), some (.ref A.src), some (.ref A.snk), some (.ref A.e), some (.ref A.ln), some (.ref A.sn), u9, u10, u11, u12]
theorem turn_0 {sc hd : V} {u9 u11 u12 : Option V} (z : Z75 K A m D t k (nS D t) k l S H) (he : S A.e = some (.tup [.ref A.src, .ref A.snk])) (hl : D.length ≤ 70)
    (kk : ∀ S' H' k' u11 u12, Ex S S' → Z75 K A m D t k' (nS D t) k' l S' H' → (t < D.length → t + 1 ≤ k') → nx (wl A sc hd m u9 (some (.int 0)) u11 u12) H') :
    t_law_1 K E { nx := nx, rt := Q } (wl A sc hd m u9 (some (.int 0)) u11 u12) H := by
  have z0 := z
  obtain ⟨vd, vd2, v0, v1, b0, r0, b1, r1, w, h1, h2, h3, h4, h5, h6, ok, h7, h8⟩ := z0
  obtain ⟨a0, at_, rfl, g1, g3⟩ := line_at h3
  refine ⟨_, rfl, _, rfl, A.ln, _, 0, .ref a0, rfl, rfl, .of (w.get 2), by rfl, a0, _, rfl, ex_t w.ex g1, rfl, _, _, rfl, _, _, rfl, rfl, ?_⟩
  refine e15_of (E := E) (b := b0) (r := r0) rfl rfl w g3 (fun H1 e1 hq => ?_) (fun H1 e1 hq => ?_)
  · have w1 := w.call e1
    have hn : 0 < nS D t := by
      rcases Nat.eq_zero_or_pos (nS D t) with c | c
      · rw [c] at h5; exact absurd h5.none hq
      · exact c
    obtain ⟨x, hx, hlast, hline⟩ := h5.last hn (by rw [W_len]; exact h7)
    refine iteT (e12_s (b := b0) (r := r0) rfl rfl w1 g3 hlast fun S2 H2 u e2 w2 r2 => ?_)
    have w3 := w2.write (o' := .lst [u, v1]) 2
    refine ⟨_, rfl, _, rfl, A.ln, _, 0, 0, rfl, rfl, w2.get 2, by rfl, ?_⟩
    obtain ⟨ua, uw, rfl, g4, g5⟩ := r2.tup'
    have g5' := g5
    obtain ⟨q1, _, rfl, q2, g6⟩ := g5.cons'
    cases q2.int'
    obtain ⟨q3, _, rfl, q4, g7⟩ := g6.cons'
    cases g7.nil'
    refine ⟨_, rfl, _, rfl, _, _, rfl, rfl, A.e, _, 1, _, rfl, rfl, .of (w3.ex _ _ (e2 _ _ he)), by rfl, A.snk, A.d2, _, rfl, ?_, .inr ⟨w3.get 1, _, rfl, _, rfl, A.ln, _, 0, _, rfl, rfl, .of (w3.get 2), by rfl, ua, _, 0, .int x, rfl, rfl, ex_t w3.ex g4, by rfl, ?_⟩⟩
    · rfl
    refine hear_sink (i := nS D t - 1) w3 (h1.up e2) (h2.up e2) (.tup g4 g5') (h4.up e2) (by rw [show nS D t - 1 + 1 = nS D t by omega]; exact hline) h6 ok h7 h8 (Nat.le_refl _) hx (by omega) ?_ fun S4 H4 k' e4 z4 k1 k2 k3 => ?_
    · obtain ⟨a, _, q1, q2, q3⟩ := h5
      have := q3 hn
      omega
    have e24 := e2.trans e4
    refine ⟨_, rfl, _, rfl, _, rfl, _, rfl, S4, A, m, D, t, k', nS D t, k, l, rfl, e24 _ _ he, z4, ⟨Nat.le_refl _, by omega⟩, ⟨k1, k2⟩, by omega, fun S5 H5 e5 z5 => ⟨_, rfl, iteF (kk S5 H5 k' _ _ (e24.trans e5) z5 fun c => ?_)⟩⟩
    unfold nS at k3; omega
  · refine iteF (kk S H1 k _ _ (Ex.refl S) (z.call e1) fun c => ?_)
    exfalso
    have hn : 0 < nS D t := by unfold nS; omega
    obtain ⟨x, hx, hlast, hline⟩ := h5.last hn (by rw [W_len]; exact h7)
    rw [hq] at hlast; cases hlast
theorem turn_1 {sc hd : V} {u9 u11 u12 : Option V} (z : Z75 K A m D t k (nS D t) k l S H) (he : S A.e = some (.tup [.ref A.src, .ref A.snk])) (hl : D.length ≤ 70)
    (kk : ∀ S' H' t' u11 u12, Ex S S' → Z75 K A m D t' k (nS D t') k l S' H' → k ≤ t' → t ≤ t' → nx (wl A sc hd m u9 (some (.int 1)) u11 u12) H') :
    t_law_1 K E { nx := nx, rt := Q } (wl A sc hd m u9 (some (.int 1)) u11 u12) H := by
  have z0 := z
  obtain ⟨vd, vd2, v0, v1, b0, r0, b1, r1, w, h1, h2, h3, h4, h5, h6, ok, h7, h8⟩ := z0
  obtain ⟨a0, at_, rfl, g1, g3⟩ := line_at h4
  refine ⟨_, rfl, _, rfl, A.ln, _, 1, .ref a0, rfl, rfl, .of (w.get 2), by rfl, a0, _, rfl, ex_t w.ex g1, rfl, _, _, rfl, _, _, rfl, rfl, ?_⟩
  refine e15_of (E := E) (b := b1) (r := r1) rfl rfl w g3 (fun H1 e1 hq => ?_) (fun H1 e1 hq => ?_)
  · have w1 := w.call e1
    have hn : 0 < k := by
      rcases Nat.eq_zero_or_pos k with c | c
      · rw [c] at h6; exact absurd h6.none hq
      · exact c
    obtain ⟨x, hx, hlast, hline⟩ := h6.last hn (by rw [W_len]; exact h8)
    refine iteT (e12_s (b := b1) (r := r1) rfl rfl w1 g3 hlast fun S2 H2 u e2 w2 r2 => ?_)
    have w3 := w2.write (o' := .lst [v0, u]) 2
    refine ⟨_, rfl, _, rfl, A.ln, _, 1, 1, rfl, rfl, w2.get 2, by rfl, ?_⟩
    obtain ⟨ua, uw, rfl, g4, g5⟩ := r2.tup'
    have g5' := g5
    obtain ⟨q1, _, rfl, q2, g6⟩ := g5.cons'
    cases q2.int'
    obtain ⟨q3, _, rfl, q4, g7⟩ := g6.cons'
    cases g7.nil'
    refine ⟨_, rfl, _, rfl, _, _, rfl, rfl, A.e, _, 0, _, rfl, rfl, .of (w3.ex _ _ (e2 _ _ he)), by rfl, A.src, A.d1, _, rfl, ?_, .inl ⟨w3.get 0, _, rfl, _, rfl, A.ln, _, 1, _, rfl, rfl, .of (w3.get 2), by rfl, ua, _, 0, .int x, rfl, rfl, ex_t w3.ex g4, by rfl, ?_⟩⟩
    · rfl
    refine hear_source (i := k - 1) w3 (h1.up e2) (h2.up e2) (h3.up e2) (.tup g4 g5') h5 (by rw [show k - 1 + 1 = k by omega]; exact hline) ok h7 h8 rfl hx (by omega) ?_ fun H4 t' z4 n1 n2 t1 t2 => ?_
    · obtain ⟨a, _, q1, q2, q3⟩ := h6
      have := q3 hn
      omega
    refine ⟨_, rfl, _, rfl, _, rfl, _, rfl, S2, A, m, D, t', k, nS D t, k, l, rfl, e2 _ _ he, z4, ⟨n1, n2⟩, ⟨Nat.le_refl _, by omega⟩, by omega, fun S5 H5 e5 z5 => ⟨_, rfl, iteF (kk S5 H5 t' _ _ (e2.trans e5) z5 (by omega) t1)⟩⟩
  · refine iteF (kk S H1 t _ _ (Ex.refl S) (z.call e1) ?_ (Nat.le_refl _))
    rcases Nat.eq_zero_or_pos k with c | c
    · omega
    · obtain ⟨x, hx, hlast, hline⟩ := h6.last c (by rw [W_len]; exact h8)
      rw [hq] at hlast; cases hlast
end
end SF

/-! R75s: the reading of law (k75). -/
namespace SF
open PySem L2
theorem pull_perm' {α : Type} : ∀ {l : List α} {i : Nat} (h : i < l.length), (l[i] :: l.eraseIdx i).Perm l
  | a :: l, 0, _ => List.Perm.refl _
  | a :: l, i + 1, h => (List.Perm.swap ..).trans ((pull_perm' (l := l) (i := i) (by simpa using h)).cons a)
theorem Owns.pull {S H : Hp} {l : List (Addr × HO)} (w : Owns S H l) (i : Nat) (h : i < l.length) : Owns S H (l[i] :: l.eraseIdx i) := w.perm (pull_perm' h)
/-- S without what stands at B -/
def thaw (S : Hp) (B : Addr) : Hp := fun b => if b = B then none else S b
theorem thaw_ne {S : Hp} {B b : Addr} (h : b ≠ B) : thaw S B b = S b := by unfold thaw; rw [if_neg h]
theorem Owns.thaw {S H : Hp} {l : List (Addr × HO)} {B : Addr} {o : HO} (w : Owns S H l) (hB : S B = some o) : Owns (SF.thaw S B) H ((B, o) :: l) where
  ex := fun b u e => by
    by_cases c : b = B
    · unfold SF.thaw at e; rw [if_pos c] at e; cases e
    · rw [thaw_ne c] at e; exact w.ex _ _ e
  nd := by
    refine List.nodup_cons.mpr ⟨fun hm => ?_, w.nd⟩
    obtain ⟨p, hp, e⟩ := List.mem_map.mp hm
    have := w.off p hp
    rw [e, hB] at this; cases this
  here := fun p hp => by
    rcases List.mem_cons.mp hp with rfl | hp
    · exact w.ex _ _ hB
    · exact w.here p hp
  off := fun p hp => by
    rcases List.mem_cons.mp hp with rfl | hp
    · unfold SF.thaw; rw [if_pos rfl]
    · unfold SF.thaw
      split
      · rfl
      · exact w.off p hp
theorem thaw_tup {K : Fg} {S : Hp} {B : Addr} {xs : List V} {ns : List Int} {v : V} (hB : S B = some (.lst xs)) (h : Rk K S (tupI ns) v) : Rk K (thaw S B) (tupI ns) v := by
  obtain ⟨a, ys, rfl, g1, g2⟩ := h.tup'
  have := rks_ints g2
  subst this
  refine .tup ?_ (rk_ints ns)
  rcases g1 with (g | ⟨o, g⟩) | g
  · exact .inl (.inl (by rw [thaw_ne (fun e => by rw [e, hB] at g; cases g)]; exact g))
  · exact .inl (.inr ⟨o, by rw [thaw_ne (fun e => by rw [e, hB] at g; cases g)]; exact g⟩)
  · exact .inr g
section
variable {K : Fg} {vs : List V} {S H : Hp} {Q : VK} {E : XK} {A : Ad75} {m : Int} {D : List Int} {t k n k0 i : Nat} {x : Int} {l L : List (Addr × HO)} {nx : L2.St → Hp → Prop} {vd vd2 v0 v1 : V} {a c : Addr} {o : HO} {cs : List Int}
/-- a round -/
theorem round75 {sc hd : V} {u9 u10 u11 u12 : Option V} (z : Z75 K A m D t k (nS D t) k l S H) (he : S A.e = some (.tup [.ref A.src, .ref A.snk])) (hl : D.length ≤ 70)
    (kk : ∀ S' H' t' k' u10 u11 u12, Ex S S' → Z75 K A m D t' k' (nS D t') k' l S' H' → (t < D.length → t + 1 ≤ t') → t ≤ t' → nx (wl A sc hd m u9 u10 u11 u12) H') :
    t_law_2 K E { nx := nx, rt := Q } (wl A sc hd m u9 u10 u11 u12) H := by
  refine ⟨2, rfl, by decide, by decide, ?_⟩
  refine for_range (lo := 0) (n := (2 : Int).toNat) (fun i σ H' => ∃ S' t' k', Ex S S' ∧ (∃ u10 u11 u12, σ = wl A sc hd m u9 u10 u11 u12) ∧ Z75 K A m D t' k' (nS D t') k' l S' H' ∧ t ≤ t' ∧ (t < D.length → (i = 1 → t + 1 ≤ k') ∧ (2 ≤ i → t + 1 ≤ t'))) ⟨S, t, k, Ex.refl S, ⟨_, _, _, rfl⟩, z, Nat.le_refl _, fun _ => ⟨fun e => by omega, fun e => by omega⟩⟩ ?_ ?_
  · rintro i σ H1 hi ⟨S1, t1, k1, e1, ⟨u10, u11, u12, rfl⟩, z1, ht, hp⟩
    rcases (by omega : i = 0 ∨ i = 1) with rfl | rfl
    · refine turn_0 z1 (e1 _ _ he) hl fun S2 H2 k2 u11 u12 e2 z2 hk => ⟨S2, t1, k2, e1.trans e2, ⟨_, _, _, rfl⟩, z2, ht, fun c => ⟨fun _ => ?_, fun e => by omega⟩⟩
      have o2 := z2
      obtain ⟨_, _, _, _, _, _, _, _, _, _, _, _, _, _, _, ok, _, _⟩ := o2
      by_cases c2 : t1 < D.length
      · have := hk c2; omega
      · have := ok.hk; omega
    · refine turn_1 z1 (e1 _ _ he) hl fun S2 H2 t2 u11 u12 e2 z2 hk ht2 => ⟨S2, t2, k1, e1.trans e2, ⟨_, _, _, rfl⟩, z2, by omega, fun c => ⟨fun e => by omega, fun _ => ?_⟩⟩
      have := (hp c).1 rfl
      omega
  · rintro σ H1 ⟨S1, t1, k1, e1, ⟨u10, u11, u12, rfl⟩, z1, ht, hp⟩
    exact kk S1 H1 t1 k1 _ _ _ e1 z1 (fun c => (hp c).2 (by decide)) ht
/-- what is asked at the end -/
theorem end75 {hd : Addr} {sc : V} {u9 u10 u11 u12 : Option V} (z : Z75 K A m D t k (nS D t) k ((hd, o) :: l) S H) (ho : IsHand c o) (hc : S c = some (lstI cs)) (hK : excOk75 K) (hl : D.length ≤ 70) (ht : t = D.length) (kk : ∀ H', Q (.bl true) H') :
    tSeq (tIfS (e_law_16 K E) (tRet (fun σ H Q => Q (V.bl false) H)) (tNext)) (tRet (e_law_17 K E)) { nx := nx, rt := Q } (wl A sc (.ref hd) m u9 u10 u11 u12) H := by
  obtain ⟨vd, vd2, v0, v1, b0, r0, b1, r1, w, h1, h2, h3, h4, h5, h6, ok, h7, h8⟩ := z
  have hm := ok.hm
  have hk := ok.hk
  have ek : k = D.length := by omega
  subst ht
  subst ek
  rw [List.take_of_length_le (Nat.le_refl _)] at h2
  have en : (W75 m D).take (nS D D.length) = W75 m D := List.take_of_length_le (by rw [W_len]; unfold nS; omega)
  refine ⟨_, rfl, A.src, A.d1, _, _, rfl, w.get 0, rfl, _, rfl, A.pu, _, rfl, .inl (.inl (.inl (w.get 4))), rfl, _, rfl, ?_⟩
  rw [List.length_map]
  refine ifF (by simp) ⟨_, rfl, A.snk, A.d2, _, vd2, rfl, w.get 1, rfl, _, rfl, tupQ_of (.inl (.inl (.inl (w.get 4)))) (rk_ints D) fun H1 u e1 r1 => ?_⟩
  have w1 := w.call e1
  refine exact_tup (ns := D) (h2.up w1.ex) r1 (by omega) fun H2 e2 => ⟨_, rfl, iteF ?_⟩
  have w2 := w1.call e2
  refine ⟨_, rfl, A.sn, _, rfl, .inl ⟨.inl (.inl (w2.get 3)), fun q hq => ?_⟩⟩
  have w3 := w2.grow (o := .tup (((W75 m D).take (nS D D.length)).map .int)) hq
  have e3 := w2.growEx (o := .tup (((W75 m D).take (nS D D.length)).map .int)) hq
  refine ⟨_, rfl, _, rfl, _, _, m, D, A.pu, rfl, w3, w3.get 4, ⟨by omega, by omega⟩, ok.hD, by omega, fun S4 H4 u4 e4 w4 r4 => ?_⟩
  refine kneD (d := tupI (W75 m D)) (e := tupI (spell (m - 1) D)) ?_ (r4.up w4.ex) (shaped_tupI _) (shaped_tupI _) ⟨_, rfl, ?_⟩
  · refine .tup (.of (w4.ex _ _ (e4 _ _ upd_same))) ?_
    rw [en]
    exact rk_ints _
  · have : PyData.eqv (tupI (W75 m D)) (tupI (spell (m - 1) D)) = true := SeqAt.eqv_refl _ (canLay_of (shaped_tupI _))
    rw [this]
    refine iteF ⟨_, rfl, S4, _, hd, c, o, cs, rfl, w4.front5, ho, e4 _ _ (e3 _ _ hc), hK, kk⟩
theorem frS_0 {m : Int} {X : List Int} : sendOn m X 0 none = frS m X 0 := put_frame (m := m) (D := []) (X := X) (t := 0) (Nat.zero_le _)
theorem mk_src {q : Addr → Hp → Prop} {d : PyData} {v : V} {X : List Int} (w : Owns S H L) (hd : Rk K S d v) (hs : isSeqD d = true) (hi : itemsD d = X.map .int) (hm : 3 ≤ m ∧ m ≤ 6) (hr : ∀ d ∈ X, 0 ≤ d ∧ d ≤ m - 2) (hX : X.length ≤ 100)
    (kk : ∀ S' H' x dx vd, Ex S S' → Owns S' H' ((x, srcO K dx m vd 0 (frS m X 0)) :: (dx, .own x) :: L) → Rk K S' (tupI X) vd → q x H') :
    ∀ x dx, H x = none → H dx = none → dx ≠ x → sp_StreamSource___init__ K [.ref x, .int m, v] (upd (upd H dx (.own x)) x (.ins (ga K "StreamSource") dx [])) (fun u h => u = .non ∧ q x h) E := by
  intro x dx hx hdx hne
  have w2 := (w.new (o := .own x) hdx).new (a := x) (o := .ins (ga K "StreamSource") dx []) (by rw [upd_ne hne.symm]; exact hx)
  refine ⟨S, _, x, dx, .int m, d, .int m, v, rfl, w2, .int m, hd, by rw [hi, List.length_map]; omega, ?_⟩
  rw [if_pos (okM_of hm.1 hm.2), show asI (.int m) = m from rfl, dFault_ok hs hi hr, hi, asI_ints, frS_0]
  exact fun S' H' vd e w r => ⟨rfl, kk S' H' x dx vd e w r⟩
theorem mk_snk {q : Addr → Hp → Prop} (w : Owns S H L) (hm : 3 ≤ m ∧ m ≤ 6)
    (kk : ∀ S' H' x dx vd, Ex S S' → Owns S' H' ((x, snkO K dx m vd none) :: (dx, .own x) :: L) → Rk K S' (tupI []) vd → q x H') :
    ∀ x dx, H x = none → H dx = none → dx ≠ x → sp_StreamSink___init__ K [.ref x, .int m] (upd (upd H dx (.own x)) x (.ins (ga K "StreamSink") dx [])) (fun u h => u = .non ∧ q x h) E := by
  intro x dx hx hdx hne
  have w2 := (w.new (o := .own x) hdx).new (a := x) (o := .ins (ga K "StreamSink") dx []) (by rw [upd_ne hne.symm]; exact hx)
  refine ⟨S, _, x, dx, .int m, .int m, rfl, w2, .int m, ?_⟩
  rw [if_pos (okM_of hm.1 hm.2)]
  exact fun S' H' vd e w r => ⟨rfl, kk S' H' x dx vd e w r⟩
/-- the run, once all is made -/
theorem run75_all {hd : Addr} {sc : V} {u9 u10 u11 u12 : Option V} (z : Z75 K A m D 0 0 0 0 ((hd, o) :: l) S H) (he : S A.e = some (.tup [.ref A.src, .ref A.snk])) (ho : IsHand c o) (hc : S c = some (lstI cs)) (hK : excOk75 K) (hl : D.length ≤ 70) (kk : ∀ H', Q (.bl true) H') :
    tSeq (tIfS (e_law_9 K E) (tRet (fun σ H Q => Q (V.bl false) H)) (tNext)) (t_law_3 K E) { nx := nx, rt := Q } (wl A sc (.ref hd) m u9 u10 u11 u12) H := by
  have z0 := z
  obtain ⟨vd, vd2, v0, v1, b0, r0, b1, r1, w, h1, h2, h3, h4, h5, h6, ok, h7, h8⟩ := z0
  refine ⟨_, rfl, A.snk, A.d2, _, frV (frK m D 0), rfl, w.get 1, rfl, rfl, _, rfl, ifF (by rfl) ⟨_, rfl, A.src, A.d1, _, .int ((0 : Nat) : Int), rfl, w.get 0, rfl, rfl, _, rfl, ifF (by rfl) ?_⟩⟩
  refine ⟨_, rfl, _, rfl, _, rfl, _, rfl, S, A, m, D, 0, 0, 0, 0, _, rfl, he, z, ⟨Nat.zero_le _, by unfold nS; omega⟩, ⟨Nat.le_refl _, by omega⟩, by omega, fun S1 H1 e1 z1 => ⟨_, rfl, iteF ?_⟩⟩
  obtain ⟨vd, vd2, v0, v1, b0, r0, b1, r1, w1, zr⟩ := z1
  refine ⟨_, rfl, draw5 w1 ho (e1 _ _ hc) ⟨by decide, by decide⟩ fun H2 o2 y w2 ho2 y0 y1 => ⟨_, _, rfl, rfl, 20 + y, rfl, by omega, by omega, ?_⟩⟩
  have z2 : Z75 K A m D 0 0 (nS D 0) 0 ((hd, o2) :: l) S1 H2 := ⟨vd, vd2, v0, v1, b0, r0, b1, r1, w2, zr⟩
  refine for_range (lo := 0) (n := (20 + y).toNat) (fun i σ H' => ∃ S' D' t k o', D'.length ≤ 70 ∧ Ex S S' ∧ IsHand c o' ∧ Z75 K A m D' t k (nS D' t) k ((hd, o') :: l) S' H' ∧ ∃ u9, σ = wl A sc (.ref hd) m u9 u10 u11 u12) ⟨S1, D, 0, 0, o2, hl, e1, ho2, z2, _, rfl⟩ ?_ ?_
  · rintro i σ H3 hi ⟨S3, D3, t3, k3, o3, hl3, e3, ho3, z3, u9, rfl⟩
    exact ⟨_, rfl, _, rfl, _, rfl, _, rfl, _, rfl, _, rfl, S3, A, m, D3, t3, k3, l, hd, c, o3, cs, rfl, e3 _ _ he, z3, ho3, e3 _ _ hc, hK, hl3, fun S4 H4 D4 t4 k4 o4 hl4 e4 ho4 z4 => ⟨_, rfl, iteF ⟨S4, D4, t4, k4, o4, hl4, e3.trans e4, ho4, z4, _, rfl⟩⟩⟩
  · rintro σ H3 ⟨S3, D3, t3, k3, o3, hl3, e3, ho3, z3, u9, rfl⟩
    have z30 := z3
    obtain ⟨vd, vd2, v0, v1, b0, r0, b1, r1, w3, zr⟩ := z30
    refine ⟨_, rfl, A.pu, _, rfl, .inl (.inl (.inl (w3.get 4))), _, _, rfl, rfl, .inl ⟨by decide, by decide⟩, _, _, rfl, rfl, _, rfl, ?_⟩
    rw [List.length_map]
    refine ⟨by omega, by omega, ?_⟩
    refine for_range (lo := 0) (n := (2 * (D3.length : Int) + 4).toNat) (fun i σ H' => ∃ S' t k, Ex S3 S' ∧ Z75 K A m D3 t k (nS D3 t) k ((hd, o3) :: l) S' H' ∧ (i < D3.length → i ≤ t) ∧ (D3.length ≤ i → t = D3.length) ∧ ∃ u9 u10 u11 u12, σ = wl A sc (.ref hd) m u9 u10 u11 u12) ⟨S3, t3, k3, Ex.refl S3, z3, fun _ => Nat.zero_le _, fun q => ?_, _, _, _, _, rfl⟩ ?_ ?_
    · have := zr.2.2.2.2.2.2.1.ht; omega
    · rintro i σ H4 hi ⟨S4, t4, k4, e4, z4, i1, i2, u9, u10, u11, u12, rfl⟩
      have ht4 : t4 ≤ D3.length := by
        obtain ⟨_, _, _, _, _, _, _, _, _, _, _, _, _, _, _, ok, _, _⟩ := id z4
        exact ok.ht
      refine round75 z4 (e4 _ _ (e3 _ _ he)) hl3 fun S5 H5 t5 k5 u10 u11 u12 e5 z5 q1 q2 => ⟨S5, t5, k5, e4.trans e5, z5, fun q => ?_, fun q => ?_, _, _, _, _, rfl⟩
      · by_cases c : t4 < D3.length
        · have := q1 c; have := i1 (by omega); omega
        · omega
      · have ht5 : t5 ≤ D3.length := by
          obtain ⟨_, _, _, _, _, _, _, _, _, _, _, _, _, _, _, ok, _, _⟩ := id z5
          exact ok.ht
        by_cases c : t4 < D3.length
        · have := q1 c
          by_cases c2 : i < D3.length
          · have := i1 c2; omega
          · have := i2 (by omega); omega
        · omega
    · rintro σ H4 ⟨S4, t4, k4, e4, z4, i1, i2, u9, u10, u11, u12, rfl⟩
      exact end75 z4 ho3 (e4 _ _ (e3 _ _ hc)) hK hl3 (i2 (by omega)) kk
theorem rd_law (h : sp_law K vs H Q E) : t_law K E { nx := fun _ H' => Q .non H', rt := Q } (start ["_law_script", "_law_hand_here", "_law_m", "_law_put_here", "_law_source", "_law_sink", "_law_ends", "_law_lines", "_law_sent", "_law_turn", "_law_way", "_law_last", "_law_tail"] vs) H := by
  obtain ⟨a, cells, rfl, ha, hl, hK, hdf, k⟩ := h
  refine ⟨_, rfl, a, cells, rfl, ha, by omega, fun H1 h c o cs e1 hn hcn hne hh ho hc => ?_⟩
  have w0 : Owns H H1 [(h, o)] := (Owns.none H).came hn e1 hh
  obtain ⟨S1, eS1, w1, hS1⟩ := w0.growAll (Ex.refl H1)
  have gc : S1 c = some (lstI cs) := hS1 _ _ hc (fun q hq => by cases List.mem_singleton.mp hq; exact hne)
  refine ⟨_, rfl, draw_of w1 ho gc ⟨by decide, by decide⟩ fun H2 o2 x w2 ho2 x0 x1 => ⟨_, _, rfl, rfl, ?_⟩⟩
  have hm : 3 ≤ 3 + x ∧ 3 + x ≤ 6 := by omega
  refine ⟨_, rfl, draw_of w2 ho2 gc ⟨by decide, by decide⟩ fun H3 o3 y w3 ho3 y0 y1 => ⟨y, rfl, by omega, by omega, fun B hB => ?_⟩⟩
  refine draws_of (N := 3 + x - 1) (n := y.toNat) (j := 9) w3 ho3 gc hB (by omega) (fun z H R q => q) (fun z => rfl) (fun z H Q q => ⟨_, rfl, _, rfl, _, _, rfl, rfl, q⟩) ⟨by omega, by omega⟩ fun H4 o4 X ho4 hX hr w4 => ?_
  have hr' : ∀ d ∈ X, 0 ≤ d ∧ d ≤ 3 + x - 2 := fun d hd => by have := hr d hd; omega
  have hcB : c ≠ B := ne_free gc (w4.offA 1)
  have w5 := w4.freeze 1
  have e5 := w4.freezeEx 1
  -- behind the source
  have rest : ∀ {S7 H7 s d1 vd o7}, Ex (upd S1 B (lstI X)) S7 → Owns S7 H7 [(s, srcO K d1 (3 + x) vd 0 (frS (3 + x) X 0)), (d1, .own s), (h, o7)] → IsHand c o7 → Rk K S7 (tupI X) vd →
      tSeq (tAsg (e_law_5 K E) (gName 5)) (tSeq (tAsg (e_law_6 K E) (gName 6)) (tSeq (tAsg (e_law_7 K E) (gName 7)) (tSeq (tAsg (e_law_8 K E) (gName 8)) (tSeq (tIfS (e_law_9 K E) (tRet (fun σ H Q => Q (V.bl false) H)) (tNext)) (t_law_3 K E))))) { nx := fun _ H' => Q .non H', rt := Q }
        [some (.ref a), some (.ref h), some (.int (3 + x)), some (.ref B), some (.ref s), none, none, none, none, none, none, none, none] H7 := by
    intro S7 H7 s d1 vd o7 e7 w7 ho7 r7
    have hB7 : S7 B = some (lstI X) := e7 _ _ upd_same
    have w8 := w7.thaw hB7
    have r8 := thaw_tup hB7 r7
    have gc8 : thaw S7 B c = some (lstI cs) := by rw [thaw_ne hcB]; exact e7 _ _ (e5 _ _ gc)
    refine ⟨_, rfl, mk_snk (K := K) (E := E) w8 hm fun S9 H9 n d2 vd2 e9 w9 r9 => ?_⟩
    refine ⟨_, rfl, _, rfl, (by show 2 ≤ sizeLine; decide), fun en hen => ?_⟩
    have wa := w9.grow (o := .tup [.ref s, .ref n]) hen
    have ea := w9.growEx (o := .tup [.ref s, .ref n]) hen
    refine ⟨Nat.zero_le _, fun p5 h5 => ⟨(by show 2 ≤ sizeLine; decide), fun p4 h4 => ⟨Nat.zero_le _, fun p7 h7 => ⟨(by show 2 ≤ sizeLine; decide), fun p6 h6 => ⟨(by show 2 ≤ sizeLine; decide), fun ln hln => ?_⟩⟩⟩⟩⟩
    have wb := wa.grow (o := .tup []) h5
    have eb := wa.growEx (o := .tup []) h5
    have wc := wb.grow (o := .tup [.non, .ref p5]) h4
    have ec := wb.growEx (o := .tup [.non, .ref p5]) h4
    have wd := wc.grow (o := .tup []) h7
    have ed := wc.growEx (o := .tup []) h7
    have we := wd.grow (o := .tup [.non, .ref p7]) h6
    have ee := wd.growEx (o := .tup [.non, .ref p7]) h6
    have wf := we.new (o := .lst [.ref p4, .ref p6]) hln
    refine ⟨Nat.zero_le _, fun sn hsn => ?_⟩
    have wg := wf.new (o := .lst []) hsn
    have eS := e9.trans (ea.trans (eb.trans (ec.trans (ed.trans ee))))
    have e9e := ea.trans (eb.trans (ec.trans (ed.trans ee)))
    have wh := wg.pull 7 (by simp)
    have wi := wh.pull 5 (by simp)
    have wj := wi.pull 2 (by simp)
    have wk := wj.pull 3 (by simp)
    have wl := wk.pull 4 (by simp)
    have wm := wl.pull 6 (by simp)
    have q4 := (ec.trans (ed.trans ee))
    have L0 : Line75 (W75 (3 + x) X) 0 0 (lineQ none []) := ⟨0, rfl, Nat.zero_le _, Nat.le_refl _, fun z => absurd z (Nat.lt_irrefl 0)⟩
    refine run75_all (E := E) (A := ⟨s, d1, n, d2, ln, sn, B, en⟩) (m := 3 + x) (D := X) (hd := h) (o := o7) (l := [(d2, .own n), (d1, .own s)]) (sc := .ref a)
      ⟨vd, vd2, .ref p4, .ref p6, none, [], none, [], by exact wm, r8.up eS, r9.up e9e, .tup (.of ((ed.trans ee) _ _ upd_same)) (.cons .non (.cons (.tup (.of ((ec.trans (ed.trans ee)) _ _ upd_same)) .nil) .nil)),
        .tup (.of upd_same) (.cons .non (.cons (.tup (.of (ee _ _ upd_same)) .nil) .nil)), L0, L0, ⟨hm, hr', by omega, Nat.zero_le _, .inl rfl⟩, Nat.zero_le _, Nat.zero_le _⟩
      ((eb.trans (ec.trans (ed.trans ee))) _ _ upd_same) ho7 (eS _ _ gc8) hK (by omega) k
  have src : ∀ {S6 H6 o6 d v}, Ex (upd S1 B (lstI X)) S6 → Owns S6 H6 [(h, o6)] → IsHand c o6 → Rk K S6 d v → isSeqD d = true → itemsD d = X.map .int →
      ∀ x9 dx1, H6 x9 = none → H6 dx1 = none → dx1 ≠ x9 → sp_StreamSource___init__ K [(.ref x9), .int (3 + x), v] (upd (upd H6 dx1 (.own x9)) x9 (.ins (ga K "StreamSource") dx1 [])) (fun v11 h9 => v11 = .non ∧
        tSeq (tAsg (e_law_5 K E) (gName 5)) (tSeq (tAsg (e_law_6 K E) (gName 6)) (tSeq (tAsg (e_law_7 K E) (gName 7)) (tSeq (tAsg (e_law_8 K E) (gName 8)) (tSeq (tIfS (e_law_9 K E) (tRet (fun σ H Q => Q (V.bl false) H)) (tNext)) (t_law_3 K E))))) { nx := fun _ H' => Q .non H', rt := Q }
        [some (.ref a), some (.ref h), some (.int (3 + x)), some (.ref B), some (.ref x9), none, none, none, none, none, none, none, none] h9) E :=
    fun e6 w6 ho6 rv hs hi => mk_src (K := K) (E := E) (q := fun x9 h9 => tSeq (tAsg (e_law_5 K E) (gName 5)) (tSeq (tAsg (e_law_6 K E) (gName 6)) (tSeq (tAsg (e_law_7 K E) (gName 7)) (tSeq (tAsg (e_law_8 K E) (gName 8)) (tSeq (tIfS (e_law_9 K E) (tRet (fun σ H Q => Q (V.bl false) H)) (tNext)) (t_law_3 K E))))) { nx := fun _ H' => Q .non H', rt := Q }
        [some (.ref a), some (.ref h), some (.int (3 + x)), some (.ref B), some (.ref x9), none, none, none, none, none, none, none, none] h9) w6 rv hs hi hm hr' (by omega) fun S7 H7 s d1 vd e7 w7 r7 => rest (e6.trans e7) w7 ho6 r7
  have more : ∀ {H5 o5}, Owns (upd S1 B (lstI X)) H5 [(h, o5)] → IsHand c o5 → ∃ v8, [some (.ref a), some (.ref h), some (V.int (3 + x)), some (.ref B), none, none, none, none, none, none, none, none, none][2]? = some (some v8) ∧ ∃ v9, [some (.ref a), some (.ref h), some (V.int (3 + x)), some (.ref B), none, none, none, none, none, none, none, none, none][1]? = some (some v9) ∧ ∃ v10, [some (.ref a), some (.ref h), some (V.int (3 + x)), some (.ref B), none, none, none, none, none, none, none, none, none][3]? = some (some v10) ∧ sp_law_seq K [v9, v10] H5 (fun x8 h8 => ∀ x9 dx1, h8 x9 = none → h8 dx1 = none → dx1 ≠ x9 → sp_StreamSource___init__ K [(.ref x9), v8, x8] (upd (upd h8 dx1 (.own x9)) x9 (.ins (ga K "StreamSource") dx1 [])) (fun v11 h9 => v11 = .non ∧
        tSeq (tAsg (e_law_5 K E) (gName 5)) (tSeq (tAsg (e_law_6 K E) (gName 6)) (tSeq (tAsg (e_law_7 K E) (gName 7)) (tSeq (tAsg (e_law_8 K E) (gName 8)) (tSeq (tIfS (e_law_9 K E) (tRet (fun σ H Q => Q (V.bl false) H)) (tNext)) (t_law_3 K E))))) { nx := fun _ H' => Q .non H', rt := Q }
        [some (.ref a), some (.ref h), some (.int (3 + x)), some (.ref B), some (.ref x9), none, none, none, none, none, none, none, none] h9) E) E0 :=
    fun w6 ho6 => ⟨_, rfl, _, rfl, _, rfl, seq_ask w6 ho6 (e5 _ _ gc) (d := .list (X.map .int)) (.lst (.of upd_same) (rk_ints X)) rfl fun S8 H8 o8 d8 v8 e8 w8 ho8 r8 s8 i8 => src e8 w8 ho8 r8 s8 i8⟩
  refine ⟨_, rfl, draw_of w5 ho4 (e5 _ _ gc) ⟨by decide, by decide⟩ fun H5 o5 q w6 ho5 q0 q1 => ⟨rfl, _, rfl, iteB (fun _ => iteT (more w6 ho5)) fun _ => ⟨_, rfl, Nat.zero_le _, fun p hp => ?_⟩⟩⟩
  have w7 := w6.call (Ex.new (o := .lst []) hp)
  refine kneD (d := .list (X.map .int)) (e := .list []) (.lst (.of (w7.ex _ _ upd_same)) (rk_ints X)) (.lst (.of upd_same) .nil) (shaped_ints _) shaped_nil ⟨_, rfl, ?_⟩
  rw [eqv_nil]
  cases X with
  | cons z r => exact iteT (more w7 ho5)
  | nil => exact ifF (by rfl) ⟨_, rfl, src (d := .tuple []) (Ex.refl _) w7 ho5 (.tup (hdf _) .nil) rfl rfl⟩
end
end SF


namespace SF
open PySem L2
section
variable {P : Program} {w : World} {K : Fg} {mg : Str → Option Value} {base : Heap}
abbrev s_law_words : Stmt := top 35
theorem sc_law_words : FnScope ["_law_hand_here", "_law_m", "_law_digits", "_law_word_here", "_law_total", "_law_digit", "_law_far", "_law_turn", "_law_at", "_law_wrong", "_law_before", "_law_spoiled", "_law_which"] ["_law_hand_here"] (defScope s_law_words) := ⟨rfl, rfl, rfl, by decide +kernel, rfl, by decide +kernel, by decide +kernel⟩
theorem ok_law_words (T : Txt K mg) {fd : FuncData} (F : FunD K "_law_words" "_law_words" (defArgs s_law_words) (defBody s_law_words) (defScope s_law_words) [] [] (ga K "_law_words") fd) (h_law_draw : Has P w K mg base 2 "_law_draw" ["_law_hand_here", "_law_many"] [[]] (sp_law_draw K)) (h_law_exact : Has P w K mg base 5 "_law_exact" ["_law_told", "_law_due"] [[]] (sp_law_exact K 4)) (h_law_seq : Has P w K mg base 3 "_law_seq" ["_law_hand_here", "_law_row"] [[]] (sp_law_seq K)) (h_law_odd : Has P w K mg base 3 "_law_odd" ["_law_hand_here", "_law_low", "_law_high"] [[]] (sp_law_odd K)) (h_law_word : Has P w K mg base 1 "_law_word" ["_law_m", "_law_digits"] [[]] (sp_law_word K)) (h_law_asked : Has P w K mg base 6 "_law_asked" ["_law_which", "_law_m", "_law_thing", "_law_source"] [[]] (sp_law_asked K)) : FnOk P w K mg base (L2.CX P w) 7 (ga K "_law_words") fd ["_law_hand_here"] (sp_law_words K) := by
  refine F.ok sc_law_words (fun vs H Q E h => len_law_words h) (fun cdv A outer s H vs Q E hr h => ?_)
  have hu := hu_of hr
  have nd := sc_law_words.nd
  refine ⟨_, pss_cons (ps_set (i := 1) nd rfl (Or.inr rfl) (pe_op op_add (pe_int) (pe_has (dvs := []) h_law_draw hr passL (pa_cons (pv 0) (pa_cons (pe_int) pa_nil)))))
    (pss_cons (ps_setLc (i := 2) (own := [("_law_turn", 7)]) (g := (gName 7)) (tt := tYes) rfl nd rfl rfl (sw_true rfl rfl rfl (by decide +kernel)) (pi_range1 (by rfl) T.b_range (pa_cons (pe_has (dvs := []) h_law_draw hr passL (pa_cons (pv 0) (pa_cons (pe_int) pa_nil))) pa_nil)) (blkOk_by (by rfl)) (fun _ _ _ _ _ => pg_name (i := 7) nd rfl (Or.inl rfl)) (fun _ _ _ _ _ => pts_nil) (fun _ _ _ _ _ => (pe_has (sp := sp_law_draw K) (dvs := []) h_law_draw hr passL (pa_cons (pv 0) (pa_cons (pe_op op_sub (pv 1) (pe_int)) pa_nil)))))
    (pss_cons (ps_set (i := 3) nd rfl (Or.inl rfl) (pe_has (dvs := []) h_law_word hr passL (pa_cons (pv 1) (pa_cons (pv 2) pa_nil))))
    (pss_cons (ps_if (pt_not (pt_val (pe_has (dvs := []) h_law_exact hr passL (pa_cons (pe_has (dvs := []) h_law_asked hr passL (pa_cons (pe_int) (pa_cons (pv 1) (pa_cons (pe_has (dvs := []) h_law_seq hr passL (pa_cons (pv 0) (pa_cons (pv 2) pa_nil))) (pa_cons (pe_non) pa_nil))))) (pa_cons (pe_tup (pa_cons (pe_str) (pa_cons (pv 3) pa_nil))) pa_nil)))))
      (pss_one (ps_ret (pe_bl)))
      (pss_nil))
    (pss_cons (ps_if (pt_not (pt_val (pe_has (dvs := []) h_law_exact hr passL (pa_cons (pe_has (dvs := []) h_law_asked hr passL (pa_cons (pe_int) (pa_cons (pv 1) (pa_cons (pe_has (dvs := []) h_law_seq hr passL (pa_cons (pv 0) (pa_cons (pv 3) pa_nil))) (pa_cons (pe_non) pa_nil))))) (pa_cons (pe_tup (pa_cons (pe_str) (pa_cons (pe_callTy call_tuple_of (by rfl) T.b_tuple (by decide +kernel) (pa_cons (pv 2) pa_nil)) pa_nil))) pa_nil)))))
      (pss_one (ps_ret (pe_bl)))
      (pss_nil))
    (pss_cons (ps_if (pt_not (pt_val (pe_has (dvs := []) h_law_exact hr passL (pa_cons (pe_has (dvs := []) h_law_asked hr passL (pa_cons (pe_int) (pa_cons (pv 1) (pa_cons (pe_has (dvs := []) h_law_seq hr passL (pa_cons (pv 0) (pa_cons (pv 3) pa_nil))) (pa_cons (pe_non) pa_nil))))) (pa_cons (pe_tup (pa_cons (pe_str) (pa_cons (pv 3) pa_nil))) pa_nil)))))
      (pss_one (ps_ret (pe_bl)))
      (pss_nil))
    (pss_cons (ps_set (i := 4) nd rfl (Or.inl rfl) (pe_int))
    (pss_cons (ps_for (passes_of rfl) rfl (pi_list (pv 2)) (pg_name (i := 5) nd rfl (Or.inl rfl))
      (pss_one (ps_set (i := 4) nd rfl (Or.inl rfl) (pe_op op_mul (pv 4) (pe_op op_sub (pv 1) (pe_int))))))
    (pss_cons (ps_if (pt_not (pt_val (pe_has (dvs := []) h_law_exact hr passL (pa_cons (pe_has (dvs := []) h_law_asked hr passL (pa_cons (pe_int) (pa_cons (pv 1) (pa_cons (pe_callB call_len_seq (by rfl) T.b_len (by decide +kernel) (pa_cons (pv 2) pa_nil)) (pa_cons (pe_non) pa_nil))))) (pa_cons (pe_tup (pa_cons (pe_str) (pa_cons (pv 4) pa_nil))) pa_nil)))))
      (pss_one (ps_ret (pe_bl)))
      (pss_nil))
    (pss_cons (ps_set (i := 6) nd rfl (Or.inl rfl) (pe_has (dvs := []) h_law_draw hr passL (pa_cons (pv 0) (pa_cons (pe_int) pa_nil))))
    (pss_cons (ps_set (i := 4) nd rfl (Or.inl rfl) (pe_int))
    (pss_cons (ps_for (passes_of rfl) rfl (pi_range1 (by rfl) T.b_range (pa_cons (pv 6) pa_nil)) (pg_name (i := 7) nd rfl (Or.inl rfl))
      (pss_one (ps_set (i := 4) nd rfl (Or.inl rfl) (pe_op op_mul (pv 4) (pe_op op_sub (pv 1) (pe_int))))))
    (pss_cons (ps_if (pt_not (pt_val (pe_has (dvs := []) h_law_exact hr passL (pa_cons (pe_has (dvs := []) h_law_asked hr passL (pa_cons (pe_int) (pa_cons (pv 1) (pa_cons (pv 6) (pa_cons (pe_non) pa_nil))))) (pa_cons (pe_tup (pa_cons (pe_str) (pa_cons (pv 4) pa_nil))) pa_nil)))))
      (pss_one (ps_ret (pe_bl)))
      (pss_nil))
    (pss_cons (ps_if (pt_not (pt_val (pe_has (dvs := []) h_law_exact hr passL (pa_cons (pe_has (dvs := []) h_law_asked hr passL (pa_cons (pe_int) (pa_cons (pv 1) (pa_cons (pe_has (dvs := []) h_law_odd hr passL (pa_cons (pv 0) (pa_cons (pe_int) (pa_cons (pe_int) pa_nil)))) (pa_cons (pe_non) pa_nil))))) (pa_cons (pe_tup (pa_cons (pe_str) (pa_cons (pe_int) pa_nil))) pa_nil)))))
      (pss_one (ps_ret (pe_bl)))
      (pss_nil))
    (pss_cons (ps_set (i := 8) nd rfl (Or.inl rfl) (pe_has (dvs := []) h_law_draw hr passL (pa_cons (pv 0) (pa_cons (pe_op op_add (pe_callB call_len_seq (by rfl) T.b_len (by decide +kernel) (pa_cons (pv 2) pa_nil)) (pe_int)) pa_nil))))
    (pss_cons (ps_set (i := 9) nd rfl (Or.inl rfl) (pe_op op_cat (pe_op op_cat (pe_slice sl_list (pv 2) po_none (po_some (pv 8))) (pe_lst (pa_cons (pe_ix ix_list (pe_lst (pa_cons (pe_op op_sub (pv 1) (pe_int)) (pa_cons (pe_un un_neg (pe_int)) (pa_cons (pe_bl) (pa_cons (pe_non) (pa_cons (pe_str) pa_nil)))))) (pe_has (dvs := []) h_law_draw hr passL (pa_cons (pv 0) (pa_cons (pe_int) pa_nil))) (fun _ _ => rfl)) pa_nil))) (pe_slice sl_list (pv 2) (po_some (pv 8)) po_none)))
    (pss_cons (ps_if (pt_not (pt_val (pe_has (dvs := []) h_law_exact hr passL (pa_cons (pe_has (dvs := []) h_law_asked hr passL (pa_cons (pe_int) (pa_cons (pv 1) (pa_cons (pv 9) (pa_cons (pe_non) pa_nil))))) (pa_cons (pe_tup (pa_cons (pe_str) (pa_cons (pv 8) pa_nil))) pa_nil)))))
      (pss_one (ps_ret (pe_bl)))
      (pss_nil))
    (pss_cons (ps_if (PW.pt (pw_and (pt_cmpR op_gt (pv 1) (pe_int) (nomark _)) (pw_and1 (pt_not (pt_val (pe_has (dvs := []) h_law_exact hr passL (pa_cons (pe_has (dvs := []) h_law_asked hr passL (pa_cons (pe_int) (pa_cons (pv 1) (pa_cons (pv 9) (pa_cons (pe_non) pa_nil))))) (pa_cons (pe_tup (pa_cons (pe_str) (pa_cons (pv 8) pa_nil))) pa_nil))))))))
      (pss_one (ps_ret (pe_bl)))
      (pss_nil))
    (pss_cons (ps_if (pt_not (pt_val (pe_has (dvs := []) h_law_exact hr passL (pa_cons (pe_has (dvs := []) h_law_asked hr passL (pa_cons (pe_int) (pa_cons (pe_op op_add (pe_int) (pe_has (dvs := []) h_law_draw hr passL (pa_cons (pv 0) (pa_cons (pe_int) pa_nil)))) (pa_cons (pe_ix ix_list (pe_lst (pa_cons (pe_non) (pa_cons (pe_str) (pa_cons (pe_int) pa_nil)))) (pe_has (dvs := []) h_law_draw hr passL (pa_cons (pv 0) (pa_cons (pe_int) pa_nil))) (fun _ _ => rfl)) (pa_cons (pe_non) pa_nil))))) (pa_cons (pe_tup (pa_cons (pe_str) (pa_cons (pe_un un_neg (pe_int)) pa_nil))) pa_nil)))))
      (pss_one (ps_ret (pe_bl)))
      (pss_nil))
    (pss_cons (ps_set (i := 10) nd rfl (Or.inl rfl) (pe_ifExp (pt_cmpR op_gt (pv 8) (pe_int) (nomark _)) (pe_ix ix_tup (pv 3) (pe_op op_sub (pv 8) (pe_int)) (fun _ _ => rfl)) (pe_op op_sub (pv 1) (pe_int))))
    (pss_cons (ps_set (i := 11) nd rfl (Or.inl rfl) (pe_op op_catA (pe_op op_catA (pe_slice sl_tupA (pv 3) po_none (po_some (pv 8))) (pe_tup (pa_cons (pe_ix ix_list (pe_lst (pa_cons (pv 10) (pa_cons (pv 1) (pa_cons (pe_un un_neg (pe_int)) (pa_cons (pe_non) (pa_cons (pe_bl) pa_nil)))))) (pe_has (dvs := []) h_law_draw hr passL (pa_cons (pv 0) (pa_cons (pe_int) pa_nil))) (fun _ _ => rfl)) pa_nil))) (pe_slice sl_tupA (pv 3) (po_some (pv 8)) po_none)))
    (pss_cons (ps_if (pt_not (pt_val (pe_has (dvs := []) h_law_exact hr passL (pa_cons (pe_has (dvs := []) h_law_asked hr passL (pa_cons (pe_op op_add (pe_int) (pe_has (dvs := []) h_law_draw hr passL (pa_cons (pv 0) (pa_cons (pe_int) pa_nil)))) (pa_cons (pv 1) (pa_cons (pv 11) (pa_cons (pe_non) pa_nil))))) (pa_cons (pe_tup (pa_cons (pe_str) (pa_cons (pv 8) pa_nil))) pa_nil)))))
      (pss_one (ps_ret (pe_bl)))
      (pss_nil))
    (pss_cons (ps_set (i := 12) nd rfl (Or.inl rfl) (pe_has (dvs := []) h_law_draw hr passL (pa_cons (pv 0) (pa_cons (pe_int) pa_nil))))
    (pss_cons (ps_if (pt_not (pt_val (pe_has (dvs := []) h_law_exact hr passL (pa_cons (pe_has (dvs := []) h_law_asked hr passL (pa_cons (pv 12) (pa_cons (pv 1) (pa_cons (pe_ix ix_list (pe_lst (pa_cons (pe_non) (pa_cons (pe_str) (pa_cons (pe_int) pa_nil)))) (pe_has (dvs := []) h_law_draw hr passL (pa_cons (pv 0) (pa_cons (pe_int) pa_nil))) (fun _ _ => rfl)) (pa_cons (pe_non) pa_nil))))) (pa_cons (pe_tup (pa_cons (pe_ifExp (pt_cmpR op_eq (pv 12) (pe_int) (nomark _)) (pe_str) (pe_str)) (pa_cons (pe_un un_neg (pe_int)) pa_nil))) pa_nil)))))
      (pss_one (ps_ret (pe_bl)))
      (pss_nil))
    (pss_cons (ps_set (i := 12) nd rfl (Or.inl rfl) (pe_has (dvs := []) h_law_draw hr passL (pa_cons (pv 0) (pa_cons (pe_int) pa_nil))))
    (pss_cons (ps_if (pt_cmpR op_eq (pv 12) (pe_int) (nomark _))
      (pss_one (ps_ret (pe_bl)))
      (pss_nil))
    (pss_one (ps_ret (pe_has (dvs := []) h_law_exact hr passL (pa_cons (pe_has (dvs := []) h_law_asked hr passL (pa_cons (pv 12) (pa_cons (pe_has (dvs := []) h_law_odd hr passL (pa_cons (pv 0) (pa_cons (pe_ifExp (pt_cmpR op_lt (pv 12) (pe_int) (nomark _)) (pe_int) (pe_int)) (pa_cons (pe_int) pa_nil)))) (pa_cons (pe_str) (pa_cons (pe_non) pa_nil))))) (pa_cons (pe_tup (pa_cons (pe_str) (pa_cons (pe_int) pa_nil))) pa_nil)))))))))))))))))))))))))))))), ?_⟩
  exact rd_law_words (K := K) h

abbrev s_law_kept_up : Stmt := top 38
theorem sc_law_kept_up : FnScope ["_law_ends", "_law_lines", "_law_sent", "_law_put_here", "_law_source", "_law_sink", "_law_told"] ["_law_ends", "_law_lines", "_law_sent", "_law_put_here"] (defScope s_law_kept_up) := ⟨rfl, rfl, rfl, by decide +kernel, rfl, by decide +kernel, by decide +kernel⟩
theorem ok_law_kept_up (T : Txt K mg) {fd : FuncData} (F : FunD K "_law_kept_up" "_law_kept_up" (defArgs s_law_kept_up) (defBody s_law_kept_up) (defScope s_law_kept_up) [] [] (ga K "_law_kept_up") fd) (h_law_exact : Has P w K mg base 5 "_law_exact" ["_law_told", "_law_due"] [[]] (sp_law_exact K 4)) (h_law_put : Has P w K mg base 1 "_law_put" ["_law_line", "_law_frame"] [[]] (sp_law_put K)) (h_law_whole : Has P w K mg base 1 "_law_whole" ["_law_thing", "_law_low", "_law_high"] [[]] (sp_law_whole K)) : FnOk P w K mg base (L2.CX P w) 6 (ga K "_law_kept_up") fd ["_law_ends", "_law_lines", "_law_sent", "_law_put_here"] (sp_law_kept_up K) := by
  refine F.ok sc_law_kept_up (fun vs H Q E h => len_law_kept_up h) (fun cdv A outer s H vs Q E hr h => ?_)
  have hu := hu_of hr
  have nd := sc_law_kept_up.nd
  refine ⟨_, pss_cons (ps_asg (pv 0) (pg_tup (by rfl) (pgs_cons (pg_name (i := 4) nd rfl (Or.inl rfl)) (pgs_cons (pg_name (i := 5) nd rfl (Or.inl rfl)) pgs_nil))))
    (pss_cons (ps_if (pt_cmpR op_notN (pe_fldC (pv 4) T.cl_StreamSource T.na_StreamSource_frame) (pe_non) (nomark _))
      (pss_cons (ps_if (PW.pt (pw_or (pt_cmpR (op_eqD hr.units) (pv 2) (pe_lst pa_nil) (nomark _)) (pw_or1 (pt_cmpR op_ne (pe_ix ix_list (pv 2) (pe_un un_neg (pe_int)) (fun _ _ => rfl)) (pe_fldC (pv 4) T.cl_StreamSource T.na_StreamSource_frame) (nomark _)))))
          (pss_one (ps_expr (pe_bm PySem.F.plainAttrs_list PySem.F.slot_list_append PySem.F.type_list_append mt_append (pv 2) (pa_cons (pe_fldC (pv 4) T.cl_StreamSource T.na_StreamSource_frame) pa_nil))))
          (pss_nil))
        (pss_one (ps_asg (pe_has (dvs := []) h_law_put hr passL (pa_cons (pe_ix ix_list (pv 1) (pe_int) (fun _ _ => rfl)) (pa_cons (pe_fldC (pv 4) T.cl_StreamSource T.na_StreamSource_frame) pa_nil))) (pg_sub (pv 1) (pe_int) set_list))))
      (pss_nil))
    (pss_cons (ps_if (pt_cmpR op_notN (pe_fldC (pv 5) T.cl_StreamSink T.na_StreamSink_frame) (pe_non) (nomark _))
      (pss_one (ps_asg (pe_has (dvs := []) h_law_put hr passL (pa_cons (pe_ix ix_list (pv 1) (pe_int) (fun _ _ => rfl)) (pa_cons (pe_fldC (pv 5) T.cl_StreamSink T.na_StreamSink_frame) pa_nil))) (pg_sub (pv 1) (pe_int) set_list)))
      (pss_nil))
    (pss_cons (ps_if (PW.pt (pw_or (pt_not (pt_val (pe_has (dvs := []) h_law_exact hr passL (pa_cons (pe_fldC (pv 4) T.cl_StreamSource T.na_StreamSource_digits) (pa_cons (pe_callTy call_tuple_of (by rfl) T.b_tuple (by decide +kernel) (pa_cons (pv 3) pa_nil)) pa_nil))))) (pw_or1 (pt_not (pt_val (pe_callB call_isi (by rfl) T.b_isinstance (by decide +kernel) (pa_cons (pe_fldC (pv 5) T.cl_StreamSink T.na_StreamSink_digits) (pa_cons (pe_bltn (v := .ty "tuple") (by rfl) T.b_tuple (by decide +kernel) rfl) pa_nil))))))))
      (pss_one (ps_ret (pe_bl)))
      (pss_nil))
    (pss_cons (ps_set (i := 6) nd rfl (Or.inl rfl) (pe_fldC (pv 4) T.cl_StreamSource T.na_StreamSource_told))
    (pss_cons (ps_if (PW.pt (pw_or (pt_not (pt_val (pe_has (dvs := []) h_law_whole hr passL (pa_cons (pv 6) (pa_cons (pe_int) (pa_cons (pe_callB call_len_seq (by rfl) T.b_len (by decide +kernel) (pa_cons (pv 3) pa_nil)) pa_nil)))))) (pw_or1 (pt_cmpR op_notIn_seq (pe_callB call_len_seq (by rfl) T.b_len (by decide +kernel) (pa_cons (pe_fldC (pv 5) T.cl_StreamSink T.na_StreamSink_digits) pa_nil)) (pe_tup (pa_cons (pv 6) (pa_cons (pe_op op_add (pv 6) (pe_int)) pa_nil))) (by rfl)))))
      (pss_one (ps_ret (pe_bl)))
      (pss_nil))
    (pss_one (ps_ret (pe_and (pe_has (dvs := []) h_law_exact hr passL (pa_cons (pe_fldC (pv 5) T.cl_StreamSink T.na_StreamSink_digits) (pa_cons (pe_callTy call_tuple_of (by rfl) T.b_tuple (by decide +kernel) (pa_cons (pe_slice sl_list (pv 3) po_none (po_some (pe_callB call_len_seq (by rfl) T.b_len (by decide +kernel) (pa_cons (pe_fldC (pv 5) T.cl_StreamSink T.na_StreamSink_digits) pa_nil)))) pa_nil)) pa_nil))) (pe_one (pe_cmpR op_eq (pe_callB call_len_seq (by rfl) T.b_len (by decide +kernel) (pa_cons (pv 2) pa_nil)) (pe_callB (call_min2 rfl) (by rfl) T.b_min (by decide +kernel) (pa_cons (pe_op op_add (pv 6) (pe_int)) (pa_cons (pe_callB call_len_seq (by rfl) T.b_len (by decide +kernel) (pa_cons (pv 3) pa_nil)) pa_nil))) (nomark _))))))))))), ?_⟩
  exact rd_law_kept_up (K := K) h

abbrev s_law_step : Stmt := top 37
theorem sc_law_step : FnScope ["_law_hand_here", "_law_m", "_law_ends", "_law_lines", "_law_sent", "_law_put_here", "_law_source", "_law_sink", "_law_way", "_law_more", "_law_odd_here", "_law_line", "_law_turn"] ["_law_hand_here", "_law_m", "_law_ends", "_law_lines", "_law_sent", "_law_put_here"] (defScope s_law_step) := ⟨rfl, rfl, rfl, by decide +kernel, rfl, by decide +kernel, by decide +kernel⟩
theorem ok_law_step (T : Txt K mg) {fd : FuncData} (F : FunD K "_law_step" "_law_step" (defArgs s_law_step) (defBody s_law_step) (defScope s_law_step) [] [] (ga K "_law_step") fd) (h_law_draw : Has P w K mg base 2 "_law_draw" ["_law_hand_here", "_law_many"] [[]] (sp_law_draw K)) (h_law_exact : Has P w K mg base 5 "_law_exact" ["_law_told", "_law_due"] [[]] (sp_law_exact K 4)) (h_law_seq : Has P w K mg base 3 "_law_seq" ["_law_hand_here", "_law_row"] [[]] (sp_law_seq K)) (h_law_asked : Has P w K mg base 6 "_law_asked" ["_law_which", "_law_m", "_law_thing", "_law_source"] [[]] (sp_law_asked K)) (h_law_read : Has P w K mg base 3 "_law_read" ["_law_hand_here", "_law_line"] [[]] (sp_law_read K)) (h_law_kept_up : Has P w K mg base 6 "_law_kept_up" ["_law_ends", "_law_lines", "_law_sent", "_law_put_here"] [[]] (sp_law_kept_up K)) (h_StreamSource_hear : HasM P w K mg base 3 (ga K "StreamSource") "hear" ["self", "frame"] [[]] (sp_StreamSource_hear K)) (h_StreamSink_hear : HasM P w K mg base 2 (ga K "StreamSink") "hear" ["self", "frame"] [[]] (sp_StreamSink_hear K)) : FnOk P w K mg base (L2.CX P w) 7 (ga K "_law_step") fd ["_law_hand_here", "_law_m", "_law_ends", "_law_lines", "_law_sent", "_law_put_here"] (sp_law_step K) := by
  refine F.ok sc_law_step (fun vs H Q E h => len_law_step h) (fun cdv A outer s H vs Q E hr h => ?_)
  have hu := hu_of hr
  have nd := sc_law_step.nd
  refine ⟨_, pss_cons (ps_asg (pv 2) (pg_tup (by rfl) (pgs_cons (pg_name (i := 6) nd rfl (Or.inl rfl)) (pgs_cons (pg_name (i := 7) nd rfl (Or.inl rfl)) pgs_nil))))
    (pss_cons (ps_set (i := 8) nd rfl (Or.inl rfl) (pe_has (dvs := []) h_law_draw hr passL (pa_cons (pv 0) (pa_cons (pe_int) pa_nil))))
    (pss_cons (ps_if (PW.pt (pw_and (pt_cmpR op_eq (pv 8) (pe_int) (nomark _)) (pw_and1 (pt_cmpR op_lt (pe_callB call_len_seq (by rfl) T.b_len (by decide +kernel) (pa_cons (pv 5) pa_nil)) (pe_int) (nomark _)))))
      (pss_cons (ps_setLc (i := 9) (own := [("_law_turn", 12)]) (g := (gName 12)) (tt := tYes) rfl nd rfl rfl (sw_true rfl rfl rfl (by decide +kernel)) (pi_range1 (by rfl) T.b_range (pa_cons (pe_has (dvs := []) h_law_draw hr passL (pa_cons (pv 0) (pa_cons (pe_int) pa_nil))) pa_nil)) (blkOk_by (by rfl)) (fun _ _ _ _ _ => pg_name (i := 12) nd rfl (Or.inl rfl)) (fun _ _ _ _ _ => pts_nil) (fun _ _ _ _ _ => (pe_has (sp := sp_law_draw K) (dvs := []) h_law_draw hr passL (pa_cons (pv 0) (pa_cons (pe_op op_sub (pv 1) (pe_int)) pa_nil)))))
        (pss_cons (ps_expr (pe_bm PySem.F.plainAttrs_list PySem.F.slot_list_extend PySem.F.type_list_extend mt_extend (pv 5) (pa_cons (pv 9) pa_nil)))
        (pss_one (ps_if (pt_cmpR (op_neD hr.units) (pe_has (dvs := []) h_law_asked hr passL (pa_cons (pe_int) (pa_cons (pv 1) (pa_cons (pe_has (dvs := []) h_law_seq hr passL (pa_cons (pv 0) (pa_cons (pv 9) pa_nil))) (pa_cons (pv 6) pa_nil))))) (pe_tup (pa_cons (pe_str) (pa_cons (pe_non) pa_nil))) (nomark _))
          (pss_one (ps_ret (pe_bl)))
          (pss_nil)))))
      (pss_one (ps_if (pt_cmpR op_eq (pv 8) (pe_int) (nomark _))
          (pss_cons (ps_set (i := 10) nd rfl (Or.inl rfl) (pe_lst (pa_cons (pe_int) (pa_cons (pe_ix ix_list (pe_lst (pa_cons (pe_op op_sub (pv 1) (pe_int)) (pa_cons (pe_un un_neg (pe_int)) (pa_cons (pe_bl) (pa_cons (pe_str) pa_nil))))) (pe_has (dvs := []) h_law_draw hr passL (pa_cons (pv 0) (pa_cons (pe_int) pa_nil))) (fun _ _ => rfl)) pa_nil))))
            (pss_cons (ps_if (pt_not (pt_val (pe_has (dvs := []) h_law_exact hr passL (pa_cons (pe_has (dvs := []) h_law_asked hr passL (pa_cons (pe_int) (pa_cons (pv 1) (pa_cons (pv 10) (pa_cons (pv 6) pa_nil))))) (pa_cons (pe_tup (pa_cons (pe_str) (pa_cons (pe_int) pa_nil))) pa_nil)))))
              (pss_one (ps_ret (pe_bl)))
              (pss_nil))
            (pss_cons (ps_if (pt_not (pt_val (pe_has (dvs := []) h_law_exact hr passL (pa_cons (pe_has (dvs := []) h_law_asked hr passL (pa_cons (pe_int) (pa_cons (pv 1) (pa_cons (pe_ix ix_list (pe_lst (pa_cons (pe_non) (pa_cons (pe_str) (pa_cons (pe_int) pa_nil)))) (pe_has (dvs := []) h_law_draw hr passL (pa_cons (pv 0) (pa_cons (pe_int) pa_nil))) (fun _ _ => rfl)) (pa_cons (pv 6) pa_nil))))) (pa_cons (pe_tup (pa_cons (pe_str) (pa_cons (pe_un un_neg (pe_int)) pa_nil))) pa_nil)))))
              (pss_one (ps_ret (pe_bl)))
              (pss_nil))
            (pss_one (ps_if (pt_cmpR op_notN (pe_hasM2 h_StreamSource_hear h_StreamSink_hear hr passL (pe_ix ix_tup (pv 2) (pe_has (dvs := []) h_law_draw hr passL (pa_cons (pv 0) (pa_cons (pe_int) pa_nil))) (fun _ _ => rfl)) (pa_cons (pe_ix ix_list (pe_lst (pa_cons (pv 1) (pa_cons (pe_un un_neg (pe_int)) (pa_cons (pe_bl) (pa_cons (pe_non) (pa_cons (pe_str) (pa_cons (pe_op op_add (pv 1) (pe_int)) pa_nil))))))) (pe_has (dvs := []) h_law_draw hr passL (pa_cons (pv 0) (pa_cons (pe_int) pa_nil))) (fun _ _ => rfl)) pa_nil)) (pe_non) (nomark _))
              (pss_one (ps_ret (pe_bl)))
              (pss_nil))))))
          (pss_cons (ps_set (i := 11) nd rfl (Or.inl rfl) (pe_has (dvs := []) h_law_read hr passL (pa_cons (pv 0) (pa_cons (pe_ix ix_list (pv 3) (pe_op op_mod (pv 8) (pe_int)) (fun _ _ => rfl)) pa_nil))))
            (pss_one (ps_if (pt_cmpR op_notN (pv 11) (pe_non) (nomark _))
              (pss_cons (ps_asg (pv 11) (pg_sub (pv 3) (pe_op op_mod (pv 8) (pe_int)) set_list))
                (pss_one (ps_if (pt_cmpR op_notN (pe_hasM2 h_StreamSource_hear h_StreamSink_hear hr passL (pe_ifExp (pt_cmpR op_eq (pe_op op_mod (pv 8) (pe_int)) (pe_int) (nomark _)) (pv 7) (pv 6)) (pa_cons (pe_ix ix_tup (pv 11) (pe_int) (fun _ _ => rfl)) pa_nil)) (pe_non) (nomark _))
                  (pss_one (ps_ret (pe_bl)))
                  (pss_nil))))
              (pss_nil)))))))
    (pss_one (ps_ret (pe_has (dvs := []) h_law_kept_up hr passL (pa_cons (pv 2) (pa_cons (pv 3) (pa_cons (pv 4) (pa_cons (pv 5) pa_nil))))))))), ?_⟩
  exact rd_law_step (K := K) h

abbrev s_law : Stmt := top 39
theorem sc_law : FnScope ["_law_script", "_law_hand_here", "_law_m", "_law_put_here", "_law_source", "_law_sink", "_law_ends", "_law_lines", "_law_sent", "_law_turn", "_law_way", "_law_last", "_law_tail"] ["_law_script"] (defScope s_law) := ⟨rfl, rfl, rfl, by decide +kernel, rfl, by decide +kernel, by decide +kernel⟩
theorem ok_law (T : Txt K mg) {fd : FuncData} (F : FunD K "law" "law" (defArgs s_law) (defBody s_law) (defScope s_law) [] [] (ga K "law") fd) (h_law_draw : Has P w K mg base 2 "_law_draw" ["_law_hand_here", "_law_many"] [[]] (sp_law_draw K)) (h_law_exact : Has P w K mg base 5 "_law_exact" ["_law_told", "_law_due"] [[]] (sp_law_exact K 4)) (h_law_seq : Has P w K mg base 3 "_law_seq" ["_law_hand_here", "_law_row"] [[]] (sp_law_seq K)) (h_law_hand : Has P w K mg base 1 "_law_hand" ["_law_script"] [[]] (sp_law_hand K)) (h_law_word : Has P w K mg base 1 "_law_word" ["_law_m", "_law_digits"] [[]] (sp_law_word K)) (h_law_words : Has P w K mg base 7 "_law_words" ["_law_hand_here"] [[]] (sp_law_words K)) (h_law_step : Has P w K mg base 7 "_law_step" ["_law_hand_here", "_law_m", "_law_ends", "_law_lines", "_law_sent", "_law_put_here"] [[]] (sp_law_step K)) (h_law_kept_up : Has P w K mg base 6 "_law_kept_up" ["_law_ends", "_law_lines", "_law_sent", "_law_put_here"] [[]] (sp_law_kept_up K)) (h_StreamSource_hear : HasM P w K mg base 3 (ga K "StreamSource") "hear" ["self", "frame"] [[]] (sp_StreamSource_hear K)) (h_StreamSink_hear : HasM P w K mg base 2 (ga K "StreamSink") "hear" ["self", "frame"] [[]] (sp_StreamSink_hear K)) (h_StreamSource___init__ : HasC P w K mg base 4 "StreamSource" ["self", "m", "digits"] [[], [.ref (dfT K)]] (sp_StreamSource___init__ K)) (h_StreamSink___init__ : HasC P w K mg base 4 "StreamSink" ["self", "m"] [[]] (sp_StreamSink___init__ K)) : FnOk P w K mg base (L2.CX P w) 8 (ga K "law") fd ["_law_script"] (sp_law K) := by
  refine F.ok sc_law (fun vs H Q E h => len_law h) (fun cdv A outer s H vs Q E hr h => ?_)
  have hu := hu_of hr
  have nd := sc_law.nd
  refine ⟨_, pss_cons (ps_set (i := 1) nd rfl (Or.inr rfl) (pe_has (dvs := []) h_law_hand hr passL (pa_cons (pv 0) pa_nil)))
    (pss_cons (ps_set (i := 2) nd rfl (Or.inr rfl) (pe_op op_add (pe_int) (pe_has (dvs := []) h_law_draw hr passL (pa_cons (pv 1) (pa_cons (pe_int) pa_nil)))))
    (pss_cons (ps_setLc (i := 3) (own := [("_law_turn", 9)]) (g := (gName 9)) (tt := tYes) rfl nd rfl rfl (sw_true rfl rfl rfl (by decide +kernel)) (pi_range1 (by rfl) T.b_range (pa_cons (pe_has (dvs := []) h_law_draw hr passL (pa_cons (pv 1) (pa_cons (pe_int) pa_nil))) pa_nil)) (blkOk_by (by rfl)) (fun _ _ _ _ _ => pg_name (i := 9) nd rfl (Or.inl rfl)) (fun _ _ _ _ _ => pts_nil) (fun _ _ _ _ _ => (pe_has (sp := sp_law_draw K) (dvs := []) h_law_draw hr passL (pa_cons (pv 1) (pa_cons (pe_op op_sub (pv 2) (pe_int)) pa_nil)))))
    (pss_cons (ps_set (i := 4) nd rfl (Or.inl rfl) (pe_ifExp (PW.pt (pw_or (pt_cmpR op_eq (pe_has (dvs := []) h_law_draw hr passL (pa_cons (pv 1) (pa_cons (pe_int) pa_nil))) (pe_int) (nomark _)) (pw_or1 (pt_cmpR (op_neD hr.units) (pv 3) (pe_lst pa_nil) (nomark _))))) (pe_hasC (dvs := []) h_StreamSource___init__ hr (passes_call (W := fun cls d _ H => E cls d H) (takes_of rfl rfl rfl rfl) (fun _ _ _ _ z => z)) (pa_cons (pv 2) (pa_cons (pe_has (dvs := []) h_law_seq hr passL (pa_cons (pv 1) (pa_cons (pv 3) pa_nil))) pa_nil))) (pe_hasC (dvs := [.ref (dfT K)]) h_StreamSource___init__ hr (passes_call (W := fun cls d _ H => E cls d H) (takes_of rfl rfl rfl rfl) (fun _ _ _ _ z => z)) (pa_cons (pv 2) pa_nil))))
    (pss_cons (ps_set (i := 5) nd rfl (Or.inl rfl) (pe_hasC (dvs := []) h_StreamSink___init__ hr (passes_call (W := fun cls d _ H => E cls d H) (takes_of rfl rfl rfl rfl) (fun _ _ _ _ z => z)) (pa_cons (pv 2) pa_nil)))
    (pss_cons (ps_set (i := 6) nd rfl (Or.inl rfl) (pe_tup (pa_cons (pv 4) (pa_cons (pv 5) pa_nil))))
    (pss_cons (ps_set (i := 7) nd rfl (Or.inl rfl) (pe_lst (pa_cons (pe_tup (pa_cons (pe_non) (pa_cons (pe_tup pa_nil) pa_nil))) (pa_cons (pe_tup (pa_cons (pe_non) (pa_cons (pe_tup pa_nil) pa_nil))) pa_nil))))
    (pss_cons (ps_set (i := 8) nd rfl (Or.inl rfl) (pe_lst pa_nil))
    (pss_cons (ps_if (PW.pt (pw_or (pt_cmpR op_notN (pe_fldC (pv 5) T.cl_StreamSink T.na_StreamSink_frame) (pe_non) (nomark _)) (pw_or (pt_cmpR op_ne (pe_fldC (pv 4) T.cl_StreamSource T.na_StreamSource_told) (pe_int) (nomark _)) (pw_or1 (pt_not (pt_val (pe_has (dvs := []) h_law_kept_up hr passL (pa_cons (pv 6) (pa_cons (pv 7) (pa_cons (pv 8) (pa_cons (pv 3) pa_nil)))))))))))
      (pss_one (ps_ret (pe_bl)))
      (pss_nil))
    (pss_cons (ps_for (passes_of rfl) rfl (pi_range1 (by rfl) T.b_range (pa_cons (pe_op op_add (pe_int) (pe_has (dvs := []) h_law_draw hr passL (pa_cons (pv 1) (pa_cons (pe_int) pa_nil)))) pa_nil)) (pg_name (i := 9) nd rfl (Or.inl rfl))
      (pss_one (ps_if (pt_not (pt_val (pe_has (dvs := []) h_law_step hr passL (pa_cons (pv 1) (pa_cons (pv 2) (pa_cons (pv 6) (pa_cons (pv 7) (pa_cons (pv 8) (pa_cons (pv 3) pa_nil)))))))))
          (pss_one (ps_ret (pe_bl)))
          (pss_nil))))
    (pss_cons (ps_for (passes_of rfl) rfl (pi_range1 (by rfl) T.b_range (pa_cons (pe_op op_add (pe_op op_mul (pe_int) (pe_callB call_len_seq (by rfl) T.b_len (by decide +kernel) (pa_cons (pv 3) pa_nil))) (pe_int)) pa_nil)) (pg_name (i := 9) nd rfl (Or.inl rfl))
      (pss_one (ps_for (passes_of rfl) rfl (pi_range1 (by rfl) T.b_range (pa_cons (pe_int) pa_nil)) (pg_name (i := 10) nd rfl (Or.inl rfl))
          (pss_cons (ps_asg (pe_ix ix_list (pv 7) (pv 10) (fun _ _ => rfl)) (pg_tup (by rfl) (pgs_cons (pg_name (i := 11) nd rfl (Or.inl rfl)) (pgs_cons (pg_name (i := 12) nd rfl (Or.inl rfl)) pgs_nil))))
            (pss_one (ps_if (PW.pt (pw_or (pt_cmpR (op_neD hr.units) (pv 12) (pe_tup pa_nil) (nomark _)) (pw_or1 (pt_cmpR op_notN (pv 11) (pe_non) (nomark _)))))
              (pss_cons (ps_asg (pe_ifExp (pt_cmpR (op_neD hr.units) (pv 12) (pe_tup pa_nil) (nomark _)) (pe_tup (pa_cons (pe_ix ix_tup (pv 12) (pe_un un_neg (pe_int)) (fun _ _ => rfl)) (pa_cons (pe_tup pa_nil) pa_nil))) (pe_tup (pa_cons (pv 11) (pa_cons (pe_tup pa_nil) pa_nil)))) (pg_sub (pv 7) (pv 10) set_list))
                (pss_cons (ps_expr (pe_hasM2 h_StreamSource_hear h_StreamSink_hear hr passL (pe_ix ix_tup (pv 6) (pe_op op_sub (pe_int) (pv 10)) (fun _ _ => rfl)) (pa_cons (pe_ix ix_tup (pe_ix ix_list (pv 7) (pv 10) (fun _ _ => rfl)) (pe_int) (fun _ _ => rfl)) pa_nil)))
                (pss_one (ps_if (pt_not (pt_val (pe_has (dvs := []) h_law_kept_up hr passL (pa_cons (pv 6) (pa_cons (pv 7) (pa_cons (pv 8) (pa_cons (pv 3) pa_nil)))))))
                  (pss_one (ps_ret (pe_bl)))
                  (pss_nil)))))
              (pss_nil)))))))
    (pss_cons (ps_if (PW.pt (pw_or (pt_cmpR op_ne (pe_fldC (pv 4) T.cl_StreamSource T.na_StreamSource_told) (pe_callB call_len_seq (by rfl) T.b_len (by decide +kernel) (pa_cons (pv 3) pa_nil)) (nomark _)) (pw_or (pt_not (pt_val (pe_has (dvs := []) h_law_exact hr passL (pa_cons (pe_fldC (pv 5) T.cl_StreamSink T.na_StreamSink_digits) (pa_cons (pe_callTy call_tuple_of (by rfl) T.b_tuple (by decide +kernel) (pa_cons (pv 3) pa_nil)) pa_nil))))) (pw_or1 (pt_cmpR (op_neD hr.units) (pe_callTy call_tuple_of (by rfl) T.b_tuple (by decide +kernel) (pa_cons (pv 8) pa_nil)) (pe_has (dvs := []) h_law_word hr passL (pa_cons (pv 2) (pa_cons (pv 3) pa_nil))) (nomark _))))))
      (pss_one (ps_ret (pe_bl)))
      (pss_nil))
    (pss_one (ps_ret (pe_has (dvs := []) h_law_words hr passL (pa_cons (pv 1) pa_nil))))))))))))))), ?_⟩
  exact rd_law (K := K) h

end
end SF

/-! SF5: facts of own exception classes as Bools; a def by its name from what the head tells. -/
namespace SF
open PySem PySem.Spec PyProof.Rows L2
def oexB (K : Fg) (C : Addr) : Bool := (match K.lookup C with
  | some ⟨.type "type", _, .cls cd, sl⟩ => (match cd.mro, sl.toList with
    | .ref C' :: bm, [_, _, _, _, some (.builtin n), _] => C' == C && (n == "ValueError.__new__") && !cd.hasDel && cd.hasDict && PySem.HandSPX.refsVE bm
    | _, _ => false)
  | _ => false) && (decide (PySem.W.findIn K (.ref C) "__setattr__" = some (some (.builtin "object.__setattr__"))) && (decide (PySem.W.subIn K (.ref C) (.type "BaseException") = some true) && (decide (PySem.W.typeIn K (.ref C) = some (.type "type")) && PySem.W.keepIn K (.ref C))))
theorem oexB_ok {K : Fg} {C : Addr} (q : oexB K C = true) : OexC K C := by
  unfold oexB at q
  obtain ⟨q, q4⟩ := He.ba q
  obtain ⟨q5, q6⟩ := He.ba q4
  obtain ⟨q7, q8⟩ := He.ba q6
  obtain ⟨q9, q10⟩ := He.ba q8
  refine ⟨?_, of_decide_eq_true q5, of_decide_eq_true q7, of_decide_eq_true q9, q10⟩
  split at q
  · rename_i dd cd sl ho
    split at q
    · rename_i C' bm k0 k1 k2 k3 n k5 hm hs
      simp only [Bool.and_eq_true, beq_iff_eq, Bool.not_eq_true'] at q
      obtain ⟨⟨⟨⟨rfl, rfl⟩, hdel⟩, hdd⟩, ht⟩ := q
      obtain ⟨nm, bs, mro, ns, qn, hd, sn, sub, ab, col, del⟩ := cd
      dsimp only at hm hdel hdd
      subst hm hdel hdd
      have hsl : sl = #[k0, k1, k2, k3, some (.builtin "ValueError.__new__"), k5] := by
        obtain ⟨l⟩ := sl
        simp only at hs
        rw [hs]
      subst hsl
      exact ⟨nm, qn, ns, bs, bm, sn, sub, ab, col, dd, k0, k1, k2, k3, k5, ho, ht⟩
    · cases q
  · cases q
def xcB (K : Fg) (D : Addr) : Bool := (PySem.W.clsIn K D).isSome && (decide (PySem.W.findIn K (.ref D) "__getattribute__" = some (some (.builtin "BaseException.__getattribute__"))) && (decide (PySem.W.findIn K (.ref D) "__getattr__" = some none) &&
  (decide (PySem.W.subIn K (.ref D) (.type "BaseException") = some true) && (decide (PySem.W.findIn K (.ref D) "__class__" = some (some (.builtin "object.__class__"))) &&
  (decide (PySem.W.specialIn K (.builtin "object.__class__") "__get__" = some (some (.builtin "getset_descriptor.__get__"))) && (decide (PySem.W.takesIn K (.builtin "object.__class__") = some true) && decide (PySem.W.mroIn K D (.type "object") = some true)))))))
theorem xcB_ok {K : Fg} {D : Addr} (q : xcB K D = true) : XcC K D := by
  unfold xcB at q
  obtain ⟨q1, q⟩ := He.ba q
  obtain ⟨q2, q⟩ := He.ba q
  obtain ⟨q3, q⟩ := He.ba q
  obtain ⟨q4, q⟩ := He.ba q
  obtain ⟨q5, q⟩ := He.ba q
  obtain ⟨q6, q⟩ := He.ba q
  obtain ⟨q7, q8⟩ := He.ba q
  exact ⟨q1, of_decide_eq_true q2, of_decide_eq_true q3, of_decide_eq_true q4, of_decide_eq_true q5, of_decide_eq_true q6, of_decide_eq_true q7, of_decide_eq_true q8⟩
/-- the class's own __init__ -/
def iniB (K : Fg) (C : Addr) : Bool := decide (PySem.W.findIn K (.ref C) "__init__" = some (some (.ref (He.ma K C "__init__")))) && decide (PySem.W.typeIn K (.ref (He.ma K C "__init__")) = some (.type "function"))
def kitIs (K : Fg) (x y : Str) (b : Bool) : Bool := decide (PySem.W.kitOne K (.ref (ga K x)) (.ref (ga K y)) = some b)
section
variable {P : Program} {w : World} {K : Fg} {mg : Str → Option Value} {base : Heap} {x qual : Str} {params : Arguments} {body : List Stmt} {scope : Scope} {dvs : List V} {fd : FuncData} {k : Nat} {ps : List Str} {sp : Sp} {h : Heap}
/-- a def of no defaults -/
theorem has0 (X : K.In h) (G : h.Ns mainGlobals mg) (c : (He.Fa.glo x).ok K = true) (F : FunD K x qual params body scope [] [] (ga K x) fd) (ok : FnOk P w K mg base (L2.CX P w) k (ga K x) fd ps sp)
    (hb : ∀ (kV doc pm : Value) (an : Option Addr) (cdv ct : Value) (us : List Value), us.length = ps.length → bindArgs (PySem.W.fnOf x qual params body scope .none kV doc pm an cdv ct) ⟨us, []⟩ = pure (ps.zip us)) : Has P w K mg base k x ps [[]] sp :=
  ⟨He.glo_ok X G c, F.kp, fd, ok, fun dv h => by cases List.mem_singleton.mp h; exact ⟨[], F.bindsN hb, .nil⟩⟩
theorem has_all {D : List (List V)} (X : K.In h) (G : h.Ns mainGlobals mg) (c : (He.Fa.glo x).ok K = true) (F : FunD K x qual params body scope dvs [] (ga K x) fd) (ok : FnOk P w K mg base (L2.CX P w) k (ga K x) fd ps sp)
    (hb : ∀ dv ∈ D, ∃ ds, Vals dv ds ∧ Binds K fd ps ds) : Has P w K mg base k x ps D sp :=
  ⟨He.glo_ok X G c, F.kp, fd, ok, fun dv h => by obtain ⟨ds, h1, h2⟩ := hb dv h; exact ⟨ds, h2, h1⟩⟩
end
/-- a law's end where a call may raise: the air of exceptions goes by the world -/
theorem walk_ofW {l : PySem.W.OpenLaw} {n k : Nat} {q : Program} {loose : List Str} {XP : (Str → Option Value) → Heap → Prop} {YP : World → Heap → Prop} {d : DefRec} {x : Str} {CX : World → CXT}
    (hn : l.most = some n) (hs : n ≤ sizeLine) (hdf : d.params.defaults = []) (hr : Room k callerA)
    (F : ∀ (w : World) (mg : Str → Option Value) (fa : Addr) (h : Heap), YP w h → h.Ns mainGlobals mg → mg d.name = some (.ref fa) → ∃ (K : Fg) (fd : FuncData) (sp : Sp), K.In h ∧ (∀ (s : Shared) (u : Value), BindsTo s fd ⟨[u], []⟩ [(x, u)]) ∧
      (∀ (H : Hp) (a : Addr) (ns : List Int), ns.length ≤ n → Only H → SqL K H a (ns.map V.int) → sp [.ref a] H (fun v _ => v = .bl true) fun _ _ _ => False) ∧ ∀ base : Heap, K.In base → base.Ns mainGlobals mg → FnOk l.prog w K mg base (CX w) k fa fd [x] sp)
    (no : ∀ (w : World) (H : Hp) (s : Shared) (e : Value) (s' : Shared), CX w [] H s (fun _ _ _ => False) e s' → False) : PySem.W.WalkO q loose XP YP l.row.toRowW d [] (fun f vs => PySem.call f vs) :=
  Att.attach_call hn hdf fun w s₀ s₁ mg mb fa o pm cd doc a vs ns G Y ho hd hcd hmg hobj hints hlen hg => by
    have ⟨K, fd, sp, KX, hb, hsp, hF⟩ := F w mg fa _ Y G.T.g hmg
    exact law_call KX G.T.g G.T.b G.T.builtins G.T.nolimit hg hobj hints (Nat.le_trans hlen hs) hr hF hb (fun H hO hS => hsp H a ns hlen hO hS) fun H e s' c => no w H s₁ e s' c
end SF

/-! SF11: for heads: a default that is the empty tuple; values in a row. -/
namespace SF
open PySem PySem.Spec PyProof.Rows L2
theorem vals_app : ∀ {vs zs : List V} {us ws : List Value}, Vals vs us → Vals zs ws → Vals (vs ++ zs) (us ++ ws)
  | _, _, _, _, .nil, h => h
  | _, _, _, _, .cons r t, h => .cons r (vals_app t h)
def tup0B (K : Fg) (a : Addr) : Bool := match K.lookup a with
  | some ⟨.type c, _, .seq its _, _⟩ => decide (c = "tuple") && decide (its.size = 0)
  | _ => false
theorem tup0B_ok {K : Fg} {a : Addr} (h : tup0B K a = true) (H : Hp) : SqT K H a [] := by
  unfold tup0B at h
  cases q : K.lookup a with
  | none => rw [q] at h; cases h
  | some o =>
    obtain ⟨oc, od, dt, osl⟩ := o
    rw [q] at h
    cases oc with
    | type c =>
      cases dt with
      | seq its n =>
        obtain ⟨h1, h2⟩ := He.ba (show (decide (c = "tuple") && decide (its.size = 0)) = true from h)
        have h3 : its.size = 0 := of_decide_eq_true h2
        refine .inr ⟨_, its, n, q, congrArg Value.type (of_decide_eq_true h1), rfl, by rw [h3]; exact Nat.zero_le _, ?_⟩
        have : its.toList = [] := List.length_eq_zero_iff.mp (by rw [Array.length_toList]; exact h3)
        rw [this]; exact .nil
      | _ => cases h
    | _ => cases dt <;> cases h
end SF


namespace SF
open PySem PySem.Spec PyProof.Rows L2
def d_BadCount_init : He.DefD := ⟨("BadCount", some "__init__"), "__init__", "BadCount.__init__", defArgs s_BadCount_init, defBody s_BadCount_init, defScope s_BadCount_init, [], []⟩
def d_BadWord_init : He.DefD := ⟨("BadWord", some "__init__"), "__init__", "BadWord.__init__", defArgs s_BadWord_init, defBody s_BadWord_init, defScope s_BadWord_init, [], []⟩
def d_BadDigits_init : He.DefD := ⟨("BadDigits", some "__init__"), "__init__", "BadDigits.__init__", defArgs s_BadDigits_init, defBody s_BadDigits_init, defScope s_BadDigits_init, [], []⟩
def d_law_mix : He.DefD := ⟨("_law_mix", none), "_law_mix", "_law_mix", defArgs s_law_mix, defBody s_law_mix, defScope s_law_mix, [], []⟩
def d_law_draw : He.DefD := ⟨("_law_draw", none), "_law_draw", "_law_draw", defArgs s_law_draw, defBody s_law_draw, defScope s_law_draw, [], []⟩
def d_law_exact : He.DefD := ⟨("_law_exact", none), "_law_exact", "_law_exact", defArgs s_law_exact, defBody s_law_exact, defScope s_law_exact, [], []⟩
def d_law_seq : He.DefD := ⟨("_law_seq", none), "_law_seq", "_law_seq", defArgs s_law_seq, defBody s_law_seq, defScope s_law_seq, [], []⟩
def d_law_hand : He.DefD := ⟨("_law_hand", none), "_law_hand", "_law_hand", defArgs s_law_hand, defBody s_law_hand, defScope s_law_hand, [], []⟩
def d_law_word : He.DefD := ⟨("_law_word", none), "_law_word", "_law_word", defArgs s_law_word, defBody s_law_word, defScope s_law_word, [], []⟩
def d_law_odd : He.DefD := ⟨("_law_odd", none), "_law_odd", "_law_odd", defArgs s_law_odd, defBody s_law_odd, defScope s_law_odd, [], []⟩
def d_is_whole : He.DefD := ⟨("is_whole", none), "is_whole", "is_whole", defArgs s_is_whole, defBody s_is_whole, defScope s_is_whole, [.non, .non], []⟩
def d_check_count : He.DefD := ⟨("check_count", none), "check_count", "check_count", defArgs s_check_count, defBody s_check_count, defScope s_check_count, [.int 24], []⟩
def d_check_letters : He.DefD := ⟨("check_letters", none), "check_letters", "check_letters", defArgs s_check_letters, defBody s_check_letters, defScope s_check_letters, [], []⟩
def d_count_words : He.DefD := ⟨("count_words", none), "count_words", "count_words", defArgs s_count_words, defBody s_count_words, defScope s_count_words, [], []⟩
def d_is_sequence : He.DefD := ⟨("is_sequence", none), "is_sequence", "is_sequence", defArgs s_is_sequence, defBody s_is_sequence, defScope s_is_sequence, [], []⟩
def d_check_word : He.DefD := ⟨("check_word", none), "check_word", "check_word", defArgs s_check_word, defBody s_check_word, defScope s_check_word, [], []⟩
def d_digits_fault : He.DefD := ⟨("digits_fault", none), "digits_fault", "digits_fault", defArgs s_digits_fault, defBody s_digits_fault, defScope s_digits_fault, [], []⟩
def d_frame_behind : He.DefD := ⟨("frame_behind", none), "frame_behind", "frame_behind", defArgs s_frame_behind, defBody s_frame_behind, defScope s_frame_behind, [], []⟩
def d_spell_figures : He.DefD := ⟨("spell_figures", none), "spell_figures", "spell_figures", defArgs s_spell_figures, defBody s_spell_figures, defScope s_spell_figures, [], []⟩
def d_digits_to_word : He.DefD := ⟨("digits_to_word", none), "digits_to_word", "digits_to_word", defArgs s_digits_to_word, defBody s_digits_to_word, defScope s_digits_to_word, [], []⟩
def d_digit_behind : He.DefD := ⟨("digit_behind", none), "digit_behind", "digit_behind", defArgs s_digit_behind, defBody s_digit_behind, defScope s_digit_behind, [], []⟩
def d_word_to_digits : He.DefD := ⟨("word_to_digits", none), "word_to_digits", "word_to_digits", defArgs s_word_to_digits, defBody s_word_to_digits, defScope s_word_to_digits, [], []⟩
def d_StreamSource_send_on : He.DefD := ⟨("StreamSource", some "send_on"), "send_on", "StreamSource.send_on", defArgs s_StreamSource_send_on, defBody s_StreamSource_send_on, defScope s_StreamSource_send_on, [], []⟩
def d_StreamSource_put : He.DefD := ⟨("StreamSource", some "put"), "put", "StreamSource.put", defArgs s_StreamSource_put, defBody s_StreamSource_put, defScope s_StreamSource_put, [], []⟩
def d_StreamSink___init__ : He.DefD := ⟨("StreamSink", some "__init__"), "__init__", "StreamSink.__init__", defArgs s_StreamSink___init__, defBody s_StreamSink___init__, defScope s_StreamSink___init__, [], []⟩
def d_StreamSource___init__ : He.DefD := ⟨("StreamSource", some "__init__"), "__init__", "StreamSource.__init__", defArgs s_StreamSource___init__, defBody s_StreamSource___init__, defScope s_StreamSource___init__, [.adr dfT], []⟩
def d_law_asked : He.DefD := ⟨("_law_asked", none), "_law_asked", "_law_asked", defArgs s_law_asked, defBody s_law_asked, defScope s_law_asked, [], []⟩
def d_law_words : He.DefD := ⟨("_law_words", none), "_law_words", "_law_words", defArgs s_law_words, defBody s_law_words, defScope s_law_words, [], []⟩
def d_law_read : He.DefD := ⟨("_law_read", none), "_law_read", "_law_read", defArgs s_law_read, defBody s_law_read, defScope s_law_read, [], []⟩
def d_law_put : He.DefD := ⟨("_law_put", none), "_law_put", "_law_put", defArgs s_law_put, defBody s_law_put, defScope s_law_put, [], []⟩
def d_law_whole : He.DefD := ⟨("_law_whole", none), "_law_whole", "_law_whole", defArgs s_law_whole, defBody s_law_whole, defScope s_law_whole, [], []⟩
def d_law_kept_up : He.DefD := ⟨("_law_kept_up", none), "_law_kept_up", "_law_kept_up", defArgs s_law_kept_up, defBody s_law_kept_up, defScope s_law_kept_up, [], []⟩
def d_StreamSource_hear : He.DefD := ⟨("StreamSource", some "hear"), "hear", "StreamSource.hear", defArgs s_StreamSource_hear, defBody s_StreamSource_hear, defScope s_StreamSource_hear, [], []⟩
def d_StreamSink_hear : He.DefD := ⟨("StreamSink", some "hear"), "hear", "StreamSink.hear", defArgs s_StreamSink_hear, defBody s_StreamSink_hear, defScope s_StreamSink_hear, [], []⟩
def d_law_step : He.DefD := ⟨("_law_step", none), "_law_step", "_law_step", defArgs s_law_step, defBody s_law_step, defScope s_law_step, [], []⟩
def d_law : He.DefD := ⟨("law", none), "law", "law", defArgs s_law, defBody s_law, defScope s_law, [], []⟩
def fn75 : List He.DefD := [d_BadCount_init, d_BadWord_init, d_BadDigits_init, d_law_mix, d_law_draw, d_law_exact, d_law_seq, d_law_hand, d_law_word, d_law_odd, d_is_whole, d_check_count, d_check_letters, d_count_words, d_is_sequence, d_check_word, d_digits_fault, d_frame_behind, d_spell_figures, d_digits_to_word, d_digit_behind, d_word_to_digits, d_StreamSource_send_on, d_StreamSource_put, d_StreamSink___init__, d_StreamSource___init__, d_law_asked, d_law_words, d_law_read, d_law_put, d_law_whole, d_law_kept_up, d_StreamSource_hear, d_StreamSink_hear, d_law_step, d_law]
def fa75 : List He.Fa := [.glo "_law_mix", .glo "_law_draw", .glo "_law_exact", .glo "_law_seq", .glo "_law_hand", .glo "_law_word", .glo "_law_odd", .glo "is_whole", .glo "check_count", .glo "check_letters", .glo "count_words", .glo "is_sequence", .glo "check_word", .glo "digits_fault", .glo "frame_behind", .glo "spell_figures", .glo "digits_to_word", .glo "digit_behind", .glo "word_to_digits", .meth "StreamSource" "send_on", .meth "StreamSource" "put", .mkr "StreamSink", .mkr "StreamSource", .glo "_law_asked", .glo "_law_words", .glo "_law_read", .glo "_law_put", .glo "_law_whole", .glo "_law_kept_up", .meth "StreamSource" "hear", .meth "StreamSink" "hear", .glo "_law_step", .glo "law", .cls "StreamSource", .noat "StreamSource" "m", .noat "StreamSource" "digits", .noat "StreamSource" "told", .noat "StreamSource" "frame", .cls "StreamSink", .noat "StreamSink" "m", .noat "StreamSink" "digits", .noat "StreamSink" "frame", .exm "BadCount" "BadCount" true, .exm "BadCount" "BadWord" false, .exm "BadCount" "BadDigits" false, .exm "BadWord" "BadCount" false, .exm "BadWord" "BadWord" true, .exm "BadWord" "BadDigits" false, .exm "BadDigits" "BadCount" false, .exm "BadDigits" "BadWord" false, .exm "BadDigits" "BadDigits" true, .glo "FrameError", .glo "BadCount", .glo "BadWord", .glo "BadDigits", .glo "StreamSource", .glo "StreamSink", .free "abs", .free "bool", .free "enumerate", .free "int", .free "isinstance", .free "len", .free "list", .free "min", .free "range", .free "str", .free "tuple", .free "zip", .int "WORD_FRAMES" 6, .int "MOST_DIGITS" 64, .noat "BadCount" "most", .noat "BadWord" "at", .noat "BadDigits" "at", .exm "BadCount" "BadCount" true, .exm "BadWord" "BadWord" true, .exm "BadDigits" "BadDigits" true]
def ex75 (K : Fg) : Bool := oexB K (ga K "BadCount") && (iniB K (ga K "BadCount") && (oexB K (ga K "BadWord") && (iniB K (ga K "BadWord") && (oexB K (ga K "BadDigits") && (iniB K (ga K "BadDigits") && (xfB K (ga K "BadCount") && (xcB K (ga K "BadCount") && (xfB K (ga K "BadWord") && (xcB K (ga K "BadWord") && (xfB K (ga K "BadDigits") && (xcB K (ga K "BadDigits") && (tup0B K (dfT K)))))))))))))
theorem facts75 {P : Program} {w : World} {K : Fg} {h : Heap} {mg : Str → Option Value} {f : Addr} (X : K.In h) (G : h.Ns mainGlobals mg) (hfa : mg ("law" : Str) = some (.ref f)) (c : He.SaysX fa75 fn75 [] [] ex75 w h K) :
    ∃ fd : FuncData, (∀ (s : Shared) (v : Value), BindsTo s fd ⟨[v], []⟩ [("_law_script", v)]) ∧ ex75 K = true ∧ (He.SaysD fa75 fn75 K) ∧ ∀ base : Heap, K.In base → base.Ns mainGlobals mg → FnOk P w K mg base (L2.CX P w) 8 f fd ["_law_script"] (sp_law K) := by
  have D := c.t.d
  have E := c.more
  obtain ⟨e0, q0⟩ := He.ba E
  obtain ⟨e1, q1⟩ := He.ba q0
  obtain ⟨e2, q2⟩ := He.ba q1
  obtain ⟨e3, q3⟩ := He.ba q2
  obtain ⟨e4, q4⟩ := He.ba q3
  obtain ⟨e5, q5⟩ := He.ba q4
  obtain ⟨e6, q6⟩ := He.ba q5
  obtain ⟨e7, q7⟩ := He.ba q6
  obtain ⟨e8, q8⟩ := He.ba q7
  obtain ⟨e9, q9⟩ := He.ba q8
  obtain ⟨e10, q10⟩ := He.ba q9
  obtain ⟨e11, q11⟩ := He.ba q10
  have e12 := q11
  have T : Txt K mg := ⟨He.free_ok X G (D.fact 57 (f := .free "abs") rfl), He.free_ok X G (D.fact 58 (f := .free "bool") rfl), He.free_ok X G (D.fact 59 (f := .free "enumerate") rfl), He.free_ok X G (D.fact 60 (f := .free "int") rfl), He.free_ok X G (D.fact 61 (f := .free "isinstance") rfl), He.free_ok X G (D.fact 62 (f := .free "len") rfl), He.free_ok X G (D.fact 63 (f := .free "list") rfl), He.free_ok X G (D.fact 64 (f := .free "min") rfl), He.free_ok X G (D.fact 65 (f := .free "range") rfl), He.free_ok X G (D.fact 66 (f := .free "str") rfl), He.free_ok X G (D.fact 67 (f := .free "tuple") rfl), He.free_ok X G (D.fact 68 (f := .free "zip") rfl), He.int_ok X G (D.fact 69 (f := .int "WORD_FRAMES" 6) rfl), He.int_ok X G (D.fact 70 (f := .int "MOST_DIGITS" 64) rfl), He.glo_ok X G (D.fact 51 (f := .glo "FrameError") rfl), He.glo_ok X G (D.fact 52 (f := .glo "BadCount") rfl), He.glo_ok X G (D.fact 53 (f := .glo "BadWord") rfl), He.glo_ok X G (D.fact 54 (f := .glo "BadDigits") rfl), He.glo_ok X G (D.fact 55 (f := .glo "StreamSource") rfl), He.glo_ok X G (D.fact 56 (f := .glo "StreamSink") rfl), He.cls_ok (D.fact 33 (f := .cls "StreamSource") rfl), He.noat_ok (D.fact 34 (f := .noat "StreamSource" "m") rfl), He.noat_ok (D.fact 35 (f := .noat "StreamSource" "digits") rfl), He.noat_ok (D.fact 36 (f := .noat "StreamSource" "told") rfl), He.noat_ok (D.fact 37 (f := .noat "StreamSource" "frame") rfl), He.cls_ok (D.fact 38 (f := .cls "StreamSink") rfl), He.noat_ok (D.fact 39 (f := .noat "StreamSink" "m") rfl), He.noat_ok (D.fact 40 (f := .noat "StreamSink" "digits") rfl), He.noat_ok (D.fact 41 (f := .noat "StreamSink" "frame") rfl), xfB_ok e6, xcB_ok e7, xfB_ok e8, xcB_ok e9, xfB_ok e10, xcB_ok e11, He.noat_ok (D.fact 71 (f := .noat "BadCount" "most") rfl), He.noat_ok (D.fact 72 (f := .noat "BadWord" "at") rfl), He.noat_ok (D.fact 73 (f := .noat "BadDigits" "at") rfl)⟩
  obtain ⟨fd0, F0⟩ := D.def_ 0 (d := d_BadCount_init) rfl
  obtain ⟨fd1, F1⟩ := D.def_ 1 (d := d_BadWord_init) rfl
  obtain ⟨fd2, F2⟩ := D.def_ 2 (d := d_BadDigits_init) rfl
  obtain ⟨fd3, F3⟩ := D.def_ 3 (d := d_law_mix) rfl
  obtain ⟨fd4, F4⟩ := D.def_ 4 (d := d_law_draw) rfl
  obtain ⟨fd5, F5⟩ := D.def_ 5 (d := d_law_exact) rfl
  obtain ⟨fd6, F6⟩ := D.def_ 6 (d := d_law_seq) rfl
  obtain ⟨fd7, F7⟩ := D.def_ 7 (d := d_law_hand) rfl
  obtain ⟨fd8, F8⟩ := D.def_ 8 (d := d_law_word) rfl
  obtain ⟨fd9, F9⟩ := D.def_ 9 (d := d_law_odd) rfl
  obtain ⟨fd10, F10⟩ := D.def_ 10 (d := d_is_whole) rfl
  obtain ⟨fd11, F11⟩ := D.def_ 11 (d := d_check_count) rfl
  obtain ⟨fd12, F12⟩ := D.def_ 12 (d := d_check_letters) rfl
  obtain ⟨fd13, F13⟩ := D.def_ 13 (d := d_count_words) rfl
  obtain ⟨fd14, F14⟩ := D.def_ 14 (d := d_is_sequence) rfl
  obtain ⟨fd15, F15⟩ := D.def_ 15 (d := d_check_word) rfl
  obtain ⟨fd16, F16⟩ := D.def_ 16 (d := d_digits_fault) rfl
  obtain ⟨fd17, F17⟩ := D.def_ 17 (d := d_frame_behind) rfl
  obtain ⟨fd18, F18⟩ := D.def_ 18 (d := d_spell_figures) rfl
  obtain ⟨fd19, F19⟩ := D.def_ 19 (d := d_digits_to_word) rfl
  obtain ⟨fd20, F20⟩ := D.def_ 20 (d := d_digit_behind) rfl
  obtain ⟨fd21, F21⟩ := D.def_ 21 (d := d_word_to_digits) rfl
  obtain ⟨fd22, F22⟩ := D.def_ 22 (d := d_StreamSource_send_on) rfl
  obtain ⟨fd23, F23⟩ := D.def_ 23 (d := d_StreamSource_put) rfl
  obtain ⟨fd24, F24⟩ := D.def_ 24 (d := d_StreamSink___init__) rfl
  obtain ⟨fd25, F25⟩ := D.def_ 25 (d := d_StreamSource___init__) rfl
  obtain ⟨fd26, F26⟩ := D.def_ 26 (d := d_law_asked) rfl
  obtain ⟨fd27, F27⟩ := D.def_ 27 (d := d_law_words) rfl
  obtain ⟨fd28, F28⟩ := D.def_ 28 (d := d_law_read) rfl
  obtain ⟨fd29, F29⟩ := D.def_ 29 (d := d_law_put) rfl
  obtain ⟨fd30, F30⟩ := D.def_ 30 (d := d_law_whole) rfl
  obtain ⟨fd31, F31⟩ := D.def_ 31 (d := d_law_kept_up) rfl
  obtain ⟨fd32, F32⟩ := D.def_ 32 (d := d_StreamSource_hear) rfl
  obtain ⟨fd33, F33⟩ := D.def_ 33 (d := d_StreamSink_hear) rfl
  obtain ⟨fd34, F34⟩ := D.def_ 34 (d := d_law_step) rfl
  obtain ⟨fd35, F35⟩ := D.def_ 35 (d := d_law) rfl
  have e := hfa.symm.trans (He.glo_ok X G (D.fact 32 (f := .glo "law") rfl))
  cases e
  refine ⟨fd35, fun s v => FunD.bindsA (ps := ["_law_script"]) F35 (fun _ _ _ _ _ _ us hl => match us, hl with | [_], _ => rfl) s [v] rfl, c.more, D, fun base _ _ => ?_⟩
  have i_BadCount := He.ba e1
  have xh_BadCount : ExHas P w K mg base "BadCount" ["most"] := ⟨oexB_ok e0, T.g_BadCount, of_decide_eq_true i_BadCount.1, of_decide_eq_true i_BadCount.2, ⟨fd0, ok_BadCount_init (oexB_ok e0) T.no_BadCount_most F0, F0.bindsN fun _ _ _ _ _ _ us hl => match us, hl with | [_, _], _ => rfl⟩⟩
  have i_BadWord := He.ba e3
  have xh_BadWord : ExHas P w K mg base "BadWord" ["at"] := ⟨oexB_ok e2, T.g_BadWord, of_decide_eq_true i_BadWord.1, of_decide_eq_true i_BadWord.2, ⟨fd1, ok_BadWord_init (oexB_ok e2) T.no_BadWord_at F1, F1.bindsN fun _ _ _ _ _ _ us hl => match us, hl with | [_, _], _ => rfl⟩⟩
  have i_BadDigits := He.ba e5
  have xh_BadDigits : ExHas P w K mg base "BadDigits" ["at"] := ⟨oexB_ok e4, T.g_BadDigits, of_decide_eq_true i_BadDigits.1, of_decide_eq_true i_BadDigits.2, ⟨fd2, ok_BadDigits_init (oexB_ok e4) T.no_BadDigits_at F2, F2.bindsN fun _ _ _ _ _ _ us hl => match us, hl with | [_, _], _ => rfl⟩⟩
  have h_law_mix : Has P w K mg base 1 "_law_mix" ["_law_number", "_law_turn"] [[]] (sp_law_mix) := has0 X G (D.fact 0 (f := .glo "_law_mix") rfl) F3 (ok_law_mix T F3 ) (fun _ _ _ _ _ _ us hl => match us, hl with | [_, _], _ => rfl)
  have h_law_draw : Has P w K mg base 2 "_law_draw" ["_law_hand_here", "_law_many"] [[]] (sp_law_draw K) := has0 X G (D.fact 1 (f := .glo "_law_draw") rfl) F4 (ok_law_draw T F4 h_law_mix) (fun _ _ _ _ _ _ us hl => match us, hl with | [_, _], _ => rfl)
  have dp_law_exact_0 : Has P w K mg base (0 + 1) "_law_exact" ["_law_told", "_law_due"] [[]] (sp_law_exact K 0) := has0 X G (D.fact 2 (f := .glo "_law_exact") rfl) F5 (ok_law_exact_0 T F5) (fun _ _ _ _ _ _ us hl => match us, hl with | [_, _], _ => rfl)
  have dp_law_exact_1 : Has P w K mg base 2 "_law_exact" ["_law_told", "_law_due"] [[]] (sp_law_exact K 1) := has0 X G (D.fact 2 (f := .glo "_law_exact") rfl) F5 (ok_law_exact T F5 0 1 dp_law_exact_0) (fun _ _ _ _ _ _ us hl => match us, hl with | [_, _], _ => rfl)
  have dp_law_exact_2 : Has P w K mg base 3 "_law_exact" ["_law_told", "_law_due"] [[]] (sp_law_exact K 2) := has0 X G (D.fact 2 (f := .glo "_law_exact") rfl) F5 (ok_law_exact T F5 1 2 dp_law_exact_1) (fun _ _ _ _ _ _ us hl => match us, hl with | [_, _], _ => rfl)
  have dp_law_exact_3 : Has P w K mg base 4 "_law_exact" ["_law_told", "_law_due"] [[]] (sp_law_exact K 3) := has0 X G (D.fact 2 (f := .glo "_law_exact") rfl) F5 (ok_law_exact T F5 2 3 dp_law_exact_2) (fun _ _ _ _ _ _ us hl => match us, hl with | [_, _], _ => rfl)
  have dp_law_exact_4 : Has P w K mg base 5 "_law_exact" ["_law_told", "_law_due"] [[]] (sp_law_exact K 4) := has0 X G (D.fact 2 (f := .glo "_law_exact") rfl) F5 (ok_law_exact T F5 3 4 dp_law_exact_3) (fun _ _ _ _ _ _ us hl => match us, hl with | [_, _], _ => rfl)
  have h_law_exact := dp_law_exact_4
  have h_law_seq : Has P w K mg base 3 "_law_seq" ["_law_hand_here", "_law_row"] [[]] (sp_law_seq K) := has0 X G (D.fact 3 (f := .glo "_law_seq") rfl) F6 (ok_law_seq T F6 h_law_draw) (fun _ _ _ _ _ _ us hl => match us, hl with | [_, _], _ => rfl)
  have h_law_hand : Has P w K mg base 1 "_law_hand" ["_law_script"] [[]] (sp_law_hand K) := has0 X G (D.fact 4 (f := .glo "_law_hand") rfl) F7 (ok_law_hand T F7 ) (fun _ _ _ _ _ _ us hl => match us, hl with | [_], _ => rfl)
  have h_law_word : Has P w K mg base 1 "_law_word" ["_law_m", "_law_digits"] [[]] (sp_law_word K) := has0 X G (D.fact 5 (f := .glo "_law_word") rfl) F8 (ok_law_word T F8 ) (fun _ _ _ _ _ _ us hl => match us, hl with | [_, _], _ => rfl)
  have h_law_odd : Has P w K mg base 3 "_law_odd" ["_law_hand_here", "_law_low", "_law_high"] [[]] (sp_law_odd K) := has0 X G (D.fact 6 (f := .glo "_law_odd") rfl) F9 (ok_law_odd T F9 h_law_draw) (fun _ _ _ _ _ _ us hl => match us, hl with | [_, _, _], _ => rfl)
  have h_is_whole : Has P w K mg base 1 "is_whole" ["thing", "low", "high"] [[], [.non], [.non, .non]] (sp_is_whole K) := has_all X G (D.fact 7 (f := .glo "is_whole") rfl) F10 (ok_is_whole T F10 ) (by
    intro dv hd
    simp only [List.mem_cons, List.not_mem_nil, or_false] at hd
    rcases hd with rfl | rfl | rfl
    · exact F10.binds1 3 2 (by simp [He.DefD.dvs, d_is_whole]) rfl fun _ _ _ _ _ _ _ us its hu hi => match us, hu, its, hi with | [_, _, _], _, [_, _], _ => ⟨_, rfl, rfl⟩
    · exact F10.binds1 2 1 (by simp [He.DefD.dvs, d_is_whole]) rfl fun _ _ _ _ _ _ _ us its hu hi => match us, hu, its, hi with | [_, _], _, [_, _], _ => ⟨_, rfl, rfl⟩
    · exact F10.binds1 1 0 (by simp [He.DefD.dvs, d_is_whole]) rfl fun _ _ _ _ _ _ _ us its hu hi => match us, hu, its, hi with | [_], _, [_, _], _ => ⟨_, rfl, rfl⟩)
  have h_check_count : Has P w K mg base 3 "check_count" ["m", "most"] [[], [.int 24]] (sp_check_count K) := has_all X G (D.fact 8 (f := .glo "check_count") rfl) F11 (ok_check_count T F11 h_is_whole xh_BadCount) (by
    intro dv hd
    simp only [List.mem_cons, List.not_mem_nil, or_false] at hd
    rcases hd with rfl | rfl
    · exact F11.binds1 2 1 (by simp [He.DefD.dvs, d_check_count]) rfl fun _ _ _ _ _ _ _ us its hu hi => match us, hu, its, hi with | [_, _], _, [_], _ => ⟨_, rfl, rfl⟩
    · exact F11.binds1 1 0 (by simp [He.DefD.dvs, d_check_count]) rfl fun _ _ _ _ _ _ _ us its hu hi => match us, hu, its, hi with | [_], _, [_], _ => ⟨_, rfl, rfl⟩)
  have h_check_letters : Has P w K mg base 3 "check_letters" ["m", "least"] [[]] (sp_check_letters K) := has0 X G (D.fact 9 (f := .glo "check_letters") rfl) F12 (ok_check_letters T F12 h_is_whole xh_BadCount) (fun _ _ _ _ _ _ us hl => match us, hl with | [_, _], _ => rfl)
  have h_count_words : Has P w K mg base 4 "count_words" ["m", "d"] [[]] (sp_count_words K) := has0 X G (D.fact 10 (f := .glo "count_words") rfl) F13 (ok_count_words T F13 h_check_count h_check_letters) (fun _ _ _ _ _ _ us hl => match us, hl with | [_, _], _ => rfl)
  have h_is_sequence : Has P w K mg base 1 "is_sequence" ["thing"] [[]] (sp_is_sequence K) := has0 X G (D.fact 11 (f := .glo "is_sequence") rfl) F14 (ok_is_sequence T F14 ) (fun _ _ _ _ _ _ us hl => match us, hl with | [_], _ => rfl)
  have h_check_word : Has P w K mg base 4 "check_word" ["m", "word"] [[]] (sp_check_word K) := has0 X G (D.fact 12 (f := .glo "check_word") rfl) F15 (ok_check_word T F15 h_is_whole h_is_sequence h_check_letters xh_BadWord) (fun _ _ _ _ _ _ us hl => match us, hl with | [_, _], _ => rfl)
  have h_digits_fault : Has P w K mg base 2 "digits_fault" ["m", "digits"] [[]] (sp_digits_fault K) := has0 X G (D.fact 13 (f := .glo "digits_fault") rfl) F16 (ok_digits_fault T F16 h_is_whole h_is_sequence) (fun _ _ _ _ _ _ us hl => match us, hl with | [_, _], _ => rfl)
  have h_frame_behind : Has P w K mg base 1 "frame_behind" ["last", "digit"] [[]] (sp_frame_behind K) := has0 X G (D.fact 14 (f := .glo "frame_behind") rfl) F17 (ok_frame_behind T F17 ) (fun _ _ _ _ _ _ us hl => match us, hl with | [_, _], _ => rfl)
  have h_spell_figures : Has P w K mg base 2 "spell_figures" ["last", "figures"] [[]] (sp_spell_figures K) := has0 X G (D.fact 15 (f := .glo "spell_figures") rfl) F18 (ok_spell_figures T F18 h_frame_behind) (fun _ _ _ _ _ _ us hl => match us, hl with | [_, _], _ => rfl)
  have h_digits_to_word : Has P w K mg base 4 "digits_to_word" ["m", "digits"] [[]] (sp_digits_to_word K) := has0 X G (D.fact 16 (f := .glo "digits_to_word") rfl) F19 (ok_digits_to_word T F19 h_check_letters h_digits_fault h_spell_figures xh_BadDigits) (fun _ _ _ _ _ _ us hl => match us, hl with | [_, _], _ => rfl)
  have h_digit_behind : Has P w K mg base 1 "digit_behind" ["last", "frame"] [[]] (sp_digit_behind K) := has0 X G (D.fact 17 (f := .glo "digit_behind") rfl) F20 (ok_digit_behind T F20 ) (fun _ _ _ _ _ _ us hl => match us, hl with | [_, _], _ => rfl)
  have h_word_to_digits : Has P w K mg base 5 "word_to_digits" ["m", "word"] [[]] (sp_word_to_digits K) := has0 X G (D.fact 18 (f := .glo "word_to_digits") rfl) F21 (ok_word_to_digits T F21 h_check_word h_digit_behind) (fun _ _ _ _ _ _ us hl => match us, hl with | [_, _], _ => rfl)
  have h_StreamSource_send_on : HasM P w K mg base 2 (ga K "StreamSource") "send_on" ["self"] [[]] (sp_StreamSource_send_on K) := ⟨He.cls_ok (D.fact 33 (f := .cls "StreamSource") rfl), He.meth_ok (D.fact 19 (f := .meth "StreamSource" "send_on") rfl), fd22, ok_StreamSource_send_on T F22 h_frame_behind, fun dv hd => by
    cases List.mem_singleton.mp hd
    exact ⟨[], F22.bindsN (fun _ _ _ _ _ _ us hl => match us, hl with | [_], _ => rfl), .nil⟩⟩
  have h_StreamSource_put : HasM P w K mg base 3 (ga K "StreamSource") "put" ["self", "digits"] [[]] (sp_StreamSource_put K) := ⟨He.cls_ok (D.fact 33 (f := .cls "StreamSource") rfl), He.meth_ok (D.fact 20 (f := .meth "StreamSource" "put") rfl), fd23, ok_StreamSource_put T F23 h_digits_fault h_StreamSource_send_on xh_BadDigits, fun dv hd => by
    cases List.mem_singleton.mp hd
    exact ⟨[], F23.bindsN (fun _ _ _ _ _ _ us hl => match us, hl with | [_, _], _ => rfl), .nil⟩⟩
  have ok_i_StreamSink___init__ := ok_StreamSink___init__ T F24 h_check_letters
  have h_StreamSink___init__ : HasC P w K mg base 4 "StreamSink" ["self", "m"] [[]] (sp_StreamSink___init__ K) := ⟨T.g_StreamSink, He.mkr_ok (D.fact 21 (f := .mkr "StreamSink") rfl), fd24, ok_i_StreamSink___init__, fun dv hd => by
    cases List.mem_singleton.mp hd
    exact ⟨[], F24.bindsN (fun _ _ _ _ _ _ us hl => match us, hl with | [_, _], _ => rfl), .nil⟩⟩
  have ok_i_StreamSource___init__ := ok_StreamSource___init__ T F25 h_check_letters h_StreamSource_put
  have h_StreamSource___init__ : HasC P w K mg base 4 "StreamSource" ["self", "m", "digits"] [[], [.ref (dfT K)]] (sp_StreamSource___init__ K) := ⟨T.g_StreamSource, He.mkr_ok (D.fact 22 (f := .mkr "StreamSource") rfl), fd25, ok_i_StreamSource___init__, fun dv hd => by
    simp only [List.mem_cons, List.not_mem_nil, or_false] at hd
    rcases hd with rfl | rfl
    · obtain ⟨ds, b1, b2⟩ := F25.binds1 (ps := ["self", "m", "digits"]) 3 1 (by simp [He.DefD.dvs, d_StreamSource___init__]) rfl fun _ _ _ _ _ _ _ us its hu hi => match us, hu, its, hi with | [_, _, _], _, [_], _ => ⟨_, rfl, rfl⟩
      exact ⟨ds, b2, b1⟩
    · obtain ⟨ds, b1, b2⟩ := F25.binds1 (ps := ["self", "m", "digits"]) 2 0 (by simp [He.DefD.dvs, d_StreamSource___init__]) rfl fun _ _ _ _ _ _ _ us its hu hi => match us, hu, its, hi with | [_, _], _, [_], _ => ⟨_, rfl, rfl⟩
      exact ⟨ds, b2, b1⟩⟩
  have h_StreamSource___init___digits : HasCK P w K mg base 4 "StreamSource" ["self", "m", "digits"] 1 ["digits"] (fun vs zs => vs ++ zs) (sp_StreamSource___init__ K) := by
    obtain ⟨its, kb⟩ := F25.kbindsD (ps := ["self", "m", "digits"]) 2 ["digits"] (fun us _ ws => us ++ ws) (by simp [He.DefD.dvs, d_StreamSource___init__]) (fun r1 _ r3 => vals_app r1 r3) fun _ _ _ _ _ _ _ us its ws hu hi hw => match us, hu, its, hi, ws, hw with | [_, _], _, [_], _, [_], _ => ⟨_, rfl, rfl⟩
    exact ⟨T.g_StreamSource, He.mkr_ok (D.fact 22 (f := .mkr "StreamSource") rfl), fd25, _, ok_i_StreamSource___init__, kb⟩
  have h_law_asked : Has P w K mg base 6 "_law_asked" ["_law_which", "_law_m", "_law_thing", "_law_source"] [[]] (sp_law_asked K) := has0 X G (D.fact 23 (f := .glo "_law_asked") rfl) F26 (ok_law_asked T F26 h_count_words h_check_word h_digits_to_word h_word_to_digits h_StreamSource_put h_StreamSink___init__ h_StreamSource___init___digits) (fun _ _ _ _ _ _ us hl => match us, hl with | [_, _, _, _], _ => rfl)
  have h_law_words : Has P w K mg base 7 "_law_words" ["_law_hand_here"] [[]] (sp_law_words K) := has0 X G (D.fact 24 (f := .glo "_law_words") rfl) F27 (ok_law_words T F27 h_law_draw h_law_exact h_law_seq h_law_odd h_law_word h_law_asked) (fun _ _ _ _ _ _ us hl => match us, hl with | [_], _ => rfl)
  have h_law_read : Has P w K mg base 3 "_law_read" ["_law_hand_here", "_law_line"] [[]] (sp_law_read K) := has0 X G (D.fact 25 (f := .glo "_law_read") rfl) F28 (ok_law_read T F28 h_law_draw) (fun _ _ _ _ _ _ us hl => match us, hl with | [_, _], _ => rfl)
  have h_law_put : Has P w K mg base 1 "_law_put" ["_law_line", "_law_frame"] [[]] (sp_law_put K) := has0 X G (D.fact 26 (f := .glo "_law_put") rfl) F29 (ok_law_put T F29 ) (fun _ _ _ _ _ _ us hl => match us, hl with | [_, _], _ => rfl)
  have h_law_whole : Has P w K mg base 1 "_law_whole" ["_law_thing", "_law_low", "_law_high"] [[]] (sp_law_whole K) := has0 X G (D.fact 27 (f := .glo "_law_whole") rfl) F30 (ok_law_whole T F30 ) (fun _ _ _ _ _ _ us hl => match us, hl with | [_, _, _], _ => rfl)
  have h_law_kept_up : Has P w K mg base 6 "_law_kept_up" ["_law_ends", "_law_lines", "_law_sent", "_law_put_here"] [[]] (sp_law_kept_up K) := has0 X G (D.fact 28 (f := .glo "_law_kept_up") rfl) F31 (ok_law_kept_up T F31 h_law_exact h_law_put h_law_whole) (fun _ _ _ _ _ _ us hl => match us, hl with | [_, _, _, _], _ => rfl)
  have h_StreamSource_hear : HasM P w K mg base 3 (ga K "StreamSource") "hear" ["self", "frame"] [[]] (sp_StreamSource_hear K) := ⟨He.cls_ok (D.fact 33 (f := .cls "StreamSource") rfl), He.meth_ok (D.fact 29 (f := .meth "StreamSource" "hear") rfl), fd32, ok_StreamSource_hear T F32 h_is_whole h_StreamSource_send_on, fun dv hd => by
    cases List.mem_singleton.mp hd
    exact ⟨[], F32.bindsN (fun _ _ _ _ _ _ us hl => match us, hl with | [_, _], _ => rfl), .nil⟩⟩
  have h_StreamSink_hear : HasM P w K mg base 2 (ga K "StreamSink") "hear" ["self", "frame"] [[]] (sp_StreamSink_hear K) := ⟨He.cls_ok (D.fact 38 (f := .cls "StreamSink") rfl), He.meth_ok (D.fact 30 (f := .meth "StreamSink" "hear") rfl), fd33, ok_StreamSink_hear T F33 h_is_whole h_digit_behind, fun dv hd => by
    cases List.mem_singleton.mp hd
    exact ⟨[], F33.bindsN (fun _ _ _ _ _ _ us hl => match us, hl with | [_, _], _ => rfl), .nil⟩⟩
  have h_law_step : Has P w K mg base 7 "_law_step" ["_law_hand_here", "_law_m", "_law_ends", "_law_lines", "_law_sent", "_law_put_here"] [[]] (sp_law_step K) := has0 X G (D.fact 31 (f := .glo "_law_step") rfl) F34 (ok_law_step T F34 h_law_draw h_law_exact h_law_seq h_law_asked h_law_read h_law_kept_up h_StreamSource_hear h_StreamSink_hear) (fun _ _ _ _ _ _ us hl => match us, hl with | [_, _, _, _, _, _], _ => rfl)
  exact ok_law T F35 h_law_draw h_law_exact h_law_seq h_law_hand h_law_word h_law_words h_law_step h_law_kept_up h_StreamSource_hear h_StreamSink_hear h_StreamSource___init__ h_StreamSink___init__
end SF


namespace SF
open PySem PySem.Spec PyProof.Rows L2
abbrev R75 : PySem.W.OpenRow := PySem.W.OpenLaw.row PySem.Challenge.rw_spentframes_k75_whole_streams_through_lo
abbrev hk75 : PySem.W.Hook := He.hookX 5 fa75 fn75 [] [] ex75
def ob75 (s : PySem.W.SharedT) : He.AlX := He.obsX 5 fa75 fn75 [] [] ex75 (HandSHeadRun.getT s)
theorem ob_eq75 (s : PySem.W.SharedT) : ob75 s = hk75.obs s.abs := He.obsX_eq (HandSHeadRun.getT_eq s)
abbrev lo75 : List Str := (["FrameError", "BadCount", "BadWord", "BadDigits", "StreamSource", "StreamSink", "WORD_FRAMES", "MOST_DIGITS", "is_whole", "is_sequence", "check_count", "check_letters", "digits_fault", "count_words", "check_word", "frame_behind", "digit_behind", "spell_figures", "digits_to_word", "word_to_digits"] : List Str) ++ (["_law_mix", "_law_draw", "_law_exact", "_law_seq", "_law_odd", "_law_put", "_law_whole", "_law_hand", "_law_word", "_law_asked", "_law_words", "_law_read", "_law_step", "_law_kept_up"] : List Str)
theorem run75 (w : World) : HandSHeadRun.RunEq R75 (PySem.W.view R75.prog [39]) hk75 ob75 3000 lo75 w := by
  intro os
  kernel_rfl
end SF

/-! Z75: the law. -/
open PySem PySem.W PySem.Calls PyProof.Rows
theorem PySem.Challenge.cw_spentframes_k75_whole_streams_through_lo_holds : PySem.Challenge.rw_spentframes_k75_whole_streams_through_lo.Holds := by
  w_on; o_law
  refine HandSHeadRun.head_any (r := OpenLaw.row PySem.Challenge.rw_spentframes_k75_whole_streams_through_lo) (q := view (OpenLaw.row PySem.Challenge.rw_spentframes_k75_whole_streams_through_lo).prog [39]) (H := SF.hk75) (ob := SF.ob75) (M := 3000) (loose := SF.lo75) (d := HandSHeadRun.topDef (OpenLaw.row PySem.Challenge.rw_spentframes_k75_whole_streams_through_lo).prog 39) (kwd := []) SF.ob_eq75
    (by kernel_rfl) (fun s => by kernel_rfl) SF.run75 (by kernel_rfl) (by kernel_rfl) (by kernel_rfl) (by rfl) (by first | assumption | decide +kernel) (by decide +kernel) ⟨rfl, rfl, rfl, rfl, rfl, by decide +kernel⟩ ?hw ?hc
  case hw => w_witness2
  case hc =>
    refine SF.walk_ofW (l := PySem.Challenge.rw_spentframes_k75_whole_streams_through_lo) (n := 63) (k := 8) (x := "_law_script") (CX := fun w => L2.CX PySem.Challenge.pw_spentframes_k75_whole_streams_through_lo w) rfl (by decide) (by kernel_rfl) ⟨rfl, by decide, by decide⟩ ?F (fun w H s e s' ⟨_, _, _, _, _, _, _, _, _, _, _, _, z⟩ => z)
    intro w mg fa h Y G hmg0
    obtain ⟨K, KX, c⟩ := Y
    have hmg : mg ("law" : PySem.Str) = some (.ref fa) := by
      have e : (HandSHeadRun.topDef (OpenLaw.row PySem.Challenge.rw_spentframes_k75_whole_streams_through_lo).prog 39).name = ("law" : PySem.Str) := by kernel_rfl
      rw [← e]
      exact hmg0
    obtain ⟨fd, hb, hx, D, hF⟩ := SF.facts75 (P := PySem.Challenge.pw_spentframes_k75_whole_streams_through_lo) (w := w) KX G hmg c
    have hK : SF.excOk75 K := by
      intro x hx y hy
      simp only [List.mem_cons, List.not_mem_nil, or_false] at hx hy
      rcases hx with rfl | rfl | rfl <;> rcases hy with rfl | rfl | rfl
      · exact (He.exm_ok (D.facts (f := .exm "BadDigits" "BadDigits" true) (by simp [SF.fa75]))).trans (by decide +kernel)
      · exact (He.exm_ok (D.facts (f := .exm "BadDigits" "BadWord" false) (by simp [SF.fa75]))).trans (by decide +kernel)
      · exact (He.exm_ok (D.facts (f := .exm "BadDigits" "BadCount" false) (by simp [SF.fa75]))).trans (by decide +kernel)
      · exact (He.exm_ok (D.facts (f := .exm "BadWord" "BadDigits" false) (by simp [SF.fa75]))).trans (by decide +kernel)
      · exact (He.exm_ok (D.facts (f := .exm "BadWord" "BadWord" true) (by simp [SF.fa75]))).trans (by decide +kernel)
      · exact (He.exm_ok (D.facts (f := .exm "BadWord" "BadCount" false) (by simp [SF.fa75]))).trans (by decide +kernel)
      · exact (He.exm_ok (D.facts (f := .exm "BadCount" "BadDigits" false) (by simp [SF.fa75]))).trans (by decide +kernel)
      · exact (He.exm_ok (D.facts (f := .exm "BadCount" "BadWord" false) (by simp [SF.fa75]))).trans (by decide +kernel)
      · exact (He.exm_ok (D.facts (f := .exm "BadCount" "BadCount" true) (by simp [SF.fa75]))).trans (by decide +kernel)
    have hd : SF.tup0B K (SF.dfT K) = true := (He.ba (He.ba (He.ba (He.ba (He.ba (He.ba (He.ba (He.ba (He.ba (He.ba (He.ba (He.ba hx).2).2).2).2).2).2).2).2).2).2).2).2
    exact ⟨K, fd, SF.sp_law K, KX, hb, fun H a ns hl _ hS => ⟨a, ns, rfl, hS, hl, hK, fun H => SF.tup0B_ok hd H, fun _ => rfl⟩, hF⟩

