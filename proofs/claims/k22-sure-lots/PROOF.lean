import PyProof.Rows.All
import Wide.All
import OpenK.AllK
import Wide.FinOn
import PySem.Challenge.RW_objections_k22_whole_sure_lots
import HandS.ForMost
import HandS.Evl
import HandS.Exc
import HandS.TryOnly
import HandS.ExcOwn
import HandS.WordsExc
import HandS.Defaults
import HandS.Deep
import HandS.Conv
import HandS.DictComp
import HandS.NoneIn
import HandS.Style
import HandS.IsInst
import HandS.ExcInit
import HandS.ExcField
import HandS.CallLocal
import HandS.Lambda
import HandS.TryMany
import HandS.Zip
import HandS.HeadHook4
import KE.SortData
import KE.KDictSum
import KE.KDictCopyH
import KE.SortKeyHeap
import KE.GoesMore
import KE.GoesEnum
import HandS.Text
import HandS.Steps
import HandS.ListItems
import HandS.Strs
import KE.KStateDown
import HandS.Base
import HandS.Call
import HandS.Ends
import HandS.More
import HandS.Words
import HandS.Head0
import HandS.Head1
import HandS.Head2
import HandS.HeadEnd
import HandS.HeadHook1
import HandS.HeadHook2
import HandS.HeadHook3
import HandS.HeadWalk
set_option Elab.async false
set_option linter.all false
set_option maxRecDepth 100000
namespace Ob
open PySem PySem.Spec PyProof.Rows L2
def topS (i : Nat) : Stmt := PySem.Challenge.pw_objections_k22_whole_sure_lots.main.body.getD i (.Pass ⟨0, 0, 0, 0⟩)
abbrev s_initBadLot : Stmt := inClass (topS 2) 0
abbrev s_initNoStatement : Stmt := inClass (topS 6) 0
abbrev s_initNotHeld : Stmt := inClass (topS 7) 0
abbrev s_is_list : Stmt := topS 12
abbrev s_is_name : Stmt := topS 13
abbrev s_as_tuples : Stmt := topS 14
abbrev s_checked_statements : Stmt := topS 16
abbrev s_is_pair_of : Stmt := topS 17
abbrev s_checked_objections : Stmt := topS 18
abbrev s_initDebate : Stmt := inClass (topS 19) 0
abbrev s_checked_statement : Stmt := topS 20
abbrev s_checked_lot : Stmt := topS 23
abbrev s_checked_way : Stmt := topS 24
abbrev s_hit_by : Stmt := topS 25
abbrev s_clash_in : Stmt := topS 28
abbrev s_unanswered_in : Stmt := topS 29
abbrev s_held_lots : Stmt := topS 30
abbrev s_calm_with : Stmt := topS 31
abbrev s_greatest_of : Stmt := topS 33
abbrev s_is_within : Stmt := topS 34
abbrev s_lots_in : Stmt := topS 36
abbrev s_fault_in : Stmt := topS 37
abbrev s_fault_of : Stmt := topS 39
abbrev s_is_lot : Stmt := topS 40
abbrev s_smallest_with : Stmt := topS 42
abbrev s_lacking_lot : Stmt := topS 44
abbrev s_all_held : Stmt := topS 45
abbrev s_is_left_alone : Stmt := topS 46
abbrev s_sure_lots : Stmt := topS 47
abbrev s_sure_lot : Stmt := topS 48
abbrev s_is_sure : Stmt := topS 49
abbrev s_sure_paper : Stmt := topS 50
abbrev s_why_unsure : Stmt := topS 51
abbrev s_l_z_debate : Stmt := topS 53
abbrev s_l_z_made : Stmt := topS 54
abbrev s_l_z_odd_name : Stmt := topS 55
abbrev s_l_start : Stmt := topS 56
abbrev s_l_draw : Stmt := topS 57
abbrev s_l_pick : Stmt := topS 58
abbrev s_l_mixed : Stmt := topS 59
abbrev s_l_same : Stmt := topS 60
abbrev s_l_each_once : Stmt := topS 61
abbrev s_l_loose : Stmt := topS 62
abbrev s_l_d_names : Stmt := topS 63
abbrev s_l_d_pairs : Stmt := topS 64
abbrev s_l_d_objectors : Stmt := topS 65
abbrev s_l_d_hits : Stmt := topS 66
abbrev s_l_d_answers : Stmt := topS 67
abbrev s_l_d_answered : Stmt := topS 68
abbrev s_l_d_is_calm : Stmt := topS 69
abbrev s_l_d_is_held : Stmt := topS 70
abbrev s_l_d_subsets : Stmt := topS 71
abbrev s_l_d_lots : Stmt := topS 72
abbrev s_l_d_within : Stmt := topS 73
abbrev s_l_met : Stmt := topS 74
abbrev s_l_smallest : Stmt := topS 75
abbrev s_l_unsure : Stmt := topS 76
abbrev s_l_lots_right : Stmt := topS 77
abbrev s_l_names_right : Stmt := topS 78
abbrev s_l_things : Stmt := topS 79
abbrev s_l_floating : Stmt := topS 80
abbrev s_law : Stmt := topS 81
end Ob
set_option maxRecDepth 100000
set_option maxHeartbeats 2000000
/-! Ka: what a value stands for (Rp), what a reading comes to (EvR), comprehensions over anything that is walked. -/
namespace Ob
open PySem PySem.Spec PyProof.Rows L2

/-! ### heaps that grow: all stays but the tables of code objects (which stay tables) -/
structure Ex (H H' : Hp) : Prop where
  ob : ∀ b o, H b = some o → (∀ ps, o ≠ .tbl ps) → H' b = some o
  tt : ∀ b ps, H b = some (.tbl ps) → ∃ qs, H' b = some (.tbl qs)
  no : ∀ b, H' b = none → H b = none
theorem exr (H : Hp) : Ex H H := ⟨fun _ _ h _ => h, fun _ ps h => ⟨ps, h⟩, fun _ h => h⟩
theorem Ex.trans {H H1 H2 : Hp} (a : Ex H H1) (b : Ex H1 H2) : Ex H H2 :=
  ⟨fun c o h n => b.ob c o (a.ob c o h n) n, fun c ps h => let ⟨qs, h1⟩ := a.tt c ps h; b.tt c qs h1, fun c h => a.no c (b.no c h)⟩
theorem Ex.mut {H H' : Hp} {p : Addr} {o : HO} (e : Ex H H') (h : H p = none) : Ex H (upd H' p o) :=
  ⟨fun a u ha n => by rw [upd_ne (ne_of_none ha h)]; exact e.ob a u ha n, fun a ps ha => by rw [upd_ne (ne_of_none ha h)]; exact e.tt a ps ha, fun a ha => by
    by_cases q : a = p
    · rw [q]; exact h
    · rw [upd_ne q] at ha; exact e.no a ha⟩
theorem Ex.new {H : Hp} {p : Addr} {o : HO} (h : H p = none) : Ex H (upd H p o) := (exr H).mut h
theorem Ex.l {H H' : Hp} {p : Addr} {xs : List V} (e : Ex H H') (h : H p = some (.lst xs)) : H' p = some (.lst xs) := e.ob p _ h fun _ z => by cases z
theorem Ex.t {H H' : Hp} {p : Addr} {xs : List V} (e : Ex H H') (h : H p = some (.tup xs)) : H' p = some (.tup xs) := e.ob p _ h fun _ z => by cases z
theorem Ex.i {H H' : Hp} {p C d : Addr} {fs : List (Str × V)} (e : Ex H H') (h : H p = some (.ins C d fs)) : H' p = some (.ins C d fs) := e.ob p _ h fun _ z => by cases z
theorem Ex.d {H H' : Hp} {p : Addr} {kvs : List (Key × V)} (e : Ex H H') (h : H p = some (.dK kvs)) : H' p = some (.dK kvs) := e.ob p _ h fun _ z => by cases z
theorem Ex.dt {H H' : Hp} {p : Addr} {kvs : List (List Key × V)} (e : Ex H H') (h : H p = some (.dT kvs)) : H' p = some (.dT kvs) := e.ob p _ h fun _ z => by cases z
theorem Ex.f {H H' : Hp} {p : Addr} {o : Obj} {u : HO} (e : Ex H H') (h : H p = some (.frz o u)) : H' p = some (.frz o u) := e.ob p _ h fun _ z => by cases z
theorem Ex.rd {H H' : Hp} {a : Addr} {u : HO} (e : Ex H H') (n : ∀ ps, u ≠ .tbl ps) (h : Rd H a u) : Rd H' a u := h.elim (fun h => .inl (e.ob a u h n)) fun ⟨o, h⟩ => .inr ⟨o, e.f h⟩
theorem ex_l {K : PySem.W.Frag} {H H' : Hp} {a : Addr} {xs : List V} (e : Ex H H') (h : SqL K H a xs) : SqL K H' a xs := h.elim (fun h => .inl (e.rd (fun _ z => by cases z) h)) .inr
theorem ex_t {K : PySem.W.Frag} {H H' : Hp} {a : Addr} {xs : List V} (e : Ex H H') (h : SqT K H a xs) : SqT K H' a xs := h.elim (fun h => .inl (e.rd (fun _ z => by cases z) h)) .inr
/-- the tables of code objects that the text's lambdas are made in -/
def tabs (K : PySem.W.Frag) : List (Addr × Str) := [((He.cT K ("law", none)).2, "law.<locals>.<lambda>"), ((He.cT K ("greatest_of", none)).2, "greatest_of.<locals>.<lambda>")]
abbrev Tb (K : PySem.W.Frag) (H : Hp) : Prop := LamX.Tabs (tabs K) H
theorem tb_mut {K : PySem.W.Frag} {H : Hp} {p : Addr} {o : HO} (t : Tb K H) (h : ∀ ps, H p ≠ some (.tbl ps)) (h2 : ∀ q, H p ≠ some (LamX.CodeO p q)) : Tb K (upd H p o) := fun x hx => by
  obtain ⟨ps, h1, h3, h4⟩ := t x hx
  refine ⟨ps, by rw [upd_ne (fun z => h ps (by rw [← z]; exact h1))]; exact h1, h3, fun pos cv hc => ?_⟩
  obtain ⟨c, e1, e2⟩ := h4 pos cv hc
  refine ⟨c, e1, ?_⟩
  by_cases q : c = p
  · subst q; exact absurd e2 (h2 _)
  · rw [upd_ne q]; exact e2
theorem tb_new {K : PySem.W.Frag} {H : Hp} {p : Addr} {o : HO} (t : Tb K H) (h : H p = none) : Tb K (upd H p o) := tb_mut t (fun ps z => by rw [h] at z; cases z) fun q z => by rw [h] at z; cases z
theorem tb_lst {K : PySem.W.Frag} {H : Hp} {p : Addr} {o : HO} {xs : List V} (t : Tb K H) (h : H p = some (.lst xs)) : Tb K (upd H p o) := tb_mut t (fun ps z => by rw [h] at z; cases z) fun q z => by rw [h] at z; unfold LamX.CodeO at z; cases z
/-- G is known of H -/
structure Kn (K : PySem.W.Frag) (G H : Hp) : Prop where
  ex : Ex G H
  tb : Tb K H

/-! ### what a value stands for -/
abbrev Rp (α : Type) := α → V → Hp → Prop
class Mo {α : Type} (R : Rp α) : Prop where
  mo : ∀ {x : α} {v : V} {H H' : Hp}, Ex H H' → R x v H → R x v H'
class MoP (R : V → Hp → Prop) : Prop where
  mo : ∀ {v : V} {H H' : Hp}, Ex H H' → R v H → R v H'
instance {α : Type} (R : Rp α) [Mo R] (x : α) : MoP (R x) := ⟨fun e h => Mo.mo e h⟩
instance (v : V) : MoP (fun w _ => w = v) := ⟨fun _ h => h⟩
class MoL (R : List V → Hp → Prop) : Prop where
  mo : ∀ {v : List V} {H H' : Hp}, Ex H H' → R v H → R v H'

def AllR {α : Type} (R : Rp α) : List α → List V → Hp → Prop
  | [], [], _ => True
  | x :: xs, v :: vs, H => R x v H ∧ AllR R xs vs H
  | [], _ :: _, _ => False
  | _ :: _, [], _ => False

section
variable {α β : Type} {R : Rp α} {S : Rp β}
theorem AllR.length : ∀ {xs : List α} {vs : List V} {H : Hp}, AllR R xs vs H → xs.length = vs.length
  | [], [], _, _ => rfl
  | _ :: _, _ :: _, _, h => congrArg Nat.succ (AllR.length h.2)
  | [], _ :: _, _, h => h.elim
  | _ :: _, [], _, h => h.elim
theorem AllR.mono [Mo R] {H H' : Hp} (e : Ex H H') : ∀ {xs : List α} {vs : List V}, AllR R xs vs H → AllR R xs vs H'
  | [], [], _ => trivial
  | _ :: _, _ :: _, h => ⟨Mo.mo e h.1, AllR.mono e h.2⟩
  | [], _ :: _, h => h.elim
  | _ :: _, [], h => h.elim
theorem AllR.imp {R' : Rp α} {H H' : Hp} (f : ∀ x v, R x v H → R' x v H') : ∀ {xs : List α} {vs : List V}, AllR R xs vs H → AllR R' xs vs H'
  | [], [], _ => trivial
  | _ :: _, _ :: _, h => ⟨f _ _ h.1, AllR.imp f h.2⟩
  | [], _ :: _, h => h.elim
  | _ :: _, [], h => h.elim
theorem AllR.append {H : Hp} : ∀ {xs ys : List α} {vs ws : List V}, AllR R xs vs H → AllR R ys ws H → AllR R (xs ++ ys) (vs ++ ws) H
  | [], _, [], _, _, h => h
  | _ :: _, _, _ :: _, _, h, k => ⟨h.1, AllR.append h.2 k⟩
  | [], _, _ :: _, _, h, _ => h.elim
  | _ :: _, _, [], _, h, _ => h.elim
theorem AllR.get {H : Hp} : ∀ {xs : List α} {vs : List V} {i : Nat} {v : V}, AllR R xs vs H → vs[i]? = some v → ∃ x, xs[i]? = some x ∧ R x v H
  | [], [], _, _, _, e => by simp at e
  | x :: _, v :: _, 0, w, h, e => by
    have e2 : v = w := Option.some.inj e
    exact ⟨x, rfl, e2 ▸ h.1⟩
  | _ :: _, _ :: _, i + 1, _, h, e => AllR.get (i := i) h.2 e
  | [], _ :: _, _, _, h, _ => h.elim
  | _ :: _, [], _, _, h, _ => h.elim
theorem AllR.got {H : Hp} : ∀ {xs : List α} {vs : List V} {i : Nat} {x : α}, AllR R xs vs H → xs[i]? = some x → ∃ v, vs[i]? = some v ∧ R x v H
  | [], [], _, _, _, e => by simp at e
  | x :: _, v :: _, 0, w, h, e => by
    have e2 : x = w := Option.some.inj e
    exact ⟨v, rfl, e2 ▸ h.1⟩
  | _ :: _, _ :: _, i + 1, _, h, e => AllR.got (i := i) h.2 e
  | [], _ :: _, _, _, h, _ => h.elim
  | _ :: _, [], _, _, h, _ => h.elim
theorem AllR.take {H : Hp} : ∀ {xs : List α} {vs : List V} (n : Nat), AllR R xs vs H → AllR R (xs.take n) (vs.take n) H
  | _, _, 0, _ => by simp [AllR]
  | [], [], _ + 1, _ => trivial
  | _ :: _, _ :: _, n + 1, h => ⟨h.1, AllR.take n h.2⟩
  | [], _ :: _, _, h => h.elim
  | _ :: _, [], _, h => h.elim
theorem AllR.drop {H : Hp} : ∀ {xs : List α} {vs : List V} (n : Nat), AllR R xs vs H → AllR R (xs.drop n) (vs.drop n) H
  | _, _, 0, h => h
  | [], [], _ + 1, _ => trivial
  | _ :: _, _ :: _, n + 1, h => AllR.drop n h.2
  | [], _ :: _, _, h => h.elim
  | _ :: _, [], _, h => h.elim
theorem AllR.map {γ : Type} {T : Rp γ} {f : α → γ} {H : Hp} (h : ∀ x v, R x v H → T (f x) v H) : ∀ {xs : List α} {vs : List V}, AllR R xs vs H → AllR T (xs.map f) vs H
  | [], [], _ => trivial
  | _ :: _, _ :: _, k => ⟨h _ _ k.1, AllR.map h k.2⟩
  | [], _ :: _, h => h.elim
  | _ :: _, [], h => h.elim
theorem AllR.mem {H : Hp} {xs : List α} {vs : List V} {v : V} (h : AllR R xs vs H) (hv : v ∈ vs) : ∃ x ∈ xs, R x v H := by
  obtain ⟨i, hi, e⟩ := List.mem_iff_getElem.mp hv
  obtain ⟨x, e1, r⟩ := h.get (i := i) (v := v) (by rw [List.getElem?_eq_getElem hi, e])
  exact ⟨x, List.mem_of_getElem? e1, r⟩
theorem AllR.of_exact {H : Hp} (f : α → V) : ∀ {xs : List α} {vs : List V}, AllR (fun x v _ => v = f x) xs vs H → vs = xs.map f
  | [], [], _ => rfl
  | x :: xs, v :: vs, h => by rw [List.map_cons, ← AllR.of_exact f h.2, h.1]
  | [], _ :: _, h => h.elim
  | _ :: _, [], h => h.elim
theorem AllR.to_exact {H : Hp} (f : α → V) : ∀ (xs : List α), AllR (fun x v _ => v = f x) xs (xs.map f) H
  | [] => trivial
  | x :: xs => ⟨rfl, AllR.to_exact f xs⟩
end

def rS : Rp Str := fun x v _ => v = .str x ∧ PyData.strOk x = true
def rI : Rp Int := fun x v _ => v = .int x
def rB : Rp Bool := fun x v _ => v = .bl x
def rV : Rp V := fun x v _ => v = x
instance : Mo rS := ⟨fun _ h => h⟩
instance : Mo rI := ⟨fun _ h => h⟩
instance : Mo rB := ⟨fun _ h => h⟩
instance : Mo rV := ⟨fun _ h => h⟩
section
variable (K : PySem.W.Frag) {α β : Type}
/-- a list | a list or tuple | a pair | a new list (unknown at H0) -/
def rL (R : Rp α) : Rp (List α) := fun xs v H => ∃ a vs, v = .ref a ∧ SqL K H a vs ∧ AllR R xs vs H
def rT (R : Rp α) : Rp (List α) := fun xs v H => ∃ a vs, v = .ref a ∧ SqT K H a vs ∧ AllR R xs vs H
def rQ (R : Rp α) : Rp (List α) := fun xs v H => rL K R xs v H ∨ rT K R xs v H
def rP (R : Rp α) (S : Rp β) : Rp (α × β) := fun p v H => ∃ a u w, v = .ref a ∧ SqT K H a [u, w] ∧ R p.1 u H ∧ S p.2 w H
def rO (R : Rp α) : Rp (Option α) := fun o v H => match o with
  | none => v = .non
  | some x => R x v H
def rF (H0 : Hp) (R : Rp α) : Rp (List α) := fun xs v H => ∃ p vs, v = .ref p ∧ H0 p = none ∧ H p = some (.lst vs) ∧ AllR R xs vs H
end
section
variable {K : PySem.W.Frag} {α β : Type} {R : Rp α} {S : Rp β} {H0 : Hp}
instance [Mo R] : Mo (rL K R) := ⟨fun e ⟨a, vs, h1, h2, h3⟩ => ⟨a, vs, h1, ex_l e h2, h3.mono e⟩⟩
instance [Mo R] : Mo (rT K R) := ⟨fun e ⟨a, vs, h1, h2, h3⟩ => ⟨a, vs, h1, ex_t e h2, h3.mono e⟩⟩
instance [Mo R] : Mo (rQ K R) := ⟨fun e h => h.elim (fun h => .inl (Mo.mo e h)) fun h => .inr (Mo.mo e h)⟩
instance [Mo R] [Mo S] : Mo (rP K R S) := ⟨fun e ⟨a, u, w, h1, h2, h3, h4⟩ => ⟨a, u, w, h1, ex_t e h2, Mo.mo e h3, Mo.mo e h4⟩⟩
instance [Mo R] : Mo (rO R) := ⟨fun {x v H H'} e h => by
  cases x with
  | none => exact h
  | some y => exact Mo.mo (R := R) e h⟩
instance [Mo R] : Mo (rF H0 R) := ⟨fun e ⟨p, vs, h1, h2, h3, h4⟩ => ⟨p, vs, h1, h2, e.l h3, h4.mono e⟩⟩
theorem rF.l {xs : List α} {v : V} {H : Hp} (h : rF H0 R xs v H) : rL K R xs v H := let ⟨p, vs, h1, _, h3, h4⟩ := h; ⟨p, vs, h1, SqL.of h3, h4⟩
theorem rF.base {H1 : Hp} {xs : List α} {v : V} {H : Hp} (e : Ex H1 H0) (h : rF H0 R xs v H) : rF H1 R xs v H := let ⟨p, vs, h1, h2, h3, h4⟩ := h; ⟨p, vs, h1, e.no _ h2, h3, h4⟩
theorem rL.imp {R' : Rp α} {xs : List α} {v : V} {H : Hp} (f : ∀ x v, R x v H → R' x v H) (h : rL K R xs v H) : rL K R' xs v H := let ⟨a, vs, h1, h2, h3⟩ := h; ⟨a, vs, h1, h2, h3.imp f⟩
theorem allR_bl {bs : List Bool} {vs : List V} {H : Hp} (h : AllR rB bs vs H) : vs = bs.map V.bl := AllR.of_exact V.bl h
theorem allR_str {xs : List Str} {vs : List V} {H : Hp} (h : AllR rS xs vs H) : vs = xs.map V.str := AllR.of_exact V.str (AllR.imp (R' := fun x v _ => v = V.str x) (H' := H) (fun _ _ h => h.1) h)
theorem allR_int {xs : List Int} {vs : List V} {H : Hp} (h : AllR rI xs vs H) : vs = xs.map V.int := AllR.of_exact V.int h
theorem str_allR {H : Hp} : ∀ {xs : List Str}, (∀ x ∈ xs, PyData.strOk x = true) → AllR rS xs (xs.map V.str) H
  | [], _ => trivial
  | x :: xs, h => ⟨⟨rfl, h x (List.mem_cons_self ..)⟩, str_allR fun y hy => h y (List.mem_cons_of_mem _ hy)⟩
theorem allR_ok {H : Hp} : ∀ {xs : List Str} {vs : List V}, AllR rS xs vs H → ∀ x ∈ xs, PyData.strOk x = true
  | [], [], _, _, h => by cases h
  | x :: xs, v :: vs, h, y, hy => by
    rcases List.mem_cons.mp hy with e | hy
    · rw [e]; exact h.1.2
    · exact allR_ok h.2 y hy
  | [], _ :: _, h, _, _ => h.elim
  | _ :: _, [], h, _, _ => h.elim
theorem bl_allR {xs : List Bool} {H : Hp} : AllR rB xs (xs.map V.bl) H := AllR.to_exact V.bl xs
theorem int_allR {xs : List Int} {H : Hp} : AllR rI xs (xs.map V.int) H := AllR.to_exact V.int xs
theorem rL.strs {xs : List Str} {v : V} {H : Hp} (h : rL K rS xs v H) : ∃ a, v = .ref a ∧ SqL K H a (xs.map V.str) := by
  obtain ⟨a, vs, h1, h2, h3⟩ := h
  rw [allR_str h3] at h2
  exact ⟨a, h1, h2⟩
end

/-! ### growth: G what is known of H; G2, H2 the same behind an evaluation -/
/-- something that may change stands at b -/
def Hid (H : Hp) (b : Addr) : Prop := ∃ o, H b = some o ∧ ∀ xs, o ≠ .tup xs
theorem hidden {H : Hp} {b : Addr} {o : HO} (h : H b = some o) (n : ∀ xs, o ≠ .tup xs := by intro _ h; cases h) : Hid H b := ⟨o, h, n⟩
theorem Hid.up {H H2 : Hp} {b : Addr} (e : Ex H H2) (h : Hid H b) : Hid H2 b := by
  obtain ⟨o, h1, h2⟩ := h
  by_cases t : ∃ ps, o = .tbl ps
  · obtain ⟨ps, rfl⟩ := t
    obtain ⟨qs, h3⟩ := e.tt b ps h1
    exact ⟨_, h3, fun _ z => by cases z⟩
  · exact ⟨o, e.ob b o h1 fun ps z => t ⟨ps, z⟩, h2⟩
theorem Hid.ne {H : Hp} {b p : Addr} (h : Hid H b) (hp : H p = none) : b ≠ p := fun z => by
  obtain ⟨o, h1, _⟩ := h
  rw [z, hp] at h1
  cases h1
structure Gr (K : PySem.W.Frag) (G H G2 H2 : Hp) : Prop where
  kk : Ex G G2
  kn : Kn K G2 H2
  hh : Ex H H2
  sp : ∀ b, G b = none → Hid H b → G2 b = none
section
variable {K : PySem.W.Frag}
theorem Gr.kh {G H G2 H2 : Hp} (g : Gr K G H G2 H2) : Ex G2 H2 := g.kn.ex
theorem Gr.refl {G H : Hp} (e : Kn K G H) : Gr K G H G H := ⟨exr _, e, exr _, fun _ h _ => h⟩
theorem Gr.trans {G H G1 H1 G2 H2 : Hp} (a : Gr K G H G1 H1) (b : Gr K G1 H1 G2 H2) : Gr K G H G2 H2 :=
  ⟨a.kk.trans b.kk, b.kn, a.hh.trans b.hh, fun c h k => b.sp c (a.sp c h k) (k.up a.hh)⟩
theorem upd_ex {G H : Hp} {p : Addr} {o : HO} (e : Ex G H) : Ex (upd G p o) (upd H p o) :=
  ⟨fun b u h n => by
    by_cases hb : b = p
    · subst hb; rw [upd_same] at h ⊢; exact h
    · rw [upd_ne hb] at h ⊢; exact e.ob b u h n,
   fun b ps h => by
    by_cases hb : b = p
    · subst hb; rw [upd_same] at h ⊢; exact ⟨ps, h⟩
    · rw [upd_ne hb] at h ⊢; exact e.tt b ps h,
   fun b h => by
    by_cases hb : b = p
    · subst hb; rw [upd_same] at h; cases h
    · rw [upd_ne hb] at h ⊢; exact e.no b h⟩
theorem Kn.new {G H : Hp} {p : Addr} {o : HO} (e : Kn K G H) (h : H p = none) : Kn K (upd G p o) (upd H p o) := ⟨upd_ex e.ex, tb_new e.tb h⟩
theorem Gr.new {G H : Hp} {p : Addr} {o : HO} (e : Kn K G H) (h : H p = none) : Gr K G H (upd G p o) (upd H p o) :=
  ⟨Ex.new (e.ex.no _ h), e.new h, Ex.new h, fun b h1 h2 => by
    rw [upd_ne (h2.ne h)]; exact h1⟩
/-- an object unknown to all changes -/
theorem Gr.mut {G H G2 H2 : Hp} {p : Addr} {o : HO} {xs : List V} (g : Gr K G H G2 H2) (h1 : G2 p = none) (h2 : H p = none) (h3 : H2 p = some (.lst xs)) : Gr K G H G2 (upd H2 p o) := ⟨g.kk, ⟨g.kh.mut h1, tb_lst g.kn.tb h3⟩, g.hh.mut h2, g.sp⟩
/-- a new object that we do not keep in mind -/
theorem Gr.skip {G H H2 : Hp} (e : Kn K G H) (h : Ex H H2) (t : Tb K H2) : Gr K G H G H2 := ⟨exr _, ⟨e.ex.trans h, t⟩, h, fun _ h _ => h⟩
def jn (A B : Hp) : Hp := fun b => match A b with
  | some o => some o
  | none => B b
theorem jn_some {A B : Hp} {b : Addr} {o : HO} (h : A b = some o) : jn A B b = some o := by unfold jn; rw [h]
theorem jn_none {A B : Hp} {b : Addr} (h : A b = none) : jn A B b = B b := by unfold jn; rw [h]
theorem jn_l {A B : Hp} : Ex A (jn A B) := ⟨fun _ _ h _ => jn_some h, fun _ ps h => ⟨ps, jn_some h⟩, fun b h => by
  cases q : A b with
  | none => rfl
  | some o => rw [jn_some q] at h; cases h⟩
/-- from G ⊆ G1 ⊆ H: what is shown from G is shown from G1 -/
theorem Gr.weak {G G1 H G2 H2 : Hp} (e : Ex G G1) (e1 : Ex G1 H) (g : Gr K G H G2 H2) : Gr K G1 H (jn G1 G2) H2 ∧ Ex G2 (jn G1 G2) := by
  have hn : ∀ {b u o}, G1 b = some u → G b = none → G2 b = some o → ∃ xs, u = .tup xs ∧ o = .tup xs := fun {b u o} q r h => by
    by_cases hh : Hid H b
    · rw [g.sp b r hh] at h; cases h
    · by_cases t : ∃ ps, u = .tbl ps
      · obtain ⟨ps, rfl⟩ := t
        obtain ⟨qs, h3⟩ := e1.tt b ps q
        exact absurd (hidden h3) hh
      · have hb : H b = some u := e1.ob b u q fun ps z => t ⟨ps, z⟩
        have tu : ∃ xs, u = .tup xs := Classical.byContradiction fun z => hh ⟨u, hb, fun xs e => z ⟨xs, e⟩⟩
        obtain ⟨xs, rfl⟩ := tu
        have h2 : H2 b = some (.tup xs) := g.hh.t hb
        by_cases t2 : ∃ ps, o = .tbl ps
        · obtain ⟨ps, rfl⟩ := t2
          obtain ⟨qs, h3⟩ := g.kh.tt b ps h
          rw [h2] at h3; cases h3
        · have h3 := g.kh.ob b o h fun ps z => t2 ⟨ps, z⟩
          rw [h2] at h3
          exact ⟨xs, rfl, (Option.some.inj h3).symm⟩
  refine ⟨⟨jn_l, ⟨⟨fun b o h n => ?_, fun b ps h => ?_, fun b h => ?_⟩, g.kn.tb⟩, g.hh, fun b h1 h2 => ?_⟩, ⟨fun b o h n => ?_, fun b ps h => ?_, fun b h => ?_⟩⟩
  · cases q : G1 b with
    | none => rw [jn_none q] at h; exact g.kh.ob b o h n
    | some u =>
      rw [jn_some q] at h; cases h
      exact g.hh.ob b _ (e1.ob b _ q n) n
  · cases q : G1 b with
    | none => rw [jn_none q] at h; exact g.kh.tt b ps h
    | some u =>
      rw [jn_some q] at h; cases h
      obtain ⟨qs, h1⟩ := e1.tt b _ q
      exact g.hh.tt b qs h1
  · rw [jn_none (e1.no b (g.hh.no b h))]
    exact g.kh.no b h
  · rw [jn_none h1]
    exact g.sp b (e.no b h1) h2
  · cases q : G1 b with
    | none => rw [jn_none q]; exact h
    | some u =>
      rw [jn_some q]
      cases r : G b with
      | none => obtain ⟨xs, e3, e4⟩ := hn q r h; rw [e3, e4]
      | some u2 =>
        by_cases t : ∃ ps, u2 = .tbl ps
        · obtain ⟨ps, rfl⟩ := t
          obtain ⟨qs, h1⟩ := g.kk.tt b ps r
          rw [h] at h1
          exact absurd (Option.some.inj h1) (n qs)
        · have t2 : ∀ ps, u2 ≠ .tbl ps := fun ps z => t ⟨ps, z⟩
          have z1 := e.ob b u2 r t2
          have z2 := g.kk.ob b u2 r t2
          rw [← q, z1, ← h, z2]
  · cases q : G1 b with
    | none => rw [jn_none q]; exact ⟨ps, h⟩
    | some u =>
      rw [jn_some q]
      cases r : G b with
      | none => obtain ⟨xs, e3, e4⟩ := hn q r h; cases e4
      | some u2 =>
        by_cases t : ∃ ps, u2 = .tbl ps
        · obtain ⟨ps, rfl⟩ := t
          obtain ⟨qs, h1⟩ := e.tt b ps r
          rw [q] at h1
          exact ⟨qs, h1⟩
        · have t2 : ∀ ps, u2 ≠ .tbl ps := fun ps z => t ⟨ps, z⟩
          have z2 := g.kk.ob b u2 r t2
          rw [h] at z2
          exact absurd (Option.some.inj z2).symm (t2 ps)
  · cases q : G1 b with
    | none => rw [jn_none q] at h; exact h
    | some u => rw [jn_some q] at h; cases h
end

/-! ### what a reading comes to -/
section
variable (K : PySem.W.Frag)
def EvR (te : TE) (σ : L2.St) (G : Hp) (R : V → Hp → Prop) : Prop := ∀ H, Kn K G H → ∀ Q : VK, (∀ v G2 H2, Gr K G H G2 H2 → R v G2 → Q v H2) → te σ H Q
abbrev EvP {α : Type} (te : TE) (σ : L2.St) (G : Hp) (R : Rp α) (x : α) : Prop := EvR K te σ G (R x)
/-- one value, known beforehand -/
def Ev (te : TE) (σ : L2.St) (G : Hp) (v : V) : Prop := ∀ H, Kn K G H → ∀ Q : VK, (∀ H2, Gr K G H G H2 → Q v H2) → te σ H Q
def EvT (tt : TT) (σ : L2.St) (G : Hp) (b : Bool) : Prop := ∀ H, Kn K G H → ∀ Q : Bool → Hp → Prop, (∀ H2, Gr K G H G H2 → Q b H2) → tt σ H Q
/-- a new list -/
def EvN (te : TE) (σ : L2.St) (G : Hp) (R : List V → Hp → Prop) : Prop := ∀ H, Kn K G H → ∀ Q : VK, (∀ p vs G2 H2, H p = none → G2 p = none → Gr K G H G2 H2 → H2 p = some (.lst vs) → R vs G2 → Q (.ref p) H2) → te σ H Q
def EvB (ta : TA) (σ : L2.St) (G : Hp) (R : List V → Hp → Prop) : Prop := ∀ H, Kn K G H → ∀ Q : List V → Hp → Prop, (∀ v G2 H2, Gr K G H G2 H2 → R v G2 → Q v H2) → ta σ H Q
end
section
variable {K : PySem.W.Frag} {σ : L2.St} {G G1 H : Hp} {ta tb te : TE} {R S T : V → Hp → Prop} {α β : Type}
theorem EvR.mono [MoP R] (e : Ex G G1) (h : EvR K te σ G R) : EvR K te σ G1 R := fun H e1 Q q => h H ⟨e.trans e1.ex, e1.tb⟩ Q fun v G2 H2 g r =>
  let ⟨g1, e2⟩ := g.weak e e1.ex
  q v _ H2 g1 (MoP.mo e2 r)
theorem Ev.mono {v : V} (e : Ex G G1) (h : Ev K te σ G v) : Ev K te σ G1 v := fun H e1 Q q => h H ⟨e.trans e1.ex, e1.tb⟩ Q fun H2 g => q H2 (Gr.skip e1 g.hh g.kn.tb)
theorem EvT.mono {tt : TT} {b : Bool} (e : Ex G G1) (h : EvT K tt σ G b) : EvT K tt σ G1 b := fun H e1 Q q => h H ⟨e.trans e1.ex, e1.tb⟩ Q fun H2 g => q H2 (Gr.skip e1 g.hh g.kn.tb)
theorem EvN.mono {R : List V → Hp → Prop} [MoL R] (e : Ex G G1) (h : EvN K te σ G R) : EvN K te σ G1 R := fun H e1 Q q => h H ⟨e.trans e1.ex, e1.tb⟩ Q fun p vs G2 H2 hp hg g hl r =>
  let ⟨g1, e2⟩ := g.weak e e1.ex
  q p vs _ H2 hp (by rw [jn_none (e1.ex.no _ hp)]; exact hg) g1 hl (MoL.mo e2 r)
theorem EvB.mono {ta : TA} {R : List V → Hp → Prop} [MoL R] (e : Ex G G1) (h : EvB K ta σ G R) : EvB K ta σ G1 R := fun H e1 Q q => h H ⟨e.trans e1.ex, e1.tb⟩ Q fun v G2 H2 g r =>
  let ⟨g1, e2⟩ := g.weak e e1.ex
  q v _ H2 g1 (MoL.mo e2 r)
theorem EvR.imp (h : EvR K te σ G R) (f : ∀ v G2, Ex G G2 → R v G2 → S v G2) : EvR K te σ G S := fun H e Q q => h H e Q fun v G2 H2 g r => q v G2 H2 g (f v G2 g.kk r)
theorem er_of {v : V} (h : Ev K te σ G v) (r : R v G) : EvR K te σ G R := fun H e Q q => h H e Q fun H2 g => q v G H2 g r
theorem ev_of {v : V} (h : EvR K te σ G (fun w _ => w = v)) : Ev K te σ G v := fun H e Q q => h H e Q fun w G2 H2 g r => by
  have r' : w = v := r
  rw [r']
  exact q H2 (Gr.skip e g.hh g.kn.tb)
theorem ev_var {i : Nat} {v : V} (h : σ[i]? = some (some v)) : Ev K (tVar i) σ G v := fun H e _ q => ⟨v, h, q H (Gr.refl e)⟩
theorem ev_c {v : V} : Ev K (tC v) σ G v := fun H e _ q => q H (Gr.refl e)
theorem ev_is {v w : V} (h : Ev K te σ G v) (e : v = w) : Ev K te σ G w := e ▸ h
theorem et_is {tt : TT} {a b : Bool} (h : EvT K tt σ G a) (e : a = b) : EvT K tt σ G b := e ▸ h
theorem er_var {i : Nat} {v : V} (h : σ[i]? = some (some v)) (r : R v G) : EvR K (tVar i) σ G R := er_of (ev_var h) r
theorem er_c {v : V} (r : R v G) : EvR K (tC v) σ G R := er_of ev_c r
theorem er_if {t : TT} {b : Bool} (h : EvT K t σ G b) (h1 : b = true → EvR K ta σ G R) (h2 : b = false → EvR K tb σ G R) : EvR K (tIf t ta tb) σ G R := fun H e Q q => h H e _ fun H2 e2 => by
  have fin : ∀ {te : TE}, EvR K te σ G R → te σ H2 Q := fun k => k H2 e2.kn Q fun v G2 H3 g r => q v G2 H3 (e2.trans g) r
  cases b with
  | true => exact fin (h1 rfl)
  | false => exact fin (h2 rfl)
theorem ev_if {t : TT} {b : Bool} {v : V} (h : EvT K t σ G b) (h1 : b = true → Ev K ta σ G v) (h2 : b = false → Ev K tb σ G v) : Ev K (tIf t ta tb) σ G v := fun H e Q q => h H e _ fun H2 e2 => by
  have fin : ∀ {te : TE}, Ev K te σ G v → te σ H2 Q := fun k => k H2 e2.kn Q fun H3 g => q H3 (e2.trans g)
  cases b with
  | true => exact fin (h1 rfl)
  | false => exact fin (h2 rfl)
/-! tests -/
theorem et_cmp {b : Bool} (h : Ev K te σ G (.bl b)) : EvT K (tTest te) σ G b := fun H e _ q => h H e _ fun H2 g => ⟨b, rfl, q H2 g⟩
theorem et_val {b : Bool} (h : Ev K te σ G (.bl b)) : EvT K (tB te) σ G b := fun H e _ q => h H e _ fun H2 g => ⟨b, rfl, q H2 g⟩
theorem et_not {t : TT} {a : Bool} (h : EvT K t σ G a) : EvT K (tNot t) σ G (!a) := fun H e _ q => h H e _ fun H2 g => q H2 g
theorem et_and {t u : TT} {a b : Bool} (h1 : EvT K t σ G a) (h2 : a = true → EvT K u σ G b) : EvT K (tAnd t u) σ G (a && b) := fun H e Q q => h1 H e _ fun H2 e2 => by
  cases a with
  | true => exact iteT (h2 rfl H2 e2.kn Q fun H3 g => q H3 (e2.trans g))
  | false => exact iteF (q H2 e2)
theorem et_or {t u : TT} {a b : Bool} (h1 : EvT K t σ G a) (h2 : a = false → EvT K u σ G b) : EvT K (tOr t u) σ G (a || b) := fun H e Q q => h1 H e _ fun H2 e2 => by
  cases a with
  | true => exact iteT (q H2 e2)
  | false => exact iteF (h2 rfl H2 e2.kn Q fun H3 g => q H3 (e2.trans g))
theorem ev_and {a b : Bool} (h1 : Ev K ta σ G (.bl a)) (h2 : a = true → Ev K tb σ G (.bl b)) : Ev K (tAndV ta tb) σ G (.bl (a && b)) := fun H e Q q => h1 H e _ fun H2 e2 => ⟨a, rfl, by
  cases a with
  | true => exact iteT (h2 rfl H2 e2.kn Q fun H3 g => q H3 (e2.trans g))
  | false => exact iteF (q H2 e2)⟩
theorem ev_or {a b : Bool} (h1 : Ev K ta σ G (.bl a)) (h2 : a = false → Ev K tb σ G (.bl b)) : Ev K (tOrV ta tb) σ G (.bl (a || b)) := fun H e Q q => h1 H e _ fun H2 e2 => ⟨a, rfl, by
  cases a with
  | true => exact iteT (q H2 e2)
  | false => exact iteF (h2 rfl H2 e2.kn Q fun H3 g => q H3 (e2.trans g))⟩
theorem ev_not {a : Bool} (h1 : Ev K ta σ G (.bl a)) : Ev K (tNotV ta) σ G (.bl (!a)) := fun H e _ q => h1 H e _ fun H2 g => ⟨a, rfl, q H2 g⟩
/-- a two-place operation, by values -/
theorem er_op {r : R2} [MoP R] [MoP S] (ha : EvR K ta σ G R) (hb : EvR K tb σ G S) (hr : ∀ x y G2, Ex G G2 → R x G2 → S y G2 → ∀ H2, Kn K G2 H2 → ∀ Q : VK, (∀ v G3 H3, Gr K G2 H2 G3 H3 → T v G3 → Q v H3) → r x y H2 Q) : EvR K (tOp r ta tb) σ G T := fun H e Q q =>
  ha H e _ fun x G1 H1 g1 r1 => hb.mono g1.kk H1 g1.kn _ fun y G2 H2 g2 r2 => hr x y G2 (g1.trans g2).kk (MoP.mo g2.kk r1) r2 H2 g2.kn Q fun v G3 H3 g3 r3 => q v G3 H3 ((g1.trans g2).trans g3) r3
/-- .. that makes nothing -/
theorem ev_opR {r : R2} {z : V} [MoP R] [MoP S] (ha : EvR K ta σ G R) (hb : EvR K tb σ G S) (hr : ∀ x y G2, Ex G G2 → R x G2 → S y G2 → ∀ H2, Kn K G2 H2 → ∀ Q : VK, Q z H2 → r x y H2 Q) : Ev K (tOp r ta tb) σ G z := fun H e Q q =>
  ha H e _ fun x G1 H1 g1 r1 => hb.mono g1.kk H1 g1.kn _ fun y G2 H2 g2 r2 => hr x y G2 (g1.trans g2).kk (MoP.mo g2.kk r1) r2 H2 g2.kn Q (q H2 (Gr.skip e (g1.trans g2).hh g2.kn.tb))
theorem EvN.r {R : List V → Hp → Prop} [MoL R] (h : EvN K te σ G R) (f : ∀ p vs G2, G p = none → G2 p = some (.lst vs) → Ex G G2 → R vs G2 → S (.ref p) G2) : EvR K te σ G S := fun H e Q q => h H e Q fun p vs G2 H2 hp hg g hl r => by
  have e2 : Ex G2 (upd G2 p (.lst vs)) := Ex.new hg
  refine q (.ref p) (upd G2 p (.lst vs)) H2 ⟨g.kk.trans e2, ⟨⟨fun b o h n => ?_, fun b ps h => ?_, fun b h => ?_⟩, g.kn.tb⟩, g.hh, fun b h1 h2 => ?_⟩ (f p vs _ (e.ex.no _ hp) upd_same (g.kk.trans e2) (MoL.mo e2 r))
  · by_cases hb : b = p
    · subst hb; rw [upd_same] at h; cases h; exact hl
    · rw [upd_ne hb] at h; exact g.kh.ob b o h n
  · by_cases hb : b = p
    · subst hb; rw [upd_same] at h; cases h
    · rw [upd_ne hb] at h; exact g.kh.tt b ps h
  · by_cases hb : b = p
    · subst hb; rw [hl] at h; cases h
    · rw [upd_ne hb]; exact g.kh.no b h
  · rw [upd_ne (h2.ne hp)]; exact g.sp b h1 h2
instance {α : Type} {R : Rp α} [Mo R] (xs : List α) : MoL (AllR R xs) := ⟨fun e h => AllR.mono e h⟩
theorem EvN.l {R : Rp α} [Mo R] {xs : List α} (h : EvN K te σ G (AllR R xs)) : EvP K te σ G (rL K R) xs := h.r fun p vs _ _ hl _ r => ⟨p, vs, rfl, SqL.of hl, r⟩
theorem EvN.f {R : Rp α} [Mo R] {xs : List α} {H0 : Hp} (h : EvN K te σ G (AllR R xs)) (e : Ex H0 G) : EvP K te σ G (rF H0 R) xs := h.r fun p vs _ hp hl _ r => ⟨p, vs, rfl, e.no _ hp, hl, r⟩
theorem EvN.imp {R R' : List V → Hp → Prop} (h : EvN K te σ G R) (f : ∀ vs G2, Ex G G2 → R vs G2 → R' vs G2) : EvN K te σ G R' := fun H e Q q => h H e Q fun p vs G2 H2 hp hg g hl r => q p vs G2 H2 hp hg g hl (f vs G2 g.kk r)
/-! arguments -/
theorem eb_nil : EvB K tNil σ G (fun vs _ => vs = []) := fun H e Q q => q [] G H (Gr.refl e) rfl
/-- what an argument list is -/
def consR (R : V → Hp → Prop) (S : List V → Hp → Prop) : List V → Hp → Prop := fun vs H => ∃ v r, vs = v :: r ∧ R v H ∧ S r H
instance {R : V → Hp → Prop} {S : List V → Hp → Prop} [MoP R] [MoL S] : MoL (consR R S) := ⟨fun e ⟨v, r, h1, h2, h3⟩ => ⟨v, r, h1, MoP.mo e h2, MoL.mo e h3⟩⟩
instance : MoL (fun vs _ => vs = []) := ⟨fun _ h => h⟩
theorem eb_cons {tr : TA} {S : List V → Hp → Prop} [MoP R] [MoL S] (h : EvR K te σ G R) (k : EvB K tr σ G S) : EvB K (tCons te tr) σ G (consR R S) := fun H e Q q =>
  h H e _ fun x G1 H1 g1 r1 => k.mono g1.kk H1 g1.kn _ fun vs G2 H2 g2 r2 => q (x :: vs) G2 H2 (g1.trans g2) ⟨x, vs, rfl, MoP.mo g2.kk r1, r2⟩
def oneR (R : V → Hp → Prop) : List V → Hp → Prop := fun vs H => ∃ v, vs = [v] ∧ R v H
instance {R : V → Hp → Prop} [MoP R] : MoL (oneR R) := ⟨fun e ⟨v, h1, h2⟩ => ⟨v, h1, MoP.mo e h2⟩⟩
theorem eb_one {te : TE} (h : EvR K te σ G R) : EvB K (tCons te tNil) σ G (oneR R) := fun H e Q q => h H e _ fun x G1 H1 g1 r1 => q [x] G1 H1 g1 ⟨x, rfl, r1⟩
/-- a builtin by values that makes nothing | a new list -/
theorem ev_cb1 {r : List V → Hp → VK → Prop} {z : V} (h : EvR K te σ G R) (hr : ∀ x G2, Ex G G2 → R x G2 → ∀ H2, Kn K G2 H2 → ∀ Q : VK, Q z H2 → r [x] H2 Q) : Ev K (tCB r (tCons te tNil)) σ G z := fun H e Q q =>
  h H e _ fun x G1 H1 g1 r1 => hr x G1 g1.kk r1 H1 g1.kn Q (q H1 (Gr.skip e g1.hh g1.kn.tb))
theorem en_cb1 {r : List V → Hp → VK → Prop} {T : List V → Hp → Prop} (h : EvR K te σ G R)
    (hr : ∀ x G2, Ex G G2 → R x G2 → ∀ H2, Kn K G2 H2 → ∀ Q : VK, (∀ p vs, H2 p = none → T vs G2 → Q (.ref p) (upd H2 p (.lst vs))) → r [x] H2 Q) : EvN K (tCB r (tCons te tNil)) σ G T := fun H e Q q =>
  h H e _ fun x G1 H1 g1 r1 => hr x G1 g1.kk r1 H1 g1.kn Q fun p vs hp t => q p vs G1 _ (g1.hh.no _ hp) (g1.kh.no _ hp) (g1.trans (Gr.skip g1.kn (Ex.new hp) (tb_new g1.kn.tb hp))) upd_same t
/-- a display -/
theorem en_lst {ta : TA} {T : List V → Hp → Prop} (h : EvB K ta σ G T) (hz : ∀ vs G2, T vs G2 → vs.length ≤ 10000000) : EvN K (tLst ta) σ G T := fun H e Q q =>
  h H e _ fun vs G1 H1 g1 r1 => ⟨Nat.le_trans (hz vs G1 r1) (by decide), fun p hp => q p vs G1 _ (g1.hh.no _ hp) (g1.kh.no _ hp) (g1.trans (Gr.skip g1.kn (Ex.new hp) (tb_new g1.kn.tb hp))) upd_same r1⟩
theorem er_tup {ta : TA} {T : List V → Hp → Prop} [MoL T] (h : EvB K ta σ G T) (hz : ∀ vs G2, T vs G2 → vs.length ≤ 10000000) : EvR K (tTup ta) σ G (fun v G2 => ∃ p vs, v = .ref p ∧ G2 p = some (.tup vs) ∧ T vs G2) := fun H e Q q =>
  h H e _ fun vs G1 H1 g1 r1 => ⟨Nat.le_trans (hz vs G1 r1) (by decide), fun p hp => q (.ref p) _ _ (g1.trans (Gr.new g1.kn hp)) ⟨p, vs, rfl, upd_same, MoL.mo (Ex.new (g1.kh.no _ hp)) r1⟩⟩
end

/-! ### promises of one shape: G is what the caller keeps in mind -/
def SpG (K : PySem.W.Frag) {ι : Type} (pre : ι → List V → Hp → Prop) (post : ι → Hp → V → Hp → Prop) : Sp := fun vs H Q _ => ∃ i G, Kn K G H ∧ pre i vs G ∧ ∀ v G2 H2, Gr K G H G2 H2 → post i G v G2 → Q v H2
section
variable {K : PySem.W.Frag} {σ : L2.St} {G G1 H : Hp} {ta tb te : TE} {R S T : V → Hp → Prop} {α β ι : Type}
theorem er_call {ta : TA} {pre : ι → List V → Hp → Prop} {post : ι → Hp → V → Hp → Prop} {E : XK} {A : List V → Hp → Prop} (i : ι) (h : EvB K ta σ G A) (hp : ∀ vs G2, Ex G G2 → A vs G2 → pre i vs G2) :
    EvR K (tCall (SpG K pre post) [] E ta) σ G (fun v G2 => ∃ Gc, Ex G Gc ∧ post i Gc v G2) := fun H e Q q => h H e _ fun vs G2 H2 g r => by
  rw [List.append_nil]
  exact ⟨i, G2, g.kn, hp vs G2 g.kk r, fun v G3 H3 g3 k => q v G3 H3 (g.trans g3) ⟨G2, g.kk, k⟩⟩

/-! ### what is walked -/
/-- J walks things xs, items standing for them by R, as long as G is known -/
structure Wk (K : PySem.W.Frag) (J : It) (R : Rp α) (xs : List α) (G : Hp) : Prop where
  go : ∀ i H, i < xs.length → Kn K G H → J.go i H
  yld : ∀ i H x H2, i < xs.length → Kn K G H → J.yld i H x H2 → ∃ a G2, xs[i]? = some a ∧ Gr K G H G2 H2 ∧ R a x G2
  stop : ∀ H, Kn K G H → J.stop xs.length H
def EvW (K : PySem.W.Frag) (wi : TI) (σ : L2.St) (G : Hp) (R : Rp α) (xs : List α) : Prop := ∀ H, Kn K G H → ∀ Q : It → Hp → Prop, (∀ J G2 H2, Gr K G H G2 H2 → Wk K J R xs G2 → Q J H2) → wi σ H Q
theorem Wk.mono {J : It} {R : Rp α} [Mo R] {xs : List α} (e : Ex G G1) (w : Wk K J R xs G) : Wk K J R xs G1 :=
  ⟨fun i H h k => w.go i H h ⟨e.trans k.ex, k.tb⟩, fun i H x H2 h k y => by
    obtain ⟨a, G2, h1, g, r⟩ := w.yld i H x H2 h ⟨e.trans k.ex, k.tb⟩ y
    obtain ⟨g1, e1⟩ := g.weak e k.ex
    exact ⟨a, _, h1, g1, Mo.mo e1 r⟩, fun H k => w.stop H ⟨e.trans k.ex, k.tb⟩⟩
theorem EvW.mono {wi : TI} {R : Rp α} [Mo R] {xs : List α} (e : Ex G G1) (w : EvW K wi σ G R xs) : EvW K wi σ G1 R xs := fun H k Q q => w H ⟨e.trans k.ex, k.tb⟩ Q fun J G2 H2 g wk =>
  let ⟨g1, e1⟩ := g.weak e k.ex
  q J _ H2 g1 (wk.mono e1)
theorem wk_list {R : Rp α} {a : Addr} {vs : List V} {xs : List α} (h : SqL K G a vs) (r : AllR R xs vs G) : Wk K (Itl K a) R xs G where
  go := fun i H hi e => ⟨vs, vs[i]'(by rw [← r.length]; exact hi), ex_l e.ex h, List.getElem?_eq_getElem _⟩
  yld := fun i H x H2 hi e y => by
    obtain ⟨y1, y2⟩ := y
    obtain ⟨z, e1, r1⟩ := r.get (y2 vs (ex_l e.ex h))
    exact ⟨z, G, e1, by rw [y1]; exact Gr.refl e, r1⟩
  stop := fun H e => ⟨vs, ex_l e.ex h, Nat.le_of_eq r.length.symm⟩
theorem wk_tup {R : Rp α} {a : Addr} {vs : List V} {xs : List α} (h : SqT K G a vs) (r : AllR R xs vs G) : Wk K (Itt K a) R xs G where
  go := fun i H hi e => ⟨vs, vs[i]'(by rw [← r.length]; exact hi), ex_t e.ex h, List.getElem?_eq_getElem _⟩
  yld := fun i H x H2 hi e y => by
    obtain ⟨y1, y2⟩ := y
    obtain ⟨z, e1, r1⟩ := r.get (y2 vs (ex_t e.ex h))
    exact ⟨z, G, e1, by rw [y1]; exact Gr.refl e, r1⟩
  stop := fun H e => ⟨vs, ex_t e.ex h, Nat.le_of_eq r.length.symm⟩
theorem ew_list {R : Rp α} {xs : List α} (h : EvP K te σ G (rL K R) xs) : EvW K (iList K te) σ G R xs := fun H e Q q => h H e _ fun v G2 H2 g ⟨a, vs, h1, h2, h3⟩ =>
  ⟨a, h1, ⟨vs, ex_l g.kh h2⟩, q _ G2 H2 g (wk_list h2 h3)⟩
theorem ew_tup {R : Rp α} {xs : List α} (h : EvP K te σ G (rT K R) xs) : EvW K (iTup K te) σ G R xs := fun H e Q q => h H e _ fun v G2 H2 g ⟨a, vs, h1, h2, h3⟩ =>
  ⟨a, h1, ⟨vs, ex_t g.kh h2⟩, q _ G2 H2 g (wk_tup h2 h3)⟩
theorem ew_range {ta : TA} {n : Nat} (h : EvB K ta σ G (fun vs _ => vs = [V.int (n : Int)])) (hn : n < 2 ^ 62) : EvW K (iRng1 ta) σ G rI ((List.range n).map fun (k : Nat) => (k : Int)) := fun H e Q q => h H e _ fun vs G2 H2 g ev => by
  refine ⟨(n : Int), ev, by omega, by omega, q _ G2 H2 g ⟨fun i H3 hi _ => ?_, fun i H3 x H4 hi e3 y => ?_, fun H3 _ => ?_⟩⟩
  · show i < (n : Int).toNat
    simpa using hi
  · obtain ⟨y1, y2⟩ := y
    refine ⟨(i : Int), G2, ?_, by rw [y1]; exact Gr.refl e3, ?_⟩
    · have hi' : i < n := by simpa using hi
      rw [List.getElem?_map, List.getElem?_range hi']
      rfl
    · show x = V.int (i : Int)
      rw [y2, Int.zero_add]
  · show (n : Int).toNat ≤ _
    simp

/-! ### list comprehensions -/
theorem filt_take {f : α → Bool} {h : α → β} {xs : List α} {i : Nat} {a : α} (e : xs[i]? = some a) : ((xs.take (i + 1)).filter f).map h = ((xs.take i).filter f).map h ++ (if f a = true then [h a] else []) := by
  rw [List.take_add_one, e, List.filter_append, List.map_append]
  cases q : f a with
  | true => simp [q]
  | false => simp [q]
/-- the target takes x: P of the slots behind it -/
def Tg (g : TG) (x : V) (σ : L2.St) (H : Hp) (P : L2.St → Prop) : Prop := ∀ Q : L2.St → Hp → Prop, (∀ σ2, P σ2 → Q σ2 H) → g x σ H Q
theorem tg_name {j : Nat} {x : V} {P : L2.St → Prop} (h : P (σ.set j (some x))) : Tg (gName j) x σ H P := fun _ q => q _ h
theorem tg_tup2 {i j : Nat} {a : Addr} {u w : V} {P : L2.St → Prop} (e : SqT K H a [u, w]) (h : P ((σ.set i (some u)).set j (some w))) : Tg (gTup K 2 (gCons (gName i) (gCons (gName j) gNil))) (.ref a) σ H P := fun _ q =>
  ⟨a, [u, w], rfl, e, rfl, u, [w], rfl, w, [], rfl, rfl, q _ h⟩
theorem et_yes : EvT K tYes σ G true := fun H e _ q => q H (Gr.refl e)
theorem en_lc {wi : TI} {g : TG} {tt : TT} {ns : List Nat} {R : Rp α} {S : Rp β} [Mo R] [Mo S] {xs : List α} (f : α → Bool) (h : α → β) (hw : EvW K wi σ G R xs) (hz : xs.length < 10000000)
    (turn : ∀ a ∈ xs, ∀ x G2 H2, Ex G G2 → Kn K G2 H2 → R a x G2 → Tg g x (wipe σ ns) H2 fun σ2 => wipe σ2 ns = wipe σ ns ∧ EvT K tt σ2 G2 (f a) ∧ (f a = true → EvP K te σ2 G2 S (h a))) :
    EvN K (tLc wi g tt te ns) σ G (AllR S ((xs.filter f).map h)) := fun H e Q q => hw H e _ fun J G1 H1 g1 wk D hD => by
  have gD : G1 D = none := g1.kh.no _ hD
  refine ⟨fun i m H' => m = xs.length - i ∧ i ≤ xs.length ∧ ∃ Gi vs, Gr K G1 H1 Gi H' ∧ Gi D = none ∧ H' D = some (.lst vs) ∧ vs.length ≤ i ∧ AllR S (((xs.take i).filter f).map h) vs Gi, ⟨xs.length, rfl, Nat.zero_le _, G1, [], Gr.skip g1.kn (Ex.new hD) (tb_new g1.kn.tb hD), gD, upd_same, Nat.le_refl _, by simp [AllR]⟩, ?_⟩
  rintro i m H' ⟨rfl, hi, Gi, vs, gi, giD, hl, hvl, ha⟩
  by_cases hlt : i < xs.length
  · refine .inr ⟨wk.go i H' hlt ⟨gi.kk.trans gi.kh, gi.kn.tb⟩, fun H2 => ∃ Gi vs, Gr K G1 H1 Gi H2 ∧ Gi D = none ∧ H2 D = some (.lst vs) ∧ vs.length ≤ i + 1 ∧ AllR S (((xs.take (i + 1)).filter f).map h) vs Gi, fun H2 ⟨G3, ws, k1, k2, k3, k4, k5⟩ => ⟨xs.length - (i + 1), by omega, rfl, hlt, G3, ws, k1, k2, k3, k4, k5⟩, fun x H2 hy => ?_⟩
    obtain ⟨a, G2, ea, g2, ra⟩ := (wk.mono gi.kk).yld i H' x H2 hlt gi.kn hy
    have am : a ∈ xs := List.mem_of_getElem? ea
    have D2 : G2 D = none := g2.sp D giD (hidden (hl))
    refine turn a am x G2 H2 ((g1.kk.trans gi.kk).trans g2.kk) g2.kn ra _ fun σ2 ⟨w1, t1, e1⟩ => ⟨w1, t1 H2 g2.kn _ fun H3 e3 => ?_⟩
    have l3 : H3 D = some (.lst vs) := e3.hh.l (g2.hh.l hl)
    have g3 : Gr K G1 H1 G2 H3 := (gi.trans g2).trans e3
    have ft := filt_take (f := f) (h := h) ea
    cases hf : f a with
    | false =>
      rw [hf] at ft
      refine iteF ⟨G2, vs, g3, D2, l3, by omega, ?_⟩
      rw [ft]
      simpa using ha.mono g2.kk
    | true =>
      rw [hf] at ft
      refine iteT (e1 hf H3 e3.kn _ fun v G4 H4 g4 r4 => ?_)
      have l4 : H4 D = some (.lst vs) := g4.hh.l l3
      have D4 : G4 D = none := g4.sp D D2 (hidden (l3))
      refine ⟨vs, l4, Nat.lt_of_lt_of_le (show vs.length < 10000000 by omega) (by decide), G4, vs ++ [v], (g3.trans g4).mut D4 hD l4, D4, upd_same, by simp; omega, ?_⟩
      rw [ft]
      refine (ha.mono (g2.kk.trans g4.kk)).append ?_
      exact ⟨r4, trivial⟩
  · have ei : i = xs.length := by omega
    subst ei
    refine .inl ⟨wk.stop H' ⟨gi.kk.trans gi.kh, gi.kn.tb⟩, ?_⟩
    rw [List.take_length] at ha
    exact q D vs Gi H' (g1.hh.no _ hD) giD (g1.trans gi) hl ha
end
end Ob
set_option maxRecDepth 100000
set_option maxHeartbeats 2000000
/-! Kb: the defs by name, calls by name, words for readings. -/
namespace Ob
open PySem PySem.Spec PyProof.Rows L2
abbrev FnP (K : PySem.W.Frag) (x : Str) (st : Stmt) (f : Addr) (fd : FuncData) : Prop := FunD K x x (defArgs st) (defBody st) (defScope st) [] [] f fd
structure Got (K : PySem.W.Frag) (mg : Str → Option Value) (x : Str) (st : Stmt) : Prop where
  ex : ∃ f fd, FnP K x st f fd ∧ mg x = some (.ref f)
/-- what the top has written -/
structure Txt (K : PySem.W.Frag) (mg : Str → Option Value) : Prop where
  m_all : mg "all" = none
  m_any : mg "any" = none
  m_enumerate : mg "enumerate" = none
  m_int : mg "int" = none
  m_isinstance : mg "isinstance" = none
  m_len : mg "len" = none
  m_list : mg "list" = none
  m_min : mg "min" = none
  m_range : mg "range" = none
  m_set : mg "set" = none
  m_sorted : mg "sorted" = none
  m_str : mg "str" = none
  m_tuple : mg "tuple" = none
  m_zip : mg "zip" = none
  m_dict : mg "dict" = none
  m_bool : mg "bool" = none
  g_is_list : Got K mg "is_list" s_is_list
  g_is_name : Got K mg "is_name" s_is_name
  g_as_tuples : Got K mg "as_tuples" s_as_tuples
  g_checked_statements : Got K mg "checked_statements" s_checked_statements
  g_is_pair_of : Got K mg "is_pair_of" s_is_pair_of
  g_checked_objections : Got K mg "checked_objections" s_checked_objections
  g_checked_statement : Got K mg "checked_statement" s_checked_statement
  g_checked_lot : Got K mg "checked_lot" s_checked_lot
  g_checked_way : Got K mg "checked_way" s_checked_way
  g_hit_by : Got K mg "hit_by" s_hit_by
  g_clash_in : Got K mg "clash_in" s_clash_in
  g_unanswered_in : Got K mg "unanswered_in" s_unanswered_in
  g_held_lots : Got K mg "held_lots" s_held_lots
  g_calm_with : Got K mg "calm_with" s_calm_with
  g_greatest_of : Got K mg "greatest_of" s_greatest_of
  g_is_within : Got K mg "is_within" s_is_within
  g_lots_in : Got K mg "lots_in" s_lots_in
  g_fault_in : Got K mg "fault_in" s_fault_in
  g_fault_of : Got K mg "fault_of" s_fault_of
  g_is_lot : Got K mg "is_lot" s_is_lot
  g_smallest_with : Got K mg "smallest_with" s_smallest_with
  g_lacking_lot : Got K mg "lacking_lot" s_lacking_lot
  g_all_held : Got K mg "all_held" s_all_held
  g_is_left_alone : Got K mg "is_left_alone" s_is_left_alone
  g_sure_lots : Got K mg "sure_lots" s_sure_lots
  g_sure_lot : Got K mg "sure_lot" s_sure_lot
  g_is_sure : Got K mg "is_sure" s_is_sure
  g_sure_paper : Got K mg "sure_paper" s_sure_paper
  g_why_unsure : Got K mg "why_unsure" s_why_unsure
  g_l_z_debate : Got K mg "_law_z_debate" s_l_z_debate
  g_l_z_made : Got K mg "_law_z_made" s_l_z_made
  g_l_z_odd_name : Got K mg "_law_z_odd_name" s_l_z_odd_name
  g_l_start : Got K mg "_law_start" s_l_start
  g_l_draw : Got K mg "_law_draw" s_l_draw
  g_l_pick : Got K mg "_law_pick" s_l_pick
  g_l_mixed : Got K mg "_law_mixed" s_l_mixed
  g_l_same : Got K mg "_law_same" s_l_same
  g_l_each_once : Got K mg "_law_each_once" s_l_each_once
  g_l_loose : Got K mg "_law_loose" s_l_loose
  g_l_d_names : Got K mg "_law_d_names" s_l_d_names
  g_l_d_pairs : Got K mg "_law_d_pairs" s_l_d_pairs
  g_l_d_objectors : Got K mg "_law_d_objectors" s_l_d_objectors
  g_l_d_hits : Got K mg "_law_d_hits" s_l_d_hits
  g_l_d_answers : Got K mg "_law_d_answers" s_l_d_answers
  g_l_d_answered : Got K mg "_law_d_answered" s_l_d_answered
  g_l_d_is_calm : Got K mg "_law_d_is_calm" s_l_d_is_calm
  g_l_d_is_held : Got K mg "_law_d_is_held" s_l_d_is_held
  g_l_d_subsets : Got K mg "_law_d_subsets" s_l_d_subsets
  g_l_d_lots : Got K mg "_law_d_lots" s_l_d_lots
  g_l_d_within : Got K mg "_law_d_within" s_l_d_within
  g_l_met : Got K mg "_law_met" s_l_met
  g_l_smallest : Got K mg "_law_smallest" s_l_smallest
  g_l_unsure : Got K mg "_law_unsure" s_l_unsure
  g_l_lots_right : Got K mg "_law_lots_right" s_l_lots_right
  g_l_names_right : Got K mg "_law_names_right" s_l_names_right
  g_l_things : Got K mg "_law_things" s_l_things
  g_l_floating : Got K mg "_law_floating" s_l_floating
  g_law : Got K mg "law" s_law
/-- a def that keeps its promise, found by its name -/
structure Cal (P : Program) (w : World) (K : PySem.W.Frag) (mg : Str → Option Value) (base : Heap) (CX : CXT) (k : Nat) (x : Str) (ps : List Str) (sp : Sp) : Prop where
  ex : ∃ f fd, FnOk P w K mg base CX k f fd ps sp ∧ mg x = some (.ref f) ∧ PySem.W.keepIn K (.ref f) = true ∧ Binds K fd ps []
section
variable {P : Program} {w : World} {K : PySem.W.Frag} {mg : Str → Option Value} {base : Heap} {CX : CXT} {k : Nat} {x : Str} {ps : List Str} {sp : Sp} {st : Stmt} {N : List Str}
theorem Cal.mono {j : Nat} (c : Cal P w K mg base CX j x ps sp) (h : j ≤ k) : Cal P w K mg base CX k x ps sp := let ⟨f, fd, h1, h2⟩ := c.ex; ⟨f, fd, h1.mono h, h2⟩
theorem Cal.imp {sp' : Sp} (c : Cal P w K mg base CX k x ps sp) (h : ∀ vs H Q E, sp' vs H Q E → sp vs H Q E) : Cal P w K mg base CX k x ps sp' := let ⟨f, fd, h1, h2⟩ := c.ex; ⟨f, fd, h1.imp h, h2⟩
theorem cal_mk (G : Got K mg x st) (S : FnScope N ps (defScope st))
    (hb : ∀ (kV doc pm : Value) (an : Option Addr) (cdv ct : Value) (us : List Value), us.length = ps.length → bindArgs (PySem.W.fnOf x x (defArgs st) (defBody st) (defScope st) .none kV doc pm an cdv ct) ⟨us, []⟩ = pure (ps.zip us))
    (len : ∀ vs H Q E, sp vs H Q E → vs.length = ps.length)
    (body : ∀ (f : Addr) (cdv : Value) (A : Around) (outer : List Env) (s : Shared) (H : Hp) (vs : List V) (Q : VK) (E : XK), Room k (A.deeper (envOfC x (defScope st) s.heap.objs.size f cdv)) → sp vs H Q E →
      ∃ t, PSs (cxOf CX P w K mg base N x (defScope st) f cdv A outer s H E) (defBody st) t ∧ t { nx := fun _ H' => Q .non H', rt := Q } (start N vs) H) : Cal P w K mg base CX (k + 1) x ps sp := by
  obtain ⟨f, fd, F, g⟩ := G.ex
  exact ⟨f, fd, F.ok S len (fun cdv A outer s H vs Q E hr h => body f cdv A outer s H vs Q E hr h), g, F.kp, F.bindsN hb⟩
theorem pe_cal {X : Cx} {E : XK} {e : Expr} {es : List Expr} {t : TA} {p pos : Pos} (C : Cal X.prog X.w X.K X.mg X.base CX k x ps sp) (hr : Room k X.A) (hg : Gl X x) (hx : Passes CX X E) (ha : PA X (e :: es) t) (hd : (x == ("__debug__" : Str)) = false := by decide)
    (he : starEach (e :: es) X.env = (false, eval e X.env) :: starEach es X.env := by rfl) (hpl : (backTo pos (starEach es X.env)).any (·.1) = false := by rfl) :
    PE X (.Call (.Name x p) (e :: es) [] pos) (tCall sp [] E t) := by
  obtain ⟨f, fd, F, hm, hk, hb⟩ := C.ex
  exact pe_call F hr hg hm hk hb .nil hx ha hd he hpl
end

/-! ### rules with the written part named -/
section
variable {X : Cx}
theorem xin (K : PySem.W.Frag) (h : X.K = K := by rfl) : OpR X (compareOp .In) (rIn K false) := by subst h; exact op_in_seq
theorem xnin (K : PySem.W.Frag) (h : X.K = K := by rfl) : OpR X (compareOp .NotIn) (rIn K true) := by subst h; exact op_notIn_seq
theorem xinD (K : PySem.W.Frag) (hu : X.A.units + 65 < cLine) (h : X.K = K := by rfl) : OpR X (compareOp .In) (rInD K) := by subst h; exact op_inD hu
theorem xninD (K : PySem.W.Frag) (hu : X.A.units + 65 < cLine) (h : X.K = K := by rfl) : OpR X (compareOp .NotIn) (rNotInD K) := by subst h; exact op_notInD hu
theorem xeqD (K : PySem.W.Frag) (hu : X.A.units + 64 < cLine) (h : X.K = K := by rfl) : OpR X (compareOp .Eq) (rEqD K) := by subst h; exact op_eqD hu
theorem xneD (K : PySem.W.Frag) (hu : X.A.units + 64 < cLine) (h : X.K = K := by rfl) : OpR X (compareOp .NotEq) (rNeD K) := by subst h; exact op_neD hu
theorem xixL (K : PySem.W.Frag) (h : X.K = K := by rfl) : IxR X (rIxL K) := by subst h; exact ix_list
theorem xixT (K : PySem.W.Frag) (h : X.K = K := by rfl) : IxR X (rIxT K) := by subst h; exact ix_tup
theorem xslL (K : PySem.W.Frag) (h : X.K = K := by rfl) : SlR X (rSlL K) := by subst h; exact sl_list
theorem xslT (K : PySem.W.Frag) (h : X.K = K := by rfl) : SlR X (rSlT K) := by subst h; exact sl_tup
theorem xany (K : PySem.W.Frag) (hc : X.calm = true := by rfl) (h : X.K = K := by rfl) : CallR X (.builtin "any") (rAny K) := by subst h; exact cr_any hc
theorem xall (K : PySem.W.Frag) (hc : X.calm = true := by rfl) (h : X.K = K := by rfl) : CallR X (.builtin "all") (rAll K) := by subst h; exact cr_all hc
theorem xlen (K : PySem.W.Frag) (h : X.K = K := by rfl) : CallR X (.builtin "len") (Evl.rLenS K) := by subst h; exact call_len_seq
theorem xlistof (K : PySem.W.Frag) (h : X.K = K := by rfl) : CallR X (.type "list") (Evl.rListS K) := by subst h; exact call_list_of
theorem xmin (K : PySem.W.Frag) (hc : X.calm = true := by rfl) (h : X.K = K := by rfl) : CallR X (.builtin "min") (rMin K) := by subst h; exact cr_min hc
theorem xlist (K : PySem.W.Frag) {tg l : Expr} {tl : TE} (hl : PE X l tl) (h : X.K = K := by rfl) : PI X tg l (iList K tl) := by subst h; exact pi_list hl
theorem xtup (K : PySem.W.Frag) {tg l : Expr} {tl : TE} (hl : PE X l tl) (h : X.K = K := by rfl) : PI X tg l (iTup K tl) := by subst h; exact pi_tup hl
theorem PI.or {tg l : Expr} {w1 w2 : TI} (h1 : PI X tg l w1) (h2 : PI X tg l w2) : PI X tg l (fun σ H R => w1 σ H R ∨ w2 σ H R) := ⟨fun pins s σ H R I h => h.elim (h1.run pins s σ H R I) (h2.run pins s σ H R I)⟩
theorem PE.or {e : Expr} {t1 t2 : TE} (h1 : PE X e t1) (h2 : PE X e t2) : PE X e (fun σ H Q => t1 σ H Q ∨ t2 σ H Q) := ⟨fun pins s σ H R I h => h.elim (h1.run pins s σ H R I) (h2.run pins s σ H R I)⟩
theorem xfld (K : PySem.W.Frag) {e : Expr} {ta : TE} {f : Str} {pos : Pos} (he : PE X e ta) (hb : attributeBase e f X.env (eval e X.env) = eval e X.env := by rfl) (h : X.K = K := by rfl) : PE X (.Attribute e f pos) (tFld K ta f) := by subst h; exact pe_fld he hb
theorem xgtup (K : PySem.W.Frag) {es : List Expr} {k : Nat} {t : TGs} {n : Nat} {pos : Pos} (h : PGs X es t) (hc : X.calm = true := by rfl)
    (hn : (assignEach es X.env).length = n := by rfl) (hst : (assignEach es X.env).findIdx? (·.1) = none := by rfl) (hK : X.K = K := by rfl) : PG X (.Tuple es k pos) (gTup K n t) := by subst hK; exact pg_tup hc h hn hst
end

/-! ### words -/
section
variable {K : PySem.W.Frag} {σ : L2.St} {G G1 H : Hp} {ta tb te : TE} {α β : Type} {D : Ends} {tz : TS} {R : V → Hp → Prop}
theorem sr_ret (e : Kn K G H) (h : EvR K te σ G R) (k : ∀ v G2 H2, Gr K G H G2 H2 → R v G2 → D.rt v H2) : tRet te D σ H := h H e _ k
theorem sv_ret {v : V} (e : Kn K G H) (h : Ev K te σ G v) (k : ∀ H2, Gr K G H G H2 → D.rt v H2) : tRet te D σ H := h H e _ k
theorem sr_asg {i : Nat} (e : Kn K G H) (h : EvR K te σ G R) (k : ∀ v G2 H2, Gr K G H G2 H2 → R v G2 → D.nx (σ.set i (some v)) H2) : tAsg te (gName i) D σ H := h H e _ k
theorem qr_asg {i : Nat} (e : Kn K G H) (h : EvR K te σ G R) (k : ∀ v G2 H2, Gr K G H G2 H2 → R v G2 → tz D (σ.set i (some v)) H2) : tSeq (tAsg te (gName i)) tz D σ H := sr_asg (D := { D with nx := tz D }) e h k
theorem qv_asg {i : Nat} {v : V} (e : Kn K G H) (h : Ev K te σ G v) (k : ∀ H2, Gr K G H G H2 → tz D (σ.set i (some v)) H2) : tSeq (tAsg te (gName i)) tz D σ H := h H e _ k
theorem s_if {t : TT} {tu tw : TS} {b : Bool} (e : Kn K G H) (h : EvT K t σ G b) (h1 : b = true → ∀ H2, Gr K G H G H2 → tu D σ H2) (h2 : b = false → ∀ H2, Gr K G H G H2 → tw D σ H2) : tIfS t tu tw D σ H := h H e _ fun H2 g => by
  cases b with
  | true => exact iteT (h1 rfl H2 g)
  | false => exact iteF (h2 rfl H2 g)
theorem q_if {t : TT} {tu tw : TS} {b : Bool} (e : Kn K G H) (h : EvT K t σ G b) (h1 : b = true → ∀ H2, Gr K G H G H2 → tu { D with nx := tz D } σ H2) (h2 : b = false → ∀ H2, Gr K G H G H2 → tw { D with nx := tz D } σ H2) : tSeq (tIfS t tu tw) tz D σ H := s_if (D := { D with nx := tz D }) e h h1 h2
theorem q_yes {t : TT} {tu tw : TS} (e : Kn K G H) (h : EvT K t σ G true) (h1 : ∀ H2, Gr K G H G H2 → tu { D with nx := tz D } σ H2) : tSeq (tIfS t tu tw) tz D σ H := q_if e h (fun _ => h1) fun z => by cases z
theorem q_no {t : TT} {tu : TS} (e : Kn K G H) (h : EvT K t σ G false) (h2 : ∀ H2, Gr K G H G H2 → tz D σ H2) : tSeq (tIfS t tu tNext) tz D σ H := q_if e h (fun z => by cases z) fun _ => h2
theorem inV_str (x : Str) : ∀ xs : List Str, inV (.str x) (xs.map V.str) = decide (x ∈ xs)
  | [] => rfl
  | y :: ys => by
    have ih := inV_str x ys
    unfold inV at ih ⊢
    rw [List.map_cons, List.any_cons, ih]
    have e : eqV (.str y) (.str x) = decide (x = y) := by
      show (y == x) = _
      rw [Bool.beq_eq_decide_eq]
      exact decide_eq_decide.mpr eq_comm
    rw [e, ← Bool.decide_or]
    exact decide_eq_decide.mpr List.mem_cons.symm
theorem flat_map_str (xs : List Str) : (xs.map V.str).all flatV = true := by simp [List.all_map, flatV]
theorem rQ.strs {xs : List Str} {v : V} {H : Hp} (h : rQ K rS xs v H) : ∃ a, v = .ref a ∧ (SqL K H a (xs.map V.str) ∨ SqT K H a (xs.map V.str)) := by
  rcases h with ⟨a, vs, h1, h2, h3⟩ | ⟨a, vs, h1, h2, h3⟩
  · rw [allR_str h3] at h2; exact ⟨a, h1, .inl h2⟩
  · rw [allR_str h3] at h2; exact ⟨a, h1, .inr h2⟩
theorem run_ins {x : Str} {xs : List Str} {neg : Bool} {y : V} {H : Hp} {Q : VK} (h : rQ K rS xs y H) (q : Q (.bl (if neg then !decide (x ∈ xs) else decide (x ∈ xs))) H) : rIn K neg (.str x) y H Q := by
  obtain ⟨l, e1, h1⟩ := h.strs
  refine ⟨l, xs.map V.str, e1, h1, rfl, flat_map_str xs, ?_⟩
  rw [inV_str]
  exact q
/-- x in xs, x not in xs: texts -/
theorem ev_insQ {x : Str} {xs : List Str} (ha : Ev K ta σ G (.str x)) (hb : EvP K tb σ G (rQ K rS) xs) : Ev K (tOp (rIn K false) ta tb) σ G (.bl (decide (x ∈ xs))) :=
  ev_opR (er_of (R := fun v _ => v = .str x) ha rfl) hb fun a b G2 _ ea hb2 H2 e2 Q q => by rw [ea]; exact run_ins (Mo.mo e2.ex hb2) q
theorem ev_ninsQ {x : Str} {xs : List Str} (ha : Ev K ta σ G (.str x)) (hb : EvP K tb σ G (rQ K rS) xs) : Ev K (tOp (rIn K true) ta tb) σ G (.bl (!decide (x ∈ xs))) :=
  ev_opR (er_of (R := fun v _ => v = .str x) ha rfl) hb fun a b G2 _ ea hb2 H2 e2 Q q => by rw [ea]; exact run_ins (Mo.mo e2.ex hb2) q
theorem ev_ins {x : Str} {xs : List Str} (ha : Ev K ta σ G (.str x)) (hb : EvP K tb σ G (rL K rS) xs) : Ev K (tOp (rIn K false) ta tb) σ G (.bl (decide (x ∈ xs))) := ev_insQ ha (hb.imp fun _ _ _ h => .inl h)
theorem ev_nins {x : Str} {xs : List Str} (ha : Ev K ta σ G (.str x)) (hb : EvP K tb σ G (rL K rS) xs) : Ev K (tOp (rIn K true) ta tb) σ G (.bl (!decide (x ∈ xs))) := ev_ninsQ ha (hb.imp fun _ _ _ h => .inl h)
theorem ev_all {bs : List Bool} (h : EvP K te σ G (rL K rB) bs) : Ev K (tCB (rAll K) (tCons te tNil)) σ G (.bl (bs.all id)) :=
  ev_cb1 h fun x G2 _ ⟨a, vs, e1, h1, h2⟩ H2 e2 Q q => ⟨a, bs, by rw [e1], by rw [← allR_bl h2]; exact ex_l e2.ex h1, q⟩
theorem ev_any {bs : List Bool} (h : EvP K te σ G (rL K rB) bs) : Ev K (tCB (rAny K) (tCons te tNil)) σ G (.bl (bs.any id)) :=
  ev_cb1 h fun x G2 _ ⟨a, vs, e1, h1, h2⟩ H2 e2 Q q => ⟨a, bs, by rw [e1], by rw [← allR_bl h2]; exact ex_l e2.ex h1, q⟩
/-- any([f for a in xs]) .. over anything walked -/
theorem ev_anyc {wi : TI} {g : TG} {ns : List Nat} {R : Rp α} [Mo R] {xs : List α} (f : α → Bool) (hw : EvW K wi σ G R xs) (hz : xs.length < 10000000)
    (turn : ∀ a ∈ xs, ∀ x G2 H2, Ex G G2 → Kn K G2 H2 → R a x G2 → Tg g x (wipe σ ns) H2 fun σ2 => wipe σ2 ns = wipe σ ns ∧ Ev K te σ2 G2 (.bl (f a))) : Ev K (tCB (rAny K) (tCons (tLc wi g tYes te ns) tNil)) σ G (.bl (xs.any f)) := by
  refine ev_is (ev_any (EvN.l (en_lc (S := rB) (fun _ => true) f hw hz fun a ha x G2 H2 e1 e2 r Q q => turn a ha x G2 H2 e1 e2 r Q fun σ2 ⟨w1, h1⟩ => q σ2 ⟨w1, et_yes, fun _ => er_of h1 rfl⟩))) ?_
  simp [List.any_map]
theorem ev_allc {wi : TI} {g : TG} {ns : List Nat} {R : Rp α} [Mo R] {xs : List α} (f : α → Bool) (hw : EvW K wi σ G R xs) (hz : xs.length < 10000000)
    (turn : ∀ a ∈ xs, ∀ x G2 H2, Ex G G2 → Kn K G2 H2 → R a x G2 → Tg g x (wipe σ ns) H2 fun σ2 => wipe σ2 ns = wipe σ ns ∧ Ev K te σ2 G2 (.bl (f a))) : Ev K (tCB (rAll K) (tCons (tLc wi g tYes te ns) tNil)) σ G (.bl (xs.all f)) := by
  refine ev_is (ev_all (EvN.l (en_lc (S := rB) (fun _ => true) f hw hz fun a ha x G2 H2 e1 e2 r Q q => turn a ha x G2 H2 e1 e2 r Q fun σ2 ⟨w1, h1⟩ => q σ2 ⟨w1, et_yes, fun _ => er_of h1 rfl⟩))) ?_
  simp [List.all_map]
/-- [h for a in xs if f], the target a name -/
theorem en_lcN {wi : TI} {j : Nat} {tt : TT} {ns : List Nat} {R : Rp α} {S : Rp β} [Mo R] [Mo S] {xs : List α} (f : α → Bool) (h : α → β) (hw : EvW K wi σ G R xs) (hz : xs.length < 10000000) (hwp : ∀ x : V, wipe ((wipe σ ns).set j (some x)) ns = wipe σ ns)
    (turn : ∀ a ∈ xs, ∀ x G2, Ex G G2 → R a x G2 → EvT K tt ((wipe σ ns).set j (some x)) G2 (f a) ∧ (f a = true → EvP K te ((wipe σ ns).set j (some x)) G2 S (h a))) :
    EvN K (tLc wi (gName j) tt te ns) σ G (AllR S ((xs.filter f).map h)) := en_lc f h hw hz fun a ha x G2 H2 e1 _ r => tg_name ⟨hwp x, turn a ha x G2 e1 r⟩
theorem ev_anyN {wi : TI} {j : Nat} {ns : List Nat} {R : Rp α} [Mo R] {xs : List α} (f : α → Bool) (hw : EvW K wi σ G R xs) (hz : xs.length < 10000000) (hwp : ∀ x : V, wipe ((wipe σ ns).set j (some x)) ns = wipe σ ns)
    (turn : ∀ a ∈ xs, ∀ x G2, Ex G G2 → R a x G2 → Ev K te ((wipe σ ns).set j (some x)) G2 (.bl (f a))) : Ev K (tCB (rAny K) (tCons (tLc wi (gName j) tYes te ns) tNil)) σ G (.bl (xs.any f)) :=
  ev_anyc f hw hz fun a ha x G2 H2 e1 _ r => tg_name ⟨hwp x, turn a ha x G2 e1 r⟩
theorem ev_allN {wi : TI} {j : Nat} {ns : List Nat} {R : Rp α} [Mo R] {xs : List α} (f : α → Bool) (hw : EvW K wi σ G R xs) (hz : xs.length < 10000000) (hwp : ∀ x : V, wipe ((wipe σ ns).set j (some x)) ns = wipe σ ns)
    (turn : ∀ a ∈ xs, ∀ x G2, Ex G G2 → R a x G2 → Ev K te ((wipe σ ns).set j (some x)) G2 (.bl (f a))) : Ev K (tCB (rAll K) (tCons (tLc wi (gName j) tYes te ns) tNil)) σ G (.bl (xs.all f)) :=
  ev_allc f hw hz fun a ha x G2 H2 e1 _ r => tg_name ⟨hwp x, turn a ha x G2 e1 r⟩
theorem ev_strv {i : Nat} {x : Str} {v : V} (r : rS x v G) (h : σ[i]? = some (some v)) : Ev K (tVar i) σ G (.str x) := ev_var (by rw [h, r.1])
end
end Ob
set_option maxRecDepth 100000
set_option maxHeartbeats 2000000
/-! Kc: data read off the abstract heap; sorted of lists, tuples and dicts of any data. -/
namespace Ob
open PySem PySem.Spec PyProof.Rows L2
open PySem.W (AllAlike Sortable alike dataLe EachIs)

/-! ### data -/
mutual
theorem dp_mono {K : PySem.W.Frag} {G H : Hp} (e : Ex G H) : ∀ (d : PyData) (v : V), Dp K G v d → Dp K H v d
  | .none, _, h => by cases h; exact .non
  | .bool _, _, h => by cases h; exact .bl _
  | .int _, _, h => by cases h; exact .int _
  | .str _, _, h => by cases h; exact .str _
  | .list ds, _, h => by
    cases h with
    | lst h1 h2 => exact .lst (ex_l e h1) (dpAll_mono e ds _ h2)
  | .tuple ds, _, h => by
    cases h with
    | tup h1 h2 => exact .tup (ex_t e h1) (dpAll_mono e ds _ h2)
  | .dict _, _, h => by cases h
theorem dpAll_mono {K : PySem.W.Frag} {G H : Hp} (e : Ex G H) : ∀ (ds : List PyData) (vs : List V), DpAll K G vs ds → DpAll K H vs ds
  | [], _, h => by cases h; exact .nil
  | d :: ds, _, h => by
    cases h with
    | cons h1 h2 => exact .cons (dp_mono e d _ h1) (dpAll_mono e ds _ h2)
end
/-- things that R tells read as the data enc -/
class En {α : Type} (K : PySem.W.Frag) (R : Rp α) (enc : outParam (α → PyData)) : Prop where
  lay : ∀ {x : α} {v : V} {H : Hp}, R x v H → (enc x).canLay0 = true
  dp : ∀ {x : α} {v : V} {H : Hp}, R x v H → Dp K H v (enc x)
theorem dpAll_of {α : Type} {K : PySem.W.Frag} {R : Rp α} {enc : α → PyData} [En K R enc] {H : Hp} : ∀ {xs : List α} {vs : List V}, AllR R xs vs H → DpAll K H vs (xs.map enc)
  | [], [], _ => .nil
  | _ :: _, _ :: _, h => .cons (En.dp h.1) (dpAll_of h.2)
  | [], _ :: _, h => h.elim
  | _ :: _, [], h => h.elim
theorem layAll_of {α : Type} {K : PySem.W.Frag} {R : Rp α} {enc : α → PyData} [En K R enc] {H : Hp} : ∀ {xs : List α} {vs : List V}, AllR R xs vs H → PyData.canLayAll0 (xs.map enc) = true
  | [], [], _ => by simp [PyData.canLayAll0]
  | x :: xs, _ :: _, h => by
    rw [List.map_cons, PyData.canLayAll0, En.lay (K := K) (R := R) h.1, layAll_of (K := K) h.2]
    rfl
  | [], _ :: _, h => h.elim
  | _ :: _, [], h => h.elim
abbrev eS : Str → PyData := .str
abbrev eLi {α : Type} (e : α → PyData) : List α → PyData := fun xs => .list (xs.map e)
abbrev ePr {α β : Type} (e : α → PyData) (f : β → PyData) : α × β → PyData := fun p => .tuple [e p.1, f p.2]
abbrev eLot : List Str → PyData := eLi eS
section
variable {K : PySem.W.Frag} {α β : Type} {R : Rp α} {S : Rp β} {e : α → PyData} {f : β → PyData} {H0 : Hp}
instance : En K rS eS := ⟨fun h => by show PyData.canLay0 (.str _) = true; rw [PyData.canLay0]; exact h.2, fun h => by rw [h.1]; exact .str _⟩
instance : En K rI PyData.int := ⟨fun _ => by simp [PyData.canLay0], fun h => by rw [show _ = _ from h]; exact .int _⟩
instance : En K rB PyData.bool := ⟨fun _ => by simp [PyData.canLay0], fun h => by rw [show _ = _ from h]; exact .bl _⟩
instance [En K R e] : En K (rL K R) (eLi e) := ⟨fun {xs _ _} ⟨_, _, _, _, h3⟩ => by
    show PyData.canLay0 (.list (xs.map e)) = true
    rw [PyData.canLay0]; exact layAll_of (K := K) h3, fun ⟨a, vs, h1, h2, h3⟩ => by rw [h1]; exact .lst h2 (dpAll_of h3)⟩
instance [En K R e] : En K (rF H0 R) (eLi e) := ⟨fun h => En.lay (K := K) (rF.l (K := K) h), fun h => En.dp (rF.l (K := K) h)⟩
instance [En K R e] [En K S f] : En K (rP K R S) (ePr e f) := ⟨fun {p _ _} ⟨_, _, _, _, _, h3, h4⟩ => by
    show PyData.canLay0 (.tuple [e p.1, f p.2]) = true
    rw [PyData.canLay0, PyData.canLayAll0, PyData.canLayAll0, PyData.canLayAll0, En.lay (K := K) h3, En.lay (K := K) h4]
    rfl, fun ⟨a, u, w, h1, h2, h3, h4⟩ => by rw [h1]; exact .tup h2 (.cons (En.dp h3) (.cons (En.dp h4) .nil))⟩
end

/-! ### sorting -/
structure SortOk {α : Type} (enc : α → PyData) (xs : List α) : Prop where
  al : AllAlike (xs.map enc)
  so : Sortable (xs.map enc)
  dp : ∀ b ∈ xs, (enc b).depth ≤ 8
  len : xs.length ≤ 10000000
section
variable {prog : Program} {w : World} {A : Around} {E : Value → Shared → Prop} {s : Shared}
/-- the items of a tuple, collected -/
theorem collect_tupO {l : Addr} {us : List Value} {Q : List Value → Shared → Prop} (hl : IsTup s.heap l us.toArray) (hz : us.length ≤ sizeLine)
    (h : ∀ h', (∀ b o, s.heap.get? b = some o → h'.get? b = some o) → Q us { s with heap := h' }) : wpAny (model prog w) A (collect (.ref l)) Q E s := by
  obtain ⟨o, ho, hc, n, hd⟩ := hl
  unfold collect
  refine wpAny_bind (wpAny_runValue (codeAny_builtin PyProof.Rows.entry_proto_collect' ?_))
  show wpAny _ _ (newList [] >>= fun q => again (.builtin "list.__iadd__" ⟨[q, .ref l], []⟩)) _ _ s
  refine wpAny_bind (wpAny_newList ?_)
  refine wpAny_pure ⟨Code.quiet_builtin _ (by decide +kernel), codeAny_builtin PyProof.Rows.entry_list_iadd' ?_⟩
  have kk : ∀ b u, s.heap.get? b = some u → (s.heap.push (seqObj "list" #[] 0)).get? b = some u := fun b u q => Heap.get?_push_of_some _ q
  have hnew : (s.heap.push (seqObj "list" #[] 0)).get? s.heap.objs.size = some (seqObj "list" #[] 0) := Heap.get?_push_size _ rfl
  show wpAny _ _ (Builtin.List.listExtendWith (.ref s.heap.objs.size) (.ref l) (.ref s.heap.objs.size)) _ _ { s with heap := s.heap.push (seqObj "list" #[] 0) }
  unfold Builtin.List.listExtendWith
  refine wpAny_bind (wpAny_typeOf (T := "tuple") ⟨o, kk l o ho, hc⟩ ?_)
  have ht : (Value.type "tuple" == Value.type "tuple") = true := by rfl
  rw [if_pos (by rw [ht]; simp)]
  refine wpAny_bind (listItems_at (kk l o ho) hd ?_)
  refine wpAny_bind (listItems_at (xs := #[]) (n := 0) hnew rfl ?_)
  rw [if_neg (by simp)]
  have hup := PyProof.Rows.get?_update_seq hnew (· ++ us.toArray)
  refine wpAny_bind (listUpdate_at (xs := #[]) (n := 0) hnew rfl ?_ (Nat.zero_le _) (by show (#[] ++ us.toArray).size ≤ sizeLine + 1; simp only [Array.size_append, List.size_toArray, List.length_nil]; omega))
  refine wpAny_pure ?_
  show wpAny (model prog w) A (load s.heap.objs.size >>= _) Q E _
  refine wpAny_bind (wpAny_load hup ?_)
  show wpAny _ _ (pure ((#[] : Array Value) ++ us.toArray).toList) Q E _
  rw [show ((#[] : Array Value) ++ us.toArray).toList = us by simp]
  refine wpAny_pure (h _ fun b u q => ?_)
  rw [Heap.get?_update_ne _ _ _ _ (Nat.ne_of_lt (Heap.lt_size q))]
  exact kk b u q
/-- sorted(x), x's items collected as some us of which U is known, which stand for bs -/
theorem sorted_gen {β : Type} {x : Value} {U : List Value → Prop} {bs : List β} {enc : β → PyData} {R : Value → β → Prop} {Q : Value → Shared → Prop}
    (hcol : ∀ Q' : List Value → Shared → Prop, (∀ h' tk us, U us → (∀ b o, s.heap.get? b = some o → h'.get? b = some o) → Q' us { s with heap := h', toks := tk }) → wpAny (model prog w) A.in1 (collect x) Q' E s)
    (e0 : ∀ us, U us → EachIs R us bs) (er0 : ∀ us, U us → EachIs (fun v b => ∃ as, Reads s.heap v (enc b) as) us bs) (ok : SortOk enc bs) (hu : A.units + 60 < cLine)
    (h : ∀ (h' : Heap) tk p c out, out.length = bs.length → EachIs R out (bs.mergeSort (dataLe false enc)) → (∀ b o, s.heap.get? b = some o → h'.get? b = some o) → ∀ h2 : Heap, (∀ b o, h'.get? b = some o → h2.get? b = some o) → h'.objs.size ≤ p → h2.get? p = some (seqObj "list" (List.toArray out) c) → Q (.ref p) { s with heap := h2, toks := tk }) :
    wpAny (model prog w) A (call (.builtin "sorted") [x]) Q E s := by
  refine Calls.call_function_entry PyProof.Rows.kind_sorted PyProof.Rows.plain_sorted PyProof.Rows.entry_sorted (PyProof.Rows.args_sorted1 _) ?_
  unfold Builtin.«sorted»
  refine wpAny_bind (m := checkCount "sorted" 1 1 _) (wpAny_pure ?_)
  refine wpAny_bind (hcol _ fun h' tk us hU hk => ?_)
  have e := e0 us hU
  have er := er0 us hU
  have hlen : us.length = bs.length := e.length
  have hz : us.length ≤ sizeLine := by rw [hlen, sizeLine_eq]; have := ok.len; omega
  refine wpAny_bind (wpAny_newList ?_ hz)
  have hl0 : (h'.push (seqObj "list" us.toArray 0)).get? h'.objs.size = some (seqObj "list" us.toArray 0) := Heap.get?_push_size _ rfl
  have old : ∀ b o, s.heap.get? b = some o → b ≠ h'.objs.size ∧ (h'.push (seqObj "list" us.toArray 0)).get? b = some o := fun b o q => ⟨Nat.ne_of_lt (Heap.lt_size (hk b o q)), Heap.get?_push_of_some _ (hk b o q)⟩
  have er2 : EachIs (fun v b => ∃ as, Reads (PySem.W.sortingHeap (h'.push (seqObj "list" us.toArray 0)) h'.objs.size us) v (enc b) as) us bs :=
    er.mono fun _ _ ⟨as, r⟩ => ⟨as, PyProof.Rows.Reads.keeps (fun b o q => PySem.W.sortingHeap_old (old b o q).1 (old b o q).2) r⟩
  refine wpAny_bind (wpAny_holding (wpAny_call_entry PyProof.Rows.slot_list_sort ⟨_, hl0, rfl⟩ PyProof.Rows.entry_list_sort (PySem.W.list_sort_vals (κ := PySem.W.dataKind _ (bs.map enc)) hl0
    (PySem.W.SortsAt.data (PySem.W.each_map (R := fun v d => ∃ as, Reads _ v d as) enc er2) ok.al ok.so ?_) hz ⟨.none, rfl, ?_⟩) (PyProof.Rows.args_list_sort _)))
  · intro d hd
    obtain ⟨b, hb, rfl⟩ := List.mem_map.mp hd
    have h1 := ok.dp b hb
    show A.units + 1 + 1 + (enc b).depth < cLine
    omega
  · obtain ⟨ep, hat⟩ := PyProof.Rows.sortedHeap_at (vs := us) (out := (PySem.W.sortVals (PySem.W.dataKind (PySem.W.sortingHeap (h'.push (seqObj "list" us.toArray 0)) h'.objs.size us) (bs.map enc)) false us us).toArray) hl0
    refine wpAny_pure ⟨_, rfl, h h' tk _ ep _ ?_ (PySem.W.sortVals_data false e er2 ok.al) hk _ (fun b o q => ?_) (Nat.le_refl _) hat⟩
    · rw [PySem.W.sortVals_length false rfl]
      exact hlen
    · have hb : b ≠ h'.objs.size := Nat.ne_of_lt (Heap.lt_size q)
      have q2 : (h'.push (seqObj "list" us.toArray 0)).get? b = some o := Heap.get?_push_of_some _ q
      rw [PyProof.Rows.sortedHeap_old hb (Heap.lt_size q2)]
      exact q2
end

/-! ### sorted, over the layer -/
section
variable {α : Type}
/-- the items of a list, a tuple, a dict with flat keys -/
def Src (K : PySem.W.Frag) (H : Hp) (x : V) (ws : List V) : Prop := (∃ a, x = .ref a ∧ SqL K H a ws) ∨ (∃ a, x = .ref a ∧ SqT K H a ws) ∨ ∃ a kvs, x = .ref a ∧ Rd H a (.dK kvs) ∧ ws = kvs.map fun p => kV p.1
def rSortG (K : PySem.W.Frag) (R : Rp α) (enc : α → PyData) : List V → Hp → VK → Prop := fun vs H Q => ∃ x ws xs G, vs = [x] ∧ Src K H x ws ∧ Ex G H ∧ AllR R xs ws G ∧ SortOk enc xs ∧
  ∀ p ws', H p = none → AllR R (xs.mergeSort (dataLe false enc)) ws' G → Q (.ref p) (upd H p (.lst ws'))
theorem each_of {K : PySem.W.Frag} {R : Rp α} {G : Hp} : ∀ {xs : List α} {ws : List V} {us : List Value}, AllR R xs ws G → Vals ws us → EachIs (fun u x => ∃ v, RelV v u ∧ R x v G) us xs
  | [], [], _, _, r => by cases r; exact .nil
  | _ :: _, _ :: _, _, h, r => by
    cases r with
    | cons r1 r2 => exact .cons ⟨_, r1, h.1⟩ (each_of (K := K) h.2 r2)
  | [], _ :: _, _, h, _ => h.elim
  | _ :: _, [], _, h, _ => h.elim
theorem of_each {R : Rp α} {G : Hp} : ∀ {xs : List α} {us : List Value}, EachIs (fun u x => ∃ v, RelV v u ∧ R x v G) us xs → ∃ ws, Vals ws us ∧ AllR R xs ws G
  | [], _, .nil => ⟨[], .nil, trivial⟩
  | _ :: _, _, .cons ⟨v, r, h⟩ t => let ⟨ws, r2, h2⟩ := of_each t; ⟨v :: ws, .cons r r2, h, h2⟩
theorem each_reads {X : Cx} {pins : List (Addr × Obj)} {σ : L2.St} {H G : Hp} {s : Shared} {R : Rp α} {enc : α → PyData} [En X.K R enc] (I : Inv X pins σ H s) (e : Ex G H) : ∀ {xs : List α} {ws : List V} {us : List Value}, AllR R xs ws G → Vals ws us → EachIs (fun u x => ∃ as, Reads s.heap u (enc x) as) us xs
  | [], [], _, _, r => by cases r; exact .nil
  | _ :: _, _ :: _, _, h, r => by
    cases r with
    | cons r1 r2 => exact .cons (Dp.reads I _ _ _ (dp_mono e _ _ (En.dp h.1)) r1) (each_reads I e h.2 r2)
  | [], _ :: _, _, h, _ => h.elim
  | _ :: _, [], _, h, _ => h.elim
theorem vals_keys : ∀ {kvs : List (Key × V)} {vs : List (Key × Value)} {us : List Value}, KV kvs vs → us.length = vs.length → (∀ (j : Nat) (v : Value), us[j]? = some v → ∃ k x, vs[j]? = some (k, x) ∧ keyIs k v = true) → Vals (kvs.map fun p => kV p.1) us
  | kvs, vs, us, r, hl, h => by
    have e : (vs.map fun p => kV p.1) = kvs.map fun p => kV p.1 := by
      have := r.keys
      rw [show (fun p : Key × Value => kV p.1) = kV ∘ (·.1) from rfl, ← List.map_map, ← this, List.map_map]
      rfl
    rw [← e]
    exact keys_at hl h
theorem run_sort {X : Cx} {pins : List (Addr × Obj)} {σ : L2.St} {H G : Hp} {s : Shared} {Q : VK} {x : Value} {ws : List V} {xs : List α} {R : Rp α} {enc : α → PyData} [En X.K R enc] (hu : X.A.units + 64 < cLine) (I : Inv X pins σ H s)
    (hcol : ∀ (E : Value → Shared → Prop) (Q' : List Value → Shared → Prop), (∀ h' tk us, Vals ws us → (∀ b o, s.heap.get? b = some o → h'.get? b = some o) → Q' us { s with heap := h', toks := tk }) → wpAny (model X.prog X.w) X.A.in1 (collect x) Q' E s)
    (e : Ex G H) (ha : AllR R xs ws G) (ok : SortOk enc xs) (q : ∀ p ws', H p = none → AllR R (xs.mergeSort (dataLe false enc)) ws' G → Q (.ref p) (upd H p (.lst ws'))) :
    wpAny (model X.prog X.w) X.A (call (.builtin "sorted") [x]) (EP X pins σ Q) X.xe s := by
  refine sorted_gen (R := fun u x => ∃ v, RelV v u ∧ R x v G) (hcol _) (fun us rv => each_of (K := X.K) ha rv) (fun us rv => each_reads I e ha rv) ok (by omega) fun h' tk p c out hlen eo hk h2 hk2 hp hat => ?_
  obtain ⟨ws', r2, h3⟩ := of_each eo
  have I1 : Inv X pins σ H { s with heap := h', toks := tk } := I.kept hk
  have hl : ws'.length ≤ sizeLine := by
    have z1 := r2.length
    have z2 := ok.len
    rw [sizeLine_eq]
    omega
  exact ⟨.ref p, _, I1.laid (t' := tk) (h' := h2) hk2 hp (show ObjOk X.prog X.w _ _ p (.lst ws') from ⟨hl, out, c, r2, hat⟩), rfl, q p ws' (I1.hok.fresh hp) h3⟩
theorem xsort (K : PySem.W.Frag) {X : Cx} (R : Rp α) {enc : α → PyData} [En K R enc] (hu : X.A.units + 64 < cLine) (hcalm : X.calm = true := by rfl) (hK : X.K = K := by rfl) : CallR X (.builtin "sorted") (rSortG K R enc) := by
  subst hK
  intro pins s σ H vs us Q I r h
  obtain ⟨x, ws, xs, G, rfl, src, e, ha, ok, q⟩ := h
  obtain ⟨u, rfl, rx⟩ := vals1 r
  rcases src with ⟨a, rfl, hs⟩ | ⟨a, rfl, hs⟩ | ⟨a, kvs, rfl, hd, rfl⟩
  · cases rx
    obtain ⟨its, rv, hl, hz⟩ := I.list hs
    refine run_sort hu I (fun E Q' k => PyProof.Rows.collect_list hl.isList (k _ s.toks _ rv fun b o eo => ?_) (by rw [← rv.length]; exact hz)) e ha ok q
    rw [Heap.get?_update_ne _ _ _ _ (Nat.ne_of_lt (Heap.lt_size eo))]
    exact Heap.get?_push_of_some _ eo
  · cases rx
    obtain ⟨its, rv, hl, hz⟩ := I.tuple hs
    exact run_sort hu I (fun E Q' k => collect_tupO hl (by rw [← rv.length]; exact hz) fun h' hk => k h' s.toks _ rv hk) e ha ok q
  · cases rx
    obtain ⟨z, lo, vs, rel, dd⟩ := dk_rd I.hok hd
    obtain ⟨ep, hat⟩ := dd.dictAt
    have hn : vs.length ≤ sizeLine := by rw [← rel.length]; exact z
    refine run_sort hu I (fun E Q' k => PySem.W.kdu_collect (A := X.A.in1) (PySem.W.kdl_dict (knd := mixKind X.prog X.w) (kvs := vs) (ep := ep) lo) (I.ok.hd hcalm) hat hn fun h' tk acc hk hacc => k h' tk _ (vals_keys rel (by rw [Array.length_toList, hacc.1]) fun j v ej => ?_) hk) e ha ok q
    obtain ⟨k1, x1, e1, e2⟩ := hacc.2 j v (by rw [← Array.getElem?_toList]; exact ej)
    exact ⟨k1, x1, e1, e2⟩
/-- sorted of a dict whose keys are pairs of texts -/
abbrev kPair (p : Str × Str) : List Key := [Sum.inr p.1, Sum.inr p.2]
/-- a pair of texts, a tuple of its own -/
def rPd : Rp (Str × Str) := fun p v H => ∃ a, v = .ref a ∧ H a = some (.tup [.str p.1, .str p.2]) ∧ PyData.strOk p.1 = true ∧ PyData.strOk p.2 = true
theorem rPd.p {K : PySem.W.Frag} {p : Str × Str} {v : V} {H : Hp} (h : rPd p v H) : rP K rS rS p v H := let ⟨a, h1, h2, h3, h4⟩ := h; ⟨a, _, _, h1, SqT.of h2, ⟨rfl, h3⟩, ⟨rfl, h4⟩⟩
instance {K : PySem.W.Frag} : En K rPd (ePr eS eS) := ⟨fun h => En.lay (K := K) (R := rP K rS rS) h.p, fun h => En.dp (K := K) (R := rP K rS rS) h.p⟩
def rSortT (K : PySem.W.Frag) : List V → Hp → VK → Prop := fun vs H Q => ∃ (a : Addr) (kvs : List (List Key × V)) (ps : List (Str × Str)), vs = [.ref a] ∧ H a = some (.dT kvs) ∧ kvs.map (·.1) = ps.map kPair ∧ (∀ p ∈ ps, PyData.strOk p.1 = true ∧ PyData.strOk p.2 = true) ∧ SortOk (ePr eS eS) ps ∧
  ∀ p ws', H p = none → AllR rPd (ps.mergeSort (dataLe false (ePr eS eS))) ws' H → Q (.ref p) (upd H p (.lst ws'))
theorem kt_all {H : Hp} : ∀ {kvs : List (List Key × V)} {xs : List (List Key × Addr × Value)} {ps : List (Str × Str)}, KT H kvs xs → (∀ p ∈ ps, PyData.strOk p.1 = true ∧ PyData.strOk p.2 = true) → kvs.map (·.1) = ps.map kPair → AllR rPd ps (xs.map fun x => V.ref x.2.1) H
  | [], _, [], .nil, _, _ => trivial
  | _ :: _, _, p :: ps, .cons h t, k, e => by
    rw [List.map_cons, List.map_cons] at e
    injection e with e1 e2
    refine ⟨⟨_, rfl, ?_, (k p (List.mem_cons_self ..)).1, (k p (List.mem_cons_self ..)).2⟩, kt_all t (fun q hq => k q (List.mem_cons_of_mem _ hq)) e2⟩
    have h2 := h.2.1
    rw [e1] at h2
    exact h2
  | [], _, _ :: _, _, _, e => by cases e
  | _ :: _, _, [], _, _, e => by cases e
theorem vals_refs : ∀ (xs : List (List Key × Addr × Value)), Vals (xs.map fun x => V.ref x.2.1) (xs.map fun x => Value.ref x.2.1)
  | [] => .nil
  | _ :: xs => .cons rfl (vals_refs xs)
theorem xsortT (K : PySem.W.Frag) {X : Cx} (hu : X.A.units + 64 < cLine) (hcalm : X.calm = true := by rfl) (hK : X.K = K := by rfl) : CallR X (.builtin "sorted") (rSortT K) := by
  subst hK
  intro pins s σ H vs us Q I r h
  obtain ⟨a, kvs, ps, rfl, hd, hk, hso, ok, q⟩ := h
  obtain ⟨u, rfl, rx⟩ := vals1 r
  cases rx
  obtain ⟨z, lo, xs, kt, o, es, ep, h1, h2, h3, h4, h5, h6⟩ := dt_of I.hok hd
  have hes : es.size = kvs.length := by
    have e := congrArg List.length h4
    rw [Array.length_toList, List.length_map] at e
    rw [e]
    exact (Paired.length kt).symm
  have hn : es.size ≤ sizeLine := by rw [hes]; exact z
  refine run_sort (ws := xs.map fun x => V.ref x.2.1) (R := rPd) hu I (fun E Q' k => PySem.W.kdu_collect (A := X.A.in1) (KdlSrc.rawDict (es := es) (ep := ep) lo) (I.ok.hd hcalm) ⟨o, h1, h2, h3⟩ hn fun h' tk acc hk hacc => k h' tk _ ?_ hk) (exr H) (kt_all kt hso hk) ok q
  have ea : acc.toList = xs.map fun x => Value.ref x.2.1 := by
    have em : es.toList.map (·.key) = xs.map fun x => Value.ref x.2.1 := by
      rw [h4, List.map_map]
      rfl
    rw [← em]
    refine List.ext_getElem? fun i => ?_
    rcases Nat.lt_or_ge i acc.size with hi | hi
    · have e1 : acc.toList[i]? = some acc[i] := by rw [Array.getElem?_toList, Array.getElem?_eq_getElem hi]
      obtain ⟨hi2, e2⟩ := hacc.2 i acc[i] (by rw [Array.getElem?_eq_getElem hi])
      rw [e1, e2, List.getElem?_map, Array.getElem?_toList, Array.getElem?_eq_getElem hi2]
      rfl
    · have e1 : acc.size = es.size := hacc.1
      rw [List.getElem?_eq_none (by rw [Array.length_toList]; exact hi), List.getElem?_eq_none (by rw [List.length_map, Array.length_toList]; omega)]
  rw [ea]
  exact vals_refs xs
end
end Ob
set_option maxRecDepth 100000
set_option maxHeartbeats 2000000
/-! Kmi: what the law's own defs and the program's defs compute, as plain functions. -/
namespace Ob
open PySem PySem.Spec PyProof.Rows L2
open PySem.W (dataLe)
abbrev Lot := List Str
abbrev Pr := Str × Str
abbrev so {α : Type} (enc : α → PyData) (xs : List α) : List α := xs.mergeSort (dataLe false enc)
abbrev ePP : Pr → PyData := ePr eS eS
abbrev eIL : Int × Lot → PyData := ePr PyData.int eLot

/-! the law's own -/
def within (xs ys : Lot) : Bool := xs.all fun x => decide (x ∈ ys)
def objsL (P : List Pr) (x : Str) : Lot := so eS ((P.filter fun p => decide (p.2 = x)).map (·.1))
def hitsL (P : List Pr) (L : Lot) (x : Str) : Bool := (objsL P x).any fun o => decide (o ∈ L)
def answersL (P : List Pr) (L : Lot) (x : Str) : Bool := (objsL P x).all fun o => hitsL P L o
def answeredL (N : Lot) (P : List Pr) (L : Lot) : Lot := so eS (N.filter (answersL P L))
def calmL (P : List Pr) (L : Lot) : Bool := !(P.any fun p => decide (p.1 ∈ L) && decide (p.2 ∈ L))
def heldL (P : List Pr) (L : Lot) : Bool := calmL P L && L.all (answersL P L)
def subsAll (N : Lot) : List Lot := N.foldl (fun F x => F ++ F.map (· ++ [x])) [[]]
def subsL (N : Lot) : List Lot := so eLot (subsAll (so eS N))
def heldsL (N : Lot) (P : List Pr) : List Lot := ((subsL N).filter (calmL P)).filter (heldL P)
def greatestL (N : Lot) (P : List Pr) : List Lot := (heldsL N P).filter fun l => !((heldsL N P).any fun o => within l o && !decide (l = o))
def wholeL (N : Lot) (P : List Pr) : List Lot := (heldsL N P).filter fun l => decide (answeredL N P l = l)
def leastL (N : Lot) (P : List Pr) : List Lot := (wholeL N P).filter fun l => (wholeL N P).all fun o => within l o
def smallestL (ls : List Lot) (x : Str) : Option Lot := (so eIL ((ls.filter fun l => decide (x ∈ l)).map fun l => ((l.length : Int), l))).head?.map (·.2)
def unsureAt (P : List Pr) (ls : List Lot) (x : Str) : Option (Str × Str × Lot) := (objsL P x).findSome? fun o => (smallestL ls o).map fun l => (x, o, l)
def unsureL (P : List Pr) (L : Lot) (ls : List Lot) : Option (Str × Str × Lot) := (so eS L).findSome? (unsureAt P ls)

/-! lengths -/
theorem so_len {α : Type} (e : α → PyData) (xs : List α) : (so e xs).length = xs.length := List.length_mergeSort xs
theorem so_perm {α : Type} (e : α → PyData) (xs : List α) : (so e xs).Perm xs := List.mergeSort_perm xs _
theorem so_mem {α : Type} {e : α → PyData} {xs : List α} {x : α} : x ∈ so e xs ↔ x ∈ xs := (so_perm e xs).mem_iff
theorem subsAll_len : ∀ (N : Lot) (F : List Lot), (N.foldl (fun F x => F ++ F.map (· ++ [x])) F).length = F.length * 2 ^ N.length
  | [], F => by simp
  | x :: N, F => by
    rw [List.foldl_cons, subsAll_len N]
    simp only [List.length_append, List.length_map, List.length_cons]
    rw [Nat.pow_succ, ← Nat.two_mul, Nat.mul_comm 2, Nat.mul_assoc, Nat.mul_comm 2]
theorem pow_le8 {n : Nat} (h : n ≤ 8) : 2 ^ n ≤ 256 := by
  have := Nat.pow_le_pow_right (show 2 > 0 by decide) h
  simpa using this
theorem subsL_len {N : Lot} (h : N.length ≤ 8) : (subsL N).length ≤ 256 := by
  unfold subsL subsAll
  rw [so_len, subsAll_len, so_len]
  simpa using pow_le8 h
theorem heldsL_len {N : Lot} {P : List Pr} (h : N.length ≤ 8) : (heldsL N P).length ≤ 256 :=
  Nat.le_trans (List.length_filter_le _ _) (Nat.le_trans (List.length_filter_le _ _) (subsL_len h))
theorem subsAll_small : ∀ (N : Lot) (F : List Lot) (k : Nat), (∀ l ∈ F, l.length ≤ k) → ∀ l ∈ N.foldl (fun F x => F ++ F.map (· ++ [x])) F, l.length ≤ k + N.length
  | [], F, k, h, l, hl => by simpa using h l hl
  | x :: N, F, k, h, l, hl => by
    rw [List.foldl_cons] at hl
    have := subsAll_small N (F ++ F.map (· ++ [x])) (k + 1) (fun m hm => by
      rcases List.mem_append.mp hm with hm | hm
      · exact Nat.le_succ_of_le (h m hm)
      · obtain ⟨m2, h2, rfl⟩ := List.mem_map.mp hm
        have := h m2 h2
        simp; omega) l hl
    simp only [List.length_cons]
    omega
theorem subsL_small {N : Lot} {l : Lot} (h : l ∈ subsL N) : l.length ≤ N.length := by
  have := subsAll_small (so eS N) [[]] 0 (by simp) l (so_mem.mp h)
  rw [so_len] at this
  omega
theorem heldsL_small {N : Lot} {P : List Pr} {l : Lot} (h : l ∈ heldsL N P) : l.length ≤ N.length := subsL_small ((List.mem_filter.mp (List.mem_filter.mp h).1).1)
theorem objsL_len (P : List Pr) (x : Str) : (objsL P x).length ≤ P.length := by
  unfold objsL
  rw [so_len, List.length_map]
  exact List.length_filter_le _ _

/-! what is sorted -/
theorem al_str (a b : Str) : PySem.W.alike (eS a) (eS b) = true := by simp [PySem.W.alike]
theorem al_strs : ∀ xs ys : Lot, PySem.W.alikeAll (xs.map eS) (ys.map eS) = true
  | [], _ => by simp [PySem.W.alikeAll]
  | _ :: _, [] => by simp [PySem.W.alikeAll]
  | x :: xs, y :: ys => by
    show PySem.W.alikeAll (.str x :: xs.map eS) (.str y :: ys.map eS) = true
    rw [PySem.W.alikeAll, al_strs xs ys]
    simp [PySem.W.alike]
theorem al_lot (a b : Lot) : PySem.W.alike (eLot a) (eLot b) = true := by
  show PySem.W.alike (.list (a.map eS)) (.list (b.map eS)) = true
  rw [PySem.W.alike]
  exact al_strs a b
theorem dp_strs : ∀ xs : Lot, PyData.depthAll (xs.map eS) = 0
  | [] => by simp [PyData.depthAll]
  | x :: xs => by
    show PyData.depthAll (.str x :: xs.map eS) = 0
    rw [PyData.depthAll, dp_strs xs]
    simp [PyData.depth]
theorem dp_lot (a : Lot) : (eLot a).depth ≤ 1 := by
  show PyData.depth (.list (a.map eS)) ≤ 1
  rw [PyData.depth, dp_strs]
  exact Nat.le_refl _
theorem ok_str {xs : Lot} (h : xs.length ≤ 10000000) : SortOk eS xs := ⟨.of al_str, .others fun b => ⟨fun z => PyData.noConfusion z, fun _ z => PyData.noConfusion z⟩, fun b _ => by simp [PyData.depth], h⟩
theorem ok_lot {xs : List Lot} (h : xs.length ≤ 10000000) : SortOk eLot xs := ⟨.of al_lot, .others fun b => ⟨fun z => PyData.noConfusion z, fun _ z => PyData.noConfusion z⟩, fun b _ => Nat.le_trans (dp_lot b) (by decide), h⟩
theorem ok_pp {xs : List Pr} (h : xs.length ≤ 10000000) : SortOk ePP xs := ⟨.of fun a b => by
    show PySem.W.alike (.tuple [.str a.1, .str a.2]) (.tuple [.str b.1, .str b.2]) = true
    simp [PySem.W.alike, PySem.W.alikeAll], .tuples fun b => ⟨_, _, rfl⟩, fun b _ => by
    show PyData.depth (.tuple [.str b.1, .str b.2]) ≤ 8
    simp [PyData.depth, PyData.depthAll], h⟩
theorem ok_il {xs : List (Int × Lot)} (h : xs.length ≤ 10000000) : SortOk eIL xs := ⟨.of fun a b => by
    show PySem.W.alike (.tuple [.int a.1, eLot a.2]) (.tuple [.int b.1, eLot b.2]) = true
    have h2 := al_strs a.2 b.2
    simp only [PySem.W.alike, PySem.W.alikeAll, h2]
    rfl, .tuples fun b => ⟨_, _, rfl⟩, fun b _ => by
    show PyData.depth (.tuple [.int b.1, eLot b.2]) ≤ 8
    have h2 := dp_strs b.2
    simp only [PyData.depth, PyData.depthAll, h2]
    decide, h⟩
end Ob
set_option maxRecDepth 100000
set_option maxHeartbeats 2000000
/-! Kd0: more words: data compared, sorted, indexed; None; calls. -/
namespace Ob
open PySem PySem.Spec PyProof.Rows L2
open PySem.W (dataLe)
/-- data that can be compared, by what they stand for -/
class Nice {α : Type} (enc : α → PyData) (k : outParam Nat) : Prop where
  dep : ∀ x, (enc x).depth ≤ k
  eqv : ∀ x y, PyData.eqv (enc x) (enc y) = true ↔ x = y
theorem dep_all {α : Type} {e : α → PyData} {k : Nat} [Nice e k] : ∀ xs : List α, PyData.depthAll (xs.map e) ≤ k
  | [] => by simp [PyData.depthAll]
  | x :: xs => by
    rw [List.map_cons, PyData.depthAll]
    exact Nat.max_le.mpr ⟨Nice.dep x, dep_all xs⟩
theorem eqv_all {α : Type} {e : α → PyData} {k : Nat} [Nice e k] : ∀ xs ys : List α, PyData.eqvAll (xs.map e) (ys.map e) = true ↔ xs = ys
  | [], [] => by simp [PyData.eqvAll]
  | [], _ :: _ => by simp [PyData.eqvAll]
  | _ :: _, [] => by simp [PyData.eqvAll]
  | x :: xs, y :: ys => by
    rw [List.map_cons, List.map_cons, PyData.eqvAll, Bool.and_eq_true, Nice.eqv x y, eqv_all xs ys, List.cons.injEq]
instance : Nice eS 0 := ⟨fun x => by simp [PyData.depth], fun x y => by
  show (PyData.str x).eqv (PyData.str y) = true ↔ _
  simp [PyData.eqv]⟩
instance : Nice PyData.int 0 := ⟨fun x => by simp [PyData.depth], fun x y => by simp [PyData.eqv]⟩
instance {α : Type} {e : α → PyData} {k : Nat} [Nice e k] : Nice (eLi e) (k + 1) := ⟨fun xs => by
    show PyData.depth (.list (xs.map e)) ≤ k + 1
    rw [PyData.depth]
    exact Nat.succ_le_succ (dep_all xs), fun xs ys => by
    show PyData.eqv (.list (xs.map e)) (.list (ys.map e)) = true ↔ _
    rw [PyData.eqv]; exact eqv_all xs ys⟩
instance {α β : Type} {e : α → PyData} {f : β → PyData} {k l : Nat} [Nice e k] [Nice f l] : Nice (ePr e f) (k + l + 1) := ⟨fun p => by
    show PyData.depth (.tuple [e p.1, f p.2]) ≤ _
    have h1 := Nice.dep (enc := e) p.1
    have h2 := Nice.dep (enc := f) p.2
    simp only [PyData.depth, PyData.depthAll]
    omega, fun p q => by
    show PyData.eqv (.tuple [e p.1, f p.2]) (.tuple [e q.1, f q.2]) = true ↔ _
    rw [PyData.eqv, PyData.eqvAll, PyData.eqvAll, PyData.eqvAll, Bool.and_true, Bool.and_eq_true, Nice.eqv, Nice.eqv]
    exact ⟨fun h => Prod.ext h.1 h.2, fun h => by rw [h]; exact ⟨rfl, rfl⟩⟩⟩
theorem shaped_of {α : Type} {K : PySem.W.Frag} {R : Rp α} {e : α → PyData} {k : Nat} [Nice e k] [En K R e] {x : α} {v : V} {H : Hp} (h : k ≤ 64) (r : R x v H) : SeqAt.shaped (e x) = true := by
  unfold SeqAt.shaped
  rw [Bool.and_eq_true]
  exact ⟨En.lay (K := K) r, decide_eq_true (Nat.le_trans (Nice.dep x) h)⟩
theorem eqv_dec {α : Type} [DecidableEq α] {e : α → PyData} {k : Nat} [Nice e k] (x y : α) : PyData.eqv (e x) (e y) = decide (x = y) := by
  have h := Nice.eqv (enc := e) x y
  by_cases q : x = y
  · rw [decide_eq_true q]; exact h.mpr q
  · rw [decide_eq_false q]
    cases r : PyData.eqv (e x) (e y) with
    | true => exact absurd (h.mp r) q
    | false => rfl
section
variable {K : PySem.W.Frag} {σ : L2.St} {G G1 H : Hp} {ta tb te : TE} {α β ι : Type} {R R2 : Rp α} {S : Rp β}
theorem ev_eqG [DecidableEq α] {enc : α → PyData} {k : Nat} [En K R enc] [En K R2 enc] [Nice enc k] [Mo R] [Mo R2] {x y : α} (hk : k ≤ 64) (ha : EvP K ta σ G R x) (hb : EvP K tb σ G R2 y) : Ev K (tOp (rEqD K) ta tb) σ G (.bl (decide (x = y))) :=
  ev_opR ha hb fun a b G2 _ ra rb H2 e2 Q q => ⟨enc x, enc y, dp_mono e2.ex _ _ (En.dp ra), dp_mono e2.ex _ _ (En.dp rb), shaped_of (K := K) hk ra, shaped_of (K := K) hk rb, by rw [eqv_dec]; exact q⟩
theorem ev_neG [DecidableEq α] {enc : α → PyData} {k : Nat} [En K R enc] [En K R2 enc] [Nice enc k] [Mo R] [Mo R2] {x y : α} (hk : k ≤ 64) (ha : EvP K ta σ G R x) (hb : EvP K tb σ G R2 y) : Ev K (tOp (rNeD K) ta tb) σ G (.bl (!decide (x = y))) :=
  ev_opR ha hb fun a b G2 _ ra rb H2 e2 Q q => ⟨enc x, enc y, dp_mono e2.ex _ _ (En.dp ra), dp_mono e2.ex _ _ (En.dp rb), shaped_of (K := K) hk ra, shaped_of (K := K) hk rb, by rw [eqv_dec]; exact q⟩
/-- x in xs, of data -/
theorem any_eqv [DecidableEq α] {enc : α → PyData} {k : Nat} [Nice enc k] (x : α) : ∀ xs : List α, ((xs.map enc).any fun z => PyData.eqv z (enc x)) = decide (x ∈ xs)
  | [] => by simp
  | y :: ys => by
    rw [List.map_cons, List.any_cons, any_eqv x ys, eqv_dec, ← Bool.decide_or]
    exact decide_eq_decide.mpr (by rw [List.mem_cons, eq_comm])
theorem ev_inG [DecidableEq α] {enc : α → PyData} {k : Nat} [En K R enc] [En K R2 enc] [Nice enc k] [Mo R] [Mo R2] {x : α} {ys : List α} (hk : k + 1 ≤ 64) (ha : EvP K ta σ G R x) (hb : EvP K tb σ G (rL K R2) ys) : Ev K (tOp (rInD K) ta tb) σ G (.bl (decide (x ∈ ys))) :=
  ev_opR ha hb fun a b G2 _ ra rb H2 e2 Q q => ⟨enc x, ys.map enc, dp_mono e2.ex _ _ (En.dp ra), dp_mono e2.ex _ _ (En.dp (enc := eLi enc) rb), shaped_of (K := K) (by omega) ra, shaped_of (K := K) (e := eLi enc) hk rb, by rw [any_eqv]; exact q⟩
theorem ev_ninG [DecidableEq α] {enc : α → PyData} {k : Nat} [En K R enc] [En K R2 enc] [Nice enc k] [Mo R] [Mo R2] {x : α} {ys : List α} (hk : k + 1 ≤ 64) (ha : EvP K ta σ G R x) (hb : EvP K tb σ G (rL K R2) ys) : Ev K (tOp (rNotInD K) ta tb) σ G (.bl (!decide (x ∈ ys))) :=
  ev_opR ha hb fun a b G2 _ ra rb H2 e2 Q q => ⟨enc x, ys.map enc, dp_mono e2.ex _ _ (En.dp ra), dp_mono e2.ex _ _ (En.dp (enc := eLi enc) rb), shaped_of (K := K) (by omega) ra, shaped_of (K := K) (e := eLi enc) hk rb, by rw [any_eqv]; exact q⟩
theorem er_nil : EvP K (tLst tNil) σ G (rL K R) ([] : List α) := fun H e Q q => ⟨Nat.zero_le _, fun p hp => q (.ref p) _ _ (Gr.new e hp) ⟨p, [], rfl, SqL.of upd_same, trivial⟩⟩
/-- xs != [] -/
theorem ev_ne_nil [DecidableEq α] {enc : α → PyData} {k : Nat} [En K R enc] [Nice enc k] [Mo R] {xs : List α} (hk : k + 1 ≤ 64) (ha : EvP K ta σ G (rL K R) xs) : Ev K (tOp (rNeD K) ta (tLst tNil)) σ G (.bl (!decide (xs = []))) :=
  ev_neG (enc := eLi enc) hk ha (er_nil (R := R))
/-! a comparison of scalars -/
theorem ev_eqv {x y : V} (hs : scal x y = true) (ha : Ev K ta σ G x) (hb : Ev K tb σ G y) : Ev K (tOp rEq ta tb) σ G (.bl (decide (x = y))) :=
  ev_opR (er_of (R := fun v _ => v = x) ha rfl) (er_of (R := fun v _ => v = y) hb rfl) fun a b G2 _ ra rb H2 e2 Q q => by rw [show a = x from ra, show b = y from rb]; exact ⟨hs, q⟩
theorem ev_eqs {x y : Str} (ha : Ev K ta σ G (.str x)) (hb : Ev K tb σ G (.str y)) : Ev K (tOp rEq ta tb) σ G (.bl (decide (x = y))) := ev_is (ev_eqv rfl ha hb) (by congr 1; exact decide_eq_decide.mpr ⟨fun h => V.str.inj h, fun h => by rw [h]⟩)
theorem ev_eqi {x y : Int} (ha : Ev K ta σ G (.int x)) (hb : Ev K tb σ G (.int y)) : Ev K (tOp rEq ta tb) σ G (.bl (decide (x = y))) := ev_is (ev_eqv rfl ha hb) (by congr 1; exact decide_eq_decide.mpr ⟨fun h => V.int.inj h, fun h => by rw [h]⟩)
theorem ev_int2 {g : Int → Int → V} {i j : Int} (ha : Ev K ta σ G (.int i)) (hb : Ev K tb σ G (.int j)) : Ev K (tOp (rI0 g) ta tb) σ G (g i j) :=
  ev_opR (er_of (R := fun v _ => v = .int i) ha rfl) (er_of (R := fun v _ => v = .int j) hb rfl) fun a b G2 _ ra rb H2 e2 Q q => ⟨i, j, ra, rb, q⟩
theorem ev_int2C {C : Int → Int → Prop} {g : Int → Int → V} {i j : Int} (ha : Ev K ta σ G (.int i)) (hb : Ev K tb σ G (.int j)) (hc : C i j) : Ev K (tOp (L2.rI C g) ta tb) σ G (g i j) :=
  ev_opR (er_of (R := fun v _ => v = .int i) ha rfl) (er_of (R := fun v _ => v = .int j) hb rfl) fun a b G2 _ ra rb H2 e2 Q q => ⟨i, j, ra, rb, hc, q⟩
/-! None -/
class NN {α : Type} (R : Rp α) : Prop where
  nn : ∀ {x : α} {v : V} {H : Hp}, R x v H → v ≠ .non
instance : NN rS := ⟨fun h z => by rw [h.1] at z; cases z⟩
instance [Mo R] : NN (rL K R) := ⟨fun ⟨_, _, h, _⟩ z => by rw [h] at z; cases z⟩
instance {H0 : Hp} : NN (rF H0 R) := ⟨fun ⟨_, _, h, _⟩ z => by rw [h] at z; cases z⟩
instance : NN (rP K R S) := ⟨fun ⟨_, _, _, h, _⟩ z => by rw [h] at z; cases z⟩
theorem isN_of [NN R] {o : Option α} {v : V} {H : Hp} (h : rO R o v H) : decide (v = .non) = o.isNone := by
  cases o with
  | none => exact decide_eq_true h
  | some x => exact decide_eq_false (NN.nn (R := R) h)
theorem ev_isN [Mo R] [NN R] {o : Option α} (ha : EvP K ta σ G (rO R) o) : Ev K (tOp (fun x y H Q => y = .non ∧ Q (.bl (decide (x = .non))) H) ta (tC .non)) σ G (.bl o.isNone) :=
  ev_opR ha (er_of (R := fun v _ => v = .non) ev_c rfl) fun a b G2 _ ra rb H2 e2 Q q => ⟨rb, by rw [isN_of ra]; exact q⟩
theorem ev_notN [Mo R] [NN R] {o : Option α} (ha : EvP K ta σ G (rO R) o) : Ev K (tOp (fun x y H Q => y = .non ∧ Q (.bl (!decide (x = .non))) H) ta (tC .non)) σ G (.bl o.isSome) :=
  ev_opR ha (er_of (R := fun v _ => v = .non) ev_c rfl) fun a b G2 _ ra rb H2 e2 Q q => ⟨rb, by rw [isN_of ra]; cases o <;> exact q⟩
/-! items -/
theorem er_ix {xs : List α} {x : α} {i : Nat} [Mo R] (ha : EvP K ta σ G (rL K R) xs) (hb : Ev K tb σ G (.int (i : Int))) (h : xs[i]? = some x) : EvP K (tOp (rIxL K) ta tb) σ G R x :=
  er_op ha (er_of (R := fun v _ => v = .int (i : Int)) hb rfl) fun a b G2 _ ⟨l, vs, e1, h1, h2⟩ rb H2 e2 Q q => by
    obtain ⟨v, ev, rv⟩ := h2.got h
    exact ⟨l, vs, i, v, e1, rb, ex_l e2.ex h1, atI_nat ev, q v G2 H2 (Gr.refl e2) rv⟩
theorem er_ixP1 {p : α × β} [Mo R] [Mo S] (ha : EvP K ta σ G (rP K R S) p) : EvP K (tOp (rIxT K) ta (tC (.int 0))) σ G R p.1 :=
  er_op ha (er_of (R := fun v _ => v = .int 0) ev_c rfl) fun a b G2 _ ⟨l, u, w, e1, h1, h2, h3⟩ rb H2 e2 Q q => ⟨l, _, 0, u, e1, rb, ex_t e2.ex h1, atI_nat (j := 0) rfl, q u G2 H2 (Gr.refl e2) h2⟩
theorem er_ixP2 {p : α × β} [Mo R] [Mo S] (ha : EvP K ta σ G (rP K R S) p) : EvP K (tOp (rIxT K) ta (tC (.int 1))) σ G S p.2 :=
  er_op ha (er_of (R := fun v _ => v = .int 1) ev_c rfl) fun a b G2 _ ⟨l, u, w, e1, h1, h2, h3⟩ rb H2 e2 Q q => ⟨l, _, 1, w, e1, rb, ex_t e2.ex h1, atI_nat (j := 1) rfl, q w G2 H2 (Gr.refl e2) h3⟩
theorem ev_len {xs : List α} (h : EvP K te σ G (rL K R) xs) : Ev K (tCB (Evl.rLenS K) (tCons te tNil)) σ G (.int (xs.length : Int)) :=
  ev_cb1 h fun x G2 _ ⟨a, vs, e1, h1, h2⟩ H2 e2 Q q => ⟨a, vs, by rw [e1], .inl (ex_l e2.ex h1), by rw [← h2.length]; exact q⟩
/-! tuples of two, lists of one -/
theorem er_pair {p : α × β} [Mo R] [Mo S] (ha : EvP K ta σ G R p.1) (hb : EvP K tb σ G S p.2) : EvP K (tTup (tCons ta (tCons tb tNil))) σ G (rP K R S) p :=
  (er_tup (eb_cons ha (eb_one hb)) (fun vs G2 ⟨v, r, e, _, w, e2, _⟩ => by rw [e, e2]; exact (by decide : 2 ≤ 10000000))).imp fun v G2 _ ⟨q, vs, e, h, u, r, e1, r1, w, e2, r2⟩ => ⟨q, u, w, e, SqT.of (by rw [← e2, ← e1]; exact h), r1, r2⟩
theorem en_one {x : α} [Mo R] (ha : EvP K ta σ G R x) : EvN K (tLst (tCons ta tNil)) σ G (AllR R [x]) :=
  (en_lst (eb_one ha) (fun vs G2 ⟨v, e, _⟩ => by rw [e]; exact (by decide : 1 ≤ 10000000))).imp fun vs G2 _ ⟨v, e, r⟩ => by rw [e]; exact ⟨r, trivial⟩
/-! sorted -/
theorem en_sortS {enc : α → PyData} [En K R enc] [Mo R] {xs : List α} (ok : SortOk enc xs) (h : EvR K te σ G (fun v G2 => ∃ ws, Src K G2 v ws ∧ AllR R xs ws G2)) : EvN K (tCB (rSortG K R enc) (tCons te tNil)) σ G (AllR R (so enc xs)) :=
  en_cb1 h fun x G2 _ ⟨ws, src, ha⟩ H2 e2 Q q => ⟨x, ws, xs, G2, rfl, by
    rcases src with ⟨a, h1, h2⟩ | ⟨a, h1, h2⟩ | ⟨a, kvs, h1, h2, h3⟩
    · exact .inl ⟨a, h1, ex_l e2.ex h2⟩
    · exact .inr (.inl ⟨a, h1, ex_t e2.ex h2⟩)
    · exact .inr (.inr ⟨a, kvs, h1, e2.ex.rd (fun _ z => by cases z) h2, h3⟩), e2.ex, ha, ok, fun p ws' hp h3 => q p ws' hp h3⟩
theorem en_sort {enc : α → PyData} [En K R enc] [Mo R] {xs : List α} (ok : SortOk enc xs) (h : EvP K te σ G (rL K R) xs) : EvN K (tCB (rSortG K R enc) (tCons te tNil)) σ G (AllR R (so enc xs)) :=
  en_sortS ok (h.imp fun v G2 _ ⟨a, vs, h1, h2, h3⟩ => ⟨vs, .inl ⟨a, h1, h2⟩, h3⟩)
theorem en_sortQ {enc : α → PyData} [En K R enc] [Mo R] {xs : List α} (ok : SortOk enc xs) (h : EvP K te σ G (rQ K R) xs) : EvN K (tCB (rSortG K R enc) (tCons te tNil)) σ G (AllR R (so enc xs)) :=
  en_sortS ok (h.imp fun v G2 _ h => h.elim (fun ⟨a, vs, h1, h2, h3⟩ => ⟨vs, .inl ⟨a, h1, h2⟩, h3⟩) fun ⟨a, vs, h1, h2, h3⟩ => ⟨vs, .inr (.inl ⟨a, h1, h2⟩), h3⟩)
/-! calls of defs whose promise has one shape, arguments one by one -/
abbrev A1 (R : Rp α) (x : α) : List V → Hp → Prop := fun vs G => ∃ v, vs = [v] ∧ R x v G
abbrev A2 (R : Rp α) (S : Rp β) (x : α) (y : β) : List V → Hp → Prop := fun vs G => ∃ v w, vs = [v, w] ∧ R x v G ∧ S y w G
abbrev A3 {γ : Type} (R : Rp α) (S : Rp β) (T : Rp γ) (x : α) (y : β) (z : γ) : List V → Hp → Prop := fun vs G => ∃ v w u, vs = [v, w, u] ∧ R x v G ∧ S y w G ∧ T z u G
theorem eb_a2 {x : α} {y : β} [Mo R] [Mo S] (ha : EvP K ta σ G R x) (hb : EvP K tb σ G S y) : EvB K (tCons ta (tCons tb tNil)) σ G (A2 R S x y) := fun H e Q q => eb_cons ha (eb_one hb) H e Q fun vs G2 H2 g ⟨v, r, e1, r1, w, e2, r2⟩ => q vs G2 H2 g ⟨v, w, by rw [e1, e2], r1, r2⟩
theorem eb_a3 {γ : Type} {T : Rp γ} {tc : TE} {x : α} {y : β} {z : γ} [Mo R] [Mo S] [Mo T] (ha : EvP K ta σ G R x) (hb : EvP K tb σ G S y) (hc : EvP K tc σ G T z) : EvB K (tCons ta (tCons tb (tCons tc tNil))) σ G (A3 R S T x y z) := fun H e Q q =>
  eb_cons ha (eb_cons hb (eb_one hc)) H e Q fun vs G2 H2 g ⟨v, r, e1, r1, w, r', e2, r2, u, e3, r3⟩ => q vs G2 H2 g ⟨v, w, u, by rw [e1, e2, e3], r1, r2, r3⟩
end
end Ob
set_option maxRecDepth 100000
set_option maxHeartbeats 4000000
/-! Kd1: the law's own defs that make nothing but answers, first part. -/
namespace Ob
open PySem PySem.Spec PyProof.Rows L2
theorem spg_len {K : PySem.W.Frag} {ι : Type} {pre : ι → List V → Hp → Prop} {post : ι → Hp → V → Hp → Prop} {n : Nat} (h : ∀ i vs G, pre i vs G → vs.length = n) : ∀ vs H Q E, SpG K pre post vs H Q E → vs.length = n := fun vs H Q E ⟨i, G, _, p, _⟩ => h i vs G p
section
variable {K : PySem.W.Frag} {σ : L2.St} {G : Hp} {ι : Type}
theorem ev_call {ta : TA} {pre : ι → List V → Hp → Prop} {post : ι → Hp → V → Hp → Prop} {E : XK} {A : List V → Hp → Prop} {z : V} (i : ι) (h : EvB K ta σ G A) (hp : ∀ vs G2, Ex G G2 → A vs G2 → pre i vs G2) (hz : ∀ Gc v G2, post i Gc v G2 → v = z) :
    Ev K (tCall (SpG K pre post) [] E ta) σ G z := ev_of ((er_call i h hp).imp fun v G2 _ ⟨Gc, _, p⟩ => hz Gc v G2 p)
end
section
variable {P : Program} {w : World} {K : PySem.W.Frag} {mg : Str → Option Value} {base : Heap}
abbrev N_l_d_within : List Str := ["_law_lot", "_law_other", "_law_name"]
theorem sc_l_d_within : FnScope N_l_d_within ["_law_lot", "_law_other"] (defScope s_l_d_within) := ⟨rfl, rfl, rfl, by decide +kernel, rfl, by decide +kernel, by decide +kernel⟩
def spWithin (K : PySem.W.Frag) : Sp := SpG K (ι := Lot × Lot) (fun i vs G => A2 (rL K rS) (rL K rS) i.1 i.2 vs G ∧ i.1.length ≤ 1000) (fun i _ v _ => v = .bl (within i.1 i.2))
theorem cal_l_d_within (T : Txt K mg) : Cal P w K mg base CX0 1 "_law_d_within" ["_law_lot", "_law_other"] (spWithin K) := by
  refine cal_mk T.g_l_d_within sc_l_d_within (fun _ _ _ _ _ _ us hl => match us, hl with | [_, _], _ => rfl) (spg_len fun i vs G ⟨⟨_, _, e, _⟩, _⟩ => by rw [e]; rfl) (fun f cdv A outer s H vs Q E hr h => ?_)
  obtain ⟨⟨xs, ys⟩, G, eG, ⟨⟨a, b, rfl, hx, hy⟩, hz⟩, q⟩ := h
  refine ⟨_, (pss_one (ps_ret (pe_callB (xall K) (by rfl) T.m_all boot_all (pa_cons (pe_lc (own := [("_law_name", 2)]) (g := gName 2) rfl sc_l_d_within.nd (xlist K (pv 0)) (blkOk_by (own := [("_law_name", 2)]) (N := N_l_d_within) (by kernel_rfl)) (fun _ _ _ _ _ => pg_name (i := 2) sc_l_d_within.nd rfl (by first | exact Or.inl rfl | exact Or.inr rfl)) (fun _ _ _ _ _ => pts_nil) (fun _ _ _ _ _ => (pe_cmpR (xin K) (pv 2) (pv 1) (by rfl)))) pa_nil)))), ?_⟩
  exact sv_ret eG (ev_allN (R := rS) (fun x => decide (x ∈ ys)) (ew_list (er_var rfl hx)) (by omega) (fun _ => rfl) fun x _ v G2 e1 r => ev_ins (ev_strv r rfl) (er_var rfl (Mo.mo e1 hy))) fun H2 g => q _ G H2 g rfl

abbrev rPs (K : PySem.W.Frag) : Rp (List Pr) := rL K (rP K rS rS)
abbrev N_l_d_objectors : List Str := ["_law_pairs", "_law_name", "_law_one", "_law_other"]
theorem sc_l_d_objectors : FnScope N_l_d_objectors ["_law_pairs", "_law_name"] (defScope s_l_d_objectors) := ⟨rfl, rfl, rfl, by decide +kernel, rfl, by decide +kernel, by decide +kernel⟩
def spObjs (K : PySem.W.Frag) : Sp := SpG K (ι := List Pr × Str) (fun i vs G => A2 (rPs K) rS i.1 i.2 vs G ∧ i.1.length ≤ 10000) (fun i _ v G2 => rL K rS (objsL i.1 i.2) v G2)
theorem tg_pr {i j : Nat} {x : V} {p : Pr} {σ : L2.St} {G H : Hp} {Pz : L2.St → Prop} (r : rP K rS rS p x G) (e : Ex G H) (h : Pz ((σ.set i (some (.str p.1))).set j (some (.str p.2)))) : Tg (gTup K 2 (gCons (gName i) (gCons (gName j) gNil))) x σ H Pz := by
  obtain ⟨a, u, w, rfl, h1, h2, h3⟩ := r
  rw [h2.1, h3.1] at h1
  exact tg_tup2 (ex_t e h1) h
theorem prok {p : Pr} {x : V} {G : Hp} (r : rP K rS rS p x G) : PyData.strOk p.1 = true ∧ PyData.strOk p.2 = true := let ⟨_, _, _, _, _, h2, h3⟩ := r; ⟨h2.2, h3.2⟩
theorem cal_l_d_objectors (T : Txt K mg) : Cal P w K mg base CX0 1 "_law_d_objectors" ["_law_pairs", "_law_name"] (spObjs K) := by
  refine cal_mk T.g_l_d_objectors sc_l_d_objectors (fun _ _ _ _ _ _ us hl => match us, hl with | [_, _], _ => rfl) (spg_len fun i vs G ⟨⟨_, _, e, _⟩, _⟩ => by rw [e]; rfl) (fun f cdv A outer s H vs Q E hr h => ?_)
  obtain ⟨⟨ps, x⟩, G, eG, ⟨⟨a, b, rfl, hx, hy⟩, hz⟩, q⟩ := h
  have hz : ps.length ≤ 10000 := hz
  refine ⟨_, (pss_one (ps_ret (pe_callB (xsort K rS hr.units) (by rfl) T.m_sorted boot_sorted (pa_cons (pe_lc (own := [("_law_one", 2), ("_law_other", 3)]) (g := gTup K 2 (gCons (gName 2) (gCons (gName 3) gNil))) rfl sc_l_d_objectors.nd (xlist K (pv 0)) (blkOk_by (own := [("_law_one", 2), ("_law_other", 3)]) (N := N_l_d_objectors) (by kernel_rfl)) (fun _ _ _ _ _ => xgtup K (pgs_cons (pg_name (i := 2) sc_l_d_objectors.nd rfl (by first | exact Or.inl rfl | exact Or.inr rfl)) (pgs_cons (pg_name (i := 3) sc_l_d_objectors.nd rfl (by first | exact Or.inl rfl | exact Or.inr rfl)) pgs_nil))) (fun _ _ _ _ _ => pts_one (pt_cmpR op_eq (pv 3) (pv 1) (nomark _))) (fun _ _ _ _ _ => (pv 2))) pa_nil)))), ?_⟩
  refine sr_ret eG (EvN.l (en_sort (ok_str ?_) (EvN.l (en_lc (S := rS) (fun p : Pr => decide (p.2 = x)) (fun p : Pr => p.1) (ew_list (er_var rfl hx)) (by omega) fun p _ v G2 H2 e1 e2 r => tg_pr r e2.ex ⟨rfl, ?_, fun _ => ?_⟩)))) fun v G2 H2 g r => q v G2 H2 g r
  · rw [List.length_map]
    exact Nat.le_trans (List.length_filter_le _ _) (by omega)
  · exact et_cmp (ev_eqs (ev_var rfl) (ev_strv (Mo.mo e1 hy) rfl))
  · exact er_var rfl ⟨rfl, (prok r).1⟩

abbrev N_l_d_hits : List Str := ["_law_pairs", "_law_lot", "_law_name", "_law_one"]
theorem sc_l_d_hits : FnScope N_l_d_hits ["_law_pairs", "_law_lot", "_law_name"] (defScope s_l_d_hits) := ⟨rfl, rfl, rfl, by decide +kernel, rfl, by decide +kernel, by decide +kernel⟩
def spHits (K : PySem.W.Frag) : Sp := SpG K (ι := List Pr × Lot × Str) (fun i vs G => A3 (rPs K) (rL K rS) rS i.1 i.2.1 i.2.2 vs G ∧ i.1.length ≤ 10000) (fun i _ v _ => v = .bl (hitsL i.1 i.2.1 i.2.2))
theorem cal_l_d_hits (T : Txt K mg) : Cal P w K mg base CX0 2 "_law_d_hits" ["_law_pairs", "_law_lot", "_law_name"] (spHits K) := by
  refine cal_mk T.g_l_d_hits sc_l_d_hits (fun _ _ _ _ _ _ us hl => match us, hl with | [_, _, _], _ => rfl) (spg_len fun i vs G ⟨⟨_, _, _, e, _⟩, _⟩ => by rw [e]; rfl) (fun f cdv A outer s H vs Q E hr h => ?_)
  obtain ⟨⟨ps, L, x⟩, G, eG, ⟨⟨a, b, c, rfl, hp, hl, hx⟩, hz⟩, q⟩ := h
  have hz : ps.length ≤ 10000 := hz
  refine ⟨_, (pss_one (ps_ret (pe_callB (xany K) (by rfl) T.m_any boot_any (pa_cons (pe_lc (own := [("_law_one", 3)]) (g := gName 3) rfl sc_l_d_hits.nd (xlist K (pe_cal (cal_l_d_objectors T) (hr.mono (by decide)) (by rfl) pass0 (pa_cons (pv 0) (pa_cons (pv 2) pa_nil)))) (blkOk_by (own := [("_law_one", 3)]) (N := N_l_d_hits) (by kernel_rfl)) (fun _ _ _ _ _ => pg_name (i := 3) sc_l_d_hits.nd rfl (by first | exact Or.inl rfl | exact Or.inr rfl)) (fun _ _ _ _ _ => pts_nil) (fun _ _ _ _ _ => (pe_cmpR (xin K) (pv 3) (pv 1) (by rfl)))) pa_nil)))), ?_⟩
  refine sv_ret eG (ev_anyN (R := rS) (xs := objsL ps x) (fun o => decide (o ∈ L)) (ew_list ((er_call (ps, x) (eb_a2 (er_var rfl hp) (er_var rfl hx)) (fun vs G2 _ h => ⟨h, hz⟩)).imp fun v G2 _ ⟨_, _, p⟩ => p)) (by have := objsL_len ps x; omega) (fun _ => rfl) fun o _ v G2 e1 r => ev_ins (ev_strv r rfl) (er_var rfl (Mo.mo e1 hl))) fun H2 g => q _ G H2 g rfl

abbrev N_l_d_answers : List Str := ["_law_pairs", "_law_lot", "_law_name", "_law_one"]
theorem sc_l_d_answers : FnScope N_l_d_answers ["_law_pairs", "_law_lot", "_law_name"] (defScope s_l_d_answers) := ⟨rfl, rfl, rfl, by decide +kernel, rfl, by decide +kernel, by decide +kernel⟩
def spAnswers (K : PySem.W.Frag) : Sp := SpG K (ι := List Pr × Lot × Str) (fun i vs G => A3 (rPs K) (rL K rS) rS i.1 i.2.1 i.2.2 vs G ∧ i.1.length ≤ 10000) (fun i _ v _ => v = .bl (answersL i.1 i.2.1 i.2.2))
theorem cal_l_d_answers (T : Txt K mg) : Cal P w K mg base CX0 3 "_law_d_answers" ["_law_pairs", "_law_lot", "_law_name"] (spAnswers K) := by
  refine cal_mk T.g_l_d_answers sc_l_d_answers (fun _ _ _ _ _ _ us hl => match us, hl with | [_, _, _], _ => rfl) (spg_len fun i vs G ⟨⟨_, _, _, e, _⟩, _⟩ => by rw [e]; rfl) (fun f cdv A outer s H vs Q E hr h => ?_)
  obtain ⟨⟨ps, L, x⟩, G, eG, ⟨⟨a, b, c, rfl, hp, hl, hx⟩, hz⟩, q⟩ := h
  have hz : ps.length ≤ 10000 := hz
  refine ⟨_, (pss_one (ps_ret (pe_callB (xall K) (by rfl) T.m_all boot_all (pa_cons (pe_lc (own := [("_law_one", 3)]) (g := gName 3) rfl sc_l_d_answers.nd (xlist K (pe_cal (cal_l_d_objectors T) (hr.mono (by decide)) (by rfl) pass0 (pa_cons (pv 0) (pa_cons (pv 2) pa_nil)))) (blkOk_by (own := [("_law_one", 3)]) (N := N_l_d_answers) (by kernel_rfl)) (fun _ _ _ _ _ => pg_name (i := 3) sc_l_d_answers.nd rfl (by first | exact Or.inl rfl | exact Or.inr rfl)) (fun _ _ _ _ _ => pts_nil) (fun _ _ _ _ _ => (pe_cal (cal_l_d_hits T) (hr.mono (by decide)) (by rfl) pass0 (pa_cons (pv 0) (pa_cons (pv 1) (pa_cons (pv 3) pa_nil)))))) pa_nil)))), ?_⟩
  refine sv_ret eG (ev_allN (R := rS) (xs := objsL ps x) (fun o => hitsL ps L o) (ew_list ((er_call (ps, x) (eb_a2 (er_var rfl hp) (er_var rfl hx)) (fun vs G2 _ h => ⟨h, hz⟩)).imp fun v G2 _ ⟨_, _, p⟩ => p)) (by have := objsL_len ps x; omega) (fun _ => rfl) fun o _ v G2 e1 r => ev_call (ps, L, o) (eb_a3 (er_var rfl (Mo.mo e1 hp)) (er_var rfl (Mo.mo e1 hl)) (er_var rfl r)) (fun vs G2 _ h => ⟨h, hz⟩) (fun _ _ _ p => p)) fun H2 g => q _ G H2 g rfl

abbrev N_l_d_answered : List Str := ["_law_names", "_law_pairs", "_law_lot", "_law_name"]
theorem sc_l_d_answered : FnScope N_l_d_answered ["_law_names", "_law_pairs", "_law_lot"] (defScope s_l_d_answered) := ⟨rfl, rfl, rfl, by decide +kernel, rfl, by decide +kernel, by decide +kernel⟩
def spAnsweredL (K : PySem.W.Frag) : Sp := SpG K (ι := Lot × List Pr × Lot) (fun i vs G => A3 (rL K rS) (rPs K) (rL K rS) i.1 i.2.1 i.2.2 vs G ∧ i.1.length ≤ 1000 ∧ i.2.1.length ≤ 10000) (fun i _ v G2 => rL K rS (answeredL i.1 i.2.1 i.2.2) v G2)
theorem cal_l_d_answered (T : Txt K mg) : Cal P w K mg base CX0 4 "_law_d_answered" ["_law_names", "_law_pairs", "_law_lot"] (spAnsweredL K) := by
  refine cal_mk T.g_l_d_answered sc_l_d_answered (fun _ _ _ _ _ _ us hl => match us, hl with | [_, _, _], _ => rfl) (spg_len fun i vs G ⟨⟨_, _, _, e, _⟩, _⟩ => by rw [e]; rfl) (fun f cdv A outer s H vs Q E hr h => ?_)
  obtain ⟨⟨N, ps, L⟩, G, eG, ⟨⟨a, b, c, rfl, hn, hp, hl⟩, hz1, hz⟩, q⟩ := h
  have hz : ps.length ≤ 10000 := hz
  have hz1 : N.length ≤ 1000 := hz1
  refine ⟨_, (pss_one (ps_ret (pe_callB (xsort K rS hr.units) (by rfl) T.m_sorted boot_sorted (pa_cons (pe_lc (own := [("_law_name", 3)]) (g := gName 3) rfl sc_l_d_answered.nd (xlist K (pv 0)) (blkOk_by (own := [("_law_name", 3)]) (N := N_l_d_answered) (by kernel_rfl)) (fun _ _ _ _ _ => pg_name (i := 3) sc_l_d_answered.nd rfl (by first | exact Or.inl rfl | exact Or.inr rfl)) (fun _ _ _ _ _ => pts_one (pt_val (pe_cal (cal_l_d_answers T) (hr.mono (by decide)) (by rfl) pass0 (pa_cons (pv 1) (pa_cons (pv 2) (pa_cons (pv 3) pa_nil)))))) (fun _ _ _ _ _ => (pv 3))) pa_nil)))), ?_⟩
  refine sr_ret eG (EvN.l (en_sort (ok_str ?_) (EvN.l (en_lcN (R := rS) (S := rS) (answersL ps L) (fun x => x) (ew_list (er_var rfl hn)) (by omega) (fun _ => rfl) fun x _ v G2 e1 r => ⟨et_val (ev_call (ps, L, x) (eb_a3 (er_var rfl (Mo.mo e1 hp)) (er_var rfl (Mo.mo e1 hl)) (er_var rfl r)) (fun vs G2 _ h => ⟨h, hz⟩) (fun _ _ _ p => p)), fun _ => er_var rfl r⟩)))) fun v G2 H2 g r => q v G2 H2 g ?_
  · rw [List.length_map]
    exact Nat.le_trans (List.length_filter_le _ _) (by omega)
  · rw [List.map_id'] at r
    exact r

abbrev N_l_d_is_calm : List Str := ["_law_pairs", "_law_lot", "_law_one", "_law_other"]
theorem sc_l_d_is_calm : FnScope N_l_d_is_calm ["_law_pairs", "_law_lot"] (defScope s_l_d_is_calm) := ⟨rfl, rfl, rfl, by decide +kernel, rfl, by decide +kernel, by decide +kernel⟩
def spCalmL (K : PySem.W.Frag) : Sp := SpG K (ι := List Pr × Lot) (fun i vs G => A2 (rPs K) (rL K rS) i.1 i.2 vs G ∧ i.1.length ≤ 10000) (fun i _ v _ => v = .bl (calmL i.1 i.2))
theorem cal_l_d_is_calm (T : Txt K mg) : Cal P w K mg base CX0 1 "_law_d_is_calm" ["_law_pairs", "_law_lot"] (spCalmL K) := by
  refine cal_mk T.g_l_d_is_calm sc_l_d_is_calm (fun _ _ _ _ _ _ us hl => match us, hl with | [_, _], _ => rfl) (spg_len fun i vs G ⟨⟨_, _, e, _⟩, _⟩ => by rw [e]; rfl) (fun f cdv A outer s H vs Q E hr h => ?_)
  obtain ⟨⟨ps, L⟩, G, eG, ⟨⟨a, b, rfl, hp, hl⟩, hz⟩, q⟩ := h
  have hz : ps.length ≤ 10000 := hz
  refine ⟨_, (pss_one (ps_ret (pe_not (pe_callB (xany K) (by rfl) T.m_any boot_any (pa_cons (pe_lc (own := [("_law_one", 2), ("_law_other", 3)]) (g := gTup K 2 (gCons (gName 2) (gCons (gName 3) gNil))) rfl sc_l_d_is_calm.nd (xlist K (pv 0)) (blkOk_by (own := [("_law_one", 2), ("_law_other", 3)]) (N := N_l_d_is_calm) (by kernel_rfl)) (fun _ _ _ _ _ => xgtup K (pgs_cons (pg_name (i := 2) sc_l_d_is_calm.nd rfl (by first | exact Or.inl rfl | exact Or.inr rfl)) (pgs_cons (pg_name (i := 3) sc_l_d_is_calm.nd rfl (by first | exact Or.inl rfl | exact Or.inr rfl)) pgs_nil))) (fun _ _ _ _ _ => pts_nil) (fun _ _ _ _ _ => (pe_and (pe_cmpR (xin K) (pv 2) (pv 1) (by rfl)) (pe_one (pe_cmpR (xin K) (pv 3) (pv 1) (by rfl)))))) pa_nil))))), ?_⟩
  exact sv_ret eG (ev_not (ev_anyc (R := rP K rS rS) (fun p => decide (p.1 ∈ L) && decide (p.2 ∈ L)) (ew_list (er_var rfl hp)) (by omega) fun p _ v G2 H2 e1 e2 r => tg_pr r e2.ex ⟨rfl, ev_and (ev_ins (ev_var rfl) (er_var rfl (Mo.mo e1 hl))) fun _ => ev_ins (ev_var rfl) (er_var rfl (Mo.mo e1 hl))⟩)) fun H2 g => q _ G H2 g rfl

abbrev N_l_d_is_held : List Str := ["_law_pairs", "_law_lot", "_law_name"]
theorem sc_l_d_is_held : FnScope N_l_d_is_held ["_law_pairs", "_law_lot"] (defScope s_l_d_is_held) := ⟨rfl, rfl, rfl, by decide +kernel, rfl, by decide +kernel, by decide +kernel⟩
def spHeldL (K : PySem.W.Frag) : Sp := SpG K (ι := List Pr × Lot) (fun i vs G => A2 (rPs K) (rL K rS) i.1 i.2 vs G ∧ i.1.length ≤ 10000 ∧ i.2.length ≤ 1000) (fun i _ v _ => v = .bl (heldL i.1 i.2))
theorem cal_l_d_is_held (T : Txt K mg) : Cal P w K mg base CX0 4 "_law_d_is_held" ["_law_pairs", "_law_lot"] (spHeldL K) := by
  refine cal_mk T.g_l_d_is_held sc_l_d_is_held (fun _ _ _ _ _ _ us hl => match us, hl with | [_, _], _ => rfl) (spg_len fun i vs G ⟨⟨_, _, e, _⟩, _⟩ => by rw [e]; rfl) (fun f cdv A outer s H vs Q E hr h => ?_)
  obtain ⟨⟨ps, L⟩, G, eG, ⟨⟨a, b, rfl, hp, hl⟩, hz, hz2⟩, q⟩ := h
  have hz : ps.length ≤ 10000 := hz
  have hz2 : L.length ≤ 1000 := hz2
  refine ⟨_, (pss_one (ps_ret (pe_and (pe_cal (cal_l_d_is_calm T) (hr.mono (by decide)) (by rfl) pass0 (pa_cons (pv 0) (pa_cons (pv 1) pa_nil))) (pe_one (pe_callB (xall K) (by rfl) T.m_all boot_all (pa_cons (pe_lc (own := [("_law_name", 2)]) (g := gName 2) rfl sc_l_d_is_held.nd (xlist K (pv 1)) (blkOk_by (own := [("_law_name", 2)]) (N := N_l_d_is_held) (by kernel_rfl)) (fun _ _ _ _ _ => pg_name (i := 2) sc_l_d_is_held.nd rfl (by first | exact Or.inl rfl | exact Or.inr rfl)) (fun _ _ _ _ _ => pts_nil) (fun _ _ _ _ _ => (pe_cal (cal_l_d_answers T) (hr.mono (by decide)) (by rfl) pass0 (pa_cons (pv 0) (pa_cons (pv 1) (pa_cons (pv 2) pa_nil)))))) pa_nil)))))), ?_⟩
  exact sv_ret eG (ev_and (ev_call (ps, L) (eb_a2 (er_var rfl hp) (er_var rfl hl)) (fun vs G2 _ h => ⟨h, hz⟩) (fun _ _ _ p => p)) fun _ => ev_allN (R := rS) (answersL ps L) (ew_list (er_var rfl hl)) (by omega) (fun _ => rfl) fun x _ v G2 e1 r =>
    ev_call (ps, L, x) (eb_a3 (er_var rfl (Mo.mo e1 hp)) (er_var rfl (Mo.mo e1 hl)) (er_var rfl r)) (fun vs G2 _ h => ⟨h, hz⟩) (fun _ _ _ p => p)) fun H2 g => q _ G H2 g rfl
end
end Ob
set_option maxRecDepth 100000
set_option maxHeartbeats 4000000
/-! Kd2w: words for loops, for lists that grow. -/
namespace Ob
open PySem PySem.Spec PyProof.Rows L2
/-- G without p -/
def rm (G : Hp) (p : Addr) : Hp := fun b => if b = p then none else G b
theorem rm_same {G : Hp} {p : Addr} : rm G p p = none := if_pos rfl
theorem rm_ne {G : Hp} {p b : Addr} (h : b ≠ p) : rm G p b = G b := if_neg h
theorem ex_rm {G G2 : Hp} {p : Addr} (e : Ex G G2) (h : G p = none) : Ex G (rm G2 p) :=
  ⟨fun b o q n => by rw [rm_ne (ne_of_none q h)]; exact e.ob b o q n, fun b ps q => by rw [rm_ne (ne_of_none q h)]; exact e.tt b ps q, fun b q => by
    by_cases hb : b = p
    · rw [hb]; exact h
    · rw [rm_ne hb] at q; exact e.no b q⟩
theorem rm_ex {G H : Hp} {p : Addr} {o : HO} (e : Ex G H) : Ex (rm G p) (upd H p o) :=
  ⟨fun b u q n => by
    by_cases hb : b = p
    · rw [hb, rm_same] at q; cases q
    · rw [rm_ne hb] at q; rw [upd_ne hb]; exact e.ob b u q n, fun b ps q => by
    by_cases hb : b = p
    · rw [hb, rm_same] at q; cases q
    · rw [rm_ne hb] at q; rw [upd_ne hb]; exact e.tt b ps q, fun b q => by
    by_cases hb : b = p
    · rw [hb, upd_same] at q; cases q
    · rw [upd_ne hb] at q; rw [rm_ne hb]; exact e.no b q⟩
section
variable {K : PySem.W.Frag} {σ : L2.St} {G G1 H H1 : Hp} {ta tb te : TE} {α β ι : Type} {D : Ends} {tz tu : TS} {p : Addr} {vs : List V}
theorem kn_plus (e : Kn K G H) (h : H p = some (.lst vs)) : Kn K (upd G p (.lst vs)) H := ⟨⟨fun b o q n => by
    by_cases hb : b = p
    · rw [hb, upd_same] at q; cases q; rw [hb]; exact h
    · rw [upd_ne hb] at q; exact e.ex.ob b o q n, fun b ps q => by
    by_cases hb : b = p
    · rw [hb, upd_same] at q; cases q
    · rw [upd_ne hb] at q; exact e.ex.tt b ps q, fun b q => by
    by_cases hb : b = p
    · rw [hb] at q; rw [h] at q; cases q
    · rw [upd_ne hb]; exact e.ex.no b q⟩, e.tb⟩
/-- a list of ours (at p, unknown to G2) grows, behind an evaluation that knew it -/
theorem Gr.loop {G' H' G2 H2 : Hp} {o : HO} (g0 : Gr K G1 H1 G' H') (hp : G' p = none) (h1 : H1 p = none) (hl : H' p = some (.lst vs)) (g : Gr K (upd G' p (.lst vs)) H' G2 H2) : Gr K G1 H1 (rm G2 p) (upd H2 p o) ∧ Ex G' (rm G2 p) ∧ H2 p = some (.lst vs) := by
  have e1 : Ex G' G2 := (Ex.new hp).trans g.kk
  have l2 : H2 p = some (.lst vs) := g.hh.l hl
  refine ⟨⟨ex_rm (g0.kk.trans e1) (g0.kk.no _ hp), ⟨rm_ex g.kh, tb_lst g.kn.tb l2⟩, (g0.hh.trans g.hh).mut h1, fun b k1 k2 => ?_⟩, ex_rm e1 hp, l2⟩
  by_cases hb : b = p
  · rw [hb]; exact rm_same
  · rw [rm_ne hb]
    exact g.sp b (by rw [upd_ne hb]; exact g0.sp b k1 k2) (k2.up g0.hh)
/-- new lists of texts do not hold what was known -/
theorem rF.off {G0 Gp G2 : Hp} {xs : Lot} {v : V} (h : rF Gp rS xs v G2) (e : Ex G0 Gp) (hp : Gp p ≠ none) : rF G0 rS xs v (rm G2 p) := by
  obtain ⟨q, ws, h1, h2, h3, h4⟩ := h
  have hq : q ≠ p := fun z => hp (by rw [← z]; exact h2)
  exact ⟨q, ws, h1, e.no _ h2, by rw [rm_ne hq]; exact h3, by rw [allR_str h4]; exact str_allR (allR_ok h4)⟩
/-- x = a new list -/
theorem qn_asg {i : Nat} {R : List V → Hp → Prop} (e : Kn K G H) (h : EvN K te σ G R) (k : ∀ p vs G2 H2, H p = none → G2 p = none → Gr K G H G2 H2 → H2 p = some (.lst vs) → R vs G2 → tz D (σ.set i (some (.ref p))) H2) : tSeq (tAsg te (gName i)) tz D σ H := h H e _ k
theorem sn_asg {i : Nat} {R : List V → Hp → Prop} (e : Kn K G H) (h : EvN K te σ G R) (k : ∀ p vs G2 H2, H p = none → G2 p = none → Gr K G H G2 H2 → H2 p = some (.lst vs) → R vs G2 → D.nx (σ.set i (some (.ref p))) H2) : tAsg te (gName i) D σ H := h H e _ k
/-- xs.extend([..]) -/
theorem s_ext {i : Nat} {R : List V → Hp → Prop} (e : Kn K G H) (hl : H p = some (.lst vs)) (hi : σ[i]? = some (some (.ref p))) (h : EvN K te σ (upd G p (.lst vs)) R) (hz : ∀ ws G2, R ws G2 → vs.length + ws.length ≤ 10000000)
    (k : ∀ ws G2 H2, Gr K (upd G p (.lst vs)) H G2 H2 → R ws G2 → D.nx σ (upd H2 p (.lst (vs ++ ws)))) : tDrop (tBM K "list" rExtend (tVar i) (tCons te tNil)) D σ H :=
  ⟨.ref p, hi, .inl ⟨rfl, vs, SqL.of hl⟩, h H (kn_plus e hl) _ fun q ws G2 H2 hq _ g lq r => ⟨p, q, vs, ws, rfl, rfl, g.hh.l hl, lq, Nat.le_trans (hz ws G2 r) (by decide), k ws G2 H2 g r⟩⟩
/-- xs.append(e) -/
theorem s_app {i : Nat} {R : V → Hp → Prop} (e : Kn K G H) (hl : H p = some (.lst vs)) (hi : σ[i]? = some (some (.ref p))) (h : EvR K te σ (upd G p (.lst vs)) R) (hz : vs.length < 10000000)
    (k : ∀ v G2 H2, Gr K (upd G p (.lst vs)) H G2 H2 → R v G2 → D.nx σ (upd H2 p (.lst (vs ++ [v])))) : tDrop (tBM K "list" rAppend (tVar i) (tCons te tNil)) D σ H :=
  ⟨.ref p, hi, .inl ⟨rfl, vs, SqL.of hl⟩, h H (kn_plus e hl) _ fun v G2 H2 g r => ⟨p, vs, v, rfl, rfl, g.hh.l hl, Nat.lt_of_lt_of_le hz (by decide), k v G2 H2 g r⟩⟩
/-- for: Pv of the turn, the slots, what is known, the heap -/
theorem s_for {wi : TI} {g : TG} {R : Rp α} [Mo R] {xs : List α} (e : Kn K G H) (hw : EvW K wi σ G R xs) (Pv : Nat → L2.St → Hp → Hp → Prop)
    (h0 : ∀ G2 H2, Gr K G H G2 H2 → Pv 0 σ G2 H2)
    (turn : ∀ i a x σ' G' H' G2 H2, xs[i]? = some a → Pv i σ' G' H' → Ex G G' → Kn K G' H' → Gr K G' H' G2 H2 → R a x G2 → g x σ' H2 fun σ2 H3 => tu { D with nx := fun σ3 H4 => ∃ G4, Ex G' G4 ∧ Kn K G4 H4 ∧ Pv (i + 1) σ3 G4 H4, ct := fun σ3 H4 => ∃ G4, Ex G' G4 ∧ Kn K G4 H4 ∧ Pv (i + 1) σ3 G4 H4, bk := D.nx } σ2 H3)
    (done : ∀ σ' G' H', Pv xs.length σ' G' H' → Ex G G' → Kn K G' H' → D.nx σ' H') : tFor wi g tu D σ H := hw H e _ fun J G1 H1 g1 wk => by
  refine ⟨fun i m σ' H' => m = xs.length - i ∧ i ≤ xs.length ∧ ∃ G', Ex G1 G' ∧ Kn K G' H' ∧ Pv i σ' G' H', ⟨xs.length, rfl, Nat.zero_le _, G1, exr _, g1.kn, h0 G1 H1 g1⟩, ?_⟩
  rintro i m σ' H' ⟨rfl, hi, G', e1, k1, pv⟩
  have wk' := wk.mono e1
  by_cases hlt : i < xs.length
  · refine .inr ⟨wk'.go i H' hlt k1, fun σ3 H4 => ∃ G4, Ex G' G4 ∧ Kn K G4 H4 ∧ Pv (i + 1) σ3 G4 H4, fun σ3 H4 ⟨G4, a1, a2, a3⟩ => ⟨xs.length - (i + 1), by omega, rfl, hlt, G4, e1.trans a1, a2, a3⟩, fun x H2 hy => ?_⟩
    obtain ⟨a, G2, ea, g2, ra⟩ := wk'.yld i H' x H2 hlt k1 hy
    exact turn i a x σ' G' H' G2 H2 ea pv (g1.kk.trans e1) k1 g2 ra
  · have ei : i = xs.length := by omega
    subst ei
    exact .inl ⟨wk'.stop H' k1, done σ' G' H' pv (g1.kk.trans e1) k1⟩
theorem q_for {wi : TI} {g : TG} {R : Rp α} [Mo R] {xs : List α} (e : Kn K G H) (hw : EvW K wi σ G R xs) (Pv : Nat → L2.St → Hp → Hp → Prop)
    (h0 : ∀ G2 H2, Gr K G H G2 H2 → Pv 0 σ G2 H2)
    (turn : ∀ i a x σ' G' H' G2 H2, xs[i]? = some a → Pv i σ' G' H' → Ex G G' → Kn K G' H' → Gr K G' H' G2 H2 → R a x G2 → g x σ' H2 fun σ2 H3 => tu { D with nx := fun σ3 H4 => ∃ G4, Ex G' G4 ∧ Kn K G4 H4 ∧ Pv (i + 1) σ3 G4 H4, ct := fun σ3 H4 => ∃ G4, Ex G' G4 ∧ Kn K G4 H4 ∧ Pv (i + 1) σ3 G4 H4, bk := tz D } σ2 H3)
    (done : ∀ σ' G' H', Pv xs.length σ' G' H' → Ex G G' → Kn K G' H' → tz D σ' H') : tSeq (tFor wi g tu) tz D σ H := s_for (D := { D with nx := tz D }) e hw Pv h0 turn done
/-- a loop that stores nothing but in its slots, and may leave by a return: F tells the slots between the turns -/
theorem q_search {wi : TI} {j : Nat} {R : Rp α} [Mo R] {xs : List α} (e : Kn K G H) (hw : EvW K wi σ G R xs) (F : L2.St → Prop) (N : Nat → Prop) (h0 : F σ) (n0 : N 0)
    (turn : ∀ i a x σ' G2 H2 (X : L2.St → Hp → Prop), xs[i]? = some a → F σ' → N i → Gr K G H G2 H2 → R a x G2 → (∀ σ3 G4 H4, F σ3 → N (i + 1) → Gr K G2 H2 G4 H4 → X σ3 H4) → tu { D with nx := X, ct := X, bk := tz D } (σ'.set j (some x)) H2)
    (done : ∀ σ' G' H', F σ' → N xs.length → Gr K G H G' H' → tz D σ' H') : tSeq (tFor wi (gName j) tu) tz D σ H :=
  q_for e hw (fun i σ' G' H' => F σ' ∧ N i ∧ Gr K G H G' H') (fun G2 H2 g => ⟨h0, n0, g⟩)
    (fun i a x σ' G' H' G2 H2 ea ⟨f, n, g⟩ _ _ g2 ra => turn i a x σ' G2 H2 _ ea f n (g.trans g2) ra fun σ3 G4 H4 a1 a2 a3 => ⟨G4, g2.kk.trans a3.kk, a3.kn, a1, a2, (g.trans g2).trans a3⟩)
    (fun σ' G' H' ⟨f, n, g⟩ _ _ => done σ' G' H' f n g)
end
end Ob
set_option maxRecDepth 100000
set_option maxHeartbeats 4000000
/-! Kd2g: lists put together; a list of lists that grows in a loop. -/
namespace Ob
open PySem PySem.Spec PyProof.Rows L2
/-- a list that is not frozen -/
def rM {α : Type} (R : Rp α) : Rp (List α) := fun xs v H => ∃ a vs, v = .ref a ∧ H a = some (.lst vs) ∧ AllR R xs vs H
instance {α : Type} {R : Rp α} [Mo R] : Mo (rM R) := ⟨fun e ⟨a, vs, h1, h2, h3⟩ => ⟨a, vs, h1, e.l h2, h3.mono e⟩⟩
section
variable {K : PySem.W.Frag} {σ : L2.St} {G G1 H H1 : Hp} {ta tb te : TE} {α β ι : Type} {R : Rp α} {D : Ends} {tz tu : TS} {p : Addr} {vs : List V}
theorem rM.l {xs : List α} {v : V} (h : rM R xs v H) : rL K R xs v H := let ⟨a, vs, h1, h2, h3⟩ := h; ⟨a, vs, h1, SqL.of h2, h3⟩
theorem rF.m {H0 : Hp} {xs : List α} {v : V} (h : rF H0 R xs v H) : rM R xs v H := let ⟨a, vs, h1, _, h2, h3⟩ := h; ⟨a, vs, h1, h2, h3⟩
instance [Mo R] : NN (rM R) := ⟨fun ⟨_, _, h, _⟩ z => by rw [h] at z; cases z⟩
instance {enc : α → PyData} [En K R enc] : En K (rM R) (eLi enc) := ⟨fun h => En.lay (K := K) (rM.l (K := K) h), fun h => En.dp (rM.l (K := K) h)⟩
theorem EvN.m [Mo R] {xs : List α} (h : EvN K te σ G (AllR R xs)) : EvP K te σ G (rM R) xs := h.r fun p vs _ _ hl _ r => ⟨p, vs, rfl, hl, r⟩
/-- xs + ys -/
theorem en_cat [Mo R] {xs ys : List α} (ha : EvP K ta σ G (rM R) xs) (hb : EvP K tb σ G (rM R) ys) (hz : xs.length + ys.length ≤ 10000000) : EvN K (tOp rCat ta tb) σ G (AllR R (xs ++ ys)) := fun H e Q q =>
  ha H e _ fun x G1 H1 g1 r1 => hb.mono g1.kk H1 g1.kn _ fun y G2 H2 g2 r2 => by
    obtain ⟨a, vs, rfl, a2, a3⟩ := Mo.mo (R := rM R) g2.kk r1
    obtain ⟨b, ws, rfl, b2, b3⟩ := r2
    have g := g1.trans g2
    refine ⟨a, b, vs, ws, rfl, rfl, g2.kh.l a2, g2.kh.l b2, ?_, fun p hp => q p _ G2 _ (g.hh.no _ hp) (g.kh.no _ hp) (g.trans (Gr.skip g.kn (Ex.new hp) (tb_new g.kn.tb hp))) upd_same (a3.append b3)⟩
    rw [← a3.length, ← b3.length]
    exact Nat.le_trans hz (by decide)
def growL (f : Str → Lot → Bool) (xs : Lot) (F : List Lot) : List Lot := xs.foldl (fun F x => F ++ (F.filter (f x)).map (· ++ [x])) F
theorem growL_len (f : Str → Lot → Bool) : ∀ (xs : Lot) (F : List Lot), (growL f xs F).length ≤ F.length * 2 ^ xs.length
  | [], F => by simp [growL]
  | x :: xs, F => by
    have h := growL_len f xs (F ++ (F.filter (f x)).map (· ++ [x]))
    have e : growL f (x :: xs) F = growL f xs (F ++ (F.filter (f x)).map (· ++ [x])) := rfl
    rw [e]
    refine Nat.le_trans h ?_
    rw [List.length_cons, Nat.pow_succ, Nat.mul_comm (2 ^ xs.length) 2, ← Nat.mul_assoc]
    refine Nat.mul_le_mul_right _ ?_
    rw [List.length_append, List.length_map]
    have := List.length_filter_le (f x) F
    omega
theorem growL_small (f : Str → Lot → Bool) : ∀ (xs : Lot) (F : List Lot) (k : Nat), (∀ l ∈ F, l.length ≤ k) → ∀ l ∈ growL f xs F, l.length ≤ k + xs.length
  | [], F, k, h, l, hl => by simpa using h l hl
  | x :: xs, F, k, h, l, hl => by
    have := growL_small f xs (F ++ (F.filter (f x)).map (· ++ [x])) (k + 1) (fun m hm => by
      rcases List.mem_append.mp hm with hm | hm
      · exact Nat.le_succ_of_le (h m hm)
      · obtain ⟨m2, h2, rfl⟩ := List.mem_map.mp hm
        have := h m2 (List.mem_filter.mp h2).1
        simp; omega) l hl
    simp only [List.length_cons]
    omega
theorem growL_take (f : Str → Lot → Bool) (xs : Lot) (F : List Lot) {i : Nat} {x : Str} (e : xs[i]? = some x) : growL f (xs.take (i + 1)) F = growL f (xs.take i) F ++ ((growL f (xs.take i) F).filter (f x)).map (· ++ [x]) := by
  unfold growL
  rw [List.take_add_one, e, List.foldl_append]
  rfl
theorem subsAll_grow (N : Lot) : subsAll N = growL (fun _ _ => true) N [[]] := by
  unfold subsAll growL
  congr 1
  funext F x
  rw [List.filter_eq_self.mpr fun _ _ => rfl]
/-- the loop of the growing list: for x in xs: found.extend([lot + [x] for lot in found if f x lot]) -/
theorem q_grow {wi : TI} {i j l : Nat} {ns : List Nat} {tt : TT} {xs : Lot} (f : Str → Lot → Bool) {G0 H0 : Hp} {vs : List V} (g : Gr K G0 H0 G H) (hH0 : H0 p = none) (hp : G p = none) (hl : H p = some (.lst vs)) (hv : AllR (rF G0 rS) [[]] vs G)
    (hw : EvW K wi σ G rS xs) (hz : xs.length ≤ 8) (hi : ∀ v, (σ.set j v)[i]? = some (some (.ref p)))
    (hwp : ∀ v u, wipe ((wipe (σ.set j v) ns).set l u) ns = wipe (σ.set j v) ns) (hjl : ∀ v u, ((wipe (σ.set j v) ns).set l (some u))[l]? = some (some u)) (hjj : ∀ v u, ((wipe (σ.set j (some v)) ns).set l u)[j]? = some (some v))
    (test : ∀ k x v lot u G2, xs[k]? = some x → lot ∈ growL f (xs.take k) [[]] → Ex G G2 → rS x v G2 → rF G0 rS lot u G2 → EvT K tt ((wipe (σ.set j (some v)) ns).set l (some u)) G2 (f x lot))
    (done : ∀ σ' G' H' vs', (σ' = σ ∨ ∃ v, σ' = σ.set j v) → Gr K G0 H0 G' H' → Ex G G' → G' p = none → H' p = some (.lst vs') → AllR (rF G0 rS) (growL f xs [[]]) vs' G' → tz D σ' H') :
    tSeq (tFor wi (gName j) (tDrop (tBM K "list" rExtend (tVar i) (tCons (tLc (iList K (tVar i)) (gName l) tt (tOp rCat (tVar l) (tLst (tCons (tVar j) tNil))) ns) tNil)))) tz D σ H := by
  refine q_for g.kn hw (fun k σ' G' H' => (σ' = σ ∨ ∃ v, σ' = σ.set j v) ∧ Gr K G0 H0 G' H' ∧ G' p = none ∧ ∃ vs, H' p = some (.lst vs) ∧ AllR (rF G0 rS) (growL f (xs.take k) [[]]) vs G') (fun G2 H2 g2 => ⟨.inl rfl, g.trans g2, g2.sp p hp (hidden (hl)), vs, g2.hh.l hl, hv.mono g2.kk⟩) ?_ (fun σ' G' H' ⟨hs, gg, h1, vs', h2, h3⟩ eG _ => by
    rw [List.take_length] at h3
    exact done σ' G' H' vs' hs gg eG h1 h2 h3)
  intro k x v σ' G' H' G2 H2 ex ⟨hs, gg, h1, ws, h2, h3⟩ eG' _ g2 rx
  have k8 : k < 8 := Nat.lt_of_lt_of_le (List.getElem?_eq_some_iff.mp ex).1 hz
  have hs2 : σ'.set j (some v) = σ.set j (some v) := by
    rcases hs with rfl | ⟨w, rfl⟩
    · rfl
    · exact List.set_set ..
  have g3 := gg.trans g2
  have p2 : G2 p = none := g2.sp p h1 (hidden (h2))
  have l2 : H2 p = some (.lst ws) := g2.hh.l h2
  have h4 : AllR (rF G0 rS) (growL f (xs.take k) [[]]) ws G2 := h3.mono g2.kk
  have len1 : (growL f (xs.take k) [[]]).length ≤ 256 := by
    refine Nat.le_trans (growL_len f _ _) ?_
    rw [List.length_singleton, Nat.one_mul]
    exact pow_le8 (by rw [List.length_take]; omega)
  have lot8 : ∀ lot ∈ growL f (xs.take k) [[]], lot.length ≤ 8 := fun lot hlot => by
    have := growL_small f (xs.take k) [[]] 0 (by simp) lot hlot
    rw [List.length_take] at this
    omega
  show tDrop _ _ (σ'.set j (some v)) H2
  rw [hs2]
  have eGp : Ex G (upd G2 p (.lst ws)) := (eG'.trans g2.kk).trans (Ex.new p2)
  refine s_ext (R := AllR (rF (upd G2 p (.lst ws)) rS) (((growL f (xs.take k) [[]]).filter (f x)).map (· ++ [x]))) g3.kn l2 (hi _) (en_lc (R := rF G0 rS) (S := rF (upd G2 p (.lst ws)) rS) (f x) (· ++ [x]) (ew_list (er_var (hi _) ⟨p, ws, rfl, SqL.of upd_same, h4.mono (Ex.new p2)⟩)) (by omega) (fun lot hlot u G5 H5 e5 _ r5 => tg_name ⟨hwp _ _, test k x v lot u G5 ex hlot (eGp.trans e5) (Mo.mo (R := rS) e5 rx) r5, fun _ => (en_cat (R := rS) (er_var (hjl _ _) r5.m) (EvN.m (en_one (R := rS) (er_var (hjj _ _) (Mo.mo (R := rS) e5 rx)))) (by have := lot8 lot hlot; simp; omega)).f e5⟩)) (fun us G5 r5 => ?_) fun us G5 H5 g5 r5 => ?_
  · rw [← h4.length, ← r5.length, List.length_map]
    have := List.length_filter_le (f x) (growL f (xs.take k) [[]])
    omega
  · obtain ⟨a1, a2, a3⟩ := g3.loop (o := .lst (ws ++ us)) p2 hH0 l2 g5
    refine ⟨rm G5 p, g2.kk.trans a2, a1.kn, .inr ⟨_, rfl⟩, a1, rm_same, ws ++ us, upd_same, ?_⟩
    rw [growL_take f xs [[]] ex]
    refine (h4.mono a2).append ?_
    obtain ⟨is, hr5⟩ : ∃ is : List Lot, is = ((growL f (xs.take k) [[]]).filter (f x)).map (· ++ [x]) := ⟨_, rfl⟩
    rw [← hr5] at r5 ⊢
    have e0 : Ex G0 (upd G2 p (.lst ws)) := g3.kk.trans (Ex.new p2)
    clear hr5
    revert r5
    have offs : ∀ (is : List Lot) (us : List V), AllR (rF (upd G2 p (.lst ws)) rS) is us G5 → AllR (rF G0 rS) is us (rm G5 p) := by
      intro is
      induction is with
      | nil => intro us h; cases us with | nil => trivial | cons _ _ => exact h.elim
      | cons a is ih => intro us h; cases us with | nil => exact h.elim | cons u us => exact ⟨h.1.off e0 (by rw [upd_same]; simp), ih us h.2⟩
    exact offs is us
end
end Ob
set_option maxRecDepth 100000
set_option maxHeartbeats 4000000
/-! Kd2: the law's own defs, second part: subsets, lots, smallest, unsure. -/
namespace Ob
open PySem PySem.Spec PyProof.Rows L2
section
variable {α β : Type} {f : α → Option β} {xs : List α} {i : Nat} {a : α} {b : β}
theorem fs_step (e : xs[i]? = some a) (h : (xs.take i).findSome? f = none) (h2 : f a = none) : (xs.take (i + 1)).findSome? f = none := by
  rw [List.take_add_one, e, List.findSome?_append, h]
  simp [h2]
theorem fs_hit (e : xs[i]? = some a) (h : (xs.take i).findSome? f = none) (h2 : f a = some b) : xs.findSome? f = some b := by
  have : xs = xs.take (i + 1) ++ xs.drop (i + 1) := (List.take_append_drop ..).symm
  rw [this, List.findSome?_append, List.take_add_one, e, List.findSome?_append, h]
  simp [h2]
theorem fs_end (h : (xs.take xs.length).findSome? f = none) : xs.findSome? f = none := by rwa [List.take_length] at h
end
def rP3 (K : PySem.W.Frag) {α β γ : Type} (R : Rp α) (S : Rp β) (T : Rp γ) : Rp (α × β × γ) := fun p v H => ∃ a u w x, v = .ref a ∧ SqT K H a [u, w, x] ∧ R p.1 u H ∧ S p.2.1 w H ∧ T p.2.2 x H
section
variable {K : PySem.W.Frag} {α β γ : Type} {R : Rp α} {S : Rp β} {T : Rp γ} {σ : L2.St} {G : Hp} {ta tb tc te : TE}
instance [Mo R] [Mo S] [Mo T] : Mo (rP3 K R S T) := ⟨fun e ⟨a, u, w, x, h1, h2, h3, h4, h5⟩ => ⟨a, u, w, x, h1, ex_t e h2, Mo.mo e h3, Mo.mo e h4, Mo.mo e h5⟩⟩
instance : NN (rP3 K R S T) := ⟨fun ⟨_, _, _, _, h, _⟩ z => by rw [h] at z; cases z⟩
theorem er_tri {p : α × β × γ} [Mo R] [Mo S] [Mo T] (ha : EvP K ta σ G R p.1) (hb : EvP K tb σ G S p.2.1) (hc : EvP K tc σ G T p.2.2) : EvP K (tTup (tCons ta (tCons tb (tCons tc tNil)))) σ G (rP3 K R S T) p :=
  (er_tup (eb_cons ha (eb_cons hb (eb_one hc))) (fun vs G2 ⟨v, r, e, _, w, r', e2, _, u, e3, _⟩ => by rw [e, e2, e3]; exact (by decide : 3 ≤ 10000000))).imp fun v G2 _ ⟨q, vs, e, h, u, r, e1, r1, w, r', e2, r2, x, e3, r3⟩ => ⟨q, u, w, x, e, SqT.of (by rw [← e3, ← e2, ← e1]; exact h), r1, r2, r3⟩
theorem en_nil : EvN K (tLst tNil) σ G (AllR R []) := fun H e Q q => ⟨Nat.zero_le _, fun p hp => q p [] G _ hp (e.ex.no _ hp) (Gr.skip e (Ex.new hp) (tb_new e.tb hp)) upd_same trivial⟩
/-- [x for x in xs if t] -/
theorem en_flt {wi : TI} {j : Nat} {tt : TT} {ns : List Nat} [Mo R] {xs : List α} (f : α → Bool) (hw : EvW K wi σ G R xs) (hz : xs.length < 10000000) (hwp : ∀ x : V, wipe ((wipe σ ns).set j (some x)) ns = wipe σ ns) (hj : ∀ x : V, ((wipe σ ns).set j (some x))[j]? = some (some x))
    (turn : ∀ a ∈ xs, ∀ x G2, Ex G G2 → R a x G2 → EvT K tt ((wipe σ ns).set j (some x)) G2 (f a)) : EvN K (tLc wi (gName j) tt (tVar j) ns) σ G (AllR R (xs.filter f)) :=
  (en_lcN (S := R) f (fun x => x) hw hz hwp fun a ha x G2 e r => ⟨turn a ha x G2 e r, fun _ => er_var (hj x) r⟩).imp fun vs G2 _ r => by rw [List.map_id'] at r; exact r
/-- our list at p is known from here on -/
theorem Gr.plus {G0 H0 G H : Hp} {p : Addr} {vs : List V} (g : Gr K G0 H0 G H) (h0 : H0 p = none) (hl : H p = some (.lst vs)) (hg : G p = none) : Gr K G0 H0 (upd G p (.lst vs)) H :=
  ⟨g.kk.trans (Ex.new hg), kn_plus g.kn hl, g.hh, fun b h1 h2 => by rw [upd_ne (h2.ne h0)]; exact g.sp b h1 h2⟩
theorem eb_a1 {x : α} [Mo R] (ha : EvP K ta σ G R x) : EvB K (tCons ta tNil) σ G (A1 R x) := fun H e Q q => eb_one ha H e Q fun vs G2 H2 g ⟨v, e1, r1⟩ => q vs G2 H2 g ⟨v, e1, r1⟩
theorem EvW.mo2 {wi : TI} {xs : List α} [Mo R] {G1 : Hp} (e : Ex G G1) (w : EvW K wi σ G R xs) : EvW K wi σ G1 R xs := w.mono e
theorem er_post {ι : Type} {ta : TA} {pre : ι → List V → Hp → Prop} {post : ι → Hp → V → Hp → Prop} {E : XK} {A : List V → Hp → Prop} {Z : V → Hp → Prop} (i : ι) (h : EvB K ta σ G A) (hp : ∀ vs G2, Ex G G2 → A vs G2 → pre i vs G2) (hz : ∀ Gc v G2, Ex G Gc → post i Gc v G2 → Z v G2) :
    EvR K (tCall (SpG K pre post) [] E ta) σ G Z := (er_call i h hp).imp fun v G2 _ ⟨Gc, e, p⟩ => hz Gc v G2 e p
end
section
variable {P : Program} {w : World} {K : PySem.W.Frag} {mg : Str → Option Value} {base : Heap}
abbrev rLs (K : PySem.W.Frag) : Rp (List Lot) := rL K (rL K rS)
abbrev N_l_d_subsets : List Str := ["_law_names", "_law_found", "_law_lot", "_law_name"]
theorem sc_l_d_subsets : FnScope N_l_d_subsets ["_law_names"] (defScope s_l_d_subsets) := ⟨rfl, rfl, rfl, by decide +kernel, rfl, by decide +kernel, by decide +kernel⟩
def spSubs (K : PySem.W.Frag) : Sp := SpG K (ι := Lot) (fun i vs G => A1 (rL K rS) i vs G ∧ i.length ≤ 8) (fun i _ v G2 => rL K (rM rS) (subsL i) v G2)
theorem cal_l_d_subsets (T : Txt K mg) : Cal P w K mg base CX0 1 "_law_d_subsets" ["_law_names"] (spSubs K) := by
  refine cal_mk T.g_l_d_subsets sc_l_d_subsets (fun _ _ _ _ _ _ us hl => match us, hl with | [_], _ => rfl) (spg_len fun i vs G ⟨⟨_, e, _⟩, _⟩ => by rw [e]; rfl) (fun f cdv A outer s H vs Q E hr h => ?_)
  obtain ⟨N, G, eG, ⟨⟨a, rfl, hx⟩, hz⟩, q⟩ := h
  have hz : N.length ≤ 8 := hz
  refine ⟨_, (pss_cons (ps_set (i := 1) sc_l_d_subsets.nd rfl (by first | exact Or.inl rfl | exact Or.inr rfl) (pe_lst (pa_cons (pe_lst pa_nil) pa_nil))) (pss_cons (ps_for (g := gName 3) (passes_of rfl) rfl (xlist K (pe_callB (xsort K rS hr.units) (by rfl) T.m_sorted boot_sorted (pa_cons (pv 0) pa_nil))) (pg_name (i := 3) sc_l_d_subsets.nd rfl (by first | exact Or.inl rfl | exact Or.inr rfl)) (pss_one (ps_expr (pe_bm PySem.F.plainAttrs_list PySem.F.slot_list_extend PySem.F.type_list_extend mt_extend (pv 1) (pa_cons (pe_lc (own := [("_law_lot", 2)]) (g := gName 2) rfl sc_l_d_subsets.nd (xlist K (pv 1)) (blkOk_by (own := [("_law_lot", 2)]) (N := N_l_d_subsets) (by kernel_rfl)) (fun _ _ _ _ _ => pg_name (i := 2) sc_l_d_subsets.nd rfl (by first | exact Or.inl rfl | exact Or.inr rfl)) (fun _ _ _ _ _ => pts_nil) (fun _ _ _ _ _ => (pe_op op_cat (pv 2) (pe_lst (pa_cons (pv 3) pa_nil))))) pa_nil))))) (pss_one (ps_ret (pe_callB (xsort K (rF G rS) hr.units) (by rfl) T.m_sorted boot_sorted (pa_cons (pv 1) pa_nil)))))), ?_⟩
  refine qn_asg eG (en_one (R := rF G rS) (x := []) (EvN.f en_nil (exr _))) fun p ws G2 H2 hp hg g hl r => ?_
  refine q_grow (fun _ _ => true) g hp hg hl r (ew_list (EvN.l (en_sort (ok_str (by omega)) (er_var rfl (Mo.mo g.kk hx))))) (by rw [so_len]; exact hz) (fun _ => rfl) (fun _ _ => rfl) (fun _ _ => rfl) (fun _ _ => rfl) (fun k x v lot u G3 _ _ _ _ _ => et_yes) fun σ' G3 H3 vs' hs g3 e3 hp3 hl3 r3 => ?_
  have hlen : (growL (fun _ _ => true) (so eS N) [[]]).length ≤ 256 := by
    refine Nat.le_trans (growL_len _ _ _) ?_
    rw [List.length_singleton, Nat.one_mul]
    exact pow_le8 (by rw [so_len]; exact hz)
  have hi : σ'[1]? = some (some (.ref p)) := by rcases hs with rfl | ⟨v, rfl⟩ <;> rfl
  refine sr_ret (kn_plus g3.kn hl3) (EvN.l (en_sort (R := rF G rS) (ok_lot (by omega)) (er_var hi ⟨p, vs', rfl, SqL.of upd_same, r3.mono (Ex.new hp3)⟩))) fun v G4 H4 g4 r4 => ?_
  refine q v G4 H4 ((g3.plus hp hl3 hp3).trans g4) ?_
  obtain ⟨a, ws, e1, e2, e3⟩ := r4
  exact ⟨a, ws, e1, e2, AllR.imp (fun _ _ h => rF.m h) (by rw [← subsAll_grow] at e3; exact e3)⟩

def lotsL (N : Lot) (P : List Pr) (way : Str) : List Lot := if way = ("held" : Str) then heldsL N P else if way = ("greatest" : Str) then greatestL N P else leastL N P
abbrev N_l_d_lots : List Str := ["_law_names", "_law_pairs", "_law_way", "_law_lot", "_law_lots", "_law_name", "_law_other", "_law_whole"]
theorem sc_l_d_lots : FnScope N_l_d_lots ["_law_names", "_law_pairs", "_law_way"] (defScope s_l_d_lots) := ⟨rfl, rfl, rfl, by decide +kernel, rfl, by decide +kernel, by decide +kernel⟩
def spLotsL (K : PySem.W.Frag) : Sp := SpG K (ι := Lot × List Pr × Str) (fun i vs G => A3 (rL K rS) (rPs K) rS i.1 i.2.1 i.2.2 vs G ∧ i.1.length ≤ 8 ∧ i.2.1.length ≤ 10000 ∧ (i.2.2 = ("held" : Str) ∨ i.2.2 = ("greatest" : Str) ∨ i.2.2 = ("least" : Str))) (fun i _ v G2 => rL K (rM rS) (lotsL i.1 i.2.1 i.2.2) v G2)
theorem cal_l_d_lots (T : Txt K mg) : Cal P w K mg base CX0 5 "_law_d_lots" ["_law_names", "_law_pairs", "_law_way"] (spLotsL K) := by
  refine cal_mk T.g_l_d_lots sc_l_d_lots (fun _ _ _ _ _ _ us hl => match us, hl with | [_, _, _], _ => rfl) (spg_len fun i vs G ⟨⟨_, _, _, e, _⟩, _⟩ => by rw [e]; rfl) (fun f cdv A outer s H vs Q E hr h => ?_)
  obtain ⟨⟨N, ps, way⟩, G, eG, ⟨⟨a, b, c, rfl, hn, hp, hw⟩, hz, hz2, hway⟩, q⟩ := h
  have hz : N.length ≤ 8 := hz
  have hz2 : ps.length ≤ 10000 := hz2
  have hway : way = ("held" : Str) ∨ way = ("greatest" : Str) ∨ way = ("least" : Str) := hway
  have hwv := hw.1
  dsimp only at hwv
  subst hwv
  have n1 : decide (way = ("calm" : Str)) = false := by rcases hway with rfl | rfl | rfl <;> decide
  have n2 : decide (way = ("settled" : Str)) = false := by rcases hway with rfl | rfl | rfl <;> decide
  have n3 : decide (way = ("whole" : Str)) = false := by rcases hway with rfl | rfl | rfl <;> decide
  have sl := subsL_len hz
  have hl := heldsL_len (P := ps) hz
  have l1 : ((subsL N).filter (calmL ps)).length ≤ 256 := Nat.le_trans (List.length_filter_le _ _) sl
  have l2 : (wholeL N ps).length ≤ 256 := Nat.le_trans (List.length_filter_le _ _) hl
  have sm : ∀ l ∈ heldsL N ps, l.length ≤ 8 := fun l h => Nat.le_trans (heldsL_small h) hz
  refine ⟨_, (pss_cons (ps_set (i := 4) sc_l_d_lots.nd rfl (by first | exact Or.inl rfl | exact Or.inr rfl) (pe_lc (own := [("_law_lot", 3)]) (g := gName 3) rfl sc_l_d_lots.nd (xlist K (pe_cal (cal_l_d_subsets T) (hr.mono (by decide)) (by rfl) pass0 (pa_cons (pv 0) pa_nil))) (blkOk_by (own := [("_law_lot", 3)]) (N := N_l_d_lots) (by kernel_rfl)) (fun _ _ _ _ _ => pg_name (i := 3) sc_l_d_lots.nd rfl (by first | exact Or.inl rfl | exact Or.inr rfl)) (fun _ _ _ _ _ => pts_one (pt_val (pe_cal (cal_l_d_is_calm T) (hr.mono (by decide)) (by rfl) pass0 (pa_cons (pv 1) (pa_cons (pv 3) pa_nil))))) (fun _ _ _ _ _ => (pv 3)))) (pss_cons (ps_if (pt_cmpR op_eq (pv 2) pe_str (nomark _)) (pss_one (ps_ret (pv 4))) pss_nil) (pss_cons (ps_if (pt_cmpR op_eq (pv 2) pe_str (nomark _)) (pss_one ps_never) pss_nil) (pss_cons (ps_set (i := 4) sc_l_d_lots.nd rfl (by first | exact Or.inl rfl | exact Or.inr rfl) (pe_lc (own := [("_law_lot", 3)]) (g := gName 3) rfl sc_l_d_lots.nd (xlist K (pv 4)) (blkOk_by (own := [("_law_lot", 3)]) (N := N_l_d_lots) (by kernel_rfl)) (fun _ _ _ _ _ => pg_name (i := 3) sc_l_d_lots.nd rfl (by first | exact Or.inl rfl | exact Or.inr rfl)) (fun _ _ _ _ _ => pts_one (pt_val (pe_cal (cal_l_d_is_held T) (hr.mono (by decide)) (by rfl) pass0 (pa_cons (pv 1) (pa_cons (pv 3) pa_nil))))) (fun _ _ _ _ _ => (pv 3)))) (pss_cons (ps_if (pt_cmpR op_eq (pv 2) pe_str (nomark _)) (pss_one (ps_ret (pv 4))) pss_nil) (pss_cons (ps_if (pt_cmpR op_eq (pv 2) pe_str (nomark _)) (pss_one (ps_ret (pe_lc (own := [("_law_lot", 3)]) (g := gName 3) rfl sc_l_d_lots.nd (xlist K (pv 4)) (blkOk_by (own := [("_law_lot", 3)]) (N := N_l_d_lots) (by kernel_rfl)) (fun _ _ _ _ _ => pg_name (i := 3) sc_l_d_lots.nd rfl (by first | exact Or.inl rfl | exact Or.inr rfl)) (fun _ _ _ _ _ => pts_one (pt_not (pt_val (pe_callB (xany K) (by rfl) T.m_any boot_any (pa_cons (pe_lc (own := [("_law_other", 6)]) (g := gName 6) rfl sc_l_d_lots.nd (xlist K (pv 4)) (blkOk_by (own := [("_law_other", 6)]) (N := N_l_d_lots) (by kernel_rfl)) (fun _ _ _ _ _ => pg_name (i := 6) sc_l_d_lots.nd rfl (by first | exact Or.inl rfl | exact Or.inr rfl)) (fun _ _ _ _ _ => pts_nil) (fun _ _ _ _ _ => (pe_and (pe_cal (cal_l_d_within T) (hr.mono (by decide)) (by rfl) pass0 (pa_cons (pv 3) (pa_cons (pv 6) pa_nil))) (pe_one (pe_cmpR (xneD K hr.units) (pv 3) (pv 6) (nomark _)))))) pa_nil))))) (fun _ _ _ _ _ => (pv 3))))) pss_nil) (pss_cons (ps_set (i := 7) sc_l_d_lots.nd rfl (by first | exact Or.inl rfl | exact Or.inr rfl) (pe_lc (own := [("_law_lot", 3)]) (g := gName 3) rfl sc_l_d_lots.nd (xlist K (pv 4)) (blkOk_by (own := [("_law_lot", 3)]) (N := N_l_d_lots) (by kernel_rfl)) (fun _ _ _ _ _ => pg_name (i := 3) sc_l_d_lots.nd rfl (by first | exact Or.inl rfl | exact Or.inr rfl)) (fun _ _ _ _ _ => pts_one (pt_cmpR (xeqD K hr.units) (pe_cal (cal_l_d_answered T) (hr.mono (by decide)) (by rfl) pass0 (pa_cons (pv 0) (pa_cons (pv 1) (pa_cons (pv 3) pa_nil)))) (pv 3) (nomark _))) (fun _ _ _ _ _ => (pv 3)))) (pss_cons (ps_if (pt_cmpR op_eq (pv 2) pe_str (nomark _)) (pss_one (ps_ret (pv 7))) pss_nil) (pss_one (ps_ret (pe_lc (own := [("_law_lot", 3)]) (g := gName 3) rfl sc_l_d_lots.nd (xlist K (pv 7)) (blkOk_by (own := [("_law_lot", 3)]) (N := N_l_d_lots) (by kernel_rfl)) (fun _ _ _ _ _ => pg_name (i := 3) sc_l_d_lots.nd rfl (by first | exact Or.inl rfl | exact Or.inr rfl)) (fun _ _ _ _ _ => pts_one (pt_val (pe_callB (xall K) (by rfl) T.m_all boot_all (pa_cons (pe_lc (own := [("_law_other", 6)]) (g := gName 6) rfl sc_l_d_lots.nd (xlist K (pv 7)) (blkOk_by (own := [("_law_other", 6)]) (N := N_l_d_lots) (by kernel_rfl)) (fun _ _ _ _ _ => pg_name (i := 6) sc_l_d_lots.nd rfl (by first | exact Or.inl rfl | exact Or.inr rfl)) (fun _ _ _ _ _ => pts_nil) (fun _ _ _ _ _ => (pe_cal (cal_l_d_within T) (hr.mono (by decide)) (by rfl) pass0 (pa_cons (pv 3) (pa_cons (pv 6) pa_nil))))) pa_nil)))) (fun _ _ _ _ _ => (pv 3))))))))))))), ?_⟩
  refine qr_asg eG (EvN.l (en_flt (R := rM rS) (calmL ps) (ew_list (er_post N (eb_a1 (er_var rfl hn)) (fun vs G2 _ h => ⟨h, hz⟩) fun _ _ _ _ p => p)) (by omega) (fun _ => rfl) (fun _ => rfl) fun l _ v G2 e1 r => et_val (ev_call (ps, l) (eb_a2 (er_var rfl (Mo.mo e1 hp)) (er_var rfl r.l)) (fun vs G2 _ h => ⟨h, hz2⟩) (fun _ _ _ p => p)))) fun v1 G1 H1 g1 r1 => ?_
  refine q_no g1.kn (et_is (et_cmp (ev_eqs (ev_var rfl) ev_c)) n1) fun H1b g1b => ?_
  refine q_no g1b.kn (et_is (et_cmp (ev_eqs (ev_var rfl) ev_c)) n2) fun H1c g1c => ?_
  have g1 := (g1.trans g1b).trans g1c
  refine qr_asg g1.kn (EvN.l (en_flt (R := rM rS) (heldL ps) (ew_list (er_var rfl r1)) (by omega) (fun _ => rfl) (fun _ => rfl) fun l hl2 v G2 e1 r => et_val (ev_call (ps, l) (eb_a2 (er_var rfl (Mo.mo (g1.kk.trans e1) hp)) (er_var rfl r.l)) (fun vs G2 _ h => ⟨h, hz2, Nat.le_trans (subsL_small (List.mem_filter.mp hl2).1) (by omega)⟩) (fun _ _ _ p => p)))) fun v2 G2 H2 g2 r2 => ?_
  have r2 : rL K (rM rS) (heldsL N ps) v2 G2 := r2
  have g2 := g1.trans g2
  refine q_if g2.kn (et_cmp (ev_eqs (ev_var rfl) ev_c)) (fun hy H3 g3 => ?_) fun hno H3 g3 => ?_
  · have hy := of_decide_eq_true hy
    refine sr_ret g3.kn (er_var rfl r2) fun v G4 H4 g4 r4 => q v G4 H4 ((g2.trans g3).trans g4) ?_
    show rL K (rM rS) (lotsL N ps way) v G4
    unfold lotsL
    rw [if_pos hy]
    exact r4
  have hno := of_decide_eq_false hno
  have g3 := g2.trans g3
  refine q_if g3.kn (et_cmp (ev_eqs (ev_var rfl) ev_c)) (fun hy H4 g4 => ?_) fun hno2 H4 g4 => ?_
  · have hy := of_decide_eq_true hy
    refine sr_ret g4.kn (EvN.l (en_flt (R := rM rS) (fun l => !((heldsL N ps).any fun o => within l o && !decide (l = o))) (ew_list (er_var rfl r2)) (by omega) (fun _ => rfl) (fun _ => rfl) fun l hl2 v G5 e1 r => et_not (et_val (ev_anyN (R := rM rS) (fun o => within l o && !decide (l = o)) (ew_list (er_var rfl (Mo.mo e1 r2))) (by omega) (fun _ => rfl) fun o _ u G6 e2 ro => ev_and (ev_call (l, o) (eb_a2 (er_var rfl (Mo.mo e2 r).l) (er_var rfl ro.l)) (fun vs G2 _ h => ⟨h, Nat.le_trans (sm l hl2) (by omega)⟩) (fun _ _ _ p => p)) fun _ => ev_neG (R := rM rS) (R2 := rM rS) (by decide) (er_var rfl (Mo.mo e2 r)) (er_var rfl ro))))) fun v G5 H5 g5 r5 => q v G5 H5 ((g3.trans g4).trans g5) ?_
    show rL K (rM rS) (lotsL N ps way) v G5
    unfold lotsL
    rw [if_neg hno, if_pos hy]
    exact r5
  have hno2 := of_decide_eq_false hno2
  have g4 := g3.trans g4
  refine qr_asg g4.kn (EvN.l (en_flt (R := rM rS) (fun l => decide (answeredL N ps l = l)) (ew_list (er_var rfl r2)) (by omega) (fun _ => rfl) (fun _ => rfl) fun l hl2 v G5 e1 r => et_cmp (ev_eqG (R := rL K rS) (R2 := rM rS) (by decide) (er_post (N, ps, l) (eb_a3 (er_var rfl (Mo.mo (g4.kk.trans e1) hn)) (er_var rfl (Mo.mo (g4.kk.trans e1) hp)) (er_var rfl r.l)) (fun vs G2 _ h => ⟨h, by show N.length ≤ 1000; omega, hz2⟩) fun _ _ _ _ p => p) (er_var rfl r)))) fun v5 G5 H5 g5 r5 => ?_
  have g5 := g4.trans g5
  refine q_no g5.kn (et_is (et_cmp (ev_eqs (ev_var rfl) ev_c)) n3) fun H6 g6 => ?_
  refine sr_ret g6.kn (EvN.l (en_flt (R := rM rS) (fun l => (wholeL N ps).all fun o => within l o) (ew_list (er_var rfl r5)) (by show (wholeL N ps).length < _; omega) (fun _ => rfl) (fun _ => rfl) fun l hl2 v G7 e1 r => et_val (ev_allN (R := rM rS) (xs := wholeL N ps) (fun o => within l o) (ew_list (er_var rfl (Mo.mo e1 r5))) (by omega) (fun _ => rfl) fun o _ u G8 e2 ro => ev_call (l, o) (eb_a2 (er_var rfl (Mo.mo e2 r).l) (er_var rfl ro.l)) (fun vs G2 _ h => ⟨h, Nat.le_trans (sm l (List.mem_filter.mp hl2).1) (by omega)⟩) (fun _ _ _ p => p)))) fun v G7 H7 g7 r7 => q v G7 H7 ((g5.trans g6).trans g7) ?_
  show rL K (rM rS) (lotsL N ps way) v G7
  unfold lotsL
  rw [if_neg hno, if_neg hno2]
  exact r7
end
end Ob
set_option maxRecDepth 100000
set_option maxHeartbeats 4000000
/-! Kd3: smallest, unsure. -/
namespace Ob
open PySem PySem.Spec PyProof.Rows L2
section
variable {P : Program} {w : World} {K : PySem.W.Frag} {mg : Str → Option Value} {base : Heap}
abbrev rMs (K : PySem.W.Frag) : Rp (List Lot) := rL K (rM rS)
abbrev N_l_smallest : List Str := ["_law_lots", "_law_name", "_law_lot", "_law_some"]
theorem sc_l_smallest : FnScope N_l_smallest ["_law_lots", "_law_name"] (defScope s_l_smallest) := ⟨rfl, rfl, rfl, by decide +kernel, rfl, by decide +kernel, by decide +kernel⟩
def spSmallest (K : PySem.W.Frag) : Sp := SpG K (ι := List Lot × Str) (fun i vs G => A2 (rMs K) rS i.1 i.2 vs G ∧ i.1.length ≤ 1000) (fun i _ v G2 => rO (rM rS) (smallestL i.1 i.2) v G2)
theorem cal_l_smallest (T : Txt K mg) : Cal P w K mg base CX0 1 "_law_smallest" ["_law_lots", "_law_name"] (spSmallest K) := by
  refine cal_mk T.g_l_smallest sc_l_smallest (fun _ _ _ _ _ _ us hl => match us, hl with | [_, _], _ => rfl) (spg_len fun i vs G ⟨⟨_, _, e, _⟩, _⟩ => by rw [e]; rfl) (fun f cdv A outer s H vs Q E hr h => ?_)
  obtain ⟨⟨ls, x⟩, G, eG, ⟨⟨a, b, rfl, hx, hy⟩, hz⟩, q⟩ := h
  have hz : ls.length ≤ 1000 := hz
  refine ⟨_, (pss_cons (ps_set (i := 3) sc_l_smallest.nd rfl (by first | exact Or.inl rfl | exact Or.inr rfl) (pe_callB (xsort K (rP K rI (rM rS)) hr.units) (by rfl) T.m_sorted boot_sorted (pa_cons (pe_lc (own := [("_law_lot", 2)]) (g := gName 2) rfl sc_l_smallest.nd (xlist K (pv 0)) (blkOk_by (own := [("_law_lot", 2)]) (N := N_l_smallest) (by kernel_rfl)) (fun _ _ _ _ _ => pg_name (i := 2) sc_l_smallest.nd rfl (by first | exact Or.inl rfl | exact Or.inr rfl)) (fun _ _ _ _ _ => pts_one (pt_cmpR (xin K) (pv 1) (pv 2) (by rfl))) (fun _ _ _ _ _ => (pe_tup (pa_cons (pe_callB (xlen K) (by rfl) T.m_len PySem.boot_len (pa_cons (pv 2) pa_nil)) (pa_cons (pv 2) pa_nil))))) pa_nil))) (pss_one (ps_ret (pe_ifExp (pt_cmpR (xneD K hr.units) (pv 3) (pe_lst pa_nil) (nomark _)) (pe_ix (xixT K) (pe_ix (xixL K) (pv 3) pe_int (fun _ _ => rfl)) pe_int (fun _ _ => rfl)) pe_non)))), ?_⟩
  have hlen : ((ls.filter fun l => decide (x ∈ l)).map fun l => ((l.length : Int), l)).length ≤ 1000 := by
    rw [List.length_map]; exact Nat.le_trans (List.length_filter_le _ _) hz
  refine qr_asg eG (EvN.l (en_sort (R := rP K rI (rM rS)) (ok_il (Nat.le_trans hlen (by decide))) (EvN.l (en_lcN (R := rM rS) (S := rP K rI (rM rS)) (fun l => decide (x ∈ l)) (fun l : Lot => ((l.length : Int), l)) (ew_list (er_var rfl hx)) (by omega) (fun _ => rfl) fun l _ v G2 e1 r => ⟨et_cmp (ev_ins (ev_strv (Mo.mo (R := rS) e1 hy) rfl) (er_var rfl r.l)), fun _ => er_pair (R := rI) (er_of (ev_len (er_var rfl r.l)) rfl) (er_var rfl r)⟩)))) fun v1 G1 H1 g1 r1 => ?_
  refine sr_ret g1.kn (R := rO (rM rS) (smallestL ls x)) (er_if (et_cmp (ev_ne_nil (R := rP K rI (rM rS)) (enc := eIL) (by decide) (er_var rfl r1))) (fun hne => ?_) fun he => ?_) fun v G2 H2 g2 r2 => q v G2 H2 (g1.trans g2) r2
  · unfold smallestL
    cases hs : so eIL ((ls.filter fun l => decide (x ∈ l)).map fun l => ((l.length : Int), l)) with
    | nil => rw [hs] at hne; simp at hne
    | cons p ps =>
      rw [hs] at r1
      exact er_ixP2 (R := rI) (S := rM rS) (p := p) (er_ix (i := 0) (er_var rfl r1) ev_c rfl)
  · unfold smallestL
    have : so eIL ((ls.filter fun l => decide (x ∈ l)).map fun l => ((l.length : Int), l)) = [] := by simpa using he
    rw [this]
    exact er_c rfl

abbrev N_l_unsure : List Str := ["_law_pairs", "_law_lot", "_law_held", "_law_found", "_law_one", "_law_name"]
theorem sc_l_unsure : FnScope N_l_unsure ["_law_pairs", "_law_lot", "_law_held"] (defScope s_l_unsure) := ⟨rfl, rfl, rfl, by decide +kernel, rfl, by decide +kernel, by decide +kernel⟩
def spUnsureL (K : PySem.W.Frag) : Sp := SpG K (ι := List Pr × Lot × List Lot) (fun i vs G => A3 (rPs K) (rL K rS) (rMs K) i.1 i.2.1 i.2.2 vs G ∧ i.1.length ≤ 10000 ∧ i.2.1.length ≤ 1000 ∧ i.2.2.length ≤ 1000) (fun i _ v G2 => rO (rP3 K rS rS (rM rS)) (unsureL i.1 i.2.1 i.2.2) v G2)
theorem cal_l_unsure (T : Txt K mg) : Cal P w K mg base CX0 2 "_law_unsure" ["_law_pairs", "_law_lot", "_law_held"] (spUnsureL K) := by
  refine cal_mk T.g_l_unsure sc_l_unsure (fun _ _ _ _ _ _ us hl => match us, hl with | [_, _, _], _ => rfl) (spg_len fun i vs G ⟨⟨_, _, _, e, _⟩, _⟩ => by rw [e]; rfl) (fun f cdv A outer s H vs Q E hr h => ?_)
  obtain ⟨⟨ps, L, ls⟩, G, eG, ⟨⟨a, b, c, rfl, hp, hl, hs⟩, hz, hz2, hz3⟩, q⟩ := h
  have hz : ps.length ≤ 10000 := hz
  have hz2 : L.length ≤ 1000 := hz2
  have hz3 : ls.length ≤ 1000 := hz3
  refine ⟨_, (pss_cons (ps_for (g := gName 5) (passes_of rfl) rfl (xlist K (pe_callB (xsort K rS hr.units) (by rfl) T.m_sorted boot_sorted (pa_cons (pv 1) pa_nil))) (pg_name (i := 5) sc_l_unsure.nd rfl (by first | exact Or.inl rfl | exact Or.inr rfl)) (pss_one (ps_for (g := gName 4) (passes_of rfl) rfl (xlist K (pe_cal (cal_l_d_objectors T) (hr.mono (by decide)) (by rfl) pass0 (pa_cons (pv 0) (pa_cons (pv 5) pa_nil)))) (pg_name (i := 4) sc_l_unsure.nd rfl (by first | exact Or.inl rfl | exact Or.inr rfl)) (pss_cons (ps_set (i := 3) sc_l_unsure.nd rfl (by first | exact Or.inl rfl | exact Or.inr rfl) (pe_cal (cal_l_smallest T) (hr.mono (by decide)) (by rfl) pass0 (pa_cons (pv 2) (pa_cons (pv 4) pa_nil)))) (pss_one (ps_if (pt_cmpR op_notN (pv 3) pe_non (nomark _)) (pss_one (ps_ret (pe_tup (pa_cons (pv 5) (pa_cons (pv 4) (pa_cons (pv 3) pa_nil)))))) pss_nil)))))) (pss_one (ps_ret pe_non))), ?_⟩
  refine q_search (R := rS) (xs := so eS L) eG (ew_list (EvN.l (en_sort (ok_str (by omega)) (er_var rfl hl)))) (fun σ' => ∃ d e f, σ' = [some a, some b, some c, d, e, f]) (fun i => ((so eS L).take i).findSome? (unsureAt ps ls) = none) ⟨_, _, _, rfl⟩ rfl ?_ ?_
  · rintro i x v σ' G2 H2 X ex ⟨d, e, f, rfl⟩ hN g2 rx hX
    show tFor _ _ _ _ [some a, some b, some c, d, e, some v] H2
    refine s_for (R := rS) (xs := objsL ps x) g2.kn (ew_list (er_post (ps, x) (eb_a2 (er_var rfl (Mo.mo g2.kk hp)) (er_var rfl rx)) (fun vs G2 _ h => ⟨h, hz⟩) fun _ _ _ _ p => p)) (fun k σ' G' H' => (∃ d e, σ' = [some a, some b, some c, d, e, some v]) ∧ ((objsL ps x).take k).findSome? (fun o => (smallestL ls o).map fun l => (x, o, l)) = none ∧ Gr K G2 H2 G' H') (fun G3 H3 g3 => ⟨⟨_, _, rfl⟩, rfl, g3⟩) ?_ ?_
    · rintro k o u σ' G' H' G3 H3 eo ⟨⟨d', e', rfl⟩, hk, gg⟩ _ _ g3 ro
      show tSeq _ _ _ [some a, some b, some c, d', some u, some v] H3
      have gA := (g2.trans gg).trans g3
      refine qr_asg g3.kn (er_post (ls, o) (eb_a2 (er_var rfl (Mo.mo gA.kk hs)) (er_var rfl ro)) (fun vs G2 _ h => ⟨h, hz3⟩) fun _ _ _ _ p => p) fun z G4 H4 g4 rz => ?_
      have gB := gA.trans g4
      refine s_if g4.kn (et_cmp (ev_notN (R := rM rS) (er_var rfl rz))) (fun hy H5 g5 => ?_) fun hno H5 g5 => ?_
      · have rz : rO (rM rS) (smallestL ls o) z G4 := rz
        cases hm : smallestL ls o with
        | none =>
          have hy : (smallestL ls o).isSome = true := hy
          rw [hm] at hy; cases hy
        | some l =>
          rw [hm] at rz
          have e1 : unsureAt ps ls x = some (x, o, l) := by
            unfold unsureAt
            exact fs_hit eo hk (by rw [hm]; rfl)
          have e2 : unsureL ps L ls = some (x, o, l) := fs_hit ex hN e1
          refine sr_ret g5.kn (er_tri (p := (x, o, l)) (R := rS) (S := rS) (T := rM rS) (er_var rfl (Mo.mo (gg.trans (g3.trans g4)).kk rx)) (er_var rfl (Mo.mo g4.kk ro)) (er_var rfl rz)) fun v' G6 H6 g6 r6 => q v' G6 H6 ((gB.trans g5).trans g6) ?_
          show rO (rP3 K rS rS (rM rS)) (unsureL ps L ls) v' G6
          rw [e2]
          exact r6
      · have hm : smallestL ls o = none := by
          have hno : (smallestL ls o).isSome = false := hno
          cases hm : smallestL ls o with
          | none => rfl
          | some l => rw [hm] at hno; cases hno
        exact ⟨G4, (g3.trans g4).kk, g5.kn, ⟨_, _, rfl⟩, fs_step eo hk (by rw [hm]; rfl), (gg.trans g3).trans (g4.trans g5)⟩
    · rintro σ' G' H' ⟨⟨d', e', rfl⟩, hk, gg⟩ _ _
      exact hX _ _ _ ⟨_, _, _, rfl⟩ (fs_step ex hN (fs_end hk)) gg
  · rintro σ' G' H' ⟨d, e, f, rfl⟩ hN g
    have e2 : unsureL ps L ls = none := fs_end hN
    exact sv_ret g.kn ev_c fun H2 g2 => q _ _ H2 (g.trans g2) (by show rO (rP3 K rS rS (rM rS)) (unsureL ps L ls) _ _; rw [e2]; rfl)
end
end Ob
set_option maxRecDepth 100000
set_option maxHeartbeats 4000000
/-! Kdc: a dict comprehension of two clauses (turned from the library's rule for a list comprehension of two clauses). -/
namespace Ob
open PySem PySem.Spec PyProof.Rows L2
theorem dcTurn_out (kx vx t0 i0 t1 i1 : Expr) (ifs0 ifs1 : List Expr) (scope : Scope) (pos : Pos) (it : Value) (acc : Addr) (env : Env) :
    compTurn (.DictComp kx vx [⟨t0, i0, ifs0, 0⟩, ⟨t1, i1, ifs1, 0⟩] scope pos) 0 it (.ref acc) env = (do
      standAt i0.pos
      match ← pyNext it with
      | none => pure (.done .next)
      | some v =>
        letOwnedTupleGo t0 it v
        assign t0 env v
        let mut ok := true
        for c in ifs0 do
          if ok then ok ← isTrue c env (eval c env)
        if ok then
          let x ← eval i1 env
          standAt i1.pos
          let x ← foldedSetIterable i1 env x
          let _ ← runOwn (.compStart (.DictComp kx vx [⟨t0, i0, ifs0, 0⟩, ⟨t1, i1, ifs1, 0⟩] scope pos) 1 (← holding [x] (pyIter x)) (.ref acc) env) env
        again (.compLoop (.DictComp kx vx [⟨t0, i0, ifs0, 0⟩, ⟨t1, i1, ifs1, 0⟩] scope pos) 0 it (.ref acc) env)) := by rfl
theorem dcTurn_in (kx vx t0 i0 t1 i1 : Expr) (ifs0 ifs1 : List Expr) (scope : Scope) (pos : Pos) (it : Value) (acc : Addr) (env : Env) :
    compTurn (.DictComp kx vx [⟨t0, i0, ifs0, 0⟩, ⟨t1, i1, ifs1, 0⟩] scope pos) 1 it (.ref acc) env = (do
      standAt i1.pos
      match ← pyNext it with
      | none => pure (.done .next)
      | some v =>
        letOwnedTupleGo t1 it v
        assign t1 env v
        let mut ok := true
        for c in ifs1 do
          if ok then ok ← isTrue c env (eval c env)
        if ok then
          (do
            let kv ← eval kx env
            let vv ← holding [kv] (eval vx env)
            standAt { kx.pos with endLine := vx.pos.endLine, endCol := vx.pos.endCol }
            holding [kv, vv] (dictSet acc kv vv))
        again (.compLoop (.DictComp kx vx [⟨t0, i0, ifs0, 0⟩, ⟨t1, i1, ifs1, 0⟩] scope pos) 1 it (.ref acc) env)) := by rfl

section
variable {prog : Program} {w : World} {A : Around} {R : Result → Shared → Prop} {s : Shared} {kx vx t0 i0 t1 i1 : Expr} {ifs0 ifs1 : List Expr} {scope : Scope} {pos : Pos} {it : Value} {acc : Addr} {env : Env}
/-- the loop of the first clause -/
theorem dcLoop_out (hs : ∀ x, foldedSetIterable i1 env x = pure x) (I : Nat → Shared → Prop)
    (turn : ∀ n s, I n s → wpAny (model prog w) A (pyNext it) (fun r s₁ => match r with
      | none => R (.ok .next) s₁
      | some v => wpAny (model prog w) A (letOwnedTupleGo t0 it v) (fun _ s₁' => wpAny (model prog w) A (assign t0 env v) (fun _ s₂ =>
          wpAny (model prog w) A (forIn ifs0 true fun c r => if r = true then do let ok ← isTrue c env (eval c env); pure (ForInStep.yield ok) else pure (ForInStep.yield r)) (fun ok s₃ =>
            if ok = true then wpAny (model prog w) A (eval i1 env) (fun x s₄ => wpAny (model prog w) A (pyIter x) (fun it1 s₅ =>
              codeAny (model prog w) A (.compStart (.DictComp kx vx [⟨t0, i0, ifs0, 0⟩, ⟨t1, i1, ifs1, 0⟩] scope pos) 1 it1 (.ref acc) env) (fun r s' => match r with
                | .ok _ => ∃ m, m < n ∧ I m s'
                | .error _ => False) s₅) (notedBy (model prog w) A env fun e s' => R (.error e) s') s₄) (notedBy (model prog w) A env fun e s' => R (.error e) s') s₃
            else ∃ m, m < n ∧ I m s₃) (notedBy (model prog w) A env fun e s' => R (.error e) s') s₂) (notedBy (model prog w) A env fun e s' => R (.error e) s') s₁') (notedBy (model prog w) A env fun e s' => R (.error e) s') s₁) (notedBy (model prog w) A env fun e s' => R (.error e) s') s)
    (n : Nat) (h : I n s) :
    codeAny (model prog w) A (.compLoop (.DictComp kx vx [⟨t0, i0, ifs0, 0⟩, ⟨t1, i1, ifs1, 0⟩] scope pos) 0 it (.ref acc) env) R s := by
  refine codeAny_loop rfl I (fun n s hI => ?_) n h
  show wpAny _ A ((compTurn (.DictComp kx vx [⟨t0, i0, ifs0, 0⟩, ⟨t1, i1, ifs1, 0⟩] scope pos) 0 it (.ref acc) env).onRaise (fun x => do noteFrame x env; theTreesLotGoes x)) _ _ s
  refine wpAny_noted ?_
  rw [dcTurn_out]
  refine wpAny_bind (wpAny_standAt (wpAny_bind (wpAny_mono (turn n s hI) (fun r s₁ h₁ => ?_) fun _ _ h' => h')))
  cases r with
  | none => exact wpAny_pure h₁
  | some v =>
    refine wpAny_bind (wpAny_mono h₁ (fun _ s₁' h₁' => ?_) fun _ _ h' => h')
    refine wpAny_bind (wpAny_mono h₁' (fun _ s₂ h₂ => wpAny_bind (wpAny_mono h₂ (fun ok s₃ h₃ => ?_) fun _ _ h' => h')) fun _ _ h' => h')
    cases ok with
    | false => exact wpAny_pure ⟨rfl, h₃⟩
    | true =>
      refine wpAny_bind (wpAny_mono h₃ (fun x s₄ h₄ => ?_) fun _ _ h' => h')
      refine wpAny_bind (wpAny_standAt (wpAny_bind (wpAny_of_eq (hs x) (wpAny_bind (wpAny_holding (wpAny_mono h₄ (fun it1 s₅ h₅ => ?_) fun _ _ h' => h'))))))
      refine wpAny_bind (wpAny_runOwn ?_)
      rw [Around.mark_none]
      refine codeAny_mono h₅ fun r s' hr => ?_
      cases r with
      | ok f =>
        first
          | exact wpAny_pure ⟨rfl, hr⟩
          | exact wpAny_bind (wpAny_pure (wpAny_pure ⟨rfl, hr⟩))
      | error e => exact hr.elim
/-- the loop of the second -/
theorem dcLoop_in (I : Nat → Shared → Prop)
    (turn : ∀ n s, I n s → wpAny (model prog w) A (pyNext it) (fun r s₁ => match r with
      | none => R (.ok .next) s₁
      | some v => wpAny (model prog w) A (letOwnedTupleGo t1 it v) (fun _ s₁' => wpAny (model prog w) A (assign t1 env v) (fun _ s₂ =>
          wpAny (model prog w) A (forIn ifs1 true fun c r => if r = true then do let ok ← isTrue c env (eval c env); pure (ForInStep.yield ok) else pure (ForInStep.yield r)) (fun ok s₃ =>
            if ok = true then wpAny (model prog w) A (eval kx env) (fun kv s₄ => wpAny (model prog w) A (eval vx env) (fun vv s₅ =>
              wpAny (model prog w) A (dictSet acc kv vv) (fun _ s₆ => ∃ m, m < n ∧ I m s₆) (notedBy (model prog w) A env fun e s' => R (.error e) s') s₅) (notedBy (model prog w) A env fun e s' => R (.error e) s') s₄) (notedBy (model prog w) A env fun e s' => R (.error e) s') s₃
            else ∃ m, m < n ∧ I m s₃) (notedBy (model prog w) A env fun e s' => R (.error e) s') s₂) (notedBy (model prog w) A env fun e s' => R (.error e) s') s₁') (notedBy (model prog w) A env fun e s' => R (.error e) s') s₁) (notedBy (model prog w) A env fun e s' => R (.error e) s') s)
    (n : Nat) (h : I n s) :
    codeAny (model prog w) A (.compLoop (.DictComp kx vx [⟨t0, i0, ifs0, 0⟩, ⟨t1, i1, ifs1, 0⟩] scope pos) 1 it (.ref acc) env) R s := by
  refine codeAny_loop rfl I (fun n s hI => ?_) n h
  show wpAny _ A ((compTurn (.DictComp kx vx [⟨t0, i0, ifs0, 0⟩, ⟨t1, i1, ifs1, 0⟩] scope pos) 1 it (.ref acc) env).onRaise (fun x => do noteFrame x env; theTreesLotGoes x)) _ _ s
  refine wpAny_noted ?_
  rw [dcTurn_in]
  refine wpAny_bind (wpAny_standAt (wpAny_bind (wpAny_mono (turn n s hI) (fun r s₁ h₁ => ?_) fun _ _ h' => h')))
  cases r with
  | none => exact wpAny_pure h₁
  | some v =>
    refine wpAny_bind (wpAny_mono h₁ (fun _ s₁' h₁' => ?_) fun _ _ h' => h')
    refine wpAny_bind (wpAny_mono h₁' (fun _ s₂ h₂ => wpAny_bind (wpAny_mono h₂ (fun ok s₃ h₃ => ?_) fun _ _ h' => h')) fun _ _ h' => h')
    cases ok with
    | false => exact wpAny_pure ⟨rfl, h₃⟩
    | true =>
      exact wpAny_bind (wpAny_bind (wpAny_mono h₃ (fun kv s₄ h₄ => wpAny_bind (wpAny_holding (wpAny_mono h₄ (fun vv s₅ h₅ => wpAny_bind (wpAny_standAt (wpAny_holding (wpAny_mono h₅ (fun _ s₆ h₆ => wpAny_pure ⟨rfl, h₆⟩) fun _ _ h' => h')))) fun _ _ h' => h'))) fun _ _ h' => h'))
/-- the second clause's start -/
theorem dcStart_ok (h0 : codeAny (model prog w) A (.compLoop (.DictComp kx vx [⟨t0, i0, ifs0, 0⟩, ⟨t1, i1, ifs1, 0⟩] scope pos) 1 it (.ref acc) env) R s)
    (h : wpAny (model prog w) A (pyIter it) (fun it' s' => codeAny (model prog w) A (.compLoop (.DictComp kx vx [⟨t0, i0, ifs0, 0⟩, ⟨t1, i1, ifs1, 0⟩] scope pos) 1 it' (.ref acc) env) R s')
      (notedBy (model prog w) A env fun x s' => R (.error x) s') s) :
    codeAny (model prog w) A (.compStart (.DictComp kx vx [⟨t0, i0, ifs0, 0⟩, ⟨t1, i1, ifs1, 0⟩] scope pos) 1 it (.ref acc) env) R s := by
  refine codeAny_of_tree ?_
  show wpAny _ _ ((compStart (.DictComp kx vx [⟨t0, i0, ifs0, 0⟩, ⟨t1, i1, ifs1, 0⟩] scope pos) 1 it (.ref acc) env).onRaise (fun x => do noteFrame x env; standAt theWindowsPlace)) _ _ s
  refine wpAny_notedAt ?_
  unfold compStart
  show wpAny _ _ (ask >>= _) _ _ s
  refine wpAny_bind (wpAny_askSetting (wpAny_ite ?_))
  split
  · first
      | exact wpAny_bind (wpAny_pure (wpAny_pure (And.intro rfl h0)))
      | exact wpAny_pure (And.intro rfl h0)
  · first
      | exact wpAny_bind (wpAny_rule (wpAny_bind (wpAny_standAt (wpAny_bind (wpAny_mono h (fun it' s' h' => wpAny_pure (And.intro rfl h')) fun _ _ x => x)))))
      | (refine wpAny_bind (wpAny_rule ?_); show wpAny _ _ (standAt i1.pos >>= _) _ _ s; exact wpAny_bind (wpAny_standAt (wpAny_bind (wpAny_mono h (fun it' s' h' => wpAny_pure (And.intro rfl h')) fun _ _ x => x))))
end

section
variable {X : Cx}
/-- {kx: vx for tg in iter if .. for tg1 in iter1 if ..}: behind the first clause's store and tests the second source's own loop, from which Nx is reached. vs: the block's names; vs1: those of the second target -/
def tDc2 (wi : TI) (g : TG) (tt : TT) (wi1 : TI) (g1 : TG) (tt1 : TT) (tk tv : TE) (vs vs1 : List Nat) : TE := fun σ H Q => wi σ H fun J H1 => ∀ D, H1 D = none → ∃ W : Nat → Nat → Hp → Prop, (∃ m, W 0 m (upd H1 D (.dK []))) ∧ ∀ i m H, W i m H →
  (J.stop i H ∧ Q (.ref D) H) ∨ (J.go i H ∧ ∃ Nx : Hp → Prop, (∀ H', Nx H' → ∃ m', m' < m ∧ W (i + 1) m' H') ∧ ∀ x H', J.yld i H x H' → g x (wipe σ vs) H' fun σ2 H2 => wipe σ2 vs = wipe σ vs ∧ tt σ2 H2 fun b H3 =>
    if b = true then wi1 σ2 H3 fun J1 H4 => ∃ W1 : Nat → Nat → Hp → Prop, (∃ m, W1 0 m H4) ∧ ∀ j k H, W1 j k H →
      (J1.stop j H ∧ Nx H) ∨ (J1.go j H ∧ ∃ Nx1 : Hp → Prop, (∀ H', Nx1 H' → ∃ k', k' < k ∧ W1 (j + 1) k' H') ∧ ∀ x H', J1.yld j H x H' → g1 x (wipe σ2 vs1) H' fun σ3 H5 => wipe σ3 vs1 = wipe σ2 vs1 ∧ tt1 σ3 H5 fun b H6 =>
        if b = true then tk σ3 H6 fun y H7 => tv σ3 H7 fun z H8 => ∃ kvs k, y = kV k ∧ H8 D = some (.dK kvs) ∧ kvs.length < sizeLine ∧ Nx1 (upd H8 D (.dK (putK kvs k z))) else Nx1 H6)
    else Nx H3)
theorem dc2_core {pins : List (Addr × Obj)} {s : Shared} {σ : L2.St} {H : Hp} {Q : VK} {kx vx tg iter tg1 iter1 : Expr} {ifs ifs1 : List Expr} {scope : Scope} {own : List (Str × Nat)} {vs1 : List Nat} {pos pos' : Pos} {wi wi1 : TI} {g g1 : TG} {tt tt1 : TT} {tk tv : TE} {use : Option (Value → Sem Unit)} {Qf : Value → Shared → Prop}
    (hc : X.calm = true) (hN : X.N.Nodup) (I : L2.Inv X pins σ H s) (hi : PI X tg iter wi) (ok : BlkOk X.N X.env.scope scope own) (hv : ∀ i ∈ vs1, i ∈ own.map (·.2))
    (hg : ∀ (s : Shared) (H : Hp) (C : Addr) (cl : List (Str × Addr)) (fp : List Addr), PG (X.blk s H scope (compEnvC scope cl C X.env) fp) tg g) (ht : ∀ (s : Shared) (H : Hp) (C : Addr) (cl : List (Str × Addr)) (fp : List Addr), PTs (X.blk s H scope (compEnvC scope cl C X.env) fp) ifs tt)
    (hk : ∀ (s : Shared) (H : Hp) (C : Addr) (cl : List (Str × Addr)) (fp : List Addr), PE (X.blk s H scope (compEnvC scope cl C X.env) fp) kx tk) (he : ∀ (s : Shared) (H : Hp) (C : Addr) (cl : List (Str × Addr)) (fp : List Addr), PE (X.blk s H scope (compEnvC scope cl C X.env) fp) vx tv) (hs : ∀ x, foldedSetIterable iter X.env x = pure x)
    (hi1 : ∀ (s : Shared) (H : Hp) (C : Addr) (cl : List (Str × Addr)) (fp : List Addr), PI (X.blk s H scope (compEnvC scope cl C X.env) fp) tg1 iter1 wi1)
    (hg1 : ∀ (s : Shared) (H : Hp) (C : Addr) (cl : List (Str × Addr)) (fp : List Addr), PG (X.blk s H scope (compEnvC scope cl C X.env) fp) tg1 g1)
    (ht1 : ∀ (s : Shared) (H : Hp) (C : Addr) (cl : List (Str × Addr)) (fp : List Addr), PTs (X.blk s H scope (compEnvC scope cl C X.env) fp) ifs1 tt1)
    (hs1 : ∀ env x, foldedSetIterable iter1 env x = pure x)
    (h : tDc2 wi g tt wi1 g1 tt1 tk tv (own.map (·.2)) vs1 σ H Q)
    (hRR : ∀ D C s' m H', L2.Inv X pins σ H' s' → Q (.ref D) H' → s'.heap.Ns C m → FpOk X pins H' C → compPost (model X.prog X.w) X.A X.xe use Qf (.ref D) C (.ok .next) s') :
    wpAny (model X.prog X.w) X.A (comprehension (.DictComp kx vx [⟨tg, iter, ifs, 0⟩, ⟨tg1, iter1, ifs1, 0⟩] scope pos) scope X.env pos' newDict false (eval iter X.env) use) Qf X.xe s := by
  have hfree : ∀ y ∈ scope.names, y.2 = .free → ∃ c, X.env.cells.lookup y.1 = some c := fun y hy e => by
    rcases ok.free y hy e with k | k
    · exact I.ok.has _ (.inl k)
    · exact I.ok.has _ (.inr k)
  refine wpAny_comprehension_free (use := use) rfl hs (closure_ok hfree) ok.kind (fun y hy e => by rw [ok.uniq y hy, e])
    (thn (hi.run pins s σ H _ I h) fun xv s1 hx => thn hx fun itv s2 h2 => ?_)
  obtain ⟨it, fp, tn, J, H2, e, I2, T, st2, f2, q⟩ := h2
  subst e
  refine wpAny_newObj_type (newEnv_comp ?_)
  generalize hD : s2.heap.objs.size = D
  have hDn : H2 D = none := I2.hok.fresh (Nat.le_of_eq hD)
  obtain ⟨W, ⟨m0, w0⟩, turn⟩ := q D hDn
  -- the new list
  generalize hs3 : ({ s2 with heap := s2.heap.push { cls := .type "dict", data := .dict #[] } } : Shared) = s3
  have I3 : L2.Inv X pins σ (upd H2 D (.dK [])) s3 := by
    rw [← hs3]
    refine I2.laid (t' := s2.toks) (fun b o e => Heap.get?_push_of_some _ e) (Nat.le_of_eq hD) ?_
    rw [← hD]
    exact dk_empty s2.heap I2.big
  have h3 : s3.heap = s2.heap.push { cls := .type "dict", data := .dict #[] } := by rw [← hs3]
  have sz : ∀ b ∈ fp, b < s2.heap.objs.size := fun b hb => by
    obtain ⟨o, e, _⟩ := T.obj _ _ st2 b hb
    exact Heap.lt_size e
  have f3 : ∀ b ∈ fp, FpOk X pins (upd H2 D (.dK [])) b ∧ b < s3.heap.objs.size := fun b hb => by
    have hlt := sz b hb
    refine ⟨⟨?_, (f2 b hb).2⟩, by rw [h3, Heap.size_push]; exact Nat.lt_succ_of_lt hlt⟩
    rw [upd_ne (by rw [← hD]; exact Nat.ne_of_lt hlt)]
    exact (f2 b hb).1
  have st3 : tn 0 s3.heap := T.keep _ _ _ st2 fun b _ o e => by rw [h3]; exact Heap.get?_push_of_some _ e
  have I4 := block_start I3 ok hN f3
  have pg := hg s3 (upd H2 D (.dK [])) s3.heap.objs.size (cellsFrom (s3.heap.objs.size + 1) scope.names (cloFrom X.env.cells scope.names [])) fp
  have pt := ht s3 (upd H2 D (.dK [])) s3.heap.objs.size (cellsFrom (s3.heap.objs.size + 1) scope.names (cloFrom X.env.cells scope.names [])) fp
  have pk := hk s3 (upd H2 D (.dK [])) s3.heap.objs.size (cellsFrom (s3.heap.objs.size + 1) scope.names (cloFrom X.env.cells scope.names [])) fp
  have pe := he s3 (upd H2 D (.dK [])) s3.heap.objs.size (cellsFrom (s3.heap.objs.size + 1) scope.names (cloFrom X.env.cells scope.names [])) fp
  have pi1 := hi1 s3 (upd H2 D (.dK [])) s3.heap.objs.size (cellsFrom (s3.heap.objs.size + 1) scope.names (cloFrom X.env.cells scope.names [])) fp
  have pg1 := hg1 s3 (upd H2 D (.dK [])) s3.heap.objs.size (cellsFrom (s3.heap.objs.size + 1) scope.names (cloFrom X.env.cells scope.names [])) fp
  have pt1 := ht1 s3 (upd H2 D (.dK [])) s3.heap.objs.size (cellsFrom (s3.heap.objs.size + 1) scope.names (cloFrom X.env.cells scope.names [])) fp
  show codeAny _ _ (.compStart (.DictComp kx vx [⟨tg, iter, ifs, 0⟩, ⟨tg1, iter1, ifs1, 0⟩] scope pos) 0 (.ref it) (.ref D) (compEnvC scope (cellsFrom (s3.heap.objs.size + 1) scope.names (cloFrom X.env.cells scope.names [])) s3.heap.objs.size X.env)) (compPost (model X.prog X.w) X.A X.xe use Qf (.ref D) s3.heap.objs.size) { s3 with heap := pushCells (s3.heap.push { cls := .type "dict", data := .dict #[] }) scope.names }
  have nfp : ∀ b ∈ fp, (upd H2 D (.dK [])) b = none := fun b hb => (f3 b hb).1.1
  generalize hce : compEnvC scope (cellsFrom (s3.heap.objs.size + 1) scope.names (cloFrom X.env.cells scope.names [])) s3.heap.objs.size X.env = ce at I4 pg pt pk pe pi1 pg1 pt1 ⊢
  have cL : ce.locals = s3.heap.objs.size := by subst hce; rfl
  generalize hH3 : upd H2 D (.dK []) = H3 at I3 I4 pg pt pk pe pi1 pg1 pt1 w0 nfp f3
  generalize hs4 : ({ s3 with heap := pushCells (s3.heap.push { cls := .type "dict", data := .dict #[] }) scope.names } : Shared) = s4 at I4 ⊢
  have st4 : tn 0 s4.heap := T.keep _ _ _ st3 fun b _ o e => by rw [← hs4]; exact pushCells_keeps _ _ _ _ (Heap.get?_push_of_some _ e)
  have stat : ∀ {σ' : L2.St} {H' : Hp} {s' : Shared}, L2.Inv (X.blk s3 H3 scope ce fp) [] σ' H' s' → (∀ b ∈ fp, H' b = none) → ∀ b ∈ fp, FpOk (X.blk s3 H3 scope ce fp) [] H' b := fun {σ' H' s'} I' hn b hb =>
    ⟨hn b hb, (I'.ok.exf b hb).1, I'.ok.exfs b hb, .inl hb, fun x c e => (I'.ok.exf b hb).2 x c e, fun p hp => absurd (show p ∈ ([] : List (Addr × Obj)) ++ [] from hp) (by simp)⟩
  have loop : codeAny (model X.prog X.w) X.A (.compLoop (.DictComp kx vx [⟨tg, iter, ifs, 0⟩, ⟨tg1, iter1, ifs1, 0⟩] scope pos) 0 (.ref it) (.ref D) ce) (compPost (model X.prog X.w) X.A X.xe use Qf (.ref D) s3.heap.objs.size) s4 := by
    refine dcLoop_out (hs1 ce) (fun n s' => ∃ i H', L2.Inv (X.blk s3 H3 scope ce fp) [] (wipe σ (own.map (·.2))) H' s' ∧ tn i s'.heap ∧ (∀ b ∈ fp, H' b = none) ∧ W i n H') ?_ m0 ⟨0, H3, I4, st4, nfp, w0⟩
    rintro n s5 ⟨i, H5, I5, st5, n5, w5⟩
    rcases turn i n H5 w5 with ⟨stop, qq⟩ | ⟨go, Nx, hNx, step⟩
    · have td := T.done (X.blk s3 H3 scope ce fp) rfl rfl rfl hc i [] s5 _ H5 (fun _ _ => False) I5 (stat I5 n5) st5 stop
      refine thnF td fun r s6 ⟨hr, I6⟩ => ?_
      subst hr
      -- back in the def's context
      have I7 : L2.Inv X pins σ H5 s6 := I3.call' (ch := fp) I6.os I6.base I6.hok I6.bare fun b hb => ⟨(f3 b hb).1.2.2.2.1, (f3 b hb).1.2.1, (f3 b hb).1.2.2.2.2.1, (f3 b hb).1.2.2.2.2.2⟩
      have nC : H5 s3.heap.objs.size = none := by
        have z : H5 ce.locals = none := I6.free
        rw [cL] at z
        exact z
      obtain ⟨m, hn, _⟩ := I6.loc
      have hn : s6.heap.Ns ce.locals m := hn
      rw [cL] at hn
      exact hRR D s3.heap.objs.size s6 m H5 I7 qq hn (I3.fpOk (Nat.le_refl _) nC)
    · have ti := T.item (X.blk s3 H3 scope ce fp) rfl rfl rfl hc i [] s5 _ H5 (fun _ _ => False) I5 (stat I5 n5) st5 go
      refine thnF ti fun r s6 ⟨u, hr, h6⟩ => ?_
      subst hr
      refine thnF h6 fun _ s7 ⟨x, H7, I7, r7, y7, st7, n7⟩ => ?_
      have I7' := I7.pinned (stat I7 n7) (T.obj _ _ st7)
      refine thnF (pg.run _ s7 _ H7 x u _ I7' r7 (step x H7 y7)) fun _ s8 ⟨σ8, H8, I8, hw8, q8⟩ => ?_
      refine thnF (pt.run _ s8 σ8 H8 _ I8 q8) fun b s9 ⟨H9, I9, q9⟩ => ?_
      -- the turn's end, from any slots that know what the block knew at its start
      have fin : ∀ {σ9 : L2.St} {s' : Shared} {H' : Hp}, L2.Inv (X.blk s3 H3 scope ce fp) ([] ++ pinsAt fp s7.heap) σ9 H' s' → (wipe σ (own.map (·.2))).length = σ9.length → (∀ (j : Nat) v, (wipe σ (own.map (·.2)))[j]? = some (some v) → σ9[j]? = some (some v)) → Nx H' →
          ∃ m, m < n ∧ ∃ i H', L2.Inv (X.blk s3 H3 scope ce fp) [] (wipe σ (own.map (·.2))) H' s' ∧ tn i s'.heap ∧ (∀ b ∈ fp, H' b = none) ∧ W i m H' := fun {σ9 s' H'} I' hl hk nx => by
        obtain ⟨m', hm, w'⟩ := hNx H' nx
        have pin' : ∀ b ∈ fp, ∀ o, s7.heap.get? b = some o → s'.heap.get? b = some o ∧ H' b = none := fun b hb o e =>
          let z := I'.pin (b, o) (List.mem_append_right _ (List.mem_append_right _ (mem_pinsAt hb e)))
          ⟨z.1, z.2.1⟩
        refine ⟨m', hm, i + 1, H', (I'.unpinned (pins := [])).weak hl hk, T.keep _ _ _ st7 fun b hb o e => (pin' b hb o e).1, fun b hb => ?_, w'⟩
        obtain ⟨o, e, _⟩ := T.obj _ _ st7 b hb
        exact (pin' b hb o e).2
      have hl8 : (wipe σ (own.map (·.2))).length = σ8.length := by rw [← hw8, wipe_length]
      have hk8 : ∀ (j : Nat) v, (wipe σ (own.map (·.2)))[j]? = some (some v) → σ8[j]? = some (some v) := fun j v e => by
        rw [← hw8] at e
        exact (wipe_some e).1
      have hk9 : ∀ (j : Nat) v, (wipe σ (own.map (·.2)))[j]? = some (some v) → (wipe σ8 vs1)[j]? = some (some v) := fun j v e => by
        rw [← hw8] at e
        obtain ⟨e1, e2⟩ := wipe_some e
        rw [wipe_out fun z => e2 (hv j z)]
        exact e1
      cases b with
      | false =>
        simp only [Bool.false_eq_true, if_false] at q9 ⊢
        exact fin I9 hl8 hk8 q9
      | true =>
        simp only [if_true] at q9 ⊢
        refine thnF (pi1.run _ s9 σ8 H9 _ I9 q9) fun xv s10 hx => thnF hx fun itv s11 h11 => ?_
        obtain ⟨it1, fp1, tn1, J1, H11, e1, I11, T1, st11, f11, W1, ⟨m1, w1⟩, turn1⟩ := h11
        subst e1
        -- the inner loop
        have stat1 : ∀ {H' : Hp}, (∀ b ∈ fp1, H' b = none) → ∀ b ∈ fp1, FpOk (X.blk s3 H3 scope ce fp) ([] ++ pinsAt fp s7.heap) H' b := fun hn b hb => ⟨hn b hb, (f11 b hb).2⟩
        have loop1 : codeAny (model X.prog X.w) X.A (.compLoop (.DictComp kx vx [⟨tg, iter, ifs, 0⟩, ⟨tg1, iter1, ifs1, 0⟩] scope pos) 1 (.ref it1) (.ref D) ce)
            (fun r s' => match r with
              | .ok _ => ∃ m, m < n ∧ ∃ i H', L2.Inv (X.blk s3 H3 scope ce fp) [] (wipe σ (own.map (·.2))) H' s' ∧ tn i s'.heap ∧ (∀ b ∈ fp, H' b = none) ∧ W i m H'
              | .error _ => False) s11 := by
          refine dcLoop_in (fun k s' => ∃ j H', L2.Inv (X.blk s3 H3 scope ce fp) ([] ++ pinsAt fp s7.heap) (wipe σ8 vs1) H' s' ∧ tn1 j s'.heap ∧ (∀ b ∈ fp1, H' b = none) ∧ W1 j k H') ?_ m1 ⟨0, H11, I11.weak (wipe_length _ _) (fun j v e => (wipe_some e).1), st11, fun b hb => (f11 b hb).1, w1⟩
          rintro k s12 ⟨j, H12, I12, st12, n12, w12⟩
          rcases turn1 j k H12 w12 with ⟨stop1, nx1⟩ | ⟨go1, Nx1, hNx1, step1⟩
          · refine thnF (T1.done (X.blk s3 H3 scope ce fp) rfl rfl rfl hc j _ s12 (wipe σ8 vs1) H12 (fun _ _ => False) I12 (stat1 n12) st12 stop1) fun r s13 ⟨hr, I13⟩ => ?_
            subst hr
            exact fin I13 (hl8.trans (wipe_length σ8 vs1).symm) hk9 nx1
          · refine thnF (T1.item (X.blk s3 H3 scope ce fp) rfl rfl rfl hc j _ s12 (wipe σ8 vs1) H12 (fun _ _ => False) I12 (stat1 n12) st12 go1) fun r s13 ⟨u1, hr, h13⟩ => ?_
            subst hr
            refine thnF h13 fun _ s14 ⟨x1, H14, I14, r14, y14, st14, n14⟩ => ?_
            have I14' := I14.pinned (stat1 n14) (T1.obj _ _ st14)
            refine thnF (pg1.run _ s14 (wipe σ8 vs1) H14 x1 u1 _ I14' r14 (step1 x1 H14 y14)) fun _ s15 ⟨σ15, H15, I15, hw15, q15⟩ => ?_
            refine thnF (pt1.run _ s15 σ15 H15 _ I15 q15) fun b1 s16 ⟨H16, I16, q16⟩ => ?_
            have fin1 : ∀ {s' : Shared} {H' : Hp}, L2.Inv (X.blk s3 H3 scope ce fp) (([] ++ pinsAt fp s7.heap) ++ pinsAt fp1 s14.heap) σ15 H' s' → Nx1 H' → ∃ m, m < k ∧ ∃ j H', L2.Inv (X.blk s3 H3 scope ce fp) ([] ++ pinsAt fp s7.heap) (wipe σ8 vs1) H' s' ∧ tn1 j s'.heap ∧ (∀ b ∈ fp1, H' b = none) ∧ W1 j m H' := fun {s' H'} I' nx => by
              obtain ⟨m', hm, w'⟩ := hNx1 H' nx
              have pin' : ∀ b ∈ fp1, ∀ o, s14.heap.get? b = some o → s'.heap.get? b = some o ∧ H' b = none := fun b hb o e =>
                let z := I'.pin (b, o) (List.mem_append_right _ (List.mem_append_right _ (mem_pinsAt hb e)))
                ⟨z.1, z.2.1⟩
              refine ⟨m', hm, j + 1, H', I'.unpinned.weak (by rw [← hw15, wipe_length]) (fun j v e => by rw [← hw15] at e; exact (wipe_some e).1), T1.keep _ _ _ st14 fun b hb o e => (pin' b hb o e).1, fun b hb => ?_, w'⟩
              obtain ⟨o, e, _⟩ := T1.obj _ _ st14 b hb
              exact (pin' b hb o e).2
            cases b1 with
            | false =>
              simp only [Bool.false_eq_true, if_false] at q16 ⊢
              exact fin1 I16 q16
            | true =>
              simp only [if_true] at q16 ⊢
              refine thnF (pk.run _ s16 σ15 H16 _ I16 q16) fun z s17 ⟨yk, H17, I17, r17, q17⟩ => ?_
              refine thnF (pe.run _ s17 σ15 H17 _ I17 q17) fun z2 s18 ⟨yv, H18, I18, r18, kvs, k2, ek, hD18, hz18, nx⟩ => ?_
              subst ek
              exact d_dictSet (X := X.blk s3 H3 scope ce fp) I18 hD18 hz18 r17 r18 fun s19 I19 => fin1 I19 nx
        exact dcStart_ok loop1 (T1.self X.A 0 _ _ _ st11 loop1)
  exact codeAny_compStart_dict loop (T.self X.A 0 _ _ _ st4 loop)
/-- as a value -/
theorem pe_dc2 {kx vx tg iter tg1 iter1 : Expr} {ifs ifs1 : List Expr} {scope : Scope} {own : List (Str × Nat)} {vs1 : List Nat} {pos : Pos} {wi wi1 : TI} {g g1 : TG} {tt tt1 : TT} {tk tv : TE} (hc : X.calm = true) (hN : X.N.Nodup) (hi : PI X tg iter wi) (ok : BlkOk X.N X.env.scope scope own) (hv : ∀ i ∈ vs1, i ∈ own.map (·.2))
    (hg : ∀ (s : Shared) (H : Hp) (C : Addr) (cl : List (Str × Addr)) (fp : List Addr), PG (X.blk s H scope (compEnvC scope cl C X.env) fp) tg g) (ht : ∀ (s : Shared) (H : Hp) (C : Addr) (cl : List (Str × Addr)) (fp : List Addr), PTs (X.blk s H scope (compEnvC scope cl C X.env) fp) ifs tt)
    (hi1 : ∀ (s : Shared) (H : Hp) (C : Addr) (cl : List (Str × Addr)) (fp : List Addr), PI (X.blk s H scope (compEnvC scope cl C X.env) fp) tg1 iter1 wi1)
    (hg1 : ∀ (s : Shared) (H : Hp) (C : Addr) (cl : List (Str × Addr)) (fp : List Addr), PG (X.blk s H scope (compEnvC scope cl C X.env) fp) tg1 g1) (ht1 : ∀ (s : Shared) (H : Hp) (C : Addr) (cl : List (Str × Addr)) (fp : List Addr), PTs (X.blk s H scope (compEnvC scope cl C X.env) fp) ifs1 tt1)
    (hk : ∀ (s : Shared) (H : Hp) (C : Addr) (cl : List (Str × Addr)) (fp : List Addr), PE (X.blk s H scope (compEnvC scope cl C X.env) fp) kx tk) (he : ∀ (s : Shared) (H : Hp) (C : Addr) (cl : List (Str × Addr)) (fp : List Addr), PE (X.blk s H scope (compEnvC scope cl C X.env) fp) vx tv) (hs : ∀ x, foldedSetIterable iter X.env x = pure x := by intro _; rfl) (hs1 : ∀ env x, foldedSetIterable iter1 env x = pure x := by intro _ _; rfl) :
    PE X (.DictComp kx vx [⟨tg, iter, ifs, 0⟩, ⟨tg1, iter1, ifs1, 0⟩] scope pos) (tDc2 wi g tt wi1 g1 tt1 tk tv (own.map (·.2)) vs1) := by
  refine ⟨fun pins s σ H Q I h => ?_⟩
  rw [arm_eval_DictComp]
  refine dc2_core hc hN I hi ok hv hg ht hk he hs hi1 hg1 ht1 hs1 h fun D C s' m H' I' q hn f => ⟨m, hn, fun h'' sb => ?_⟩
  obtain ⟨f0, f1, f2, f3, f4, f5⟩ := f
  exact ⟨.ref D, H', I'.turned (t' := s'.toks) (fun b o hb e => (sb.2 b hb).trans e) f0 f1 f3 f4 f5, rfl, q⟩
end
end Ob
set_option maxRecDepth 100000
set_option maxHeartbeats 4000000
/-! Kda: dicts with texts as keys; a debate; words for both. -/
namespace Ob
open PySem PySem.Spec PyProof.Rows L2
section
variable {K : PySem.W.Frag} {G H G0 H0 G2 H2 : Hp} {p : Addr} {o : HO}
theorem kn_plusO (e : Kn K G H) (h : H p = some o) : Kn K (upd G p o) H := ⟨⟨fun b u q n => by
    by_cases hb : b = p
    · rw [hb, upd_same] at q; cases q; rw [hb]; exact h
    · rw [upd_ne hb] at q; exact e.ex.ob b u q n, fun b ps q => by
    by_cases hb : b = p
    · rw [hb, upd_same] at q; cases q; rw [hb]; exact ⟨_, h⟩
    · rw [upd_ne hb] at q; exact e.ex.tt b ps q, fun b q => by
    by_cases hb : b = p
    · rw [hb] at q; rw [h] at q; cases q
    · rw [upd_ne hb]; exact e.ex.no b q⟩, e.tb⟩
theorem Gr.plusO (g : Gr K G0 H0 G H) (h0 : H0 p = none) (hl : H p = some o) (hg : G p = none) : Gr K G0 H0 (upd G p o) H :=
  ⟨g.kk.trans (Ex.new hg), kn_plusO g.kn hl, g.hh, fun b h1 h2 => by rw [upd_ne (h2.ne h0)]; exact g.sp b h1 h2⟩
theorem Gr.mutK {kvs : List (Key × V)} (g : Gr K G H G2 H2) (h1 : G2 p = none) (h2 : H p = none) (h3 : H2 p = some (.dK kvs)) : Gr K G H G2 (upd H2 p o) :=
  ⟨g.kk, ⟨g.kh.mut h1, tb_mut g.kn.tb (fun ps z => by rw [h3] at z; cases z) fun q z => by rw [h3] at z; unfold LamX.CodeO at z; cases z⟩, g.hh.mut h2, g.sp⟩
end
/-! ### dicts -/
def zipK (xs : Lot) (vs : List V) : List (Key × V) := List.zipWith (fun x v => ((Sum.inr x : Key), v)) xs vs
def rDf {α : Type} (R : Rp α) (f : Str → α) : Rp Lot := fun xs v H => ∃ p vs, v = .ref p ∧ H p = some (.dK (zipK xs vs)) ∧ AllR (fun x v H => PyData.strOk x = true ∧ R (f x) v H) xs vs H
instance {α : Type} {R : Rp α} [Mo R] {f : Str → α} : Mo (fun x v H => PyData.strOk x = true ∧ R (f x) v H) := ⟨fun e h => ⟨h.1, Mo.mo (R := R) e h.2⟩⟩
instance {α : Type} {R : Rp α} [Mo R] {f : Str → α} : Mo (rDf R f) := ⟨fun e ⟨p, vs, h1, h2, h3⟩ => ⟨p, vs, h1, e.d h2, h3.mono e⟩⟩
abbrev rKs : Rp Lot := rDf rB fun _ => true
theorem valV_cons {p : Key × V} {r : List (Key × V)} {k : Key} : valV (p :: r) k = if p.1 = k then some p.2 else valV r k := by
  by_cases h : p.1 = k
  · rw [valV_pos h, if_pos h]
  · rw [valV_neg h, if_neg h]
theorem val_zip {α : Type} {R : Rp α} {f : Str → α} {H : Hp} {x : Str} : ∀ {xs : Lot} {vs : List V}, AllR (fun x v H => PyData.strOk x = true ∧ R (f x) v H) xs vs H → (x ∈ xs → ∃ v, valV (zipK xs vs) (Sum.inr x) = some v ∧ R (f x) v H) ∧ (x ∉ xs → valV (zipK xs vs) (Sum.inr x) = none)
  | [], [], _ => ⟨fun h => absurd h List.not_mem_nil, fun _ => rfl⟩
  | y :: ys, v :: vs, h => by
    have ih := val_zip (x := x) h.2
    have e : valV (zipK (y :: ys) (v :: vs)) (Sum.inr x) = if y = x then some v else valV (zipK ys vs) (Sum.inr x) := by
      show valV ((Sum.inr y, v) :: zipK ys vs) _ = _
      rw [valV_cons]
      by_cases q : y = x
      · rw [if_pos q, if_pos (by rw [q])]
      · rw [if_neg q, if_neg (fun z => q (Sum.inr.inj z))]
    rw [e]
    by_cases q : y = x
    · rw [if_pos q]
      exact ⟨fun _ => ⟨v, rfl, by rw [← q]; exact h.1.2⟩, fun z => absurd (by rw [q]; exact List.mem_cons_self ..) z⟩
    · rw [if_neg q]
      exact ⟨fun z => ih.1 ((List.mem_cons.mp z).resolve_left fun w => q w.symm), fun z => ih.2 fun w => z (List.mem_cons_of_mem _ w)⟩
  | [], _ :: _, h => h.elim
  | _ :: _, [], h => h.elim
/-- one key more, if it is new -/
def insK (xs : Lot) (x : Str) : Lot := if x ∈ xs then xs else xs ++ [x]
def dedup (xs : Lot) : Lot := xs.foldl insK []
theorem dedup_take {xs : Lot} {i : Nat} {x : Str} (e : xs[i]? = some x) : dedup (xs.take (i + 1)) = insK (dedup (xs.take i)) x := by
  unfold dedup
  rw [List.take_add_one, e, List.foldl_append]
  rfl
theorem insK_len (xs : Lot) (x : Str) : (insK xs x).length ≤ xs.length + 1 := by
  unfold insK
  split
  · omega
  · simp
theorem fold_len : ∀ (xs ys : Lot), (xs.foldl insK ys).length ≤ ys.length + xs.length
  | [], ys => Nat.le_refl _
  | x :: xs, ys => by
    have := fold_len xs (insK ys x)
    have := insK_len ys x
    simp only [List.foldl_cons, List.length_cons]
    omega
theorem fold_mem {x : Str} : ∀ (xs ys : Lot), x ∈ xs.foldl insK ys ↔ x ∈ ys ∨ x ∈ xs
  | [], ys => by simp
  | y :: xs, ys => by
    rw [List.foldl_cons, fold_mem xs]
    unfold insK
    split
    · rename_i h
      constructor
      · rintro (h1 | h1)
        · exact .inl h1
        · exact .inr (List.mem_cons_of_mem _ h1)
      · rintro (h1 | h1)
        · exact .inl h1
        · rcases List.mem_cons.mp h1 with rfl | h1
          · exact .inl h
          · exact .inr h1
    · rw [List.mem_append, List.mem_singleton, List.mem_cons]
      constructor
      · rintro ((h1 | h1) | h1)
        · exact .inl h1
        · exact .inr (.inl h1)
        · exact .inr (.inr h1)
      · rintro (h1 | h1 | h1)
        · exact .inl (.inl h1)
        · exact .inl (.inr h1)
        · exact .inr h1
theorem dedup_mem {x : Str} {xs : Lot} : x ∈ dedup xs ↔ x ∈ xs := by
  unfold dedup
  rw [fold_mem]
  simp
theorem fold_nodup : ∀ (xs ys : Lot), ys.Nodup → (xs.foldl insK ys).Nodup
  | [], ys, h => h
  | x :: xs, ys, h => fold_nodup xs _ (by
    unfold insK
    split
    · exact h
    · rename_i q
      rw [List.nodup_append]
      exact ⟨h, by simp, fun a ha b hb => by rw [List.mem_singleton.mp hb]; exact fun z => q (z ▸ ha)⟩)
theorem dedup_nodup (xs : Lot) : (dedup xs).Nodup := fold_nodup xs [] List.nodup_nil
abbrev kT (xs : Lot) : List (Key × V) := xs.map fun x => ((Sum.inr x : Key), V.bl true)
theorem put_kT (xs : Lot) (x : Str) : putK (kT xs) (Sum.inr x) (.bl true) = kT (insK xs x) := by
  unfold putK insK
  have e : (kT xs).any (fun kv => decide (kv.1 = Sum.inr x)) = decide (x ∈ xs) := by
    induction xs with
    | nil => rfl
    | cons y ys ih =>
      rw [show kT (y :: ys) = (Sum.inr y, V.bl true) :: kT ys from rfl, List.any_cons, ih, ← Bool.decide_or]
      exact decide_eq_decide.mpr ⟨fun h => List.mem_cons.mpr (h.imp (fun z => (Sum.inr.inj z).symm) id), fun h => (List.mem_cons.mp h).imp (fun z => by rw [z]) id⟩
  rw [e]
  by_cases h : x ∈ xs
  · rw [if_pos (decide_eq_true h), if_pos h]
    show (xs.map _).map _ = _
    rw [List.map_map]
    refine List.map_congr_left fun y _ => ?_
    show (if (Sum.inr y : Key) = Sum.inr x then ((Sum.inr y : Key), V.bl true) else (Sum.inr y, .bl true)) = _
    split <;> rfl
  · rw [if_neg (by simpa using h), if_neg h]
    simp [kT]
theorem zip_kT : ∀ xs : Lot, zipK xs (xs.map fun _ => V.bl true) = kT xs
  | [] => rfl
  | x :: xs => by
    show _ :: zipK xs (xs.map fun _ => V.bl true) = _
    rw [zip_kT xs]
    rfl
theorem kT_r {p : Addr} {H : Hp} : ∀ {xs : Lot}, (∀ x ∈ xs, PyData.strOk x = true) → AllR (fun x v H => PyData.strOk x = true ∧ rB true v H) xs (xs.map fun _ => V.bl true) H
  | [], _ => trivial
  | x :: xs, h => ⟨⟨h x (List.mem_cons_self ..), rfl⟩, kT_r (p := p) fun y hy => h y (List.mem_cons_of_mem _ hy)⟩
section
variable {K : PySem.W.Frag} {σ : L2.St} {G G1 H H1 : Hp} {ta tb te td ty tk tv : TE} {α β ι : Type} {R : Rp α} {S : Rp β}
/-- d[x] -/
theorem er_dget {f : Str → α} {xs : Lot} {x : Str} [Mo R] (ha : EvP K td σ G (rDf R f) xs) (hb : Ev K ty σ G (.str x)) (h : x ∈ xs) : EvP K (tDGet td ty) σ G R (f x) := fun H e Q q =>
  ha H e _ fun v G1 H1 g1 ⟨p, vs, e1, h1, h2⟩ => hb.mono g1.kk H1 g1.kn _ fun H2 g2 => by
    obtain ⟨w, e2, r⟩ := (val_zip h2).1 h
    exact ⟨p, w, e1, by rw [← e2]; exact DGet.k (k := Sum.inr x) (g2.kh.d h1), q w G1 H2 (g1.trans g2) r⟩
/-- x in d -/
theorem ev_din {f : Str → α} {xs : Lot} {x : Str} [Mo R] (hb : Ev K ty σ G (.str x)) (ha : EvP K td σ G (rDf R f) xs) : Ev K (tDIn ty td) σ G (.bl (decide (x ∈ xs))) := fun H e Q q =>
  hb H e _ fun H1 g1 => ha H1 g1.kn _ fun v G2 H2 g2 ⟨p, vs, e1, h1, h2⟩ => by
    have e3 : (valV (zipK xs vs) (Sum.inr x)).isSome = decide (x ∈ xs) := by
      by_cases h : x ∈ xs
      · obtain ⟨w, e2, r⟩ := (val_zip h2).1 h
        rw [e2, decide_eq_true h]; rfl
      · rw [(val_zip h2).2 h, decide_eq_false h]; rfl
    exact ⟨p, _, e1, DGet.k (k := Sum.inr x) (g2.kh.d h1), by rw [e3]; exact q H2 (Gr.skip e (g1.trans g2).hh g2.kn.tb)⟩
theorem ev_dnin {f : Str → α} {xs : Lot} {x : Str} [Mo R] (hb : Ev K ty σ G (.str x)) (ha : EvP K td σ G (rDf R f) xs) : Ev K (tDNotIn ty td) σ G (.bl (!decide (x ∈ xs))) := fun H e Q q =>
  hb H e _ fun H1 g1 => ha H1 g1.kn _ fun v G2 H2 g2 ⟨p, vs, e1, h1, h2⟩ => by
    have e3 : (valV (zipK xs vs) (Sum.inr x)).isSome = decide (x ∈ xs) := by
      by_cases h : x ∈ xs
      · obtain ⟨w, e2, r⟩ := (val_zip h2).1 h
        rw [e2, decide_eq_true h]; rfl
      · rw [(val_zip h2).2 h, decide_eq_false h]; rfl
    exact ⟨p, _, e1, DGet.k (k := Sum.inr x) (g2.kh.d h1), by rw [e3]; exact q H2 (Gr.skip e (g1.trans g2).hh g2.kn.tb)⟩
/-- {y: True for a in xs for y in h a} -/
theorem er_dc2 {wi wi1 : TI} {g g1 : TG} {ns ns1 : List Nat} [Mo R] {xs : List α} (h : α → Lot) (hw : EvW K wi σ G R xs) (hz : (xs.flatMap h).length < 10000000)
    (turn : ∀ a ∈ xs, ∀ x G2 H2, Ex G G2 → Kn K G2 H2 → R a x G2 → Tg g x (wipe σ ns) H2 fun σ2 => wipe σ2 ns = wipe σ ns ∧ EvW K wi1 σ2 G2 rS (h a) ∧
      ∀ y ∈ h a, ∀ z G3 H3, Ex G2 G3 → Kn K G3 H3 → rS y z G3 → Tg g1 z (wipe σ2 ns1) H3 fun σ3 => wipe σ3 ns1 = wipe σ2 ns1 ∧ Ev K tk σ3 G3 (.str y) ∧ Ev K tv σ3 G3 (.bl true)) :
    EvP K (tDc2 wi g tYes wi1 g1 tYes tk tv ns ns1) σ G rKs (dedup (xs.flatMap h)) := fun H e Q q => hw H e _ fun J G1 H1 gw wk D hD => by
  have gD : G1 D = none := gw.kh.no _ hD
  have g0 : Gr K G1 H1 G1 (upd H1 D (.dK [])) := Gr.skip gw.kn (Ex.new hD) (tb_new gw.kn.tb hD)
  refine ⟨fun i m H' => m = xs.length - i ∧ i ≤ xs.length ∧ ∃ Gi, Gr K G1 H1 Gi H' ∧ Gi D = none ∧ H' D = some (.dK (kT (dedup ((xs.take i).flatMap h)))) ∧ ∀ y ∈ (xs.take i).flatMap h, PyData.strOk y = true, ⟨xs.length, rfl, Nat.zero_le _, G1, g0, gD, upd_same, by simp⟩, ?_⟩
  rintro i m H' ⟨rfl, hi, Gi, gi, giD, hl, hok⟩
  by_cases hlt : i < xs.length
  · refine .inr ⟨wk.go i H' hlt ⟨gi.kk.trans gi.kh, gi.kn.tb⟩, fun H2 => ∃ Gi, Gr K G1 H1 Gi H2 ∧ Gi D = none ∧ H2 D = some (.dK (kT (dedup ((xs.take (i + 1)).flatMap h)))) ∧ ∀ y ∈ (xs.take (i + 1)).flatMap h, PyData.strOk y = true, fun H2 ⟨G3, k1, k2, k3, k4⟩ => ⟨xs.length - (i + 1), by omega, rfl, hlt, G3, k1, k2, k3, k4⟩, fun x H2 hy => ?_⟩
    obtain ⟨a, G2, ea, g2, ra⟩ := (wk.mono gi.kk).yld i H' x H2 hlt gi.kn hy
    have am : a ∈ xs := List.mem_of_getElem? ea
    have fm : (xs.take (i + 1)).flatMap h = (xs.take i).flatMap h ++ h a := by rw [List.take_add_one, ea, List.flatMap_append]; simp
    have D2 : G2 D = none := g2.sp D giD (hidden (hl))
    have l2 : H2 D = some (.dK (kT (dedup ((xs.take i).flatMap h)))) := g2.hh.d hl
    refine turn a am x G2 H2 ((gw.kk.trans gi.kk).trans g2.kk) g2.kn ra _ fun σ2 ⟨w1, hw1, t1⟩ => ⟨w1, ?_⟩
    refine et_yes (K := K) H2 g2.kn _ fun H2' g2' => ?_
    refine iteT ?_
    refine (hw1 H2' g2'.kn _ fun J1 G3 H3 g3 wk1 => ?_)
    replace l2 : H2' D = some (.dK (kT (dedup ((xs.take i).flatMap h)))) := g2'.hh.d l2
    have D3 : G3 D = none := g3.sp D D2 (hidden (l2))
    have gA := ((gi.trans g2).trans g2').trans g3
    refine ⟨fun j m H' => m = (h a).length - j ∧ j ≤ (h a).length ∧ ∃ Gj, Ex G3 Gj ∧ Gr K G1 H1 Gj H' ∧ Gj D = none ∧ H' D = some (.dK (kT (dedup ((xs.take i).flatMap h ++ (h a).take j)))) ∧ ∀ y ∈ (h a).take j, PyData.strOk y = true, ⟨(h a).length, rfl, Nat.zero_le _, G3, exr _, gA, D3, ?_, by simp⟩, ?_⟩
    · rw [List.take_zero, List.append_nil]
      exact g3.hh.d l2
    rintro j m H4 ⟨rfl, hj, Gj, gj, gj1, gjD, hlj, hokj⟩
    by_cases hlt1 : j < (h a).length
    · refine .inr ⟨wk1.go j H4 hlt1 ⟨gj.trans gj1.kh, gj1.kn.tb⟩, fun H5 => ∃ Gj, Ex G3 Gj ∧ Gr K G1 H1 Gj H5 ∧ Gj D = none ∧ H5 D = some (.dK (kT (dedup ((xs.take i).flatMap h ++ (h a).take (j + 1))))) ∧ ∀ y ∈ (h a).take (j + 1), PyData.strOk y = true, fun H5 ⟨G6, k1, k2, k3, k4, k5⟩ => ⟨(h a).length - (j + 1), by omega, rfl, hlt1, G6, k1, k2, k3, k4, k5⟩, fun z H5 hz5 => ?_⟩
      obtain ⟨y, G5, ey, g5, ry⟩ := (wk1.mono gj).yld j H4 z H5 hlt1 gj1.kn hz5
      have D5 : G5 D = none := g5.sp D gjD (hidden (hlj))
      refine t1 y (List.mem_of_getElem? ey) z G5 H5 ((g3.kk.trans gj).trans g5.kk) g5.kn ry _ fun σ3 ⟨w2, ek, ev⟩ => ⟨w2, ?_⟩
      refine et_yes (K := K) H5 g5.kn _ fun H6 g6 => ?_
      refine iteT ?_
      refine ek H6 g6.kn _ fun H7 g7 => ev H7 g7.kn _ fun H8 g8 => ?_
      have gB := ((g5.trans g6).trans g7).trans g8
      have l8 := gB.hh.d hlj
      have dl : (dedup ((xs.take i).flatMap h ++ (h a).take j)).length < 10000000 := by
        refine Nat.lt_of_le_of_lt (Nat.le_trans (fold_len _ _) ?_) hz
        rw [List.length_nil, Nat.zero_add, List.length_append, List.length_take]
        have e1 := congrArg List.length fm
        rw [List.length_append] at e1
        have e2 : ((xs.take (i + 1)).flatMap h).length ≤ (xs.flatMap h).length := by
          conv => rhs; rw [← List.take_append_drop (i + 1) xs, List.flatMap_append, List.length_append]
          omega
        omega
      have tk1 : (h a).take (j + 1) = (h a).take j ++ [y] := by rw [List.take_add_one, ey]; rfl
      have dd : dedup ((xs.take i).flatMap h ++ (h a).take (j + 1)) = insK (dedup ((xs.take i).flatMap h ++ (h a).take j)) y := by
        unfold dedup
        rw [tk1, ← List.append_assoc, List.foldl_append]
        rfl
      refine ⟨kT (dedup ((xs.take i).flatMap h ++ (h a).take j)), Sum.inr y, rfl, l8, Nat.lt_of_lt_of_le (by rw [List.length_map]; exact dl) (by decide), G5, ?_, (gj1.trans gB).mutK D5 hD l8, D5, by rw [upd_same, dd, put_kT], ?_⟩
      · exact gj.trans gB.kk
      · rw [tk1]
        exact fun u hu => (List.mem_append.mp hu).elim (hokj u) fun hu => by rw [List.mem_singleton.mp hu]; exact ry.2
    · have ej : j = (h a).length := by omega
      subst ej
      refine .inl ⟨wk1.stop H4 ⟨gj.trans gj1.kh, gj1.kn.tb⟩, Gj, gj1, gjD, ?_, ?_⟩
      · rw [fm]; rw [List.take_length] at hlj; exact hlj
      · rw [fm]
        rw [List.take_length] at hokj
        exact fun y hy => (List.mem_append.mp hy).elim (hok y) (hokj y)
  · have ei : i = xs.length := by omega
    subst ei
    refine .inl ⟨wk.stop H' ⟨gi.kk.trans gi.kh, gi.kn.tb⟩, ?_⟩
    rw [List.take_length] at hl hok
    refine q (.ref D) _ H' (gw.trans (gi.plusO hD hl giD)) ⟨D, _, rfl, by rw [upd_same, zip_kT], kT_r (p := D) fun y hy => hok y (dedup_mem.mp hy)⟩
end
/-! ### a debate -/
structure Deb where
  S : Lot
  O : List Pr
def obs (O : List Pr) (x : Str) : Lot := (O.filter fun p => decide (p.2 = x)).map (·.1)
def obd (O : List Pr) (x : Str) : Lot := (O.filter fun p => decide (p.1 = x)).map (·.2)
structure DebC (K : PySem.W.Frag) (C : Addr) : Prop where
  c : Cls K C
  f1 : NoAttr K C "own_statements"
  f2 : NoAttr K C "own_objections"
  f3 : NoAttr K C "own_objectors"
  f4 : NoAttr K C "own_objected"
def rDeb (K : PySem.W.Frag) : Rp Deb := fun d v H => ∃ a C dx s o r t, v = .ref a ∧ H a = some (.ins C dx [("own_statements", s), ("own_objections", o), ("own_objectors", r), ("own_objected", t)]) ∧ DebC K C ∧
  rL K rS d.S s H ∧ rPs K d.O o H ∧ rDf (rL K rS) (obs d.O) d.S r H ∧ rDf (rL K rS) (obd d.O) d.S t H
section
variable {K : PySem.W.Frag} {σ : L2.St} {G G1 H H1 : Hp} {ta tb te td ty tk tv : TE} {d : Deb}
instance : Mo (rDeb K) := ⟨fun e ⟨a, C, dx, s, o, r, t, h1, h2, h3, h4, h5, h6, h7⟩ => ⟨a, C, dx, s, o, r, t, h1, e.i h2, h3, Mo.mo e h4, Mo.mo e h5, Mo.mo e h6, Mo.mo e h7⟩⟩
theorem er_statements (h : EvP K ta σ G (rDeb K) d) : EvP K (tFld K ta "own_statements") σ G (rL K rS) d.S := fun H e Q q => h H e _ fun v G2 H2 g ⟨a, C, dx, s, o, r, t, h1, h2, h3, h4, h5, h6, h7⟩ =>
  ⟨a, C, dx, _, s, h1, g.kh.i h2, h3.c, h3.f1, rfl, q s G2 H2 g h4⟩
theorem er_objections (h : EvP K ta σ G (rDeb K) d) : EvP K (tFld K ta "own_objections") σ G (rPs K) d.O := fun H e Q q => h H e _ fun v G2 H2 g ⟨a, C, dx, s, o, r, t, h1, h2, h3, h4, h5, h6, h7⟩ =>
  ⟨a, C, dx, _, o, h1, g.kh.i h2, h3.c, h3.f2, rfl, q o G2 H2 g h5⟩
theorem er_objectors (h : EvP K ta σ G (rDeb K) d) : EvP K (tFld K ta "own_objectors") σ G (rDf (rL K rS) (obs d.O)) d.S := fun H e Q q => h H e _ fun v G2 H2 g ⟨a, C, dx, s, o, r, t, h1, h2, h3, h4, h5, h6, h7⟩ =>
  ⟨a, C, dx, _, r, h1, g.kh.i h2, h3.c, h3.f3, rfl, q r G2 H2 g h6⟩
theorem er_objected (h : EvP K ta σ G (rDeb K) d) : EvP K (tFld K ta "own_objected") σ G (rDf (rL K rS) (obd d.O)) d.S := fun H e Q q => h H e _ fun v G2 H2 g ⟨a, C, dx, s, o, r, t, h1, h2, h3, h4, h5, h6, h7⟩ =>
  ⟨a, C, dx, _, t, h1, g.kh.i h2, h3.c, h3.f4, rfl, q t G2 H2 g h7⟩
end
end Ob
set_option maxRecDepth 100000
set_option maxHeartbeats 4000000
/-! Kd4w: list comprehensions of two clauses; never; names walked. -/
namespace Ob
open PySem PySem.Spec PyProof.Rows L2
theorem pe_no {X : Cx} {e : Expr} : PE X e (fun _ _ _ => False) := ⟨fun _ _ _ _ _ _ h => h.elim⟩
section
variable {K : PySem.W.Frag} {σ : L2.St} {G G1 H H1 : Hp} {ta tb te td ty tk tv : TE} {α β γ ι : Type} {R : Rp α} {S : Rp β} {U : Rp γ}
theorem flat_take {h : α → List β} {xs : List α} {i : Nat} {a : α} (ea : xs[i]? = some a) : (xs.take (i + 1)).flatMap h = (xs.take i).flatMap h ++ h a := by rw [List.take_add_one, ea, List.flatMap_append]; simp
theorem flat_le {h : α → List β} {xs : List α} {i : Nat} {a : α} (ea : xs[i]? = some a) : ((xs.take i).flatMap h).length + (h a).length ≤ (xs.flatMap h).length := by
  have e1 := congrArg List.length (flat_take (h := h) ea)
  rw [List.length_append] at e1
  have e2 : ((xs.take (i + 1)).flatMap h).length ≤ (xs.flatMap h).length := by
    conv => rhs; rw [← List.take_append_drop (i + 1) xs, List.flatMap_append, List.length_append]
    omega
  omega
/-- [f a y for a in xs for y in h a] -/
theorem en_lc2 {wi wi1 : TI} {g g1 : TG} {ns ns1 : List Nat} [Mo R] [Mo S] [Mo U] {xs : List α} (h : α → List β) (f : α → β → γ) (hw : EvW K wi σ G R xs) (hz : (xs.flatMap h).length < 10000000)
    (turn : ∀ a ∈ xs, ∀ x G2 H2, Ex G G2 → Kn K G2 H2 → R a x G2 → Tg g x (wipe σ ns) H2 fun σ2 => wipe σ2 ns = wipe σ ns ∧ EvW K wi1 σ2 G2 S (h a) ∧
      ∀ y ∈ h a, ∀ z G3 H3, Ex G2 G3 → Kn K G3 H3 → S y z G3 → Tg g1 z (wipe σ2 ns1) H3 fun σ3 => wipe σ3 ns1 = wipe σ2 ns1 ∧ EvP K te σ3 G3 U (f a y)) :
    EvN K (tLc2 wi g tYes wi1 g1 tYes te ns ns1) σ G (AllR U (xs.flatMap fun a => (h a).map (f a))) := fun H e Q q => hw H e _ fun J G1 H1 gw wk D hD => by
  have gD : G1 D = none := gw.kh.no _ hD
  have g0 : Gr K G1 H1 G1 (upd H1 D (.lst [])) := Gr.skip gw.kn (Ex.new hD) (tb_new gw.kn.tb hD)
  refine ⟨fun i m H' => m = xs.length - i ∧ i ≤ xs.length ∧ ∃ Gi vs, Gr K G1 H1 Gi H' ∧ Gi D = none ∧ H' D = some (.lst vs) ∧ AllR U ((xs.take i).flatMap fun a => (h a).map (f a)) vs Gi, ⟨xs.length, rfl, Nat.zero_le _, G1, [], g0, gD, upd_same, by simp [AllR]⟩, ?_⟩
  rintro i m H' ⟨rfl, hi, Gi, vs, gi, giD, hl, hv⟩
  by_cases hlt : i < xs.length
  · refine .inr ⟨wk.go i H' hlt ⟨gi.kk.trans gi.kh, gi.kn.tb⟩, fun H2 => ∃ Gi vs, Gr K G1 H1 Gi H2 ∧ Gi D = none ∧ H2 D = some (.lst vs) ∧ AllR U ((xs.take (i + 1)).flatMap fun a => (h a).map (f a)) vs Gi, fun H2 ⟨G3, ws, k1, k2, k3, k4⟩ => ⟨xs.length - (i + 1), by omega, rfl, hlt, G3, ws, k1, k2, k3, k4⟩, fun x H2 hy => ?_⟩
    obtain ⟨a, G2, ea, g2, ra⟩ := (wk.mono gi.kk).yld i H' x H2 hlt gi.kn hy
    have am : a ∈ xs := List.mem_of_getElem? ea
    have fm := flat_take (h := fun a => (h a).map (f a)) ea
    have D2 : G2 D = none := g2.sp D giD (hidden (hl))
    refine turn a am x G2 H2 ((gw.kk.trans gi.kk).trans g2.kk) g2.kn ra _ fun σ2 ⟨w1, hw1, t1⟩ => ⟨w1, ?_⟩
    refine et_yes (K := K) H2 g2.kn _ fun H2' g2' => ?_
    refine iteT ?_
    refine (hw1 H2' g2'.kn _ fun J1 G3 H3 g3 wk1 => ?_)
    have l2 : H2' D = some (.lst vs) := g2'.hh.l (g2.hh.l hl)
    have D3 : G3 D = none := g3.sp D D2 (hidden (l2))
    have gA := ((gi.trans g2).trans g2').trans g3
    refine ⟨fun j m H' => m = (h a).length - j ∧ j ≤ (h a).length ∧ ∃ Gj ws, Ex G3 Gj ∧ Gr K G1 H1 Gj H' ∧ Gj D = none ∧ H' D = some (.lst (vs ++ ws)) ∧ AllR U (((h a).take j).map (f a)) ws Gj, ⟨(h a).length, rfl, Nat.zero_le _, G3, [], exr _, gA, D3, by rw [List.append_nil]; exact g3.hh.l l2, by simp [AllR]⟩, ?_⟩
    rintro j m H4 ⟨rfl, hj, Gj, ws, gj, gj1, gjD, hlj, hvj⟩
    by_cases hlt1 : j < (h a).length
    · refine .inr ⟨wk1.go j H4 hlt1 ⟨gj.trans gj1.kh, gj1.kn.tb⟩, fun H5 => ∃ Gj ws, Ex G3 Gj ∧ Gr K G1 H1 Gj H5 ∧ Gj D = none ∧ H5 D = some (.lst (vs ++ ws)) ∧ AllR U (((h a).take (j + 1)).map (f a)) ws Gj, fun H5 ⟨G6, ws6, k1, k2, k3, k4, k5⟩ => ⟨(h a).length - (j + 1), by omega, rfl, hlt1, G6, ws6, k1, k2, k3, k4, k5⟩, fun z H5 hz5 => ?_⟩
      obtain ⟨y, G5, ey, g5, ry⟩ := (wk1.mono gj).yld j H4 z H5 hlt1 gj1.kn hz5
      have D5 : G5 D = none := g5.sp D gjD (hidden (hlj))
      refine t1 y (List.mem_of_getElem? ey) z G5 H5 ((g3.kk.trans gj).trans g5.kk) g5.kn ry _ fun σ3 ⟨w2, ek⟩ => ⟨w2, ?_⟩
      refine et_yes (K := K) H5 g5.kn _ fun H6 g6 => ?_
      refine iteT ?_
      refine ek H6 g6.kn _ fun v G7 H7 g7 rv => ?_
      have gB := (g5.trans g6).trans g7
      have l7 := gB.hh.l hlj
      have D7 : G7 D = none := g7.sp D D5 (hidden (g6.hh.l (g5.hh.l hlj)))
      have dl : (vs ++ ws).length < 10000000 := by
        have e1 := hv.length
        have e2 := hvj.length
        have e3 := flat_le (h := h) ea
        have e4 : ((xs.take i).flatMap fun a => (h a).map (f a)).length = ((xs.take i).flatMap h).length := by
          rw [List.length_flatMap, List.length_flatMap]; simp
        rw [List.length_map, List.length_take] at e2
        rw [List.length_append]
        omega
      refine ⟨vs ++ ws, l7, Nat.lt_of_lt_of_le dl (by decide), G7, ws ++ [v], gj.trans gB.kk, (gj1.trans gB).mut D7 hD l7, D7, by rw [upd_same, List.append_assoc], ?_⟩
      rw [List.take_add_one, ey]
      show AllR U (((h a).take j ++ [y]).map (f a)) (ws ++ [v]) G7
      rw [List.map_append]
      exact (hvj.mono gB.kk).append ⟨rv, trivial⟩
    · have ej : j = (h a).length := by omega
      subst ej
      refine .inl ⟨wk1.stop H4 ⟨gj.trans gj1.kh, gj1.kn.tb⟩, Gj, vs ++ ws, gj1, gjD, hlj, ?_⟩
      rw [fm]
      rw [List.take_length] at hvj
      exact (hv.mono (((g2.trans g2').kk.trans g3.kk).trans gj)).append hvj
  · have ei : i = xs.length := by omega
    subst ei
    refine .inl ⟨wk.stop H' ⟨gi.kk.trans gi.kh, gi.kn.tb⟩, ?_⟩
    rw [List.take_length] at hv
    exact q D vs Gi H' (gw.hh.no _ hD) giD (gw.trans gi) hl hv
theorem flat_any (h : α → List β) (f : α → β → Bool) : ∀ xs : List α, (xs.flatMap fun a => (h a).map (f a)).any id = xs.any fun a => (h a).any (f a)
  | [] => rfl
  | x :: xs => by rw [List.flatMap_cons, List.any_append, flat_any h f xs, List.any_map]; rfl
theorem EvW.nm {wi : TI} {xs : List α} {j : Nat} {x : V} {Pz : L2.St → Prop} (h : Pz (σ.set j (some x))) : Tg (gName j) x σ H Pz := tg_name h
end
end Ob
set_option maxRecDepth 100000
set_option maxHeartbeats 2000000
/-! Kmj: what the program's defs compute. -/
namespace Ob
open PySem PySem.Spec PyProof.Rows L2
def hitP (d : Deb) (L : Lot) : Lot := dedup (L.flatMap (obd d.O))
def clashP (d : Deb) (L : Lot) : Option Pr := (d.O.filter fun p => decide (p.1 ∈ L) && decide (p.2 ∈ L)).head?
def unansAt (d : Deb) (L : Lot) (m : Str) : Option Pr := (obs d.O m).findSome? fun o => if o ∈ hitP d L then none else some (m, o)
def unansP (d : Deb) (L : Lot) : Option Pr := L.findSome? (unansAt d L)
def calmW (d : Deb) (L : Lot) (x : Str) : Bool := !decide (x ∈ obs d.O x) && !(L.any fun m => decide (m ∈ obs d.O x) || decide (m ∈ obd d.O x))
def heldP (d : Deb) : List Lot := so eLot ((growL (fun x L => calmW d L x) d.S [[]]).filter fun L => (unansP d L).isNone)
def unionL (ls : List Lot) : Lot := dedup (ls.flatMap fun l => l)
def aloneP (d : Deb) (L known : Lot) : Bool := !(L.any fun x => (obs d.O x).any fun o => decide (o ∈ known))
def sureP (d : Deb) : List Lot := (heldP d).filter fun L => aloneP d L (unionL (heldP d))
def sureLotP (d : Deb) : Lot := so eS (unionL (sureP d))
def lenI (l : Lot) : Int := (l.length : Int)
def minI : List Int → Int
  | [] => 0
  | x :: xs => xs.foldl min x
def smallW (ls : List Lot) (x : Str) : List Lot := (ls.filter fun l => decide (x ∈ l)).filter fun l => decide (lenI l = minI ((ls.filter fun l => decide (x ∈ l)).map lenI))
def keepW (ks : List Lot) (l : Lot) : List Lot := if ks.any (fun o => within l o) then ks else ks ++ [l]
def byLen (ls : List Lot) : List Lot := ls.mergeSort fun a b => decide (0 - lenI a ≤ 0 - lenI b)
def greatP (ls : List Lot) : List Lot := so eLot ((byLen ls).foldl keepW [])
def lackP (d : Deb) (x : Str) : Option Lot := ((greatP (heldP d)).filter fun l => !decide (x ∈ l)).head?
def paperP (d : Deb) (x : Str) : Option Lot := (smallW (sureP d) x).head?
def faultP (d : Deb) (L : Lot) : Option (Str × Str × Str) := match clashP d L with
  | some p => some ("clash", p.1, p.2)
  | none => match unansP d L with
    | some p => some ("unanswered", p.1, p.2)
    | none => none
def whyAt (d : Deb) (x : Str) : Option (Str × Str × Lot) := (obs d.O x).findSome? fun o => if o ∈ unionL (heldP d) then (smallW (heldP d) o).head?.map fun l => (x, o, l) else none
def whyP (d : Deb) (L : Lot) : Option (Str × Str × Lot) := (so eS L).findSome? (whyAt d)
/-- a debate whose lists are not too long -/
structure OkD (d : Deb) : Prop where
  s : d.S.length ≤ 8
  o : d.O.length ≤ 1000
theorem obs_len (O : List Pr) (x : Str) : (obs O x).length ≤ O.length := by unfold obs; rw [List.length_map]; exact List.length_filter_le _ _
theorem obd_len (O : List Pr) (x : Str) : (obd O x).length ≤ O.length := by unfold obd; rw [List.length_map]; exact List.length_filter_le _ _
theorem flat_small {α β : Type} (h : α → List β) (k : Nat) (hk : ∀ a, (h a).length ≤ k) : ∀ xs : List α, (xs.flatMap h).length ≤ xs.length * k
  | [] => by simp
  | x :: xs => by
    rw [List.flatMap_cons, List.length_append, List.length_cons, Nat.succ_mul]
    have := flat_small h k hk xs
    have := hk x
    omega
theorem flat_smallM {α β : Type} (h : α → List β) (k : Nat) : ∀ xs : List α, (∀ a ∈ xs, (h a).length ≤ k) → (xs.flatMap h).length ≤ xs.length * k
  | [], _ => by simp
  | x :: xs, hk => by
    rw [List.flatMap_cons, List.length_append, List.length_cons, Nat.succ_mul]
    have := flat_smallM h k xs fun a ha => hk a (List.mem_cons_of_mem _ ha)
    have := hk x (List.mem_cons_self ..)
    omega
theorem grow_sub (f : Str → Lot → Bool) {y : Str} : ∀ (xs : Lot) (F : List Lot), (∀ l ∈ F, y ∈ l → y ∈ xs → True) → ∀ l ∈ growL f xs F, y ∈ l → y ∈ xs ∨ ∃ m ∈ F, y ∈ m
  | [], F, _, l, hl, hy => .inr ⟨l, hl, hy⟩
  | x :: xs, F, _, l, hl, hy => by
    have ih := grow_sub f xs (F ++ (F.filter (f x)).map (· ++ [x])) (fun _ _ _ _ => trivial) l hl hy
    rcases ih with h | ⟨m, hm, h⟩
    · exact .inl (List.mem_cons_of_mem _ h)
    · rcases List.mem_append.mp hm with hm | hm
      · exact .inr ⟨m, hm, h⟩
      · obtain ⟨m2, h2, rfl⟩ := List.mem_map.mp hm
        rcases List.mem_append.mp h with h | h
        · exact .inr ⟨m2, (List.mem_filter.mp h2).1, h⟩
        · exact .inl (by rw [List.mem_singleton.mp h]; exact List.mem_cons_self ..)
theorem grow_in (f : Str → Lot → Bool) (xs : Lot) {l : Lot} (hl : l ∈ growL f xs [[]]) : ∀ y ∈ l, y ∈ xs := fun y hy => by
  rcases grow_sub f xs [[]] (fun _ _ _ _ => trivial) l hl hy with h | ⟨m, hm, h⟩
  · exact h
  · rw [List.mem_singleton.mp hm] at h; cases h
theorem grow_len8 (f : Str → Lot → Bool) {xs : Lot} (h : xs.length ≤ 8) : (growL f xs [[]]).length ≤ 256 := by
  refine Nat.le_trans (growL_len f _ _) ?_
  rw [List.length_singleton, Nat.one_mul]
  exact pow_le8 h
theorem grow_l8 (f : Str → Lot → Bool) {xs : Lot} {l : Lot} (hl : l ∈ growL f xs [[]]) : l.length ≤ xs.length := by
  have := growL_small f xs [[]] 0 (by simp) l hl
  omega
section
variable {d : Deb} (ok : OkD d)
include ok
theorem heldP_len : (heldP d).length ≤ 256 := by
  unfold heldP
  rw [so_len]
  exact Nat.le_trans (List.length_filter_le _ _) (grow_len8 _ ok.s)
theorem sureP_len : (sureP d).length ≤ 256 := Nat.le_trans (List.length_filter_le _ _) (heldP_len ok)
omit ok in
theorem heldP_in {l : Lot} (h : l ∈ heldP d) : ∀ y ∈ l, y ∈ d.S := grow_in _ _ (List.mem_filter.mp (so_mem.mp h)).1
theorem heldP_l8 {l : Lot} (h : l ∈ heldP d) : l.length ≤ 8 := Nat.le_trans (grow_l8 _ (List.mem_filter.mp (so_mem.mp h)).1) ok.s
end
end Ob
set_option maxRecDepth 100000
set_option maxHeartbeats 4000000
/-! Kd4: the program's defs over a debate, first part. -/
namespace Ob
open PySem PySem.Spec PyProof.Rows L2
section
variable {K : PySem.W.Frag} {σ : L2.St} {G G1 H H1 : Hp} {ta tb te : TE} {α β : Type} {R : Rp α} {S : Rp β} {D : Ends} {tz : TS}
/-- i, j = a, b through a tuple -/
theorem q_tup2 {i j : Nat} {x : α} {y : β} [Mo R] [Mo S] (e : Kn K G H) (ha : EvP K ta σ G R x) (hb : EvP K tb σ G S y) (k : ∀ v w G2 H2, Gr K G H G2 H2 → R x v G2 → S y w G2 → tz D ((σ.set i (some v)).set j (some w)) H2) :
    tSeq (tAsg (tTup (tCons ta (tCons tb tNil))) (gTup K 2 (gCons (gName i) (gCons (gName j) gNil)))) tz D σ H :=
  by
    refine (er_pair (p := (x, y)) ha hb) H e (fun v H2 => gTup K 2 (gCons (gName i) (gCons (gName j) gNil)) v σ H2 (tz D)) fun v G2 H2 g ⟨a, u, w, e1, h1, h2, h3⟩ => ?_
    rw [e1]
    exact tg_tup2 (P := fun σ2 => ∀ H2, Gr K G H G2 H2 → tz D σ2 H2) (ex_t g.kh h1) (fun H3 g3 => k u w G2 H3 g3 h2 h3) _ fun σ2 q => q H2 g
theorem er_hd {xs : List α} [Mo R] (ha : EvP K ta σ G (rL K R) xs) {ti : TE} (hi : Ev K ti σ G (.int 0)) {x : α} (h : xs.head? = some x) : EvP K (tOp (rIxL K) ta ti) σ G R x := er_ix (i := 0) ha hi (by rw [← List.head?_eq_getElem?]; exact h)
end
section
variable {P : Program} {w : World} {K : PySem.W.Frag} {mg : Str → Option Value} {base : Heap}
abbrev N_hit_by : List Str := ["debate", "members", "member", "other"]
theorem sc_hit_by : FnScope N_hit_by ["debate", "members"] (defScope s_hit_by) := ⟨rfl, rfl, rfl, by decide +kernel, rfl, by decide +kernel, by decide +kernel⟩
abbrev preDL (K : PySem.W.Frag) : Deb × Lot → List V → Hp → Prop := fun i vs G => A2 (rDeb K) (rL K rS) i.1 i.2 vs G ∧ OkD i.1 ∧ i.2.length ≤ 1000 ∧ ∀ x ∈ i.2, x ∈ i.1.S
def spHit (K : PySem.W.Frag) : Sp := SpG K (ι := Deb × Lot) (preDL K) (fun i _ v G2 => rKs (hitP i.1 i.2) v G2)
theorem cal_hit_by (T : Txt K mg) : Cal P w K mg base CX0 1 "hit_by" ["debate", "members"] (spHit K) := by
  refine cal_mk T.g_hit_by sc_hit_by (fun _ _ _ _ _ _ us hl => match us, hl with | [_, _], _ => rfl) (spg_len fun i vs G ⟨⟨_, _, e, _⟩, _⟩ => by rw [e]; rfl) (fun f cdv A outer s H vs Q E hr h => ?_)
  obtain ⟨⟨d, L⟩, G, eG, ⟨⟨a, b, rfl, hd, hl⟩, ok, hz, hin⟩, q⟩ := h
  have hz : L.length ≤ 1000 := hz
  have hin : ∀ x ∈ L, x ∈ d.S := hin
  have ok : OkD d := ok
  have hf : (L.flatMap (obd d.O)).length < 10000000 := by
    have := flat_small (obd d.O) 1000 (fun a => Nat.le_trans (obd_len _ _) ok.o) L
    omega
  refine ⟨_, (pss_one (ps_ret (pe_dc2 (own := [("member", 2), ("other", 3)]) (vs1 := [3]) (g := gName 2) (g1 := gName 3) rfl sc_hit_by.nd (xlist K (pv 1)) (blkOk_by (own := [("member", 2), ("other", 3)]) (N := N_hit_by) (by kernel_rfl)) (by decide) (fun _ _ _ _ _ => pg_name (i := 2) sc_hit_by.nd rfl (by first | exact Or.inl rfl | exact Or.inr rfl)) (fun _ _ _ _ _ => pts_nil) (fun _ _ _ _ _ => (xlist K (pe_dget (hu_of hr) (xfld K (pv 0)) (pv 2) (fun _ _ => rfl)))) (fun _ _ _ _ _ => pg_name (i := 3) sc_hit_by.nd rfl (by first | exact Or.inl rfl | exact Or.inr rfl)) (fun _ _ _ _ _ => pts_nil) (fun _ _ _ _ _ => (pv 3)) (fun _ _ _ _ _ => pe_bl)))), ?_⟩
  exact sr_ret eG (er_dc2 (R := rS) (obd d.O) (ew_list (er_var rfl hl)) hf fun m hm x G2 H2 e1 e2 r => tg_name ⟨rfl, ew_list (er_dget (R := rL K rS) (f := obd d.O) (er_objected (er_var rfl (Mo.mo e1 hd))) (ev_strv r rfl) (hin m hm)), fun y hy z G3 H3 e3 e4 r3 => tg_name ⟨rfl, ev_strv r3 rfl, ev_c⟩⟩) fun v G2 H2 g r => q v G2 H2 g r

abbrev N_clash_in : List Str := ["debate", "members", "pair", "pairs"]
theorem sc_clash_in : FnScope N_clash_in ["debate", "members"] (defScope s_clash_in) := ⟨rfl, rfl, rfl, by decide +kernel, rfl, by decide +kernel, by decide +kernel⟩
def spClash (K : PySem.W.Frag) : Sp := SpG K (ι := Deb × Lot) (preDL K) (fun i _ v G2 => rO (rP K rS rS) (clashP i.1 i.2) v G2)
theorem cal_clash_in (T : Txt K mg) : Cal P w K mg base CX0 1 "clash_in" ["debate", "members"] (spClash K) := by
  refine cal_mk T.g_clash_in sc_clash_in (fun _ _ _ _ _ _ us hl => match us, hl with | [_, _], _ => rfl) (spg_len fun i vs G ⟨⟨_, _, e, _⟩, _⟩ => by rw [e]; rfl) (fun f cdv A outer s H vs Q E hr h => ?_)
  obtain ⟨⟨d, L⟩, G, eG, ⟨⟨a, b, rfl, hd, hl⟩, ok, hz, hin⟩, q⟩ := h
  have ok : OkD d := ok
  have ho := ok.o
  refine ⟨_, (pss_cons (ps_setLc (i := 3) (own := [("pair", 2)]) (g := gName 2) rfl sc_clash_in.nd rfl rfl (sw_true rfl rfl rfl (by decide +kernel)) (xlist K (xfld K (pv 0))) (blkOk_by (own := [("pair", 2)]) (N := N_clash_in) (by kernel_rfl)) (fun _ _ _ _ _ => pg_name (i := 2) sc_clash_in.nd rfl (by first | exact Or.inl rfl | exact Or.inr rfl)) (fun _ _ _ _ _ => pts_one (PW.pt (pw_and (pt_cmpR (xin K) (pe_ix (xixT K) (pv 2) pe_int (fun _ _ => rfl)) (pv 1) (by rfl)) (pw_and1 (pt_cmpR (xin K) (pe_ix (xixT K) (pv 2) pe_int (fun _ _ => rfl)) (pv 1) (by rfl)))))) (fun _ _ _ _ _ => (pv 2))) (pss_one (ps_ret (pe_ifExp (pt_cmpR (xneD K hr.units) (pv 3) (pe_lst pa_nil) (nomark _)) (pe_ix (xixL K) (pv 3) pe_int (fun _ _ => rfl)) pe_non)))), ?_⟩
  refine qr_asg eG (EvN.l (en_flt (R := rP K rS rS) (fun p => decide (p.1 ∈ L) && decide (p.2 ∈ L)) (ew_list (er_objections (er_var rfl hd))) (Nat.lt_of_le_of_lt ho (by decide)) (fun _ => rfl) (fun _ => rfl) fun p _ v G2 e1 r => et_and (et_cmp (ev_ins (ev_of ((er_ixP1 (R := rS) (S := rS) (er_var rfl r)).imp fun _ _ _ h => h.1)) (er_var rfl (Mo.mo e1 hl)))) fun _ => et_cmp (ev_ins (ev_of ((er_ixP2 (R := rS) (S := rS) (er_var rfl r)).imp fun _ _ _ h => h.1)) (er_var rfl (Mo.mo e1 hl))))) fun v1 G1 H1 g1 r1 => ?_
  refine sr_ret g1.kn (R := rO (rP K rS rS) (clashP d L)) (er_if (et_cmp (ev_ne_nil (R := rP K rS rS) (enc := ePP) (by decide) (er_var rfl r1))) (fun hne => ?_) fun he => ?_) fun v G2 H2 g2 r2 => q v G2 H2 (g1.trans g2) r2
  · unfold clashP
    cases hs : d.O.filter fun p => decide (p.1 ∈ L) && decide (p.2 ∈ L) with
    | nil => rw [hs] at hne; simp at hne
    | cons p ps =>
      rw [hs] at r1
      exact er_ix (R := rP K rS rS) (i := 0) (er_var rfl r1) ev_c rfl
  · have he : d.O.filter (fun p => decide (p.1 ∈ L) && decide (p.2 ∈ L)) = [] := of_decide_eq_true (by rw [Bool.not_eq_false'] at he; exact he)
    unfold clashP
    rw [he]
    exact er_c rfl

abbrev N_unanswered_in : List Str := ["debate", "members", "hit", "objector", "member"]
theorem sc_unanswered_in : FnScope N_unanswered_in ["debate", "members"] (defScope s_unanswered_in) := ⟨rfl, rfl, rfl, by decide +kernel, rfl, by decide +kernel, by decide +kernel⟩
def spUnans (K : PySem.W.Frag) : Sp := SpG K (ι := Deb × Lot) (preDL K) (fun i _ v G2 => rO (rP K rS rS) (unansP i.1 i.2) v G2)
theorem cal_unanswered_in (T : Txt K mg) : Cal P w K mg base CX0 2 "unanswered_in" ["debate", "members"] (spUnans K) := by
  refine cal_mk T.g_unanswered_in sc_unanswered_in (fun _ _ _ _ _ _ us hl => match us, hl with | [_, _], _ => rfl) (spg_len fun i vs G ⟨⟨_, _, e, _⟩, _⟩ => by rw [e]; rfl) (fun f cdv A outer s H vs Q E hr h => ?_)
  obtain ⟨⟨d, L⟩, G, eG, ⟨⟨a, b, rfl, hd, hl⟩, ok, hz, hin⟩, q⟩ := h
  have ok : OkD d := ok
  have hin : ∀ x ∈ L, x ∈ d.S := hin
  refine ⟨_, (pss_cons (ps_set (i := 2) sc_unanswered_in.nd rfl (by first | exact Or.inl rfl | exact Or.inr rfl) (pe_cal (cal_hit_by T) (hr.mono (by decide)) (by rfl) pass0 (pa_cons (pv 0) (pa_cons (pv 1) pa_nil)))) (pss_cons (ps_for (g := gName 4) (passes_of rfl) rfl (xlist K (pv 1)) (pg_name (i := 4) sc_unanswered_in.nd rfl (by first | exact Or.inl rfl | exact Or.inr rfl)) (pss_one (ps_for (g := gName 3) (passes_of rfl) rfl (xlist K (pe_dget (hu_of hr) (xfld K (pv 0)) (pv 4) (fun _ _ => rfl))) (pg_name (i := 3) sc_unanswered_in.nd rfl (by first | exact Or.inl rfl | exact Or.inr rfl)) (pss_one (ps_if (pt_cmp (pc_dnotin (hu_of hr) (pv 3) (pv 2))) (pss_one (ps_ret (pe_tup (pa_cons (pv 4) (pa_cons (pv 3) pa_nil))))) pss_nil))))) (pss_one (ps_ret pe_non)))), ?_⟩
  refine qr_asg eG (er_post (d, L) (eb_a2 (er_var rfl hd) (er_var rfl hl)) (fun vs G2 _ h => ⟨h, ok, hz, hin⟩) fun _ _ _ _ p => p) fun c G1 H1 g1 r1 => ?_
  have r1 : rKs (hitP d L) c G1 := r1
  have hd1 := Mo.mo (R := rDeb K) g1.kk hd
  have hl1 := Mo.mo (R := rL K rS) g1.kk hl
  refine q_search (R := rS) (xs := L) g1.kn (ew_list (er_var rfl hl1)) (fun σ' => ∃ d e, σ' = [some a, some b, some c, d, e]) (fun i => (L.take i).findSome? (unansAt d L) = none) ⟨_, _, rfl⟩ rfl ?_ ?_
  · rintro i x v σ' G2 H2 X ex ⟨d', e, rfl⟩ hN g2 rx hX
    show tFor _ _ _ _ [some a, some b, some c, d', some v] H2
    refine s_for (R := rS) (xs := obs d.O x) g2.kn (ew_list (er_dget (R := rL K rS) (f := obs d.O) (er_objectors (er_var rfl (Mo.mo g2.kk hd1))) (ev_strv rx rfl) (hin x (List.mem_of_getElem? ex)))) (fun k σ' G' H' => (∃ d, σ' = [some a, some b, some c, d, some v]) ∧ ((obs d.O x).take k).findSome? (fun o => if o ∈ hitP d L then none else some (x, o)) = none ∧ Gr K G2 H2 G' H') (fun G3 H3 g3 => ⟨⟨_, rfl⟩, rfl, g3⟩) ?_ ?_
    · rintro k o u σ' G' H' G3 H3 eo ⟨⟨d', rfl⟩, hk, gg⟩ _ _ g3 ro
      have gA := (g2.trans gg).trans g3
      refine s_if g3.kn (et_cmp (ev_dnin (R := rB) (f := fun _ => true) (ev_strv ro rfl) (er_var rfl (Mo.mo gA.kk r1)))) (fun hy H5 g5 => ?_) fun hno H5 g5 => ?_
      · have hy : o ∉ hitP d L := by simpa using hy
        have e1 : unansAt d L x = some (x, o) := by
          unfold unansAt
          exact fs_hit eo hk (by rw [if_neg hy])
        have e2 : unansP d L = some (x, o) := fs_hit ex hN e1
        refine sr_ret g5.kn (er_pair (p := (x, o)) (R := rS) (S := rS) (er_var rfl (Mo.mo (gg.trans g3).kk rx)) (er_var rfl ro)) fun v' G6 H6 g6 r6 => q v' G6 H6 (g1.trans ((gA.trans g5).trans g6)) ?_
        show rO (rP K rS rS) (unansP d L) v' G6
        rw [e2]
        exact r6
      · have hno : o ∈ hitP d L := by simpa using hno
        exact ⟨G3, g3.kk, g5.kn, ⟨_, rfl⟩, fs_step eo hk (by rw [if_pos hno]), (gg.trans g3).trans g5⟩
    · rintro σ' G' H' ⟨⟨d', rfl⟩, hk, gg⟩ _ _
      exact hX _ _ _ ⟨_, _, rfl⟩ (fs_step ex hN (fs_end hk)) gg
  · rintro σ' G' H' ⟨d', e, rfl⟩ hN g
    have e2 : unansP d L = none := fs_end hN
    exact sv_ret g.kn ev_c fun H2 g2 => q _ _ H2 (g1.trans (g.trans g2)) (by show rO (rP K rS rS) (unansP d L) _ _; rw [e2]; rfl)
end
end Ob
set_option maxRecDepth 100000
set_option maxHeartbeats 4000000
/-! Kd5: the program's defs over a debate, second part. -/
namespace Ob
open PySem PySem.Spec PyProof.Rows L2
theorem rF.rel {α : Type} {R R' : Rp α} {H0 H : Hp} {xs : List α} {v : V} (h : rF H0 R xs v H) (f : ∀ x v, R x v H → R' x v H) : rF H0 R' xs v H := let ⟨p, vs, h1, h2, h3, h4⟩ := h; ⟨p, vs, h1, h2, h3, AllR.imp f h4⟩
section
variable {P : Program} {w : World} {K : PySem.W.Frag} {mg : Str → Option Value} {base : Heap}
abbrev N_calm_with : List Str := ["debate", "lot", "statement", "hits", "hit", "member"]
theorem sc_calm_with : FnScope N_calm_with ["debate", "lot", "statement"] (defScope s_calm_with) := ⟨rfl, rfl, rfl, by decide +kernel, rfl, by decide +kernel, by decide +kernel⟩
def spCalmW (K : PySem.W.Frag) : Sp := SpG K (ι := Deb × Lot × Str) (fun i vs G => A3 (rDeb K) (rL K rS) rS i.1 i.2.1 i.2.2 vs G ∧ i.2.1.length ≤ 1000 ∧ i.2.2 ∈ i.1.S) (fun i _ v _ => v = .bl (calmW i.1 i.2.1 i.2.2))
theorem cal_calm_with (T : Txt K mg) : Cal P w K mg base CX0 1 "calm_with" ["debate", "lot", "statement"] (spCalmW K) := by
  refine cal_mk T.g_calm_with sc_calm_with (fun _ _ _ _ _ _ us hl => match us, hl with | [_, _, _], _ => rfl) (spg_len fun i vs G ⟨⟨_, _, _, e, _⟩, _⟩ => by rw [e]; rfl) (fun f cdv A outer s H vs Q E hr h => ?_)
  obtain ⟨⟨d, L, x⟩, G, eG, ⟨⟨a, b, c, rfl, hd, hl, hx⟩, hz, hin⟩, q⟩ := h
  have hz : L.length ≤ 1000 := hz
  have hin : x ∈ d.S := hin
  refine ⟨_, (pss_cons (ps_asg (g := gTup K 2 (gCons (gName 3) (gCons (gName 4) gNil))) (pe_tup (pa_cons (pe_dget (hu_of hr) (xfld K (pv 0)) (pv 2) (fun _ _ => rfl)) (pa_cons (pe_dget (hu_of hr) (xfld K (pv 0)) (pv 2) (fun _ _ => rfl)) pa_nil))) (xgtup K (pgs_cons (pg_name (i := 3) sc_calm_with.nd rfl (by first | exact Or.inl rfl | exact Or.inr rfl)) (pgs_cons (pg_name (i := 4) sc_calm_with.nd rfl (by first | exact Or.inl rfl | exact Or.inr rfl)) pgs_nil)))) (pss_one (ps_ret (pe_and (pe_cmpR (xnin K) (pv 2) (pv 3) (by rfl)) (pe_one (pe_not (pe_callB (xany K) (by rfl) T.m_any boot_any (pa_cons (pe_lc (own := [("member", 5)]) (g := gName 5) rfl sc_calm_with.nd (xlist K (pv 1)) (blkOk_by (own := [("member", 5)]) (N := N_calm_with) (by kernel_rfl)) (fun _ _ _ _ _ => pg_name (i := 5) sc_calm_with.nd rfl (by first | exact Or.inl rfl | exact Or.inr rfl)) (fun _ _ _ _ _ => pts_nil) (fun _ _ _ _ _ => (pe_or (pe_cmpR (xin K) (pv 5) (pv 3) (by rfl)) (pe_one (pe_cmpR (xin K) (pv 5) (pv 4) (by rfl)))))) pa_nil)))))))), ?_⟩
  refine q_tup2 (R := rL K rS) (S := rL K rS) eG (er_dget (f := obs d.O) (er_objectors (er_var rfl hd)) (ev_strv hx rfl) hin) (er_dget (f := obd d.O) (er_objected (er_var rfl hd)) (ev_strv hx rfl) hin) fun u v G1 H1 g1 ru rv => ?_
  have hx1 := Mo.mo (R := rS) g1.kk hx
  refine sv_ret g1.kn (ev_and (a := !decide (x ∈ obs d.O x)) (b := !(L.any fun m => decide (m ∈ obs d.O x) || decide (m ∈ obd d.O x))) (ev_nins (ev_strv hx1 rfl) (er_var rfl ru)) fun _ => ev_not (ev_anyN (R := rS) (fun m => decide (m ∈ obs d.O x) || decide (m ∈ obd d.O x)) (ew_list (er_var rfl (Mo.mo g1.kk hl))) (by omega) (fun _ => rfl) fun m _ y G2 e1 r => ev_or (ev_ins (ev_strv r rfl) (er_var rfl (Mo.mo e1 ru))) fun _ => ev_ins (ev_strv r rfl) (er_var rfl (Mo.mo e1 rv)))) fun H2 g2 => q _ G1 H2 (g1.trans g2) rfl

abbrev N_held_lots : List Str := ["debate", "found", "lot", "statement"]
theorem sc_held_lots : FnScope N_held_lots ["debate"] (defScope s_held_lots) := ⟨rfl, rfl, rfl, by decide +kernel, rfl, by decide +kernel, by decide +kernel⟩
def spHeld (K : PySem.W.Frag) : Sp := SpG K (ι := Deb) (fun i vs G => A1 (rDeb K) i vs G ∧ OkD i) (fun i G v G2 => rF G (rF G rS) (heldP i) v G2)
theorem cal_held_lots (T : Txt K mg) : Cal P w K mg base CX0 3 "held_lots" ["debate"] (spHeld K) := by
  refine cal_mk T.g_held_lots sc_held_lots (fun _ _ _ _ _ _ us hl => match us, hl with | [_], _ => rfl) (spg_len fun i vs G ⟨⟨_, e, _⟩, _⟩ => by rw [e]; rfl) (fun f cdv A outer s H vs Q E hr h => ?_)
  obtain ⟨d, G, eG, ⟨⟨a, rfl, hd⟩, ok⟩, q⟩ := h
  have ok : OkD d := ok
  refine ⟨_, (pss_cons (ps_set (i := 1) sc_held_lots.nd rfl (by first | exact Or.inl rfl | exact Or.inr rfl) (pe_lst (pa_cons (pe_lst pa_nil) pa_nil))) (pss_cons (ps_for (g := gName 3) (passes_of rfl) rfl (xlist K (xfld K (pv 0))) (pg_name (i := 3) sc_held_lots.nd rfl (by first | exact Or.inl rfl | exact Or.inr rfl)) (pss_one (ps_expr (pe_bm PySem.F.plainAttrs_list PySem.F.slot_list_extend PySem.F.type_list_extend mt_extend (pv 1) (pa_cons (pe_lc (own := [("lot", 2)]) (g := gName 2) rfl sc_held_lots.nd (xlist K (pv 1)) (blkOk_by (own := [("lot", 2)]) (N := N_held_lots) (by kernel_rfl)) (fun _ _ _ _ _ => pg_name (i := 2) sc_held_lots.nd rfl (by first | exact Or.inl rfl | exact Or.inr rfl)) (fun _ _ _ _ _ => pts_one (pt_val (pe_cal (cal_calm_with T) (hr.mono (by decide)) (by rfl) pass0 (pa_cons (pv 0) (pa_cons (pv 2) (pa_cons (pv 3) pa_nil)))))) (fun _ _ _ _ _ => (pe_op op_cat (pv 2) (pe_lst (pa_cons (pv 3) pa_nil))))) pa_nil))))) (pss_one (ps_ret (pe_callB (xsort K (rF G rS) hr.units) (by rfl) T.m_sorted boot_sorted (pa_cons (pe_lc (own := [("lot", 2)]) (g := gName 2) rfl sc_held_lots.nd (xlist K (pv 1)) (blkOk_by (own := [("lot", 2)]) (N := N_held_lots) (by kernel_rfl)) (fun _ _ _ _ _ => pg_name (i := 2) sc_held_lots.nd rfl (by first | exact Or.inl rfl | exact Or.inr rfl)) (fun _ _ _ _ _ => pts_one (pt_cmpR op_isN (pe_cal (cal_unanswered_in T) (hr.mono (by decide)) (by rfl) pass0 (pa_cons (pv 0) (pa_cons (pv 2) pa_nil))) pe_non (nomark _))) (fun _ _ _ _ _ => (pv 2))) pa_nil)))))), ?_⟩
  refine qn_asg eG (en_one (R := rF G rS) (x := []) (EvN.f en_nil (exr _))) fun p ws G2 H2 hp hg g hl r => ?_
  have hd2 := Mo.mo (R := rDeb K) g.kk hd
  refine q_grow (fun x L => calmW d L x) g hp hg hl r (ew_list (er_statements (er_var rfl hd2))) ok.s (fun _ => rfl) (fun _ _ => rfl) (fun _ _ => rfl) (fun _ _ => rfl) (fun k x v lot u G3 ek hlot e3 rx rl => et_val (ev_call (d, lot, x) (eb_a3 (R := rDeb K) (S := rL K rS) (T := rS) (er_var rfl (Mo.mo e3 hd2)) (er_var rfl (rF.l rl)) (er_var rfl rx)) (fun vs G2 _ h => ⟨h, ?_, List.mem_of_getElem? ek⟩) (fun _ _ _ p => p))) fun σ' G3 H3 vs' hs g3 e3 hp3 hl3 r3 => ?_
  · have := grow_l8 _ hlot
    rw [List.length_take] at this
    have := ok.s
    show lot.length ≤ 1000
    omega
  have hi : σ'[1]? = some (some (.ref p)) := by rcases hs with rfl | ⟨v, rfl⟩ <;> rfl
  have hi0 : σ'[0]? = some (some a) := by rcases hs with rfl | ⟨v, rfl⟩ <;> rfl
  have hw0 : ∀ x : V, ((wipe σ' [2]).set 2 (some x))[0]? = some (some a) := fun x => by rcases hs with rfl | ⟨v, rfl⟩ <;> rfl
  have hw2 : ∀ x : V, ((wipe σ' [2]).set 2 (some x))[2]? = some (some x) := fun x => by rcases hs with rfl | ⟨v, rfl⟩ <;> rfl
  have hwp : ∀ x : V, wipe ((wipe σ' [2]).set 2 (some x)) [2] = wipe σ' [2] := fun x => by rcases hs with rfl | ⟨v, rfl⟩ <;> rfl
  have len1 := grow_len8 (fun x L => calmW d L x) ok.s
  have hd3 : rDeb K d a (upd G3 p (.lst vs')) := Mo.mo (e3.trans (Ex.new hp3)) hd2
  refine sr_ret (kn_plus g3.kn hl3) (EvN.f (H0 := G) (en_sort (R := rF G rS) (ok_lot (Nat.le_trans (List.length_filter_le _ _) (Nat.le_trans len1 (by decide)))) (EvN.l (en_flt (R := rF G rS) (fun L => (unansP d L).isNone) (ew_list (er_var hi ⟨p, vs', rfl, SqL.of upd_same, r3.mono (Ex.new hp3)⟩)) (Nat.lt_of_le_of_lt len1 (by decide)) hwp hw2 fun L hL x G4 e4 rl => et_cmp (ev_isN (R := rP K rS rS) (er_post (d, L) (eb_a2 (R := rDeb K) (S := rL K rS) (er_var (hw0 x) (Mo.mo e4 hd3)) (er_var (hw2 x) (rF.l rl))) (fun vs G2 _ h => ⟨h, ok, Nat.le_trans (grow_l8 _ hL) (Nat.le_trans ok.s (by decide)), grow_in _ _ hL⟩) fun _ _ _ _ p => p))))) (g3.kk.trans (Ex.new hp3))) fun v G4 H4 g4 r4 => q v G4 H4 ((g3.plus hp hl3 hp3).trans g4) r4

abbrev N_is_within : List Str := ["lot", "other", "member"]
theorem sc_is_within : FnScope N_is_within ["lot", "other"] (defScope s_is_within) := ⟨rfl, rfl, rfl, by decide +kernel, rfl, by decide +kernel, by decide +kernel⟩
theorem cal_is_within (T : Txt K mg) : Cal P w K mg base CX0 1 "is_within" ["lot", "other"] (spWithin K) := by
  refine cal_mk T.g_is_within sc_is_within (fun _ _ _ _ _ _ us hl => match us, hl with | [_, _], _ => rfl) (spg_len fun i vs G ⟨⟨_, _, e, _⟩, _⟩ => by rw [e]; rfl) (fun f cdv A outer s H vs Q E hr h => ?_)
  obtain ⟨⟨xs, ys⟩, G, eG, ⟨⟨a, b, rfl, hx, hy⟩, hz⟩, q⟩ := h
  refine ⟨_, (pss_one (ps_ret (pe_callB (xall K) (by rfl) T.m_all boot_all (pa_cons (pe_lc (own := [("member", 2)]) (g := gName 2) rfl sc_is_within.nd (xlist K (pv 0)) (blkOk_by (own := [("member", 2)]) (N := N_is_within) (by kernel_rfl)) (fun _ _ _ _ _ => pg_name (i := 2) sc_is_within.nd rfl (by first | exact Or.inl rfl | exact Or.inr rfl)) (fun _ _ _ _ _ => pts_nil) (fun _ _ _ _ _ => (pe_cmpR (xin K) (pv 2) (pv 1) (by rfl)))) pa_nil)))), ?_⟩
  exact sv_ret eG (ev_allN (R := rS) (fun x => decide (x ∈ ys)) (ew_list (er_var rfl hx)) (by omega) (fun _ => rfl) fun x _ v G2 e1 r => ev_ins (ev_strv r rfl) (er_var rfl (Mo.mo e1 hy))) fun H2 g => q _ G H2 g rfl

abbrev N_all_held : List Str := ["lots", "lot", "one"]
theorem sc_all_held : FnScope N_all_held ["lots"] (defScope s_all_held) := ⟨rfl, rfl, rfl, by decide +kernel, rfl, by decide +kernel, by decide +kernel⟩
def spAllHeld (K : PySem.W.Frag) : Sp := SpG K (ι := List Lot) (fun i vs G => A1 (rLs K) i vs G ∧ (i.flatMap fun l => l).length < 10000000) (fun i _ v G2 => rKs (unionL i) v G2)
theorem cal_all_held (T : Txt K mg) : Cal P w K mg base CX0 1 "all_held" ["lots"] (spAllHeld K) := by
  refine cal_mk T.g_all_held sc_all_held (fun _ _ _ _ _ _ us hl => match us, hl with | [_], _ => rfl) (spg_len fun i vs G ⟨⟨_, e, _⟩, _⟩ => by rw [e]; rfl) (fun f cdv A outer s H vs Q E hr h => ?_)
  obtain ⟨ls, G, eG, ⟨⟨a, rfl, hl⟩, hz⟩, q⟩ := h
  refine ⟨_, (pss_one (ps_ret (pe_dc2 (own := [("lot", 1), ("one", 2)]) (vs1 := [2]) (g := gName 1) (g1 := gName 2) rfl sc_all_held.nd (xlist K (pv 0)) (blkOk_by (own := [("lot", 1), ("one", 2)]) (N := N_all_held) (by kernel_rfl)) (by decide) (fun _ _ _ _ _ => pg_name (i := 1) sc_all_held.nd rfl (by first | exact Or.inl rfl | exact Or.inr rfl)) (fun _ _ _ _ _ => pts_nil) (fun _ _ _ _ _ => (xlist K (pv 1))) (fun _ _ _ _ _ => pg_name (i := 2) sc_all_held.nd rfl (by first | exact Or.inl rfl | exact Or.inr rfl)) (fun _ _ _ _ _ => pts_nil) (fun _ _ _ _ _ => (pv 2)) (fun _ _ _ _ _ => pe_bl)))), ?_⟩
  exact sr_ret eG (er_dc2 (R := rL K rS) (fun l => l) (ew_list (er_var rfl hl)) hz fun l _ x G2 H2 e1 e2 r => tg_name ⟨rfl, ew_list (er_var rfl r), fun y hy z G3 H3 e3 e4 r3 => tg_name ⟨rfl, ev_strv r3 rfl, ev_c⟩⟩) fun v G2 H2 g r => q v G2 H2 g r

abbrev N_is_left_alone : List Str := ["debate", "lot", "known", "one", "objector"]
theorem sc_is_left_alone : FnScope N_is_left_alone ["debate", "lot", "known"] (defScope s_is_left_alone) := ⟨rfl, rfl, rfl, by decide +kernel, rfl, by decide +kernel, by decide +kernel⟩
def spAlone (K : PySem.W.Frag) : Sp := SpG K (ι := Deb × Lot × Lot) (fun i vs G => A3 (rDeb K) (rL K rS) rKs i.1 i.2.1 i.2.2 vs G ∧ OkD i.1 ∧ i.2.1.length ≤ 1000 ∧ ∀ x ∈ i.2.1, x ∈ i.1.S) (fun i _ v _ => v = .bl (aloneP i.1 i.2.1 i.2.2))
theorem cal_is_left_alone (T : Txt K mg) : Cal P w K mg base CX0 1 "is_left_alone" ["debate", "lot", "known"] (spAlone K) := by
  refine cal_mk T.g_is_left_alone sc_is_left_alone (fun _ _ _ _ _ _ us hl => match us, hl with | [_, _, _], _ => rfl) (spg_len fun i vs G ⟨⟨_, _, _, e, _⟩, _⟩ => by rw [e]; rfl) (fun f cdv A outer s H vs Q E hr h => ?_)
  obtain ⟨⟨d, L, ks⟩, G, eG, ⟨⟨a, b, c, rfl, hd, hl, hk⟩, ok, hz, hin⟩, q⟩ := h
  have hz : L.length ≤ 1000 := hz
  have ok : OkD d := ok
  have hin : ∀ x ∈ L, x ∈ d.S := hin
  have hf : (L.flatMap (obs d.O)).length < 10000000 := by
    have := flat_small (obs d.O) 1000 (fun a => Nat.le_trans (obs_len _ _) ok.o) L
    omega
  refine ⟨_, (pss_one (ps_ret (pe_not (pe_callB (xany K) (by rfl) T.m_any boot_any (pa_cons (pe_lc2 (own := [("one", 3), ("objector", 4)]) (vs1 := [4]) (g := gName 3) (g1 := gName 4) rfl sc_is_left_alone.nd (xlist K (pv 1)) (blkOk_by (own := [("one", 3), ("objector", 4)]) (N := N_is_left_alone) (by kernel_rfl)) (by decide) (fun _ _ _ _ _ => pg_name (i := 3) sc_is_left_alone.nd rfl (by first | exact Or.inl rfl | exact Or.inr rfl)) (fun _ _ _ _ _ => pts_nil) (fun _ _ _ _ _ => (xlist K (pe_dget (hu_of hr) (xfld K (pv 0)) (pv 3) (fun _ _ => rfl)))) (fun _ _ _ _ _ => pg_name (i := 4) sc_is_left_alone.nd rfl (by first | exact Or.inl rfl | exact Or.inr rfl)) (fun _ _ _ _ _ => pts_nil) (fun _ _ _ _ _ => (pe_cmp (pc_din (hu_of hr) (pv 4) (pv 2)) rfl))) pa_nil))))), ?_⟩
  refine sv_ret eG (ev_not (ev_is (ev_any (EvN.l (en_lc2 (R := rS) (S := rS) (U := rB) (obs d.O) (fun _ o => decide (o ∈ ks)) (ew_list (er_var rfl hl)) hf fun m hm x G2 H2 e1 e2 r => tg_name ⟨rfl, ew_list (er_dget (R := rL K rS) (f := obs d.O) (er_objectors (er_var rfl (Mo.mo e1 hd))) (ev_strv r rfl) (hin m hm)), fun y hy z G3 H3 e3 e4 r3 => tg_name ⟨rfl, er_of (ev_din (R := rB) (f := fun _ => true) (ev_strv r3 rfl) (er_var rfl (Mo.mo (e1.trans e3) hk))) rfl⟩⟩))) (by rw [flat_any]))) fun H2 g => q _ G H2 g rfl

abbrev N_sure_lots : List Str := ["debate", "lots", "known", "lot"]
theorem sc_sure_lots : FnScope N_sure_lots ["debate"] (defScope s_sure_lots) := ⟨rfl, rfl, rfl, by decide +kernel, rfl, by decide +kernel, by decide +kernel⟩
def spSure (K : PySem.W.Frag) : Sp := SpG K (ι := Deb) (fun i vs G => A1 (rDeb K) i vs G ∧ OkD i) (fun i G v G2 => rF G (rF G rS) (sureP i) v G2)
theorem union_len {d : Deb} (ok : OkD d) {ls : List Lot} (h : ∀ l ∈ ls, l ∈ heldP d) (h2 : ls.length ≤ 256) : (ls.flatMap fun l => l).length < 10000000 := by
  have := flat_smallM (fun l : Lot => l) 8 ls fun l hl => heldP_l8 ok (h l hl)
  exact Nat.lt_of_le_of_lt (Nat.le_trans this (Nat.mul_le_mul_right 8 h2)) (by decide)
theorem cal_sure_lots (T : Txt K mg) : Cal P w K mg base CX0 4 "sure_lots" ["debate"] (spSure K) := by
  refine cal_mk T.g_sure_lots sc_sure_lots (fun _ _ _ _ _ _ us hl => match us, hl with | [_], _ => rfl) (spg_len fun i vs G ⟨⟨_, e, _⟩, _⟩ => by rw [e]; rfl) (fun f cdv A outer s H vs Q E hr h => ?_)
  obtain ⟨d, G, eG, ⟨⟨a, rfl, hd⟩, ok⟩, q⟩ := h
  have ok : OkD d := ok
  refine ⟨_, (pss_cons (ps_set (i := 1) sc_sure_lots.nd rfl (by first | exact Or.inl rfl | exact Or.inr rfl) (pe_cal (cal_held_lots T) (hr.mono (by decide)) (by rfl) pass0 (pa_cons (pv 0) pa_nil))) (pss_cons (ps_set (i := 2) sc_sure_lots.nd rfl (by first | exact Or.inl rfl | exact Or.inr rfl) (pe_cal (cal_all_held T) (hr.mono (by decide)) (by rfl) pass0 (pa_cons (pv 1) pa_nil))) (pss_one (ps_ret (pe_lc (own := [("lot", 3)]) (g := gName 3) rfl sc_sure_lots.nd (xlist K (pv 1)) (blkOk_by (own := [("lot", 3)]) (N := N_sure_lots) (by kernel_rfl)) (fun _ _ _ _ _ => pg_name (i := 3) sc_sure_lots.nd rfl (by first | exact Or.inl rfl | exact Or.inr rfl)) (fun _ _ _ _ _ => pts_one (pt_val (pe_cal (cal_is_left_alone T) (hr.mono (by decide)) (by rfl) pass0 (pa_cons (pv 0) (pa_cons (pv 3) (pa_cons (pv 2) pa_nil)))))) (fun _ _ _ _ _ => (pv 3))))))), ?_⟩
  refine qr_asg eG (er_post (Z := rF G (rF G rS) (heldP d)) d (eb_a1 (R := rDeb K) (er_var rfl hd)) (fun vs G2 _ h => ⟨h, ok⟩) fun Gc v G2 e p => (rF.base e p).rel fun _ _ h => h.base e) fun v1 G1 H1 g1 r1 => ?_
  refine qr_asg g1.kn (er_post (Z := rKs (unionL (heldP d))) (heldP d) (eb_a1 (R := rLs K) (er_var rfl (rF.l (rF.rel r1 fun _ _ h => rF.l h)))) (fun vs G2 _ h => ⟨h, union_len ok (fun _ h => h) (heldP_len ok)⟩) fun _ _ _ _ p => p) fun v2 G2 H2 g2 r2 => ?_
  have g := g1.trans g2
  refine sr_ret g2.kn (EvN.f (H0 := G) (en_flt (R := rF G rS) (fun L => aloneP d L (unionL (heldP d))) (ew_list (er_var rfl (rF.l (Mo.mo g2.kk r1)))) (Nat.lt_of_le_of_lt (heldP_len ok) (by decide)) (fun _ => rfl) (fun _ => rfl) fun L hL x G3 e3 rl => et_val (ev_call (d, L, unionL (heldP d)) (eb_a3 (R := rDeb K) (S := rL K rS) (T := rKs) (er_var rfl (Mo.mo (g.kk.trans e3) hd)) (er_var rfl (rF.l rl)) (er_var rfl (Mo.mo e3 r2))) (fun vs G2 _ h => ⟨h, ok, Nat.le_trans (heldP_l8 ok hL) (by decide), heldP_in hL⟩) (fun _ _ _ p => p))) g.kk) fun v G3 H3 g3 r3 => q v G3 H3 (g.trans g3) r3
end
end Ob
set_option maxRecDepth 100000
set_option maxHeartbeats 4000000
/-! Kd6: the program's defs over a debate, third part. -/
namespace Ob
open PySem PySem.Spec PyProof.Rows L2
theorem zipK_keys : ∀ {xs : Lot} {vs : List V}, xs.length = vs.length → ((zipK xs vs).map fun p => kV p.1) = xs.map V.str
  | [], [], _ => rfl
  | x :: xs, v :: vs, h => by
    show V.str x :: ((zipK xs vs).map fun p => kV p.1) = _
    rw [zipK_keys (Nat.succ.inj h)]
    rfl
  | [], _ :: _, h => by cases h
  | _ :: _, [], h => by cases h
theorem allK_ok {α : Type} {R : Rp α} {f : Str → α} {H : Hp} : ∀ {xs : Lot} {vs : List V}, AllR (fun x v H => PyData.strOk x = true ∧ R (f x) v H) xs vs H → ∀ x ∈ xs, PyData.strOk x = true
  | [], [], _, _, h => by cases h
  | x :: xs, v :: vs, h, y, hy => by
    rcases List.mem_cons.mp hy with e | hy
    · rw [e]; exact h.1.1
    · exact allK_ok h.2 y hy
  | [], _ :: _, h, _, _ => h.elim
  | _ :: _, [], h, _, _ => h.elim
theorem minI_ok : ∀ {xs : List Int}, xs ≠ [] → minI xs ∈ xs ∧ ∀ y ∈ xs, minI xs ≤ y
  | [], h => absurd rfl h
  | x :: xs, _ => by
    have key : ∀ (ys : List Int) (m : Int), (ys.foldl min m ∈ m :: ys) ∧ ∀ y ∈ m :: ys, ys.foldl min m ≤ y := by
      intro ys
      induction ys with
      | nil => intro m; exact ⟨List.mem_cons_self .., fun y hy => by rw [List.mem_singleton.mp hy]; exact Int.le_refl _⟩
      | cons z zs ih =>
        intro m
        obtain ⟨h1, h2⟩ := ih (min m z)
        have e1 := h2 (min m z) (List.mem_cons_self ..)
        refine ⟨?_, fun y hy => ?_⟩
        · rcases List.mem_cons.mp h1 with h | h
          · rw [List.foldl_cons, h]
            rcases Int.le_total m z with q | q
            · rw [Int.min_eq_left q]; exact List.mem_cons_self ..
            · rw [Int.min_eq_right q]; exact List.mem_cons_of_mem _ (List.mem_cons_self ..)
          · rw [List.foldl_cons]; exact List.mem_cons_of_mem _ (List.mem_cons_of_mem _ h)
        · rw [List.foldl_cons]
          rcases List.mem_cons.mp hy with rfl | hy
          · exact Int.le_trans e1 (Int.min_le_left ..)
          · rcases List.mem_cons.mp hy with rfl | hy
            · exact Int.le_trans e1 (Int.min_le_right ..)
            · exact h2 y (List.mem_cons_of_mem _ hy)
    exact key xs x
theorem minI_uniq {xs : List Int} {m : Int} (h1 : m ∈ xs) (h2 : ∀ y ∈ xs, m ≤ y) : m = minI xs := by
  have hne : xs ≠ [] := fun z => by rw [z] at h1; cases h1
  obtain ⟨h3, h4⟩ := minI_ok hne
  exact Int.le_antisymm (h2 _ h3) (h4 _ h1)
section
variable {K : PySem.W.Frag} {σ : L2.St} {G : Hp} {te : TE}
theorem ev_min {xs : List Int} (hne : xs ≠ []) (h : EvP K te σ G (rL K rI) xs) : Ev K (tCB (rMin K) (tCons te tNil)) σ G (.int (minI xs)) :=
  ev_cb1 h fun x G2 _ ⟨a, vs, e1, h1, h2⟩ H2 e2 Q q => ⟨a, xs, by rw [e1], by rw [← allR_int h2]; exact ex_l e2.ex h1, List.length_pos_iff.mpr hne, fun m m1 m2 => by rw [minI_uniq m1 m2]; exact q⟩
/-- sorted of a dict's keys -/
theorem en_sortK {α : Type} {R : Rp α} {f : Str → α} [Mo R] {xs : Lot} (ok : xs.length ≤ 10000000) (h : EvP K te σ G (rDf R f) xs) : EvN K (tCB (rSortG K rS eS) (tCons te tNil)) σ G (AllR rS (so eS xs)) :=
  en_sortS (R := rS) (ok_str ok) (h.imp fun v G2 _ ⟨p, vs, h1, h2, h3⟩ => ⟨xs.map V.str, .inr (.inr ⟨p, _, h1, .inl h2, (zipK_keys h3.length).symm⟩), str_allR (allK_ok h3)⟩)
end
section
variable {P : Program} {w : World} {K : PySem.W.Frag} {mg : Str → Option Value} {base : Heap}
abbrev N_sure_lot : List Str := ["debate"]
theorem sc_sure_lot : FnScope N_sure_lot ["debate"] (defScope s_sure_lot) := ⟨rfl, rfl, rfl, by decide +kernel, rfl, by decide +kernel, by decide +kernel⟩
def spSureLot (K : PySem.W.Frag) : Sp := SpG K (ι := Deb) (fun i vs G => A1 (rDeb K) i vs G ∧ OkD i) (fun i G v G2 => rF G rS (sureLotP i) v G2)
theorem cal_sure_lot (T : Txt K mg) : Cal P w K mg base CX0 5 "sure_lot" ["debate"] (spSureLot K) := by
  refine cal_mk T.g_sure_lot sc_sure_lot (fun _ _ _ _ _ _ us hl => match us, hl with | [_], _ => rfl) (spg_len fun i vs G ⟨⟨_, e, _⟩, _⟩ => by rw [e]; rfl) (fun f cdv A outer s H vs Q E hr h => ?_)
  obtain ⟨d, G, eG, ⟨⟨a, rfl, hd⟩, ok⟩, q⟩ := h
  have ok : OkD d := ok
  have hz := union_len ok (ls := sureP d) (fun l h => (List.mem_filter.mp h).1) (sureP_len ok)
  refine ⟨_, (pss_one (ps_ret (pe_callB (xsort K rS hr.units) (by rfl) T.m_sorted boot_sorted (pa_cons (pe_cal (cal_all_held T) (hr.mono (by decide)) (by rfl) pass0 (pa_cons (pe_cal (cal_sure_lots T) (hr.mono (by decide)) (by rfl) pass0 (pa_cons (pv 0) pa_nil)) pa_nil)) pa_nil)))), ?_⟩
  exact sr_ret eG (EvN.f (en_sortK (R := rB) (f := fun _ => true) (xs := unionL (sureP d)) (Nat.le_trans (fold_len _ _) (by rw [List.length_nil, Nat.zero_add]; exact Nat.le_of_lt hz)) (er_post (sureP d) (eb_a1 (R := rLs K) (er_post (Z := rLs K (sureP d)) d (eb_a1 (R := rDeb K) (er_var rfl hd)) (fun vs G2 _ h => ⟨h, ok⟩) fun Gc v G2 e p => rF.l (rF.rel p fun _ _ h => rF.l h))) (fun vs G2 _ h => ⟨h, hz⟩) fun _ _ _ _ p => p)) (exr _)) fun v G2 H2 g r => q v G2 H2 g r

abbrev N_smallest_with : List Str := ["lots", "statement", "lot", "some", "fewest"]
theorem sc_smallest_with : FnScope N_smallest_with ["lots", "statement"] (defScope s_smallest_with) := ⟨rfl, rfl, rfl, by decide +kernel, rfl, by decide +kernel, by decide +kernel⟩
def spSmallW (K : PySem.W.Frag) : Sp := SpG K (ι := List Lot × Str × Hp) (fun i vs G => A2 (rL K (rF i.2.2 rS)) rS i.1 i.2.1 vs G ∧ i.1.length ≤ 1000) (fun i _ v G2 => rL K (rF i.2.2 rS) (smallW i.1 i.2.1) v G2)
theorem cal_smallest_with (T : Txt K mg) : Cal P w K mg base CX0 1 "smallest_with" ["lots", "statement"] (spSmallW K) := by
  refine cal_mk T.g_smallest_with sc_smallest_with (fun _ _ _ _ _ _ us hl => match us, hl with | [_, _], _ => rfl) (spg_len fun i vs G ⟨⟨_, _, e, _⟩, _⟩ => by rw [e]; rfl) (fun f cdv A outer s H vs Q E hr h => ?_)
  obtain ⟨⟨ls, x, H0⟩, G, eG, ⟨⟨a, b, rfl, hl, hx⟩, hz⟩, q⟩ := h
  have hz : ls.length ≤ 1000 := hz
  have hl : rL K (rF H0 rS) ls a G := hl
  have hx : rS x b G := hx
  have hz2 : (ls.filter fun l => decide (x ∈ l)).length ≤ 1000 := Nat.le_trans (List.length_filter_le _ _) hz
  refine ⟨_, (pss_cons (ps_setLc (i := 3) (own := [("lot", 2)]) (g := gName 2) rfl sc_smallest_with.nd rfl rfl (sw_true rfl rfl rfl (by decide +kernel)) (xlist K (pv 0)) (blkOk_by (own := [("lot", 2)]) (N := N_smallest_with) (by kernel_rfl)) (fun _ _ _ _ _ => pg_name (i := 2) sc_smallest_with.nd rfl (by first | exact Or.inl rfl | exact Or.inr rfl)) (fun _ _ _ _ _ => pts_one (pt_cmpR (xin K) (pv 1) (pv 2) (by rfl))) (fun _ _ _ _ _ => (pv 2))) (pss_cons (ps_set (i := 4) sc_smallest_with.nd rfl (by first | exact Or.inl rfl | exact Or.inr rfl) (pe_ifExp (pt_cmpR (xneD K hr.units) (pv 3) (pe_lst pa_nil) (nomark _)) (pe_callB (xmin K) (by rfl) T.m_min (by decide +kernel) (pa_cons (pe_lc (own := [("lot", 2)]) (g := gName 2) rfl sc_smallest_with.nd (xlist K (pv 3)) (blkOk_by (own := [("lot", 2)]) (N := N_smallest_with) (by kernel_rfl)) (fun _ _ _ _ _ => pg_name (i := 2) sc_smallest_with.nd rfl (by first | exact Or.inl rfl | exact Or.inr rfl)) (fun _ _ _ _ _ => pts_nil) (fun _ _ _ _ _ => (pe_callB (xlen K) (by rfl) T.m_len PySem.boot_len (pa_cons (pv 2) pa_nil)))) pa_nil)) pe_int)) (pss_one (ps_ret (pe_lc (own := [("lot", 2)]) (g := gName 2) rfl sc_smallest_with.nd (xlist K (pv 3)) (blkOk_by (own := [("lot", 2)]) (N := N_smallest_with) (by kernel_rfl)) (fun _ _ _ _ _ => pg_name (i := 2) sc_smallest_with.nd rfl (by first | exact Or.inl rfl | exact Or.inr rfl)) (fun _ _ _ _ _ => pts_one (pt_cmpR op_eq (pe_callB (xlen K) (by rfl) T.m_len PySem.boot_len (pa_cons (pv 2) pa_nil)) (pv 4) (nomark _))) (fun _ _ _ _ _ => (pv 2))))))), ?_⟩
  refine qr_asg eG (EvN.l (en_flt (R := rF H0 rS) (fun l => decide (x ∈ l)) (ew_list (er_var rfl hl)) (by omega) (fun _ => rfl) (fun _ => rfl) fun l _ v G2 e1 r => et_cmp (ev_ins (ev_strv (Mo.mo (R := rS) e1 hx) rfl) (er_var rfl (rF.l r))))) fun v1 G1 H1 g1 r1 => ?_
  refine qv_asg g1.kn (v := .int (minI ((ls.filter fun l => decide (x ∈ l)).map lenI))) (ev_if (et_cmp (ev_ne_nil (R := rF H0 rS) (enc := eLot) (by decide) (er_var rfl r1))) (fun hne => ?_) fun he => ?_) fun H2 g2 => ?_
  · refine ev_min ?_ ((EvN.l (en_lcN (R := rF H0 rS) (S := rI) (fun _ => true) lenI (ew_list (er_var rfl r1)) (Nat.lt_of_le_of_lt hz2 (by decide)) (fun _ => rfl) fun l _ v G2 e1 r => ⟨et_yes, fun _ => er_of (ev_len (er_var rfl (rF.l r))) rfl⟩)).imp fun v G2 _ h => by rw [List.filter_eq_self.mpr fun _ _ => rfl] at h; exact h)
    intro z
    have : (ls.filter fun l => decide (x ∈ l)) = [] := List.map_eq_nil_iff.mp z
    rw [this] at hne
    simp at hne
  · have : (ls.filter fun l => decide (x ∈ l)) = [] := of_decide_eq_true (by rw [Bool.not_eq_false'] at he; exact he)
    rw [this]
    exact ev_c
  have g := g1.trans g2
  refine sr_ret g2.kn (EvN.l (en_flt (R := rF H0 rS) (fun l => decide (lenI l = minI ((ls.filter fun l => decide (x ∈ l)).map lenI))) (ew_list (er_var rfl r1)) (Nat.lt_of_le_of_lt hz2 (by decide)) (fun _ => rfl) (fun _ => rfl) fun l _ v G3 e1 r => et_cmp (ev_eqi (ev_len (er_var rfl (rF.l r))) (ev_var rfl)))) fun v G3 H3 g3 r3 => q v G3 H3 (g.trans g3) r3

abbrev N_fault_in : List Str := ["debate", "way", "members", "clash", "spared", "left"]
theorem sc_fault_in : FnScope N_fault_in ["debate", "way", "members"] (defScope s_fault_in) := ⟨rfl, rfl, rfl, by decide +kernel, rfl, by decide +kernel, by decide +kernel⟩
def spFaultIn (K : PySem.W.Frag) : Sp := SpG K (ι := Deb × Str × Lot) (fun i vs G => A3 (rDeb K) rS (rL K rS) i.1 i.2.1 i.2.2 vs G ∧ OkD i.1 ∧ i.2.1 = ("held" : Str) ∧ i.2.2.length ≤ 1000 ∧ ∀ x ∈ i.2.2, x ∈ i.1.S) (fun i _ v G2 => rO (rP3 K rS rS rS) (faultP i.1 i.2.2) v G2)
theorem cal_fault_in (T : Txt K mg) : Cal P w K mg base CX0 6 "fault_in" ["debate", "way", "members"] (spFaultIn K) := by
  refine cal_mk T.g_fault_in sc_fault_in (fun _ _ _ _ _ _ us hl => match us, hl with | [_, _, _], _ => rfl) (spg_len fun i vs G ⟨⟨_, _, _, e, _⟩, _⟩ => by rw [e]; rfl) (fun f cdv A outer s H vs Q E hr h => ?_)
  obtain ⟨⟨d, way, L⟩, G, eG, ⟨⟨a, b, c, rfl, hd, hw, hl⟩, ok, hway, hz, hin⟩, q⟩ := h
  have ok : OkD d := ok
  have hl : rL K rS L c G := hl
  have hd : rDeb K d a G := hd
  obtain rfl : way = ("held" : Str) := hway
  obtain rfl : b = .str ("held" : Str) := hw.1
  refine ⟨_, (pss_cons (ps_set (i := 3) sc_fault_in.nd rfl (by first | exact Or.inl rfl | exact Or.inr rfl) (pe_cal (cal_clash_in T) (hr.mono (by decide)) (by rfl) pass0 (pa_cons (pv 0) (pa_cons (pv 2) pa_nil)))) (pss_cons (ps_if (pt_cmpR op_notN (pv 3) pe_non (nomark _)) (pss_one (ps_ret (pe_tup (pa_cons pe_str (pa_cons (pe_ix (xixT K) (pv 3) pe_int (fun _ _ => rfl)) (pa_cons (pe_ix (xixT K) (pv 3) pe_int (fun _ _ => rfl)) pa_nil)))))) pss_nil) (pss_cons (ps_if (pt_cmpR op_eq (pv 1) pe_str (nomark _)) (pss_one (ps_ret pe_non)) pss_nil) (pss_cons (ps_if (pt_cmpR op_eq (pv 1) pe_str (nomark _)) pss_never pss_nil) (pss_cons (ps_set (i := 5) sc_fault_in.nd rfl (by first | exact Or.inl rfl | exact Or.inr rfl) (pe_cal (cal_unanswered_in T) (hr.mono (by decide)) (by rfl) pass0 (pa_cons (pv 0) (pa_cons (pv 2) pa_nil)))) (pss_cons (ps_if (pt_cmpR op_notN (pv 5) pe_non (nomark _)) (pss_one (ps_ret (pe_tup (pa_cons pe_str (pa_cons (pe_ix (xixT K) (pv 5) pe_int (fun _ _ => rfl)) (pa_cons (pe_ix (xixT K) (pv 5) pe_int (fun _ _ => rfl)) pa_nil)))))) pss_nil) (pss_one (ps_ret (pe_ifExp (pt_cmpR op_eq (pv 1) pe_str (nomark _)) pe_non (pe_no)))))))))), ?_⟩
  refine qr_asg eG (er_post (Z := rO (rP K rS rS) (clashP d L)) (d, L) (eb_a2 (R := rDeb K) (S := rL K rS) (er_var rfl hd) (er_var rfl hl)) (fun vs G2 _ h => ⟨h, ok, hz, hin⟩) fun _ _ _ _ p => p) fun v1 G1 H1 g1 r1 => ?_
  refine q_if g1.kn (et_cmp (ev_notN (R := rP K rS rS) (er_var rfl r1))) (fun hy H2 g2 => ?_) fun hno H2 g2 => ?_
  · cases hc : clashP d L with
    | none => rw [hc] at hy; cases hy
    | some p =>
      rw [hc] at r1
      have r1 : rP K rS rS p v1 G1 := r1
      have okw : PyData.strOk ("clash" : Str) = true := by decide +kernel
      refine sr_ret g2.kn (er_tri (p := (("clash" : Str), p.1, p.2)) (R := rS) (S := rS) (T := rS) (er_of ev_c ⟨rfl, okw⟩) (er_ixP1 (R := rS) (S := rS) (er_var rfl r1)) (er_ixP2 (R := rS) (S := rS) (er_var rfl r1))) fun v G3 H3 g3 r3 => q v G3 H3 ((g1.trans g2).trans g3) ?_
      show rO (rP3 K rS rS rS) (faultP d L) v G3
      unfold faultP
      rw [hc]
      exact r3
  have hc : clashP d L = none := by
    cases hc : clashP d L with
    | none => rfl
    | some p => rw [hc] at hno; cases hno
  refine q_no g2.kn (et_is (et_cmp (ev_eqs (ev_var rfl) ev_c)) (by decide)) fun H3 g3 => ?_
  refine q_no g3.kn (et_is (et_cmp (ev_eqs (ev_var rfl) ev_c)) (by decide)) fun H4 g4 => ?_
  have g := ((g1.trans g2).trans g3).trans g4
  refine qr_asg g4.kn (er_post (Z := rO (rP K rS rS) (unansP d L)) (d, L) (eb_a2 (R := rDeb K) (S := rL K rS) (er_var rfl (Mo.mo g.kk hd)) (er_var rfl (Mo.mo g.kk hl))) (fun vs G2 _ h => ⟨h, ok, hz, hin⟩) fun _ _ _ _ p => p) fun v5 G5 H5 g5 r5 => ?_
  have g := g.trans g5
  refine q_if g5.kn (et_cmp (ev_notN (R := rP K rS rS) (er_var rfl r5))) (fun hy H6 g6 => ?_) fun hno H6 g6 => ?_
  · cases hu : unansP d L with
    | none => rw [hu] at hy; cases hy
    | some p =>
      rw [hu] at r5
      have r5 : rP K rS rS p v5 G5 := r5
      have okw : PyData.strOk ("unanswered" : Str) = true := by decide +kernel
      refine sr_ret g6.kn (er_tri (p := (("unanswered" : Str), p.1, p.2)) (R := rS) (S := rS) (T := rS) (er_of ev_c ⟨rfl, okw⟩) (er_ixP1 (R := rS) (S := rS) (er_var rfl r5)) (er_ixP2 (R := rS) (S := rS) (er_var rfl r5))) fun v G7 H7 g7 r7 => q v G7 H7 ((g.trans g6).trans g7) ?_
      show rO (rP3 K rS rS rS) (faultP d L) v G7
      unfold faultP
      rw [hc, hu]
      exact r7
  have hu : unansP d L = none := by
    cases hu : unansP d L with
    | none => rfl
    | some p => rw [hu] at hno; cases hno
  have hh : decide (("held" : Str) = ("held" : Str)) = true := by decide
  unfold tNext
  dsimp only
  refine sv_ret (v := .non) g6.kn ?_ fun H7 g7 => ?_
  · exact ev_if (et_is (et_cmp (ev_eqs (ev_var rfl) ev_c)) hh) (fun _ => ev_c) fun z => by cases z
  refine q .non G5 H7 ((g.trans g6).trans g7) ?_
  show rO (rP3 K rS rS rS) (faultP d L) _ _
  unfold faultP
  rw [hc, hu]
  rfl
end
end Ob
set_option maxRecDepth 100000
set_option maxHeartbeats 4000000
/-! Kla: lambdas made (the library's lam_make2, telling more of the heap), sorted by a key. -/
namespace Ob
open PySem PySem.Spec PyProof.Rows L2 LamX
section
variable {X : Cx} {pins : List (Addr × Obj)} {σ : L2.St} {H : Hp} {s : Shared}
theorem lam_make3 {T : List (Addr × Str)} {c P : Addr} {params : Arguments} {body : Expr} {scope : Scope} {pos : Pos} {E : Value → Shared → Prop} {Q : Value → Shared → Prop} (I : L2.Inv X pins σ H s) (TB : TabB X.base X.mg c P) (hcode : X.env.code = .ref c)
    (hm : (P, X.env.qual ++ "<lambda>") ∈ T) (hu : ∀ p ∈ T, p.1 = P → p.2 = X.env.qual ++ "<lambda>") (hT : Tabs T H) (hdef : defaultsOf params X.env = ([], [])) (hfree : ∀ y ∈ scope.names, y.2 = .free → ∃ c, X.env.cells.lookup y.1 = some c)
    (h : ∀ (f c' : Addr) (pm ctv : Value) (H1 : Hp) (s' : Shared), L2.Inv X pins σ H1 s' → Ex H H1 → Tabs T H1 →
      s'.heap.get? f = some (PySem.W.kla_obj "<lambda>" (X.env.qual ++ "<lambda>") params body scope (cloFrom X.env.cells scope.names []) pm c' ctv) → H1 f = none → f ∉ frs X.stack → H1 c' = some (CodeO c' (X.env.qual ++ "<lambda>")) → Q (.ref f) s') :
    wpAny (model X.prog X.w) X.A (eval (.Lambda params body scope pos) X.env) Q E s := by
  obtain ⟨ps, hP, ht, ha⟩ := hT _ hm
  refine PySem.W.kla_eval hdef ?_
  have bP : s.heap.BuiltinsAt X.mg P := TB.bm.keeps I.bk
  have hP' : s.heap.get? P = some { cls := .none, data := .fields ps } := I.hok P _ hP
  have nofr : ∀ f, s.heap.objs.size ≤ f → f ∉ frs X.stack := fun f hf z => by
    rcases List.mem_cons.mp (I.stkSub _ z) with e | e
    · have h1 := I.lt
      rw [← e] at h1
      exact Nat.lt_irrefl _ (Nat.lt_of_lt_of_le h1 hf)
    · exact I.nofs hf e
  cases hc : codeAmong pos ps.toList with
  | none =>
    refine PySem.W.kla_makeFunction (mg := X.mg) (c := c) (P := P) (ps := ps) (closure_ok hfree) I.ok.glob (I.mod.glob.keeps I.bk) hcode (TB.code.keeps I.bk) hP' ht hc TB.gP bP fun c' ctv h' tk hx hge hlt hrec htb => ?_
    obtain ⟨c2, oc, vs, t, e2, hoc, hd, hv⟩ := hrec
    cases e2
    have hsz : s.heap.objs.size ≤ h'.objs.size := Nat.le_trans hge (Nat.le_of_lt hlt)
    have nC : H c' = none := I.hok.fresh hge
    have I1 := inv_table (t' := tk) (more := #[rawInt pos.line, rawInt pos.col, .ref c']) (h' := h'.push (PySem.W.kla_obj "<lambda>" (X.env.qual ++ "<lambda>") params body scope (cloFrom X.env.cells scope.names []) ((X.mg "__name__").getD .none) c' ctv)) I hP
      (fun b o hb e => Heap.get?_push_of_some _ (hx b o hb e)) (Heap.get?_push_of_some _ htb) hge ⟨oc, vs, t, Heap.get?_push_of_some _ hoc, hd, hv⟩
    have hE : ExtN H (upd (upd H P (.tbl (ps ++ #[rawInt pos.line, rawInt pos.col, .ref c']))) c' (CodeO c' (X.env.qual ++ "<lambda>"))) := fun b o e n => by
      rw [upd_ne (ne_of_none e nC), upd_ne (fun z => n ps (Option.some.inj (e.symm.trans (by rw [z]; exact hP))))]
      exact e
    have eL : (ps ++ #[rawInt pos.line, rawInt pos.col, .ref c']).toList = ps.toList ++ [rawInt pos.line, rawInt pos.col, .ref c'] := by simp
    have hX : Ex H (upd (upd H P (.tbl (ps ++ #[rawInt pos.line, rawInt pos.col, .ref c']))) c' (CodeO c' (X.env.qual ++ "<lambda>"))) := ⟨hE, fun b qs e => by
      rw [upd_ne (ne_of_none e nC)]
      by_cases hb : b = P
      · rw [hb, upd_same]; exact ⟨_, rfl⟩
      · rw [upd_ne hb]; exact ⟨qs, e⟩, fun b e => by
      by_cases hb : b = c'
      · rw [hb]; exact nC
      · rw [upd_ne hb] at e
        by_cases hb2 : b = P
        · rw [hb2, upd_same] at e; cases e
        · rw [upd_ne hb2] at e; exact e⟩
    refine h h'.objs.size c' ((X.mg "__name__").getD .none) ctv _ _ I1 hX (fun p hp => ?_) (Heap.get?_push_size _ rfl) ?_ (nofr _ hsz) upd_same
    · by_cases hb : p.1 = P
      · rw [hu p hp hb, hb]
        refine ⟨_, by rw [upd_ne (ne_of_none hP nC), upd_same], by rw [eL]; exact PySem.TriplesOk_snoc _ _ _ _ ht, fun p' cv hcv => ?_⟩
        rw [eL] at hcv
        rcases among_app _ ht hcv with z | z
        · obtain ⟨c0, e1, e2⟩ := ha p' cv z
          exact ⟨c0, e1, hE _ _ e2 codeO_ne⟩
        · exact ⟨c', z, upd_same⟩
      · obtain ⟨ps', a1, a2, a3⟩ := hT p hp
        refine ⟨ps', by rw [upd_ne (ne_of_none a1 nC), upd_ne hb]; exact a1, a2, fun p' cv hcv => ?_⟩
        obtain ⟨c0, e1, e2⟩ := a3 p' cv hcv
        exact ⟨c0, e1, hE _ _ e2 codeO_ne⟩
    · have n1 : h'.objs.size ≠ c' := Nat.ne_of_gt hlt
      have n2 : h'.objs.size ≠ P := Nat.ne_of_gt (Nat.lt_of_lt_of_le (Heap.lt_size hP') hsz)
      rw [upd_ne n1, upd_ne n2]
      exact I.hok.fresh hsz
  | some cv =>
    obtain ⟨c', e, hco⟩ := ha pos cv hc
    subst e
    refine PySem.W.kla_makeFunctionHit (mg := X.mg) (c := c) (P := P) (ps := ps) (closure_ok hfree) I.ok.glob (I.mod.glob.keeps I.bk) hcode (TB.code.keeps I.bk) hP' ht hc bP fun ctv h' tk hx hsz => ?_
    have I1 : L2.Inv X pins σ H { s with heap := h'.push (PySem.W.kla_obj "<lambda>" (X.env.qual ++ "<lambda>") params body scope (cloFrom X.env.cells scope.names []) ((X.mg "__name__").getD .none) c' ctv), toks := tk } := I.kept fun b o e => Heap.get?_push_of_some _ (hx b o e)
    exact h h'.objs.size c' ((X.mg "__name__").getD .none) ctv H _ I1 (exr H) hT (Heap.get?_push_size _ rfl) (I.hok.fresh hsz) (nofr _ hsz) hco
end
/-! ### sorted by a key -/
section
variable {X : Cx} {pins : List (Addr × Obj)} {σ : L2.St} {H G : Hp} {s : Shared}
/-- the key's call: 0 - len(a) -/
theorem key_len {f c' b : Addr} {qual a : Str} {params : Arguments} {scope : Scope} {pm ctv : Value} {k0 : Nat} {p0 p1 p2 p3 p4 : Pos} {ws : List V} (I : L2.Inv X pins σ H s) {A : Around} (hroom : A.depth < recursionLimit)
    (hf : s.heap.get? f = some (PySem.W.kla_obj "<lambda>" qual params (.BinOp (.Constant (.int 0) k0 p0) .Sub (.Call (.Name "len" p1) [.Name a p2] [] p3) p4) scope [] pm c' ctv)) (hc : H c' = some (CodeO c' qual))
    (hbind : ∀ v : Value, bindArgs (PySem.W.kla_fn "<lambda>" qual params (.BinOp (.Constant (.int 0) k0 p0) .Sub (.Call (.Name "len" p1) [.Name a p2] [] p3) p4) scope [] pm (.ref c') ctv) ⟨[v], []⟩ = pure [(a, v)])
    (hco : scope.isCoroutine = false) (hgen : scope.isGenerator = false) (hk : scope.kind = .function) (hcell : ∀ x ∈ scope.names, x.2 ≠ .cell) (hloc : scope.names.lookup a = some .local) (hlen : scope.names.lookup ("len" : Str) = some NameKind.globalImplicit) (hm : X.mg "len" = none) (hd : (a == ("__debug__" : Str)) = false)
    (hl : SqL X.K H b ws) {E : Value → Shared → Prop} {Q : Value → Shared → Prop} (q : ∀ h' tk t, (∀ b o, s.heap.get? b = some o → h'.get? b = some o) → Q (.int (0 - (ws.length : Int)) t) { s with heap := h', toks := tk }) :
    wpAny (model X.prog X.w) A (call (.ref f) [.ref b]) Q E s := by
  obtain ⟨⟨oc, vs, t, hoc, hdc, hvc⟩, _, _⟩ := I.hok c' _ hc
  refine wpAny_call (PySem.W.kla_callFunE hroom hf rfl hco hgen rfl ⟨c', oc, vs, t, rfl, hoc, hdc, hvc⟩ ?_)
  rw [hbind]
  refine wpAny_pure (wpAny_newFunctionEnv hcell (fun y hy => by rw [List.mem_singleton.mp hy]; exact hloc) (fun h₁ hns hsb => ⟨I.nolimit.fresh _ hsb, ?_⟩) hk)
  have kp : ∀ b o, s.heap.get? b = some o → h₁.get? b = some o := fun b o e => hsb.extBut b o (Nat.ne_of_lt (Heap.lt_size e)) (Heap.get?_push_of_some _ e)
  refine PySem.W.kla_codeExpr (wpAny_BinOp (wpAny_Constant_int (wpAny_Call_Name_kw ?_)))
  obtain ⟨mb, h1, h2⟩ := I.mod.blt
  refine Calls.Name_function_global hk hlen (Calls.loadGlobal_builtin (I.mod.glob.keeps fun b o e => kp b o (I.bk b o e)) hm (h1.keeps fun b o e => kp b o (I.bk b o e)) ((h2 "len" (by decide)).trans PySem.boot_len) ?_) (by decide)
  refine PyProof.Rows.callWith_builtin1 (Calls.spliced_cons (wpAny_Name (wpAny_loadName_local (v := .ref b) hk hloc hns (by
    show List.lookup a [(a, Value.ref b)] = some (.ref b)
    simp [List.lookup]) ?_) hd)) rfl rfl
  refine Calls.spliced_nil ?_
  obtain ⟨its, r', pl, hz⟩ := I.list hl
  have hlen' := r'.length
  have hn := line63
  refine Calls.call_len_list (items := its.toArray) ?_ (by simp only [List.size_toArray] <;> omega) (sub_int ?_)
  · obtain ⟨o, e, c, n, d⟩ := pl.isList
    exact ⟨o, kp _ _ e, c, n, d⟩
  · have e1 : (0 : Int) - ((its.toArray.size : Nat) : Int) = 0 - (ws.length : Int) := by rw [List.size_toArray, hlen']
    rw [e1]
    exact q h₁ _ _ kp
theorem each_mem {α : Type} {R : Rp α} {G : Hp} {x : α} {v : V} : ∀ {xs : List α} {vs : List V}, AllR R xs vs G → True := fun _ => trivial
def tSortKey (K : PySem.W.Frag) (R : Rp Lot) (te : TE) : TE := fun σ H Q => te σ H fun v H1 => Tb K H1 ∧ ∃ a ws ls G, v = .ref a ∧ SqL K H1 a ws ∧ Ex G H1 ∧ AllR R ls ws G ∧ ls.length ≤ 10000 ∧
  ∀ H2 p ws', Ex H1 H2 → Tb K H2 → H2 p = none → AllR R (byLen ls) ws' G → Q (.ref p) (upd H2 p (.lst ws'))
/-- sorted(e, key=lambda a: 0 - len(a)) -/
theorem pe_sortKey (K : PySem.W.Frag) (R : Rp Lot) (hR : ∀ l v G, R l v G → rL K rS l v G) {e : Expr} {te : TE} {a : Str} {params : Arguments} {scope : Scope} {k0 : Nat} {p0 p1 p2 p3 p4 lpos kpos p pos : Pos} {c P : Addr}
    (he : PA X [e] (tCons te tNil)) (hg : Gl X "sorted") (hm : X.mg "sorted" = none) (hml : X.mg "len" = none) (TB : TabB X.base X.mg c P) (hcode : X.env.code = .ref c) (hmT : (P, X.env.qual ++ "<lambda>") ∈ tabs K) (hu : ∀ p ∈ tabs K, p.1 = P → p.2 = X.env.qual ++ "<lambda>")
    (hun : X.A.units + 64 < cLine) (hdp : X.A.depth + 5 < recursionLimit) (hK : X.K = K := by rfl) (hdef : defaultsOf params X.env = ([], []) := by rfl) (hclo : cloFrom X.env.cells scope.names [] = [] := by rfl)
    (hbind : ∀ (q : Str) (pm cv ctv v : Value), bindArgs (PySem.W.kla_fn "<lambda>" q params (.BinOp (.Constant (.int 0) k0 p0) .Sub (.Call (.Name "len" p1) [.Name a p2] [] p3) p4) scope [] pm cv ctv) ⟨[v], []⟩ = pure [(a, v)] := by intros; rfl)
    (hco : scope.isCoroutine = false := by rfl) (hgen : scope.isGenerator = false := by rfl) (hk : scope.kind = .function := by rfl) (hcell : ∀ x ∈ scope.names, x.2 ≠ .cell := by decide) (hfree : ∀ x ∈ scope.names, x.2 ≠ .free := by decide) (hloc : scope.names.lookup a = some .local := by rfl) (hlen : scope.names.lookup ("len" : Str) = some NameKind.globalImplicit := by rfl) (hd : (a == ("__debug__" : Str)) = false := by decide)
    (h1 : backTo pos (starEach [e] X.env) = (false, eval e X.env) :: backTo pos (starEach [] X.env) := by rfl) (h2 : (backTo pos (starEach [e] X.env)).any (·.1) = false := by rfl) :
    PE X (.Call (.Name "sorted" p) [e] [⟨some "key", .Lambda params (.BinOp (.Constant (.int 0) k0 p0) .Sub (.Call (.Name "len" p1) [.Name a p2] [] p3) p4) scope lpos, kpos⟩] pos) (tSortKey K R te) := by
  subst hK
  refine ⟨fun pins s σ H Q I h => ?_⟩
  refine wpAny_Call_Name_kw (ld_blt I hg hm boot_sorted ?_ (by decide) (by decide))
  refine PyProof.Rows.callWith_kw (thn (he.run pos pins s σ H (fun vs H1 => match vs with
    | [v] => Tb X.K H1 ∧ ∃ a ws ls G, v = .ref a ∧ SqL X.K H1 a ws ∧ Ex G H1 ∧ AllR R ls ws G ∧ ls.length ≤ 10000 ∧ ∀ H2 p ws', Ex H1 H2 → Tb X.K H2 → H2 p = none → AllR R (byLen ls) ws' G → Q (.ref p) (upd H2 p (.lst ws'))
    | _ => False) I h) fun us s1 ⟨vs, H1, I1, r1, q1⟩ => ?_) h1 h2 rfl rfl
  match vs, q1 with
  | [v], q1 =>
  obtain ⟨hT, b, ws, ls, G, rfl, hs, eG, ha, hz, q⟩ := q1
  obtain ⟨u, rfl, rx⟩ := vals1 r1
  obtain rfl : u = Value.ref b := rx
  show wpAny _ _ (evalAll [do let v ← eval _ X.env; standAt pos; pure v]) _ _ s1
  refine wpAny_evalAll_cons (wpAny_bind (lam_make3 I1 TB hcode hmT hu hT hdef (fun y hy e => absurd e (hfree y hy)) fun f c' pm ctv H2 s2 I2 eX T2 hf hfn hfr hco' => wpAny_bind (wpAny_standAt (wpAny_pure (wpAny_evalAll_nil ?_)))))
  rw [hclo] at hf
  show wpAny _ _ (call (.builtin "sorted") [.ref b] [(Str.ofString "key", .ref f)]) _ _ s2
  have hs2 := ex_l eX hs
  obtain ⟨its, rv, hl, hzz⟩ := I2.list hs2
  refine PySem.W.sorted_key_data (b := false) (fun l : Lot => PyData.int (0 - lenI l)) hl.isList (each_of (K := X.K) ha rv) (PySem.W.AllAlike.of fun _ _ => by simp [PySem.W.alike]) (.others fun b => ⟨fun z => PyData.noConfusion z, fun _ z => PyData.noConfusion z⟩) (Nat.le_trans hz (by decide)) (fun l _ => by
      show X.A.units + 2 + PyData.depth (.int _) < cLine
      simp only [PyData.depth]
      omega) (PyProof.Rows.ksk_s1 _ _) (fun _ => PyProof.Rows.ksk_l1 _ _) (fun _ => PyProof.Rows.ksk_t1 _ _)
    (fun v l ⟨x, rx, hx⟩ _ h tk kp => ?_) fun out cc h' tk kp hfr2 hD hlen2 eo => ?_
  · have I3 : L2.Inv X pins σ H2 { s2 with heap := h, toks := tk } := I2.kept kp
    obtain ⟨b2, ws2, rfl, s2', al2⟩ := hR l x G hx
    obtain rfl : v = Value.ref b2 := rx
    refine key_len I3 (by show X.A.depth < recursionLimit; omega) (kp _ _ hf) hco' (hbind _ _ _ _) hco hgen hk hcell hloc hlen hml hd (ex_l (eG.trans eX) s2') fun h3 tk3 t kp3 => ?_
    refine ⟨h3, tk3, rfl, kp3, ?_⟩
    rw [← al2.length]
    exact .int _ _
  · have e1 : (PySem.W.dataLe false fun l : Lot => PyData.int (0 - lenI l)) = fun a b => decide (0 - lenI a ≤ 0 - lenI b) := PySem.W.dataLe_int _
    rw [e1] at eo
    obtain ⟨ws', r2, h3⟩ := of_each eo
    have I3 : L2.Inv X pins σ H2 { s2 with heap := h', toks := tk } := I2.kept kp
    have hl' : ws'.length ≤ sizeLine := by
      rw [r2.length, hlen2]
      exact Nat.le_trans hz (by decide)
    have hnew : H2 (s2.heap.objs.size + 1) = none := I2.hok.fresh (Nat.le_succ _)
    exact ⟨.ref (s2.heap.objs.size + 1), _, I2.laid (t' := tk) (h' := h') kp (Nat.le_succ _) (show ObjOk X.prog X.w _ _ (s2.heap.objs.size + 1) (.lst ws') from ⟨hl', out, cc, r2, hD⟩), rfl, q H2 _ ws' eX T2 hnew h3⟩
end
end Ob
set_option maxRecDepth 100000
set_option maxHeartbeats 4000000
/-! Kd7: greatest_of, lots_in; defs whose code object is told. -/
namespace Ob
open PySem PySem.Spec PyProof.Rows L2
/-- a def whose code object is c -/
structure GotT (K : PySem.W.Frag) (mg : Str → Option Value) (x : Str) (st : Stmt) (c : Addr) : Prop where
  ex : ∃ (f : Addr) (oc : Value) (od : Option Addr) (dV kV doc pm : Value) (an : Option Addr) (ct : Value) (osl : Array (Option Value)),
    K.lookup f = some ⟨oc, od, .func (PySem.W.fnOf x x (defArgs st) (defBody st) (defScope st) dV kV doc pm an (.ref c) ct), osl⟩ ∧ PySem.W.codeIn K (.ref c) x = true ∧ mg x = some (.ref f) ∧ FnP K x st f (PySem.W.fnOf x x (defArgs st) (defBody st) (defScope st) dV kV doc pm an (.ref c) ct)
structure Tbx (K : PySem.W.Frag) (mg : Str → Option Value) (base : Heap) : Prop where
  law : LamX.TabB base mg (He.cT K ("law", none)).1 (He.cT K ("law", none)).2
  gr : LamX.TabB base mg (He.cT K ("greatest_of", none)).1 (He.cT K ("greatest_of", none)).2
  ne : (He.cT K ("law", none)).2 ≠ (He.cT K ("greatest_of", none)).2
  fgr : GotT K mg "greatest_of" s_greatest_of (He.cT K ("greatest_of", none)).1
  flaw : GotT K mg "law" s_law (He.cT K ("law", none)).1
section
variable {P : Program} {w : World} {K : PySem.W.Frag} {mg : Str → Option Value} {base : Heap} {CX : CXT} {k : Nat} {x : Str} {ps : List Str} {sp : Sp} {st : Stmt} {N : List Str} {c : Addr}
theorem cal_mkC (G : GotT K mg x st c) (S : FnScope N ps (defScope st))
    (hb : ∀ (kV doc pm : Value) (an : Option Addr) (cdv ct : Value) (us : List Value), us.length = ps.length → bindArgs (PySem.W.fnOf x x (defArgs st) (defBody st) (defScope st) .none kV doc pm an cdv ct) ⟨us, []⟩ = pure (ps.zip us))
    (len : ∀ vs H Q E, sp vs H Q E → vs.length = ps.length)
    (body : ∀ (f : Addr) (A : Around) (outer : List Env) (s : Shared) (H : Hp) (vs : List V) (Q : VK) (E : XK), Room k (A.deeper (envOfC x (defScope st) s.heap.objs.size f (.ref c))) → sp vs H Q E →
      ∃ t, PSs (cxOf CX P w K mg base N x (defScope st) f (.ref c) A outer s H E) (defBody st) t ∧ t { nx := fun _ H' => Q .non H', rt := Q } (start N vs) H) : Cal P w K mg base CX (k + 1) x ps sp := by
  obtain ⟨f, oc, od, dV, kV, doc, pm, an, ct, osl, lk, hcd, g, F⟩ := G.ex
  exact ⟨f, _, fn_of lk hcd S len fun A outer s H vs Q E hr hsp => body f A outer s H vs Q E hr hsp, g, F.kp, F.bindsN hb⟩
theorem tab_gr (B : Tbx K mg base) : ((He.cT K ("greatest_of", none)).2, ("greatest_of.<locals>.<lambda>" : Str)) ∈ tabs K := by simp [tabs]
theorem tab_gr_u (B : Tbx K mg base) : ∀ p ∈ tabs K, p.1 = (He.cT K ("greatest_of", none)).2 → p.2 = ("greatest_of.<locals>.<lambda>" : Str) := fun p hp e => by
  rcases List.mem_cons.mp hp with rfl | hp
  · exact absurd e B.ne
  · rw [List.mem_singleton.mp hp]
theorem _root_.L2.Room.deep5 {k : Nat} {A : Around} (r : L2.Room k A) : A.depth + 5 < recursionLimit := by have := r.dp; omega
end
section
variable {K : PySem.W.Frag} {σ : L2.St} {G H : Hp} {te : TE} {R : Rp Lot}
theorem er_sortKey [Mo R] {ls : List Lot} (hz : ls.length ≤ 10000) (h : EvP K te σ G (rL K R) ls) : EvP K (tSortKey K R te) σ G (rL K R) (byLen ls) := fun H e Q q => h H e _ fun v G1 H1 g1 ⟨a, ws, e1, h1, h2⟩ =>
  ⟨g1.kn.tb, a, ws, ls, G1, e1, ex_l g1.kh h1, g1.kh, h2, hz, fun H2 p ws' eX T2 hp h3 => by
    have gs : Gr K G1 H1 G1 H2 := Gr.skip g1.kn eX T2
    exact q (.ref p) (upd G1 p (.lst ws')) _ (g1.trans (gs.trans (Gr.new gs.kn hp))) ⟨p, ws', rfl, SqL.of upd_same, h3.mono (Ex.new (gs.kh.no _ hp))⟩⟩
end
section
variable {K : PySem.W.Frag} {σ : L2.St} {G H : Hp} {ta tb : TE} {α : Type} {R : Rp α}
theorem er_tup2 {x y : α} [Mo R] (ha : EvP K ta σ G R x) (hb : EvP K tb σ G R y) : EvP K (tTup (tCons ta (tCons tb tNil))) σ G (rT K R) [x, y] :=
  (er_tup (eb_cons ha (eb_one hb)) (fun vs G2 ⟨v, r, e, _, w, e2, _⟩ => by rw [e, e2]; exact (by decide : 2 ≤ 10000000))).imp fun v G2 _ ⟨q, vs, e, h, u, r, e1, r1, w, e2, r2⟩ => ⟨q, [u, w], e, SqT.of (by rw [← e2, ← e1]; exact h), r1, r2, trivial⟩
end
theorem byLen_mem {ls : List Lot} {l : Lot} : l ∈ byLen ls ↔ l ∈ ls := (List.mergeSort_perm ls _).mem_iff
theorem byLen_len (ls : List Lot) : (byLen ls).length = ls.length := List.length_mergeSort _
theorem keep_len : ∀ (ls ks : List Lot), (ls.foldl keepW ks).length ≤ ks.length + ls.length
  | [], ks => Nat.le_refl _
  | l :: ls, ks => by
    have h := keep_len ls (keepW ks l)
    have h2 : (keepW ks l).length ≤ ks.length + 1 := by
      unfold keepW
      split
      · omega
      · simp
    simp only [List.foldl_cons, List.length_cons]
    omega
theorem keepW_yes {ks : List Lot} {l : Lot} (h : (ks.any fun o => within l o) = true) : keepW ks l = ks := if_pos h
theorem keepW_no {ks : List Lot} {l : Lot} (h : (ks.any fun o => within l o) = false) : keepW ks l = ks ++ [l] := if_neg (by rw [h]; exact Bool.false_ne_true)
theorem keep_take {ls : List Lot} {i : Nat} {l : Lot} (e : ls[i]? = some l) : (ls.take (i + 1)).foldl keepW [] = keepW ((ls.take i).foldl keepW []) l := by
  rw [List.take_add_one, e, List.foldl_append]
  rfl
section
variable {P : Program} {w : World} {K : PySem.W.Frag} {mg : Str → Option Value} {base : Heap}
abbrev N_greatest_of : List Str := ["lots", "kept", "other", "lot"]
theorem sc_greatest_of : FnScope N_greatest_of ["lots"] (defScope s_greatest_of) := ⟨rfl, rfl, rfl, by decide +kernel, rfl, by decide +kernel, by decide +kernel⟩
def spGreat (K : PySem.W.Frag) : Sp := SpG K (ι := List Lot × Hp) (fun i vs G => A1 (rL K (rF i.2 rS)) i.1 vs G ∧ i.1.length ≤ 1000 ∧ ∀ l ∈ i.1, l.length ≤ 1000) (fun i _ v G2 => rL K (rF i.2 rS) (greatP i.1) v G2)
theorem cal_greatest_of (T : Txt K mg) (B : Tbx K mg base) : Cal P w K mg base CX0 2 "greatest_of" ["lots"] (spGreat K) := by
  refine cal_mkC B.fgr sc_greatest_of (fun _ _ _ _ _ _ us hl => match us, hl with | [_], _ => rfl) (spg_len fun i vs G ⟨⟨_, e, _⟩, _⟩ => by rw [e]; rfl) (fun f A outer s H vs Q E hr h => ?_)
  obtain ⟨⟨ls, H0⟩, G, eG, ⟨⟨a, rfl, hl⟩, hz, hz2⟩, q⟩ := h
  have hz : ls.length ≤ 1000 := hz
  have hl : rL K (rF H0 rS) ls a G := hl
  have hz2 : ∀ l ∈ ls, l.length ≤ 1000 := hz2
  refine ⟨_, (pss_cons (ps_set (i := 1) sc_greatest_of.nd rfl (by first | exact Or.inl rfl | exact Or.inr rfl) (pe_lst pa_nil)) (pss_cons (ps_for (g := gName 3) (passes_of rfl) rfl (xlist K (pe_sortKey K (rF H0 rS) (fun _ _ _ h => rF.l h) (pa_cons (pv 0) pa_nil) (by rfl) T.m_sorted T.m_len B.gr rfl (tab_gr B) (tab_gr_u B) hr.units hr.deep5)) (pg_name (i := 3) sc_greatest_of.nd rfl (by first | exact Or.inl rfl | exact Or.inr rfl)) (pss_one (ps_if (pt_not (pt_val (pe_callB (xany K) (by rfl) T.m_any boot_any (pa_cons (pe_lc (own := [("other", 2)]) (g := gName 2) rfl sc_greatest_of.nd (xlist K (pv 1)) (blkOk_by (own := [("other", 2)]) (N := N_greatest_of) (by kernel_rfl)) (fun _ _ _ _ _ => pg_name (i := 2) sc_greatest_of.nd rfl (by first | exact Or.inl rfl | exact Or.inr rfl)) (fun _ _ _ _ _ => pts_nil) (fun _ _ _ _ _ => (pe_cal (cal_is_within T) (hr.mono (by decide)) (by rfl) pass0 (pa_cons (pv 3) (pa_cons (pv 2) pa_nil))))) pa_nil)))) (pss_one (ps_expr (pe_bm PySem.F.plainAttrs_list PySem.F.slot_list_append PySem.F.type_list_append mt_append (pv 1) (pa_cons (pv 3) pa_nil)))) pss_nil))) (pss_one (ps_ret (pe_callB (xsort K (rF H0 rS) hr.units) (by rfl) T.m_sorted boot_sorted (pa_cons (pv 1) pa_nil)))))), ?_⟩
  refine qn_asg eG (en_nil (R := rF H0 rS)) fun p ws G2 H2 hp hg g hlp r => ?_
  refine q_for (R := rF H0 rS) (xs := byLen ls) g.kn (ew_list (er_sortKey (by omega) (er_var rfl (Mo.mo g.kk hl)))) (fun i σ' G' H' => (∃ x y, σ' = [some a, some (.ref p), x, y]) ∧ Gr K G H G' H' ∧ G' p = none ∧ ∃ ws, H' p = some (.lst ws) ∧ AllR (rF H0 rS) (((byLen ls).take i).foldl keepW []) ws G') (fun G3 H3 g3 => ⟨⟨_, _, rfl⟩, g.trans g3, g3.sp p hg (hidden (hlp)), ws, g3.hh.l hlp, r.mono g3.kk⟩) ?_ ?_
  · rintro i l v σ' G' H' G3 H3 el ⟨⟨x, y, rfl⟩, gg, hgp, us, hu, ru⟩ _ _ g3 rl
    have rl : rF H0 rS l v G3 := rl
    show tIfS _ _ _ _ [some a, some (.ref p), x, some v] H3
    have g4 := gg.trans g3
    have p3 : G3 p = none := g3.sp p hgp (hidden (hu))
    have hu3 := g3.hh.l hu
    have ru3 := ru.mono g3.kk
    have lm : l ∈ ls := byLen_mem.mp (List.mem_of_getElem? el)
    have kl : (((byLen ls).take i).foldl keepW []).length ≤ 1000 := by
      have h1 := keep_len ((byLen ls).take i) []
      rw [List.length_take, byLen_len, List.length_nil] at h1
      omega
    refine s_if (b := !((((byLen ls).take i).foldl keepW []).any fun o => within l o)) (kn_plus g4.kn hu3) (et_not (et_val (ev_anyN (R := rF H0 rS) (fun o => within l o) (ew_list (er_var rfl ⟨p, us, rfl, SqL.of upd_same, ru3.mono (Ex.new p3)⟩)) (by omega) (fun _ => rfl) fun o _ u G5 e5 ro => ev_call (l, o) (eb_a2 (R := rL K rS) (S := rL K rS) (er_var rfl (rF.l (Mo.mo ((Ex.new p3).trans e5) rl))) (er_var rfl (rF.l ro))) (fun vs G2 _ h => ⟨h, hz2 l lm⟩) (fun _ _ _ p => p)))) (fun hy H5 g5 => ?_) fun hno H5 g5 => ?_
    · refine s_app (R := fun w _ => w = v) (p := p) (vs := us) (Gr.skip g4.kn g5.hh g5.kn.tb).kn (g5.hh.l hu3) rfl (er_var rfl rfl) (by have := ru3.length; omega) fun w G6 H6 g6 r6 => ?_
      have r6 : w = v := r6
      subst r6
      have gs : Gr K G3 H3 G3 H5 := Gr.skip g4.kn g5.hh g5.kn.tb
      obtain ⟨a1, a2, a3⟩ := (g4.trans gs).loop (o := .lst (us ++ [w])) p3 hp (g5.hh.l hu3) g6
      refine ⟨rm G6 p, g3.kk.trans a2, a1.kn, ⟨_, _, rfl⟩, a1, rm_same, us ++ [w], upd_same, ?_⟩
      rw [keep_take el, keepW_no (by rw [Bool.not_eq_true'] at hy; exact hy)]
      exact (ru3.mono a2).append ⟨Mo.mo a2 rl, trivial⟩
    · have gs : Gr K G3 H3 G3 H5 := Gr.skip g4.kn g5.hh g5.kn.tb
      refine ⟨G3, g3.kk, gs.kn, ⟨_, _, rfl⟩, g4.trans gs, p3, us, g5.hh.l hu3, ?_⟩
      rw [keep_take el, keepW_yes (by rw [Bool.not_eq_false'] at hno; exact hno)]
      exact ru3
  · rintro σ' G' H' ⟨⟨x, y, rfl⟩, gg, hgp, us, hu, ru⟩ _ _
    rw [List.take_length] at ru
    have kl : ((byLen ls).foldl keepW []).length ≤ 1000 := by
      have h1 := keep_len (byLen ls) []
      rw [byLen_len, List.length_nil] at h1
      omega
    refine sr_ret (kn_plus gg.kn hu) (EvN.l (en_sort (R := rF H0 rS) (ok_lot (by omega)) (er_var rfl ⟨p, us, rfl, SqL.of upd_same, ru.mono (Ex.new hgp)⟩))) fun v G4 H4 g4 r4 => q v G4 H4 ((gg.plus hp hu hgp).trans g4) r4

abbrev N_lots_in : List Str := ["debate", "way", "found", "lot"]
theorem sc_lots_in : FnScope N_lots_in ["debate", "way"] (defScope s_lots_in) := ⟨rfl, rfl, rfl, by decide +kernel, rfl, by decide +kernel, by decide +kernel⟩
theorem greatP_len {ls : List Lot} : (greatP ls).length ≤ ls.length := by
  unfold greatP
  rw [so_len]
  have h1 := keep_len (byLen ls) []
  rw [byLen_len, List.length_nil] at h1
  omega
def spLotsIn (K : PySem.W.Frag) : Sp := SpG K (ι := Deb × Str) (fun i vs G => A2 (rDeb K) rS i.1 i.2 vs G ∧ OkD i.1 ∧ i.2 = ("greatest" : Str)) (fun i G v G2 => rL K (rF G rS) (greatP (heldP i.1)) v G2)
theorem cal_lots_in (T : Txt K mg) (B : Tbx K mg base) : Cal P w K mg base CX0 4 "lots_in" ["debate", "way"] (spLotsIn K) := by
  refine cal_mk T.g_lots_in sc_lots_in (fun _ _ _ _ _ _ us hl => match us, hl with | [_, _], _ => rfl) (spg_len fun i vs G ⟨⟨_, _, e, _⟩, _⟩ => by rw [e]; rfl) (fun f cdv A outer s H vs Q E hr h => ?_)
  obtain ⟨⟨d, way⟩, G, eG, ⟨⟨a, b, rfl, hd, hw⟩, ok, hway⟩, q⟩ := h
  have hd : rDeb K d a G := hd
  have ok : OkD d := ok
  obtain rfl : way = ("greatest" : Str) := hway
  obtain rfl : b = .str ("greatest" : Str) := hw.1
  refine ⟨_, (pss_cons (ps_if (pt_cmpR op_eq (pv 1) pe_str (nomark _)) (pss_one ps_never) pss_nil) (pss_cons (ps_if (pt_cmpR (xin K) (pv 1) (pe_tup (pa_cons pe_str (pa_cons pe_str pa_nil))) (by rfl)) pss_never pss_nil) (pss_cons (ps_set (i := 2) sc_lots_in.nd rfl (by first | exact Or.inl rfl | exact Or.inr rfl) (pe_cal (cal_held_lots T) (hr.mono (by decide)) (by rfl) pass0 (pa_cons (pv 0) pa_nil))) (pss_cons (ps_if (pt_cmpR op_eq (pv 1) pe_str (nomark _)) (pss_one ps_never) pss_nil) (pss_one (ps_ret (pe_ifExp (pt_cmpR op_eq (pv 1) pe_str (nomark _)) (pe_cal (cal_greatest_of T B) (hr.mono (by decide)) (by rfl) pass0 (pa_cons (pv 2) pa_nil)) (pv 2)))))))), ?_⟩
  refine q_no eG (et_is (et_cmp (ev_eqs (ev_var rfl) ev_c)) (by decide)) fun H1 g1 => ?_
  refine q_no g1.kn (et_is (et_cmp (ev_insQ (x := ("greatest" : Str)) (xs := [("calm" : Str), ("settled" : Str)]) (ev_var rfl) ((er_tup2 (R := rS) (er_of ev_c ⟨rfl, by decide +kernel⟩) (er_of ev_c ⟨rfl, by decide +kernel⟩)).imp fun _ _ _ h => .inr h))) (by decide)) fun H2 g2 => ?_
  have g2 := g1.trans g2
  refine qr_asg g2.kn (er_post (Z := rF G (rF G rS) (heldP d)) d (eb_a1 (R := rDeb K) (er_var rfl hd)) (fun vs G2 _ h => ⟨h, ok⟩) fun Gc v G2 e p => (rF.base e p).rel fun _ _ h => h.base e) fun v3 G3 H3 g3 r3 => ?_
  have g3 := g2.trans g3
  refine q_no g3.kn (et_is (et_cmp (ev_eqs (ev_var rfl) ev_c)) (by decide)) fun H4 g4 => ?_
  have g4 := g3.trans g4
  have hh : decide (("greatest" : Str) = ("greatest" : Str)) = true := by decide
  refine sr_ret g4.kn (er_if (R := rL K (rF G rS) (greatP (heldP d))) (et_is (et_cmp (ev_eqs (ev_var rfl) ev_c)) hh) (fun _ => er_post (heldP d, G) (eb_a1 (R := rL K (rF G rS)) (er_var rfl (rF.l r3))) (fun vs G2 _ h => ⟨h, Nat.le_trans (heldP_len ok) (by decide), fun l hl => Nat.le_trans (heldP_l8 ok hl) (by decide)⟩) fun _ _ _ _ p => p) fun z => by cases z) fun v G5 H5 g5 r5 => q v G5 H5 (g4.trans g5) r5
end
end Ob
set_option maxRecDepth 100000
set_option maxHeartbeats 4000000
/-! Kex: own exceptions with one field: raised. -/
namespace Ob
open PySem PySem.Spec PyProof.Rows L2
structure ErrC (K : PySem.W.Frag) (mg : Str → Option Value) (nm f : Str) (st : Stmt) (C : Addr) : Prop where
  g : mg nm = some (.ref C)
  o : OexC K C
  xf : XfC K C
  no : PySem.W.findIn K (.ref C) f = some none
  ini : ∃ fI fd, FunD K "__init__" (nm ++ ".__init__") (defArgs st) (defBody st) (defScope st) [] [] fI fd ∧ PySem.W.findIn K (.ref C) "__init__" = some (some (.ref fI)) ∧ PySem.W.typeIn K (.ref fI) = some (.type "function")
structure Errs (K : PySem.W.Frag) (mg : Str → Option Value) (cL cS cH : Addr) : Prop where
  bl : ErrC K mg "BadLot" "index" s_initBadLot cL
  ns : ErrC K mg "NoStatement" "thing" s_initNoStatement cS
  nh : ErrC K mg "NotHeld" "fault" s_initNotHeld cH
  ss : PySem.W.exmOne K (.ref cS) (.ref cS) = some true
  ls : PySem.W.exmOne K (.ref cL) (.ref cS) = some false
  ll : PySem.W.exmOne K (.ref cL) (.ref cL) = some true
  hs : PySem.W.exmOne K (.ref cH) (.ref cS) = some false
  hl : PySem.W.exmOne K (.ref cH) (.ref cL) = some false
  hh : PySem.W.exmOne K (.ref cH) (.ref cH) = some true
def spIni (C : Addr) (f : Str) : Sp := fun vs H Q _ => ∃ a y, vs = [.ref a, y] ∧ H a = some (exo a C none) ∧ ∀ dx, H dx = none → dx ≠ a → Q .non (upd (upd H dx (exd dx [(f, y)])) a (exo a C (some dx)))
/-- the exception in the air: of class C, its field f standing for x -/
def ExIs {α : Type} (C : Addr) (f : Str) (R : Rp α) (x : α) : Value → Option Addr → Hp → Prop := fun cls d G => cls = .ref C ∧ ∃ dd y, d = some dd ∧ G dd = some (.xd [(f, y)]) ∧ R x y G
section
variable {P : Program} {w : World} {K : PySem.W.Frag} {mg : Str → Option Value} {base : Heap} {cL cS cH : Addr}
theorem ini_BadLot (Er : Errs K mg cL cS cH) : ∃ fI fd, FnOk P w K mg base CX0 1 fI fd ["self", "index"] (spIni cL "index") ∧ Binds K fd ["self", "index"] [] ∧ PySem.W.findIn K (.ref cL) "__init__" = some (some (.ref fI)) ∧ PySem.W.typeIn K (.ref fI) = some (.type "function") := by
  obtain ⟨fI, fd, F, h1, h2⟩ := Er.bl.ini
  refine ⟨fI, fd, F.ok (N := ["self", "index"]) ⟨rfl, rfl, rfl, by decide +kernel, rfl, by decide +kernel, by decide +kernel⟩ (fun vs H Q E ⟨a, y, e, _⟩ => by rw [e]; rfl) (fun cdv A outer s H vs Q E hr h => ?_), F.bindsN fun _ _ _ _ _ _ us hl => match us, hl with | [_, _], _ => rfl, h1, h2⟩
  obtain ⟨a, y, rfl, ha, q⟩ := h
  refine ⟨_, pss_one (ps_ost (pv 0) (pv 1)), ?_⟩
  exact ⟨y, rfl, .ref a, rfl, a, cL, rfl, Er.bl.o, Er.bl.no, .inl ⟨ha, fun dx h1 h2 => q dx h1 h2⟩⟩
theorem ini_NoStatement (Er : Errs K mg cL cS cH) : ∃ fI fd, FnOk P w K mg base CX0 1 fI fd ["self", "thing"] (spIni cS "thing") ∧ Binds K fd ["self", "thing"] [] ∧ PySem.W.findIn K (.ref cS) "__init__" = some (some (.ref fI)) ∧ PySem.W.typeIn K (.ref fI) = some (.type "function") := by
  obtain ⟨fI, fd, F, h1, h2⟩ := Er.ns.ini
  refine ⟨fI, fd, F.ok (N := ["self", "thing"]) ⟨rfl, rfl, rfl, by decide +kernel, rfl, by decide +kernel, by decide +kernel⟩ (fun vs H Q E ⟨a, y, e, _⟩ => by rw [e]; rfl) (fun cdv A outer s H vs Q E hr h => ?_), F.bindsN fun _ _ _ _ _ _ us hl => match us, hl with | [_, _], _ => rfl, h1, h2⟩
  obtain ⟨a, y, rfl, ha, q⟩ := h
  refine ⟨_, pss_one (ps_ost (pv 0) (pv 1)), ?_⟩
  exact ⟨y, rfl, .ref a, rfl, a, cS, rfl, Er.ns.o, Er.ns.no, .inl ⟨ha, fun dx h1 h2 => q dx h1 h2⟩⟩
theorem ini_NotHeld (Er : Errs K mg cL cS cH) : ∃ fI fd, FnOk P w K mg base CX0 1 fI fd ["self", "fault"] (spIni cH "fault") ∧ Binds K fd ["self", "fault"] [] ∧ PySem.W.findIn K (.ref cH) "__init__" = some (some (.ref fI)) ∧ PySem.W.typeIn K (.ref fI) = some (.type "function") := by
  obtain ⟨fI, fd, F, h1, h2⟩ := Er.nh.ini
  refine ⟨fI, fd, F.ok (N := ["self", "fault"]) ⟨rfl, rfl, rfl, by decide +kernel, rfl, by decide +kernel, by decide +kernel⟩ (fun vs H Q E ⟨a, y, e, _⟩ => by rw [e]; rfl) (fun cdv A outer s H vs Q E hr h => ?_), F.bindsN fun _ _ _ _ _ _ us hl => match us, hl with | [_, _], _ => rfl, h1, h2⟩
  obtain ⟨a, y, rfl, ha, q⟩ := h
  refine ⟨_, pss_one (ps_ost (pv 0) (pv 1)), ?_⟩
  exact ⟨y, rfl, .ref a, rfl, a, cH, rfl, Er.nh.o, Er.nh.no, .inl ⟨ha, fun dx h1 h2 => q dx h1 h2⟩⟩
end
section
theorem heap_err {H1 : Hp} {a dx : Addr} {u v : HO} {fs : List (Str × V)} (ha : H1 a = none) (h : dx ≠ a) : upd (del (upd (upd (upd H1 a u) dx (exd dx fs)) a v) a) dx (.xd fs) = upd H1 dx (.xd fs) := by
  funext b
  by_cases hb : b = dx
  · rw [hb, upd_same, upd_same]
  · rw [upd_ne hb, upd_ne hb]
    by_cases h2 : b = a
    · rw [h2, del_same, ha]
    · rw [del_ne h2, upd_ne h2, upd_ne hb, upd_ne h2]
variable {K : PySem.W.Frag} {σ : L2.St} {G H : Hp} {te : TE} {α ι : Type} {R : Rp α}
/-- raise C(e) -/
theorem s_err {C : Addr} {f : Str} {x : α} {Q : XK} [Mo R] (e : Kn K G H) (h : EvP K te σ G R x) (k : ∀ cls d G2 H2, Gr K G H G2 H2 → ExIs C f R x cls d G2 → Q cls d H2) : tMkO C (spIni C f) [] (tCons te tNil) σ H Q :=
  h H e _ fun y G1 H1 g1 r1 => ⟨(by decide : 1 ≤ 1000), fun a na => ⟨a, y, rfl, upd_same, fun dx h1 h2 => by
    have hdx : H1 dx = none := by rw [upd_ne h2] at h1; exact h1
    refine ⟨rfl, dx, [(f, y)], upd_same, by rw [upd_ne h2, upd_same], hdx, ?_⟩
    rw [heap_err na h2]
    exact k _ _ (upd G1 dx (.xd [(f, y)])) _ (g1.trans (Gr.new g1.kn hdx)) ⟨rfl, dx, y, rfl, upd_same, Mo.mo (Ex.new (g1.kh.no _ hdx)) r1⟩⟩⟩
/-- a promise with two outcomes -/
def SpE (K : PySem.W.Frag) {ι : Type} (pre : ι → List V → Hp → Prop) (post : ι → Hp → V → Hp → Prop) (bad : ι → Prop) (ex : ι → Value → Option Addr → Hp → Prop) : Sp := fun vs H Q E => ∃ i G, Kn K G H ∧ pre i vs G ∧
  (¬ bad i → ∀ v G2 H2, Gr K G H G2 H2 → post i G v G2 → Q v H2) ∧ (bad i → ∀ cls d G2 H2, Gr K G H G2 H2 → ex i cls d G2 → E cls d H2)
theorem spe_len {pre : ι → List V → Hp → Prop} {post : ι → Hp → V → Hp → Prop} {bad : ι → Prop} {ex : ι → Value → Option Addr → Hp → Prop} {n : Nat} (h : ∀ i vs G, pre i vs G → vs.length = n) : ∀ vs H Q E, SpE K pre post bad ex vs H Q E → vs.length = n := fun vs H Q E ⟨i, G, _, p, _⟩ => h i vs G p
/-- called where it does not raise -/
theorem er_callE {ta : TA} {pre : ι → List V → Hp → Prop} {post : ι → Hp → V → Hp → Prop} {bad : ι → Prop} {ex : ι → Value → Option Addr → Hp → Prop} {E : XK} {A : List V → Hp → Prop} {Z : V → Hp → Prop} (i : ι) (nb : ¬ bad i) (h : EvB K ta σ G A) (hp : ∀ vs G2, Ex G G2 → A vs G2 → pre i vs G2) (hz : ∀ Gc v G2, Ex G Gc → post i Gc v G2 → Z v G2) :
    EvR K (tCall (SpE K pre post bad ex) [] E ta) σ G Z := fun H e Q q => h H e _ fun vs G2 H2 g r => by
  rw [List.append_nil]
  exact ⟨i, G2, g.kn, hp vs G2 g.kk r, fun _ v G3 H3 g3 k => q v G3 H3 (g.trans g3) (hz G2 v G3 g.kk k), fun b => absurd b nb⟩
/-- an evaluation that may raise: R of the value, or X of what is in the air -/
def EvX (K : PySem.W.Frag) (te : TE) (E : XK) (σ : L2.St) (G : Hp) (b : Prop) (R : V → Hp → Prop) (X : Value → Option Addr → Hp → Prop) : Prop := ∀ H, Kn K G H → ∀ Q : VK, (¬ b → ∀ v G2 H2, Gr K G H G2 H2 → R v G2 → Q v H2) → (b → ∀ cls d G2 H2, Gr K G H G2 H2 → X cls d G2 → E cls d H2) → te σ H Q
theorem ex_call {ta : TA} {pre : ι → List V → Hp → Prop} {post : ι → Hp → V → Hp → Prop} {bad : ι → Prop} {ex : ι → Value → Option Addr → Hp → Prop} {E : XK} {A : List V → Hp → Prop} (i : ι) (h : EvB K ta σ G A) (hp : ∀ vs G2, Ex G G2 → A vs G2 → pre i vs G2) :
    EvX K (tCall (SpE K pre post bad ex) [] E ta) E σ G (bad i) (fun v G2 => ∃ Gc, Ex G Gc ∧ post i Gc v G2) (ex i) := fun H e Q q qx => h H e _ fun vs G2 H2 g r => by
  rw [List.append_nil]
  exact ⟨i, G2, g.kn, hp vs G2 g.kk r, fun nb v G3 H3 g3 k => q nb v G3 H3 (g.trans g3) ⟨G2, g.kk, k⟩, fun b cls d G3 H3 g3 k => qx b cls d G3 H3 (g.trans g3) k⟩
end
end Ob
set_option maxRecDepth 100000
set_option maxHeartbeats 4000000
/-! Ken: enumerate over a tuple (or a list). -/
namespace Ob
open PySem PySem.Spec PyProof.Rows L2
theorem meets_enum1 {v : Value} {o : Obj} {H : Heap → Prop} (B : Begins v o H) :
    Meets (Builtin.«enumerate.__new__» ⟨[.type "enumerate", v], []⟩) (fun _ R s => H s.heap ∧
      R (.ok (.ret (.ref (s.heap.push o).objs.size))) { s with heap := (s.heap.push o).push { cls := .type "enumerate", data := .fields #[.none, .bool false, .ref s.heap.objs.size, rawInt 0, .none, .none] } }) :=
  .of_wp fun prog w A R s h => by
    obtain ⟨hp, g, d, tk, os⟩ := s; obtain ⟨h1, h⟩ := h
    have hsub := sub_enumerate
    have q1 : ∀ {A' : Around} {E : Value → Shared → Prop} {Q : Value → Shared → Prop}, Q (.ref hp.objs.size) ⟨hp.push o, g, d, tk, os⟩ → wpAny (model prog w) A' (pyIter v) Q E ⟨hp, g, d, tk, os⟩ :=
      fun q => B.iter prog w _ _ ⟨hp, g, d, tk, os⟩ _ h1 q
    wp_walk using q1
    refine wpAny_stack_any fun st => wpAny_pure ?_
    split
    · rename_i c _ _ _ _ _
      cases (c == Value.type "enumerate")
      · wp_walk using q1
        exact ⟨_, rfl, h⟩
      · wp_walk using q1
        exact ⟨_, rfl, h⟩
    · wp_walk using q1
      exact ⟨_, rfl, h⟩
section
variable {prog : Program} {w : World} {A : Around} {E : Value → Shared → Prop} {s : Shared}
theorem enum1 {v : Value} {o : Obj} {H : Heap → Prop} {Q : Value → Shared → Prop} (B : Begins v o H) (h1 : H s.heap)
    (h : ∀ h', IsEnum h' (s.heap.objs.size + 1) s.heap.objs.size 0 .none → h'.get? s.heap.objs.size = some o → h'.objs.size = s.heap.objs.size + 2 →
      (∀ b o, s.heap.get? b = some o → h'.get? b = some o) → Q (.ref (s.heap.objs.size + 1)) { s with heap := h' }) :
    wpAny (model prog w) A (call (.type "enumerate") [v]) Q E s := by
  refine callType_new F.called_enumerate (by decide) (F.typeCall_enumerate_1 _) (F.newCall_enumerate_1 _) (fun obj => F.args_object_init_2 obj _) F.entry_enumerate_new
    (meets_enum1 B) ⟨h1, ?_⟩
  have hz : (s.heap.push o).objs.size = s.heap.objs.size + 1 := Heap.size_push ..
  show _ ∧ _
  rw [hz]
  have he : IsEnum ((s.heap.push o).push { cls := .type "enumerate", data := .fields #[.none, .bool false, .ref s.heap.objs.size, rawInt 0, .none, .none] }) (s.heap.objs.size + 1) s.heap.objs.size 0 .none := by
    have := Heap.get?_push_size (s.heap.push o) (o := { cls := .type "enumerate", data := .fields #[.none, .bool false, .ref s.heap.objs.size, rawInt 0, .none, .none] }) rfl
    rw [hz] at this; exact this
  refine ⟨⟨_, he, rfl⟩, h _ he (Heap.get?_push_of_some _ (Heap.get?_push_size _ B.free)) (by rw [Heap.size_push, hz]) fun b o x => Heap.get?_push_of_some _ (Heap.get?_push_of_some _ x)⟩
end
def IteT (K : PySem.W.Frag) (a : Addr) : It :=
  ⟨fun i H => ∃ (xs : List V) (x : V), SqT K H a xs ∧ xs[i]? = some x, fun i H v H' => ∃ T x, v = .ref T ∧ H T = none ∧ H' = upd H T (.tup [.int (i : Nat), x]) ∧ ∀ xs, SqT K H a xs → xs[i]? = some x, fun i H => ∃ xs : List V, SqT K H a xs ∧ xs.length = i⟩
theorem turn_enumT {P : Program} {w : World} {K : PySem.W.Frag} {elts : List Expr} {kk : Nat} {tpos : Pos} (a e it : Addr) :
    Turn P w K (.Tuple elts kk tpos) (IteT K a) [e, it] e (fun i h => (∃ old, IsEnum h e it ((i : Nat) : Int) old) ∧ h.IsTupleIter it a i ∧ e ≠ it) where
  mem := by simp
  obj := fun i h st b hb => by
    obtain ⟨⟨old, he⟩, ⟨o, ho, hc, hd⟩, _⟩ := st
    have e' : b = e ∨ b = it := by simpa using hb
    rcases e' with z | z
    · rw [z]; exact ⟨_, he, fun v q => nomatch q⟩
    · rw [z]; exact ⟨o, ho, fun v q => by rw [hd] at q; cases q⟩
  keep := fun i h h' st k => let ⟨⟨old, he⟩, hi, hne⟩ := st; ⟨⟨old, k e (by simp) _ he⟩, hi.at fun o q => k it (by simp) o q, hne⟩
  item := by
    intro X hP hw hK hc i pins s σ H E I hf st hg
    subst hP hw hK
    obtain ⟨⟨old, he⟩, hit, hne⟩ := st
    obtain ⟨xs, x, hq, hx⟩ := hg
    obtain ⟨its, rv, p, hz⟩ := I.tuple hq
    obtain ⟨u, hu, ru⟩ := rv.get hx
    have hel : e < s.heap.objs.size := Heap.lt_size he
    have hil : it < s.heap.objs.size := by obtain ⟨_, q, _⟩ := hit; exact Heap.lt_size q
    have hne2 : a ≠ it := fun z => by
      obtain ⟨o, ho, hc', _⟩ := p
      obtain ⟨o2, ho2, hc2, _⟩ := hit
      rw [z] at ho
      rw [ho] at ho2; cases ho2
      rw [hc'] at hc2
      exact absurd hc2 (by decide)
    have hea : e ≠ a := fun z => by
      obtain ⟨o, ho, hc', _⟩ := p
      rw [← z] at ho
      rw [show s.heap.get? e = _ from he] at ho; cases ho
      exact absurd (show Value.type "enumerate" = Value.type "tuple" from hc') (by decide)
    have hef : e ∉ [it, a] := by simp [hne, hea]
    refine wpAny_pyNext_enum_itemD (Draws.tuple (A := X.A.in1) (I.ok.hd hc) it a hne2 its.toArray) he ⟨hit, p⟩ (by rw [List.size_toArray, ← rv.length]; exact (List.getElem?_eq_some_iff.mp hx).1) hne hef fun x' h' tk hPx ho st' hT hsz hk => ?_
    obtain ⟨hit', p'⟩ := st'
    have hu' : x' = u := by
      have h1 : its[i]? = some x' := by simpa using hPx
      rw [hu] at h1; exact (Option.some.inj h1).symm
    subst hu'
    refine ⟨_, rfl, wpAny_letOwnedTupleGo_enum (s := { s with heap := h', toks := tk + 1 }) ho fun h'' he' sb => ?_⟩
    have hT2 : h''.get? s.heap.objs.size = some { cls := .type "tuple", data := .seq #[.int i tk, x'] } := (sb.2 _ (Nat.ne_of_gt hel)).trans hT
    have new : ObjOk X.prog X.w (upd H s.heap.objs.size (.tup [.int (i : Nat), x])) h'' s.heap.objs.size (.tup [.int (i : Nat), x]) :=
      ⟨by show 2 ≤ sizeLine; decide, [.int i tk, x'], .cons ⟨_, rfl⟩ (.cons ru .nil), ⟨_, hT2, rfl, _, rfl⟩⟩
    have I1 : L2.Inv X pins σ (upd H s.heap.objs.size (.tup [.int (i : Nat), x])) { s with heap := h'', toks := tk + 1 } :=
      I.turnedNew (ch := [e, it]) (fun b ob hb q => (sb.2 b (fun z => hb (by simp [z]))).trans (hk b ob (fun z => hb (by simp [z])) (fun z => hb (by simp [z])) q)) hf (Nat.le_refl _) new
    refine ⟨.ref s.heap.objs.size, _, I1, rfl, ⟨_, x, rfl, I.hok.fresh (Nat.le_refl _), rfl, fun ys hy => by rw [I.tuple_inj hy hq]; exact hx⟩, ⟨⟨x', ?_⟩, hit'.at fun o q => (sb.2 it (Ne.symm hne)).trans q, hne⟩, fun b hb => ?_⟩
    · have e1 : ((i + 1 : Nat) : Int) = (i : Int) + 1 := by omega
      rw [e1]; exact he'
    · have hb' : b < s.heap.objs.size := by
        have e' : b = e ∨ b = it := by simpa using hb
        rcases e' with z | z
        · rw [z]; exact hel
        · rw [z]; exact hil
      rw [upd_ne (Nat.ne_of_lt hb')]
      exact (hf b hb).1
  done := by
    intro X hP hw hK hc i pins s σ H E I hf st hg
    subst hP hw hK
    obtain ⟨⟨old, he⟩, hit, hne⟩ := st
    obtain ⟨xs, hq, hx⟩ := hg
    obtain ⟨its, rv, p, hz⟩ := I.tuple hq
    obtain ⟨f0, f1, f2, f3, f4, f5⟩ := hf it (by simp)
    have hl := rv.length
    have hne2 : a ≠ it := fun z => by
      obtain ⟨o, ho, hc', _⟩ := p
      obtain ⟨o2, ho2, hc2, _⟩ := hit
      rw [z] at ho
      rw [ho] at ho2; cases ho2
      rw [hc'] at hc2
      exact absurd hc2 (by decide)
    have hn : i = its.toArray.size := by rw [List.size_toArray, ← hl]; exact hx.symm
    subst hn
    exact wpAny_pyNext_enum_endD (Draws.tuple (A := X.A.in1) (I.ok.hd hc) it a hne2 its.toArray) he ⟨hit, p⟩ fun h' eb => ⟨rfl, I.turned (t' := s.toks) (fun b o hb q => eb b o hb q) f0 f1 f3 f4 f5⟩
  self := fun A i s Q E st h => let ⟨⟨_, he⟩, _⟩ := st; wpAny_pyIter_enum he h
def iEnumT (K : PySem.W.Frag) (ta : TA) : TI := fun σ H R => ta σ H fun vs H1 => ∃ a xs, vs = [.ref a] ∧ SqT K H1 a xs ∧ R (IteT K a) H1
theorem pi_enumT {X : Cx} {e : Expr} {ta : TA} {p pos tpos : Pos} {elts : List Expr} {kk : Nat} (hg : Gl X "enumerate") (hm : X.mg "enumerate" = none) (ha : PA X [e] ta) (hs : starEach [e] X.env = [(false, eval e X.env)] := by rfl) :
    PI X (.Tuple elts kk tpos) (.Call (.Name "enumerate" p) [e] [] pos) (iEnumT X.K ta) := by
  refine ⟨fun pins s σ H R I h => ?_⟩
  refine Call_ (ld_blt I hg hm boot_enumerate (PyProof.Rows.callWith_type1 (thn (ha.run pos pins s σ H _ I h) fun us s1 ⟨vs, H1, I1, r1, q1⟩ => ?_) hs rfl))
  obtain ⟨a, xs, ex, hq, q⟩ := q1
  subst ex
  obtain ⟨u, rfl, rx⟩ := vals1 r1
  obtain rfl : u = Value.ref a := rx
  obtain ⟨its, rv, p', hz⟩ := I1.tuple hq
  refine enum1 (begins_tuple a its.toArray) p' fun h' he hit hsz hk => wpAny_pyIter_enum he ?_
  have I2 : L2.Inv X pins σ H1 { s1 with heap := h' } := I1.kept (t' := s1.toks) hk
  refine ⟨s1.heap.objs.size + 1, [s1.heap.objs.size + 1, s1.heap.objs.size], _, _, H1, rfl, I2, turn_enumT a (s1.heap.objs.size + 1) s1.heap.objs.size, ⟨⟨.none, he⟩, ⟨_, hit, rfl, rfl⟩, Nat.succ_ne_self _⟩, fun b hb => ?_, q⟩
  have e' : b = s1.heap.objs.size + 1 ∨ b = s1.heap.objs.size := by simpa using hb
  have hle : s1.heap.objs.size ≤ b := by
    rcases e' with z | z
    · rw [z]; exact Nat.le_add_right _ _
    · rw [z]; exact Nat.le_refl _
  exact I1.fpOk hle (I1.hok.fresh hle)
/-- enumerate over a list or a tuple -/
def iEnQ (K : PySem.W.Frag) (ta : TA) : TI := fun σ H R => iEnum K ta σ H R ∨ iEnumT K ta σ H R
theorem pi_enQ (K : PySem.W.Frag) {X : Cx} {e : Expr} {ta : TA} {p pos tpos : Pos} {elts : List Expr} {kk : Nat} (hg : Gl X "enumerate") (hm : X.mg "enumerate" = none) (ha : PA X [e] ta) (hs : starEach [e] X.env = [(false, eval e X.env)] := by rfl) (hK : X.K = K := by rfl) :
    PI X (.Tuple elts kk tpos) (.Call (.Name "enumerate" p) [e] [] pos) (iEnQ K ta) := by
  subst hK
  exact PI.or (pi_enum hg hm ha hs) (pi_enumT hg hm ha hs)
def enumL {α : Type} (xs : List α) : List (Int × α) := xs.zipIdx.map fun p => ((p.2 : Int), p.1)
theorem enumL_get {α : Type} {xs : List α} {i : Nat} {x : α} (h : xs[i]? = some x) : (enumL xs)[i]? = some ((i : Int), x) := by
  unfold enumL
  rw [List.getElem?_map, List.getElem?_zipIdx, h]
  simp
theorem enumL_len {α : Type} (xs : List α) : (enumL xs).length = xs.length := by unfold enumL; rw [List.length_map, List.length_zipIdx]
theorem enumL_inv {α : Type} {xs : List α} {i : Nat} {p : Int × α} (h : (enumL xs)[i]? = some p) : p.1 = (i : Int) ∧ xs[i]? = some p.2 := by
  have hl := (List.getElem?_eq_some_iff.mp h).1
  rw [enumL_len] at hl
  have h1 : xs[i]? = some xs[i] := List.getElem?_eq_getElem hl
  rw [enumL_get h1] at h
  cases h
  exact ⟨rfl, h1⟩
section
variable {K : PySem.W.Frag} {σ : L2.St} {G H : Hp} {te : TE} {α : Type} {R : Rp α}
theorem wk_enum {a : Addr} {vs : List V} {xs : List α} [Mo R] (h : SqL K G a vs) (r : AllR R xs vs G) : Wk K (Ite K a) (rP K rI R) (enumL xs) G where
  go := fun i H hi e => by
    rw [enumL_len] at hi
    exact ⟨vs, vs[i]'(by rw [← r.length]; exact hi), ex_l e.ex h, List.getElem?_eq_getElem _⟩
  yld := fun i H x H2 hi e y => by
    obtain ⟨T, z, rfl, hT, rfl, y2⟩ := y
    obtain ⟨u, e1, r1⟩ := r.get (y2 vs (ex_l e.ex h))
    exact ⟨((i : Int), u), upd G T (.tup [.int i, z]), enumL_get e1, Gr.new e hT, T, .int i, z, rfl, SqT.of upd_same, rfl, Mo.mo (Ex.new (e.ex.no _ hT)) r1⟩
  stop := fun H e => ⟨vs, ex_l e.ex h, by rw [enumL_len]; exact Nat.le_of_eq r.length.symm⟩
theorem wk_enumT {a : Addr} {vs : List V} {xs : List α} [Mo R] (h : SqT K G a vs) (r : AllR R xs vs G) : Wk K (IteT K a) (rP K rI R) (enumL xs) G where
  go := fun i H hi e => by
    rw [enumL_len] at hi
    exact ⟨vs, vs[i]'(by rw [← r.length]; exact hi), ex_t e.ex h, List.getElem?_eq_getElem _⟩
  yld := fun i H x H2 hi e y => by
    obtain ⟨T, z, rfl, hT, rfl, y2⟩ := y
    obtain ⟨u, e1, r1⟩ := r.get (y2 vs (ex_t e.ex h))
    exact ⟨((i : Int), u), upd G T (.tup [.int i, z]), enumL_get e1, Gr.new e hT, T, .int i, z, rfl, SqT.of upd_same, rfl, Mo.mo (Ex.new (e.ex.no _ hT)) r1⟩
  stop := fun H e => ⟨vs, ex_t e.ex h, by rw [enumL_len]; exact r.length.symm⟩
theorem ew_enQ [Mo R] {xs : List α} (h : EvP K te σ G (rL K R) xs ∨ EvP K te σ G (rT K R) xs) : EvW K (iEnQ K (tCons te tNil)) σ G (rP K rI R) (enumL xs) := by
  rcases h with h | h
  · exact fun H e Q q => .inl (h H e _ fun v G2 H2 g ⟨a, vs, e1, h1, h2⟩ => ⟨a, vs, by rw [e1], ex_l g.kh h1, q _ G2 H2 g (wk_enum h1 h2)⟩)
  · exact fun H e Q q => .inr (h H e _ fun v G2 H2 g ⟨a, vs, e1, h1, h2⟩ => ⟨a, vs, by rw [e1], ex_t g.kh h1, q _ G2 H2 g (wk_enumT h1 h2)⟩)
theorem er_varQ {i : Nat} {v : V} {xs : List α} (h : σ[i]? = some (some v)) (r : rQ K R xs v G) : EvP K (tVar i) σ G (rL K R) xs ∨ EvP K (tVar i) σ G (rT K R) xs := r.imp (fun r => er_var h r) fun r => er_var h r
theorem ew_listQ {xs : List α} (h : EvP K te σ G (rL K R) xs ∨ EvP K te σ G (rT K R) xs) : EvW K (fun σ H R => iList K te σ H R ∨ iTup K te σ H R) σ G R xs := by
  rcases h with h | h
  · exact fun H e Q q => .inl (ew_list h H e Q q)
  · exact fun H e Q q => .inr (ew_tup h H e Q q)
end
end Ob
set_option maxRecDepth 100000
set_option maxHeartbeats 4000000
/-! Kd8: is_list, checked_statement, checked_lot: odd things. -/
namespace Ob
open PySem PySem.Spec PyProof.Rows L2
theorem xisi (K : PySem.W.Frag) {X : Cx} (h : X.K = K := by rfl) : CallR X (.builtin "isinstance") (rIsi K) := by subst h; exact call_isi
theorem xisiT (K : PySem.W.Frag) {X : Cx} (h : X.K = K := by rfl) : CallR X (.builtin "isinstance") (rIsiT K) := by subst h; exact call_isiT
theorem tkE {P : Program} {w : World} {K : PySem.W.Frag} {mg : Str → Option Value} {base : Heap} {N : List Str} {qual : Str} {scope : Scope} {f : Addr} {cd : Value} {A : Around} {outer : List Env} {s : Shared} {H : Hp} {E : XK} : Takes (cxOf (L2.CX P w) P w K mg base N qual scope f cd A outer s H E) (fun cls d _ H => E cls d H) := takes_of rfl rfl rfl rfl
/-- a value that is no text -/
def oddV (v : V) (H : Hp) : Prop := v = .non ∨ (∃ i, v = .int i) ∨ (∃ b, v = .bl b) ∨ (∃ a xs, v = .ref a ∧ H a = some (.lst xs)) ∨ (∃ a xs, v = .ref a ∧ H a = some (.tup xs)) ∨ ∃ a, v = .ref a ∧ H a = some (.dK [])
/-- a value that is no list, no tuple -/
def oddT (v : V) (H : Hp) : Prop := v = .non ∨ (∃ i, v = .int i) ∨ (∃ b, v = .bl b) ∨ (∃ x, v = .str x) ∨ ∃ a, v = .ref a ∧ H a = some (.dK [])
theorem oddV.mono {v : V} {H H' : Hp} (e : Ex H H') : oddV v H → oddV v H'
  | .inl h => .inl h
  | .inr (.inl h) => .inr (.inl h)
  | .inr (.inr (.inl h)) => .inr (.inr (.inl h))
  | .inr (.inr (.inr (.inl ⟨a, xs, h1, h2⟩))) => .inr (.inr (.inr (.inl ⟨a, xs, h1, e.l h2⟩)))
  | .inr (.inr (.inr (.inr (.inl ⟨a, xs, h1, h2⟩)))) => .inr (.inr (.inr (.inr (.inl ⟨a, xs, h1, e.t h2⟩))))
  | .inr (.inr (.inr (.inr (.inr ⟨a, h1, h2⟩)))) => .inr (.inr (.inr (.inr (.inr ⟨a, h1, e.d h2⟩))))
theorem oddT.mono {v : V} {H H' : Hp} (e : Ex H H') : oddT v H → oddT v H'
  | .inl h => .inl h
  | .inr (.inl h) => .inr (.inl h)
  | .inr (.inr (.inl h)) => .inr (.inr (.inl h))
  | .inr (.inr (.inr (.inl h))) => .inr (.inr (.inr (.inl h)))
  | .inr (.inr (.inr (.inr ⟨a, h1, h2⟩))) => .inr (.inr (.inr (.inr ⟨a, h1, e.d h2⟩)))
abbrev El := Option Str
def rEl : Rp El := fun o v H => match o with
  | some s => rS s v H
  | none => oddV v H
instance : Mo rEl := ⟨fun {x v H H'} e h => by
  cases x with
  | none => exact oddV.mono e h
  | some s => exact h⟩
inductive Thg where
  | seq (els : List El)
  | odd
def Thg.isSeq : Thg → Bool
  | .seq _ => true
  | .odd => false
def rTg (K : PySem.W.Frag) : Rp Thg := fun x v H => match x with
  | .seq els => rQ K rEl els v H
  | .odd => oddT v H
instance {K : PySem.W.Frag} : Mo (rTg K) := ⟨fun {x v H H'} e h => by
  cases x with
  | odd => exact oddT.mono e h
  | seq els => exact Mo.mo (R := rQ K rEl) e h⟩
theorem kit1 {K : PySem.W.Frag} {a b : String} (r : Bool) (h : kitB a b = some r) : PySem.W.kitOne K (.type a) (.type b) = some r := h
theorem ty_el {K : PySem.W.Frag} {o : El} {v : V} {H : Hp} (h : rEl o v H) : ∃ t, TyX K H v (.type t) ∧ kitB t "str" = some o.isSome := by
  cases o with
  | some s =>
    obtain ⟨rfl, _⟩ := (show rS s v H from h)
    exact ⟨_, .base (.str s), (by decide +kernel : kitB "str" "str" = some true)⟩
  | none =>
    have h2 : oddV v H := h
    clear h
    rcases h2 with rfl | ⟨i, rfl⟩ | ⟨b, rfl⟩ | ⟨a, xs, rfl, h⟩ | ⟨a, xs, rfl, h⟩ | ⟨a, rfl, h⟩
    · exact ⟨_, .base .non, by decide +kernel⟩
    · exact ⟨_, .base (.int i), by decide +kernel⟩
    · exact ⟨_, .base (.bl b), by decide +kernel⟩
    · exact ⟨_, .base (.lst h), by decide +kernel⟩
    · exact ⟨_, .base (.tup h), by decide +kernel⟩
    · exact ⟨_, .base (.dK h), by decide +kernel⟩
theorem ty_sqL {K : PySem.W.Frag} {a : Addr} {vs : List V} {H : Hp} (h : SqL K H a vs) : TyX K H (.ref a) (.type "list") := by
  rcases h with (h | ⟨o, h⟩) | ⟨o, its, n, h1, h2, _⟩
  · exact .base (.lst h)
  · exact .base (.frz h)
  · exact .kList h1 h2
theorem ty_sqT {K : PySem.W.Frag} {a : Addr} {vs : List V} {H : Hp} (h : SqT K H a vs) : TyX K H (.ref a) (.type "tuple") := by
  rcases h with (h | ⟨o, h⟩) | ⟨o, its, n, h1, h2, _⟩
  · exact .base (.tup h)
  · exact .fTuple h
  · exact .kTuple h1 h2
def kitLT (t : String) : Option Bool := match kitB t "list" with
  | some true => some true
  | some false => kitB t "tuple"
  | none => none
theorem kitLT_ok {K : PySem.W.Frag} {t : String} {b : Bool} (h : kitLT t = some b) : PySem.W.kitAny K (.type t) [.type "list", .type "tuple"] = some b := by
  unfold kitLT at h
  cases h1 : kitB t "list" with
  | none => rw [h1] at h; cases h
  | some b1 =>
    rw [h1] at h
    cases b1 with
    | true => cases h; exact kitAny_cons (kit1 true h1) (fun z => by cases z) fun _ => rfl
    | false =>
      have h : kitB t "tuple" = some b := h
      refine kitAny_cons (kit1 false h1) (fun _ => kitAny_cons (kit1 b h) (fun e => by rw [e]; exact kitAny_nil) fun e => e) fun z => by cases z
theorem ty_tg {K : PySem.W.Frag} {x : Thg} {v : V} {H : Hp} (h : rTg K x v H) : ∃ t, TyX K H v (.type t) ∧ kitLT t = some x.isSeq := by
  cases x with
  | seq els =>
    have h2 : rQ K rEl els v H := h
    clear h
    rcases h2 with ⟨a, vs, rfl, h, _⟩ | ⟨a, vs, rfl, h, _⟩
    · exact ⟨_, ty_sqL h, (by decide +kernel : kitLT "list" = some true)⟩
    · exact ⟨_, ty_sqT h, (by decide +kernel : kitLT "tuple" = some true)⟩
  | odd =>
    have h2 : oddT v H := h
    clear h
    rcases h2 with rfl | ⟨i, rfl⟩ | ⟨b, rfl⟩ | ⟨x, rfl⟩ | ⟨a, rfl, h⟩
    · exact ⟨_, .base .non, by decide +kernel⟩
    · exact ⟨_, .base (.int i), by decide +kernel⟩
    · exact ⟨_, .base (.bl b), by decide +kernel⟩
    · exact ⟨_, .base (.str x), by decide +kernel⟩
    · exact ⟨_, .base (.dK h), by decide +kernel⟩
section
variable {K : PySem.W.Frag} {σ : L2.St} {G H : Hp} {te : TE}
theorem ev_isStr {o : El} (h : EvP K te σ G rEl o) : Ev K (tCB (rIsi K) (tCons te (tCons (tC (.ty "str")) tNil))) σ G (.bl o.isSome) := fun H e Q q =>
  h H e _ fun v G2 H2 g r => by
    obtain ⟨t, ty, k⟩ := ty_el (K := K) (Mo.mo g.kh r)
    exact ⟨v, .ty "str", .type t, .type "str", o.isSome, rfl, .ty "str", ty, kit1 _ k, q H2 (Gr.skip e g.hh g.kn.tb)⟩
theorem ev_isSeq {x : Thg} (h : EvP K te σ G (rTg K) x) : Ev K (tCB (rIsiT K) (tCons te (tCons (tTup (tCons (tC (.ty "list")) (tCons (tC (.ty "tuple")) tNil))) tNil))) σ G (.bl x.isSeq) := fun H e Q q =>
  h H e _ fun v G2 H2 g r => by
    refine ⟨(by decide : 2 ≤ sizeLine), fun p hp => ?_⟩
    have e2 : Ex H2 (upd H2 p (.tup [.ty "list", .ty "tuple"])) := Ex.new hp
    obtain ⟨t, ty, k⟩ := ty_tg (K := K) (Mo.mo (g.kh.trans e2) r)
    exact ⟨v, p, [.ty "list", .ty "tuple"], .type t, [.type "list", .type "tuple"], x.isSeq, rfl, upd_same, .cons (.ty _) (.cons (.ty _) .nil), ty, kitLT_ok k, q _ (Gr.skip e (g.hh.trans e2) (tb_new g.kn.tb hp))⟩
end
section
variable {P : Program} {w : World} {K : PySem.W.Frag} {mg : Str → Option Value} {base : Heap} {cL cS cH : Addr}
abbrev N_is_list : List Str := ["thing"]
theorem sc_is_list : FnScope N_is_list ["thing"] (defScope s_is_list) := ⟨rfl, rfl, rfl, by decide +kernel, rfl, by decide +kernel, by decide +kernel⟩
def spIsList (K : PySem.W.Frag) : Sp := SpG K (ι := Thg) (fun i vs G => A1 (rTg K) i vs G) (fun i _ v _ => v = .bl i.isSeq)
theorem cal_is_list (T : Txt K mg) : Cal P w K mg base CX0 1 "is_list" ["thing"] (spIsList K) := by
  refine cal_mk T.g_is_list sc_is_list (fun _ _ _ _ _ _ us hl => match us, hl with | [_], _ => rfl) (spg_len fun i vs G ⟨_, e, _⟩ => by rw [e]; rfl) (fun f cdv A outer s H vs Q E hr h => ?_)
  obtain ⟨x, G, eG, ⟨a, rfl, hx⟩, q⟩ := h
  refine ⟨_, (pss_one (ps_ret (pe_callB (xisiT K) (by rfl) T.m_isinstance boot_isinstance (pa_cons (pv 0) (pa_cons (pe_tup (pa_cons (pe_bltn (v := .ty "list") (by rfl) T.m_list (by decide +kernel) rfl) (pa_cons (pe_bltn (v := .ty "tuple") (by rfl) T.m_tuple (by decide +kernel) rfl) pa_nil))) pa_nil))))), ?_⟩
  exact sv_ret eG (ev_isSeq (er_var rfl hx)) fun H2 g => q _ G H2 g rfl

def badEl (S : Lot) : El → Bool
  | some x => !decide (x ∈ S)
  | none => true
abbrev N_checked_statement : List Str := ["debate", "statement"]
theorem sc_checked_statement : FnScope N_checked_statement ["debate", "statement"] (defScope s_checked_statement) := ⟨rfl, rfl, rfl, by decide +kernel, rfl, by decide +kernel, by decide +kernel⟩
def spCkS (K : PySem.W.Frag) (cS : Addr) : Sp := SpE K (ι := Deb × El × V) (fun i vs G => ∃ a, vs = [a, i.2.2] ∧ rDeb K i.1 a G ∧ rEl i.2.1 i.2.2 G) (fun i _ v _ => v = i.2.2) (fun i => ∀ x, i.2.1 = some x → x ∉ i.1.S) (fun i cls d G => ExIs cS "thing" rV i.2.2 cls d G)
theorem cal_checked_statement (T : Txt K mg) (Er : Errs K mg cL cS cH) : Cal P w K mg base (L2.CX P w) 3 "checked_statement" ["debate", "statement"] (spCkS K cS) := by
  obtain ⟨fI, fd, hFI, hBI, hIC, hTI⟩ := ini_NoStatement (P := P) (w := w) (base := base) Er
  refine cal_mk T.g_checked_statement sc_checked_statement (fun _ _ _ _ _ _ us hl => match us, hl with | [_, _], _ => rfl) (spe_len fun i vs G ⟨_, e, _⟩ => by rw [e]; rfl) (fun f cdv A outer s H vs Q E hr h => ?_)
  obtain ⟨⟨d, o, v⟩, G, eG, ⟨a, rfl, hd, ho⟩, q, qx⟩ := h
  have hd : rDeb K d a G := hd
  have ho : rEl o v G := ho
  refine ⟨_, (pss_cons (ps_if (PW.pt (pw_or (pt_not (pt_val (pe_callB (xisi K) (by rfl) T.m_isinstance boot_isinstance (pa_cons (pv 1) (pa_cons (pe_bltn (v := .ty "str") (by rfl) T.m_str (by decide +kernel) rfl) pa_nil))))) (pw_or1 (pt_cmp (pc_dnotin (hu_of hr) (pv 1) (xfld K (pv 0))))))) (pss_one (ps_raise rfl tkE (pmk_oex Er.ns.o hIC hTI hFI (hr.mono (by decide)) hBI .nil pass0 (by rfl) Er.ns.g (pa_cons (pv 1) pa_nil)))) pss_nil) (pss_one (ps_ret (pv 1)))), ?_⟩
  have hb : ∀ b, b = (!o.isSome || badEl d.S o) → (b = true ↔ ∀ x, o = some x → x ∉ d.S) := by
    rintro b rfl
    cases o with
    | none => simp
    | some x => simp [badEl]
  refine q_if eG (et_or (a := !o.isSome) (b := badEl d.S o) (et_not (et_val (ev_isStr (er_var rfl ho)))) fun h1 => ?_) (fun hy H1 g1 => ?_) fun hno H1 g1 => ?_
  · cases o with
    | none => cases h1
    | some x =>
      have ho : rS x v G := ho
      obtain rfl : v = .str x := ho.1
      exact et_cmp (ev_dnin (R := rL K rS) (f := obs d.O) (ev_var rfl) (er_objectors (er_var rfl hd)))
  · exact s_err (f := "thing") (x := v) (R := rV) g1.kn (er_var rfl rfl) fun cls dd G2 H2 g2 hx => qx ((hb _ rfl).mp hy) cls dd G2 H2 (g1.trans g2) hx
  · exact sv_ret g1.kn (ev_var rfl) fun H2 g2 => q (fun hb2 => by rw [(hb _ rfl).mpr hb2] at hno; cases hno) v G H2 (g1.trans g2) rfl

/-- the first that is no statement, or named twice -/
def okEl (S : Lot) (els : List El) (i : Nat) : Prop := ∃ x, els[i]? = some (some x) ∧ x ∈ S ∧ some x ∉ els.take i
def BadAt (S : Lot) (els : List El) (n : Nat) : Prop := n < els.length ∧ (∀ j < n, okEl S els j) ∧ ¬ okEl S els n
theorem ok_pre {S : Lot} {els : List El} {n : Nat} (h : ∀ j < n, okEl S els j) (hn : n ≤ els.length) : ∃ xs : Lot, els.take n = xs.map some ∧ xs.Nodup ∧ ∀ x ∈ xs, x ∈ S := by
  induction n with
  | zero => exact ⟨[], by simp, List.nodup_nil, by simp⟩
  | succ n ih =>
    obtain ⟨xs, e, nd, hs⟩ := ih (fun j hj => h j (by omega)) (by omega)
    obtain ⟨x, ex, hx, hn2⟩ := h n (by omega)
    refine ⟨xs ++ [x], by rw [List.take_add_one, ex, e]; simp, ?_, fun y hy => (List.mem_append.mp hy).elim (hs y) fun hy => by rw [List.mem_singleton.mp hy]; exact hx⟩
    rw [List.nodup_append]
    refine ⟨nd, by simp, fun a ha b hb => ?_⟩
    rw [List.mem_singleton.mp hb]
    intro z
    apply hn2
    rw [e, List.mem_map]
    exact ⟨a, ha, by rw [z]⟩
theorem ok_all {S : Lot} {els : List El} (h : ∀ j < els.length, okEl S els j) : ∃ xs : Lot, els = xs.map some ∧ xs.Nodup ∧ ∀ x ∈ xs, x ∈ S := by
  obtain ⟨xs, e, h2⟩ := ok_pre h (Nat.le_refl _)
  rw [List.take_length] at e
  exact ⟨xs, e, h2⟩
theorem ok_of {S xs : Lot} (h1 : xs.Nodup) (h2 : ∀ x ∈ xs, x ∈ S) : ∀ j < (xs.map some).length, okEl S (xs.map some) j := fun j hj => by
  rw [List.length_map] at hj
  refine ⟨xs[j], by rw [List.getElem?_map, List.getElem?_eq_getElem hj]; rfl, h2 _ (List.getElem_mem hj), fun z => ?_⟩
  rw [← List.map_take, List.mem_map] at z
  obtain ⟨y, hy, e⟩ := z
  cases e
  obtain ⟨k, hk, e⟩ := List.mem_iff_getElem.mp hy
  rw [List.length_take] at hk
  rw [List.getElem_take] at e
  have h3 := List.pairwise_iff_getElem.mp h1 k j (by omega) hj (by omega)
  exact h3 e
theorem allR_el {H : Hp} : ∀ {xs : Lot} {vs : List V}, AllR rEl (xs.map some) vs H → AllR rS xs vs H
  | [], [], _ => trivial
  | _ :: _, _ :: _, h => ⟨h.1, allR_el h.2⟩
  | [], _ :: _, h => h.elim
  | _ :: _, [], h => h.elim
theorem allR_el2 {H : Hp} : ∀ {xs : Lot} {vs : List V}, AllR rS xs vs H → AllR rEl (xs.map some) vs H
  | [], [], _ => trivial
  | _ :: _, _ :: _, h => ⟨h.1, allR_el2 h.2⟩
  | [], _ :: _, h => h.elim
  | _ :: _, [], h => h.elim
section
variable {K : PySem.W.Frag} {σ : L2.St} {G H : Hp} {te : TE} {ta tb : TE} {x : Str}
theorem rQ_el {xs : Lot} {v : V} (h : rQ K rEl (xs.map some) v H) : rQ K rS xs v H := h.imp (fun ⟨a, vs, h1, h2, h3⟩ => ⟨a, vs, h1, h2, allR_el h3⟩) fun ⟨a, vs, h1, h2, h3⟩ => ⟨a, vs, h1, h2, allR_el h3⟩
theorem cut_take {vs : List V} {n : Nat} (h : n ≤ vs.length) : cutV vs none (some (n : Int)) = vs.take n := by
  unfold cutV
  rw [HT.sIx_nat, HT.sIx_none, Nat.min_eq_left h, List.drop_zero, Nat.sub_zero]
/-- x in lot[:n] -/
theorem ev_inpre {els : List El} {n : Nat} {xs : Lot} {x : Str} (h : EvP K te σ G (rL K rEl) els ∨ EvP K te σ G (rT K rEl) els) (hn : n < els.length) (e : els.take n = xs.map some) (ha : Ev K ta σ G (.str x)) (hb : Ev K tb σ G (.int (n : Int))) :
    Ev K (tOp (rIn K false) ta (fun σ H Q => tSl (rSlL K) te tNoPart (tPart tb) σ H Q ∨ tSl (rSlT K) te tNoPart (tPart tb) σ H Q)) σ G (.bl (decide (x ∈ xs))) := by
  refine ev_insQ ha (fun H e2 Q q => ?_)
  rcases h with h | h
  · refine .inl (h H e2 _ fun v G2 H2 g ⟨a, vs, e1, h1, h2⟩ => ?_)
    refine (hb.mono g.kk) H2 g.kn _ fun H3 g3 => ⟨n, rfl, a, vs, e1, ex_l g3.kn.ex h1, fun p hp => q (.ref p) (upd G2 p (.lst (cutV vs none (some (n : Int))))) _ ((g.trans g3).trans (Gr.new g3.kn hp)) (.inl ⟨p, _, rfl, SqL.of upd_same, ?_⟩)⟩
    rw [cut_take (by rw [← h2.length]; omega)]
    have h3 := h2.take n
    rw [e] at h3
    exact (allR_el h3).mono (Ex.new (g3.kh.no _ hp))
  · refine .inr (h H e2 _ fun v G2 H2 g ⟨a, vs, e1, h1, h2⟩ => ?_)
    refine (hb.mono g.kk) H2 g.kn _ fun H3 g3 => ⟨n, rfl, a, vs, e1, ex_t g3.kn.ex h1, ?_, fun p hp => q (.ref p) (upd G2 p (.tup (cutV vs none (some (n : Int))))) _ ((g.trans g3).trans (Gr.new g3.kn hp)) (.inr ⟨p, _, rfl, SqT.of upd_same, ?_⟩)⟩
    · have := h2.length
      rw [HT.sIx_nat, HT.sIx_none]
      omega
    · rw [cut_take (by rw [← h2.length]; omega)]
      have h3 := h2.take n
      rw [e] at h3
      exact (allR_el h3).mono (Ex.new (g3.kh.no _ hp))
end
end
end Ob
set_option maxRecDepth 100000
set_option maxHeartbeats 4000000
/-! Kd9: checked_lot. -/
namespace Ob
open PySem PySem.Spec PyProof.Rows L2
section
variable {P : Program} {w : World} {K : PySem.W.Frag} {mg : Str → Option Value} {base : Heap} {cL cS cH : Addr}
abbrev N_checked_lot : List Str := ["debate", "lot", "index", "thing"]
theorem sc_checked_lot : FnScope N_checked_lot ["debate", "lot"] (defScope s_checked_lot) := ⟨rfl, rfl, rfl, by decide +kernel, rfl, by decide +kernel, by decide +kernel⟩
def inEl (xs : Lot) : El → Bool
  | some x => decide (x ∈ xs)
  | none => true
def badThg (S : Lot) : Thg → Prop
  | .odd => True
  | .seq els => ∃ n, BadAt S els n
def spCkL (K : PySem.W.Frag) (cL : Addr) : Sp := SpE K (ι := Deb × Thg) (fun i vs G => A2 (rDeb K) (rTg K) i.1 i.2 vs G ∧ OkD i.1 ∧ ∀ els, i.2 = .seq els → els.length ≤ 1000)
  (fun i G v G2 => ∀ els, i.2 = .seq els → ∃ xs : Lot, els = xs.map some ∧ xs.Nodup ∧ (∀ x ∈ xs, x ∈ i.1.S) ∧ rF G rS (so eS xs) v G2) (fun i => badThg i.1.S i.2)
  (fun i cls dd G => ∃ n : Nat, (i.2 = .odd → n = 0) ∧ (∀ els, i.2 = .seq els → BadAt i.1.S els n) ∧ ExIs cL "index" rI (n : Int) cls dd G)
theorem cal_checked_lot (T : Txt K mg) (Er : Errs K mg cL cS cH) : Cal P w K mg base (L2.CX P w) 3 "checked_lot" ["debate", "lot"] (spCkL K cL) := by
  obtain ⟨fI, fd, hFI, hBI, hIC, hTI⟩ := ini_BadLot (P := P) (w := w) (base := base) Er
  refine cal_mk T.g_checked_lot sc_checked_lot (fun _ _ _ _ _ _ us hl => match us, hl with | [_, _], _ => rfl) (spe_len fun i vs G ⟨⟨_, _, e, _⟩, _⟩ => by rw [e]; rfl) (fun f cdv A outer s H vs Q E hr h => ?_)
  obtain ⟨⟨d, x⟩, G, eG, ⟨⟨a, b, rfl, hd, hx⟩, ok, hz⟩, q, qx⟩ := h
  have hd : rDeb K d a G := hd
  have hx : rTg K x b G := hx
  have ok : OkD d := ok
  have hz : ∀ els, x = .seq els → els.length ≤ 1000 := hz
  refine ⟨_, (pss_cons (ps_if (pt_not (pt_val (pe_cal (cal_is_list T) (hr.mono (by decide)) (by rfl) pass0 (pa_cons (pv 1) pa_nil)))) (pss_one (ps_raise rfl tkE (pmk_oex Er.bl.o hIC hTI hFI (hr.mono (by decide)) hBI .nil pass0 (by rfl) Er.bl.g (pa_cons pe_int pa_nil)))) pss_nil) (pss_cons (ps_for (g := gTup K 2 (gCons (gName 2) (gCons (gName 3) gNil))) (passes_of rfl) rfl (pi_enQ K (by rfl) T.m_enumerate (pa_cons (pv 1) pa_nil)) (xgtup K (pgs_cons (pg_name (i := 2) sc_checked_lot.nd rfl (by first | exact Or.inl rfl | exact Or.inr rfl)) (pgs_cons (pg_name (i := 3) sc_checked_lot.nd rfl (by first | exact Or.inl rfl | exact Or.inr rfl)) pgs_nil))) (pss_one (ps_if (PW.pt (pw_or (pt_not (pt_val (pe_callB (xisi K) (by rfl) T.m_isinstance boot_isinstance (pa_cons (pv 3) (pa_cons (pe_bltn (v := .ty "str") (by rfl) T.m_str (by decide +kernel) rfl) pa_nil))))) (pw_or (pt_cmp (pc_dnotin (hu_of hr) (pv 3) (xfld K (pv 0)))) (pw_or1 (pt_cmpR (xin K) (pv 3) (PE.or (pe_slice (xslL K) (pv 1) po_none (po_some (pv 2))) (pe_slice (xslT K) (pv 1) po_none (po_some (pv 2)))) (by rfl)))))) (pss_one (ps_raise rfl tkE (pmk_oex Er.bl.o hIC hTI hFI (hr.mono (by decide)) hBI .nil pass0 (by rfl) Er.bl.g (pa_cons (pv 2) pa_nil)))) pss_nil))) (pss_one (ps_ret (pe_callB (xsort K rS hr.units) (by rfl) T.m_sorted boot_sorted (pa_cons (pv 1) pa_nil)))))), ?_⟩
  refine q_if eG (et_not (et_val (ev_call x (eb_a1 (R := rTg K) (er_var rfl hx)) (fun vs G2 _ h => h) (fun _ _ _ p => p)))) (fun hy H1 g1 => ?_) fun hno H1 g1 => ?_
  · have ex : x = .odd := by cases x with | odd => rfl | seq els => cases hy
    subst ex
    exact s_err (f := "index") (x := (0 : Int)) (R := rI) g1.kn (er_of ev_c rfl) fun cls dd G2 H2 g2 hx => qx trivial cls dd G2 H2 (g1.trans g2) ⟨0, fun _ => rfl, (fun els z => by cases z), hx⟩
  · obtain ⟨els, rfl⟩ : ∃ els, x = .seq els := by cases x with | odd => cases hno | seq els => exact ⟨els, rfl⟩
    have hx : rQ K rEl els b G := hx
    have hz := hz els rfl
    change tSeq _ _ _ _ _
    refine q_for (R := rP K rI rEl) (xs := enumL els) g1.kn (ew_enQ (er_varQ rfl hx)) (fun i σ' G' H' => (∃ x y, σ' = [some a, some b, x, y]) ∧ (∀ j < i, okEl d.S els j) ∧ Gr K G H G' H') (fun G2 H2 g2 => ⟨⟨_, _, rfl⟩, fun j hj => absurd hj (Nat.not_lt_zero j), g1.trans g2⟩) ?_ ?_
    · rintro i p v σ' G' H' G2 H2 ep ⟨⟨x', y', rfl⟩, hok, gg⟩ _ _ g2 rp
      obtain ⟨ei, ee⟩ := enumL_inv ep
      obtain ⟨p1, el⟩ := p
      obtain rfl : p1 = (i : Int) := ei
      have ee : els[i]? = some el := ee
      obtain ⟨t, u, z, rfl, h1, h2, h3⟩ := rp
      obtain rfl : u = .int (i : Int) := h2
      have h3 : rEl el z G2 := h3
      have gA := gg.trans g2
      have hil : i < els.length := (List.getElem?_eq_some_iff.mp ee).1
      obtain ⟨xs, exs, nd, hin⟩ := ok_pre hok (Nat.le_of_lt hil)
      refine tg_tup2 (P := fun σ2 => σ2 = [some a, some b, some (.int (i : Int)), some z]) (ex_t g2.kh h1) rfl _ fun σ2 hσ => ?_
      subst hσ
      have hd2 := Mo.mo (R := rDeb K) gA.kk hd
      have hx2 := Mo.mo (R := rQ K rEl) gA.kk hx
      refine s_if gA.kn (et_or (a := !el.isSome) (b := badEl d.S el || inEl xs el) (et_not (et_val (ev_isStr (er_var rfl h3)))) fun h4 => ?_) (fun hy H3 g3 => ?_) fun hno H3 g3 => ?_
      · cases el with
        | none => cases h4
        | some x =>
          have h3 : rS x z G2 := h3
          obtain rfl : z = .str x := h3.1
          exact et_or (a := badEl d.S (some x)) (b := decide (x ∈ xs)) (et_cmp (ev_dnin (R := rL K rS) (f := obs d.O) (ev_var rfl) (er_objectors (er_var rfl hd2)))) fun _ => et_cmp (ev_inpre (er_varQ rfl hx2) hil exs (ev_var rfl) (ev_var rfl))
      · have hbad : BadAt d.S els i := ⟨hil, hok, fun ⟨x, e1, e2, e3⟩ => by
          rw [ee] at e1
          cases e1
          rw [exs, List.mem_map] at e3
          have e4 : x ∉ xs := fun z => e3 ⟨x, z, rfl⟩
          simp [badEl, inEl, e2, e4] at hy⟩
        exact s_err (f := "index") (x := (i : Int)) (R := rI) g3.kn (er_var rfl rfl) fun cls dd G4 H4 g4 hx4 => qx ⟨i, hbad⟩ cls dd G4 H4 ((gA.trans g3).trans g4) ⟨i, (fun z => by cases z), fun els2 z => (by cases z; exact hbad), hx4⟩
      · refine ⟨G2, g2.kk, g3.kn, ⟨_, _, rfl⟩, fun j hj => ?_, gA.trans g3⟩
        rcases Nat.lt_succ_iff_lt_or_eq.mp hj with hj | rfl
        · exact hok j hj
        · cases el with
          | none => simp at hno
          | some x =>
            simp [badEl, inEl] at hno
            refine ⟨x, ee, hno.1, fun z => ?_⟩
            rw [exs, List.mem_map] at z
            obtain ⟨y, hy, e⟩ := z
            cases e
            exact hno.2 hy
    · rintro σ' G' H' ⟨⟨x', y', rfl⟩, hok, gg⟩ _ _
      rw [enumL_len] at hok
      obtain ⟨xs, rfl, nd, hin⟩ := ok_all hok
      rw [List.length_map] at hz
      refine sr_ret gg.kn (EvN.f (H0 := G) (en_sortQ (R := rS) (ok_str (by omega)) (er_var rfl (rQ_el (Mo.mo gg.kk hx)))) gg.kk) fun v G2 H2 g2 r2 => q (fun ⟨n, hb⟩ => ?_) v G2 H2 (gg.trans g2) fun els2 z => by cases z; exact ⟨xs, rfl, nd, hin, r2⟩
      exact hb.2.2 (hok n hb.1)
end
end Ob
set_option maxRecDepth 100000
set_option maxHeartbeats 4000000
/-! Ke1: checked_way, fault_of, lacking_lot, sure_paper. -/
namespace Ob
open PySem PySem.Spec PyProof.Rows L2
abbrev waysL : Lot := ["calm", "held", "whole", "least", "greatest", "settled"]
def Ways (K : PySem.W.Frag) (mg : Str → Option Value) : Prop := ∃ t, mg "WAYS" = some (.ref t) ∧ ∀ H : Hp, SqT K H t (waysL.map V.str)
section
variable {P : Program} {w : World} {K : PySem.W.Frag} {mg : Str → Option Value} {base : Heap} {cL cS cH : Addr}
abbrev N_checked_way : List Str := ["way"]
theorem sc_checked_way : FnScope N_checked_way ["way"] (defScope s_checked_way) := ⟨rfl, rfl, rfl, by decide +kernel, rfl, by decide +kernel, by decide +kernel⟩
def spCkW (K : PySem.W.Frag) : Sp := SpG K (ι := Unit) (fun _ vs G => vs = [.str ("held" : Str)]) (fun _ _ v _ => v = .str ("held" : Str))
theorem cal_checked_way (T : Txt K mg) (Wy : Ways K mg) : Cal P w K mg base CX0 1 "checked_way" ["way"] (spCkW K) := by
  obtain ⟨tW, hW, hS⟩ := Wy
  refine cal_mk T.g_checked_way sc_checked_way (fun _ _ _ _ _ _ us hl => match us, hl with | [_], _ => rfl) (spg_len fun i vs G e => by rw [e]; rfl) (fun f cdv A outer s H vs Q E hr h => ?_)
  obtain ⟨_, G, eG, rfl, q⟩ := h
  refine ⟨_, (pss_cons (ps_if (PW.pt (pw_or (pt_not (pt_val (pe_callB (xisi K) (by rfl) T.m_isinstance boot_isinstance (pa_cons (pv 0) (pa_cons (pe_bltn (v := .ty "str") (by rfl) T.m_str (by decide +kernel) rfl) pa_nil))))) (pw_or1 (pt_cmpR (xnin K) (pv 0) (pe_glob (v := .ref tW) (by rfl) hW rfl) (by rfl))))) (pss_one ps_never) pss_nil) (pss_one (ps_ret (pv 0)))), ?_⟩
  have ok1 : PyData.strOk ("held" : Str) = true := by decide +kernel
  have okA : ∀ x ∈ waysL, PyData.strOk x = true := by decide +kernel
  refine q_no eG (et_is (et_or (a := !(some ("held" : Str) : El).isSome) (b := !decide (("held" : Str) ∈ waysL)) (et_not (et_val (ev_isStr (o := some ("held" : Str)) (er_var rfl ⟨rfl, ok1⟩)))) fun _ => et_cmp (ev_ninsQ (x := ("held" : Str)) (xs := waysL) (ev_var rfl) (er_c (.inr ⟨tW, _, rfl, hS _, str_allR okA⟩)))) (by decide)) fun H1 g1 => ?_
  exact sv_ret g1.kn (ev_var rfl) fun H2 g2 => q _ G H2 (g1.trans g2) rfl

abbrev N_fault_of : List Str := ["debate", "way", "lot"]
theorem sc_fault_of : FnScope N_fault_of ["debate", "way", "lot"] (defScope s_fault_of) := ⟨rfl, rfl, rfl, by decide +kernel, rfl, by decide +kernel, by decide +kernel⟩
def spFaultOf (K : PySem.W.Frag) : Sp := SpG K (ι := Deb × Lot) (fun i vs G => ∃ a b, vs = [a, .str ("held" : Str), b] ∧ rDeb K i.1 a G ∧ rL K rS i.2 b G ∧ OkD i.1 ∧ i.2.length ≤ 1000 ∧ i.2.Nodup ∧ ∀ x ∈ i.2, x ∈ i.1.S) (fun i _ v G2 => rO (rP3 K rS rS rS) (faultP i.1 (so eS i.2)) v G2)
theorem cal_fault_of (T : Txt K mg) (Er : Errs K mg cL cS cH) (Wy : Ways K mg) : Cal P w K mg base CX0 7 "fault_of" ["debate", "way", "lot"] (spFaultOf K) := by
  refine cal_mk T.g_fault_of sc_fault_of (fun _ _ _ _ _ _ us hl => match us, hl with | [_, _, _], _ => rfl) (spg_len fun i vs G ⟨_, _, e, _⟩ => by rw [e]; rfl) (fun f cdv A outer s H vs Q E hr h => ?_)
  obtain ⟨⟨d, L⟩, G, eG, ⟨a, b, rfl, hd, hl, ok, hz, nd, hin⟩, q⟩ := h
  have hd : rDeb K d a G := hd
  have ok : OkD d := ok
  have hl : rL K rS L b G := hl
  have hz : L.length ≤ 1000 := hz
  refine ⟨_, (pss_one (ps_ret (pe_cal (cal_fault_in T) (hr.mono (by decide)) (by rfl) pass0 (pa_cons (pv 0) (pa_cons (pe_cal (cal_checked_way T Wy) (hr.mono (by decide)) (by rfl) pass0 (pa_cons (pv 1) pa_nil)) (pa_cons (pe_cal (E := E0) (cal_checked_lot T Er) (hr.mono (by decide)) (by rfl) passL (pa_cons (pv 0) (pa_cons (pv 2) pa_nil))) pa_nil)))))), ?_⟩
  have nb : ¬ badThg d.S (.seq (L.map some)) := fun ⟨n, hb⟩ => hb.2.2 (ok_of nd hin n hb.1)
  have inj : ∀ {xs ys : Lot}, xs.map some = ys.map some → xs = ys := fun {xs ys} e => by
    have := congrArg (List.filterMap id) e
    simpa [List.filterMap_map] using this
  refine sr_ret eG (er_post (d, ("held" : Str), so eS L) (eb_a3 (R := rDeb K) (S := rS) (T := rL K rS) (er_var rfl hd) (er_of (ev_call () (eb_one (R := fun v _ => v = .str ("held" : Str)) (er_var rfl rfl)) (fun vs G2 _ ⟨v, e, ev⟩ => by rw [e, ev]) (fun _ _ _ p => p)) ⟨rfl, by decide +kernel⟩) (er_callE (d, .seq (L.map some)) nb (eb_a2 (R := rDeb K) (S := rTg K) (y := .seq (L.map some)) (er_var rfl hd) (er_var rfl (show rQ K rEl (L.map some) b G from .inl (let ⟨p, ws, h1, h2, h3⟩ := hl; ⟨p, ws, h1, h2, allR_el2 h3⟩)))) (fun vs G2 _ h => ⟨h, ok, fun els z => by cases z; rw [List.length_map]; exact hz⟩) fun Gc v G2 _ p => by
      obtain ⟨xs, e, _, _, h⟩ := p _ rfl
      have e2 := inj e
      subst e2
      exact rF.l h)) (fun vs G2 _ h => ⟨h, ok, rfl, by show (so eS L).length ≤ 1000; rw [so_len]; exact hz, fun x hx => hin x (so_mem.mp hx)⟩) fun _ _ _ _ p => p) fun v G2 H2 g r => q v G2 H2 g r

/-- x = a call that may raise -/
theorem qx_asg {σ : L2.St} {G H : Hp} {te : TE} {D : Ends} {tz : TS} {E : XK} {b : Prop} {R : V → Hp → Prop} {X : Value → Option Addr → Hp → Prop} {i : Nat} (e : Kn K G H) (h : EvX K te E σ G b R X) (k : ¬ b → ∀ v G2 H2, Gr K G H G2 H2 → R v G2 → tz D (σ.set i (some v)) H2) (kx : b → ∀ cls d G2 H2, Gr K G H G2 H2 → X cls d G2 → E cls d H2) : tSeq (tAsg te (gName i)) tz D σ H := h H e _ k kx
theorem EvX.imp {σ : L2.St} {G : Hp} {te : TE} {E : XK} {b : Prop} {R R' : V → Hp → Prop} {X : Value → Option Addr → Hp → Prop} (h : EvX K te E σ G b R X) (f : ∀ v G2, Ex G G2 → R v G2 → R' v G2) : EvX K te E σ G b R' X := fun H e Q q qx => h H e Q (fun nb v G2 H2 g r => q nb v G2 H2 g (f v G2 g.kk r)) qx
def badSt (S : Lot) (o : El) : Prop := ∀ x, o = some x → x ∉ S
abbrev preS (K : PySem.W.Frag) : Deb × El × V → List V → Hp → Prop := fun i vs G => ∃ a, vs = [a, i.2.2] ∧ rDeb K i.1 a G ∧ rEl i.2.1 i.2.2 G ∧ OkD i.1
abbrev N_lacking_lot : List Str := ["debate", "statement", "one", "lot", "some"]
theorem sc_lacking_lot : FnScope N_lacking_lot ["debate", "statement"] (defScope s_lacking_lot) := ⟨rfl, rfl, rfl, by decide +kernel, rfl, by decide +kernel, by decide +kernel⟩
def spLack (K : PySem.W.Frag) (cS : Addr) : Sp := SpE K (ι := Deb × El × V) (preS K) (fun i G v G2 => ∀ x, i.2.1 = some x → rO (rF G rS) (lackP i.1 x) v G2) (fun i => badSt i.1.S i.2.1) (fun i cls d G => ExIs cS "thing" rV i.2.2 cls d G)
theorem cal_lacking_lot (T : Txt K mg) (B : Tbx K mg base) (Er : Errs K mg cL cS cH) : Cal P w K mg base (L2.CX P w) 5 "lacking_lot" ["debate", "statement"] (spLack K cS) := by
  refine cal_mk T.g_lacking_lot sc_lacking_lot (fun _ _ _ _ _ _ us hl => match us, hl with | [_, _], _ => rfl) (spe_len fun i vs G ⟨_, e, _⟩ => by rw [e]; rfl) (fun f cdv A outer s H vs Q E hr h => ?_)
  obtain ⟨⟨d, o, v⟩, G, eG, ⟨a, rfl, hd, ho, ok⟩, q, qx⟩ := h
  have hd : rDeb K d a G := hd
  have ho : rEl o v G := ho
  have ok : OkD d := ok
  have hg : (greatP (heldP d)).length ≤ 256 := Nat.le_trans greatP_len (heldP_len ok)
  refine ⟨_, (pss_cons (ps_set (i := 2) sc_lacking_lot.nd rfl (by first | exact Or.inl rfl | exact Or.inr rfl) (pe_cal (E := E) (cal_checked_statement T Er) (hr.mono (by decide)) (by rfl) (passes_call tkE fun _ _ _ _ h => h) (pa_cons (pv 0) (pa_cons (pv 1) pa_nil)))) (pss_cons (ps_setLc (i := 4) (own := [("lot", 3)]) (g := gName 3) rfl sc_lacking_lot.nd rfl rfl (sw_true rfl rfl rfl (by decide +kernel)) (xlist K (pe_cal (cal_lots_in T B) (hr.mono (by decide)) (by rfl) pass0 (pa_cons (pv 0) (pa_cons pe_str pa_nil)))) (blkOk_by (own := [("lot", 3)]) (N := N_lacking_lot) (by kernel_rfl)) (fun _ _ _ _ _ => pg_name (i := 3) sc_lacking_lot.nd rfl (by first | exact Or.inl rfl | exact Or.inr rfl)) (fun _ _ _ _ _ => pts_one (pt_cmpR (xnin K) (pv 2) (pv 3) (by rfl))) (fun _ _ _ _ _ => (pv 3))) (pss_one (ps_ret (pe_ifExp (pt_cmpR (xneD K hr.units) (pv 4) (pe_lst pa_nil) (nomark _)) (pe_ix (xixL K) (pv 4) pe_int (fun _ _ => rfl)) pe_non))))), ?_⟩
  refine qx_asg eG (ex_call (d, o, v) (eb_a2 (R := rDeb K) (S := rV) (er_var rfl hd) (er_var rfl rfl)) (fun vs G2 e2 ⟨u, z, e, h1, h2⟩ => ⟨u, by rw [e, show z = v from h2], h1, Mo.mo (R := rEl) e2 ho⟩)) (fun nb v1 G1 H1 g1 ⟨_, _, hv⟩ => ?_) (fun hb cls dd G2 H2 g2 hx => qx hb cls dd G2 H2 g2 hx)
  obtain rfl : v1 = v := hv
  obtain ⟨x, rfl⟩ : ∃ x, o = some x := by
    cases o with
    | none => exact absurd (fun x z => by cases z) nb
    | some x => exact ⟨x, rfl⟩
  have ho : rS x v1 G := ho
  refine qr_asg g1.kn (R := rL K (rF G rS) ((greatP (heldP d)).filter fun l => !decide (x ∈ l))) (EvN.l (en_flt (R := rF G rS) (fun l => !decide (x ∈ l)) (ew_list (er_post (d, ("greatest" : Str)) (eb_a2 (R := rDeb K) (S := rS) (er_var rfl (Mo.mo g1.kk hd)) (er_of ev_c ⟨rfl, by decide +kernel⟩)) (fun vs G2 _ h => ⟨h, ok, rfl⟩) fun Gc v G2 e p => rL.imp (fun _ _ h => h.base (g1.kk.trans e)) p)) (Nat.lt_of_le_of_lt hg (by decide)) (fun _ => rfl) (fun _ => rfl) fun l _ u G2 e2 rl => et_cmp (ev_nins (ev_strv (Mo.mo (R := rS) e2 (Mo.mo (R := rS) g1.kk ho)) rfl) (er_var rfl (rF.l rl))))) fun v2 G2 H2 g2 r2 => ?_
  have g2 := g1.trans g2
  refine sr_ret g2.kn (R := rO (rF G rS) (lackP d x)) (er_if (et_cmp (ev_ne_nil (R := rF G rS) (enc := eLot) (by decide) (er_var rfl r2))) (fun hne => ?_) fun he => ?_) fun v G3 H3 g3 r3 => q nb v G3 H3 (g2.trans g3) fun y hy => by cases hy; exact r3
  · unfold lackP
    cases hs : (greatP (heldP d)).filter fun l => !decide (x ∈ l) with
    | nil => rw [hs] at hne; simp at hne
    | cons p ps =>
      rw [hs] at r2
      exact er_ix (R := rF G rS) (i := 0) (er_var rfl r2) ev_c rfl
  · have he : (greatP (heldP d)).filter (fun l => !decide (x ∈ l)) = [] := of_decide_eq_true (by rw [Bool.not_eq_false'] at he; exact he)
    unfold lackP
    rw [he]
    exact er_c rfl

abbrev N_sure_paper : List Str := ["debate", "statement", "some"]
theorem sc_sure_paper : FnScope N_sure_paper ["debate", "statement"] (defScope s_sure_paper) := ⟨rfl, rfl, rfl, by decide +kernel, rfl, by decide +kernel, by decide +kernel⟩
def spPaper (K : PySem.W.Frag) (cS : Addr) : Sp := SpE K (ι := Deb × El × V) (preS K) (fun i G v G2 => ∀ x, i.2.1 = some x → rO (rF G rS) (paperP i.1 x) v G2) (fun i => badSt i.1.S i.2.1) (fun i cls d G => ExIs cS "thing" rV i.2.2 cls d G)
theorem cal_sure_paper (T : Txt K mg) (Er : Errs K mg cL cS cH) : Cal P w K mg base (L2.CX P w) 5 "sure_paper" ["debate", "statement"] (spPaper K cS) := by
  refine cal_mk T.g_sure_paper sc_sure_paper (fun _ _ _ _ _ _ us hl => match us, hl with | [_, _], _ => rfl) (spe_len fun i vs G ⟨_, e, _⟩ => by rw [e]; rfl) (fun f cdv A outer s H vs Q E hr h => ?_)
  obtain ⟨⟨d, o, v⟩, G, eG, ⟨a, rfl, hd, ho, ok⟩, q, qx⟩ := h
  have hd : rDeb K d a G := hd
  have ho : rEl o v G := ho
  have ok : OkD d := ok
  have hl := sureP_len ok
  refine ⟨_, (pss_cons (ps_set (i := 2) sc_sure_paper.nd rfl (by first | exact Or.inl rfl | exact Or.inr rfl) (pe_cal (cal_smallest_with T) (hr.mono (by decide)) (by rfl) pass0 (pa_cons (pe_cal (cal_sure_lots T) (hr.mono (by decide)) (by rfl) pass0 (pa_cons (pv 0) pa_nil)) (pa_cons (pe_cal (E := E) (cal_checked_statement T Er) (hr.mono (by decide)) (by rfl) (passes_call tkE fun _ _ _ _ h => h) (pa_cons (pv 0) (pa_cons (pv 1) pa_nil))) pa_nil)))) (pss_one (ps_ret (pe_ifExp (pt_cmpR (xneD K hr.units) (pv 2) (pe_lst pa_nil) (nomark _)) (pe_ix (xixL K) (pv 2) pe_int (fun _ _ => rfl)) pe_non)))), ?_⟩
  refine qx_asg (b := badSt d.S o) (R := fun v G2 => ∀ x, o = some x → rL K (rF G rS) (smallW (sureP d) x) v G2) (X := fun cls dd G => ExIs cS "thing" rV v cls dd G) eG (fun H' e Q' q' qx' => ?_) (fun nb v1 G1 H1 g1 r1 => ?_) (fun hb cls dd G2 H2 g2 hx => qx hb cls dd G2 H2 g2 hx)
  · have h0 : ∀ E1 σ, σ[0]? = some (some a) → EvP K (tCall (spSure K) [] E1 (tCons (tVar 0) tNil)) σ G (rL K (rF G rS)) (sureP d) := fun E1 σ hσ => er_post d (eb_a1 (R := rDeb K) (er_var hσ hd)) (fun vs G2 _ h => ⟨h, ok⟩) fun Gc v G2 e p => rF.l (K := K) ((rF.base e p).rel fun _ _ h => h.base e)
    refine h0 _ _ rfl H' e _ fun u1 G1 H1 g1 r1 => ?_
    have h1 : ∀ E1 σ, σ[0]? = some (some a) → σ[1]? = some (some v) → EvX K (tCall (spCkS K cS) [] E1 (tCons (tVar 0) (tCons (tVar 1) tNil))) E1 σ G1 (badSt d.S o) (fun v1 _ => v1 = v) (fun cls dd G => ExIs cS "thing" rV v cls dd G) := fun E1 σ h0 h1 => (ex_call (d, o, v) (eb_a2 (R := rDeb K) (S := rV) (er_var h0 (Mo.mo g1.kk hd)) (er_var h1 rfl)) (fun vs G2 e2 ⟨u, z, e, h1, h2⟩ => ⟨u, by rw [e, show z = v from h2], h1, Mo.mo (R := rEl) (g1.kk.trans e2) ho⟩)).imp fun _ _ _ ⟨_, _, hv⟩ => hv
    refine h1 _ _ rfl rfl H1 g1.kn _ (fun nb v1 G2 H2 g2 hv => ?_) (fun hb cls dd G2 H2 g2 hx => qx' hb cls dd G2 H2 (g1.trans g2) hx)
    obtain rfl : v1 = v := hv
    obtain ⟨x, rfl⟩ : ∃ x, o = some x := by
      cases o with
      | none => exact absurd (fun x z => by cases z) nb
      | some x => exact ⟨x, rfl⟩
    have ho : rS x v1 G := ho
    have gA := g1.trans g2
    exact ⟨(sureP d, x, G), G2, gA.kn, ⟨⟨u1, v1, rfl, Mo.mo g2.kk r1, Mo.mo (R := rS) gA.kk ho⟩, Nat.le_trans hl (by decide)⟩, fun v G3 H3 g3 p => q' nb v G3 H3 (gA.trans g3) fun y hy => by cases hy; exact p⟩
  obtain ⟨x, rfl⟩ : ∃ x, o = some x := by
    cases o with
    | none => exact absurd (fun x z => by cases z) nb
    | some x => exact ⟨x, rfl⟩
  have r2 := r1 x rfl
  refine sr_ret g1.kn (R := rO (rF G rS) (paperP d x)) (er_if (et_cmp (ev_ne_nil (R := rF G rS) (enc := eLot) (by decide) (er_var rfl r2))) (fun hne => ?_) fun he => ?_) fun v G3 H3 g3 r3 => q nb v G3 H3 (g1.trans g3) fun y hy => by cases hy; exact r3
  · unfold paperP
    cases hs : smallW (sureP d) x with
    | nil => rw [hs] at hne; simp at hne
    | cons p ps =>
      rw [hs] at r2
      exact er_ix (R := rF G rS) (i := 0) (er_var rfl r2) ev_c rfl
  · have he : smallW (sureP d) x = [] := of_decide_eq_true (by rw [Bool.not_eq_false'] at he; exact he)
    unfold paperP
    rw [he]
    exact er_c rfl
end
end Ob
set_option maxRecDepth 100000
set_option maxHeartbeats 4000000
/-! Ke2: why_unsure, is_lot, is_sure. -/
namespace Ob
open PySem PySem.Spec PyProof.Rows L2
theorem smallW_ne {ls : List Lot} {o : Str} (h : o ∈ unionL ls) : ∃ l, (smallW ls o).head? = some l := by
  obtain ⟨l, hl, ho⟩ := List.mem_flatMap.mp (dedup_mem.mp h)
  have hne : ((ls.filter fun l => decide (o ∈ l)).map lenI) ≠ [] := fun z => by
    have h2 : l ∈ ls.filter fun l => decide (o ∈ l) := List.mem_filter.mpr ⟨hl, decide_eq_true ho⟩
    rw [List.map_eq_nil_iff.mp z] at h2
    cases h2
  obtain ⟨m, hm, e⟩ := List.mem_map.mp (minI_ok hne).1
  have h3 : m ∈ smallW ls o := List.mem_filter.mpr ⟨hm, decide_eq_true e⟩
  cases hs : smallW ls o with
  | nil => rw [hs] at h3; cases h3
  | cons a as => exact ⟨a, rfl⟩
theorem smap_inj {xs ys : Lot} (e : xs.map some = ys.map some) : xs = ys := by
  have := congrArg (List.filterMap id) e
  simpa [List.filterMap_map] using this
section
variable {P : Program} {w : World} {K : PySem.W.Frag} {mg : Str → Option Value} {base : Heap} {cL cS cH : Addr}
abbrev N_why_unsure : List Str := ["debate", "lot", "members", "fault", "lots", "known", "objector", "one"]
theorem sc_why_unsure : FnScope N_why_unsure ["debate", "lot"] (defScope s_why_unsure) := ⟨rfl, rfl, rfl, by decide +kernel, rfl, by decide +kernel, by decide +kernel⟩
def badWhy (d : Deb) (x : Thg) : Prop := badThg d.S x ∨ ∃ xs p, x = .seq (xs.map some) ∧ faultP d (so eS xs) = some p
def spWhy (K : PySem.W.Frag) (cL cH : Addr) : Sp := SpE K (ι := Deb × Thg) (fun i vs G => A2 (rDeb K) (rTg K) i.1 i.2 vs G ∧ OkD i.1 ∧ ∀ els, i.2 = .seq els → els.length ≤ 1000)
  (fun i G v G2 => ∀ xs, i.2 = .seq (xs.map some) → rO (rP3 K rS rS (rF G rS)) (whyP i.1 xs) v G2) (fun i => badWhy i.1 i.2)
  (fun i cls dd G => (badThg i.1.S i.2 ∧ ∃ n : Nat, (i.2 = .odd → n = 0) ∧ (∀ els, i.2 = .seq els → BadAt i.1.S els n) ∧ ExIs cL "index" rI (n : Int) cls dd G) ∨
    (∃ xs p, i.2 = .seq (xs.map some) ∧ faultP i.1 (so eS xs) = some p ∧ ExIs cH "fault" (rP3 K rS rS rS) p cls dd G))
theorem cal_why_unsure (T : Txt K mg) (Er : Errs K mg cL cS cH) : Cal P w K mg base (L2.CX P w) 7 "why_unsure" ["debate", "lot"] (spWhy K cL cH) := by
  obtain ⟨fI, fd, hFI, hBI, hIC, hTI⟩ := ini_NotHeld (P := P) (w := w) (base := base) Er
  refine cal_mk T.g_why_unsure sc_why_unsure (fun _ _ _ _ _ _ us hl => match us, hl with | [_, _], _ => rfl) (spe_len fun i vs G ⟨⟨_, _, e, _⟩, _⟩ => by rw [e]; rfl) (fun f cdv A outer s H vs Q E hr h => ?_)
  obtain ⟨⟨d, x⟩, G, eG, ⟨⟨a, b, rfl, hd, hx⟩, ok, hz⟩, q, qx⟩ := h
  have hd : rDeb K d a G := hd
  have hx : rTg K x b G := hx
  have ok : OkD d := ok
  refine ⟨_, (pss_cons (ps_set (i := 2) sc_why_unsure.nd rfl (by first | exact Or.inl rfl | exact Or.inr rfl) (pe_cal (E := E) (cal_checked_lot T Er) (hr.mono (by decide)) (by rfl) (passes_call tkE fun _ _ _ _ h => h) (pa_cons (pv 0) (pa_cons (pv 1) pa_nil)))) (pss_cons (ps_set (i := 3) sc_why_unsure.nd rfl (by first | exact Or.inl rfl | exact Or.inr rfl) (pe_cal (cal_fault_in T) (hr.mono (by decide)) (by rfl) pass0 (pa_cons (pv 0) (pa_cons pe_str (pa_cons (pv 2) pa_nil))))) (pss_cons (ps_if (pt_cmpR op_notN (pv 3) pe_non (nomark _)) (pss_one (ps_raise rfl tkE (pmk_oex Er.nh.o hIC hTI hFI (hr.mono (by decide)) hBI .nil pass0 (by rfl) Er.nh.g (pa_cons (pv 3) pa_nil)))) pss_nil) (pss_cons (ps_set (i := 4) sc_why_unsure.nd rfl (by first | exact Or.inl rfl | exact Or.inr rfl) (pe_cal (cal_held_lots T) (hr.mono (by decide)) (by rfl) pass0 (pa_cons (pv 0) pa_nil))) (pss_cons (ps_set (i := 5) sc_why_unsure.nd rfl (by first | exact Or.inl rfl | exact Or.inr rfl) (pe_cal (cal_all_held T) (hr.mono (by decide)) (by rfl) pass0 (pa_cons (pv 4) pa_nil))) (pss_cons (ps_for (g := gName 7) (passes_of rfl) rfl (xlist K (pv 2)) (pg_name (i := 7) sc_why_unsure.nd rfl (by first | exact Or.inl rfl | exact Or.inr rfl)) (pss_one (ps_for (g := gName 6) (passes_of rfl) rfl (xlist K (pe_dget (hu_of hr) (xfld K (pv 0)) (pv 7) (fun _ _ => rfl))) (pg_name (i := 6) sc_why_unsure.nd rfl (by first | exact Or.inl rfl | exact Or.inr rfl)) (pss_one (ps_if (pt_cmp (pc_din (hu_of hr) (pv 6) (pv 5))) (pss_one (ps_ret (pe_tup (pa_cons (pv 7) (pa_cons (pv 6) (pa_cons (pe_ix (xixL K) (pe_cal (cal_smallest_with T) (hr.mono (by decide)) (by rfl) pass0 (pa_cons (pv 4) (pa_cons (pv 6) pa_nil))) pe_int (fun _ _ => rfl)) pa_nil)))))) pss_nil))))) (pss_one (ps_ret pe_non)))))))), ?_⟩
  refine qx_asg eG (ex_call (d, x) (eb_a2 (R := rDeb K) (S := rTg K) (er_var rfl hd) (er_var rfl hx)) (fun vs G2 e2 h => ⟨h, ok, hz⟩)) (fun nb v1 G1 H1 g1 ⟨Gc, ec, hv⟩ => ?_) (fun hb cls dd G2 H2 g2 hx => qx (.inl hb) cls dd G2 H2 g2 (.inl ⟨hb, hx⟩))
  obtain ⟨els, rfl⟩ : ∃ els, x = .seq els := by cases x with | odd => exact absurd trivial nb | seq els => exact ⟨els, rfl⟩
  obtain ⟨xs, rfl, nd, hin, r1⟩ := hv els rfl
  have hz1 : xs.length ≤ 1000 := by have := hz _ rfl; rwa [List.length_map] at this
  have hin1 : ∀ y ∈ so eS xs, y ∈ d.S := fun y hy => hin y (so_mem.mp hy)
  have hz2 : (so eS xs).length ≤ 1000 := by rw [so_len]; exact hz1
  have r1 : rL K rS (so eS xs) v1 G1 := rF.l r1
  have hd1 := Mo.mo (R := rDeb K) g1.kk hd
  have ok1 : PyData.strOk ("held" : Str) = true := by decide +kernel
  refine qr_asg g1.kn (er_post (Z := rO (rP3 K rS rS rS) (faultP d (so eS xs))) (d, ("held" : Str), so eS xs) (eb_a3 (R := rDeb K) (S := rS) (T := rL K rS) (er_var rfl hd1) (er_of ev_c ⟨rfl, ok1⟩) (er_var rfl r1)) (fun vs G2 _ h => ⟨h, ok, rfl, hz2, hin1⟩) fun _ _ _ _ p => p) fun v2 G2 H2 g2 r2 => ?_
  have gA := g1.trans g2
  refine q_if gA.kn (et_cmp (ev_notN (R := rP3 K rS rS rS) (er_var rfl r2))) (fun hy H3 g3 => ?_) fun hno H3 g3 => ?_
  · cases hf : faultP d (so eS xs) with
    | none => rw [hf] at hy; cases hy
    | some p =>
      rw [hf] at r2
      have r2 : rP3 K rS rS rS p v2 G2 := r2
      exact s_err (f := "fault") (x := p) (R := rP3 K rS rS rS) g3.kn (er_var rfl r2) fun cls dd G4 H4 g4 hx4 => qx (.inr ⟨xs, p, rfl, hf⟩) cls dd G4 H4 ((gA.trans g3).trans g4) (.inr ⟨xs, p, rfl, hf, hx4⟩)
  have hf : faultP d (so eS xs) = none := by
    cases hf : faultP d (so eS xs) with
    | none => rfl
    | some p => rw [hf] at hno; cases hno
  have nb2 : ¬ badWhy d (.seq (xs.map some)) := by
    rintro (h | ⟨ys, p, e, h⟩)
    · exact nb h
    · cases smap_inj (Thg.seq.inj e)
      rw [hf] at h
      cases h
  have gB := gA.trans g3
  have hd2 := Mo.mo (R := rDeb K) gB.kk hd
  have r1b := Mo.mo (R := rL K rS) g2.kk r1
  unfold tNext
  dsimp only
  refine qr_asg gB.kn (er_post (Z := rF G (rF G rS) (heldP d)) d (eb_a1 (R := rDeb K) (er_var rfl hd2)) (fun vs G2 _ h => ⟨h, ok⟩) fun Gc v G2 e p => (rF.base (gB.kk.trans e) p).rel fun _ _ h => h.base (gB.kk.trans e)) fun v4 G4 H4 g4 r4 => ?_
  have r4 : rF G (rF G rS) (heldP d) v4 G4 := r4
  refine qr_asg g4.kn (er_post (Z := rKs (unionL (heldP d))) (heldP d) (eb_a1 (R := rLs K) (er_var rfl (rF.l (rF.rel r4 fun _ _ h => rF.l h)))) (fun vs G2 _ h => ⟨h, union_len ok (fun _ h => h) (heldP_len ok)⟩) fun _ _ _ _ p => p) fun v5 G5 H5 g5 r5 => ?_
  have gC := (gB.trans g4).trans g5
  have r5 : rKs (unionL (heldP d)) v5 G5 := r5
  have hd5 := Mo.mo (R := rDeb K) gC.kk hd
  have r15 := Mo.mo (R := rL K rS) (g4.trans g5).kk r1b
  have r45 : rL K (rF G rS) (heldP d) v4 G5 := rF.l (Mo.mo g5.kk r4)
  refine q_search (R := rS) (xs := so eS xs) gC.kn (ew_list (er_var rfl r15)) (fun σ' => ∃ y z, σ' = [some a, some b, some v1, some v2, some v4, some v5, y, z]) (fun i => ((so eS xs).take i).findSome? (whyAt d) = none) ⟨_, _, rfl⟩ rfl ?_ ?_
  · rintro i y v σ' G6 H6 X ey ⟨s1, s2, rfl⟩ hN g6 ry hX
    show tFor _ _ _ _ [some a, some b, some v1, some v2, some v4, some v5, s1, some v] H6
    refine s_for (R := rS) (xs := obs d.O y) g6.kn (ew_list (er_dget (R := rL K rS) (f := obs d.O) (er_objectors (er_var rfl (Mo.mo g6.kk hd5))) (ev_strv ry rfl) (hin1 y (List.mem_of_getElem? ey)))) (fun k σ' G' H' => (∃ z, σ' = [some a, some b, some v1, some v2, some v4, some v5, z, some v]) ∧ ((obs d.O y).take k).findSome? (fun o => if o ∈ unionL (heldP d) then (smallW (heldP d) o).head?.map fun l => (y, o, l) else none) = none ∧ Gr K G6 H6 G' H') (fun G3 H3 g3 => ⟨⟨_, rfl⟩, rfl, g3⟩) ?_ ?_
    · rintro k o u σ' G' H' G7 H7 eo ⟨⟨z, rfl⟩, hk, gg⟩ _ _ g7 ro
      have gD := (g6.trans gg).trans g7
      refine s_if g7.kn (et_cmp (ev_din (R := rB) (f := fun _ => true) (ev_strv ro rfl) (er_var rfl (Mo.mo gD.kk r5)))) (fun hy H8 g8 => ?_) fun hno H8 g8 => ?_
      · have hy : o ∈ unionL (heldP d) := of_decide_eq_true hy
        obtain ⟨l, hl⟩ := smallW_ne hy
        have e1 : whyAt d y = some (y, o, l) := by
          unfold whyAt
          exact fs_hit eo hk (by rw [if_pos hy, hl]; rfl)
        have e2 : whyP d xs = some (y, o, l) := fs_hit ey hN e1
        refine sr_ret g8.kn (er_tri (p := (y, o, l)) (R := rS) (S := rS) (T := rF G rS) (er_var rfl (Mo.mo (gg.trans g7).kk ry)) (er_var rfl ro) (er_ix (R := rF G rS) (i := 0) (er_post (Z := rL K (rF G rS) (smallW (heldP d) o)) (heldP d, o, G) (eb_a2 (R := rL K (rF G rS)) (S := rS) (er_var rfl (Mo.mo gD.kk r45)) (er_var rfl ro)) (fun vs G2 _ h => ⟨h, Nat.le_trans (heldP_len ok) (by decide)⟩) fun _ _ _ _ p => p) ev_c (by rw [← List.head?_eq_getElem?]; exact hl))) fun v' G9 H9 g9 r9 => q nb2 v' G9 H9 (gC.trans ((gD.trans g8).trans g9)) fun ys hys => ?_
        cases smap_inj (Thg.seq.inj hys)
        show rO (rP3 K rS rS (rF G rS)) (whyP d xs) v' G9
        rw [e2]
        exact r9
      · have hno : o ∉ unionL (heldP d) := of_decide_eq_false hno
        exact ⟨G7, g7.kk, g8.kn, ⟨_, rfl⟩, fs_step eo hk (by rw [if_neg hno]), (gg.trans g7).trans g8⟩
    · rintro σ' G' H' ⟨⟨z, rfl⟩, hk, gg⟩ _ _
      exact hX _ _ _ ⟨_, _, rfl⟩ (fs_step ey hN (fs_end hk)) gg
  · rintro σ' G' H' ⟨s1, s2, rfl⟩ hN g
    have e2 : whyP d xs = none := fs_end hN
    refine sv_ret g.kn ev_c fun H2 g2 => q nb2 _ _ H2 (gC.trans (g.trans g2)) fun ys hys => ?_
    cases smap_inj (Thg.seq.inj hys)
    show rO (rP3 K rS rS (rF G rS)) (whyP d xs) _ _
    rw [e2]
    rfl
end
end Ob
set_option maxRecDepth 100000
set_option maxHeartbeats 4000000
/-! Ke3: is_lot, is_sure. -/
namespace Ob
open PySem PySem.Spec PyProof.Rows L2
def isHeldLot (d : Deb) (x : Thg) : Prop := ∃ xs : Lot, x = .seq (xs.map some) ∧ xs.Nodup ∧ (∀ y ∈ xs, y ∈ d.S) ∧ faultP d (so eS xs) = none
noncomputable def isLotB (d : Deb) (x : Thg) : Bool := @decide (isHeldLot d x) (Classical.propDecidable _)
def isSureLot (d : Deb) (x : Thg) : Prop := ∃ xs : Lot, x = .seq (xs.map some) ∧ xs.Nodup ∧ (∀ y ∈ xs, y ∈ d.S) ∧ faultP d (so eS xs) = none ∧ aloneP d xs (unionL (heldP d)) = true
noncomputable def isSureB (d : Deb) (x : Thg) : Bool := @decide (isSureLot d x) (Classical.propDecidable _)
theorem decC {p : Prop} {b : Bool} (h : b = true ↔ p) : @decide p (Classical.propDecidable _) = b := by
  cases b with
  | true => exact @decide_eq_true _ (Classical.propDecidable _) (h.mp rfl)
  | false => exact @decide_eq_false _ (Classical.propDecidable _) fun z => by cases h.mpr z
section
variable {K : PySem.W.Frag} {σ : L2.St} {G : Hp} {α : Type} {R : Rp α}
/-- list(xs) -/
theorem en_listof [Mo R] {i : Nat} {xs : List α} {v : V} (r : rQ K R xs v G) (h : σ[i]? = some (some v)) : EvN K (tCB (Evl.rListS K) (tCons (tVar i) tNil)) σ G (AllR R xs) :=
  en_cb1 (er_var (R := rQ K R xs) h r) fun x G2 _ r H2 e2 Q q => by
    rcases r with ⟨a, vs, rfl, h1, h2⟩ | ⟨a, vs, rfl, h1, h2⟩
    · exact ⟨a, vs, rfl, .inl (ex_l e2.ex h1), fun l hl => q l vs hl h2⟩
    · exact ⟨a, vs, rfl, .inr (ex_t e2.ex h1), fun l hl => q l vs hl h2⟩
theorem er_listof [Mo R] {i : Nat} {xs : List α} {v : V} (r : rQ K R xs v G) (h : σ[i]? = some (some v)) : EvP K (tCB (Evl.rListS K) (tCons (tVar i) tNil)) σ G (rL K R) xs := EvN.l (en_listof r h)
end
section
variable {P : Program} {w : World} {K : PySem.W.Frag} {mg : Str → Option Value} {base : Heap} {cL cS cH : Addr}
abbrev N_is_lot : List Str := ["debate", "way", "thing", "kept", "index", "one"]
theorem sc_is_lot : FnScope N_is_lot ["debate", "way", "thing"] (defScope s_is_lot) := ⟨rfl, rfl, rfl, by decide +kernel, rfl, by decide +kernel, by decide +kernel⟩
def spIsLot (K : PySem.W.Frag) : Sp := SpG K (ι := Deb × Thg) (fun i vs G => ∃ a b, vs = [a, .str ("held" : Str), b] ∧ rDeb K i.1 a G ∧ rTg K i.2 b G ∧ OkD i.1 ∧ ∀ els, i.2 = .seq els → els.length ≤ 1000) (fun i _ v _ => v = .bl (isLotB i.1 i.2))
theorem cal_is_lot (T : Txt K mg) (Wy : Ways K mg) : Cal P w K mg base CX0 7 "is_lot" ["debate", "way", "thing"] (spIsLot K) := by
  refine cal_mk T.g_is_lot sc_is_lot (fun _ _ _ _ _ _ us hl => match us, hl with | [_, _, _], _ => rfl) (spg_len fun i vs G ⟨_, _, e, _⟩ => by rw [e]; rfl) (fun f cdv A outer s H vs Q E hr h => ?_)
  obtain ⟨⟨d, x⟩, G, eG, ⟨a, b, rfl, hd, hx, ok, hz⟩, q⟩ := h
  have hd : rDeb K d a G := hd
  have hx : rTg K x b G := hx
  have ok : OkD d := ok
  refine ⟨_, (pss_cons (ps_set (i := 3) sc_is_lot.nd rfl (by first | exact Or.inl rfl | exact Or.inr rfl) (pe_cal (cal_checked_way T Wy) (hr.mono (by decide)) (by rfl) pass0 (pa_cons (pv 1) pa_nil))) (pss_cons (ps_if (pt_not (pt_val (pe_cal (cal_is_list T) (hr.mono (by decide)) (by rfl) pass0 (pa_cons (pv 2) pa_nil)))) (pss_one (ps_ret pe_bl)) pss_nil) (pss_cons (ps_for (g := gTup K 2 (gCons (gName 4) (gCons (gName 5) gNil))) (passes_of rfl) rfl (pi_enQ K (by rfl) T.m_enumerate (pa_cons (pv 2) pa_nil)) (xgtup K (pgs_cons (pg_name (i := 4) sc_is_lot.nd rfl (by first | exact Or.inl rfl | exact Or.inr rfl)) (pgs_cons (pg_name (i := 5) sc_is_lot.nd rfl (by first | exact Or.inl rfl | exact Or.inr rfl)) pgs_nil))) (pss_one (ps_if (PW.pt (pw_or (pt_not (pt_val (pe_callB (xisi K) (by rfl) T.m_isinstance boot_isinstance (pa_cons (pv 5) (pa_cons (pe_bltn (v := .ty "str") (by rfl) T.m_str (by decide +kernel) rfl) pa_nil))))) (pw_or (pt_cmp (pc_dnotin (hu_of hr) (pv 5) (xfld K (pv 0)))) (pw_or1 (pt_cmpR (xin K) (pv 5) (PE.or (pe_slice (xslL K) (pv 2) po_none (po_some (pv 4))) (pe_slice (xslT K) (pv 2) po_none (po_some (pv 4)))) (by rfl)))))) (pss_one (ps_ret pe_bl)) pss_nil))) (pss_one (ps_ret (pe_cmpR op_isN (pe_cal (cal_fault_in T) (hr.mono (by decide)) (by rfl) pass0 (pa_cons (pv 0) (pa_cons (pv 3) (pa_cons (pe_callB (xsort K rS hr.units) (by rfl) T.m_sorted boot_sorted (pa_cons (pv 2) pa_nil)) pa_nil)))) pe_non (nomark _))))))), ?_⟩
  refine qv_asg eG (ev_call () (eb_one (R := fun v _ => v = .str ("held" : Str)) (er_var rfl rfl)) (fun vs G2 _ ⟨v, e, ev⟩ => by rw [e, ev]) (fun _ _ _ p => p)) fun H0 g0 => ?_
  refine q_if g0.kn (et_not (et_val (ev_call x (eb_a1 (R := rTg K) (er_var rfl hx)) (fun vs G2 _ h => h) (fun _ _ _ p => p)))) (fun hy H1 g1 => ?_) fun hno H1 g1 => ?_
  · refine sv_ret g1.kn ev_c fun H2 g2 => q _ G H2 ((g0.trans g1).trans g2) ?_
    have ex : x = .odd := by cases x with | odd => rfl | seq els => cases hy
    subst ex
    show V.bl false = .bl (isLotB d .odd)
    rw [isLotB, decC (b := false) ⟨(fun z => by cases z), fun ⟨xs, e, _⟩ => by cases e⟩]
  · obtain ⟨els, rfl⟩ : ∃ els, x = .seq els := by cases x with | odd => cases hno | seq els => exact ⟨els, rfl⟩
    have hx : rQ K rEl els b G := hx
    have hz : els.length ≤ 1000 := hz els rfl
    have g1 := g0.trans g1
    change tSeq _ _ _ _ _
    refine q_for (R := rP K rI rEl) (xs := enumL els) g1.kn (ew_enQ (er_varQ rfl hx)) (fun i σ' G' H' => (∃ x y, σ' = [some a, some (.str ("held" : Str)), some b, some (.str ("held" : Str)), x, y]) ∧ (∀ j < i, okEl d.S els j) ∧ Gr K G H G' H') (fun G2 H2 g2 => ⟨⟨_, _, rfl⟩, fun j hj => absurd hj (Nat.not_lt_zero j), g1.trans g2⟩) ?_ ?_
    · rintro i p v σ' G' H' G2 H2 ep ⟨⟨x', y', rfl⟩, hok, gg⟩ _ _ g2 rp
      obtain ⟨ei, ee⟩ := enumL_inv ep
      obtain ⟨p1, el⟩ := p
      obtain rfl : p1 = (i : Int) := ei
      have ee : els[i]? = some el := ee
      obtain ⟨t, u, z, rfl, h1, h2, h3⟩ := rp
      obtain rfl : u = .int (i : Int) := h2
      have h3 : rEl el z G2 := h3
      have gA := gg.trans g2
      have hil : i < els.length := (List.getElem?_eq_some_iff.mp ee).1
      obtain ⟨xs, exs, nd, hin⟩ := ok_pre hok (Nat.le_of_lt hil)
      refine tg_tup2 (P := fun σ2 => σ2 = [some a, some (.str ("held" : Str)), some b, some (.str ("held" : Str)), some (.int (i : Int)), some z]) (ex_t g2.kh h1) rfl _ fun σ2 hσ => ?_
      subst hσ
      have hd2 := Mo.mo (R := rDeb K) gA.kk hd
      have hx2 := Mo.mo (R := rQ K rEl) gA.kk hx
      refine s_if gA.kn (et_or (a := !el.isSome) (b := badEl d.S el || inEl xs el) (et_not (et_val (ev_isStr (er_var rfl h3)))) fun h4 => ?_) (fun hy H3 g3 => ?_) fun hno H3 g3 => ?_
      · cases el with
        | none => cases h4
        | some x =>
          have h3 : rS x z G2 := h3
          obtain rfl : z = .str x := h3.1
          exact et_or (a := badEl d.S (some x)) (b := decide (x ∈ xs)) (et_cmp (ev_dnin (R := rL K rS) (f := obs d.O) (ev_var rfl) (er_objectors (er_var rfl hd2)))) fun _ => et_cmp (ev_inpre (er_varQ rfl hx2) hil exs (ev_var rfl) (ev_var rfl))
      · refine sv_ret g3.kn ev_c fun H4 g4 => q _ G2 H4 ((gA.trans g3).trans g4) ?_
        show V.bl false = .bl (isLotB d (.seq els))
        have hn : ¬ isHeldLot d (.seq els) := by
          rintro ⟨ys, e, nd2, hin2, _⟩
          cases e
          obtain ⟨x, e1, e2, e3⟩ := ok_of nd2 hin2 i hil
          rw [ee] at e1
          cases e1
          rw [exs, List.mem_map] at e3
          have e4 : x ∉ xs := fun z => e3 ⟨x, z, rfl⟩
          simp [badEl, inEl, e2, e4] at hy
        rw [isLotB, decC (b := false) ⟨(fun z => by cases z), fun z => absurd z hn⟩]
      · refine ⟨G2, g2.kk, g3.kn, ⟨_, _, rfl⟩, fun j hj => ?_, gA.trans g3⟩
        rcases Nat.lt_succ_iff_lt_or_eq.mp hj with hj | rfl
        · exact hok j hj
        · cases el with
          | none => simp at hno
          | some x =>
            simp [badEl, inEl] at hno
            refine ⟨x, ee, hno.1, fun z => ?_⟩
            rw [exs, List.mem_map] at z
            obtain ⟨y, hy, e⟩ := z
            cases e
            exact hno.2 hy
    · rintro σ' G' H' ⟨⟨x', y', rfl⟩, hok, gg⟩ _ _
      rw [enumL_len] at hok
      obtain ⟨xs, rfl, nd, hin⟩ := ok_all hok
      rw [List.length_map] at hz
      have ok1 : PyData.strOk ("held" : Str) = true := by decide +kernel
      refine sv_ret (v := .bl (faultP d (so eS xs)).isNone) gg.kn (ev_isN (R := rP3 K rS rS rS) (er_post (Z := rO (rP3 K rS rS rS) (faultP d (so eS xs))) (d, ("held" : Str), so eS xs) (eb_a3 (R := rDeb K) (S := rS) (T := rL K rS) (er_var rfl (Mo.mo gg.kk hd)) (er_var rfl ⟨rfl, ok1⟩) (EvN.l (en_sortQ (R := rS) (ok_str (by omega)) (er_var rfl (rQ_el (Mo.mo gg.kk hx)))))) (fun vs G2 _ h => ⟨h, ok, rfl, by show (so eS xs).length ≤ 1000; rw [so_len]; exact hz, fun y hy => hin y (so_mem.mp hy)⟩) fun _ _ _ _ p => p)) fun H2 g2 => q _ G' H2 (gg.trans g2) ?_
      show V.bl (faultP d (so eS xs)).isNone = .bl (isLotB d (.seq (xs.map some)))
      rw [isLotB, decC (b := (faultP d (so eS xs)).isNone) ⟨fun z => ⟨xs, rfl, nd, hin, Option.isNone_iff_eq_none.mp z⟩, fun ⟨ys, e, _, _, h⟩ => by cases smap_inj (Thg.seq.inj e); rw [h]; rfl⟩]

abbrev N_is_sure : List Str := ["debate", "thing"]
theorem sc_is_sure : FnScope N_is_sure ["debate", "thing"] (defScope s_is_sure) := ⟨rfl, rfl, rfl, by decide +kernel, rfl, by decide +kernel, by decide +kernel⟩
def spIsSure (K : PySem.W.Frag) : Sp := SpG K (ι := Deb × Thg) (fun i vs G => A2 (rDeb K) (rTg K) i.1 i.2 vs G ∧ OkD i.1 ∧ ∀ els, i.2 = .seq els → els.length ≤ 1000) (fun i _ v _ => v = .bl (isSureB i.1 i.2))
theorem cal_is_sure (T : Txt K mg) (Wy : Ways K mg) : Cal P w K mg base CX0 8 "is_sure" ["debate", "thing"] (spIsSure K) := by
  refine cal_mk T.g_is_sure sc_is_sure (fun _ _ _ _ _ _ us hl => match us, hl with | [_, _], _ => rfl) (spg_len fun i vs G ⟨⟨_, _, e, _⟩, _⟩ => by rw [e]; rfl) (fun f cdv A outer s H vs Q E hr h => ?_)
  obtain ⟨⟨d, x⟩, G, eG, ⟨⟨a, b, rfl, hd, hx⟩, ok, hz⟩, q⟩ := h
  have hd : rDeb K d a G := hd
  have hx : rTg K x b G := hx
  have ok : OkD d := ok
  refine ⟨_, (pss_one (ps_ret (pe_and (pe_cal (cal_is_lot T Wy) (hr.mono (by decide)) (by rfl) pass0 (pa_cons (pv 0) (pa_cons pe_str (pa_cons (pv 1) pa_nil)))) (pe_one (pe_cal (cal_is_left_alone T) (hr.mono (by decide)) (by rfl) pass0 (pa_cons (pv 0) (pa_cons (pe_callTy (xlistof K) (by rfl) T.m_list (by decide +kernel) (pa_cons (pv 1) pa_nil)) (pa_cons (pe_cal (cal_all_held T) (hr.mono (by decide)) (by rfl) pass0 (pa_cons (pe_cal (cal_held_lots T) (hr.mono (by decide)) (by rfl) pass0 (pa_cons (pv 0) pa_nil)) pa_nil)) pa_nil)))))))), ?_⟩
  refine sv_ret (v := .bl (isSureB d x)) eG ?_ fun H2 g => q _ G H2 g rfl
  have h1 : ∀ E1 σ, σ[0]? = some (some a) → σ[1]? = some (some b) → Ev K (tCall (spIsLot K) [] E1 (tCons (tVar 0) (tCons (tC (.str ("held" : Str))) (tCons (tVar 1) tNil)))) σ G (.bl (isLotB d x)) := fun E1 σ h0 h1 =>
    ev_call (d, x) (eb_cons (R := rDeb K d) (er_var h0 hd) (eb_cons (R := fun v _ => v = .str ("held" : Str)) (er_of ev_c rfl) (eb_one (R := rTg K x) (er_var h1 hx)))) (fun vs G2 _ ⟨v, r, e, h1, w, r2, e2, h2, u, e3, h3⟩ => ⟨v, u, by rw [e, e2, e3, h2], h1, h3, ok, hz⟩) (fun _ _ _ p => p)
  by_cases hL : isHeldLot d x
  · obtain ⟨xs, rfl, nd, hin, hf⟩ := id hL
    have e1 : isLotB d (.seq (xs.map some)) = true := decC (b := true) ⟨fun _ => hL, fun _ => rfl⟩
    have e2 : isSureB d (.seq (xs.map some)) = (isLotB d (.seq (xs.map some)) && aloneP d xs (unionL (heldP d))) := by
      rw [e1, Bool.true_and]
      exact decC ⟨fun h => ⟨xs, rfl, nd, hin, hf, h⟩, fun ⟨ys, e, _, _, _, h⟩ => by cases smap_inj (Thg.seq.inj e); exact h⟩
    rw [e2]
    have hx : rQ K rEl (xs.map some) b G := hx
    have hz : xs.length ≤ 1000 := by have := hz _ rfl; rwa [List.length_map] at this
    exact ev_and (h1 _ _ rfl rfl) fun _ => ev_call (d, xs, unionL (heldP d)) (eb_a3 (R := rDeb K) (S := rL K rS) (T := rKs) (er_var rfl hd) (er_listof (rQ_el hx) rfl) (er_post (heldP d) (eb_a1 (R := rLs K) (er_post (Z := rLs K (heldP d)) d (eb_a1 (R := rDeb K) (er_var rfl hd)) (fun vs G2 _ h => ⟨h, ok⟩) fun Gc v G2 e p => rF.l (rF.rel p fun _ _ h => rF.l h))) (fun vs G2 _ h => ⟨h, union_len ok (fun _ h => h) (heldP_len ok)⟩) fun _ _ _ _ p => p)) (fun vs G2 _ h => ⟨h, ok, hz, hin⟩) (fun _ _ _ p => p)
  · have e1 : isLotB d x = false := decC (b := false) ⟨(fun z => by cases z), fun z => absurd z hL⟩
    have e2 : isSureB d x = (isLotB d x && false) := by
      rw [e1]
      exact decC (b := false) ⟨(fun z => by cases z), fun ⟨xs, e, nd, hin, hf, _⟩ => absurd ⟨xs, e, nd, hin, hf⟩ hL⟩
    rw [e2]
    exact ev_and (h1 _ _ rfl rfl) fun z => by rw [e1] at z; cases z
end
end Ob
set_option maxRecDepth 100000
set_option maxHeartbeats 4000000
/-! Kf1: is_name, as_tuples of a text, checked_statements. -/
namespace Ob
open PySem PySem.Spec PyProof.Rows L2
abbrev smallS : Str := "abcdefghijklmnopqrstuvwxyz"
abbrev figS : Str := "0123456789"
def Small (mg : Str → Option Value) : Prop := (∃ t, mg "SMALL" = some (.str smallS t)) ∧ ∃ t, mg "FIGURES" = some (.str figS t)
abbrev tenN : Lot := ["b", "aa", "c1", "docs", "z9", "a", "m3", "abcdefghijk1", "no", "yes"]
structure NameOk (x : Str) : Prop where
  p : 0 < x.length
  l : x.length ≤ 12
  h : ∃ c, x.cps.toList[0]? = some c ∧ c ∈ smallS.cps.toList
  a : ∀ c ∈ x.cps.toList, c ∈ (smallS ++ figS).cps.toList
theorem ten_ok {x : Str} (h : x ∈ tenN) : NameOk x ∧ PyData.strOk x = true := by
  have key : ∀ y ∈ tenN, 0 < y.length ∧ y.length ≤ 12 ∧ (match y.cps.toList[0]? with | some c => decide (c ∈ smallS.cps.toList) | none => false) = true ∧ (∀ c ∈ y.cps.toList, c ∈ (smallS ++ figS).cps.toList) ∧ PyData.strOk y = true := by decide +kernel
  obtain ⟨h1, h2, h3, h4, h5⟩ := key x h
  refine ⟨⟨h1, h2, ?_, h4⟩, h5⟩
  cases hc : x.cps.toList[0]? with
  | none => rw [hc] at h3; cases h3
  | some c => rw [hc] at h3; exact ⟨c, rfl, of_decide_eq_true h3⟩
def rCh : Rp Nat := fun c v _ => v = .str ⟨#[c]⟩
instance : Mo rCh := ⟨fun _ h => h⟩
section
variable {K : PySem.W.Frag} {σ : L2.St} {G : Hp} {ta tb tc te : TE}
theorem ew_str {x : Str} (h : Ev K te σ G (.str x)) : EvW K (iStr te) σ G rCh x.cps.toList := fun H e Q q => h H e _ fun H2 g => ⟨x, rfl, q _ G H2 g ⟨fun i H hi _ => by show i < x.cps.size; simpa using hi, fun i H v H2 hi e2 ⟨y1, c, y2, y3⟩ => ⟨c, G, by simpa using y2, by rw [y1]; exact Gr.refl e2, y3⟩, fun H _ => by show x.cps.size ≤ x.cps.toList.length; simp⟩⟩
theorem et_chain {i j k : Int} {f g : Int → Int → Bool} (ha : Ev K ta σ G (.int i)) (hb : Ev K tb σ G (.int j)) (hc : Ev K tc σ G (.int k)) : EvT K (tTest (tChain (rI0 fun i j => .bl (f i j)) (rI0 fun i j => .bl (g i j)) ta tb tc)) σ G (f i j && g j k) := by
  refine et_cmp fun H e Q q => ha H e _ fun H1 g1 => hb H1 g1.kn _ fun H2 g2 => ⟨i, j, rfl, rfl, f i j, rfl, ?_⟩
  cases hf : f i j with
  | true =>
    rw [if_pos rfl]
    refine hc H2 g2.kn _ fun H3 g3 => ⟨j, k, rfl, rfl, ?_⟩
    rw [hf] at q
    exact q H3 ((g1.trans g2).trans g3)
  | false =>
    rw [if_neg (by simp)]
    rw [hf] at q
    exact q H2 (g1.trans g2)
theorem ev_lenS {x : Str} (hx : x.length ≤ 10000000) (h : Ev K te σ G (.str x)) : Ev K (tCB (fun xs H Q => ∃ z, xs = [.str z] ∧ z.length ≤ sizeLine ∧ Q (.int z.length) H) (tCons te tNil)) σ G (.int (x.length : Int)) := fun H e Q q => h H e _ fun H2 g => ⟨x, rfl, Nat.le_trans hx (by decide), q H2 g⟩
theorem ev_ixS {x : Str} {c : Nat} (hx : x.length ≤ 10000000) (hc : x.cps.toList[0]? = some c) (ha : Ev K ta σ G (.str x)) (hb : Ev K tb σ G (.int 0)) : Ev K (tOp rIxS ta tb) σ G (.str ⟨#[c]⟩) := fun H e Q q => ha H e _ fun H1 g1 => hb H1 g1.kn _ fun H2 g2 => ⟨x, 0, c, rfl, rfl, Nat.le_trans hx (by decide), atI_nat (j := 0) hc, q H2 (g1.trans g2)⟩
theorem ev_inCh {c : Nat} {z : Str} (ha : Ev K ta σ G (.str ⟨#[c]⟩)) (hb : Ev K tb σ G (.str z)) : Ev K (tOp rInS ta tb) σ G (.bl (decide (c ∈ z.cps.toList))) := fun H e Q q => ha H e _ fun H1 g1 => hb H1 g1.kn _ fun H2 g2 => ⟨c, z, rfl, rfl, q H2 (g1.trans g2)⟩
theorem ev_ninCh {c : Nat} {z : Str} (ha : Ev K ta σ G (.str ⟨#[c]⟩)) (hb : Ev K tb σ G (.str z)) : Ev K (tOp rNotInS ta tb) σ G (.bl (!decide (c ∈ z.cps.toList))) := fun H e Q q => ha H e _ fun H1 g1 => hb H1 g1.kn _ fun H2 g2 => ⟨c, z, rfl, rfl, q H2 (g1.trans g2)⟩
end
section
variable {P : Program} {w : World} {K : PySem.W.Frag} {mg : Str → Option Value} {base : Heap} {cL cS cH : Addr}
abbrev N_is_name : List Str := ["thing", "sign"]
theorem sc_is_name : FnScope N_is_name ["thing"] (defScope s_is_name) := ⟨rfl, rfl, rfl, by decide +kernel, rfl, by decide +kernel, by decide +kernel⟩
def spIsName (K : PySem.W.Frag) : Sp := SpG K (ι := Str) (fun i vs G => A1 rS i vs G ∧ NameOk i) (fun i _ v _ => v = .bl true)
theorem cal_is_name (T : Txt K mg) (Nm : Small mg) : Cal P w K mg base CX0 1 "is_name" ["thing"] (spIsName K) := by
  obtain ⟨⟨t1, hSm⟩, t2, hFi⟩ := Nm
  refine cal_mk T.g_is_name sc_is_name (fun _ _ _ _ _ _ us hl => match us, hl with | [_], _ => rfl) (spg_len fun i vs G ⟨⟨_, e, _⟩, _⟩ => by rw [e]; rfl) (fun f cdv A outer s H vs Q E hr h => ?_)
  obtain ⟨x, G, eG, ⟨⟨a, rfl, hx⟩, ok⟩, q⟩ := h
  have ok : NameOk x := ok
  have hx : rS x a G := hx
  obtain rfl : a = .str x := hx.1
  obtain ⟨c, hc, hcs⟩ := ok.h
  have hl := ok.l
  have hlen : x.cps.toList.length < 10000000 := by
    have : x.cps.toList.length = x.length := by simp [Str.length]
    omega
  refine ⟨_, (pss_cons (ps_if (PW.pt (pw_or (pt_not (pt_val (pe_callB (xisi K) (by rfl) T.m_isinstance boot_isinstance (pa_cons (pv 0) (pa_cons (pe_bltn (v := .ty "str") (by rfl) T.m_str (by decide +kernel) rfl) pa_nil))))) (pw_or (pt_not (pt_chain op_lt op_le pe_int (pe_callB (call_len_str) (by rfl) T.m_len PySem.boot_len (pa_cons (pv 0) pa_nil)) pe_int)) (pw_or1 (pt_cmpR op_notInS (pe_ix ix_str (pv 0) pe_int (fun _ _ => rfl)) (pe_glob (v := .str smallS) (by rfl) hSm ⟨_, rfl⟩) (by rfl)))))) (pss_one (ps_ret pe_bl)) pss_nil) (pss_one (ps_ret (pe_callB (xall K) (by rfl) T.m_all boot_all (pa_cons (pe_lc (own := [("sign", 1)]) (g := gName 1) rfl sc_is_name.nd (pi_str (pv 0)) (blkOk_by (own := [("sign", 1)]) (N := N_is_name) (by kernel_rfl)) (fun _ _ _ _ _ => pg_name (i := 1) sc_is_name.nd rfl (by first | exact Or.inl rfl | exact Or.inr rfl)) (fun _ _ _ _ _ => pts_nil) (fun _ _ _ _ _ => (pe_cmpR op_inS (pv 1) (pe_op op_add_str (pe_glob (v := .str smallS) (by rfl) hSm ⟨_, rfl⟩) (pe_glob (v := .str figS) (by rfl) hFi ⟨_, rfl⟩)) (by rfl)))) pa_nil))))), ?_⟩
  refine q_no eG (et_is (et_or (a := false) (b := false) (et_is (et_not (et_val (ev_isStr (o := some x) (er_var rfl hx)))) rfl) fun _ => et_or (a := false) (b := false) (et_is (et_not (et_chain (f := fun i j => decide (i < j)) (g := fun i j => decide (i ≤ j)) ev_c (ev_lenS (Nat.le_trans hl (by decide)) (ev_var rfl)) ev_c)) (by have := ok.p; simp; omega)) fun _ => et_is (et_cmp (ev_ninCh (ev_ixS (Nat.le_trans hl (by decide)) hc (ev_var rfl) ev_c) ev_c)) (by rw [decide_eq_true hcs]; rfl)) rfl) fun H1 g1 => ?_
  refine sv_ret g1.kn (ev_is (ev_allN (R := rCh) (xs := x.cps.toList) (fun c => decide (c ∈ (smallS ++ figS).cps.toList)) (ew_str (ev_var rfl)) hlen (fun _ => rfl) fun c _ v G2 e1 r => ev_inCh (ev_var (by rw [show v = _ from r]; rfl)) fun H e Q q => ⟨smallS, figS, rfl, rfl, by decide +kernel, q H (Gr.refl e)⟩) (by congr 1; exact List.all_eq_true.mpr fun c hc => decide_eq_true (ok.a c hc))) fun H2 g2 => q _ G H2 (g1.trans g2) rfl
end
end Ob
set_option maxRecDepth 100000
set_option maxHeartbeats 4000000
/-! Kf2: as_tuples of a text, checked_statements. -/
namespace Ob
open PySem PySem.Spec PyProof.Rows L2
section
variable {P : Program} {w : World} {K : PySem.W.Frag} {mg : Str → Option Value} {base : Heap} {cL cS cH : Addr}
abbrev N_as_tuples : List Str := ["thing", "part"]
theorem sc_as_tuples : FnScope N_as_tuples ["thing"] (defScope s_as_tuples) := ⟨rfl, rfl, rfl, by decide +kernel, rfl, by decide +kernel, by decide +kernel⟩
def spAsT0 (K : PySem.W.Frag) : Sp := SpG K (ι := Str) (fun i vs G => vs = [.str i]) (fun i _ v _ => v = .str i)
theorem cal_as_tuples0 (T : Txt K mg) : Cal P w K mg base CX0 2 "as_tuples" ["thing"] (spAsT0 K) := by
  refine cal_mk T.g_as_tuples sc_as_tuples (fun _ _ _ _ _ _ us hl => match us, hl with | [_], _ => rfl) (spg_len fun i vs G e => by rw [e]; rfl) (fun f cdv A outer s H vs Q E hr h => ?_)
  obtain ⟨x, G, eG, rfl, q⟩ := h
  refine ⟨_, (pss_one (ps_ret (pe_ifExp (pt_val (pe_cal (cal_is_list T) (hr.mono (by decide)) (by rfl) pass0 (pa_cons (pv 0) pa_nil))) (pe_no) (pv 0)))), ?_⟩
  refine sv_ret eG (v := .str x) (ev_if (b := false) (et_val (ev_call .odd (eb_a1 (R := rTg K) (x := .odd) (er_var rfl (show oddT _ _ from .inr (.inr (.inr (.inl ⟨x, rfl⟩)))))) (fun vs G2 _ h => h) (fun _ _ _ p => p))) (fun z => by cases z) fun _ => ev_var rfl) fun H2 g => q _ G H2 g rfl

abbrev N_checked_statements : List Str := ["statements", "index", "thing"]
theorem sc_checked_statements : FnScope N_checked_statements ["statements"] (defScope s_checked_statements) := ⟨rfl, rfl, rfl, by decide +kernel, rfl, by decide +kernel, by decide +kernel⟩
def spCkSt (K : PySem.W.Frag) : Sp := SpG K (ι := Lot) (fun i vs G => A1 (rQ K rS) i vs G ∧ i.length ≤ 1000 ∧ i.Nodup ∧ ∀ x ∈ i, NameOk x) (fun i _ v G2 => rL K rS (so eS i) v G2)
theorem rQ_el2 {K : PySem.W.Frag} {xs : Lot} {v : V} {H : Hp} (h : rQ K rS xs v H) : rQ K rEl (xs.map some) v H := h.imp (fun ⟨a, vs, h1, h2, h3⟩ => ⟨a, vs, h1, h2, allR_el2 h3⟩) fun ⟨a, vs, h1, h2, h3⟩ => ⟨a, vs, h1, h2, allR_el2 h3⟩
theorem cal_checked_statements (T : Txt K mg) (Nm : Small mg) : Cal P w K mg base CX0 2 "checked_statements" ["statements"] (spCkSt K) := by
  refine cal_mk T.g_checked_statements sc_checked_statements (fun _ _ _ _ _ _ us hl => match us, hl with | [_], _ => rfl) (spg_len fun i vs G ⟨⟨_, e, _⟩, _⟩ => by rw [e]; rfl) (fun f cdv A outer s H vs Q E hr h => ?_)
  obtain ⟨xs, G, eG, ⟨⟨a, rfl, hx⟩, hz, nd, ok⟩, q⟩ := h
  have hx : rQ K rS xs a G := hx
  have hz : xs.length ≤ 1000 := hz
  have nd : xs.Nodup := nd
  have ok : ∀ x ∈ xs, NameOk x := ok
  refine ⟨_, (pss_cons (ps_if (pt_not (pt_val (pe_cal (cal_is_list T) (hr.mono (by decide)) (by rfl) pass0 (pa_cons (pv 0) pa_nil)))) (pss_one ps_never) pss_nil) (pss_cons (ps_for (g := gTup K 2 (gCons (gName 1) (gCons (gName 2) gNil))) (passes_of rfl) rfl (pi_enQ K (by rfl) T.m_enumerate (pa_cons (pv 0) pa_nil)) (xgtup K (pgs_cons (pg_name (i := 1) sc_checked_statements.nd rfl (by first | exact Or.inl rfl | exact Or.inr rfl)) (pgs_cons (pg_name (i := 2) sc_checked_statements.nd rfl (by first | exact Or.inl rfl | exact Or.inr rfl)) pgs_nil))) (pss_one (ps_if (PW.pt (pw_or (pt_not (pt_val (pe_cal (cal_is_name T Nm) (hr.mono (by decide)) (by rfl) pass0 (pa_cons (pv 2) pa_nil)))) (pw_or1 (pt_cmpR (xin K) (pv 2) (PE.or (pe_slice (xslL K) (pv 0) po_none (po_some (pv 1))) (pe_slice (xslT K) (pv 0) po_none (po_some (pv 1)))) (by rfl))))) (pss_one ps_never) pss_nil))) (pss_one (ps_ret (pe_callB (xsort K rS hr.units) (by rfl) T.m_sorted boot_sorted (pa_cons (pv 0) pa_nil)))))), ?_⟩
  refine q_no eG (et_is (et_not (et_val (ev_call (.seq (xs.map some)) (eb_a1 (R := rTg K) (x := .seq (xs.map some)) (er_var rfl (show rQ K rEl (xs.map some) a G from rQ_el2 hx))) (fun vs G2 _ h => h) (fun _ _ _ p => p)))) rfl) fun H1 g1 => ?_
  refine q_for (R := rP K rI rS) (xs := enumL xs) g1.kn (ew_enQ (er_varQ rfl hx)) (fun i σ' G' H' => (∃ x y, σ' = [some a, x, y]) ∧ Gr K G H G' H') (fun G2 H2 g2 => ⟨⟨_, _, rfl⟩, g1.trans g2⟩) ?_ ?_
  · rintro i p v σ' G' H' G2 H2 ep ⟨⟨x', y', rfl⟩, gg⟩ _ _ g2 rp
    obtain ⟨ei, ee⟩ := enumL_inv ep
    obtain ⟨p1, el⟩ := p
    obtain rfl : p1 = (i : Int) := ei
    have ee : xs[i]? = some el := ee
    obtain ⟨t, u, z, rfl, h1, h2, h3⟩ := rp
    obtain rfl : u = .int (i : Int) := h2
    have h3 : rS el z G2 := h3
    obtain rfl : z = .str el := h3.1
    have gA := gg.trans g2
    have hil : i < xs.length := (List.getElem?_eq_some_iff.mp ee).1
    refine tg_tup2 (P := fun σ2 => σ2 = [some a, some (.int (i : Int)), some (.str el)]) (ex_t g2.kh h1) rfl _ fun σ2 hσ => ?_
    subst hσ
    have hx2 := Mo.mo (R := rQ K rS) gA.kk hx
    have nin : decide (el ∈ xs.take i) = false := decide_eq_false fun z => by
      obtain ⟨k, hk, e⟩ := List.mem_iff_getElem.mp z
      rw [List.length_take] at hk
      rw [List.getElem_take] at e
      have e2 : xs[i] = el := by rw [List.getElem?_eq_getElem hil] at ee; exact Option.some.inj ee
      exact List.pairwise_iff_getElem.mp nd k i (by omega) hil (by omega) (e.trans e2.symm)
    refine s_if gA.kn (et_or (a := false) (b := false) (et_is (et_not (et_val (ev_call el (eb_a1 (R := rS) (er_var rfl h3)) (fun vs G2 _ h => ⟨h, ok el (List.mem_of_getElem? ee)⟩) (fun _ _ _ p => p)))) rfl) fun _ => et_is (et_cmp (ev_inpre (els := xs.map some) (n := i) (xs := xs.take i) (er_varQ rfl (rQ_el2 hx2)) (by rw [List.length_map]; exact hil) (List.map_take ..).symm (ev_var rfl) (ev_var rfl))) nin) (fun z => by cases z) fun _ H3 g3 => ?_
    exact ⟨G2, g2.kk, g3.kn, ⟨_, _, rfl⟩, gA.trans g3⟩
  · rintro σ' G' H' ⟨⟨x', y', rfl⟩, gg⟩ _ _
    exact sr_ret gg.kn (EvN.l (en_sortQ (R := rS) (ok_str (Nat.le_trans hz (by decide))) (er_var rfl (Mo.mo gg.kk hx)))) fun v G2 H2 g2 r2 => q v G2 H2 (gg.trans g2) r2
end
end Ob
set_option maxRecDepth 100000
set_option maxHeartbeats 4000000
/-! Kf3: as_tuples of a pair, is_pair_of, checked_objections. -/
namespace Ob
open PySem PySem.Spec PyProof.Rows L2
def rTupOf (K : PySem.W.Frag) : List V → Hp → VK → Prop := fun xs H Q => ∃ p ys, xs = [.ref p] ∧ ((SqL K H p ys ∧ ∀ l, H l = none → Q (.ref l) (upd H l (.tup ys))) ∨ (SqT K H p ys ∧ Q (.ref p) H))
theorem xtupof (K : PySem.W.Frag) {X : Cx} (h : X.K = K := by rfl) : CallR X (.type "tuple") (rTupOf K) := by subst h; exact call_tuple_of
/-- a pair, given as a list or a tuple -/
def rPrQ (K : PySem.W.Frag) : Rp Pr := fun p v H => rQ K rS [p.1, p.2] v H
instance {K : PySem.W.Frag} : Mo (rPrQ K) := ⟨fun {p v H H'} e h => Mo.mo (R := rQ K rS) e h⟩
instance : Mo rPd := ⟨fun e ⟨a, h1, h2, h3⟩ => ⟨a, h1, e.t h2, h3⟩⟩
theorem rPrQ.ok {K : PySem.W.Frag} {p : Pr} {v : V} {H : Hp} (h : rPrQ K p v H) : PyData.strOk p.1 = true ∧ PyData.strOk p.2 = true := by
  rcases h with ⟨a, vs, _, _, h⟩ | ⟨a, vs, _, _, h⟩ <;> exact ⟨allR_ok h _ (by simp), allR_ok h _ (by simp)⟩
section
variable {K : PySem.W.Frag} {σ : L2.St} {G H : Hp} {te : TE} {α : Type} {R : Rp α}
/-- tuple(a list) -/
theorem er_tupof {xs : List α} [Mo R] (h : EvN K te σ G (AllR R xs)) : EvR K (tCB (rTupOf K) (tCons te tNil)) σ G (fun v G2 => ∃ p vs, v = .ref p ∧ G2 p = some (.tup vs) ∧ AllR R xs vs G2) := fun H e Q q =>
  h H e _ fun p vs G2 H2 hp hg g hl r => ⟨p, vs, rfl, .inl ⟨SqL.of hl, fun l hn => q (.ref l) (upd G2 l (.tup vs)) _ (g.trans (Gr.new g.kn hn)) ⟨l, vs, rfl, upd_same, r.mono (Ex.new (g.kh.no _ hn))⟩⟩⟩
theorem ev_lenQ {i : Nat} {xs : List α} {v : V} (h : σ[i]? = some (some v)) (r : rQ K R xs v G) [Mo R] : Ev K (tCB (Evl.rLenS K) (tCons (tVar i) tNil)) σ G (.int (xs.length : Int)) :=
  ev_cb1 (er_var (R := rQ K R xs) h r) fun x G2 _ r H2 e2 Q q => by
    rcases r with ⟨a, vs, e1, h1, h2⟩ | ⟨a, vs, e1, h1, h2⟩
    · exact ⟨a, vs, by rw [e1], .inl (ex_l e2.ex h1), by rw [← h2.length]; exact q⟩
    · exact ⟨a, vs, by rw [e1], .inr (ex_t e2.ex h1), by rw [← h2.length]; exact q⟩
end
section
variable {P : Program} {w : World} {K : PySem.W.Frag} {mg : Str → Option Value} {base : Heap} {cL cS cH : Addr}
def spAsT (K : PySem.W.Frag) : Sp := SpG K (ι := Pr) (fun i vs G => A1 (rPrQ K) i vs G) (fun i _ v G2 => rPd i v G2)
theorem cal_as_tuples (T : Txt K mg) : Cal P w K mg base CX0 3 "as_tuples" ["thing"] (spAsT K) := by
  refine cal_mk T.g_as_tuples sc_as_tuples (fun _ _ _ _ _ _ us hl => match us, hl with | [_], _ => rfl) (spg_len fun i vs G ⟨_, e, _⟩ => by rw [e]; rfl) (fun f cdv A outer s H vs Q E hr h => ?_)
  obtain ⟨p, G, eG, ⟨a, rfl, hp⟩, q⟩ := h
  have hp : rPrQ K p a G := hp
  have hok := hp.ok
  have hp2 : rQ K rS [p.1, p.2] a G := hp
  refine ⟨_, (pss_one (ps_ret (pe_ifExp (pt_val (pe_cal (cal_is_list T) (hr.mono (by decide)) (by rfl) pass0 (pa_cons (pv 0) pa_nil))) (pe_callTy (xtupof K) (by rfl) T.m_tuple (by decide +kernel) (pa_cons (pe_lc (own := [("part", 1)]) (g := gName 1) rfl sc_as_tuples.nd (PI.or (xlist K (pv 0)) (xtup K (pv 0))) (blkOk_by (own := [("part", 1)]) (N := N_as_tuples) (by kernel_rfl)) (fun _ _ _ _ _ => pg_name (i := 1) sc_as_tuples.nd rfl (by first | exact Or.inl rfl | exact Or.inr rfl)) (fun _ _ _ _ _ => pts_nil) (fun _ _ _ _ _ => (pe_cal (cal_as_tuples0 T) (hr.mono (by decide)) (by rfl) pass0 (pa_cons (pv 1) pa_nil)))) pa_nil)) (pv 0)))), ?_⟩
  refine sr_ret (R := rPd p) eG (er_if (b := true) (et_val (ev_call (.seq ([p.1, p.2].map some)) (eb_a1 (R := rTg K) (x := .seq ([p.1, p.2].map some)) (er_var rfl (show rQ K rEl ([p.1, p.2].map some) a G from rQ_el2 hp2))) (fun vs G2 _ h => h) (fun _ _ _ p => p))) (fun _ => (er_tupof (en_lcN (R := rS) (S := rS) (fun _ => true) (fun x => x) (ew_listQ (er_varQ rfl hp2)) (show (2 : Nat) < 10000000 by decide) (fun _ => rfl) fun x _ v G2 e1 r => ⟨et_yes, fun _ => er_of (ev_call x (eb_one (R := fun v _ => v = .str x) (er_var rfl r.1)) (fun vs G2 _ ⟨v, e, ev⟩ => by rw [e, ev]) (fun _ _ _ p => p)) ⟨rfl, r.2⟩⟩)).imp fun v G2 _ ⟨b, vs, e1, h1, h2⟩ => ?_) fun z => by cases z) fun v G2 H2 g r => q v G2 H2 g r
  rw [List.filter_eq_self.mpr fun _ _ => rfl, List.map_id'] at h2
  have e2 := allR_str h2
  subst e2
  exact ⟨b, e1, h1, hok.1, hok.2⟩

abbrev N_is_pair_of : List Str := ["thing", "statements", "one"]
theorem sc_is_pair_of : FnScope N_is_pair_of ["thing", "statements"] (defScope s_is_pair_of) := ⟨rfl, rfl, rfl, by decide +kernel, rfl, by decide +kernel, by decide +kernel⟩
def spIsPair (K : PySem.W.Frag) : Sp := SpG K (ι := Pr × Lot) (fun i vs G => A2 (rPrQ K) (rL K rS) i.1 i.2 vs G ∧ i.1.1 ∈ i.2 ∧ i.1.2 ∈ i.2) (fun i _ v _ => v = .bl true)
theorem cal_is_pair_of (T : Txt K mg) : Cal P w K mg base CX0 2 "is_pair_of" ["thing", "statements"] (spIsPair K) := by
  refine cal_mk T.g_is_pair_of sc_is_pair_of (fun _ _ _ _ _ _ us hl => match us, hl with | [_, _], _ => rfl) (spg_len fun i vs G ⟨⟨_, _, e, _⟩, _⟩ => by rw [e]; rfl) (fun f cdv A outer s H vs Q E hr h => ?_)
  obtain ⟨⟨p, S⟩, G, eG, ⟨⟨a, b, rfl, hp, hs⟩, h1, h2⟩, q⟩ := h
  have hp2 : rQ K rS [p.1, p.2] a G := hp
  have hs : rL K rS S b G := hs
  have h1 : p.1 ∈ S := h1
  have h2 : p.2 ∈ S := h2
  refine ⟨_, (pss_one (ps_ret (pe_and (pe_cal (cal_is_list T) (hr.mono (by decide)) (by rfl) pass0 (pa_cons (pv 0) pa_nil)) (pe_and (pe_cmpR op_eq (pe_callB (xlen K) (by rfl) T.m_len PySem.boot_len (pa_cons (pv 0) pa_nil)) pe_int (nomark _)) (pe_one (pe_callB (xall K) (by rfl) T.m_all boot_all (pa_cons (pe_lc (own := [("one", 2)]) (g := gName 2) rfl sc_is_pair_of.nd (PI.or (xlist K (pv 0)) (xtup K (pv 0))) (blkOk_by (own := [("one", 2)]) (N := N_is_pair_of) (by kernel_rfl)) (fun _ _ _ _ _ => pg_name (i := 2) sc_is_pair_of.nd rfl (by first | exact Or.inl rfl | exact Or.inr rfl)) (fun _ _ _ _ _ => pts_nil) (fun _ _ _ _ _ => (pe_and (pe_callB (xisi K) (by rfl) T.m_isinstance boot_isinstance (pa_cons (pv 2) (pa_cons (pe_bltn (v := .ty "str") (by rfl) T.m_str (by decide +kernel) rfl) pa_nil))) (pe_one (pe_cmpR (xin K) (pv 2) (pv 1) (by rfl)))))) pa_nil))))))), ?_⟩
  refine sv_ret (v := .bl (true && (true && [p.1, p.2].all fun x => (true && decide (x ∈ S))))) eG (ev_and (a := true) (ev_call (.seq ([p.1, p.2].map some)) (eb_a1 (R := rTg K) (x := .seq ([p.1, p.2].map some)) (er_var rfl (show rQ K rEl ([p.1, p.2].map some) a G from rQ_el2 hp2))) (fun vs G2 _ h => h) (fun _ _ _ p => p)) fun _ => ev_and (a := true) (ev_is (ev_eqi (x := 2) (y := 2) (ev_lenQ (xs := [p.1, p.2]) rfl hp2) ev_c) rfl) fun _ => ev_allN (R := rS) (fun x => (true && decide (x ∈ S))) (ew_listQ (er_varQ rfl hp2)) (show (2 : Nat) < 10000000 by decide) (fun _ => rfl) fun x _ v G2 e1 r => ev_and (a := true) (ev_isStr (o := some x) (er_var rfl r)) fun _ => ev_ins (ev_strv r rfl) (er_var rfl (Mo.mo e1 hs))) fun H2 g => q _ G H2 g ?_
  simp [h1, h2]
end
end Ob
set_option maxRecDepth 100000
set_option maxHeartbeats 4000000
/-! Kf4: checked_objections. -/
namespace Ob
open PySem PySem.Spec PyProof.Rows L2
section
variable {K : PySem.W.Frag} {G H G0 H0 G2 H2 : Hp} {p : Addr} {o : HO}
theorem Gr.mutT {kvs : List (List Key × V)} (g : Gr K G H G2 H2) (h1 : G2 p = none) (h2 : H p = none) (h3 : H2 p = some (.dT kvs)) : Gr K G H G2 (upd H2 p o) :=
  ⟨g.kk, ⟨g.kh.mut h1, tb_mut g.kn.tb (fun ps z => by rw [h3] at z; cases z) fun q z => by rw [h3] at z; unfold LamX.CodeO at z; cases z⟩, g.hh.mut h2, g.sp⟩
/-- all tuples are known -/
def tupAll (G H : Hp) : Hp := fun b => match G b with
  | some o => some o
  | none => match H b with
    | some (.tup xs) => some (.tup xs)
    | _ => none
theorem tupAll_l {b : Addr} {o : HO} (h : G b = some o) : tupAll G H b = some o := by unfold tupAll; rw [h]
theorem tupAll_t {b : Addr} {xs : List V} (e : Ex G H) (h : H b = some (.tup xs)) : tupAll G H b = some (.tup xs) := by
  cases q : G b with
  | none => unfold tupAll; rw [q, h]
  | some o =>
    rw [tupAll_l q]
    by_cases t : ∃ ps, o = .tbl ps
    · obtain ⟨ps, rfl⟩ := t
      obtain ⟨qs, h3⟩ := e.tt b ps q
      rw [h] at h3; cases h3
    · rw [← h, e.ob b o q fun ps z => t ⟨ps, z⟩]
theorem tupAll_r {b : Addr} {o : HO} (q : G b = none) (h : tupAll G H b = some o) : H b = some o ∧ ∃ xs, o = .tup xs := by
  unfold tupAll at h
  rw [q] at h
  cases r : H b with
  | none => rw [r] at h; cases h
  | some u =>
    rw [r] at h
    cases u with
    | tup xs => cases h; exact ⟨rfl, xs, rfl⟩
    | _ => cases h
theorem Gr.tups (g : Gr K G0 H0 G H) : Gr K G0 H0 (tupAll G H) H ∧ Ex G (tupAll G H) := by
  have e1 : Ex G (tupAll G H) := ⟨fun b o h _ => tupAll_l h, fun b ps h => ⟨ps, tupAll_l h⟩, fun b h => by
    cases q : G b with
    | none => rfl
    | some o => rw [tupAll_l q] at h; cases h⟩
  have e2 : Ex (tupAll G H) H := ⟨fun b o h n => by
    cases q : G b with
    | none => exact (tupAll_r q h).1
    | some u =>
      rw [tupAll_l q] at h
      have e3 := Option.some.inj h
      subst e3
      exact g.kh.ob b u q n, fun b ps h => by
    cases q : G b with
    | none => obtain ⟨_, xs, z⟩ := tupAll_r q h; cases z
    | some u =>
      rw [tupAll_l q] at h
      have e3 := Option.some.inj h
      subst e3
      exact g.kh.tt b ps q, fun b h => by
    have q := g.kh.no b h
    unfold tupAll
    rw [q, h]⟩
  refine ⟨⟨g.kk.trans e1, ⟨e2, g.kn.tb⟩, g.hh, fun b h1 h2 => ?_⟩, e1⟩
  have q := g.sp b h1 h2
  obtain ⟨o, h3, h4⟩ := h2.up g.hh
  unfold tupAll
  rw [q, h3]
  cases o with
  | tup xs => exact absurd rfl (h4 xs)
  | _ => rfl
end
abbrev kvT (ps : List Pr) : List (List Key × V) := ps.map fun p => (kPair p, V.bl true)
theorem kPair_inj {p q : Pr} (h : kPair p = kPair q) : p = q := by
  unfold kPair at h
  simp only [List.cons.injEq, Sum.inr.injEq, and_true] at h
  exact Prod.ext h.1 h.2
theorem val_kvT {p : Pr} : ∀ {ps : List Pr}, p ∉ ps → valV (kvT ps) (kPair p) = none
  | [], _ => rfl
  | q :: ps, h => by
    have h1 : ¬ kPair q = kPair p := fun z => h (by rw [kPair_inj z]; exact List.mem_cons_self ..)
    rw [show kvT (q :: ps) = (kPair q, V.bl true) :: kvT ps from rfl, valV_neg h1]
    exact val_kvT fun z => h (List.mem_cons_of_mem _ z)
theorem put_kvT {p : Pr} {ps : List Pr} (h : p ∉ ps) : putK (kvT ps) (kPair p) (.bl true) = kvT (ps ++ [p]) := by
  unfold putK
  rw [valV_any, val_kvT h]
  simp [kvT]
theorem tyOf_mono {K : PySem.W.Frag} {v : V} {t : Value} {H H' : Hp} (e : Ex H H') (h : TyOf K H v t) : TyOf K H' v t := by
  cases h with
  | non => exact .non
  | bl x => exact .bl x
  | int i => exact .int i
  | str x => exact .str x
  | flt x => exact .flt x
  | lst h => exact .lst (e.l h)
  | frz h => exact .frz (e.f h)
  | tup h => exact .tup (e.t h)
  | dK h => exact .dK (e.d h)
  | dT h => exact .dT (e.dt h)
  | ins h a b c d f => exact .ins (e.i h) a b c d f
theorem tyX_mono {K : PySem.W.Frag} {v : V} {t : Value} {H H' : Hp} (e : Ex H H') (h : TyX K H v t) : TyX K H' v t := by
  cases h with
  | base h => exact .base (tyOf_mono e h)
  | byt b => exact .byt b
  | set h => exact .set (e.ob _ _ h fun _ z => by cases z)
  | kList h c => exact .kList h c
  | kTuple h c => exact .kTuple h c
  | kDict h c => exact .kDict h c
  | fTuple h => exact .fTuple (e.f h)
  | fDict h => exact .fDict (e.f h)
/-- a list or a tuple (or not) -/
def rKind (K : PySem.W.Frag) : Rp Bool := fun b v H => ∃ t, TyX K H v (.type t) ∧ kitLT t = some b
instance {K : PySem.W.Frag} : Mo (rKind K) := ⟨fun e ⟨t, h1, h2⟩ => ⟨t, tyX_mono e h1, h2⟩⟩
theorem rQ.kind {α : Type} {K : PySem.W.Frag} {R : Rp α} {xs : List α} {v : V} {H : Hp} (h : rQ K R xs v H) : rKind K true v H := by
  rcases h with ⟨a, vs, rfl, h, _⟩ | ⟨a, vs, rfl, h, _⟩
  · exact ⟨_, ty_sqL h, (by decide +kernel : kitLT "list" = some true)⟩
  · exact ⟨_, ty_sqT h, (by decide +kernel : kitLT "tuple" = some true)⟩
theorem ev_isKind {K : PySem.W.Frag} {σ : L2.St} {G : Hp} {te : TE} {x : Bool} (h : EvP K te σ G (rKind K) x) : Ev K (tCB (rIsiT K) (tCons te (tCons (tTup (tCons (tC (.ty "list")) (tCons (tC (.ty "tuple")) tNil))) tNil))) σ G (.bl x) := fun H e Q q =>
  h H e _ fun v G2 H2 g r => by
    refine ⟨(by decide : 2 ≤ sizeLine), fun p hp => ?_⟩
    have e2 : Ex H2 (upd H2 p (.tup [.ty "list", .ty "tuple"])) := Ex.new hp
    obtain ⟨t, ty, k⟩ := Mo.mo (R := rKind K) (g.kh.trans e2) r
    exact ⟨v, p, [.ty "list", .ty "tuple"], .type t, [.type "list", .type "tuple"], x, rfl, upd_same, .cons (.ty _) (.cons (.ty _) .nil), ty, kitLT_ok k, q _ (Gr.skip e (g.hh.trans e2) (tb_new g.kn.tb hp))⟩
section
variable {P : Program} {w : World} {K : PySem.W.Frag} {mg : Str → Option Value} {base : Heap} {cL cS cH : Addr}
def spIsListK (K : PySem.W.Frag) : Sp := SpG K (ι := Bool) (fun i vs G => A1 (rKind K) i vs G) (fun i _ v _ => v = .bl i)
theorem cal_is_listK (T : Txt K mg) : Cal P w K mg base CX0 1 "is_list" ["thing"] (spIsListK K) := by
  refine cal_mk T.g_is_list sc_is_list (fun _ _ _ _ _ _ us hl => match us, hl with | [_], _ => rfl) (spg_len fun i vs G ⟨_, e, _⟩ => by rw [e]; rfl) (fun f cdv A outer s H vs Q E hr h => ?_)
  obtain ⟨x, G, eG, ⟨a, rfl, hx⟩, q⟩ := h
  refine ⟨_, (pss_one (ps_ret (pe_callB (xisiT K) (by rfl) T.m_isinstance boot_isinstance (pa_cons (pv 0) (pa_cons (pe_tup (pa_cons (pe_bltn (v := .ty "list") (by rfl) T.m_list (by decide +kernel) rfl) (pa_cons (pe_bltn (v := .ty "tuple") (by rfl) T.m_tuple (by decide +kernel) rfl) pa_nil))) pa_nil))))), ?_⟩
  exact sv_ret eG (ev_isKind (er_var rfl hx)) fun H2 g => q _ G H2 g rfl
abbrev N_checked_objections : List Str := ["objections", "statements", "known", "index", "thing"]
theorem sc_checked_objections : FnScope N_checked_objections ["objections", "statements"] (defScope s_checked_objections) := ⟨rfl, rfl, rfl, by decide +kernel, rfl, by decide +kernel, by decide +kernel⟩
def spCkOb (K : PySem.W.Frag) : Sp := SpG K (ι := List Pr × Lot) (fun i vs G => A2 (rQ K (rPrQ K)) (rL K rS) i.1 i.2 vs G ∧ i.1.length ≤ 1000 ∧ i.1.Nodup ∧ ∀ p ∈ i.1, p.1 ∈ i.2 ∧ p.2 ∈ i.2) (fun i _ v G2 => rPs K (so ePP i.1) v G2)
theorem cal_checked_objections (T : Txt K mg) : Cal P w K mg base CX0 5 "checked_objections" ["objections", "statements"] (spCkOb K) := by
  refine cal_mk T.g_checked_objections sc_checked_objections (fun _ _ _ _ _ _ us hl => match us, hl with | [_, _], _ => rfl) (spg_len fun i vs G ⟨⟨_, _, e, _⟩, _⟩ => by rw [e]; rfl) (fun f cdv A outer s H vs Q E hr h => ?_)
  obtain ⟨⟨ps, S⟩, G, eG, ⟨⟨a, b, rfl, hp, hs⟩, hz, nd, hin⟩, q⟩ := h
  have hp : rQ K (rPrQ K) ps a G := hp
  have hs : rL K rS S b G := hs
  have hz : ps.length ≤ 1000 := hz
  have nd : ps.Nodup := nd
  have hin : ∀ p ∈ ps, p.1 ∈ S ∧ p.2 ∈ S := hin
  refine ⟨_, (pss_cons (ps_if (pt_not (pt_val (pe_cal (cal_is_listK T) (hr.mono (by decide)) (by rfl) pass0 (pa_cons (pv 0) pa_nil)))) (pss_one ps_never) pss_nil) (pss_cons (ps_set (i := 2) sc_checked_objections.nd rfl (by first | exact Or.inl rfl | exact Or.inr rfl) (pe_dnewT)) (pss_cons (ps_for (g := gTup K 2 (gCons (gName 3) (gCons (gName 4) gNil))) (passes_of rfl) rfl (pi_enQ K (by rfl) T.m_enumerate (pa_cons (pv 0) pa_nil)) (xgtup K (pgs_cons (pg_name (i := 3) sc_checked_objections.nd rfl (by first | exact Or.inl rfl | exact Or.inr rfl)) (pgs_cons (pg_name (i := 4) sc_checked_objections.nd rfl (by first | exact Or.inl rfl | exact Or.inr rfl)) pgs_nil))) (pss_cons (ps_if (PW.pt (pw_or (pt_not (pt_val (pe_cal (cal_is_pair_of T) (hr.mono (by decide)) (by rfl) pass0 (pa_cons (pv 4) (pa_cons (pv 1) pa_nil))))) (pw_or1 (pt_cmp (pc_din (hu_of hr) (pe_cal (cal_as_tuples T) (hr.mono (by decide)) (by rfl) pass0 (pa_cons (pv 4) pa_nil)) (pv 2)))))) (pss_one ps_never) pss_nil) (pss_one (ps_dput (hu_of hr) (pv 2) (pe_cal (cal_as_tuples T) (hr.mono (by decide)) (by rfl) pass0 (pa_cons (pv 4) pa_nil)) pe_bl (by rfl))))) (pss_one (ps_ret (pe_callB (xsortT K hr.units) (by rfl) T.m_sorted boot_sorted (pa_cons (pv 2) pa_nil))))))), ?_⟩
  refine q_no eG (et_is (et_not (et_val (ev_call true (eb_a1 (R := rKind K) (er_var rfl hp.kind)) (fun vs G2 _ h => h) (fun _ _ _ p => p)))) rfl) fun H1 g1 => ?_
  change ∀ p, H1 p = none → _
  intro p hpn
  have g2 : Gr K G H G (upd H1 p (.dT [])) := g1.trans (Gr.skip g1.kn (Ex.new hpn) (tb_new g1.kn.tb hpn))
  have hH : H p = none := g1.hh.no _ hpn
  have hG : G p = none := eG.ex.no _ hH
  refine q_for (R := rP K rI (rPrQ K)) (xs := enumL ps) g2.kn (ew_enQ (er_varQ rfl hp)) (fun i σ' G' H' => (∃ x y, σ' = [some a, some b, some (.ref p), x, y]) ∧ Gr K G H G' H' ∧ G' p = none ∧ H' p = some (.dT (kvT (ps.take i)))) (fun G3 H3 g3 => ⟨⟨_, _, rfl⟩, g2.trans g3, g3.sp p hG (hidden upd_same), g3.hh.dt upd_same⟩) ?_ ?_
  · rintro i e v σ' G' H' G2 H2 ep ⟨⟨x', y', rfl⟩, gg, hgp, hl⟩ _ _ g2 rp
    obtain ⟨ei, ee⟩ := enumL_inv ep
    obtain ⟨p1, el⟩ := e
    obtain rfl : p1 = (i : Int) := ei
    have ee : ps[i]? = some el := ee
    obtain ⟨t, u, z, rfl, h1, h2, h3⟩ := rp
    obtain rfl : u = .int (i : Int) := h2
    have h3 : rPrQ K el z G2 := h3
    have gA := gg.trans g2
    have hil : i < ps.length := (List.getElem?_eq_some_iff.mp ee).1
    have em := List.mem_of_getElem? ee
    have nin : el ∉ ps.take i := fun z => by
      obtain ⟨k, hk, e⟩ := List.mem_iff_getElem.mp z
      rw [List.length_take] at hk
      rw [List.getElem_take] at e
      have e2 : ps[i] = el := by rw [List.getElem?_eq_getElem hil] at ee; exact Option.some.inj ee
      exact List.pairwise_iff_getElem.mp nd k i (by omega) hil (by omega) (e.trans e2.symm)
    refine tg_tup2 (P := fun σ2 => σ2 = [some a, some b, some (.ref p), some (.int (i : Int)), some z]) (ex_t g2.kh h1) rfl _ fun σ2 hσ => ?_
    subst hσ
    have p2 : G2 p = none := g2.sp p hgp (hidden hl)
    have l2 := g2.hh.dt hl
    have calT : ∀ {E1 σ G3}, Ex G2 G3 → σ[4]? = some (some z) → EvP K (tCall (spAsT K) [] E1 (tCons (tVar 4) tNil)) σ G3 rPd el := fun e hσ => er_post el (eb_a1 (R := rPrQ K) (er_var hσ (Mo.mo e h3))) (fun vs G2 _ h => h) fun _ _ _ _ p => p
    refine q_no (D := _) (kn_plusO gA.kn l2) (et_or (a := false) (b := false) (et_is (et_not (et_val (ev_call (el, S) (eb_a2 (R := rPrQ K) (S := rL K rS) (er_var rfl (Mo.mo (Ex.new p2) h3)) (er_var rfl (Mo.mo (gA.kk.trans (Ex.new p2)) hs))) (fun vs G2 _ h => ⟨h, (hin el em).1, (hin el em).2⟩) (fun _ _ _ p => p)))) rfl) fun _ => et_cmp fun H e Q q => ?_) fun H3 g3 => ?_
    · refine calT (Ex.new p2) rfl H e _ fun v G4 H4 g4 ⟨k, e1, hk, _⟩ => ⟨.ref p, rfl, p, none, rfl, ?_, q H4 (Gr.skip e g4.hh g4.kn.tb)⟩
      rw [e1, ← val_kvT nin]
      exact DGet.t (k := kPair el) (g4.kh.dt (g4.kk.dt upd_same)) (g4.kh.t hk)
    · have gs : Gr K G2 H2 G2 H3 := Gr.skip gA.kn g3.hh g3.kn.tb
      refine ⟨.ref p, rfl, ?_⟩
      refine calT (exr _) rfl H3 gs.kn _ fun v G4 H4 g4 ⟨k, e1, hk, _⟩ => ?_
      have l4 := g4.hh.dt (gs.hh.dt l2)
      have gt : Gr K G2 H2 G2 H4 := Gr.skip gA.kn (gs.hh.trans g4.hh) g4.kn.tb
      refine ⟨p, upd H4 p (.dT (putK (kvT (ps.take i)) (kPair el) (.bl true))), rfl, ?_, ?_⟩
      · rw [e1]
        exact DPut.t (k := kPair el) l4 (g4.kh.t hk) (Nat.lt_of_le_of_lt (by rw [List.length_map, List.length_take]; omega) (by decide : 1000 < sizeLine))
      · have gz := (gA.trans gt).mutT (o := .dT (putK (kvT (ps.take i)) (kPair el) (.bl true))) p2 hH l4
        refine ⟨G2, g2.kk, gz.kn, ⟨_, _, rfl⟩, gz, p2, ?_⟩
        rw [upd_same, put_kvT nin, List.take_add_one, ee]
        rfl
  · rintro σ' G' H' ⟨⟨x', y', rfl⟩, gg, hgp, hl⟩ _ _
    rw [enumL_len, List.take_length] at hl
    have okA : ∀ p ∈ ps, PyData.strOk p.1 = true ∧ PyData.strOk p.2 = true := by
      have key : ∀ (xs : List Pr) (vs : List V), AllR (rPrQ K) xs vs G → ∀ p ∈ xs, PyData.strOk p.1 = true ∧ PyData.strOk p.2 = true := by
        intro xs
        induction xs with
        | nil => intro vs _ p hp; cases hp
        | cons x xs ih =>
          intro vs h p hp
          cases vs with
          | nil => exact h.elim
          | cons v vs =>
            rcases List.mem_cons.mp hp with rfl | hp
            · exact h.1.ok
            · exact ih vs h.2 p hp
      rcases hp with ⟨_, vs, _, _, h⟩ | ⟨_, vs, _, _, h⟩ <;> exact key ps vs h
    refine ⟨.ref p, rfl, p, kvT ps, ps, rfl, hl, by simp [kvT], okA, ok_pp (Nat.le_trans hz (by decide)), fun l ws hl2 hr2 => ?_⟩
    obtain ⟨gt, et⟩ := gg.tups
    have gn := gt.trans (Gr.new (o := .lst ws) gt.kn hl2)
    refine q (.ref l) _ _ gn ⟨l, ws, rfl, SqL.of upd_same, ?_⟩
    have hr3 : AllR rPd (so ePP ps) ws H' := hr2
    have key : AllR (rP K rS rS) (so ePP ps) ws (tupAll G' H') := by
      revert hr3
      generalize so ePP ps = xs
      intro hr3
      clear hl2 gn hr2
      induction xs generalizing ws with
      | nil => cases ws with | nil => trivial | cons _ _ => exact hr3.elim
      | cons x xs ih =>
        cases ws with
        | nil => exact hr3.elim
        | cons w ws =>
          obtain ⟨⟨k, e1, hk, h3, h4⟩, h2⟩ := hr3
          exact ⟨⟨k, _, _, e1, SqT.of (tupAll_t gg.kh hk), ⟨rfl, h3⟩, ⟨rfl, h4⟩⟩, ih ws h2⟩
    exact key.mono (Ex.new (gt.kh.no _ hl2))
end
end Ob
set_option maxRecDepth 100000
set_option maxHeartbeats 4000000
/-! Kf5w: words for a debate that is made: fields stored, dicts of empty lists, all new objects known at the end. -/
namespace Ob
open PySem PySem.Spec PyProof.Rows L2
theorem xsfld (K : PySem.W.Frag) {X : Cx} {o value : Expr} {ta tv : TE} {f : Str} {pos pos' : Pos} (ha : PE X o ta) (hv : PE X value tv) (hs : swapsWith value (some (.Attribute o f pos')) pos.line X.env = pure false := by rfl) (hK : X.K = K := by rfl) : PS X (.Assign [.Attribute o f pos'] value pos) (sFld K ta tv f) := by
  subst hK
  exact ps_fld ha hv hs
section
variable {K : PySem.W.Frag} {G H G0 H0 G2 H2 : Hp} {p : Addr} {o : HO}
theorem Gr.mutI {C dx : Addr} {fs : List (Str × V)} (g : Gr K G H G2 H2) (h1 : G2 p = none) (h2 : H p = none) (h3 : H2 p = some (.ins C dx fs)) : Gr K G H G2 (upd H2 p o) :=
  ⟨g.kk, ⟨g.kh.mut h1, tb_mut g.kn.tb (fun ps z => by rw [h3] at z; cases z) fun q z => by rw [h3] at z; unfold LamX.CodeO at z; cases z⟩, g.hh.mut h2, g.sp⟩
/-- what was none in H0 and stands in H is known -/
def newAll (H0 G H : Hp) : Hp := fun b => match H0 b with
  | none => H b
  | some _ => G b
theorem newAll_n {b : Addr} (h : H0 b = none) : newAll H0 G H b = H b := by unfold newAll; rw [h]
theorem newAll_o {b : Addr} {o : HO} (h : H0 b = some o) : newAll H0 G H b = G b := by unfold newAll; rw [h]
theorem Gr.news (g : Gr K G0 H0 G H) : Gr K G0 H0 (newAll H0 G H) H ∧ (∀ b o, G b = some o → (∀ ps, o ≠ .tbl ps) → newAll H0 G H b = some o) := by
  have e0 : ∀ b o, G b = some o → (∀ ps, o ≠ .tbl ps) → newAll H0 G H b = some o := fun b o h n => by
    cases q : H0 b with
    | none => rw [newAll_n q]; exact g.kh.ob b o h n
    | some u => rw [newAll_o q]; exact h
  refine ⟨⟨⟨fun b o h n => e0 b o (g.kk.ob b o h n) n, fun b ps h => ?_, fun b h => ?_⟩, ⟨⟨fun b o h n => ?_, fun b ps h => ?_, fun b h => ?_⟩, g.kn.tb⟩, g.hh, fun b h1 h2 => ?_⟩, e0⟩
  · obtain ⟨qs, h3⟩ := g.kk.tt b ps h
    cases q : H0 b with
    | none => rw [newAll_n q]; exact g.kh.tt b qs h3
    | some u => rw [newAll_o q]; exact ⟨qs, h3⟩
  · cases q : H0 b with
    | none => rw [newAll_n q] at h; exact g.kk.no b (g.kh.no b h)
    | some u => rw [newAll_o q] at h; exact g.kk.no b h
  · cases q : H0 b with
    | none => rw [newAll_n q] at h; exact h
    | some u => rw [newAll_o q] at h; exact g.kh.ob b o h n
  · cases q : H0 b with
    | none => rw [newAll_n q] at h; exact ⟨ps, h⟩
    | some u => rw [newAll_o q] at h; exact g.kh.tt b ps h
  · cases q : H0 b with
    | none => rw [newAll_n q]; exact h
    | some u => rw [newAll_o q]; exact g.kh.no b h
  · obtain ⟨o, h3, _⟩ := id h2
    rw [newAll_o h3]
    exact g.sp b h1 h2
theorem Ex.news (g : Gr K G0 H0 G H) : Ex G (newAll H0 G H) := ⟨g.news.2, fun b ps h => by
    cases q : H0 b with
    | none => rw [newAll_n q]; exact g.kh.tt b ps h
    | some u => rw [newAll_o q]; exact ⟨ps, h⟩, fun b h => by
    cases q : H0 b with
    | none => rw [newAll_n q] at h; exact g.kh.no b h
    | some u => rw [newAll_o q] at h; exact h⟩
end
/-- a dict D from the texts S to lists of texts, all new since H0 -/
structure Lists (H0 H : Hp) (D : Addr) (S : Lot) (af : Str → Addr) (f : Str → Lot) : Prop where
  d : H D = some (.dK (zipK S (S.map fun x => .ref (af x))))
  l : ∀ x ∈ S, H (af x) = some (.lst ((f x).map V.str))
  dn : H0 D = none
  ln : ∀ x ∈ S, H0 (af x) = none
  inj : ∀ x ∈ S, ∀ y ∈ S, af x = af y → x = y
  ne : ∀ x ∈ S, af x ≠ D
theorem Lists.up {H0 H H2 : Hp} {D : Addr} {S : Lot} {af : Str → Addr} {f : Str → Lot} (h : Lists H0 H D S af f) (e : Ex H H2) : Lists H0 H2 D S af f := ⟨e.d h.d, fun x hx => e.l (h.l x hx), h.dn, h.ln, h.inj, h.ne⟩
theorem Lists.old {H0 H1 H : Hp} {D : Addr} {S : Lot} {af : Str → Addr} {f : Str → Lot} (h : Lists H1 H D S af f) (e : Ex H0 H1) : Lists H0 H D S af f := ⟨h.d, h.l, e.no _ h.dn, fun x hx => e.no _ (h.ln x hx), h.inj, h.ne⟩
theorem zipK_snoc {x : Str} {v : V} : ∀ {xs : Lot} {vs : List V}, xs.length = vs.length → zipK (xs ++ [x]) (vs ++ [v]) = zipK xs vs ++ [(Sum.inr x, v)]
  | [], [], _ => rfl
  | y :: ys, w :: ws, h => by
    show _ :: zipK (ys ++ [x]) (ws ++ [v]) = _ :: (zipK ys ws ++ _)
    rw [zipK_snoc (Nat.succ.inj h)]
  | [], _ :: _, h => by cases h
  | _ :: _, [], h => by cases h
theorem zipK_none {x : Str} : ∀ {xs : Lot} {vs : List V}, xs.length = vs.length → x ∉ xs → valV (zipK xs vs) (Sum.inr x) = none
  | [], [], _, _ => rfl
  | y :: ys, w :: ws, h, n => by
    have h1 : ¬ (Sum.inr y : Key) = Sum.inr x := fun z => n (by rw [Sum.inr.inj z]; exact List.mem_cons_self ..)
    rw [show zipK (y :: ys) (w :: ws) = (Sum.inr y, w) :: zipK ys ws from rfl, valV_neg h1]
    exact zipK_none (Nat.succ.inj h) fun z => n (List.mem_cons_of_mem _ z)
  | [], _ :: _, h, _ => by cases h
  | _ :: _, [], h, _ => by cases h
section
variable {K : PySem.W.Frag} {σ : L2.St} {G H : Hp}
theorem set_get {σ : L2.St} {j : Nat} {ns : List Nat} {x : V} (h : ∀ x : V, ((wipe σ ns).set j (some x))[j]? = some (some x)) : ((wipe σ ns).set j (some x))[j]? = some (some x) := h x
/-- {x: [] for x in S} -/
theorem dcE {J : It} {j : Nat} {ns : List Nat} {S : Lot} {Q : VK} (e : Kn K G H) (wk : Wk K J rS S G) (nd : S.Nodup) (hz : S.length ≤ 1000) (hwp : ∀ x : V, wipe ((wipe σ ns).set j (some x)) ns = wipe σ ns) (hj : ∀ x : V, ((wipe σ ns).set j (some x))[j]? = some (some x))
    (q : ∀ D af H2, Gr K G H G H2 → Lists H H2 D S af (fun _ => []) → Q (.ref D) H2) :
    ∀ D, H D = none → ∃ W : Nat → Nat → Hp → Prop, (∃ m, W 0 m (upd H D (.dK []))) ∧ ∀ i m H', W i m H' →
      (J.stop i H' ∧ Q (.ref D) H') ∨ (J.go i H' ∧ ∃ Nx : Hp → Prop, (∀ H2, Nx H2 → ∃ m', m' < m ∧ W (i + 1) m' H2) ∧ ∀ x H2, J.yld i H' x H2 → gName j x (wipe σ ns) H2 fun σ2 H3 => wipe σ2 ns = wipe σ ns ∧ tYes σ2 H3 fun b H4 =>
        if b = true then (tVar j) σ2 H4 fun y H5 => (tLst tNil) σ2 H5 fun z H6 => ∃ kvs k, y = kV k ∧ H6 D = some (.dK kvs) ∧ kvs.length < sizeLine ∧ Nx (upd H6 D (.dK (putK kvs k z))) else Nx H4) := fun D hD => by
  have gD : G D = none := e.ex.no _ hD
  refine ⟨fun i m H' => m = S.length - i ∧ i ≤ S.length ∧ Gr K G H G H' ∧ ∃ af, Lists H H' D (S.take i) af fun _ => [], ⟨S.length, rfl, Nat.zero_le _, Gr.skip e (Ex.new hD) (tb_new e.tb hD), fun _ => 0, ⟨by simpa [zipK] using upd_same, by simp, hD, by simp, by simp, by simp⟩⟩, ?_⟩
  rintro i m H' ⟨rfl, hi, g, af, L⟩
  by_cases hlt : i < S.length
  · refine .inr ⟨wk.go i H' hlt g.kn, fun H2 => Gr K G H G H2 ∧ ∃ af, Lists H H2 D (S.take (i + 1)) af fun _ => [], fun H2 ⟨k1, k2⟩ => ⟨S.length - (i + 1), by omega, rfl, hlt, k1, k2⟩, fun x H2 hy => ?_⟩
    obtain ⟨a, G2, ea, g2, ra⟩ := wk.yld i H' x H2 hlt g.kn hy
    obtain rfl : x = .str a := ra.1
    have gs : Gr K G H G H2 := g.trans (Gr.skip g.kn g2.hh g2.kn.tb)
    refine ⟨hwp _, et_yes (K := K) H2 gs.kn _ fun H3 g3 => iteT ?_⟩
    have g3 := gs.trans g3
    refine ⟨.str a, hj _, (by decide : 0 ≤ sizeLine), fun p hp => ?_⟩
    have L3 : Lists H H3 D (S.take i) af fun _ => [] := L.up (g2.hh.trans (by rename_i g3'; exact g3'.hh))
    have g4 : Gr K G H G (upd H3 p (.lst [])) := g3.trans (Gr.skip g3.kn (Ex.new hp) (tb_new g3.kn.tb hp))
    have L4 := L3.up (Ex.new (o := .lst []) hp)
    have hl : (S.take i).length = ((S.take i).map fun x => V.ref (af x)).length := by rw [List.length_map]
    have an : a ∉ S.take i := fun z => by
      obtain ⟨k, hk, e⟩ := List.mem_iff_getElem.mp z
      rw [List.length_take] at hk
      rw [List.getElem_take] at e
      have e2 : S[i] = a := by rw [List.getElem?_eq_getElem hlt] at ea; exact Option.some.inj ea
      exact List.pairwise_iff_getElem.mp nd k i (by omega) hlt (by omega) (e.trans e2.symm)
    have hpD : p ≠ D := fun z => by rw [z, L3.d] at hp; cases hp
    have hpH : H p = none := g3.hh.no _ hp
    refine ⟨_, Sum.inr a, rfl, L4.d, Nat.lt_of_le_of_lt (by unfold zipK; rw [List.length_zipWith, List.length_map, List.length_take]; omega) (by decide : 1000 < sizeLine), ?_⟩
    have ep : putK (zipK (S.take i) ((S.take i).map fun x => V.ref (af x))) (Sum.inr a) (.ref p) = zipK (S.take (i + 1)) ((S.take (i + 1)).map fun x => V.ref (if x = a then p else af x)) := by
      have e1 : putK (zipK (S.take i) ((S.take i).map fun x => V.ref (af x))) (Sum.inr a) (.ref p) = zipK (S.take i) ((S.take i).map fun x => V.ref (af x)) ++ [(Sum.inr a, .ref p)] := by
        unfold putK
        rw [valV_any, zipK_none hl an]
        rfl
      have e2 : S.take (i + 1) = S.take i ++ [a] := by rw [List.take_add_one, ea]; rfl
      rw [e1, e2, List.map_append, List.map_singleton, zipK_snoc (by rw [List.length_map]), if_pos rfl]
      congr 2
      exact List.map_congr_left fun x hx => by
        have h2 : x ≠ a := fun z => an (by rw [← z]; exact hx)
        rw [if_neg h2]
    have e2 : S.take (i + 1) = S.take i ++ [a] := by rw [List.take_add_one, ea]; rfl
    refine ⟨⟨g4.kk, ⟨g4.kh.mut gD, tb_mut g4.kn.tb (fun ps z => by rw [L4.d] at z; cases z) fun q z => by rw [L4.d] at z; unfold LamX.CodeO at z; cases z⟩, g4.hh.mut hD, g4.sp⟩, fun x => if x = a then p else af x, ⟨by rw [upd_same, ep], fun x hx => ?_, hD, fun x hx => ?_, fun x hx y hy h => ?_, fun x hx => ?_⟩⟩
    · rw [e2] at hx
      by_cases hxa : x = a
      · rw [if_pos hxa, upd_ne hpD, upd_same]; rfl
      · have hx2 : x ∈ S.take i := (List.mem_append.mp hx).resolve_right fun z => hxa (List.mem_singleton.mp z)
        rw [if_neg hxa, upd_ne (L4.ne x hx2)]
        exact L4.l x hx2
    · rw [e2] at hx
      by_cases hxa : x = a
      · rw [if_pos hxa]; exact hpH
      · rw [if_neg hxa]; exact L4.ln x ((List.mem_append.mp hx).resolve_right fun z => hxa (List.mem_singleton.mp z))
    · rw [e2] at hx hy
      have key : ∀ z, z ∈ S.take i → af z ≠ p := fun z hz e => by
        have := L3.l z hz
        rw [e, hp] at this
        cases this
      by_cases hxa : x = a
      · by_cases hya : y = a
        · rw [hxa, hya]
        · rw [if_pos hxa, if_neg hya] at h
          exact absurd h.symm (key y ((List.mem_append.mp hy).resolve_right fun z => hya (List.mem_singleton.mp z)))
      · have hx2 : x ∈ S.take i := (List.mem_append.mp hx).resolve_right fun z => hxa (List.mem_singleton.mp z)
        by_cases hya : y = a
        · rw [if_neg hxa, if_pos hya] at h
          exact absurd h (key x hx2)
        · rw [if_neg hxa, if_neg hya] at h
          exact L4.inj x hx2 y ((List.mem_append.mp hy).resolve_right fun z => hya (List.mem_singleton.mp z)) h
    · rw [e2] at hx
      by_cases hxa : x = a
      · rw [if_pos hxa]; exact hpD
      · rw [if_neg hxa]; exact L4.ne x ((List.mem_append.mp hx).resolve_right fun z => hxa (List.mem_singleton.mp z))
  · have ei : i = S.length := by omega
    subst ei
    refine .inl ⟨wk.stop H' g.kn, ?_⟩
    rw [List.take_length] at L
    exact q D af H' g L
end
end Ob
set_option maxRecDepth 100000
set_option maxHeartbeats 4000000
/-! Kf5: Debate.__init__. -/
namespace Ob
open PySem PySem.Spec PyProof.Rows L2
theorem allR_fun {α : Type} {R : Rp α} {g : α → V} {H : Hp} : ∀ {xs : List α}, (∀ x ∈ xs, R x (g x) H) → AllR R xs (xs.map g) H
  | [], _ => trivial
  | x :: xs, h => ⟨h x (List.mem_cons_self ..), allR_fun fun y hy => h y (List.mem_cons_of_mem _ hy)⟩
def rRef : Rp Addr := fun A v _ => v = .ref A
instance : Mo rRef := ⟨fun _ h => h⟩
theorem obs_take {O : List Pr} {i : Nat} {p : Pr} (e : O[i]? = some p) (x : Str) : obs (O.take (i + 1)) x = obs (O.take i) x ++ (if p.2 = x then [p.1] else []) := by
  unfold obs
  rw [List.take_add_one, e, List.filter_append, List.map_append]
  by_cases h : p.2 = x
  · simp [h]
  · simp [h]
theorem obd_take {O : List Pr} {i : Nat} {p : Pr} (e : O[i]? = some p) (x : Str) : obd (O.take (i + 1)) x = obd (O.take i) x ++ (if p.1 = x then [p.2] else []) := by
  unfold obd
  rw [List.take_add_one, e, List.filter_append, List.map_append]
  by_cases h : p.1 = x
  · simp [h]
  · simp [h]
section
variable {K : PySem.W.Frag} {σ : L2.St} {G H : Hp} {to te : TE} {D : Ends}
/-- o.append(e), o a list that is hidden -/
theorem s_appD {A : Addr} {vs : List V} {z : V} (e : Kn K G H) (ho : EvP K to σ G rRef A) (hl : H A = some (.lst vs)) (h : Ev K te σ G z) (hz : vs.length < 10000000) (k : ∀ H2, Gr K G H G H2 → H2 A = some (.lst vs) → D.nx σ (upd H2 A (.lst (vs ++ [z])))) : tDrop (tBM K "list" rAppend to (tCons te tNil)) D σ H :=
  ho H e _ fun v G1 H1 g1 r1 => by
    obtain rfl : v = .ref A := r1
    refine ⟨.inl ⟨rfl, vs, SqL.of (g1.hh.l hl)⟩, (h.mono g1.kk) H1 g1.kn _ fun H2 g2 => ⟨A, vs, z, rfl, rfl, g2.hh.l (g1.hh.l hl), Nat.lt_of_lt_of_le hz (by decide), k H2 (Gr.skip e (g1.hh.trans g2.hh) g2.kn.tb) (g2.hh.l (g1.hh.l hl))⟩⟩
end
theorem s_dcE {K : PySem.W.Frag} {σ : L2.St} {G H : Hp} {wi : TI} {J : It} {j : Nat} {ns : List Nat} {S : Lot} {Q : VK} (hw : ∀ R : It → Hp → Prop, R J H → wi σ H R) (e : Kn K G H) (wk : Wk K J rS S G) (nd : S.Nodup) (hz : S.length ≤ 1000) (hwp : ∀ x : V, wipe ((wipe σ ns).set j (some x)) ns = wipe σ ns) (hj : ∀ x : V, ((wipe σ ns).set j (some x))[j]? = some (some x))
    (q : ∀ D af H2, Gr K G H G H2 → Lists H H2 D S af (fun _ => []) → Q (.ref D) H2) : tDc wi (gName j) tYes (tVar j) (tLst tNil) ns σ H Q := hw _ (dcE e wk nd hz hwp hj q)
section
variable {P : Program} {w : World} {K : PySem.W.Frag} {mg : Str → Option Value} {base : Heap} {cL cS cH : Addr}
abbrev N_initDebate : List Str := ["self", "statements", "objections", "statement", "one", "other"]
theorem sc_initDebate : FnScope N_initDebate ["self", "statements", "objections"] (defScope s_initDebate) := ⟨rfl, rfl, rfl, by decide +kernel, rfl, by decide +kernel, by decide +kernel⟩
structure PreD (K : PySem.W.Frag) (G : Hp) (N : Lot) (ps : List Pr) (sv ov : V) : Prop where
  n : rQ K rS N sv G
  p : rQ K (rPrQ K) ps ov G
  nl : N.length ≤ 8
  pl : ps.length ≤ 1000
  nn : N.Nodup
  pn : ps.Nodup
  ok : ∀ x ∈ N, NameOk x ∧ PyData.strOk x = true
  inn : ∀ p ∈ ps, p.1 ∈ N ∧ p.2 ∈ N
abbrev debOf (N : Lot) (ps : List Pr) : Deb := ⟨so eS N, so ePP ps⟩
def spInit (K : PySem.W.Frag) (cD : Addr) : Sp := fun vs H Q _ => ∃ (a dx : Addr) (sv ov : V) (N : Lot) (ps : List Pr) (G Hc : Hp), vs = [.ref a, sv, ov] ∧ Kn K G Hc ∧ Hc a = none ∧ Hc dx = none ∧ dx ≠ a ∧ H = upd (upd Hc dx (.own a)) a (.ins cD dx []) ∧ PreD K G N ps sv ov ∧
  ∀ G2 H2, Gr K G Hc G2 H2 → rDeb K (debOf N ps) (.ref a) G2 → Q .non H2
theorem body_init (T : Txt K mg) (Nm : Small mg) {cD : Addr} (dc : DebC K cD) {f : Addr} {cdv : Value} {A : Around} {outer : List Env} {s : Shared} {H : Hp} {vs : List V} {Q : VK} {E : XK} (hr : Room 6 (A.deeper (envOfC "Debate.__init__" (defScope s_initDebate) s.heap.objs.size f cdv))) (h : spInit K cD vs H Q E) :
    ∃ t, PSs (cxOf CX0 P w K mg base N_initDebate "Debate.__init__" (defScope s_initDebate) f cdv A outer s H E) (defBody s_initDebate) t ∧ t { nx := fun _ H' => Q .non H', rt := Q } (start N_initDebate vs) H := by
  obtain ⟨a, dx, sv, ov, N, ps, G, Hc, rfl, eG, ha, hdx, hne, rfl, pre, q⟩ := h
  refine ⟨_, (pss_cons (xsfld K (pv 0) (pe_cal (cal_checked_statements T Nm) (hr.mono (by decide)) (by rfl) pass0 (pa_cons (pv 1) pa_nil))) (pss_cons (xsfld K (pv 0) (pe_cal (cal_checked_objections T) (hr.mono (by decide)) (by rfl) pass0 (pa_cons (pv 2) (pa_cons (xfld K (pv 0)) pa_nil)))) (pss_cons (xsfld K (pv 0) (pe_dc (own := [("statement", 3)]) (g := gName 3) rfl sc_initDebate.nd (xlist K (xfld K (pv 0))) (blkOk_by (own := [("statement", 3)]) (N := N_initDebate) (by kernel_rfl)) (fun _ _ _ _ _ => pg_name (i := 3) sc_initDebate.nd rfl (by first | exact Or.inl rfl | exact Or.inr rfl)) (fun _ _ _ _ _ => pts_nil) (fun _ _ _ _ _ => (pv 3)) (fun _ _ _ _ _ => (pe_lst pa_nil)))) (pss_cons (xsfld K (pv 0) (pe_dc (own := [("statement", 3)]) (g := gName 3) rfl sc_initDebate.nd (xlist K (xfld K (pv 0))) (blkOk_by (own := [("statement", 3)]) (N := N_initDebate) (by kernel_rfl)) (fun _ _ _ _ _ => pg_name (i := 3) sc_initDebate.nd rfl (by first | exact Or.inl rfl | exact Or.inr rfl)) (fun _ _ _ _ _ => pts_nil) (fun _ _ _ _ _ => (pv 3)) (fun _ _ _ _ _ => (pe_lst pa_nil)))) (pss_one (ps_for (g := gTup K 2 (gCons (gName 4) (gCons (gName 5) gNil))) (passes_of rfl) rfl (xlist K (xfld K (pv 0))) (xgtup K (pgs_cons (pg_name (i := 4) sc_initDebate.nd rfl (by first | exact Or.inl rfl | exact Or.inr rfl)) (pgs_cons (pg_name (i := 5) sc_initDebate.nd rfl (by first | exact Or.inl rfl | exact Or.inr rfl)) pgs_nil))) (pss_cons (ps_expr (pe_bm PySem.F.plainAttrs_list PySem.F.slot_list_append PySem.F.type_list_append mt_append (pe_dget (hu_of hr) (xfld K (pv 0)) (pv 5) (fun _ _ => rfl)) (pa_cons (pv 4) pa_nil))) (pss_one (ps_expr (pe_bm PySem.F.plainAttrs_list PySem.F.slot_list_append PySem.F.type_list_append mt_append (pe_dget (hu_of hr) (xfld K (pv 0)) (pv 4) (fun _ _ => rfl)) (pa_cons (pv 5) pa_nil))))))))))), ?_⟩
  have g0 : Gr K G Hc G (upd (upd Hc dx (.own a)) a (.ins cD dx [])) := by
    have h1 := Gr.skip eG (Ex.new (o := .own a) hdx) (tb_new eG.tb hdx)
    have h2 : (upd Hc dx (.own a)) a = none := by rw [upd_ne (Ne.symm hne)]; exact ha
    exact h1.trans (Gr.skip h1.kn (Ex.new h2) (tb_new h1.kn.tb h2))
  have Ga : G a = none := eG.ex.no _ ha
  have ndS : (so eS N).Nodup := (so_perm eS N).nodup_iff.mpr pre.nn
  have zS : (so eS N).length ≤ 8 := by rw [so_len]; exact pre.nl
  have zO : (so ePP ps).length ≤ 1000 := by rw [so_len]; exact pre.pl
  have okS : ∀ x ∈ so eS N, PyData.strOk x = true := fun x hx => (pre.ok x (so_mem.mp hx)).2
  have inS : ∀ p ∈ so ePP ps, p.1 ∈ so eS N ∧ p.2 ∈ so eS N := fun p hp => ⟨so_mem.mpr (pre.inn p (so_mem.mp hp)).1, so_mem.mpr (pre.inn p (so_mem.mp hp)).2⟩
  -- own_statements
  refine (er_post (Z := rL K rS (so eS N)) N (eb_a1 (R := rQ K rS) (er_var rfl pre.n)) (fun vs G2 _ h => ⟨h, Nat.le_trans pre.nl (by decide), pre.nn, fun x hx => (pre.ok x hx).1⟩) fun _ _ _ _ p => p) _ g0.kn _ fun v1 G1 H1 g1 r1 => ?_
  have G1a : G1 a = none := g1.sp a Ga (hidden upd_same)
  have H1a := g1.hh.i (p := a) upd_same
  refine ⟨.ref a, rfl, a, cD, dx, _, rfl, H1a, dc.c, dc.f1, (by decide : 0 < 1000), ?_⟩
  have gA := (g0.trans g1).mutI (o := .ins cD dx [("own_statements", v1)]) G1a ha H1a
  have HA : upd H1 a (.ins cD dx [("own_statements", v1)]) a = some (.ins cD dx [("own_statements", v1)]) := upd_same
  dsimp only
  rw [show putF "own_statements" (v1 : V) ([] : List (Str × V)) = ([("own_statements", v1)] : List (Str × V)) from rfl]
  revert gA HA
  generalize upd H1 a (.ins cD dx [("own_statements", v1)]) = H2
  intro gA HA
  -- own_objections
  refine ⟨ov, rfl, .ref a, rfl, a, cD, dx, _, v1, rfl, HA, dc.c, dc.f1, rfl, ?_⟩
  refine ⟨(ps, so eS N), G1, gA.kn, ⟨⟨ov, v1, rfl, Mo.mo gA.kk pre.p, r1⟩, pre.pl, pre.pn, fun p hp => ⟨so_mem.mpr (pre.inn p hp).1, so_mem.mpr (pre.inn p hp).2⟩⟩, fun v2 G3 H3 g3 r3 => ?_⟩
  have r3 : rPs K (so ePP ps) v2 G3 := r3
  have G3a : G3 a = none := g3.sp a G1a (hidden HA)
  have H3a := g3.hh.i HA
  refine ⟨.ref a, rfl, a, cD, dx, _, rfl, H3a, dc.c, dc.f2, (by decide : 1 < 1000), ?_⟩
  have gB := (gA.trans g3).mutI (o := .ins cD dx [("own_statements", v1), ("own_objections", v2)]) G3a ha H3a
  have HB : upd H3 a (.ins cD dx [("own_statements", v1), ("own_objections", v2)]) a = some (.ins cD dx [("own_statements", v1), ("own_objections", v2)]) := upd_same
  have r1 := Mo.mo (R := rL K rS) g3.kk r1
  dsimp only
  rw [show putF "own_objections" (v2 : V) ([("own_statements", v1)] : List (Str × V)) = ([("own_statements", v1), ("own_objections", v2)] : List (Str × V)) from rfl]
  revert gB HB
  generalize upd H3 a (.ins cD dx [("own_statements", v1), ("own_objections", v2)]) = H4
  intro gB HB
  -- own_objectors
  obtain ⟨b1, vs1, rfl, hb1, ab1⟩ := r1
  unfold tSeq sFld
  refine s_dcE (J := Itl K b1) (fun R hR => ⟨.ref a, rfl, a, cD, dx, _, .ref b1, rfl, HB, dc.c, dc.f1, rfl, b1, rfl, ⟨vs1, ex_l gB.kh hb1⟩, hR⟩) gB.kn (wk_list hb1 ab1) ndS (by omega) ?_ ?_ fun D1 af1 H5 g5 L5 => ?_
  · exact fun _ => rfl
  · exact fun _ => rfl
  have H5a := g5.hh.i HB
  refine ⟨.ref a, rfl, a, cD, dx, _, rfl, H5a, dc.c, dc.f3, (by decide : 2 < 1000), ?_⟩
  have gC := (gB.trans g5).mutI (o := .ins cD dx [("own_statements", .ref b1), ("own_objections", v2), ("own_objectors", .ref D1)]) G3a ha H5a
  have HC : upd H5 a (.ins cD dx [("own_statements", .ref b1), ("own_objections", v2), ("own_objectors", .ref D1)]) a = some (.ins cD dx [("own_statements", .ref b1), ("own_objections", v2), ("own_objectors", .ref D1)]) := upd_same
  have a1 : ∀ x ∈ so eS N, af1 x ≠ a := fun x hx z => by have := L5.ln x hx; rw [z, HB] at this; cases this
  have aD1 : D1 ≠ a := fun z => by have := L5.dn; rw [z, HB] at this; cases this
  have LC : Lists Hc (upd H5 a (.ins cD dx [("own_statements", .ref b1), ("own_objections", v2), ("own_objectors", .ref D1)])) D1 (so eS N) af1 (fun _ => []) :=
    ⟨by rw [upd_ne aD1]; exact L5.d, fun x hx => by rw [upd_ne (a1 x hx)]; exact L5.l x hx, gB.hh.no _ L5.dn, fun x hx => gB.hh.no _ (L5.ln x hx), L5.inj, L5.ne⟩
  dsimp only
  rw [show putF "own_objectors" (.ref D1 : V) ([("own_statements", .ref b1), ("own_objections", v2)] : List (Str × V)) = ([("own_statements", .ref b1), ("own_objections", v2), ("own_objectors", .ref D1)] : List (Str × V)) from rfl]
  revert gC HC LC
  generalize upd H5 a (.ins cD dx [("own_statements", .ref b1), ("own_objections", v2), ("own_objectors", .ref D1)]) = H6
  intro gC HC LC
  -- own_objected
  refine s_dcE (J := Itl K b1) (fun R hR => ⟨.ref a, rfl, a, cD, dx, _, .ref b1, rfl, HC, dc.c, dc.f1, rfl, b1, rfl, ⟨vs1, ex_l gC.kh hb1⟩, hR⟩) gC.kn (wk_list hb1 ab1) ndS (by omega) ?_ ?_ fun D2 af2 H7 g7 L7 => ?_
  · exact fun _ => rfl
  · exact fun _ => rfl
  have H7a := g7.hh.i HC
  refine ⟨.ref a, rfl, a, cD, dx, _, rfl, H7a, dc.c, dc.f4, (by decide : 3 < 1000), ?_⟩
  have gD := (gC.trans g7).mutI (o := .ins cD dx [("own_statements", .ref b1), ("own_objections", v2), ("own_objectors", .ref D1), ("own_objected", .ref D2)]) G3a ha H7a
  have HD : upd H7 a (.ins cD dx [("own_statements", .ref b1), ("own_objections", v2), ("own_objectors", .ref D1), ("own_objected", .ref D2)]) a = some (.ins cD dx [("own_statements", .ref b1), ("own_objections", v2), ("own_objectors", .ref D1), ("own_objected", .ref D2)]) := upd_same
  have a2 : ∀ x ∈ so eS N, af2 x ≠ a := fun x hx z => by have := L7.ln x hx; rw [z, HC] at this; cases this
  have aD2 : D2 ≠ a := fun z => by have := L7.dn; rw [z, HC] at this; cases this
  have x12 : ∀ x ∈ so eS N, ∀ y ∈ so eS N, af1 x ≠ af2 y := fun x hx y hy z => by have h1 := L7.ln y hy; rw [← z, LC.l x hx] at h1; cases h1
  have xD2 : ∀ y ∈ so eS N, D1 ≠ af2 y := fun y hy z => by have h1 := L7.ln y hy; rw [← z, LC.d] at h1; cases h1
  have xD1 : ∀ x ∈ so eS N, af1 x ≠ D2 := fun x hx z => by have h1 := L7.dn; rw [← z, LC.l x hx] at h1; cases h1
  have xDD : D1 ≠ D2 := fun z => by have h1 := L7.dn; rw [← z, LC.d] at h1; cases h1
  have L1 : Lists Hc (upd H7 a (.ins cD dx [("own_statements", .ref b1), ("own_objections", v2), ("own_objectors", .ref D1), ("own_objected", .ref D2)])) D1 (so eS N) af1 (fun _ => []) := by
    have L := LC.up g7.hh
    exact ⟨by rw [upd_ne aD1]; exact L.d, fun x hx => by rw [upd_ne (a1 x hx)]; exact L.l x hx, L.dn, L.ln, L.inj, L.ne⟩
  have L2' : Lists Hc (upd H7 a (.ins cD dx [("own_statements", .ref b1), ("own_objections", v2), ("own_objectors", .ref D1), ("own_objected", .ref D2)])) D2 (so eS N) af2 (fun _ => []) :=
    ⟨by rw [upd_ne aD2]; exact L7.d, fun x hx => by rw [upd_ne (a2 x hx)]; exact L7.l x hx, gC.hh.no _ L7.dn, fun x hx => gC.hh.no _ (L7.ln x hx), L7.inj, L7.ne⟩
  rw [show putF "own_objected" (.ref D2 : V) ([("own_statements", .ref b1), ("own_objections", v2), ("own_objectors", .ref D1)] : List (Str × V)) = ([("own_statements", .ref b1), ("own_objections", v2), ("own_objectors", .ref D1), ("own_objected", .ref D2)] : List (Str × V)) from rfl]
  revert gD HD L1 L2'
  generalize upd H7 a (.ins cD dx [("own_statements", .ref b1), ("own_objections", v2), ("own_objectors", .ref D1), ("own_objected", .ref D2)]) = H8
  intro gD HD L1 L2'
  -- the loop: a, D1, D2 are known, the lists are not
  have GD1 : G3 D1 = none := gB.kn.ex.no _ L5.dn
  have GD2 : G3 D2 = none := gC.kn.ex.no _ L7.dn
  have gE := ((gD.plusO ha HD G3a).plusO L1.dn L1.d (by rw [upd_ne aD1]; exact GD1)).plusO L2'.dn L2'.d (by rw [upd_ne (Ne.symm xDD), upd_ne aD2]; exact GD2)
  have e3 : Ex G3 (upd (upd (upd G3 a (.ins cD dx [("own_statements", .ref b1), ("own_objections", v2), ("own_objectors", .ref D1), ("own_objected", .ref D2)])) D1 (.dK (zipK (so eS N) ((so eS N).map fun x => .ref (af1 x))))) D2 (.dK (zipK (so eS N) ((so eS N).map fun x => .ref (af2 x))))) :=
    ((Ex.new G3a).trans (Ex.new (by rw [upd_ne aD1]; exact GD1))).trans (Ex.new (by rw [upd_ne (Ne.symm xDD), upd_ne aD2]; exact GD2))
  have Ea : (upd (upd (upd G3 a (.ins cD dx [("own_statements", .ref b1), ("own_objections", v2), ("own_objectors", .ref D1), ("own_objected", .ref D2)])) D1 (.dK (zipK (so eS N) ((so eS N).map fun x => .ref (af1 x))))) D2 (.dK (zipK (so eS N) ((so eS N).map fun x => .ref (af2 x))))) a = some (.ins cD dx [("own_statements", .ref b1), ("own_objections", v2), ("own_objectors", .ref D1), ("own_objected", .ref D2)]) := by
    rw [upd_ne (Ne.symm aD2), upd_ne (Ne.symm aD1), upd_same]
  have E1 : (upd (upd (upd G3 a (.ins cD dx [("own_statements", .ref b1), ("own_objections", v2), ("own_objectors", .ref D1), ("own_objected", .ref D2)])) D1 (.dK (zipK (so eS N) ((so eS N).map fun x => .ref (af1 x))))) D2 (.dK (zipK (so eS N) ((so eS N).map fun x => .ref (af2 x))))) D1 = some (.dK (zipK (so eS N) ((so eS N).map fun x => .ref (af1 x)))) := by
    rw [upd_ne xDD, upd_same]
  have E2 : (upd (upd (upd G3 a (.ins cD dx [("own_statements", .ref b1), ("own_objections", v2), ("own_objectors", .ref D1), ("own_objected", .ref D2)])) D1 (.dK (zipK (so eS N) ((so eS N).map fun x => .ref (af1 x))))) D2 (.dK (zipK (so eS N) ((so eS N).map fun x => .ref (af2 x))))) D2 = some (.dK (zipK (so eS N) ((so eS N).map fun x => .ref (af2 x)))) := upd_same
  have EL1 : ∀ x ∈ so eS N, (upd (upd (upd G3 a (.ins cD dx [("own_statements", .ref b1), ("own_objections", v2), ("own_objectors", .ref D1), ("own_objected", .ref D2)])) D1 (.dK (zipK (so eS N) ((so eS N).map fun x => .ref (af1 x))))) D2 (.dK (zipK (so eS N) ((so eS N).map fun x => .ref (af2 x))))) (af1 x) = none := fun x hx => by
    rw [upd_ne (xD1 x hx), upd_ne (L1.ne x hx), upd_ne (a1 x hx)]
    exact gB.kn.ex.no _ (L5.ln x hx)
  have EL2 : ∀ x ∈ so eS N, (upd (upd (upd G3 a (.ins cD dx [("own_statements", .ref b1), ("own_objections", v2), ("own_objectors", .ref D1), ("own_objected", .ref D2)])) D1 (.dK (zipK (so eS N) ((so eS N).map fun x => .ref (af1 x))))) D2 (.dK (zipK (so eS N) ((so eS N).map fun x => .ref (af2 x))))) (af2 x) = none := fun x hx => by
    rw [upd_ne (L2'.ne x hx), upd_ne (Ne.symm (xD2 x hx)), upd_ne (a2 x hx)]
    exact gC.kn.ex.no _ (L7.ln x hx)
  revert gE e3 Ea E1 E2 EL1 EL2
  generalize (upd (upd (upd G3 a (.ins cD dx [("own_statements", .ref b1), ("own_objections", v2), ("own_objectors", .ref D1), ("own_objected", .ref D2)])) D1 (.dK (zipK (so eS N) ((so eS N).map fun x => .ref (af1 x))))) D2 (.dK (zipK (so eS N) ((so eS N).map fun x => .ref (af2 x))))) = G4
  intro gE e3 Ea E1 E2 EL1 EL2
  have fO : ∀ {σ : L2.St} {G5 : Hp}, Ex G4 G5 → σ[0]? = some (some (.ref a)) → EvP K (tFld K (tVar 0) "own_objections") σ G5 (rPs K) (so ePP ps) := fun {σ G5} e5 hσ H e Q q => ⟨.ref a, hσ, a, cD, dx, _, v2, rfl, e.ex.i (e5.i Ea), dc.c, dc.f2, rfl, q v2 G5 H (Gr.refl e) (Mo.mo (e3.trans e5) r3)⟩
  have f1 : ∀ {σ : L2.St} {G5 : Hp}, Ex G4 G5 → σ[0]? = some (some (.ref a)) → EvP K (tFld K (tVar 0) "own_objectors") σ G5 (rDf rRef af1) (so eS N) := fun {σ G5} e5 hσ H e Q q => ⟨.ref a, hσ, a, cD, dx, _, .ref D1, rfl, e.ex.i (e5.i Ea), dc.c, dc.f3, rfl, q (.ref D1) G5 H (Gr.refl e) ⟨D1, _, rfl, e5.d E1, allR_fun fun x hx => ⟨okS x hx, rfl⟩⟩⟩
  have f2 : ∀ {σ : L2.St} {G5 : Hp}, Ex G4 G5 → σ[0]? = some (some (.ref a)) → EvP K (tFld K (tVar 0) "own_objected") σ G5 (rDf rRef af2) (so eS N) := fun {σ G5} e5 hσ H e Q q => ⟨.ref a, hσ, a, cD, dx, _, .ref D2, rfl, e.ex.i (e5.i Ea), dc.c, dc.f4, rfl, q (.ref D2) G5 H (Gr.refl e) ⟨D2, _, rfl, e5.d E2, allR_fun fun x hx => ⟨okS x hx, rfl⟩⟩⟩
  refine s_for (R := rP K rS rS) (xs := so ePP ps) gE.kn (ew_list (fO (exr _) rfl)) (fun i σ' G' H' => (∃ x y z, σ' = [some (.ref a), some sv, some ov, x, y, z]) ∧ Ex G4 G' ∧ Gr K G Hc G' H' ∧
    (∀ x ∈ so eS N, G' (af1 x) = none ∧ H' (af1 x) = some (.lst ((obs ((so ePP ps).take i) x).map V.str))) ∧ ∀ x ∈ so eS N, G' (af2 x) = none ∧ H' (af2 x) = some (.lst ((obd ((so ePP ps).take i) x).map V.str)))
    (fun G5 H5 g5 => ⟨⟨_, _, _, rfl⟩, g5.kk, gE.trans g5, fun x hx => ⟨g5.sp _ (EL1 x hx) (hidden (L1.l x hx)), g5.hh.l (L1.l x hx)⟩, fun x hx => ⟨g5.sp _ (EL2 x hx) (hidden (L2'.l x hx)), g5.hh.l (L2'.l x hx)⟩⟩) ?_ ?_
  · rintro i p v σ' G' H' G5 H5 ep ⟨⟨x, y, z, rfl⟩, e4, gg, h1, h2⟩ _ _ g5 rp
    have gF := gg.trans g5
    have pm := inS p (List.mem_of_getElem? ep)
    have k1 : ∀ x ∈ so eS N, G5 (af1 x) = none ∧ H5 (af1 x) = some (.lst ((obs ((so ePP ps).take i) x).map V.str)) := fun x hx => ⟨g5.sp _ (h1 x hx).1 (hidden (h1 x hx).2), g5.hh.l (h1 x hx).2⟩
    have k2 : ∀ x ∈ so eS N, G5 (af2 x) = none ∧ H5 (af2 x) = some (.lst ((obd ((so ePP ps).take i) x).map V.str)) := fun x hx => ⟨g5.sp _ (h2 x hx).1 (hidden (h2 x hx).2), g5.hh.l (h2 x hx).2⟩
    refine tg_pr (Pz := fun σ2 => σ2 = [some (.ref a), some sv, some ov, x, some (.str p.1), some (.str p.2)]) rp g5.kh rfl _ fun σ2 hσ => ?_
    subst hσ
    have lo : ∀ x, (obs ((so ePP ps).take i) x).length < 10000000 := fun x => Nat.lt_of_le_of_lt (Nat.le_trans (obs_len _ _) (by rw [List.length_take]; omega)) (by decide : 1000 < 10000000)
    have ld : ∀ x, (obd ((so ePP ps).take i) x).length < 10000000 := fun x => Nat.lt_of_le_of_lt (Nat.le_trans (obd_len _ _) (by rw [List.length_take]; omega)) (by decide : 1000 < 10000000)
    have e5 := e4.trans g5.kk
    refine s_appD (A := af1 p.2) (z := .str p.1) gF.kn (er_dget (R := rRef) (f := af1) (f1 e5 rfl) (ev_var rfl) pm.2) (k1 _ pm.2).2 (ev_var rfl) (by rw [List.length_map]; exact lo _) fun H6 g6 l6 => ?_
    have gG := (gF.trans g6).mut (o := .lst ((obs ((so ePP ps).take i) p.2).map V.str ++ [.str p.1])) (k1 _ pm.2).1 (L1.ln _ pm.2) l6
    have l7 : upd H6 (af1 p.2) (.lst ((obs ((so ePP ps).take i) p.2).map V.str ++ [.str p.1])) (af2 p.1) = some (.lst ((obd ((so ePP ps).take i) p.1).map V.str)) := by
      rw [upd_ne (Ne.symm (x12 _ pm.2 _ pm.1))]
      exact g6.hh.l (k2 _ pm.1).2
    refine s_appD (A := af2 p.1) (z := .str p.2) gG.kn (er_dget (R := rRef) (f := af2) (f2 e5 rfl) (ev_var rfl) pm.1) l7 (ev_var rfl) (by rw [List.length_map]; exact ld _) fun H8 g8 l8 => ?_
    have gH := (gG.trans g8).mut (o := .lst ((obd ((so ePP ps).take i) p.1).map V.str ++ [.str p.2])) (k2 _ pm.1).1 (L2'.ln _ pm.1) l8
    refine ⟨G5, g5.kk, gH.kn, ⟨_, _, _, rfl⟩, e5, gH, fun x hx => ⟨(k1 x hx).1, ?_⟩, fun x hx => ⟨(k2 x hx).1, ?_⟩⟩
    · rw [obs_take ep, List.map_append, upd_ne (x12 x hx _ pm.1)]
      by_cases hxp : p.2 = x
      · subst hxp
        rw [if_pos rfl]
        exact g8.hh.l upd_same
      · rw [if_neg hxp]
        simp only [List.map_nil, List.append_nil]
        refine g8.hh.l ?_
        rw [upd_ne (fun z => hxp (L1.inj _ pm.2 _ hx z.symm))]
        exact g6.hh.l (k1 x hx).2
    · rw [obd_take ep, List.map_append]
      by_cases hxp : p.1 = x
      · subst hxp
        rw [if_pos rfl, upd_same]
        rfl
      · rw [if_neg hxp, upd_ne (fun z => hxp (L2'.inj _ pm.1 _ hx z.symm))]
        simp only [List.map_nil, List.append_nil]
        refine g8.hh.l ?_
        rw [upd_ne (Ne.symm (x12 _ pm.2 x hx))]
        exact g6.hh.l (k2 x hx).2
  · rintro σ' G' H' ⟨_, e4, gg, h1, h2⟩ _ _
    rw [List.take_length] at h1 h2
    have en := Ex.news gg
    refine q (newAll Hc G' H') H' gg.news.1 ⟨a, cD, dx, .ref b1, v2, .ref D1, .ref D2, rfl, en.i (e4.i Ea), dc, ⟨b1, vs1, rfl, ex_l (e3.trans (e4.trans en)) hb1, ab1.mono (e3.trans (e4.trans en))⟩, Mo.mo (e3.trans (e4.trans en)) r3, ⟨D1, _, rfl, en.d (e4.d E1), allR_fun fun x hx => ⟨okS x hx, ?_⟩⟩, ⟨D2, _, rfl, en.d (e4.d E2), allR_fun fun x hx => ⟨okS x hx, ?_⟩⟩⟩
    · refine ⟨_, _, rfl, SqL.of ((newAll_n (L1.ln x hx)).trans (h1 x hx).2), str_allR fun y hy => ?_⟩
      obtain ⟨p, hp, rfl⟩ := List.mem_map.mp hy
      exact okS _ (inS p (List.mem_filter.mp hp).1).1
    · refine ⟨_, _, rfl, SqL.of ((newAll_n (L2'.ln x hx)).trans (h2 x hx).2), str_allR fun y hy => ?_⟩
      obtain ⟨p, hp, rfl⟩ := List.mem_map.mp hy
      exact okS _ (inS p (List.mem_filter.mp hp).1).2
end
end Ob
set_option maxRecDepth 100000
set_option maxHeartbeats 4000000
/-! Kg1: the stream: hidden, changed by what draws. -/
namespace Ob
open PySem PySem.Spec PyProof.Rows L2
abbrev SA := Addr × Addr
/-- the heap without the stream's two lists -/
def msk (S : SA) (H : Hp) : Hp := fun b => if b = S.1 ∨ b = S.2 then none else H b
/-- the stream: at most n numbers were drawn -/
structure Strm (S : SA) (n : Nat) (H : Hp) : Prop where
  ex : ∃ (cs : List Int) (a c m : Int), H S.1 = some (.lst [.ref S.2, .int a, .int c, .int m]) ∧ H S.2 = some (.lst (cs.map V.int)) ∧ 0 ≤ a ∧ 0 ≤ c ∧ c ≤ n ∧ 0 ≤ m ∧ m < 2147483647
  ne : S.1 ≠ S.2
theorem msk_1 {S : SA} {H : Hp} : msk S H S.1 = none := if_pos (.inl rfl)
theorem msk_2 {S : SA} {H : Hp} : msk S H S.2 = none := if_pos (.inr rfl)
theorem msk_o {S : SA} {H : Hp} {b : Addr} (h1 : b ≠ S.1) (h2 : b ≠ S.2) : msk S H b = H b := if_neg (by simp [h1, h2])
theorem msk_some {S : SA} {H : Hp} {b : Addr} {o : HO} (h : msk S H b = some o) : H b = some o ∧ b ≠ S.1 ∧ b ≠ S.2 := by
  unfold msk at h
  by_cases q : b = S.1 ∨ b = S.2
  · rw [if_pos q] at h; cases h
  · rw [if_neg q] at h; exact ⟨h, fun z => q (.inl z), fun z => q (.inr z)⟩
theorem Strm.mono {S : SA} {n m : Nat} {H : Hp} (h : Strm S n H) (hm : n ≤ m) : Strm S m H := by
  obtain ⟨⟨cs, a, c, x, h1, h2, h3, h4, h5, h6⟩, hn⟩ := h
  exact ⟨⟨cs, a, c, x, h1, h2, h3, h4, by omega, h6⟩, hn⟩
theorem Strm.up {S : SA} {n : Nat} {H H2 : Hp} (h : Strm S n H) (e : Ex H H2) : Strm S n H2 := by
  obtain ⟨⟨cs, a, c, x, h1, h2, h3⟩, hn⟩ := h
  exact ⟨⟨cs, a, c, x, e.l h1, e.l h2, h3⟩, hn⟩
theorem Strm.at1 {S : SA} {n : Nat} {H : Hp} (h : Strm S n H) : ∃ xs, H S.1 = some (.lst xs) := let ⟨_, _, _, _, h1, _⟩ := h.ex; ⟨_, h1⟩
theorem Strm.at2 {S : SA} {n : Nat} {H : Hp} (h : Strm S n H) : ∃ xs, H S.2 = some (.lst xs) := let ⟨_, _, _, _, _, h2, _⟩ := h.ex; ⟨_, h2⟩
section
variable {K : PySem.W.Frag} {S : SA} {n : Nat} {G H G2 H2 : Hp}
theorem Strm.cases (h : Strm S n H) {b : Addr} {o : HO} (hb : H b = some o) (hn : ∀ xs, o ≠ .lst xs) : b ≠ S.1 ∧ b ≠ S.2 := by
  obtain ⟨xs, h1⟩ := h.at1
  obtain ⟨ys, h2⟩ := h.at2
  exact ⟨fun z => by rw [z, h1] at hb; exact hn _ (Option.some.inj hb).symm, fun z => by rw [z, h2] at hb; exact hn _ (Option.some.inj hb).symm⟩
theorem Kn.un (h : Kn K G (msk S H)) (s : Strm S n H) : Kn K G H := by
  have e : Ex (msk S H) H := ⟨fun b o h _ => (msk_some h).1, fun b ps h => ⟨ps, (msk_some h).1⟩, fun b h => by
    unfold msk
    split
    · rfl
    · exact h⟩
  refine ⟨h.ex.trans e, fun x hx => ?_⟩
  obtain ⟨ps, h1, h3, h4⟩ := h.tb x hx
  refine ⟨ps, (msk_some h1).1, h3, fun pos cv hc => ?_⟩
  obtain ⟨c, e1, e2⟩ := h4 pos cv hc
  exact ⟨c, e1, (msk_some e2).1⟩
theorem tb_msk (t : Tb K H) (s : Strm S n H) : Tb K (msk S H) := fun x hx => by
  obtain ⟨ps, h1, h3, h4⟩ := t x hx
  refine ⟨ps, ?_, h3, fun pos cv hc => ?_⟩
  · obtain ⟨q1, q2⟩ := s.cases h1 fun xs z => by cases z
    rw [msk_o q1 q2]; exact h1
  · obtain ⟨c, e1, e2⟩ := h4 pos cv hc
    obtain ⟨q1, q2⟩ := s.cases e2 fun xs z => by unfold LamX.CodeO at z; cases z
    exact ⟨c, e1, by rw [msk_o q1 q2]; exact e2⟩
/-- what does not draw, seen past the stream -/
theorem Gr.msk (k : Kn K G (Ob.msk S H)) (g : Gr K G H G2 H2) (s : Strm S n H) : Gr K G (Ob.msk S H) G2 (Ob.msk S H2) ∧ Strm S n H2 := by
  have s2 := s.up g.hh
  obtain ⟨xs, h1⟩ := s.at1
  obtain ⟨ys, h2⟩ := s.at2
  have G1 : G2 S.1 = none := g.sp _ (k.ex.no _ msk_1) (hidden h1)
  have G2' : G2 S.2 = none := g.sp _ (k.ex.no _ msk_2) (hidden h2)
  refine ⟨⟨g.kk, ⟨⟨fun b o q m => ?_, fun b ps q => ?_, fun b q => ?_⟩, tb_msk g.kn.tb s2⟩, ⟨fun b o q m => ?_, fun b ps q => ?_, fun b q => ?_⟩, fun b q1 q2 => ?_⟩, s2⟩
  · rw [msk_o (fun z => by rw [z, G1] at q; cases q) (fun z => by rw [z, G2'] at q; cases q)]; exact g.kh.ob b o q m
  · rw [msk_o (fun z => by rw [z, G1] at q; cases q) (fun z => by rw [z, G2'] at q; cases q)]; exact g.kh.tt b ps q
  · by_cases z1 : b = S.1
    · rw [z1]; exact G1
    · by_cases z2 : b = S.2
      · rw [z2]; exact G2'
      · rw [msk_o z1 z2] at q; exact g.kh.no b q
  · obtain ⟨q1, q2, q3⟩ := msk_some q
    rw [msk_o q2 q3]; exact g.hh.ob b o q1 m
  · obtain ⟨q1, q2, q3⟩ := msk_some q
    rw [msk_o q2 q3]; exact g.hh.tt b ps q1
  · by_cases z1 : b = S.1
    · rw [z1]; exact msk_1
    · by_cases z2 : b = S.2
      · rw [z2]; exact msk_2
      · rw [msk_o z1 z2] at q ⊢; exact g.hh.no b q
  · obtain ⟨o, q3, q4⟩ := q2
    exact g.sp b q1 ⟨o, (msk_some q3).1, q4⟩
end
/-- G is known of H past the stream, which has given at most n numbers -/
structure Sk (K : PySem.W.Frag) (S : SA) (n : Nat) (G H : Hp) : Prop where
  kn : Kn K G (msk S H)
  st : Strm S n H
abbrev GrS (K : PySem.W.Frag) (S : SA) (G H G2 H2 : Hp) : Prop := Gr K G (msk S H) G2 (msk S H2)
theorem Sk.k {K : PySem.W.Frag} {S : SA} {n : Nat} {G H : Hp} (h : Sk K S n G H) : Kn K G H := h.kn.un h.st
theorem Sk.go {K : PySem.W.Frag} {S : SA} {n : Nat} {G H G2 H2 : Hp} (h : Sk K S n G H) (g : Gr K G H G2 H2) : GrS K S G H G2 H2 ∧ Sk K S n G2 H2 := let ⟨a, b⟩ := g.msk h.kn h.st; ⟨a, a.kn, b⟩
section
variable (K : PySem.W.Frag) (S : SA)
/-- an evaluation that may draw: from n to m numbers -/
def EvS (te : TE) (σ : L2.St) (G : Hp) (n m : Nat) (R : V → Hp → Prop) : Prop := ∀ H, Sk K S n G H → ∀ Q : VK, (∀ v G2 H2, GrS K S G H G2 H2 → Sk K S m G2 H2 → R v G2 → Q v H2) → te σ H Q
def EbS (ta : TA) (σ : L2.St) (G : Hp) (n m : Nat) (R : List V → Hp → Prop) : Prop := ∀ H, Sk K S n G H → ∀ Q : List V → Hp → Prop, (∀ v G2 H2, GrS K S G H G2 H2 → Sk K S m G2 H2 → R v G2 → Q v H2) → ta σ H Q
def EwS {α : Type} (wi : TI) (σ : L2.St) (G : Hp) (n m : Nat) (R : Rp α) (xs : List α) : Prop := ∀ H, Sk K S n G H → ∀ Q : It → Hp → Prop, (∀ J G2 H2, GrS K S G H G2 H2 → Sk K S m G2 H2 → Wk K J R xs G2 → Q J H2) → wi σ H Q
end
/-- a promise of a def that draws: the stream is its first argument -/
def SpS (K : PySem.W.Frag) {ι : Type} (cost : ι → Nat) (pre : ι → List V → Hp → Prop) (post : ι → Hp → V → Hp → Prop) : Sp := fun vs H Q _ => ∃ (i : ι) (S : SA) (n : Nat) (G : Hp) (ws : List V), vs = .ref S.1 :: ws ∧ Sk K S n G H ∧ n + cost i ≤ 2 ^ 40 ∧ pre i ws G ∧
  ∀ v G2 H2, GrS K S G H G2 H2 → Sk K S (n + cost i) G2 H2 → post i G v G2 → Q v H2
section
variable {K : PySem.W.Frag} {S : SA} {n m l : Nat} {σ : L2.St} {G H : Hp} {ta tb te : TE} {α β ι : Type} {R T : V → Hp → Prop} {D : Ends} {tz : TS}
theorem sps_len {cost : ι → Nat} {pre : ι → List V → Hp → Prop} {post : ι → Hp → V → Hp → Prop} {k : Nat} (h : ∀ i vs G, pre i vs G → vs.length = k) : ∀ vs H Q E, SpS K cost pre post vs H Q E → vs.length = k + 1 := fun vs H Q E ⟨i, S, n, G, ws, e, _, _, p, _⟩ => by rw [e, List.length_cons, h i ws G p]
theorem es_of (h : EvR K te σ G R) : EvS K S te σ G n n R := fun H e Q q => h H e.k Q fun v G2 H2 g r => q v G2 H2 (e.go g).1 (e.go g).2 r
theorem ebs_of {t : TA} {R : List V → Hp → Prop} (h : EvB K t σ G R) : EbS K S t σ G n n R := fun H e Q q => h H e.k Q fun v G2 H2 g r => q v G2 H2 (e.go g).1 (e.go g).2 r
theorem ews_of {wi : TI} {R : Rp α} {xs : List α} (h : EvW K wi σ G R xs) : EwS K S wi σ G n n R xs := fun H e Q q => h H e.k Q fun J G2 H2 g r => q J G2 H2 (e.go g).1 (e.go g).2 r
theorem EvS.imp (h : EvS K S te σ G n m R) (f : ∀ v G2, Ex G G2 → R v G2 → T v G2) : EvS K S te σ G n m T := fun H e Q q => h H e Q fun v G2 H2 g s r => q v G2 H2 g s (f v G2 g.kk r)
theorem EvS.mono {G1 : Hp} [MoP R] (e : Ex G G1) (h : EvS K S te σ G n m R) : EvS K S te σ G1 n m R := fun H e1 Q q => h H ⟨⟨e.trans e1.kn.ex, e1.kn.tb⟩, e1.st⟩ Q fun v G2 H2 g s r =>
  let ⟨g1, e2⟩ := g.weak e e1.kn.ex
  q v _ H2 g1 ⟨g1.kn, s.st⟩ (MoP.mo e2 r)
theorem EbS.mono {G1 : Hp} {t : TA} {R : List V → Hp → Prop} [MoL R] (e : Ex G G1) (h : EbS K S t σ G n m R) : EbS K S t σ G1 n m R := fun H e1 Q q => h H ⟨⟨e.trans e1.kn.ex, e1.kn.tb⟩, e1.st⟩ Q fun v G2 H2 g s r =>
  let ⟨g1, e2⟩ := g.weak e e1.kn.ex
  q v _ H2 g1 ⟨g1.kn, s.st⟩ (MoL.mo e2 r)
/-- arguments: the stream first, then what does not draw -/
theorem es_call {t : TA} {cost : ι → Nat} {pre : ι → List V → Hp → Prop} {post : ι → Hp → V → Hp → Prop} {E : XK} {A : List V → Hp → Prop} {Z : V → Hp → Prop} {j : Nat} (i : ι) (hs : σ[j]? = some (some (.ref S.1))) (h : EbS K S t σ G n m A) (hc : m + cost i = l) (hl : l ≤ 2 ^ 40) (hp : ∀ vs G2, Ex G G2 → A vs G2 → pre i vs G2) (hz : ∀ Gc v G2, Ex G Gc → post i Gc v G2 → Z v G2) :
    EvS K S (tCall (SpS K cost pre post) [] E (tCons (tVar j) t)) σ G n l Z := fun H e Q q => by
  refine ⟨.ref S.1, hs, h H e _ fun vs G2 H2 g s r => ?_⟩
  show SpS K cost pre post ((.ref S.1 :: vs) ++ []) H2 Q E
  rw [List.append_nil]
  subst hc
  exact ⟨i, S, m, G2, vs, rfl, s, hl, hp vs G2 g.kk r, fun v G3 H3 g3 s3 p => q v G3 H3 (g.trans g3) s3 (hz G2 v G3 g.kk p)⟩
theorem ebs_nil : EbS K S tNil σ G n n (fun vs _ => vs = []) := ebs_of eb_nil
theorem ebs_cons {t : TA} {U : List V → Hp → Prop} [MoP R] [MoL U] (h : EvS K S te σ G n m R) (k : EbS K S t σ G m l U) : EbS K S (tCons te t) σ G n l (consR R U) := fun H e Q q =>
  h H e _ fun x G1 H1 g1 s1 r1 => k.mono g1.kk H1 ⟨g1.kn, s1.st⟩ _ fun vs G2 H2 g2 s2 r2 => q (x :: vs) G2 H2 (g1.trans g2) s2 ⟨x, vs, rfl, MoP.mo g2.kk r1, r2⟩
theorem ebs_one (h : EvS K S te σ G n m R) : EbS K S (tCons te tNil) σ G n m (oneR R) := fun H e Q q => h H e _ fun x G1 H1 g1 s1 r1 => q [x] G1 H1 g1 s1 ⟨x, rfl, r1⟩
/-! words -/
theorem ss_ret (e : Sk K S n G H) (h : EvS K S te σ G n m R) (k : ∀ v G2 H2, GrS K S G H G2 H2 → Sk K S m G2 H2 → R v G2 → D.rt v H2) : tRet te D σ H := h H e _ k
theorem qs_asg {i : Nat} (e : Sk K S n G H) (h : EvS K S te σ G n m R) (k : ∀ v G2 H2, GrS K S G H G2 H2 → Sk K S m G2 H2 → R v G2 → tz D (σ.set i (some v)) H2) : tSeq (tAsg te (gName i)) tz D σ H := h H e _ k
theorem ss_if {t : TT} {tu tw : TS} {b : Bool} (e : Sk K S n G H) (h : EvT K t σ G b) (h1 : b = true → ∀ H2, GrS K S G H G H2 → Sk K S n G H2 → tu D σ H2) (h2 : b = false → ∀ H2, GrS K S G H G H2 → Sk K S n G H2 → tw D σ H2) : tIfS t tu tw D σ H := h H e.k _ fun H2 g => by
  cases b with
  | true => exact iteT (h1 rfl H2 (e.go g).1 (e.go g).2)
  | false => exact iteF (h2 rfl H2 (e.go g).1 (e.go g).2)
theorem qs_if {t : TT} {tu tw : TS} {b : Bool} (e : Sk K S n G H) (h : EvT K t σ G b) (h1 : b = true → ∀ H2, GrS K S G H G H2 → Sk K S n G H2 → tu { D with nx := tz D } σ H2) (h2 : b = false → ∀ H2, GrS K S G H G H2 → Sk K S n G H2 → tw { D with nx := tz D } σ H2) : tSeq (tIfS t tu tw) tz D σ H := ss_if (D := { D with nx := tz D }) e h h1 h2
theorem qs_no {t : TT} {tu : TS} (e : Sk K S n G H) (h : EvT K t σ G false) (h2 : ∀ H2, GrS K S G H G H2 → Sk K S n G H2 → tz D σ H2) : tSeq (tIfS t tu tNext) tz D σ H := qs_if e h (fun z => by cases z) fun _ => h2
/-- for, the turns may draw -/
theorem ss_for {wi : TI} {g : TG} {tu : TS} {R : Rp α} [Mo R] {xs : List α} (e : Sk K S n G H) (hw : EwS K S wi σ G n m R xs) (Pv : Nat → L2.St → Hp → Hp → Prop) (cost : Nat → Nat) (hc : ∀ i, cost i ≤ cost (i + 1))
    (h0 : ∀ G2 H2, GrS K S G H G2 H2 → Sk K S m G2 H2 → Strm S (cost 0) H2 ∧ Pv 0 σ G2 H2)
    (turn : ∀ i a x σ' G' H' G2 H2, xs[i]? = some a → Pv i σ' G' H' → Ex G G' → Sk K S (cost i) G' H' → GrS K S G' H' G2 H2 → Sk K S (cost i) G2 H2 → R a x G2 → g x σ' H2 fun σ2 H3 => tu { D with nx := fun σ3 H4 => ∃ G4, Ex G' G4 ∧ Sk K S (cost (i + 1)) G4 H4 ∧ Pv (i + 1) σ3 G4 H4, ct := fun σ3 H4 => ∃ G4, Ex G' G4 ∧ Sk K S (cost (i + 1)) G4 H4 ∧ Pv (i + 1) σ3 G4 H4, bk := D.nx } σ2 H3)
    (done : ∀ σ' G' H', Pv xs.length σ' G' H' → Ex G G' → Sk K S (cost xs.length) G' H' → D.nx σ' H') : tFor wi g tu D σ H := hw H e _ fun J G1 H1 g1 s1 wk => by
  refine ⟨fun i m σ' H' => m = xs.length - i ∧ i ≤ xs.length ∧ ∃ G', Ex G1 G' ∧ Sk K S (cost i) G' H' ∧ Pv i σ' G' H', ⟨xs.length, rfl, Nat.zero_le _, G1, exr _, ⟨g1.kn, (h0 G1 H1 g1 s1).1⟩, (h0 G1 H1 g1 s1).2⟩, ?_⟩
  rintro i m σ' H' ⟨rfl, hi, G', e1, k1, pv⟩
  have wk' := wk.mono e1
  by_cases hlt : i < xs.length
  · refine .inr ⟨wk'.go i H' hlt k1.k, fun σ3 H4 => ∃ G4, Ex G' G4 ∧ Sk K S (cost (i + 1)) G4 H4 ∧ Pv (i + 1) σ3 G4 H4, fun σ3 H4 ⟨G4, a1, a2, a3⟩ => ⟨xs.length - (i + 1), by omega, rfl, hlt, G4, e1.trans a1, a2, a3⟩, fun x H2 hy => ?_⟩
    obtain ⟨a, G2, ea, g2, ra⟩ := wk'.yld i H' x H2 hlt k1.k hy
    exact turn i a x σ' G' H' G2 H2 ea pv (g1.kk.trans e1) k1 (k1.go g2).1 (k1.go g2).2 ra
  · have ei : i = xs.length := by omega
    subst ei
    exact .inl ⟨wk'.stop H' k1.k, done σ' G' H' pv (g1.kk.trans e1) k1⟩
theorem qs_for {wi : TI} {g : TG} {tu : TS} {R : Rp α} [Mo R] {xs : List α} (e : Sk K S n G H) (hw : EwS K S wi σ G n m R xs) (Pv : Nat → L2.St → Hp → Hp → Prop) (cost : Nat → Nat) (hc : ∀ i, cost i ≤ cost (i + 1))
    (h0 : ∀ G2 H2, GrS K S G H G2 H2 → Sk K S m G2 H2 → Strm S (cost 0) H2 ∧ Pv 0 σ G2 H2)
    (turn : ∀ i a x σ' G' H' G2 H2, xs[i]? = some a → Pv i σ' G' H' → Ex G G' → Sk K S (cost i) G' H' → GrS K S G' H' G2 H2 → Sk K S (cost i) G2 H2 → R a x G2 → g x σ' H2 fun σ2 H3 => tu { D with nx := fun σ3 H4 => ∃ G4, Ex G' G4 ∧ Sk K S (cost (i + 1)) G4 H4 ∧ Pv (i + 1) σ3 G4 H4, ct := fun σ3 H4 => ∃ G4, Ex G' G4 ∧ Sk K S (cost (i + 1)) G4 H4 ∧ Pv (i + 1) σ3 G4 H4, bk := tz D } σ2 H3)
    (done : ∀ σ' G' H', Pv xs.length σ' G' H' → Ex G G' → Sk K S (cost xs.length) G' H' → tz D σ' H') : tSeq (tFor wi g tu) tz D σ H := ss_for (D := { D with nx := tz D }) e hw Pv cost hc h0 turn done
end
end Ob
set_option maxRecDepth 100000
set_option maxHeartbeats 4000000
/-! Kg2: a number is drawn. -/
namespace Ob
open PySem PySem.Spec PyProof.Rows L2
theorem msk_upd1 {S : SA} {H : Hp} {o : HO} : msk S (upd H S.1 o) = msk S H := by
  funext b
  unfold msk
  by_cases q : b = S.1 ∨ b = S.2
  · rw [if_pos q, if_pos q]
  · rw [if_neg q, if_neg q, upd_ne fun z => q (.inl z)]
theorem msk_upd2 {S : SA} {H : Hp} {o : HO} : msk S (upd H S.2 o) = msk S H := by
  funext b
  unfold msk
  by_cases q : b = S.1 ∨ b = S.2
  · rw [if_pos q, if_pos q]
  · rw [if_neg q, if_neg q, upd_ne fun z => q (.inr z)]
section
variable {K : PySem.W.Frag} {S : SA} {n m : Nat} {σ : L2.St} {G H : Hp} {ta tb te : TE} {R T : V → Hp → Prop} {D : Ends} {tz : TS}
/-- an evaluation at H itself -/
theorem atH (t : Tb K H) (h : EvR K te σ H R) {Q : VK} (q : ∀ v G2 H2, Ex H H2 → Tb K H2 → R v G2 → Ex G2 H2 → Q v H2) : te σ H Q := h H ⟨exr _, t⟩ Q fun v G2 H2 g r => q v G2 H2 g.hh g.kn.tb r g.kh
theorem atHv {v : V} (t : Tb K H) (h : Ev K te σ H v) {Q : VK} (q : ∀ H2, Ex H H2 → Tb K H2 → Q v H2) : te σ H Q := h H ⟨exr _, t⟩ Q fun H2 g => q H2 g.hh g.kn.tb
theorem ev_cell {i : Nat} {p : Addr} {xs : List V} {k : Int} {v : V} (hσ : σ[i]? = some (some (.ref p))) (h : H p = some (.lst xs)) (hk : atI xs k = some v) : Ev K (tOp (rIxL K) (tVar i) (tC (.int k))) σ H v := fun H' e Q q => ⟨.ref p, hσ, p, xs, k, v, rfl, rfl, SqL.of (e.ex.l h), hk, q H' (Gr.refl e)⟩
theorem ev_int {i : Int} (h : Ev K te σ G (.int i)) : Ev K (tCB (fun xs H Q => (∃ i, xs = [.int i] ∧ Q (.int i) H) ∨ ∃ k, xs = [.bl k] ∧ Q (.int (if k then 1 else 0)) H) (tCons te tNil)) σ G (.int i) := fun H e Q q => h H e _ fun H2 g => .inl ⟨i, rfl, q H2 g⟩
theorem ev_add {i j : Int} (ha : Ev K ta σ G (.int i)) (hb : Ev K tb σ G (.int j)) : Ev K (tOp (rI0 fun i j => .int (i + j)) ta tb) σ G (.int (i + j)) := ev_int2 (g := fun i j => .int (i + j)) ha hb
theorem ev_sub {i j : Int} (ha : Ev K ta σ G (.int i)) (hb : Ev K tb σ G (.int j)) : Ev K (tOp (rI0 fun i j => .int (i - j)) ta tb) σ G (.int (i - j)) := ev_int2 (g := fun i j => .int (i - j)) ha hb
theorem ev_gt {i j : Int} (ha : Ev K ta σ G (.int i)) (hb : Ev K tb σ G (.int j)) : Ev K (tOp (rI0 fun i j => .bl (decide (j < i))) ta tb) σ G (.bl (decide (j < i))) := ev_int2 (g := fun i j => .bl (decide (j < i))) ha hb
theorem ev_ge {i j : Int} (ha : Ev K ta σ G (.int i)) (hb : Ev K tb σ G (.int j)) : Ev K (tOp (rI0 fun i j => .bl (decide (j ≤ i))) ta tb) σ G (.bl (decide (j ≤ i))) := ev_int2 (g := fun i j => .bl (decide (j ≤ i))) ha hb
theorem ev_mul {i j : Int} (ha : Ev K ta σ G (.int i)) (hb : Ev K tb σ G (.int j)) (hc : CMul i j) : Ev K (tOp (L2.rI CMul fun i j => .int (i * j)) ta tb) σ G (.int (i * j)) := ev_int2C (g := fun i j => .int (i * j)) ha hb hc
theorem ev_mod {i j : Int} (ha : Ev K ta σ G (.int i)) (hb : Ev K tb σ G (.int j)) (hc : 0 < j) : Ev K (tOp (L2.rI (fun _ j => 0 < j) fun i j => .int (i % j)) ta tb) σ G (.int (i % j)) := ev_int2C (g := fun i j => .int (i % j)) ha hb hc
theorem ev_fdiv {i j : Int} (ha : Ev K ta σ G (.int i)) (hb : Ev K tb σ G (.int j)) (hc : CDiv i j) : Ev K (tOp (L2.rI CDiv fun i j => .int (i / j)) ta tb) σ G (.int (i / j)) := ev_int2C (g := fun i j => .int (i / j)) ha hb hc
theorem ev_pow {i j : Int} (ha : Ev K ta σ G (.int i)) (hb : Ev K tb σ G (.int j)) (hc : CPow i j) : Ev K (tOp (L2.rI CPow fun i j => .int (i ^ j.toNat)) ta tb) σ G (.int (i ^ j.toNat)) := ev_int2C (g := fun i j => .int (i ^ j.toNat)) ha hb hc
/-- st[k] = e -/
theorem s_put {i : Nat} {p : Addr} {xs : List V} {k : Int} {j : Nat} {v : V} (t : Tb K H) (hσ : σ[i]? = some (some (.ref p))) (h : H p = some (.lst xs)) (hk : ixN xs.length k = some j) (he : Ev K te σ H v) (q : ∀ H2, Ex H H2 → Tb K H2 → H2 p = some (.lst xs) → D.nx σ (upd H2 p (.lst (xs.set j v)))) : tAsg te (gSub (tVar i) (tC (.int k)) rSetL) D σ H :=
  atHv t he fun H2 e2 t2 => ⟨.ref p, hσ, p, xs, k, j, rfl, rfl, e2.l h, hk, q H2 e2 t2 (e2.l h)⟩
end
/-- the stream's two lists -/
structure St (S : SA) (cs : List Int) (a c m : Int) (H : Hp) : Prop where
  h1 : H S.1 = some (.lst [.ref S.2, .int a, .int c, .int m])
  h2 : H S.2 = some (.lst (cs.map V.int))
theorem St.up {S : SA} {cs : List Int} {a c m : Int} {H H2 : Hp} (h : St S cs a c m H) (e : Ex H H2) : St S cs a c m H2 := ⟨e.l h.1, e.l h.2⟩
/-- between the steps of one draw -/
structure Mid (K : PySem.W.Frag) (S : SA) (n : Nat) (G H0 H : Hp) (cs : List Int) (a m : Int) : Prop where
  ex : ∃ c : Int, St S cs a c m H ∧ 0 ≤ c ∧ c ≤ n
  a0 : 0 ≤ a
  m0 : 0 ≤ m
  m1 : m < 2147483647
  ne : S.1 ≠ S.2
  t : Tb K H
  g : GrS K S G H0 G H
section
variable {K : PySem.W.Frag} {S : SA} {n : Nat} {G H0 H H2 : Hp} {cs : List Int} {a m : Int}
theorem Mid.strm (h : Mid K S n G H0 H cs a m) : Strm S n H := let ⟨c, s, c0, c1⟩ := h.ex; ⟨⟨cs, a, c, m, s.h1, s.h2, h.a0, c0, c1, h.m0, h.m1⟩, h.ne⟩
theorem Mid.up (h : Mid K S n G H0 H cs a m) (e : Ex H H2) (t : Tb K H2) : Mid K S n G H0 H2 cs a m := by
  obtain ⟨c, s, c0, c1⟩ := id h.ex
  have g := (Gr.msk h.g.kn (Gr.skip (h.g.kn.un h.strm) e t) h.strm).1
  exact ⟨⟨c, s.up e, c0, c1⟩, h.a0, h.m0, h.m1, h.ne, t, h.g.trans g⟩
theorem Mid.sk (h : Mid K S n G H0 H cs a m) : Sk K S n G H := ⟨h.g.kn, h.strm⟩
end
section
variable {P : Program} {w : World} {K : PySem.W.Frag} {mg : Str → Option Value} {base : Heap}
abbrev N_l_draw : List Str := ["_law_stream", "_law_many", "_law_cell", "_law_digit", "_law_mixed_here"]
theorem sc_l_draw : FnScope N_l_draw ["_law_stream", "_law_many"] (defScope s_l_draw) := ⟨rfl, rfl, rfl, by decide +kernel, rfl, by decide +kernel, by decide +kernel⟩
def spDraw (K : PySem.W.Frag) : Sp := SpS K (ι := Int) (fun _ => 1) (fun i ws G => ws = [.int i] ∧ 0 < i ∧ i < 1073741824) (fun i _ v _ => ∃ r : Int, v = .int r ∧ 0 ≤ r ∧ r < i)
theorem cal_l_draw (T : Txt K mg) : Cal P w K mg base CX0 1 "_law_draw" ["_law_stream", "_law_many"] (spDraw K) := by
  refine cal_mk T.g_l_draw sc_l_draw (fun _ _ _ _ _ _ us hl => match us, hl with | [_, _], _ => rfl) (sps_len fun i vs G ⟨e, _⟩ => by rw [e]; rfl) (fun f cdv A outer s H vs Q E hr h => ?_)
  obtain ⟨many, S, n, G, ws, rfl, e, hn, ⟨rfl, h0, h1⟩, q⟩ := h
  have h0 : 0 < many := h0
  have h1 : many < 1073741824 := h1
  have hn : n + 1 ≤ 2 ^ 40 := hn
  obtain ⟨⟨cs, a, c, m, s1, s2, a0, c0, cn, m0, m1⟩, ne⟩ := e.st
  refine ⟨_, (pss_cons (ps_asg (pe_op op_add (pe_ix (xixL K) (pv 0) pe_int (fun _ _ => rfl)) pe_int) (pg_sub (pv 0) pe_int set_list)) (pss_cons (ps_while (passes_of rfl) (PW.pt (pw_and (pt_cmpR op_eq (pe_ix (xixL K) (pv 0) pe_int (fun _ _ => rfl)) pe_int (nomark _)) (pw_and1 (pt_cmpR (xneD K hr.units) (pe_ix (xixL K) (pv 0) pe_int (fun _ _ => rfl)) (pe_lst pa_nil) (nomark _))))) (pss_cons (ps_set (i := 2) sc_l_draw.nd rfl (by first | exact Or.inl rfl | exact Or.inr rfl) (pe_bm PySem.F.plainAttrs_list PySem.F.slot_list_pop PySem.F.type_list_pop mt_popAt (pe_ix (xixL K) (pv 0) pe_int (fun _ _ => rfl)) (pa_cons pe_int pa_nil))) (pss_cons (ps_asg (pe_op op_mod (pe_callTy call_int1 (by rfl) T.m_int (by decide +kernel) (pa_cons (pe_op op_add (pe_op op_add (pe_op op_mul (pe_ix (xixL K) (pv 0) pe_int (fun _ _ => rfl)) pe_int) (pv 2)) pe_int) pa_nil)) pe_int) (pg_sub (pv 0) pe_int set_list)) (pss_one (ps_asg (pe_ifExp (pt_cmpR op_ge (pv 2) (pe_op op_pow pe_int pe_int) (nomark _)) (pv 2) pe_int) (pg_sub (pv 0) pe_int set_list)))))) (pss_cons (ps_if (pt_cmpR op_gt (pe_ix (xixL K) (pv 0) pe_int (fun _ _ => rfl)) pe_int (nomark _)) (pss_cons (ps_set (i := 3) sc_l_draw.nd rfl (by first | exact Or.inl rfl | exact Or.inr rfl) (pe_op op_mod (pe_callTy call_int1 (by rfl) T.m_int (by decide +kernel) (pa_cons (pe_ix (xixL K) (pv 0) pe_int (fun _ _ => rfl)) pa_nil)) (pv 1))) (pss_cons (ps_asg (pe_op op_fdiv (pe_ix (xixL K) (pv 0) pe_int (fun _ _ => rfl)) (pv 1)) (pg_sub (pv 0) pe_int set_list)) (pss_one (ps_ret (pv 3))))) pss_nil) (pss_cons (ps_set (i := 4) sc_l_draw.nd rfl (by first | exact Or.inl rfl | exact Or.inr rfl) (pe_op op_mod (pe_callTy call_int1 (by rfl) T.m_int (by decide +kernel) (pa_cons (pe_op op_pow (pe_op op_add (pe_op op_add (pe_ix (xixL K) (pv 0) pe_int (fun _ _ => rfl)) (pe_op op_mul pe_int (pe_ix (xixL K) (pv 0) pe_int (fun _ _ => rfl)))) pe_int) pe_int) pa_nil)) pe_int)) (pss_one (ps_ret (pe_op op_mod (pe_op op_mod (pe_callTy call_int1 (by rfl) T.m_int (by decide +kernel) (pa_cons (pe_op op_pow (pe_op op_add (pe_op op_add (pe_op op_mul (pv 4) pe_int) (pe_op op_mul pe_int (pe_ix (xixL K) (pv 0) pe_int (fun _ _ => rfl)))) pe_int) pe_int) pa_nil)) pe_int) (pv 1)))))))), ?_⟩
  have tH : Tb K H := e.k.tb
  refine s_put tH rfl s1 (j := 2) rfl (ev_add (ev_cell rfl s1 rfl) ev_c) fun H1 e1 t1 l1 => ?_
  have M1 : Mid K S (n + 1) G H (upd H1 S.1 (.lst [.ref S.2, .int a, .int (c + 1), .int m])) cs a m := by
    have g := (Gr.msk e.kn (Gr.skip e.k e1 t1) e.st).1
    refine ⟨⟨c + 1, ⟨upd_same, by rw [upd_ne (Ne.symm ne)]; exact e1.l s2⟩, by omega, by omega⟩, a0, m0, m1, ne, tb_lst t1 l1, ?_⟩
    show Gr K G (msk S H) G (msk S (upd H1 S.1 _))
    rw [msk_upd1]
    exact g
  refine ⟨fun k σ' H' => (∃ x y z, σ' = [some (.ref S.1), some (.int many), x, y, z]) ∧ ∃ cs a m, k = cs.length ∧ Mid K S (n + 1) G H H' cs a m, ⟨_, ⟨_, _, _, rfl⟩, cs, a, m, rfl, M1⟩, ?_⟩
  rintro k σ' H' ⟨⟨x, y, z, rfl⟩, cs, a, m, rfl, M⟩
  obtain ⟨c, st, c0, c1⟩ := id M.ex
  refine (et_and (a := decide (a = 0)) (b := !decide (cs = [])) (et_cmp (ev_eqi (ev_cell rfl st.h1 rfl) ev_c)) fun _ => et_cmp (ev_ne_nil (R := rI) (enc := PyData.int) (by decide) (er_of (ev_cell rfl st.h1 rfl) ⟨S.2, _, rfl, SqL.of st.h2, int_allR⟩))) H' ⟨exr _, M.t⟩ _ fun H2 g2 => ?_
  have M2 := M.up g2.hh g2.kn.tb
  have st2 := st.up g2.hh
  by_cases hb : (decide (a = 0) && !decide (cs = [])) = true
  · rw [if_pos hb]
    cases cs with
    | nil => simp at hb
    | cons z0 cs =>
      refine ⟨fun σ3 H4 => (∃ x y z, σ3 = [some (.ref S.1), some (.int many), x, y, z]) ∧ ∃ a m, Mid K S (n + 1) G H H4 cs a m, fun σ3 H4 ⟨h3, a3, m3, h4⟩ => ⟨cs.length, Nat.lt_succ_self _, h3, cs, a3, m3, rfl, h4⟩, ?_⟩
      refine ⟨.ref S.1, rfl, S.1, _, 0, .ref S.2, rfl, rfl, SqL.of st2.h1, rfl, .inl ⟨rfl, _, SqL.of st2.h2⟩, S.2, _, 0, 0, .int z0, rfl, rfl, st2.h2, by decide, by decide, ?_, rfl, ?_⟩
      · exact (ixN_seq (show ixN (((z0 :: cs).map V.int).length) 0 = some 0 by simp [ixN])).1
      have tl : (((z0 :: cs).map V.int).eraseIdx 0) = cs.map V.int := rfl
      rw [tl]
      have M3 : Mid K S (n + 1) G H (upd H2 S.2 (.lst (cs.map V.int))) cs a m :=
        ⟨⟨c, ⟨by rw [upd_ne M.ne]; exact st2.h1, upd_same⟩, c0, c1⟩, M.a0, M.m0, M.m1, M.ne, tb_lst M2.t st2.h2, by
          show Gr K G (msk S H) G (msk S (upd H2 S.2 _))
          rw [msk_upd2]
          exact M2.g⟩
      revert M3
      generalize upd H2 S.2 (.lst (cs.map V.int)) = H3
      intro M3
      obtain ⟨c3, st3, c30, c31⟩ := id M3.ex
      refine s_put (σ := [some (.ref S.1), some (.int many), some (.int z0), y, z]) M3.t rfl st3.h1 (j := 3) rfl (ev_mod (ev_int (ev_add (ev_add (ev_mul (ev_cell rfl st3.h1 rfl) ev_c ?_) (ev_var rfl)) ev_c)) ev_c ?_) fun H4 e4 t4 l4 => ?_
      · exact .inr ⟨by decide, by decide⟩
      · show (0 : Int) < 2147483647; decide
      have M4 : Mid K S (n + 1) G H (upd H4 S.1 (.lst [.ref S.2, .int a, .int c3, .int ((m * 8191 + z0 + 3) % 2147483647)])) cs a ((m * 8191 + z0 + 3) % 2147483647) := by
        have M4 := M3.up e4 t4
        refine ⟨⟨c3, ⟨upd_same, by rw [upd_ne (Ne.symm M.ne)]; exact (st3.up e4).h2⟩, c30, c31⟩, M.a0, Int.emod_nonneg _ (by decide), Int.emod_lt_of_pos _ (by decide), M.ne, tb_lst t4 l4, ?_⟩
        show Gr K G (msk S H) G (msk S (upd H4 S.1 _))
        rw [msk_upd1]
        exact M4.g
      dsimp only
      rw [show ([V.ref S.2, V.int a, V.int c3, V.int m] : List V).set 3 (V.int ((m * 8191 + z0 + 3) % 2147483647)) = [V.ref S.2, V.int a, V.int c3, V.int ((m * 8191 + z0 + 3) % 2147483647)] from rfl]
      revert M4
      generalize upd H4 S.1 (.lst [.ref S.2, .int a, .int c3, .int ((m * 8191 + z0 + 3) % 2147483647)]) = H5
      intro M5
      obtain ⟨c5, st5, c50, c51⟩ := id M5.ex
      refine s_put (σ := [some (.ref S.1), some (.int many), some (.int z0), y, z]) M5.t rfl st5.h1 (j := 1) rfl (v := .int (if decide ((10 : Int) ^ (18 : Int).toNat ≤ z0) = true then z0 else 0)) (ev_if (b := decide ((10 : Int) ^ (18 : Int).toNat ≤ z0)) (et_cmp (ev_ge (ev_var rfl) (ev_pow ev_c ev_c ⟨by decide, by decide, by decide⟩))) (fun h => by rw [if_pos h]; exact ev_var rfl) fun h => by rw [if_neg (by rw [h]; exact Bool.false_ne_true)]; exact ev_c) fun H6 e6 t6 l6 => ?_
      refine ⟨⟨_, _, _, rfl⟩, _, _, ⟨⟨c5, ⟨upd_same, by rw [upd_ne (Ne.symm M.ne)]; exact (st5.up e6).h2⟩, c50, c51⟩, ?_, M5.m0, M5.m1, M.ne, tb_lst t6 l6, ?_⟩⟩
      · split
        · rename_i h
          have h := of_decide_eq_true h
          exact Int.le_trans (by decide) h
        · exact Int.le_refl _
      · show Gr K G (msk S H) G (msk S (upd H6 S.1 _))
        rw [msk_upd1]
        exact (M5.up e6 t6).g
  · rw [if_neg hb]
    refine q_if (G := H2) (b := decide (0 < a)) ⟨exr _, M2.t⟩ (et_cmp (ev_gt (ev_cell rfl st2.h1 rfl) ev_c)) (fun hy H3 g3 => ?_) fun hno H3 g3 => ?_
    · have M3 := M2.up g3.hh g3.kn.tb
      have st3 := st2.up g3.hh
      refine qv_asg (G := H3) (v := .int (a % many)) ⟨exr _, M3.t⟩ (ev_mod (ev_int (ev_cell rfl st3.h1 rfl)) (ev_var rfl) h0) fun H4 g4 => ?_
      have M4 := M3.up g4.hh g4.kn.tb
      have st4 := st3.up g4.hh
      refine s_put M4.t rfl st4.h1 (j := 1) rfl (ev_fdiv (ev_cell rfl st4.h1 rfl) (ev_var rfl) ⟨h0, h1⟩) fun H5 e5 t5 l5 => ?_
      have M5 := M4.up e5 t5
      have st5 := st4.up e5
      have M6 : Mid K S (n + 1) G H (upd H5 S.1 (.lst [.ref S.2, .int (a / many), .int c, .int m])) cs (a / many) m :=
        ⟨⟨c, ⟨upd_same, by rw [upd_ne (Ne.symm M.ne)]; exact st5.h2⟩, c0, c1⟩, Int.ediv_nonneg M.a0 (Int.le_of_lt h0), M.m0, M.m1, M.ne, tb_lst t5 l5, by
          show Gr K G (msk S H) G (msk S (upd H5 S.1 _))
          rw [msk_upd1]
          exact M5.g⟩
      refine ⟨.int (a % many), rfl, q _ _ _ M6.g M6.sk ⟨_, rfl, Int.emod_nonneg _ (Int.ne_of_gt h0), Int.emod_lt_of_pos _ h0⟩⟩
    · have M3 := M2.up g3.hh g3.kn.tb
      have st3 := st2.up g3.hh
      have cb : c < 2 ^ 41 := by omega
      refine qv_asg (G := H3) (v := .int ((m + 7919 * c + 104729) ^ (5 : Int).toNat % 2147483629)) ⟨exr _, M3.t⟩ (ev_mod (ev_int (ev_pow (ev_add (ev_add (ev_cell rfl st3.h1 rfl) (ev_mul ev_c (ev_cell rfl st3.h1 rfl) ?_)) ev_c) ev_c ?_)) ev_c ?_) fun H4 g4 => ?_
      · exact .inl ⟨by decide, by decide⟩
      · refine ⟨by decide, by decide, ?_⟩
        have := M.m0
        have := M.m1
        omega
      · show (0 : Int) < 2147483629; decide
      have M4 := M3.up g4.hh g4.kn.tb
      have st4 := st3.up g4.hh
      obtain ⟨u, hu⟩ : ∃ u, u = (m + 7919 * c + 104729) ^ (5 : Int).toNat % 2147483629 := ⟨_, rfl⟩
      have u0 : 0 ≤ u := by rw [hu]; exact Int.emod_nonneg _ (by decide)
      have u1 : u < 2147483629 := by rw [hu]; exact Int.emod_lt_of_pos _ (by decide)
      rw [← hu]
      refine sv_ret (G := H4) (v := .int ((u * 48271 + 30011 * c + 29) ^ (3 : Int).toNat % 1000000007 % many)) ⟨exr _, M4.t⟩ (ev_mod (ev_mod (ev_int (ev_pow (ev_add (ev_add (ev_mul (ev_var rfl) ev_c ?_) (ev_mul ev_c (ev_cell rfl st4.h1 rfl) ?_)) ev_c) ev_c ?_)) ev_c ?_) (ev_var rfl) h0) fun H5 g5 => ?_
      · exact .inr ⟨by decide, by decide⟩
      · exact .inl ⟨by decide, by decide⟩
      · refine ⟨by decide, by decide, ?_⟩
        omega
      · show (0 : Int) < 1000000007; decide
      have M5 := M4.up g5.hh g5.kn.tb
      exact q _ _ _ M5.g M5.sk ⟨_, rfl, Int.emod_nonneg _ (Int.ne_of_gt h0), Int.emod_lt_of_pos _ h0⟩
end
end Ob
set_option maxRecDepth 100000
set_option maxHeartbeats 4000000
/-! Kg3: pick, mixed. -/
namespace Ob
open PySem PySem.Spec PyProof.Rows L2
/-- xs.pop(i) -/
theorem xpop (K : PySem.W.Frag) {X : Cx} {o e : Expr} {es : List Expr} {to : TE} {t : TA} {apos cpos : Pos} (ho : PE X o to) (ha : PA X (e :: es) t) (hbase : attributeBase o "pop" X.env (eval o X.env) = eval o X.env := by rfl)
    (hfew : ((backTo cpos (starEach (e :: es) X.env)).all (fun x => !x.1) && (backToKw cpos (keywordEach [] X.env)).all (fun x => x.1.isSome)
      && decide ((e :: es).length + ([] : List Keyword).length + (if ([] : List Keyword).isEmpty then 0 else 1) < 30)) = true := by rfl)
    (hline : (apos.endLine == cpos.line) = true := by rfl) (hs : starEach (e :: es) X.env = (false, eval e X.env) :: starEach es X.env := by rfl) (hplain : (backTo cpos (starEach es X.env)).any (·.1) = false := by rfl) (hK : X.K = K := by rfl) :
    PE X (.Call (.Attribute o "pop" apos) (e :: es) [] cpos) (tBM K "list" rPopAt to t) := by
  subst hK
  exact pe_bm PySem.F.plainAttrs_list PySem.F.slot_list_pop PySem.F.type_list_pop mt_popAt ho ha hbase hfew hline hs hplain
theorem msk_upd {S : SA} {H : Hp} {p : Addr} {o : HO} (h1 : p ≠ S.1) (h2 : p ≠ S.2) : msk S (upd H p o) = upd (msk S H) p o := by
  funext b
  by_cases hb : b = p
  · rw [hb, upd_same, msk_o h1 h2, upd_same]
  · rw [upd_ne hb]
    unfold msk
    by_cases q : b = S.1 ∨ b = S.2
    · rw [if_pos q, if_pos q]
    · rw [if_neg q, if_neg q, upd_ne hb]
section
variable {K : PySem.W.Frag} {S : SA} {n m l : Nat} {σ : L2.St} {G G0 G2 H H0 H2 : Hp} {ta tb te : TE} {α β ι : Type} {R : Rp α} {D : Ends} {tz : TS} {p : Addr} {o : HO}
/-- a list of ours changes -/
theorem GrS.mut {xs : List V} (g : GrS K S G0 H0 G H) (s : Sk K S n G H) (h1 : G p = none) (h2 : msk S H0 p = none) (h3 : H p = some (.lst xs)) (n1 : p ≠ S.1) (n2 : p ≠ S.2) : GrS K S G0 H0 G (upd H p o) ∧ Sk K S n G (upd H p o) := by
  have g2 : GrS K S G0 H0 G (upd H p o) := by
    show Gr K G0 (msk S H0) G (msk S (upd H p o))
    rw [msk_upd n1 n2]
    exact Gr.mut g h1 h2 (by rw [msk_o n1 n2]; exact h3)
  obtain ⟨⟨cs, a, c, x, q1, q2, q3⟩, hn⟩ := s.st
  exact ⟨g2, g2.kn, ⟨⟨cs, a, c, x, by rw [upd_ne (Ne.symm n1)]; exact q1, by rw [upd_ne (Ne.symm n2)]; exact q2, q3⟩, hn⟩⟩
theorem Sk.ne (s : Sk K S n G H) {xs : List V} (h : H p = none) : p ≠ S.1 ∧ p ≠ S.2 := by
  obtain ⟨ys, h1⟩ := s.st.at1
  obtain ⟨zs, h2⟩ := s.st.at2
  exact ⟨fun z => absurd h (by rw [z, h1]; simp), fun z => absurd h (by rw [z, h2]; simp)⟩
theorem msk_l {xs : List V} (n1 : p ≠ S.1) (n2 : p ≠ S.2) (h : H p = some (.lst xs)) (g : GrS K S G H G2 H2) : H2 p = some (.lst xs) := by
  have h3 := g.hh.l (show msk S H p = some (.lst xs) by rw [msk_o n1 n2]; exact h)
  rw [msk_o n1 n2] at h3
  exact h3
theorem AllR.erase {H : Hp} : ∀ {xs : List α} {vs : List V} (k : Nat), AllR R xs vs H → AllR R (xs.eraseIdx k) (vs.eraseIdx k) H
  | [], [], _, _ => trivial
  | _ :: _, _ :: _, 0, h => h.2
  | _ :: _, _ :: _, k + 1, h => ⟨h.1, AllR.erase k h.2⟩
  | [], _ :: _, _, h => h.elim
  | _ :: _, [], _, h => h.elim
theorem perm_erase {xs : List α} {k : Nat} {x : α} (h : xs[k]? = some x) : (x :: xs.eraseIdx k).Perm xs := by
  induction xs generalizing k with
  | nil => cases h
  | cons y ys ih =>
    cases k with
    | zero => cases h; exact List.Perm.refl _
    | succ k => exact (List.Perm.swap _ _ _).trans ((ih h).cons y)
end
section
variable {P : Program} {w : World} {K : PySem.W.Frag} {mg : Str → Option Value} {base : Heap}
abbrev N_l_pick : List Str := ["_law_stream", "_law_some"]
theorem sc_l_pick : FnScope N_l_pick ["_law_stream", "_law_some"] (defScope s_l_pick) := ⟨rfl, rfl, rfl, by decide +kernel, rfl, by decide +kernel, by decide +kernel⟩
def spPick (K : PySem.W.Frag) {α : Type} (R : Rp α) : Sp := SpS K (ι := List α) (fun _ => 1) (fun i ws G => A1 (rL K R) i ws G ∧ 0 < i.length ∧ i.length ≤ 1000000) (fun i _ v G2 => ∃ x ∈ i, R x v G2)
theorem cal_l_pick (T : Txt K mg) {α : Type} (R : Rp α) [Mo R] : Cal P w K mg base CX0 2 "_law_pick" ["_law_stream", "_law_some"] (spPick K R) := by
  refine cal_mk T.g_l_pick sc_l_pick (fun _ _ _ _ _ _ us hl => match us, hl with | [_, _], _ => rfl) (sps_len fun i vs G ⟨⟨_, e, _⟩, _⟩ => by rw [e]; rfl) (fun f cdv A outer s H vs Q E hr h => ?_)
  obtain ⟨xs, S, n, G, ws, rfl, e, hn, ⟨⟨a, rfl, hx⟩, h0, h1⟩, q⟩ := h
  have hx : rL K R xs a G := hx
  have h0 : 0 < xs.length := h0
  have h1 : xs.length ≤ 1000000 := h1
  refine ⟨_, (pss_one (ps_ret (pe_ix (xixL K) (pv 1) (pe_cal (cal_l_draw T) (hr.mono (by decide)) (by rfl) pass0 (pa_cons (pv 0) (pa_cons (pe_callB (xlen K) (by rfl) T.m_len PySem.boot_len (pa_cons (pv 1) pa_nil)) pa_nil))) (fun _ _ => rfl)))), ?_⟩
  refine ⟨a, rfl, ?_⟩
  have hd : ∀ E1 σ, σ[0]? = some (some (.ref S.1)) → σ[1]? = some (some a) → EvS K S (tCall (spDraw K) [] E1 (tCons (tVar 0) (tCons (tCB (Evl.rLenS K) (tCons (tVar 1) tNil)) tNil))) σ G n (n + 1) (fun v _ => ∃ r : Int, v = .int r ∧ 0 ≤ r ∧ r < (xs.length : Int)) := fun E1 σ e0 e1 =>
    es_call (xs.length : Int) e0 (ebs_of (eb_one (R := fun v _ => v = .int (xs.length : Int)) (er_of (ev_len (er_var e1 hx)) rfl))) rfl hn (fun vs G2 _ ⟨v, e, ev⟩ => ⟨by rw [e, ev], by omega, by omega⟩) fun _ _ _ _ p => p
  refine hd _ _ rfl rfl H e _ fun v G2 H2 g s ⟨r, ev, r0, r1⟩ => ?_
  obtain ⟨b, vs, rfl, h2, h3⟩ := hx
  obtain ⟨k, rfl⟩ := Int.eq_ofNat_of_zero_le r0
  have hk : k < xs.length := by omega
  have hk2 : k < vs.length := by rw [← h3.length]; exact hk
  have e1 : vs[k]? = some vs[k] := List.getElem?_eq_getElem hk2
  obtain ⟨x, ex, rx⟩ := h3.get e1
  exact ⟨b, vs, (k : Int), vs[k], rfl, ev, ex_l (g.kk.trans s.k.ex) h2, atI_nat e1, q _ G2 H2 g s ⟨x, List.mem_of_getElem? ex, Mo.mo g.kk rx⟩⟩

abbrev N_l_mixed : List Str := ["_law_stream", "_law_some", "_law_left", "_law_k"]
theorem sc_l_mixed : FnScope N_l_mixed ["_law_stream", "_law_some"] (defScope s_l_mixed) := ⟨rfl, rfl, rfl, by decide +kernel, rfl, by decide +kernel, by decide +kernel⟩
def spMixed (K : PySem.W.Frag) {α : Type} (R : Rp α) : Sp := SpS K (ι := List α) (fun i => i.length) (fun i ws G => A1 (rQ K R) i ws G ∧ i.length ≤ 1000000) (fun i G v G2 => ∃ ys, ys.Perm i ∧ rF G R ys v G2)
theorem cal_l_mixed (T : Txt K mg) {α : Type} (R : Rp α) [Mo R] : Cal P w K mg base CX0 2 "_law_mixed" ["_law_stream", "_law_some"] (spMixed K R) := by
  refine cal_mk T.g_l_mixed sc_l_mixed (fun _ _ _ _ _ _ us hl => match us, hl with | [_, _], _ => rfl) (sps_len fun i vs G ⟨⟨_, e, _⟩, _⟩ => by rw [e]; rfl) (fun f cdv A outer s H vs Q E hr h => ?_)
  obtain ⟨xs, S, n, G, ws, rfl, e, hn, ⟨⟨a, rfl, hx⟩, h1⟩, q⟩ := h
  have hx : rQ K R xs a G := hx
  have h1 : xs.length ≤ 1000000 := h1
  have hn : n + xs.length ≤ 2 ^ 40 := hn
  refine ⟨_, (pss_cons (ps_set (i := 2) sc_l_mixed.nd rfl (by first | exact Or.inl rfl | exact Or.inr rfl) (pe_callTy (xlistof K) (by rfl) T.m_list (by decide +kernel) (pa_cons (pv 1) pa_nil))) (pss_one (ps_ret (pe_lc (own := [("_law_k", 3)]) (g := gName 3) rfl sc_l_mixed.nd (pi_range1 (by rfl) T.m_range (pa_cons (pe_callB (xlen K) (by rfl) T.m_len PySem.boot_len (pa_cons (pv 2) pa_nil)) pa_nil)) (blkOk_by (own := [("_law_k", 3)]) (N := N_l_mixed) (by kernel_rfl)) (fun _ _ _ _ _ => pg_name (i := 3) sc_l_mixed.nd rfl (by first | exact Or.inl rfl | exact Or.inr rfl)) (fun _ _ _ _ _ => pts_nil) (fun _ _ _ _ _ => (xpop K (pv 2) (pa_cons (pe_cal (cal_l_draw T) (hr.mono (by decide)) (by rfl) pass0 (pa_cons (pv 0) (pa_cons (pe_callB (xlen K) (by rfl) T.m_len PySem.boot_len (pa_cons (pv 2) pa_nil)) pa_nil))) pa_nil))))))), ?_⟩
  refine qn_asg e.k (en_listof hx rfl) fun p vs1 G1 H1 hp hgp g1 hl1 r1 => ?_
  obtain ⟨g1, s1⟩ := e.go g1
  have ps := e.ne (xs := vs1) hp
  have hpm : msk S H p = none := by rw [msk_o ps.1 ps.2]; exact hp
  show tLc _ _ _ _ _ [some (.ref S.1), some a, some (.ref p), none] H1 _
  refine ⟨.ref p, rfl, p, vs1, rfl, .inl (SqL.of hl1), (vs1.length : Int), rfl, by have := r1.length; omega, by have := r1.length; omega, fun Dd hD => ?_⟩
  have ds := s1.ne (xs := vs1) hD
  have hDm : msk S H1 Dd = none := by rw [msk_o ds.1 ds.2]; exact hD
  have hD0 : msk S H Dd = none := g1.hh.no _ hDm
  have hDG : G1 Dd = none := g1.kn.ex.no _ hDm
  have hpD : p ≠ Dd := fun z => by rw [← z, hl1] at hD; cases hD
  have gD := s1.go (Gr.skip s1.k (Ex.new (o := .lst []) hD) (tb_new s1.k.tb hD))
  refine ⟨fun i m H' => m = xs.length - i ∧ i ≤ xs.length ∧ ∃ G' xs' vs' ys ws, GrS K S G H G' H' ∧ Sk K S (n + i) G' H' ∧ G' p = none ∧ G' Dd = none ∧ H' p = some (.lst vs') ∧ AllR R xs' vs' G' ∧ xs'.length + i = xs.length ∧ H' Dd = some (.lst ws) ∧ AllR R ys ws G' ∧ (xs' ++ ys).Perm xs,
    ⟨xs.length, rfl, Nat.zero_le _, G1, xs, vs1, [], [], g1.trans gD.1, gD.2, hgp, hDG, by rw [upd_ne hpD]; exact hl1, r1, rfl, upd_same, trivial, by rw [List.append_nil]⟩, ?_⟩
  rintro i mm H' ⟨rfl, hi, G', xs', vs', ys, ws, gg, ss, Gp, GD, lp, rx, hlen, lD, ry, hperm⟩
  have hvl : vs1.length = xs.length := r1.length.symm
  by_cases hlt : i < xs.length
  · refine .inr ⟨by show i < ((vs1.length : Int)).toNat; rw [hvl]; simpa using hlt, fun H2 => ∃ G' xs' vs' ys ws, GrS K S G H G' H2 ∧ Sk K S (n + (i + 1)) G' H2 ∧ G' p = none ∧ G' Dd = none ∧ H2 p = some (.lst vs') ∧ AllR R xs' vs' G' ∧ xs'.length + (i + 1) = xs.length ∧ H2 Dd = some (.lst ws) ∧ AllR R ys ws G' ∧ (xs' ++ ys).Perm xs, fun H2 h => ⟨xs.length - (i + 1), by omega, rfl, hlt, h⟩, fun x H2 hy => ?_⟩
    obtain ⟨rfl, -⟩ := hy
    refine ⟨rfl, ?_⟩
    refine et_yes (K := K) H2 ss.k _ fun H3 g3 => iteT ?_
    obtain ⟨g3, s3⟩ := ss.go g3
    have lp3 := msk_l ps.1 ps.2 lp g3
    have lD3 := msk_l ds.1 ds.2 lD g3
    have hd : ∀ E1 σ (QQ : VK), σ[0]? = some (some (.ref S.1)) → σ[2]? = some (some (.ref p)) → (∀ (r : Int) G4 H4, 0 ≤ r → r < (vs'.length : Int) → GrS K S G' H3 G4 H4 → Sk K S (n + (i + 1)) G4 H4 → QQ (.int r) H4) → (tCall (spDraw K) [] E1 (tCons (tVar 0) (tCons (tCB (Evl.rLenS K) (tCons (tVar 2) tNil)) tNil))) σ H3 QQ := fun E1 σ QQ e0 e1 qq =>
      ⟨.ref S.1, e0, .ref p, e1, p, vs', rfl, .inl (SqL.of lp3), (vs'.length : Int), S, n + i, G', [.int (vs'.length : Int)], rfl, s3, by show n + i + 1 ≤ _; omega, ⟨rfl, by have := rx.length; omega, by have := rx.length; omega⟩, fun v G4 H4 g4 s4 ⟨r, ev, r0, r1⟩ => by rw [ev]; exact qq r G4 H4 r0 r1 g4 s4⟩
    refine ⟨.ref p, rfl, .inl ⟨rfl, vs', SqL.of lp3⟩, ?_⟩
    refine hd _ _ _ rfl rfl fun r G4 H4 r0 r1 g4 s4 => ?_
    obtain ⟨k, rfl⟩ := Int.eq_ofNat_of_zero_le r0
    have hk2 : k < vs'.length := by omega
    have ev1 : vs'[k]? = some vs'[k] := List.getElem?_eq_getElem hk2
    obtain ⟨x, ex, rx1⟩ := rx.get ev1
    have lp4 := msk_l ps.1 ps.2 lp3 g4
    have lD4 := msk_l ds.1 ds.2 lD3 g4
    have gA := gg.trans (g3.trans g4)
    have Gp4 : G4 p = none := gA.sp p (e.kn.ex.no _ hpm) |> fun _ => g4.sp p Gp (hidden (by rw [msk_o ps.1 ps.2]; exact lp3))
    have GD4 : G4 Dd = none := g4.sp Dd GD (hidden (by rw [msk_o ds.1 ds.2]; exact lD3))
    refine ⟨p, vs', (k : Int), k, vs'[k], rfl, rfl, lp4, by omega, by have := rx.length; omega, (ixN_seq (show ixN vs'.length (k : Int) = some k by unfold ixN; rw [if_pos (by omega), if_pos (by omega)]; rfl)).1, ev1, ?_⟩
    obtain ⟨gB, sB⟩ := GrS.mut (o := .lst (vs'.eraseIdx k)) gA s4 Gp4 hpm lp4 ps.1 ps.2
    have lD5 : upd H4 p (.lst (vs'.eraseIdx k)) Dd = some (.lst ws) := by rw [upd_ne (Ne.symm hpD)]; exact lD4
    refine ⟨ws, lD5, Nat.lt_of_le_of_lt (by have := ry.length; have := hperm.length_eq; rw [List.length_append] at this; omega) (by decide : 1000000 < sizeLine), ?_⟩
    obtain ⟨gC, sC⟩ := GrS.mut (o := .lst (ws ++ [vs'[k]])) gB sB GD4 hD0 lD5 ds.1 ds.2
    refine ⟨G4, xs'.eraseIdx k, vs'.eraseIdx k, ys ++ [x], ws ++ [vs'[k]], gC, sC, Gp4, GD4, by rw [upd_ne hpD, upd_same], (rx.mono g4.kk).erase k, ?_, upd_same, (ry.mono g4.kk).append ⟨Mo.mo g4.kk rx1, trivial⟩, ?_⟩
    · have hkx : k < xs'.length := (List.getElem?_eq_some_iff.mp ex).1
      rw [List.length_eraseIdx_of_lt hkx]
      omega
    · refine List.Perm.trans ?_ hperm
      have h2 := perm_erase ex
      have h3 : (xs'.eraseIdx k ++ (ys ++ [x])).Perm ((x :: xs'.eraseIdx k) ++ ys) := by
        rw [← List.append_assoc]
        refine (List.perm_append_comm).trans ?_
        exact List.Perm.refl _
      exact h3.trans (h2.append_right ys)
  · have ei : i = xs.length := by omega
    subst ei
    refine .inl ⟨by show ((vs1.length : Int)).toNat ≤ xs.length; rw [hvl]; simp, ?_⟩
    have hnil : xs' = [] := List.eq_nil_of_length_eq_zero (by omega)
    subst hnil
    rw [List.nil_append] at hperm
    have lDm : msk S H' Dd = some (.lst ws) := by rw [msk_o ds.1 ds.2]; exact lD
    have gE : GrS K S G H (upd G' Dd (.lst ws)) H' := Gr.plus gg hD0 lDm GD
    exact q (.ref Dd) _ _ gE ⟨gE.kn, ss.st⟩ ⟨ys, hperm, Dd, ws, rfl, e.kn.ex.no _ hD0, upd_same, ry.mono (Ex.new GD)⟩
end
end Ob
set_option maxRecDepth 100000
set_option maxHeartbeats 4000000
/-! Kg4: loose, each_once, d_names. -/
namespace Ob
open PySem PySem.Spec PyProof.Rows L2
theorem _root_.L2.Room.u65 {k : Nat} {A : Around} (r : L2.Room k A) : A.units + 65 < cLine := by have := r.un; omega
section
variable {K : PySem.W.Frag} {S : SA} {n m l c : Nat} {σ : L2.St} {G G0 G2 H H0 H2 : Hp} {ta tb te : TE} {α β ι : Type} {R U : Rp α} {D : Ends} {tz : TS}
/-- [e for a in xs], the e may draw (at most c numbers each) -/
theorem es_lcW {wi : TI} {j : Nat} {ns : List Nat} {Q : VK} [Mo R] [Mo U] (C : List α → Prop) (e : Sk K S n G H) (hw : ∀ R' : It → Hp → Prop, (∀ J G1 H1 (xs : List α), GrS K S G H G1 H1 → Sk K S m G1 H1 → Wk K J R xs G1 → C xs → R' J H1) → wi σ H R') (hz : ∀ xs, C xs → xs.length < 10000000) (hwp : ∀ x : V, wipe ((wipe σ ns).set j (some x)) ns = wipe σ ns)
    (turn : ∀ xs, C xs → ∀ i a x G2, xs[i]? = some a → Ex G G2 → R a x G2 → EvS K S te ((wipe σ ns).set j (some x)) G2 (m + i * c) (m + (i + 1) * c) (U a))
    (q : ∀ xs, C xs → ∀ p vs G2 H2, msk S H p = none → p ≠ S.1 → p ≠ S.2 → G2 p = none → GrS K S G H G2 H2 → Sk K S (m + xs.length * c) G2 H2 → H2 p = some (.lst vs) → AllR U xs vs G2 → Q (.ref p) H2) : tLc wi (gName j) tYes te ns σ H Q := hw _ fun J G1 H1 xs g1 s1 wk hC Dd hD => by
  have hz := hz xs hC
  have turn := turn xs hC
  have q := q xs hC
  have ds := s1.ne (xs := []) hD
  have hDm : msk S H1 Dd = none := by rw [msk_o ds.1 ds.2]; exact hD
  have hD0 : msk S H Dd = none := g1.hh.no _ hDm
  have hDG : G1 Dd = none := g1.kn.ex.no _ hDm
  have gD := s1.go (Gr.skip s1.k (Ex.new (o := .lst []) hD) (tb_new s1.k.tb hD))
  refine ⟨fun i k H' => k = xs.length - i ∧ i ≤ xs.length ∧ ∃ G' ws, Ex G1 G' ∧ GrS K S G H G' H' ∧ Sk K S (m + i * c) G' H' ∧ G' Dd = none ∧ H' Dd = some (.lst ws) ∧ AllR U (xs.take i) ws G',
    ⟨xs.length, rfl, Nat.zero_le _, G1, [], exr _, g1.trans gD.1, by rw [Nat.zero_mul, Nat.add_zero]; exact gD.2, hDG, upd_same, trivial⟩, ?_⟩
  rintro i k H' ⟨rfl, hi, G', ws, e1, gg, ss, GD, lD, rw1⟩
  by_cases hlt : i < xs.length
  · refine .inr ⟨wk.go i H' hlt ⟨e1.trans ss.k.ex, ss.k.tb⟩, fun H2 => ∃ G' ws, Ex G1 G' ∧ GrS K S G H G' H2 ∧ Sk K S (m + (i + 1) * c) G' H2 ∧ G' Dd = none ∧ H2 Dd = some (.lst ws) ∧ AllR U (xs.take (i + 1)) ws G', fun H2 h => ⟨xs.length - (i + 1), by omega, rfl, hlt, h⟩, fun x H2 hy => ?_⟩
    obtain ⟨a, G2, ea, g2, ra⟩ := (wk.mono e1).yld i H' x H2 hlt ss.k hy
    obtain ⟨g2, s2⟩ := ss.go g2
    have lD2 := msk_l ds.1 ds.2 lD g2
    have GD2 : G2 Dd = none := g2.sp Dd GD (hidden (by rw [msk_o ds.1 ds.2]; exact lD))
    refine ⟨hwp x, et_yes (K := K) H2 s2.k _ fun H3 g3 => iteT ?_⟩
    obtain ⟨g3, s3⟩ := s2.go g3
    have lD3 := msk_l ds.1 ds.2 lD2 g3
    have eGG : Ex G G2 := (g1.kk.trans e1).trans g2.kk
    refine turn i a x G2 ea eGG ra H3 s3 _ fun v G4 H4 g4 s4 r4 => ?_
    have lD4 := msk_l ds.1 ds.2 lD3 g4
    have GD4 : G4 Dd = none := g4.sp Dd GD2 (hidden (by rw [msk_o ds.1 ds.2]; exact lD3))
    have gA := ((gg.trans g2).trans g3).trans g4
    have hl : ws.length = i := by have := rw1.length; rw [List.length_take] at this; omega
    refine ⟨ws, lD4, Nat.lt_of_lt_of_le (show ws.length < 10000000 by omega) (by decide), ?_⟩
    obtain ⟨gB, sB⟩ := GrS.mut (o := .lst (ws ++ [v])) gA s4 GD4 hD0 lD4 ds.1 ds.2
    refine ⟨G4, ws ++ [v], (e1.trans g2.kk).trans g4.kk, gB, sB, GD4, upd_same, ?_⟩
    rw [List.take_add_one, ea]
    exact (rw1.mono (g2.kk.trans g4.kk)).append ⟨r4, trivial⟩
  · have ei : i = xs.length := by omega
    subst ei
    refine .inl ⟨wk.stop H' ⟨e1.trans ss.k.ex, ss.k.tb⟩, ?_⟩
    rw [List.take_length] at rw1
    exact q Dd ws G' H' hD0 ds.1 ds.2 GD gg ss lD rw1
theorem es_lcH {wi : TI} {j : Nat} {ns : List Nat} [Mo R] [Mo U] {xs : List α} (hw : EwS K S wi σ G n m R xs) (hz : xs.length < 10000000) (hwp : ∀ x : V, wipe ((wipe σ ns).set j (some x)) ns = wipe σ ns)
    (turn : ∀ i a x G2, xs[i]? = some a → Ex G G2 → R a x G2 → EvS K S te ((wipe σ ns).set j (some x)) G2 (m + i * c) (m + (i + 1) * c) (U a)) :
    ∀ H, Sk K S n G H → ∀ Q : VK, (∀ p vs G2 H2, msk S H p = none → p ≠ S.1 → p ≠ S.2 → G2 p = none → GrS K S G H G2 H2 → Sk K S (m + xs.length * c) G2 H2 → H2 p = some (.lst vs) → AllR U xs vs G2 → Q (.ref p) H2) → tLc wi (gName j) tYes te ns σ H Q := fun H e Q q =>
  es_lcW (R := R) (U := U) (fun ys => ys = xs) e (fun R' k => hw H e R' fun J G1 H1 g1 s1 wk => k J G1 H1 xs g1 s1 wk rfl) (fun ys h => by rw [h]; exact hz) hwp (fun ys h => by subst h; exact turn) (fun ys h => by subst h; exact q)
theorem es_lcN {wi : TI} {j : Nat} {ns : List Nat} [Mo R] [Mo U] {xs : List α} (hw : EwS K S wi σ G n m R xs) (hz : xs.length < 10000000) (hwp : ∀ x : V, wipe ((wipe σ ns).set j (some x)) ns = wipe σ ns)
    (turn : ∀ i a x G2, xs[i]? = some a → Ex G G2 → R a x G2 → EvS K S te ((wipe σ ns).set j (some x)) G2 (m + i * c) (m + (i + 1) * c) (U a)) :
    EvS K S (tLc wi (gName j) tYes te ns) σ G n (m + xs.length * c) (rF G U xs) := fun H e Q q => es_lcH hw hz hwp turn H e Q fun Dd ws G' H' hD0 n1 n2 GD gg ss lD rw1 => by
  have lDm : msk S H' Dd = some (.lst ws) := by rw [msk_o n1 n2]; exact lD
  have gE : GrS K S G H (upd G' Dd (.lst ws)) H' := Gr.plus gg hD0 lDm GD
  exact q (.ref Dd) _ _ gE ⟨gE.kn, ss.st⟩ ⟨Dd, ws, rfl, e.kn.ex.no _ hD0, upd_same, rw1.mono (Ex.new GD)⟩
theorem er_tupofL [Mo U] {xs : List α} (h : EvP K te σ G (rL K U) xs) : EvP K (tCB (rTupOf K) (tCons te tNil)) σ G (rT K U) xs := fun H e Q q =>
  h H e _ fun v G2 H2 g ⟨p, vs, e1, h1, h2⟩ => ⟨p, vs, by rw [e1], .inl ⟨ex_l g.kh h1, fun l hn => q (.ref l) (upd G2 l (.tup vs)) _ (g.trans (Gr.new g.kn hn)) ⟨l, vs, rfl, SqT.of upd_same, h2.mono (Ex.new (g.kh.no _ hn))⟩⟩⟩
theorem es_draw {E : XK} {j : Nat} {many : Int} (hs : σ[j]? = some (some (.ref S.1))) (h : Ev K te σ G (.int many)) (h0 : 0 < many) (h1 : many < 1073741824) (hl : n + 1 ≤ 2 ^ 40) : EvS K S (tCall (spDraw K) [] E (tCons (tVar j) (tCons te tNil))) σ G n (n + 1) (fun v _ => ∃ r : Int, v = .int r ∧ 0 ≤ r ∧ r < many) :=
  es_call many hs (ebs_of (eb_one (R := fun v _ => v = .int many) (er_of h rfl))) rfl hl (fun vs G2 _ ⟨v, e, ev⟩ => ⟨by rw [e, ev], h0, h1⟩) fun _ _ _ _ p => p
/-- a if draw == k else b -/
theorem es_if {T : V → Hp → Prop} {k : Int} (hd : EvS K S te σ G n m (fun v _ => ∃ r : Int, v = .int r)) (h1 : EvR K ta σ G T) (h2 : EvR K tb σ G T) [MoP T] : EvS K S (tIf (tTest (tOp rEq te (tC (.int k)))) ta tb) σ G n m T := fun H e Q q =>
  hd H e _ fun v G2 H2 g s ⟨r, ev⟩ => by
    subst ev
    refine ⟨rfl, decide (V.int r = V.int k), rfl, ?_⟩
    have fin : ∀ {te : TE}, EvR K te σ G T → te σ H2 Q := fun h => (h.mono g.kk) H2 s.k _ fun v G3 H3 g3 r3 => q v G3 H3 (g.trans (s.go g3).1) (s.go g3).2 r3
    generalize decide (V.int r = V.int k) = b
    cases b with
    | true => exact iteT (fin h1)
    | false => exact iteF (fin h2)
end
section
variable {P : Program} {w : World} {K : PySem.W.Frag} {mg : Str → Option Value} {base : Heap}
abbrev N_l_loose : List Str := ["_law_stream", "_law_thing", "_law_part", "_law_found"]
theorem sc_l_loose : FnScope N_l_loose ["_law_stream", "_law_thing"] (defScope s_l_loose) := ⟨rfl, rfl, rfl, by decide +kernel, rfl, by decide +kernel, by decide +kernel⟩
def spLoose (K : PySem.W.Frag) {α : Type} (R U : Rp α) (c : Nat) : Sp := SpS K (ι := α) (fun _ => c) (fun i ws G => A1 R i ws G) (fun i _ v G2 => U i v G2)
theorem cal_l_loose (T : Txt K mg) {α : Type} {R U : Rp α} [Mo R] [Mo U] {k c0 : Nat} (hk : 1 ≤ k) (c : Cal P w K mg base CX0 k "_law_loose" ["_law_stream", "_law_thing"] (spLoose K R U c0)) (hc0 : c0 ≤ 1000000) :
    Cal P w K mg base CX0 (k + 1) "_law_loose" ["_law_stream", "_law_thing"] (SpS K (ι := List α) (fun i => i.length * c0 + 1) (fun i ws G => A1 (rQ K R) i ws G ∧ i.length ≤ 1000) (fun i _ v G2 => rQ K U i v G2)) := by
  refine cal_mk T.g_l_loose sc_l_loose (fun _ _ _ _ _ _ us hl => match us, hl with | [_, _], _ => rfl) (sps_len fun i vs G ⟨⟨_, e, _⟩, _⟩ => by rw [e]; rfl) (fun f cdv A outer s H vs Q E hr h => ?_)
  obtain ⟨xs, S, n, G, ws, rfl, e, hn, ⟨⟨a, rfl, hx⟩, h1⟩, q⟩ := h
  have hx : rQ K R xs a G := hx
  have h1 : xs.length ≤ 1000 := h1
  have hn : n + (xs.length * c0 + 1) ≤ 2 ^ 40 := hn
  refine ⟨_, (pss_cons (ps_if (pt_not (pt_val (pe_callB (xisiT K) (by rfl) T.m_isinstance boot_isinstance (pa_cons (pv 1) (pa_cons (pe_tup (pa_cons (pe_bltn (v := .ty "list") (by rfl) T.m_list (by decide +kernel) rfl) (pa_cons (pe_bltn (v := .ty "tuple") (by rfl) T.m_tuple (by decide +kernel) rfl) pa_nil))) pa_nil))))) (pss_one (ps_ret (pv 1))) pss_nil) (pss_cons (ps_setLc (i := 3) (own := [("_law_part", 2)]) (g := gName 2) rfl sc_l_loose.nd rfl rfl (sw_true rfl rfl rfl (by decide +kernel)) (PI.or (xlist K (pv 1)) (xtup K (pv 1))) (blkOk_by (own := [("_law_part", 2)]) (N := N_l_loose) (by kernel_rfl)) (fun _ _ _ _ _ => pg_name (i := 2) sc_l_loose.nd rfl (by first | exact Or.inl rfl | exact Or.inr rfl)) (fun _ _ _ _ _ => pts_nil) (fun _ _ _ _ _ => (pe_cal c (hr.mono (Nat.le_refl _)) (by rfl) pass0 (pa_cons (pv 0) (pa_cons (pv 2) pa_nil))))) (pss_one (ps_ret (pe_ifExp (pt_cmpR op_eq (pe_cal (cal_l_draw T) (hr.mono hk) (by rfl) pass0 (pa_cons (pv 0) (pa_cons pe_int pa_nil))) pe_int (nomark _)) (pv 3) (pe_callTy (xtupof K) (by rfl) T.m_tuple (by decide +kernel) (pa_cons (pv 3) pa_nil))))))), ?_⟩
  refine qs_no e (et_is (et_not (et_val (ev_isKind (er_var rfl hx.kind)))) rfl) fun H1 g1 s1 => ?_
  refine qs_asg s1 (es_lcN (R := R) (U := U) (c := c0) (ews_of (ew_listQ (er_varQ rfl hx))) (by omega) (fun _ => rfl) fun i x v G2 ex e2 rx => es_call x rfl (ebs_of (eb_a1 (R := R) (er_var rfl rx))) (by rw [Nat.succ_mul, ← Nat.add_assoc]) ?_ (fun vs G3 _ h => h) fun _ _ _ _ p => p) fun v G2 H2 g2 s2 r2 => ?_
  · have hi := (List.getElem?_eq_some_iff.mp ex).1
    have h3 : (i + 1) * c0 ≤ xs.length * c0 := Nat.mul_le_mul_right _ hi
    omega
  · have r2 : rF G U xs v G2 := r2
    refine ss_ret s2 (es_if (T := rQ K U xs) ((es_draw rfl ev_c (by decide) (by decide) (by omega)).imp fun _ _ _ ⟨r, h, _⟩ => ⟨r, h⟩) ((er_var (R := rL K U xs) rfl r2.l).imp fun _ _ _ h => .inl h) ((er_tupofL (er_var rfl r2.l)).imp fun _ _ _ h => .inr h)) fun v3 G3 H3 g3 s3 r3 => q v3 G3 H3 ((g1.trans g2).trans g3) (by rw [← Nat.add_assoc]; exact s3) r3
abbrev N_l_each_once : List Str := ["_law_things_here", "_law_found", "_law_thing"]
theorem sc_l_each_once : FnScope N_l_each_once ["_law_things_here"] (defScope s_l_each_once) := ⟨rfl, rfl, rfl, by decide +kernel, rfl, by decide +kernel, by decide +kernel⟩
def spOnce (K : PySem.W.Frag) : Sp := SpG K (ι := List Pr) (fun i vs G => A1 (rPs K) i vs G ∧ i.length ≤ 1000000) (fun i G v G2 => ∃ ys : List Pr, ys.Nodup ∧ (∀ p, p ∈ ys ↔ p ∈ i) ∧ ys.length ≤ i.length ∧ rF G (rP K rS rS) ys v G2)
theorem cal_l_each_once (T : Txt K mg) : Cal P w K mg base CX0 1 "_law_each_once" ["_law_things_here"] (spOnce K) := by
  refine cal_mk T.g_l_each_once sc_l_each_once (fun _ _ _ _ _ _ us hl => match us, hl with | [_], _ => rfl) (spg_len fun i vs G ⟨⟨_, e, _⟩, _⟩ => by rw [e]; rfl) (fun f cdv A outer s H vs Q E hr h => ?_)
  obtain ⟨xs, G, eG, ⟨⟨a, rfl, hx⟩, h1⟩, q⟩ := h
  have hx : rPs K xs a G := hx
  have h1 : xs.length ≤ 1000000 := h1
  refine ⟨_, (pss_cons (ps_set (i := 1) sc_l_each_once.nd rfl (by first | exact Or.inl rfl | exact Or.inr rfl) (pe_lst pa_nil)) (pss_cons (ps_for (g := gName 2) (passes_of rfl) rfl (xlist K (pv 0)) (pg_name (i := 2) sc_l_each_once.nd rfl (by first | exact Or.inl rfl | exact Or.inr rfl)) (pss_one (ps_if (pt_cmpR (xninD K hr.u65) (pv 2) (pv 1) (by rfl)) (pss_one (ps_expr (pe_bm PySem.F.plainAttrs_list PySem.F.slot_list_append PySem.F.type_list_append mt_append (pv 1) (pa_cons (pv 2) pa_nil)))) pss_nil))) (pss_one (ps_ret (pv 1))))), ?_⟩
  refine qn_asg eG (en_nil (R := rP K rS rS)) fun p ws G2 H2 hp hg g hlp r => ?_
  refine q_for (R := rP K rS rS) (xs := xs) g.kn (ew_list (er_var rfl (Mo.mo g.kk hx))) (fun i σ' G' H' => (∃ x, σ' = [some a, some (.ref p), x]) ∧ Gr K G H G' H' ∧ G' p = none ∧ ∃ ys ws, ys.Nodup ∧ (∀ p, p ∈ ys ↔ p ∈ xs.take i) ∧ ys.length ≤ i ∧ H' p = some (.lst ws) ∧ AllR (rP K rS rS) ys ws G') (fun G3 H3 g3 => ⟨⟨_, rfl⟩, g.trans g3, g3.sp p hg (hidden hlp), [], ws, List.nodup_nil, by simp, Nat.le_refl _, g3.hh.l hlp, r.mono g3.kk⟩) ?_ ?_
  · rintro i l v σ' G' H' G3 H3 el ⟨⟨x, rfl⟩, gg, hgp, ys, us, nd, hm, hlen, hu, ru⟩ _ _ g3 rl
    have rl : rP K rS rS l v G3 := rl
    show tIfS _ _ _ _ [some a, some (.ref p), some v] H3
    have g4 := gg.trans g3
    have p3 : G3 p = none := g3.sp p hgp (hidden hu)
    have hu3 := g3.hh.l hu
    have ru3 := ru.mono g3.kk
    have il := (List.getElem?_eq_some_iff.mp el).1
    have htk : xs.take (i + 1) = xs.take i ++ [l] := by rw [List.take_add_one, el]; rfl
    refine s_if (b := !decide (l ∈ ys)) (kn_plus g4.kn hu3) (et_cmp (ev_is (ev_ninG (R := rP K rS rS) (R2 := rP K rS rS) (enc := ePP) (k := 0 + 0 + 1) (by decide) (er_var rfl (Mo.mo (Ex.new p3) rl)) (er_var rfl ⟨p, us, rfl, SqL.of upd_same, ru3.mono (Ex.new p3)⟩)) (congrArg (fun b => V.bl (!b)) (by by_cases h : l ∈ ys <;> simp [h])))) (fun hy H5 g5 => ?_) fun hno H5 g5 => ?_
    · have hy : l ∉ ys := by simpa using hy
      refine s_app (R := fun w _ => w = v) (p := p) (vs := us) (Gr.skip g4.kn g5.hh g5.kn.tb).kn (g5.hh.l hu3) rfl (er_var rfl rfl) (by have := ru3.length; omega) fun w G6 H6 g6 r6 => ?_
      have r6 : w = v := r6
      subst r6
      have gs : Gr K G3 H3 G3 H5 := Gr.skip g4.kn g5.hh g5.kn.tb
      obtain ⟨a1, a2, a3⟩ := (g4.trans gs).loop (o := .lst (us ++ [w])) p3 hp (g5.hh.l hu3) g6
      refine ⟨rm G6 p, g3.kk.trans a2, a1.kn, ⟨_, rfl⟩, a1, rm_same, ys ++ [l], us ++ [w], ?_, ?_, ?_, upd_same, (ru3.mono a2).append ⟨Mo.mo a2 rl, trivial⟩⟩
      · rw [List.nodup_append]
        exact ⟨nd, by simp, fun b hb c hc => by rw [List.mem_singleton.mp hc]; exact fun z => hy (z ▸ hb)⟩
      · intro q
        rw [htk, List.mem_append, List.mem_append, hm q]
      · rw [List.length_append]; simp; omega
    · have hno : l ∈ ys := by simpa using hno
      have gs : Gr K G3 H3 G3 H5 := Gr.skip g4.kn g5.hh g5.kn.tb
      refine ⟨G3, g3.kk, gs.kn, ⟨_, rfl⟩, g4.trans gs, p3, ys, us, nd, ?_, by omega, g5.hh.l hu3, ru3⟩
      intro q
      rw [htk, List.mem_append, List.mem_singleton, hm q]
      constructor
      · exact .inl
      · rintro (h | rfl)
        · exact h
        · exact (hm q).mp hno
  · rintro σ' G' H' ⟨⟨x, rfl⟩, gg, hgp, ys, us, nd, hm, hlen, hu, ru⟩ _ _
    rw [List.take_length] at hm
    have gp := gg.plus hp hu hgp
    exact sv_ret gp.kn (ev_var rfl) fun H4 g4 => q _ _ H4 (gp.trans g4) ⟨ys, nd, hm, hlen, p, us, rfl, eG.ex.no _ hp, upd_same, ru.mono (Ex.new hgp)⟩

abbrev N_l_d_names : List Str := ["_law_stream", "_law_many", "_law_some"]
theorem sc_l_d_names : FnScope N_l_d_names ["_law_stream", "_law_many"] (defScope s_l_d_names) := ⟨rfl, rfl, rfl, by decide +kernel, rfl, by decide +kernel, by decide +kernel⟩
def spNames (K : PySem.W.Frag) : Sp := SpS K (ι := Nat) (fun _ => 10) (fun i ws G => ws = [.int (i : Int)] ∧ i ≤ 10) (fun i G v G2 => ∃ ys : Lot, ys.Nodup ∧ (∀ x ∈ ys, x ∈ tenN) ∧ ys.length = i ∧ rF G rS ys v G2)
theorem cal_l_d_names (T : Txt K mg) : Cal P w K mg base CX0 3 "_law_d_names" ["_law_stream", "_law_many"] (spNames K) := by
  refine cal_mk T.g_l_d_names sc_l_d_names (fun _ _ _ _ _ _ us hl => match us, hl with | [_, _], _ => rfl) (sps_len fun i vs G ⟨e, _⟩ => by rw [e]; rfl) (fun f cdv A outer s H vs Q E hr h => ?_)
  obtain ⟨i, S, n, G, ws, rfl, e, hn, ⟨rfl, h1⟩, q⟩ := h
  have h1 : i ≤ 10 := h1
  have hn : n + 10 ≤ 2 ^ 40 := hn
  refine ⟨_, (pss_cons (ps_set (i := 2) sc_l_d_names.nd rfl (by first | exact Or.inl rfl | exact Or.inr rfl) (pe_lst (pa_cons pe_str (pa_cons pe_str (pa_cons pe_str (pa_cons pe_str (pa_cons pe_str (pa_cons pe_str (pa_cons pe_str (pa_cons pe_str (pa_cons pe_str (pa_cons pe_str pa_nil)))))))))))) (pss_one (ps_ret (pe_slice (xslL K) (pe_cal (cal_l_mixed T rS) (hr.mono (by decide)) (by rfl) pass0 (pa_cons (pv 0) (pa_cons (pv 2) pa_nil))) po_none (po_some (pv 1)))))), ?_⟩
  have okT : ∀ x ∈ tenN, PyData.strOk x = true := fun x hx => (ten_ok hx).2
  refine ⟨(by decide : 10 ≤ sizeLine), fun p hp => ?_⟩
  have g1 : Gr K G H (upd G p (.lst (tenN.map V.str))) (upd H p (.lst (tenN.map V.str))) := Gr.new e.k hp
  obtain ⟨g1, s1⟩ := e.go g1
  have hG : G p = none := e.k.ex.no _ hp
  unfold gName
  dsimp only
  have hmx : ∀ E1 σ, σ[0]? = some (some (.ref S.1)) → σ[2]? = some (some (.ref p)) → EvS K S (tCall (spMixed K rS) [] E1 (tCons (tVar 0) (tCons (tVar 2) tNil))) σ (upd G p (.lst (tenN.map V.str))) n (n + 10) (fun v G2 => ∃ ys : Lot, ys.Perm tenN ∧ rL K rS ys v G2) := fun E1 σ e0 e1 =>
    es_call tenN e0 (ebs_of (eb_a1 (R := rQ K rS) (x := tenN) (er_var e1 (.inl ⟨p, _, rfl, SqL.of upd_same, str_allR okT⟩)))) rfl hn (fun vs G2 _ h => ⟨h, by decide⟩) fun Gc v G2 _ ⟨ys, hp, r⟩ => ⟨ys, hp, r.l⟩
  refine hmx _ ((L2.start N_l_d_names [V.ref S.1, V.int (i : Int)]).set 2 (some (.ref p))) rfl rfl _ s1 _ fun v G2 H2 g2 s2 ⟨ys, hperm, b, vs, ev, hb, hv⟩ => ?_
  subst ev
  refine ⟨.int (i : Int), rfl, (i : Int), rfl, ?_⟩
  have hlen : ys.length = 10 := hperm.length_eq
  have hvl : vs.length = 10 := by rw [← hv.length]; exact hlen
  refine ⟨b, vs, rfl, ex_l s2.k.ex hb, fun l hn2 => ?_⟩
  have gn := s2.go (Gr.new (o := .lst (cutV vs none (some (i : Int)))) s2.k hn2)
  have hlG : G l = none := e.k.ex.no l (by
    have h3 : msk S H2 l = none := by
      unfold msk
      split
      · rfl
      · exact hn2
    have h4 : msk S (upd H p (.lst (tenN.map V.str))) l = none := g2.hh.no l h3
    have h5 : msk S H l = none := g1.hh.no l h4
    by_cases z1 : l = S.1
    · obtain ⟨xs, q1⟩ := s2.st.at1; rw [z1, q1] at hn2; cases hn2
    · by_cases z2 : l = S.2
      · obtain ⟨xs, q1⟩ := s2.st.at2; rw [z2, q1] at hn2; cases hn2
      · rw [msk_o z1 z2] at h5; exact h5)
  refine q (.ref l) _ _ ((g1.trans g2).trans gn.1) gn.2 ⟨ys.take i, (hperm.nodup_iff.mpr (by decide)).sublist (List.take_sublist ..), fun x hx => hperm.mem_iff.mp (List.mem_of_mem_take hx), by rw [List.length_take]; omega, l, _, rfl, hlG, upd_same, ?_⟩
  rw [cut_take (by omega)]
  exact (hv.take i).mono (Ex.new (s2.k.ex.no _ hn2))
end
end Ob
set_option maxRecDepth 100000
set_option maxHeartbeats 4000000
/-! Kg5: loose of texts, of pairs; a debate is made. -/
namespace Ob
open PySem PySem.Spec PyProof.Rows L2
section
variable {P : Program} {w : World} {K : PySem.W.Frag} {mg : Str → Option Value} {base : Heap}
theorem loose0 (T : Txt K mg) : Cal P w K mg base CX0 2 "_law_loose" ["_law_stream", "_law_thing"] (spLoose K rS rS 0) := by
  refine cal_mk T.g_l_loose sc_l_loose (fun _ _ _ _ _ _ us hl => match us, hl with | [_, _], _ => rfl) (sps_len fun i vs G ⟨_, e, _⟩ => by rw [e]; rfl) (fun f cdv A outer s H vs Q E hr h => ?_)
  obtain ⟨x, S, n, G, ws, rfl, e, hn, ⟨a, rfl, hx⟩, q⟩ := h
  have hx : rS x a G := hx
  refine ⟨_, (pss_cons (ps_if (pt_not (pt_val (pe_callB (xisiT K) (by rfl) T.m_isinstance boot_isinstance (pa_cons (pv 1) (pa_cons (pe_tup (pa_cons (pe_bltn (v := .ty "list") (by rfl) T.m_list (by decide +kernel) rfl) (pa_cons (pe_bltn (v := .ty "tuple") (by rfl) T.m_tuple (by decide +kernel) rfl) pa_nil))) pa_nil))))) (pss_one (ps_ret (pv 1))) pss_nil) pss_never), ?_⟩
  refine qs_if e (b := true) (et_is (et_not (et_val (ev_isKind (x := false) (er_var rfl ⟨"str", by rw [hx.1]; exact .base (.str x), by decide +kernel⟩)))) rfl) (fun _ H1 g1 s1 => ?_) fun z => by cases z
  exact ss_ret s1 (es_of (er_var (R := rS x) rfl hx)) fun v G2 H2 g2 s2 r2 => q v G2 H2 (g1.trans g2) s2 r2
theorem loose1 (T : Txt K mg) : Cal P w K mg base CX0 3 "_law_loose" ["_law_stream", "_law_thing"] (SpS K (ι := Lot) (fun i => i.length * 0 + 1) (fun i ws G => A1 (rQ K rS) i ws G ∧ i.length ≤ 1000) (fun i _ v G2 => rQ K rS i v G2)) :=
  cal_l_loose T (by decide) (loose0 T) (by decide)
theorem looseP (T : Txt K mg) : Cal P w K mg base CX0 3 "_law_loose" ["_law_stream", "_law_thing"] (spLoose K (rP K rS rS) (rPrQ K) 1) :=
  (loose1 T).imp fun vs H Q E ⟨p, S, n, G, ws, e1, e2, e3, ⟨v, e4, r⟩, q⟩ => ⟨[p.1, p.2], S, n, G, ws, e1, e2, e3, ⟨⟨v, e4, by
    obtain ⟨a, u, w, h1, h2, h3, h4⟩ := r
    exact .inr ⟨a, [u, w], h1, h2, h3, h4, trivial⟩⟩, (by decide : 2 ≤ 1000)⟩, fun v G2 H2 g s r => q v G2 H2 g s r⟩
theorem loose2 (T : Txt K mg) : Cal P w K mg base CX0 4 "_law_loose" ["_law_stream", "_law_thing"] (SpS K (ι := List Pr) (fun i => i.length * 1 + 1) (fun i ws G => A1 (rQ K (rP K rS rS)) i ws G ∧ i.length ≤ 1000) (fun i _ v G2 => rQ K (rPrQ K) i v G2)) :=
  cal_l_loose T (by decide) (looseP T) (by decide)
/-- the class Debate -/
structure DebMk (K : PySem.W.Frag) (mg : Str → Option Value) (cD : Addr) : Prop where
  g : mg "Debate" = some (.ref cD)
  c : DebC K cD
  made : ∃ fI fd, Mk K cD fI ∧ FunD K "__init__" "Debate.__init__" (defArgs s_initDebate) (defBody s_initDebate) (defScope s_initDebate) [] [] fI fd
theorem ok_init (T : Txt K mg) (Nm : Small mg) {cD : Addr} (D : DebMk K mg cD) : ∃ fI fd, Mk K cD fI ∧ FnOk P w K mg base CX0 7 fI fd ["self", "statements", "objections"] (spInit K cD) ∧ Binds K fd ["self", "statements", "objections"] [] := by
  obtain ⟨fI, fd, M, F⟩ := D.made
  exact ⟨fI, fd, M, F.ok sc_initDebate (fun vs H Q E ⟨a, dx, sv, ov, N, ps, G, Hc, e, _⟩ => by rw [e]; rfl) (fun cdv A outer s H vs Q E hr h => body_init T Nm D.c hr h), F.bindsN fun _ _ _ _ _ _ us hl => match us, hl with | [_, _, _], _ => rfl⟩
abbrev N_l_z_made : List Str := ["_law_stream", "_law_some"]
theorem sc_l_z_made : FnScope N_l_z_made ["_law_stream", "_law_some"] (defScope s_l_z_made) := ⟨rfl, rfl, rfl, by decide +kernel, rfl, by decide +kernel, by decide +kernel⟩
structure GoodD (N : Lot) (ps : List Pr) : Prop where
  nl : N.length ≤ 8
  pl : ps.length ≤ 1000
  nn : N.Nodup
  pn : ps.Nodup
  ok : ∀ x ∈ N, x ∈ tenN
  inn : ∀ p ∈ ps, p.1 ∈ N ∧ p.2 ∈ N
theorem GoodD.perm {N N' : Lot} {ps ps' : List Pr} (h : GoodD N ps) (h1 : N'.Perm N) (h2 : ps'.Perm ps) : GoodD N' ps' :=
  ⟨by rw [h1.length_eq]; exact h.nl, by rw [h2.length_eq]; exact h.pl, h1.nodup_iff.mpr h.nn, h2.nodup_iff.mpr h.pn, fun x hx => h.ok x (h1.mem_iff.mp hx), fun p hp => ⟨h1.mem_iff.mpr (h.inn p (h2.mem_iff.mp hp)).1, h1.mem_iff.mpr (h.inn p (h2.mem_iff.mp hp)).2⟩⟩
def spMade (K : PySem.W.Frag) : Sp := SpS K (ι := Lot × List Pr) (fun _ => 10000) (fun i ws G => A1 (rP K (rL K rS) (rPs K)) i ws G ∧ GoodD i.1 i.2) (fun i _ v G2 => ∃ N' ps', N'.Perm i.1 ∧ ps'.Perm i.2 ∧ rDeb K (debOf N' ps') v G2)
theorem cal_l_z_made (T : Txt K mg) (Nm : Small mg) {cD : Addr} (Dm : DebMk K mg cD) : Cal P w K mg base CX0 9 "_law_z_made" ["_law_stream", "_law_some"] (spMade K) := by
  obtain ⟨fI, fd, Mk2, F2, hB2⟩ := ok_init (P := P) (w := w) (base := base) T Nm Dm
  refine cal_mk T.g_l_z_made sc_l_z_made (fun _ _ _ _ _ _ us hl => match us, hl with | [_, _], _ => rfl) (sps_len fun i vs G ⟨⟨_, e, _⟩, _⟩ => by rw [e]; rfl) (fun f cdv A outer s H vs Q E hr h => ?_)
  obtain ⟨⟨N, ps⟩, S, n, G, ws, rfl, e, hn, ⟨⟨a, rfl, hx⟩, good⟩, q⟩ := h
  have hx : rP K (rL K rS) (rPs K) (N, ps) a G := hx
  have good : GoodD N ps := good
  have hn : n + 10000 ≤ 2 ^ 40 := hn
  have nl := good.nl
  have pl := good.pl
  refine ⟨_, (pss_one (ps_ret (pe_make Mk2 F2 (hr.mono (by decide)) (by rfl) Dm.g hB2 .nil pass0 (pa_cons (pe_cal (loose1 T) (hr.mono (by decide)) (by rfl) pass0 (pa_cons (pv 0) (pa_cons (pe_cal (cal_l_mixed T rS) (hr.mono (by decide)) (by rfl) pass0 (pa_cons (pv 0) (pa_cons (pe_ix (xixT K) (pv 1) pe_int (fun _ _ => rfl)) pa_nil))) pa_nil))) (pa_cons (pe_cal (loose2 T) (hr.mono (by decide)) (by rfl) pass0 (pa_cons (pv 0) (pa_cons (pe_cal (cal_l_mixed T (rP K rS rS)) (hr.mono (by decide)) (by rfl) pass0 (pa_cons (pv 0) (pa_cons (pe_ix (xixT K) (pv 1) pe_int (fun _ _ => rfl)) pa_nil))) pa_nil))) pa_nil))))), ?_⟩
  refine ss_ret (m := n + 10000) (R := fun v G2 => ∃ N' ps', N'.Perm N ∧ ps'.Perm ps ∧ rDeb K (debOf N' ps') v G2) e ?_ fun v G2 H2 g s r => q v G2 H2 g s r
  have a1 : ∀ E1 E2 σ, σ[0]? = some (some (.ref S.1)) → σ[1]? = some (some a) → EvS K S (tCall (SpS K (ι := Lot) (fun i => i.length * 0 + 1) (fun i ws G => A1 (rQ K rS) i ws G ∧ i.length ≤ 1000) (fun i _ v G2 => rQ K rS i v G2)) [] E1 (tCons (tVar 0) (tCons (tCall (spMixed K rS) [] E2 (tCons (tVar 0) (tCons (tOp (rIxT K) (tVar 1) (tC (.int 0))) tNil))) tNil))) σ G n (n + N.length + 1) (fun v G2 => ∃ N', N'.Perm N ∧ rQ K rS N' v G2) := fun E1 E2 σ e0 e1 => by
    have h1 : EvS K S (tCall (spMixed K rS) [] E2 (tCons (tVar 0) (tCons (tOp (rIxT K) (tVar 1) (tC (.int 0))) tNil))) σ G n (n + N.length) (fun v G2 => ∃ N' : Lot, N'.Perm N ∧ rL K rS N' v G2) :=
      es_call N e0 (ebs_of (eb_a1 (R := rQ K rS) (x := N) ((er_ixP1 (R := rL K rS) (S := rPs K) (p := (N, ps)) (er_var e1 hx)).imp fun _ _ _ h => .inl h))) rfl (by omega) (fun vs G2 _ h => ⟨h, by omega⟩) fun Gc v G2 _ ⟨ys, hp, r⟩ => ⟨ys, hp, r.l⟩
    intro H e Q q
    refine ⟨.ref S.1, e0, h1 H e _ fun v G2 H2 g s ⟨N', hp, r⟩ => ?_⟩
    have hl := hp.length_eq
    refine ⟨N', S, n + N.length, G2, [v], rfl, s, by show n + N.length + (N'.length * 0 + 1) ≤ _; omega, ⟨⟨v, rfl, .inl r⟩, by omega⟩, fun v G3 H3 g3 s3 r3 => q v G3 H3 (g.trans g3) ?_ ⟨N', hp, r3⟩⟩
    have : n + N.length + (N'.length * 0 + 1) = n + N.length + 1 := by omega
    rw [← this]
    exact s3
  have a2 : ∀ E1 E2 σ n1 G1, Ex G G1 → n1 + ps.length + ps.length + 1 ≤ 2 ^ 40 → σ[0]? = some (some (.ref S.1)) → σ[1]? = some (some a) → EvS K S (tCall (SpS K (ι := List Pr) (fun i => i.length * 1 + 1) (fun i ws G => A1 (rQ K (rP K rS rS)) i ws G ∧ i.length ≤ 1000) (fun i _ v G2 => rQ K (rPrQ K) i v G2)) [] E1 (tCons (tVar 0) (tCons (tCall (spMixed K (rP K rS rS)) [] E2 (tCons (tVar 0) (tCons (tOp (rIxT K) (tVar 1) (tC (.int 1))) tNil))) tNil))) σ G1 n1 (n1 + ps.length + ps.length + 1) (fun v G2 => ∃ N', N'.Perm ps ∧ rQ K (rPrQ K) N' v G2) := fun E1 E2 σ n1 G1 e1' hn1 e0 e1 => by
    have h1 : EvS K S (tCall (spMixed K (rP K rS rS)) [] E2 (tCons (tVar 0) (tCons (tOp (rIxT K) (tVar 1) (tC (.int 1))) tNil))) σ G1 n1 (n1 + ps.length) (fun v G2 => ∃ N' : List Pr, N'.Perm ps ∧ rPs K N' v G2) :=
      es_call ps e0 (ebs_of (eb_a1 (R := rQ K (rP K rS rS)) (x := ps) ((er_ixP2 (R := rL K rS) (S := rPs K) (p := (N, ps)) (er_var e1 (Mo.mo e1' hx))).imp fun _ _ _ h => .inl h))) rfl (by omega) (fun vs G2 _ h => ⟨h, by omega⟩) fun Gc v G2 _ ⟨ys, hp, r⟩ => ⟨ys, hp, r.l⟩
    intro H e Q q
    refine ⟨.ref S.1, e0, h1 H e _ fun v G2 H2 g s ⟨N', hp, r⟩ => ?_⟩
    have hl := hp.length_eq
    refine ⟨N', S, n1 + ps.length, G2, [v], rfl, s, by show n1 + ps.length + (N'.length * 1 + 1) ≤ _; omega, ⟨⟨v, rfl, .inl r⟩, by omega⟩, fun v G3 H3 g3 s3 r3 => q v G3 H3 (g.trans g3) ?_ ⟨N', hp, r3⟩⟩
    have : n1 + ps.length + (N'.length * 1 + 1) = n1 + ps.length + ps.length + 1 := by omega
    rw [← this]
    exact s3
  intro H e Q q
  refine a1 _ _ _ rfl rfl H e _ fun v1 G1 H1 g1 s1 ⟨N', hp1, r1⟩ => ?_
  refine a2 _ _ _ _ G1 g1.kk (by omega) rfl rfl H1 s1 _ fun v2 G2 H2 g2 s2 ⟨ps', hp2, r2⟩ => ?_
  intro x dx hx hdx hne
  have g3 := good.perm hp1 hp2
  refine ⟨x, dx, v1, v2, N', ps', G2, H2, rfl, s2.k, hx, hdx, hne, rfl, ⟨Mo.mo g2.kk r1, r2, g3.nl, g3.pl, g3.nn, g3.pn, fun x hx => ten_ok (g3.ok x hx), g3.inn⟩, fun G3 H3 g r => ⟨rfl, ?_⟩⟩
  obtain ⟨gg, ss⟩ := s2.go g
  exact q (.ref x) G3 H3 ((g1.trans g2).trans gg) ⟨ss.kn, ss.st.mono (by omega)⟩ ⟨N', ps', hp1, hp2, r⟩
end
end Ob
set_option maxRecDepth 100000
set_option maxHeartbeats 8000000
/-! Kg6: d_pairs. -/
namespace Ob
open PySem PySem.Spec PyProof.Rows L2
/-- something that C tells and that R stands for -/
def rEx {α β : Type} (C : β → Prop) (R : Rp β) : Rp α := fun _ v H => ∃ y, C y ∧ R y v H
instance {α β : Type} {C : β → Prop} {R : Rp β} [Mo R] : Mo (rEx (α := α) C R) := ⟨fun e ⟨y, h1, h2⟩ => ⟨y, h1, Mo.mo e h2⟩⟩
theorem allR_ex {α β : Type} {C : β → Prop} {R : Rp β} {H : Hp} : ∀ {xs : List α} {vs : List V}, AllR (rEx C R) xs vs H → ∃ ys : List β, ys.length = xs.length ∧ (∀ y ∈ ys, C y) ∧ AllR R ys vs H
  | [], [], _ => ⟨[], rfl, by simp, trivial⟩
  | x :: xs, v :: vs, ⟨⟨y, h1, h2⟩, h3⟩ => by
    obtain ⟨ys, k1, k2, k3⟩ := allR_ex h3
    exact ⟨y :: ys, by simp [k1], fun z hz => (List.mem_cons.mp hz).elim (fun e => by rw [e]; exact h1) (k2 z), h2, k3⟩
  | [], _ :: _, h => h.elim
  | _ :: _, [], h => h.elim
section
variable {K : PySem.W.Frag} {S : SA} {n m : Nat} {σ : L2.St} {G H : Hp} {te ti : TE}
theorem wk_rng {r : Nat} : Wk K (Itr 0 ((r : Int)).toNat) rI ((List.range r).map fun (k : Nat) => (k : Int)) G := ⟨fun i H3 hi _ => by
    show i < ((r : Int)).toNat
    simpa using hi, fun i H3 x H4 hi e3 y => by
    obtain ⟨y1, y2⟩ := y
    refine ⟨(i : Int), G, ?_, by rw [y1]; exact Gr.refl e3, ?_⟩
    · have hi' : i < r := by simpa using hi
      rw [List.getElem?_map, List.getElem?_range hi']
      rfl
    · show x = V.int (i : Int)
      rw [y2, Int.zero_add], fun H3 _ => by
    show ((r : Int)).toNat ≤ _
    simp⟩
/-- range(e), e may draw -/
theorem ews_range {B : Nat} (hB : B < 1000000) (h : EvS K S te σ G n m (fun v _ => ∃ r : Nat, v = .int (r : Int) ∧ r ≤ B)) {Q : It → Hp → Prop} (e : Sk K S n G H) (q : ∀ (r : Nat) J G2 H2, r ≤ B → GrS K S G H G2 H2 → Sk K S m G2 H2 → Wk K J rI ((List.range r).map fun (k : Nat) => (k : Int)) G2 → Q J H2) : iRng1 (tCons te tNil) σ H Q := h H e _ fun v G2 H2 g s ⟨r, ev, hr⟩ => by
  subst ev
  exact ⟨(r : Int), rfl, by omega, by omega, q r _ G2 H2 hr g s wk_rng⟩
end
section
variable {K : PySem.W.Frag} {S : SA} {n m : Nat} {σ : L2.St} {G H : Hp} {D : Ends} {tz : TS} {α : Type}
/-- for, of what C tells -/
theorem qs_forW {wi : TI} {g : TG} {tu : TS} {R : Rp α} [Mo R] (C : List α → Prop) (hw : ∀ R' : It → Hp → Prop, (∀ J G1 H1 (xs : List α), GrS K S G H G1 H1 → Sk K S m G1 H1 → Wk K J R xs G1 → C xs → R' J H1) → wi σ H R') (Pv : Nat → L2.St → Hp → Hp → Prop) (cost : Nat → Nat) (hc : ∀ i, cost i ≤ cost (i + 1))
    (h0 : ∀ G2 H2, GrS K S G H G2 H2 → Sk K S m G2 H2 → Strm S (cost 0) H2 ∧ Pv 0 σ G2 H2)
    (turn : ∀ xs, C xs → ∀ i a x σ' G' H' G2 H2, xs[i]? = some a → Pv i σ' G' H' → Ex G G' → Sk K S (cost i) G' H' → GrS K S G' H' G2 H2 → Sk K S (cost i) G2 H2 → R a x G2 → g x σ' H2 fun σ2 H3 => tu { D with nx := fun σ3 H4 => ∃ G4, Ex G' G4 ∧ Sk K S (cost (i + 1)) G4 H4 ∧ Pv (i + 1) σ3 G4 H4, ct := fun σ3 H4 => ∃ G4, Ex G' G4 ∧ Sk K S (cost (i + 1)) G4 H4 ∧ Pv (i + 1) σ3 G4 H4, bk := tz D } σ2 H3)
    (done : ∀ xs, C xs → ∀ σ' G' H', Pv xs.length σ' G' H' → Ex G G' → Sk K S (cost xs.length) G' H' → tz D σ' H') : tSeq (tFor wi g tu) tz D σ H := hw _ fun J G1 H1 xs g1 s1 wk hC => by
  refine ss_for (wi := fun _ H2 Q => Q J H2) (D := { D with nx := tz D }) (R := R) (xs := xs) (n := m) (m := m) (G := G1) (H := H1) s1 (fun H2 e Q q => q J G1 H2 (Gr.refl e.kn) e wk) Pv cost hc (fun G2 H2 g s => h0 G2 H2 (g1.trans g) s) (fun i a x σ' G' H' G2 H2 ex pv e1 => turn xs hC i a x σ' G' H' G2 H2 ex pv (g1.kk.trans e1)) fun σ' G' H' pv e1 => done xs hC σ' G' H' pv (g1.kk.trans e1)
end
section
variable {K : PySem.W.Frag} {σ : L2.St} {G H : Hp} {D : Ends} {tz tu : TS} {t : TT} {b : Bool}
/-- both ways go on alike -/
theorem q_ifJ (Pst : L2.St → Hp → Prop) (e : Kn K G H) (h : EvT K t σ G b) (rest : ∀ σ' H', Pst σ' H' → tz D σ' H') (h1 : b = true → ∀ H2, Gr K G H G H2 → (∀ σ' H', Pst σ' H' → tz D σ' H') → tu { D with nx := tz D } σ H2) (h2 : b = false → ∀ H2, Gr K G H G H2 → Pst σ H2) : tSeq (tIfS t tu tNext) tz D σ H :=
  q_if e h (fun hb H2 g => h1 hb H2 g rest) fun hb H2 g => rest σ H2 (h2 hb H2 g)
end
theorem sizes5 (n k : Nat) (hk : k < 5) (h0 : 0 < n) (hn : n ≤ 8) : ∃ m : Int, ([2, (n : Int) * n + 1, n + 2, 2 * n + 1, n + 1] : List Int)[k]? = some m ∧ 0 < m ∧ m ≤ 65 := by
  have h1 : n * n ≤ 8 * 8 := Nat.mul_le_mul hn hn
  have h2 : (n : Int) * n = ((n * n : Nat) : Int) := rfl
  have h3 : 0 ≤ ((n * n : Nat) : Int) := Int.natCast_nonneg _
  rw [h2]
  generalize n * n = j at *
  have hk2 : k = 0 ∨ k = 1 ∨ k = 2 ∨ k = 3 ∨ k = 4 := by omega
  rcases hk2 with rfl | rfl | rfl | rfl | rfl
  · exact ⟨_, rfl, by omega, by omega⟩
  · exact ⟨_, rfl, by omega, by omega⟩
  · exact ⟨_, rfl, by omega, by omega⟩
  · exact ⟨_, rfl, by omega, by omega⟩
  · exact ⟨_, rfl, by omega, by omega⟩
section
variable {K : PySem.W.Frag} {S : SA} {n m : Nat} {σ : L2.St} {G H : Hp} {te : TE} {t : TA}
def isInts (xs : List Int) : List V → Hp → Prop := fun vs _ => vs = xs.map V.int
instance {xs : List Int} : MoL (isInts xs) := ⟨fun _ h => h⟩
theorem eb_i0 : EvB K tNil σ G (isInts []) := fun H e Q q => eb_nil H e Q q
theorem eb_ic {i : Int} {xs : List Int} (h : Ev K te σ G (.int i)) (k : EvB K t σ G (isInts xs)) : EvB K (tCons te t) σ G (isInts (i :: xs)) := fun H e Q q => h H e _ fun H1 g1 => k H1 g1.kn _ fun vs G2 H2 g2 (r : vs = xs.map V.int) => q _ G2 H2 (g1.trans g2) (by rw [r]; rfl)
theorem es_drawR {E : XK} {j : Nat} {many : Int} (hs : σ[j]? = some (some (.ref S.1))) (h : EvR K te σ G (fun v _ => v = .int many)) (h0 : 0 < many) (h1 : many < 1073741824) (hl : n + 1 ≤ 2 ^ 40) : EvS K S (tCall (spDraw K) [] E (tCons (tVar j) (tCons te tNil))) σ G n (n + 1) (fun v _ => ∃ r : Int, v = .int r ∧ 0 ≤ r ∧ r < many) :=
  es_call many hs (ebs_of (eb_one (R := fun v _ => v = .int many) h)) rfl hl (fun vs G2 _ ⟨v, e, ev⟩ => ⟨by rw [e, ev], h0, h1⟩) fun _ _ _ _ p => p
theorem tc1 {Q : List V → Hp → Prop} (h : te σ H fun x H1 => Q [x] H1) : tCons te tNil σ H Q := h
theorem to1 {r : R2} {ta tb : TE} {Q : VK} (h : ta σ H fun x H1 => tb σ H1 fun y H2 => r x y H2 Q) : tOp r ta tb σ H Q := h
theorem ev_intb {b : Bool} (h : Ev K te σ G (.bl b)) : Ev K (tCB (fun xs H Q => (∃ i, xs = [.int i] ∧ Q (.int i) H) ∨ ∃ k, xs = [.bl k] ∧ Q (.int (if k then 1 else 0)) H) (tCons te tNil)) σ G (.int (if b then 1 else 0)) := fun H e Q q => h H e _ fun H2 g => .inr ⟨b, rfl, q H2 g⟩
end
section
variable {P : Program} {w : World} {K : PySem.W.Frag} {mg : Str → Option Value} {base : Heap}
abbrev N_l_d_pairs : List Str := ["_law_stream", "_law_names", "_law_way", "_law_many", "_law_found", "_law_k", "_law_one", "_law_other"]
theorem sc_l_d_pairs : FnScope N_l_d_pairs ["_law_stream", "_law_names"] (defScope s_l_d_pairs) := ⟨rfl, rfl, rfl, by decide +kernel, rfl, by decide +kernel, by decide +kernel⟩
def spPairs (K : PySem.W.Frag) : Sp := SpS K (ι := Lot) (fun _ => 1000) (fun i ws G => A1 (rL K rS) i ws G ∧ 0 < i.length ∧ i.length ≤ 8) (fun i G v G2 => ∃ ps : List Pr, ps.Nodup ∧ (∀ p ∈ ps, p.1 ∈ i ∧ p.2 ∈ i) ∧ ps.length ≤ 1000 ∧ rF G (rP K rS rS) ps v G2)
theorem cal_l_d_pairs (T : Txt K mg) : Cal P w K mg base CX0 3 "_law_d_pairs" ["_law_stream", "_law_names"] (spPairs K) := by
  refine cal_mk T.g_l_d_pairs sc_l_d_pairs (fun _ _ _ _ _ _ us hl => match us, hl with | [_, _], _ => rfl) (sps_len fun i vs G ⟨⟨_, e, _⟩, _⟩ => by rw [e]; rfl) (fun f cdv A outer s H vs Q E hr h => ?_)
  obtain ⟨N, S, n, G, ws, rfl, e, hn, ⟨⟨a, rfl, hx⟩, h0, h8⟩, q⟩ := h
  have hx : rL K rS N a G := hx
  have h0 : 0 < N.length := h0
  have h8 : N.length ≤ 8 := h8
  have hn : n + 1000 ≤ 2 ^ 40 := hn
  refine ⟨_, (pss_cons (ps_asg (g := gTup K 3 (gCons (gName 2) (gCons (gName 3) (gCons (gName 4) gNil)))) (pe_tup (pa_cons (pe_cal (cal_l_draw T) (hr.mono (by decide)) (by rfl) pass0 (pa_cons (pv 0) (pa_cons pe_int pa_nil))) (pa_cons (pe_callB (xlen K) (by rfl) T.m_len PySem.boot_len (pa_cons (pv 1) pa_nil)) (pa_cons (pe_lst pa_nil) pa_nil)))) (xgtup K (pgs_cons (pg_name (i := 2) sc_l_d_pairs.nd rfl (by first | exact Or.inl rfl | exact Or.inr rfl)) (pgs_cons (pg_name (i := 3) sc_l_d_pairs.nd rfl (by first | exact Or.inl rfl | exact Or.inr rfl)) (pgs_cons (pg_name (i := 4) sc_l_d_pairs.nd rfl (by first | exact Or.inl rfl | exact Or.inr rfl)) pgs_nil))))) (pss_cons (ps_if (PW.pt (pw_and (pt_cmpR op_eq (pv 2) pe_int (nomark _)) (pw_and1 (pt_cmpR op_gt (pv 3) pe_int (nomark _))))) (pss_one (ps_setLc (i := 4) (own := [("_law_k", 5)]) (g := gName 5) rfl sc_l_d_pairs.nd rfl rfl (sw_true rfl rfl rfl (by decide +kernel)) (pi_range1 (by rfl) T.m_range (pa_cons (pe_op op_sub (pv 3) (pe_cal (cal_l_draw T) (hr.mono (by decide)) (by rfl) pass0 (pa_cons (pv 0) (pa_cons pe_int pa_nil)))) pa_nil)) (blkOk_by (own := [("_law_k", 5)]) (N := N_l_d_pairs) (by kernel_rfl)) (fun _ _ _ _ _ => pg_name (i := 5) sc_l_d_pairs.nd rfl (by first | exact Or.inl rfl | exact Or.inr rfl)) (fun _ _ _ _ _ => pts_nil) (fun _ _ _ _ _ => (pe_tup (pa_cons (pe_ix (xixL K) (pv 1) (pv 5) (fun _ _ => rfl)) (pa_cons (pe_ix (xixL K) (pv 1) (pe_op op_mod (pe_callTy call_int1 (by rfl) T.m_int (by decide +kernel) (pa_cons (pe_op op_add (pv 5) pe_int) pa_nil)) (pv 3)) (fun _ _ => rfl)) pa_nil)))))) pss_nil) (pss_cons (ps_for (g := gName 5) (passes_of rfl) rfl (pi_range1 (by rfl) T.m_range (pa_cons (pe_ifExp (pt_cmpR op_gt (pv 3) pe_int (nomark _)) (pe_cal (cal_l_draw T) (hr.mono (by decide)) (by rfl) pass0 (pa_cons (pv 0) (pa_cons (pe_ix (xixL K) (pe_lst (pa_cons pe_int (pa_cons (pe_op op_add (pe_op op_mul (pv 3) (pv 3)) pe_int) (pa_cons (pe_op op_add (pv 3) pe_int) (pa_cons (pe_op op_add (pe_op op_mul pe_int (pv 3)) pe_int) (pa_cons (pe_op op_add (pv 3) pe_int) pa_nil)))))) (pv 2) (fun _ _ => rfl)) pa_nil))) pe_int) pa_nil)) (pg_name (i := 5) sc_l_d_pairs.nd rfl (by first | exact Or.inl rfl | exact Or.inr rfl)) (pss_cons (ps_par (i := 6) (j := 7) rfl sc_l_d_pairs.nd rfl rfl  (by decide) rfl rfl  (pa_cons (pe_cal (cal_l_pick T rS) (hr.mono (by decide)) (by rfl) pass0 (pa_cons (pv 0) (pa_cons (pv 1) pa_nil))) (pa_cons (pe_cal (cal_l_pick T rS) (hr.mono (by decide)) (by rfl) pass0 (pa_cons (pv 0) (pa_cons (pv 1) pa_nil))) pa_nil)) rfl) (pss_cons (ps_expr (pe_bm PySem.F.plainAttrs_list PySem.F.slot_list_append PySem.F.type_list_append mt_append (pv 4) (pa_cons (pe_tup (pa_cons (pv 6) (pa_cons (pv 7) pa_nil))) pa_nil))) (pss_one (ps_expr (pe_bm PySem.F.plainAttrs_list PySem.F.slot_list_extend PySem.F.type_list_extend mt_extend (pv 4) (pa_cons (pe_op op_rep (pe_lst (pa_cons (pe_tup (pa_cons (pv 7) (pa_cons (pv 6) pa_nil))) pa_nil)) (pe_callTy call_int1 (by rfl) T.m_int (by decide +kernel) (pa_cons (pe_cmpR op_eq (pv 2) pe_int (nomark _)) pa_nil))) pa_nil))))))) (pss_one (ps_ret (pe_cal (cal_l_mixed T (rP K rS rS)) (hr.mono (by decide)) (by rfl) pass0 (pa_cons (pv 0) (pa_cons (pe_cal (cal_l_each_once T) (hr.mono (by decide)) (by rfl) pass0 (pa_cons (pv 4) pa_nil)) pa_nil)))))))), ?_⟩
  -- way, many, found
  refine es_draw (many := 5) (te := tC (.int 5)) (E := E0) (σ := L2.start N_l_d_pairs [V.ref S.1, a]) (j := 0) rfl ev_c (by decide) (by decide) (by omega) H e _ fun v1 G1 H1 g1 s1 ⟨r, ev, r0, r5⟩ => ?_
  subst ev
  obtain ⟨k, rfl⟩ := Int.eq_ofNat_of_zero_le r0
  have k5 : k < 5 := by omega
  refine (ev_len (R := rS) (er_var (σ := L2.start N_l_d_pairs [V.ref S.1, a]) rfl (Mo.mo g1.kk hx))) H1 s1.k _ fun H2 g2 => ?_
  obtain ⟨g2, s2⟩ := s1.go g2
  refine ⟨(by decide : 0 ≤ sizeLine), fun p hp => ?_⟩
  have n1 := s2.ne (xs := []) hp
  have hpm2 : msk S H2 p = none := by rw [msk_o n1.1 n1.2]; exact hp
  have hpm : msk S H p = none := g1.hh.no _ (g2.hh.no _ hpm2)
  have hpG : G1 p = none := s2.kn.ex.no _ hpm2
  obtain ⟨g3, s3⟩ := s2.go (Gr.skip s2.k (Ex.new (o := .lst []) hp) (tb_new s2.k.tb hp))
  refine ⟨(by decide : 3 ≤ sizeLine), fun t ht => ?_⟩
  have htp : t ≠ p := fun z => by rw [z, upd_same] at ht; cases ht
  obtain ⟨g4, s4⟩ := s3.go (Gr.skip s3.k (Ex.new (o := .tup [.int (k : Int), .int (N.length : Int), .ref p]) ht) (tb_new s3.k.tb ht))
  refine ⟨t, [.int (k : Int), .int (N.length : Int), .ref p], rfl, SqT.of upd_same, rfl, .int (k : Int), _, rfl, .int (N.length : Int), _, rfl, .ref p, [], rfl, rfl, ?_⟩
  have gA := ((g1.trans g2).trans g3).trans g4
  have lp : (upd (upd H2 p (.lst [])) t (.tup [.int (k : Int), .int (N.length : Int), .ref p])) p = some (.lst []) := by rw [upd_ne (Ne.symm htp), upd_same]
  revert gA lp s4
  generalize upd (upd H2 p (.lst [])) t (.tup [.int (k : Int), .int (N.length : Int), .ref p]) = H3
  intro s4 gA lp
  have okN : ∀ x ∈ N, PyData.strOk x = true := by
    obtain ⟨b, vs, _, _, h⟩ := hx
    exact allR_ok h
  dsimp only
  refine q_ifJ (G := G1) (b := decide ((k : Int) = 0) && decide (0 < (N.length : Int))) (fun σ' H' => ∃ (p : Addr) (n1 : Nat) (G' : Hp) (fs : List Pr) (ws : List V) (x5 x6 x7 : Option V), σ' = [some (.ref S.1), some a, some (.int (k : Int)), some (.int (N.length : Int)), some (.ref p), x5, x6, x7] ∧ n1 ≤ n + 5 ∧ GrS K S G H G' H' ∧ Sk K S n1 G' H' ∧ p ≠ S.1 ∧ p ≠ S.2 ∧ msk S H p = none ∧ G' p = none ∧ H' p = some (.lst ws) ∧ AllR (rP K rS rS) fs ws G' ∧ fs.length ≤ 8 ∧ ∀ y ∈ fs, y.1 ∈ N ∧ y.2 ∈ N) s4.k (et_and (et_cmp (ev_eqi (ev_var rfl) ev_c)) fun _ => et_cmp (ev_gt (ev_var rfl) ev_c)) ?_ ?_ ?_
  · rintro σ' H' ⟨p, n1, G', fs, ws, x5, x6, x7, rfl, hn1, gg, ss, p1, p2, hp, hG, hl, hr', hlen, hin⟩
    refine qs_forW (K := K) (S := S) (m := n1 + 1) (G := G') (R := rI) (fun ks => ks.length ≤ 64) ?_ (fun i σ' G2 H2 => (∃ x5 x6 x7, σ' = [some (.ref S.1), some a, some (.int (k : Int)), some (.int (N.length : Int)), some (.ref p), x5, x6, x7]) ∧ GrS K S G H G2 H2 ∧ G2 p = none ∧ ∃ fs ws, H2 p = some (.lst ws) ∧ AllR (rP K rS rS) fs ws G2 ∧ fs.length ≤ 8 + 2 * i ∧ ∀ y ∈ fs, y.1 ∈ N ∧ y.2 ∈ N) (fun i => n1 + 1 + 2 * i) (fun i => by omega) ?_ ?_ ?_
    · intro R' kk
      refine ews_range (B := 64) (n := n1) (m := n1 + 1) (G := G') (by decide) ?_ ss fun r J G5 H5 hr g6 s6 wk => kk J G5 H5 _ g6 s6 wk (by simpa using hr)
      intro H6 e6 Q6 q6
      have hd : decide ((0 : Int) < (N.length : Int)) = true := decide_eq_true (by omega)
      refine (et_cmp (ev_gt (ev_var rfl) ev_c)) H6 e6.k _ fun H7 g7 => ?_
      rw [if_pos hd]
      obtain ⟨m, hm, m0, m1⟩ := sizes5 N.length k k5 h0 h8
      refine es_drawR (n := n1) (many := m) rfl ((er_ix (R := rI) (i := k) (xs := [2, (N.length : Int) * N.length + 1, N.length + 2, 2 * N.length + 1, N.length + 1]) ((en_lst (eb_ic ev_c (eb_ic (ev_add (ev_mul (ev_var rfl) (ev_var rfl) ?_) ev_c) (eb_ic (ev_add (ev_var rfl) ev_c) (eb_ic (ev_add (ev_mul ev_c (ev_var rfl) ?_) ev_c) (eb_ic (ev_add (ev_var rfl) ev_c) eb_i0))))) (fun vs G2 h => by rw [show vs = _ from h]; exact (by decide : 5 ≤ 10000000))).r fun p vs _ _ hl _ r => ⟨p, vs, rfl, SqL.of hl, by rw [show vs = _ from r]; exact int_allR⟩) (ev_var rfl) hm).imp fun _ _ _ r => r) m0 (by omega) (by omega) H7 (e6.go g7).2 _ fun v G8 H8 g8 s8 ⟨r, ev, r0, r1⟩ => ?_
      · exact .inl ⟨by omega, by omega⟩
      · exact .inl ⟨by decide, by decide⟩
      · exact q6 v G8 H8 ((e6.go g7).1.trans g8) s8 ⟨r.toNat, by rw [ev]; exact congrArg V.int (by omega), by omega⟩
    · exact fun G2 H2 g s => ⟨s.st, ⟨_, _, _, rfl⟩, gg.trans g, g.sp p hG (hidden (by rw [msk_o p1 p2]; exact hl)), fs, ws, msk_l p1 p2 hl g, hr'.mono g.kk, by omega, hin⟩
    · rintro xs hC i z x σ' G2 H2 G3 H3 ex ⟨⟨x5, x6, x7, rfl⟩, gA, hpA, fs, ws, hl, hr1, hlen, hin⟩ e1 s0 g3 s3 rz
      have hC : xs.length ≤ 64 := hC
      have hi : i < xs.length := (List.getElem?_eq_some_iff.mp ex).1
      have hpk : ∀ E1 (σ : L2.St) n G2, σ[0]? = some (some (.ref S.1)) → σ[1]? = some (some a) → Ex G G2 → n + 1 ≤ 2 ^ 40 → EvS K S (tCall (spPick K rS) [] E1 (tCons (tVar 0) (tCons (tVar 1) tNil))) σ G2 n (n + 1) (fun v G2 => ∃ x ∈ N, rS x v G2) := fun E1 σ n G2 e0 e1 e2 hn =>
        es_call N e0 (ebs_of (eb_a1 (R := rL K rS) (x := N) (er_var e1 (Mo.mo e2 hx)))) rfl hn (fun vs G2 _ h => ⟨h, h0, by show N.length ≤ _; omega⟩) fun _ _ _ _ p => p
      have gB := gA.trans g3
      refine hpk _ _ _ G3 rfl rfl gB.kk (by show n1 + 1 + 2 * i + 1 ≤ _; omega) H3 s3 _ fun v1 G4 H4 g4 s4 ⟨one, h1, r1⟩ => ?_
      refine hpk _ _ _ G4 rfl rfl (gB.kk.trans g4.kk) (by show n1 + 1 + 2 * i + 1 + 1 ≤ _; omega) H4 s4 _ fun v2 G5 H5 g5 s5 ⟨oth, h2, r2⟩ => ?_
      refine ⟨v1, v2, rfl, ?_⟩
      have gC := (gB.trans g4).trans g5
      have l5 := msk_l p1 p2 hl ((g3.trans g4).trans g5)
      have p5 : G5 p = none := ((g3.trans g4).trans g5).sp p hpA (hidden (by rw [msk_o p1 p2]; exact hl))
      refine ⟨.ref p, rfl, .inl ⟨rfl, ws, SqL.of l5⟩, (er_pair (p := (one, oth)) (R := rS) (S := rS) (er_var rfl (Mo.mo (R := rS) g5.kk r1)) (er_var rfl r2)) H5 s5.k _ fun v G6 H6 g6 r6 => ?_⟩
      obtain ⟨g6, s6⟩ := s5.go g6
      have l6 := msk_l p1 p2 l5 g6
      have p6 : G6 p = none := g6.sp p p5 (hidden (by rw [msk_o p1 p2]; exact l5))
      have wl := hr1.length
      refine ⟨p, ws, v, rfl, rfl, l6, Nat.lt_of_lt_of_le (show ws.length < 10000000 by omega) (by decide), ?_⟩
      obtain ⟨gD, s7⟩ := GrS.mut (o := .lst (ws ++ [v])) (gC.trans g6) s6 p6 hp l6 p1 p2
      refine ⟨.ref p, rfl, .inl ⟨rfl, _, SqL.of upd_same⟩, tc1 (to1 ?_)⟩
      refine (en_one (R := rP K rS rS) (x := (oth, one)) (er_pair (p := (oth, one)) (R := rS) (S := rS) (er_var rfl (Mo.mo g6.kk r2)) (er_var rfl (Mo.mo (R := rS) (g5.kk.trans g6.kk) r1)))) _ s7.k _ fun l us G8 H8 hl8 hG8 g8 lu8 r8 => ?_
      obtain ⟨g8, s8⟩ := s7.go g8
      have l8 := msk_l p1 p2 upd_same g8
      refine (ev_intb (ev_eqi (ev_var rfl) ev_c)) H8 s8.k _ fun H9 g9 => ?_
      have lu9 := g9.hh.l lu8
      obtain ⟨g9, s9⟩ := s8.go g9
      have l9 := msk_l p1 p2 l8 g9
      have ul := r8.length
      refine ⟨l, _, us, rfl, rfl, lu9, ?_, ?_, ?_, fun q2 hq2 => ?_⟩
      · split <;> decide
      · split <;> decide
      · rw [← ul]
        split
        · exact (by decide : 1 * Int.toNat 1 ≤ sizeLine)
        · exact (by decide : 1 * Int.toNat 0 ≤ sizeLine)
      have hpq : p ≠ q2 := fun z => by rw [← z, l9] at hq2; cases hq2
      obtain ⟨g10, s10⟩ := s9.go (Gr.skip s9.k (Ex.new (o := .lst (List.replicate (if decide ((k : Int) = 3) = true then (1 : Int) else 0).toNat us).flatten) hq2) (tb_new s9.k.tb hq2))
      have l10 := msk_l p1 p2 l9 g10
      have p8 : G8 p = none := g8.sp p p6 (hidden (by rw [msk_o p1 p2]; exact upd_same))
      have gF := ((gD.trans g8).trans g9).trans g10
      refine ⟨p, q2, _, _, rfl, rfl, l10, upd_same, ?_, ?_⟩
      · refine Nat.le_trans ?_ (by decide : 10000000 ≤ sizeLine)
        rw [List.length_append, List.length_flatten, List.map_replicate, List.sum_replicate_nat, ← ul]
        have : (if decide ((k : Int) = 3) = true then (1 : Int) else 0).toNat ≤ 1 := by split <;> decide
        simp only [List.length_cons, List.length_nil]
        omega
      obtain ⟨gG, s11⟩ := GrS.mut (o := .lst ((ws ++ [v]) ++ (List.replicate (if decide ((k : Int) = 3) = true then (1 : Int) else 0).toNat us).flatten)) gF s10 p8 hp l10 p1 p2
      have eG : Ex G2 G8 := (((g3.kk.trans g4.kk).trans g5.kk).trans g6.kk).trans g8.kk
      have r9 : AllR (rP K rS rS) ((fs ++ [(one, oth)]) ++ (List.replicate (if decide ((k : Int) = 3) = true then (1 : Int) else 0).toNat [(oth, one)]).flatten) ((ws ++ [v]) ++ (List.replicate (if decide ((k : Int) = 3) = true then (1 : Int) else 0).toNat us).flatten) G8 := by
        refine ((hr1.mono eG).append (show AllR (rP K rS rS) [(one, oth)] [v] G8 from ⟨Mo.mo g8.kk r6, trivial⟩)).append ?_
        split
        · simpa using r8
        · exact trivial
      refine ⟨G8, eG, ⟨s11.kn, s11.st.mono (by show n1 + 1 + 2 * i + 1 + 1 ≤ n1 + 1 + 2 * (i + 1); omega)⟩, ⟨_, _, _, rfl⟩, gG, p8, _, _, upd_same, r9, ?_, ?_⟩
      · rw [List.length_append, List.length_flatten, List.map_replicate, List.sum_replicate_nat]
        have : (if decide ((k : Int) = 3) = true then (1 : Int) else 0).toNat ≤ 1 := by split <;> decide
        simp only [List.length_append, List.length_cons, List.length_nil]
        omega
      · intro y hy
        rcases List.mem_append.mp hy with hy | hy
        · rcases List.mem_append.mp hy with hy | hy
          · exact hin y hy
          · rw [List.mem_singleton.mp hy]; exact ⟨h1, h2⟩
        · obtain ⟨ys, hy1, hy2⟩ := List.mem_flatten.mp hy
          rw [List.eq_of_mem_replicate hy1] at hy2
          rw [List.mem_singleton.mp hy2]; exact ⟨h2, h1⟩
    · rintro xs hC σ' G2 H2 ⟨⟨x5, x6, x7, rfl⟩, gA, hpA, fs, ws, hl, hr1, hlen, hin⟩ e1 s0
      have hm2 : msk S H2 p = some (.lst ws) := by rw [msk_o p1 p2]; exact hl
      have gE : GrS K S G H (upd G2 p (.lst ws)) H2 := Gr.plus gA hp hm2 hpA
      have sE : Sk K S _ (upd G2 p (.lst ws)) H2 := ⟨gE.kn, s0.st⟩
      have hC : xs.length ≤ 64 := hC
      refine ⟨.ref S.1, rfl, (er_call (A := A1 (rPs K) fs) fs (eb_a1 (R := rPs K) (x := fs) (er_var rfl (⟨p, ws, rfl, SqL.of upd_same, hr1.mono (Ex.new hpA)⟩ : rPs K fs (.ref p) _))) (fun vs G2 _ h => ⟨h, by omega⟩)) H2 sE.k _ fun v G3 H3 g3 ⟨Gc, ec, ys, nd, mm, lenn, r⟩ => ?_⟩
      obtain ⟨g3, s3⟩ := sE.go g3
      refine ⟨ys, S, _, G3, [v], rfl, s3, by show n1 + 1 + 2 * xs.length + ys.length ≤ _; omega, ⟨⟨v, rfl, .inl r.l⟩, by omega⟩, fun v4 G4 H4 g4 s4 ⟨zs, hperm, rr⟩ => q v4 G4 H4 ((gE.trans g3).trans g4) ⟨s4.kn, s4.st.mono (by show n1 + 1 + 2 * xs.length + ys.length ≤ n + 1000; omega)⟩ ⟨zs, hperm.nodup_iff.mpr nd, fun p hp => hin p ((mm p).mp (hperm.mem_iff.mp hp)), by rw [hperm.length_eq]; omega, rr.base (gE.trans g3).kk⟩⟩
  · intro hb H4 g5 rest
    obtain ⟨g5, s5⟩ := s4.go g5
    have lp4 := msk_l n1.1 n1.2 lp g5
    refine es_lcW (K := K) (S := S) (n := n + 1) (m := n + 2) (c := 0) (G := G1) (R := rI) (U := rEx (fun y : Pr => y.1 ∈ N ∧ y.2 ∈ N) (rP K rS rS)) (fun (ks : List Int) => ks.length ≤ N.length ∧ ∀ (i : Nat) (z : Int), ks[i]? = some z → z = (i : Int)) s5 ?_ ?_ ?_ ?_ ?_
    · intro R' kk
      refine ews_range (B := N.length) (n := n + 1) (m := n + 2) (G := G1) (by omega) ?_ s5 fun r J G5 H5 hr g6 s6 wk => ?_
      · exact fun H6 e6 Q6 q6 => ⟨_, rfl, es_draw (many := 2) (te := tC (.int 2)) (j := 0) rfl ev_c (by decide) (by decide) (by omega) H6 e6 _ fun v G7 H7 g7 s7 ⟨r, ev, r0, r2⟩ => by
          subst ev
          exact ⟨_, _, rfl, rfl, q6 _ G7 H7 g7 s7 ⟨N.length - r.toNat, congrArg V.int (by omega), by omega⟩⟩⟩
      · exact kk J G5 H5 _ g6 s6 wk ⟨by simpa using hr, fun i z h => by
          rw [List.getElem?_map] at h
          obtain ⟨j, h1, rfl⟩ := Option.map_eq_some_iff.mp h
          obtain ⟨h2, rfl⟩ := List.getElem?_eq_some_iff.mp h1
          simp⟩
    · exact fun xs h => by have := h.1; omega
    · exact fun _ => rfl
    · intro xs hC i z x G2 ex e2 rx
      have ez := hC.2 i z ex
      subst ez
      have il : i < N.length := Nat.lt_of_lt_of_le (List.getElem?_eq_some_iff.mp ex).1 hC.1
      have hx2 : rL K rS N a G2 := Mo.mo (g1.kk.trans e2) hx
      have jl : (i + 1) % N.length < N.length := Nat.mod_lt _ h0
      have rx : x = .int (i : Int) := rx
      subst rx
      refine (es_of ((er_pair (p := (N[i], N[(i + 1) % N.length])) (R := rS) (S := rS) (er_ix (R := rS) (i := i) (er_var rfl hx2) (ev_var rfl) (List.getElem?_eq_getElem il)) (er_ix (R := rS) (i := (i + 1) % N.length) (er_var rfl hx2) (ev_mod (i := (i : Int) + 1) (j := (N.length : Int)) (ev_int (ev_add (ev_var rfl) ev_c)) (ev_var rfl) (by omega)) (List.getElem?_eq_getElem jl))).imp fun _ _ _ r => ⟨_, ⟨List.getElem_mem il, List.getElem_mem jl⟩, r⟩))
    · intro xs hC p2 vs G2 H2 hq q1 q2 hG gg ss hl r
      obtain ⟨ys, y1, y2, y3⟩ := allR_ex r
      refine rest _ H2 ⟨p2, n + 2, G2, ys, vs, none, none, none, rfl, by omega, (gA.trans g5).trans gg, by simpa using ss, q1, q2, (gA.trans g5).hh.no _ hq, hG, hl, y3, by have := hC.1; omega, y2⟩
  · intro hb H4 g5
    obtain ⟨g5, s5⟩ := s4.go g5
    exact ⟨p, n + 1, G1, [], [], none, none, none, rfl, by omega, gA.trans g5, s5, n1.1, n1.2, hpm, hpG, msk_l n1.1 n1.2 lp g5, trivial, by simp, by simp⟩
end
end Ob
set_option maxRecDepth 100000
set_option maxHeartbeats 2000000
/-! Kp1: the order of data: what is sorted is told by its members. -/
namespace Ob
open PySem PySem.Spec PyProof.Rows L2
open PySem.W (dataLe alike keyToks)
theorem le_def {α : Type} (e : α → PyData) (a b : α) : dataLe false e a b = !(PyProof.Rows.lexLt itemOrd (keyToks (e b)) (keyToks (e a))) := rfl
theorem le_tot {α : Type} (e : α → PyData) (a b : α) : (dataLe false e a b || dataLe false e b a) = true := by
  rw [le_def, le_def]
  cases h : PyProof.Rows.lexLt itemOrd (keyToks (e b)) (keyToks (e a)) with
  | false => rfl
  | true =>
    cases h2 : PyProof.Rows.lexLt itemOrd (keyToks (e a)) (keyToks (e b)) with
    | false => rfl
    | true =>
      have h3 := PyProof.Rows.lex_trans (O := itemOrd) _ _ _ h h2
      rw [PyProof.Rows.lex_irrefl] at h3
      cases h3
theorem le_tr {α : Type} (e : α → PyData) (a b c : α) : dataLe false e a b = true → dataLe false e b c = true → dataLe false e a c = true := by
  rw [le_def, le_def, le_def]
  intro h1 h2
  rw [Bool.not_eq_true'] at h1 h2 ⊢
  cases h : PyProof.Rows.lexLt itemOrd (keyToks (e c)) (keyToks (e a)) with
  | false => rfl
  | true =>
    rcases PyProof.Rows.lex_negTrans (O := itemOrd) _ (keyToks (e b)) _ h with q | q
    · rw [h2] at q; cases q
    · rw [h1] at q; cases q
theorem le_self {α : Type} (e : α → PyData) (a : α) : dataLe false e a a = true := by
  have := le_tot e a a
  simpa using this
/-- data that differ are told apart -/
class Tk {α : Type} (e : α → PyData) : Prop where
  inj : ∀ x y, keyToks (e x) = keyToks (e y) → x = y
theorem tk_of {α : Type} (e : α → PyData) {k : Nat} [Nice e k] (al : ∀ x y, alike (e x) (e y) = true) : Tk e := ⟨fun x y h => (Nice.eqv x y).mp (by
  cases q : PyData.eqv (e x) (e y) with
  | true => rfl
  | false =>
    have h1 := (PySem.W.toks_eqv _ _ (al x y)).2 q [] [.inl 0]
    rw [h, PySem.W.lex_pre, PyProof.Rows.lex_irrefl] at h1
    exact absurd h1 (by simp [PyProof.Rows.lexLt]))⟩
theorem al_pp (a b : Pr) : alike (ePP a) (ePP b) = true := by
  show alike (.tuple [.str a.1, .str a.2]) (.tuple [.str b.1, .str b.2]) = true
  simp [PySem.W.alike, PySem.W.alikeAll]
theorem al_il (a b : Int × Lot) : alike (eIL a) (eIL b) = true := by
  show alike (.tuple [.int a.1, eLot a.2]) (.tuple [.int b.1, eLot b.2]) = true
  have h2 := al_strs a.2 b.2
  simp only [PySem.W.alike, PySem.W.alikeAll, h2]
  rfl
instance : Tk eS := tk_of eS (k := 0) al_str
instance : Tk eLot := tk_of eLot (k := 0 + 1) al_lot
instance : Tk ePP := tk_of ePP (k := 0 + 0 + 1) al_pp
instance : Tk eIL := tk_of eIL (k := 0 + (0 + 1) + 1) al_il
section
variable {α : Type} {e : α → PyData} {xs ys : List α}
theorem le_anti [Tk e] {a b : α} (h1 : dataLe false e a b = true) (h2 : dataLe false e b a = true) : a = b := by
  rw [le_def, Bool.not_eq_true'] at h1 h2
  exact Tk.inj a b (PyProof.Rows.lex_total _ _ h2 h1)
abbrev Srt (e : α → PyData) (xs : List α) : Prop := xs.Pairwise fun a b => dataLe false e a b = true
theorem so_srt : Srt e (so e xs) := List.pairwise_mergeSort (le_tr e) (le_tot e) xs
theorem srt_uniq [Tk e] (h1 : Srt e xs) (h2 : Srt e ys) (p : xs.Perm ys) : xs = ys := List.Perm.eq_of_pairwise (fun a b _ _ => le_anti) h1 h2 p
theorem srt_ext [Tk e] (h1 : Srt e xs) (h2 : Srt e ys) (n1 : xs.Nodup) (n2 : ys.Nodup) (h : ∀ x, x ∈ xs ↔ x ∈ ys) : xs = ys := srt_uniq h1 h2 ((List.perm_ext_iff_of_nodup n1 n2).mpr h)
theorem so_id [Tk e] (h : Srt e xs) : so e xs = xs := srt_uniq so_srt h (so_perm e xs)
theorem so_congr [Tk e] (p : xs.Perm ys) : so e xs = so e ys := srt_uniq so_srt so_srt (((so_perm e xs).trans p).trans (so_perm e ys).symm)
theorem so_nodup : (so e xs).Nodup ↔ xs.Nodup := (so_perm e xs).nodup_iff
theorem srt_sub (h : Srt e xs) (s : ys.Sublist xs) : Srt e ys := h.sublist s
theorem srt_filter (h : Srt e xs) (f : α → Bool) : Srt e (xs.filter f) := h.sublist List.filter_sublist
theorem srt_head (h : Srt e xs) {a : α} (ha : xs.head? = some a) : ∀ x ∈ xs, dataLe false e a x = true := by
  cases xs with
  | nil => cases ha
  | cons y ys =>
    cases ha
    intro x hx
    rcases List.mem_cons.mp hx with rfl | hx
    · exact le_self e _
    · exact List.rel_of_pairwise_cons h hx
end
/-! pairs -/
theorem pr_le {a b : Pr} (h : dataLe false ePP a b = true) (h2 : a.2 = b.2) : dataLe false eS a.1 b.1 = true := by
  have h3 : (!PySem.W.dataLt (.tuple [.str b.1, .str b.2]) (.tuple [.str a.1, .str a.2])) = true := h
  rw [PySem.W.dataLt_pair (by simp [PySem.W.alike]) (by simp [PySem.W.alike])] at h3
  show (!PySem.W.dataLt (.str b.1) (.str a.1)) = true
  cases q : PyData.eqv (.str b.1) (.str a.1) with
  | true =>
    have e : b.1 = a.1 := by simpa [PyData.eqv] using q
    rw [e]
    exact le_self eS a.1
  | false =>
    rw [q, if_neg Bool.false_ne_true] at h3
    exact h3
theorem il_le {a b : Int × Lot} (h1 : a.1 ≤ b.1) (h2 : b.1 = a.1 → dataLe false eLot a.2 b.2 = true) : dataLe false eIL a b = true := by
  show (!PySem.W.dataLt (.tuple [.int b.1, eLot b.2]) (.tuple [.int a.1, eLot a.2])) = true
  rw [PySem.W.dataLt_pair (by simp [PySem.W.alike]) (al_lot _ _), PySem.W.dataLt_int]
  cases q : PyData.eqv (.int b.1) (.int a.1) with
  | true =>
    have e : b.1 = a.1 := by simpa [PyData.eqv] using q
    rw [if_pos rfl]
    have h3 : (!PySem.W.dataLt (eLot b.2) (eLot a.2)) = true := h2 e
    rw [Bool.not_eq_true'] at h3
    rw [h3]
    simp
  | false =>
    rw [if_neg Bool.false_ne_true]
    simp
    exact h1
/-! the smallest, first -/
theorem small_eq {ls : List Lot} (hs : Srt eLot ls) (x : Str) : (smallW ls x).head? = smallestL ls x := by
  unfold smallW smallestL
  generalize hF : ls.filter (fun l => decide (x ∈ l)) = F
  have sF : Srt eLot F := by rw [← hF]; exact srt_filter hs _
  clear hF hs
  cases hc : F with
  | nil => simp [so]
  | cons l0 l1 =>
    rw [← hc]
    have hne : F.map lenI ≠ [] := by rw [hc]; simp
    obtain ⟨hm, hmin⟩ := minI_ok hne
    obtain ⟨l2, hl2, e2⟩ := List.mem_map.mp hm
    have sW := srt_filter sF (fun l => decide (lenI l = minI (F.map lenI)))
    have hin : l2 ∈ F.filter (fun l => decide (lenI l = minI (F.map lenI))) := List.mem_filter.mpr ⟨hl2, decide_eq_true e2⟩
    cases hw : (F.filter fun l => decide (lenI l = minI (F.map lenI))).head? with
    | none => rw [List.head?_eq_none_iff.mp hw] at hin; cases hin
    | some w =>
      have hwm := List.mem_of_head? hw
      obtain ⟨wF, we⟩ := List.mem_filter.mp hwm
      have we := of_decide_eq_true we
      have sP : Srt eIL (so eIL (F.map fun l => ((l.length : Int), l))) := so_srt
      have wP : ((w.length : Int), w) ∈ so eIL (F.map fun l => ((l.length : Int), l)) := so_mem.mpr (List.mem_map.mpr ⟨w, wF, rfl⟩)
      cases hp : (so eIL (F.map fun l => ((l.length : Int), l))).head? with
      | none => rw [List.head?_eq_none_iff.mp hp] at wP; cases wP
      | some p =>
        have h1 := srt_head sP hp _ wP
        obtain ⟨l, lF, el⟩ := List.mem_map.mp (so_mem.mp (List.mem_of_head? hp))
        have h2 : dataLe false eIL ((w.length : Int), w) p = true := by
          rw [← el]
          refine il_le ?_ fun hl => ?_
          · have := hmin (lenI l) (List.mem_map.mpr ⟨l, lF, rfl⟩)
            rw [← we] at this
            exact this
          · have hl2 : lenI l = minI (F.map lenI) := by rw [← we]; exact hl
            exact srt_head sW hw l (List.mem_filter.mpr ⟨lF, decide_eq_true hl2⟩)
        rw [← le_anti h2 h1]
        rfl
end Ob
set_option maxRecDepth 100000
set_option maxHeartbeats 2000000
/-! Kp2: held lots: the program's list is the law's. -/
namespace Ob
open PySem PySem.Spec PyProof.Rows L2
open PySem.W (dataLe)
/-! lists that grow -/
theorem grow_mem (f : Str → Lot → Bool) (C : Lot → Prop) (hf : ∀ A x, C A → (f x A = true ↔ C (A ++ [x]))) (hp : ∀ A B, C (A ++ B) → C A) :
    ∀ (M : Lot) (F : List Lot), (∀ A ∈ F, C A) → ∀ L, L ∈ growL f M F ↔ ∃ A ∈ F, ∃ B : Lot, B.Sublist M ∧ L = A ++ B ∧ C L
  | [], F, hF, L => by
    constructor
    · exact fun h => ⟨L, h, [], List.Sublist.refl _, by simp, hF L h⟩
    · rintro ⟨A, hA, B, hB, rfl, _⟩
      rw [List.sublist_nil.mp hB, List.append_nil]
      exact hA
  | x :: M, F, hF, L => by
    have hF2 : ∀ A ∈ F ++ (F.filter (f x)).map (· ++ [x]), C A := fun A hA => by
      rcases List.mem_append.mp hA with hA | hA
      · exact hF A hA
      · obtain ⟨A2, h2, rfl⟩ := List.mem_map.mp hA
        obtain ⟨h3, h4⟩ := List.mem_filter.mp h2
        exact (hf A2 x (hF A2 h3)).mp h4
    show L ∈ growL f M (F ++ (F.filter (f x)).map (· ++ [x])) ↔ _
    rw [grow_mem f C hf hp M _ hF2 L]
    constructor
    · rintro ⟨A, hA, B, hB, rfl, hC⟩
      rcases List.mem_append.mp hA with hA | hA
      · exact ⟨A, hA, B, hB.cons _, rfl, hC⟩
      · obtain ⟨A2, h2, rfl⟩ := List.mem_map.mp hA
        obtain ⟨h3, h4⟩ := List.mem_filter.mp h2
        exact ⟨A2, h3, x :: B, hB.cons_cons _, by simp, hC⟩
    · rintro ⟨A, hA, B, hB, rfl, hC⟩
      cases hB with
      | cons _ hB => exact ⟨A, List.mem_append_left _ hA, B, hB, rfl, hC⟩
      | cons_cons _ hB =>
        rename_i B2
        have e : A ++ x :: B2 = (A ++ [x]) ++ B2 := by simp
        rw [e] at hC ⊢
        exact ⟨A ++ [x], List.mem_append_right _ (List.mem_map.mpr ⟨A, List.mem_filter.mpr ⟨hA, (hf A x (hF A hA)).mpr (hp _ _ hC)⟩, rfl⟩), B2, hB, rfl, hC⟩
theorem grow_nodup (f : Str → Lot → Bool) : ∀ (M : Lot) (F : List Lot), M.Nodup → F.Nodup → (∀ A ∈ F, ∀ x ∈ M, x ∉ A) → (growL f M F).Nodup
  | [], F, _, h, _ => h
  | x :: M, F, hM, hF, hd => by
    obtain ⟨hx, hM⟩ := List.nodup_cons.mp hM
    refine grow_nodup f M (F ++ (F.filter (f x)).map (· ++ [x])) hM ?_ ?_
    · rw [List.nodup_append]
      refine ⟨hF, ?_, ?_⟩
      · have h1 : (F.filter (f x)).Nodup := hF.sublist List.filter_sublist
        refine List.Pairwise.map _ (fun a b hab z => hab ?_) h1
        exact List.append_cancel_right z
      · rintro a ha b hb rfl
        obtain ⟨A2, h2, rfl⟩ := List.mem_map.mp hb
        exact hd _ ha x (List.mem_cons_self ..) (by simp)
    · intro A hA y hy
      rcases List.mem_append.mp hA with hA | hA
      · exact hd A hA y (List.mem_cons_of_mem _ hy)
      · obtain ⟨A2, h2, rfl⟩ := List.mem_map.mp hA
        intro z
        rcases List.mem_append.mp z with z | z
        · exact hd A2 (List.mem_filter.mp h2).1 y (List.mem_cons_of_mem _ hy) z
        · rw [List.mem_singleton.mp z] at hy; exact hx hy
/-! objectors -/
def Calm (P : List Pr) (L : Lot) : Prop := ∀ a ∈ L, ∀ b ∈ L, (a, b) ∉ P
def Ans (P : List Pr) (L : Lot) (x : Str) : Prop := ∀ o, (o, x) ∈ P → ∃ z ∈ L, (z, o) ∈ P
structure Held (P : List Pr) (L : Lot) : Prop where
  calm : Calm P L
  ans : ∀ x ∈ L, Ans P L x
theorem obs_mem {O : List Pr} {o x : Str} : o ∈ obs O x ↔ (o, x) ∈ O := by
  unfold obs
  rw [List.mem_map]
  constructor
  · rintro ⟨p, hp, rfl⟩
    obtain ⟨h1, h2⟩ := List.mem_filter.mp hp
    rw [← of_decide_eq_true h2]; exact h1
  · exact fun h => ⟨(o, x), List.mem_filter.mpr ⟨h, decide_eq_true rfl⟩, rfl⟩
theorem obd_mem {O : List Pr} {o x : Str} : o ∈ obd O x ↔ (x, o) ∈ O := by
  unfold obd
  rw [List.mem_map]
  constructor
  · rintro ⟨p, hp, rfl⟩
    obtain ⟨h1, h2⟩ := List.mem_filter.mp hp
    rw [← of_decide_eq_true h2]; exact h1
  · exact fun h => ⟨(x, o), List.mem_filter.mpr ⟨h, decide_eq_true rfl⟩, rfl⟩
section
variable {N : Lot} {P : List Pr}
theorem objsL_mem {o x : Str} : o ∈ objsL P x ↔ (o, x) ∈ P := by
  unfold objsL
  rw [so_mem]
  exact obs_mem (O := P)
theorem hits_iff {L : Lot} {x : Str} : hitsL P L x = true ↔ ∃ z ∈ L, (z, x) ∈ P := by
  unfold hitsL
  rw [List.any_eq_true]
  constructor
  · rintro ⟨o, h1, h2⟩
    exact ⟨o, of_decide_eq_true h2, objsL_mem.mp h1⟩
  · rintro ⟨z, h1, h2⟩
    exact ⟨z, objsL_mem.mpr h2, decide_eq_true h1⟩
theorem answers_iff {L : Lot} {x : Str} : answersL P L x = true ↔ Ans P L x := by
  unfold answersL
  rw [List.all_eq_true]
  exact ⟨fun h o ho => hits_iff.mp (h o (objsL_mem.mpr ho)), fun h o ho => hits_iff.mpr (h o (objsL_mem.mp ho))⟩
theorem calm_iff {L : Lot} : calmL P L = true ↔ Calm P L := by
  unfold calmL
  rw [Bool.not_eq_true', List.any_eq_false]
  constructor
  · intro h a ha b hb hab
    exact h (a, b) hab (by simp [ha, hb])
  · intro h p hp z
    rw [Bool.and_eq_true] at z
    exact h p.1 (of_decide_eq_true z.1) p.2 (of_decide_eq_true z.2) hp
theorem held_iff {L : Lot} : heldL P L = true ↔ Held P L := by
  unfold heldL
  rw [Bool.and_eq_true, calm_iff, List.all_eq_true]
  exact ⟨fun h => ⟨h.1, fun x hx => answers_iff.mp (h.2 x hx)⟩, fun h => ⟨h.1, fun x hx => answers_iff.mpr (h.2 x hx)⟩⟩
theorem subs_mem {L : Lot} : L ∈ subsL N ↔ L.Sublist (so eS N) := by
  unfold subsL
  rw [so_mem, subsAll_grow, grow_mem (fun _ _ => true) (fun _ => True) (fun _ _ _ => by simp) (fun _ _ _ => trivial) (so eS N) [[]] (fun _ _ => trivial)]
  constructor
  · rintro ⟨A, hA, B, hB, rfl, _⟩
    rw [List.mem_singleton.mp hA]; exact hB
  · exact fun h => ⟨[], List.mem_singleton_self _, L, h, rfl, trivial⟩
theorem helds_mem {L : Lot} : L ∈ heldsL N P ↔ L.Sublist (so eS N) ∧ Held P L := by
  unfold heldsL
  rw [List.mem_filter, List.mem_filter, subs_mem, held_iff, calm_iff]
  exact ⟨fun h => ⟨h.1.1, h.2⟩, fun h => ⟨⟨h.1, h.2.calm⟩, h.2⟩⟩
theorem subs_nodup (hN : N.Nodup) : (subsL N).Nodup := by
  unfold subsL
  rw [so_nodup, subsAll_grow]
  exact grow_nodup _ _ _ (so_nodup.mpr hN) (by simp) (by simp)
theorem helds_nodup (hN : N.Nodup) : (heldsL N P).Nodup := ((subs_nodup hN).sublist List.filter_sublist).sublist List.filter_sublist
theorem helds_srt : Srt eLot (heldsL N P) := srt_filter (srt_filter so_srt _) _
theorem calmW_iff {d : Deb} {A : Lot} {x : Str} (hA : Calm d.O A) : calmW d A x = true ↔ Calm d.O (A ++ [x]) := by
  unfold calmW
  rw [Bool.and_eq_true, Bool.not_eq_true', Bool.not_eq_true', decide_eq_false_iff_not, List.any_eq_false]
  constructor
  · rintro ⟨h1, h2⟩ a ha b hb hab
    rcases List.mem_append.mp ha with ha | ha <;> rcases List.mem_append.mp hb with hb | hb
    · exact hA a ha b hb hab
    · rw [List.mem_singleton.mp hb] at hab
      exact h2 a ha (by simp [obs_mem.mpr hab])
    · rw [List.mem_singleton.mp ha] at hab
      exact h2 b hb (by simp [obd_mem.mpr hab])
    · rw [List.mem_singleton.mp ha, List.mem_singleton.mp hb] at hab
      exact h1 (obs_mem.mpr hab)
  · intro h
    refine ⟨fun z => h x (by simp) x (by simp) (obs_mem.mp z), fun m hm z => ?_⟩
    rw [Bool.or_eq_true] at z
    rcases z with z | z
    · exact h m (by simp [hm]) x (by simp) (obs_mem.mp (of_decide_eq_true z))
    · exact h x (by simp) m (by simp [hm]) (obd_mem.mp (of_decide_eq_true z))
theorem hit_mem {d : Deb} {L : Lot} {o : Str} : o ∈ hitP d L ↔ ∃ z ∈ L, (z, o) ∈ d.O := by
  unfold hitP
  rw [dedup_mem, List.mem_flatMap]
  exact ⟨fun ⟨z, h1, h2⟩ => ⟨z, h1, obd_mem.mp h2⟩, fun ⟨z, h1, h2⟩ => ⟨z, h1, obd_mem.mpr h2⟩⟩
theorem unans_iff {d : Deb} {L : Lot} : unansP d L = none ↔ ∀ x ∈ L, Ans d.O L x := by
  unfold unansP unansAt
  rw [List.findSome?_eq_none_iff]
  constructor
  · intro h x hx o ho
    have h2 := List.findSome?_eq_none_iff.mp (h x hx) o (obs_mem.mpr ho)
    by_cases q : o ∈ hitP d L
    · exact hit_mem.mp q
    · rw [if_neg q] at h2; cases h2
  · intro h x hx
    rw [List.findSome?_eq_none_iff]
    intro o ho
    rw [if_pos (hit_mem.mpr (h x hx o (obs_mem.mp ho)))]
theorem clash_iff {d : Deb} {L : Lot} : clashP d L = none ↔ Calm d.O L := by
  unfold clashP
  rw [List.head?_eq_none_iff, List.filter_eq_nil_iff]
  constructor
  · intro h a ha b hb hab
    exact h (a, b) hab (by simp [ha, hb])
  · intro h p hp z
    rw [Bool.and_eq_true] at z
    exact h p.1 (of_decide_eq_true z.1) p.2 (of_decide_eq_true z.2) hp
theorem fault_iff {d : Deb} {L : Lot} : faultP d L = none ↔ Held d.O L := by
  unfold faultP
  cases h1 : clashP d L with
  | some p =>
    simp only [reduceCtorEq, false_iff]
    intro h
    rw [clash_iff.mpr h.calm] at h1; cases h1
  | none =>
    cases h2 : unansP d L with
    | some p =>
      simp only [reduceCtorEq, false_iff]
      intro h
      rw [unans_iff.mpr h.ans] at h2; cases h2
    | none => exact ⟨fun _ => ⟨clash_iff.mp h1, unans_iff.mp h2⟩, fun _ => rfl⟩
theorem heldP_mem {d : Deb} {L : Lot} : L ∈ heldP d ↔ L.Sublist d.S ∧ Held d.O L := by
  unfold heldP
  rw [so_mem, List.mem_filter, Option.isNone_iff_eq_none, unans_iff]
  rw [grow_mem (fun x L => calmW d L x) (Calm d.O) (fun A x hA => calmW_iff hA) (fun A B h a ha b hb => h a (List.mem_append_left _ ha) b (List.mem_append_left _ hb)) d.S [[]] (fun A hA => by rw [List.mem_singleton.mp hA]; intro a ha; cases ha)]
  constructor
  · rintro ⟨⟨A, hA, B, hB, rfl, hC⟩, h⟩
    rw [List.mem_singleton.mp hA] at hC h ⊢
    exact ⟨hB, hC, h⟩
  · rintro ⟨h1, h2⟩
    exact ⟨⟨[], List.mem_singleton_self _, L, h1, rfl, h2.calm⟩, h2.ans⟩
theorem heldP_nodup {d : Deb} (h : d.S.Nodup) : (heldP d).Nodup := by
  unfold heldP
  rw [so_nodup]
  exact (grow_nodup _ _ _ h (by simp) (by simp)).sublist List.filter_sublist
theorem held_perm {P' : List Pr} {L : Lot} (h : ∀ p, p ∈ P' ↔ p ∈ P) : Held P' L ↔ Held P L := by
  constructor
  · exact fun k => ⟨fun a ha b hb z => k.calm a ha b hb ((h _).mpr z), fun x hx o ho => let ⟨z, z1, z2⟩ := k.ans x hx o ((h _).mpr ho); ⟨z, z1, (h _).mp z2⟩⟩
  · exact fun k => ⟨fun a ha b hb z => k.calm a ha b hb ((h _).mp z), fun x hx o ho => let ⟨z, z1, z2⟩ := k.ans x hx o ((h _).mp ho); ⟨z, z1, (h _).mpr z2⟩⟩
theorem held_eq (hN : N.Nodup) : heldP (debOf N P) = heldsL N P := by
  refine srt_ext so_srt helds_srt (heldP_nodup (so_nodup.mpr hN)) (helds_nodup hN) fun L => ?_
  rw [heldP_mem, helds_mem]
  show L.Sublist (so eS N) ∧ Held (so ePP P) L ↔ _
  rw [held_perm fun p => so_mem]
theorem objs_eq (hP : P.Nodup) (x : Str) : obs (so ePP P) x = objsL P x := by
  have sO : Srt ePP (so ePP P) := so_srt
  have nO : (so ePP P).Nodup := so_nodup.mpr hP
  refine srt_ext ?_ so_srt ?_ ?_ fun o => ?_
  · unfold obs Srt
    rw [List.pairwise_map]
    refine List.Pairwise.imp_of_mem (fun {a b} ha hb h => ?_) (srt_filter sO _)
    exact pr_le h ((of_decide_eq_true (List.mem_filter.mp ha).2).trans (of_decide_eq_true (List.mem_filter.mp hb).2).symm)
  · unfold obs List.Nodup
    rw [List.pairwise_map]
    refine List.Pairwise.imp_of_mem (fun {a b} ha hb h z => h ?_) (nO.sublist List.filter_sublist)
    exact Prod.ext z ((of_decide_eq_true (List.mem_filter.mp ha).2).trans (of_decide_eq_true (List.mem_filter.mp hb).2).symm)
  · unfold objsL
    rw [so_nodup]
    unfold List.Nodup
    rw [List.pairwise_map]
    refine List.Pairwise.imp_of_mem (fun {a b} ha hb h z => h ?_) (hP.sublist List.filter_sublist)
    exact Prod.ext z ((of_decide_eq_true (List.mem_filter.mp ha).2).trans (of_decide_eq_true (List.mem_filter.mp hb).2).symm)
  · rw [obs_mem, objsL_mem, so_mem]
end
end Ob
set_option maxRecDepth 100000
set_option maxHeartbeats 2000000
/-! Kp3: sure lots, the greatest of them; greatest lots; the least one. -/
namespace Ob
open PySem PySem.Spec PyProof.Rows L2
open PySem.W (dataLe)
def sureL (N : Lot) (P : List Pr) : List Lot := (heldsL N P).filter fun l => (unsureL P l (heldsL N P)).isNone
def canon (N L : Lot) : Lot := (so eS N).filter fun x => decide (x ∈ L)
structure Sure (N : Lot) (P : List Pr) (L : Lot) : Prop where
  inn : ∀ x ∈ L, x ∈ N
  held : Held P L
  safe : ∀ x ∈ L, ∀ o, (o, x) ∈ P → ∀ E : Lot, (∀ y ∈ E, y ∈ N) → Held P E → o ∉ E
theorem within_iff {l o : Lot} : within l o = true ↔ ∀ x ∈ l, x ∈ o := by
  unfold within
  rw [List.all_eq_true]
  exact ⟨fun h x hx => of_decide_eq_true (h x hx), fun h x hx => decide_eq_true (h x hx)⟩
theorem max_len {Q : Lot → Prop} : ∀ (ls : List Lot), (∃ o ∈ ls, Q o) → ∃ o ∈ ls, Q o ∧ ∀ o' ∈ ls, Q o' → o'.length ≤ o.length
  | [], ⟨_, h, _⟩ => by cases h
  | l :: ls, h => by
    by_cases q : ∃ o ∈ ls, Q o
    · obtain ⟨o, h1, h2, h3⟩ := max_len ls q
      by_cases c : Q l ∧ o.length < l.length
      · refine ⟨l, List.mem_cons_self .., c.1, fun o' h4 h5 => ?_⟩
        rcases List.mem_cons.mp h4 with rfl | h4
        · exact Nat.le_refl _
        · have := h3 o' h4 h5; omega
      · refine ⟨o, List.mem_cons_of_mem _ h1, h2, fun o' h4 h5 => ?_⟩
        rcases List.mem_cons.mp h4 with rfl | h4
        · exact Nat.le_of_not_lt fun z => c ⟨h5, z⟩
        · exact h3 o' h4 h5
    · obtain ⟨o, h1, h2⟩ := h
      rcases List.mem_cons.mp h1 with rfl | h1
      · refine ⟨o, List.mem_cons_self .., h2, fun o' h4 h5 => ?_⟩
        rcases List.mem_cons.mp h4 with rfl | h4
        · exact Nat.le_refl _
        · exact absurd ⟨o', h4, h5⟩ q
      · exact absurd ⟨o, h1, h2⟩ q
theorem held_congr {P : List Pr} {A B : Lot} (h : ∀ x, x ∈ A ↔ x ∈ B) (k : Held P A) : Held P B :=
  ⟨fun a ha b hb => k.calm a ((h a).mpr ha) b ((h b).mpr hb), fun x hx o ho => let ⟨z, z1, z2⟩ := k.ans x ((h x).mpr hx) o ho; ⟨z, (h z).mp z1, z2⟩⟩
theorem ans_congr {P : List Pr} {A B : Lot} {x : Str} (h : ∀ x ∈ A, x ∈ B) (k : Ans P A x) : Ans P B x := fun o ho => let ⟨z, z1, z2⟩ := k o ho; ⟨z, h z z1, z2⟩
/-- a held lot and one that it answers -/
theorem held_snoc {P : List Pr} {L : Lot} {x : Str} (h : Held P L) (a : Ans P L x) : Held P (L ++ [x]) := by
  refine ⟨fun u hu v hv huv => ?_, fun y hy => ?_⟩
  · rcases List.mem_append.mp hu with hu | hu <;> rcases List.mem_append.mp hv with hv | hv
    · exact h.calm u hu v hv huv
    · rw [List.mem_singleton.mp hv] at huv
      obtain ⟨z, z1, z2⟩ := a u huv
      exact h.calm z z1 u hu z2
    · rw [List.mem_singleton.mp hu] at huv
      obtain ⟨z, z1, z2⟩ := h.ans v hv x huv
      obtain ⟨w, w1, w2⟩ := a z z2
      exact h.calm w w1 z z1 w2
    · rw [List.mem_singleton.mp hu, List.mem_singleton.mp hv] at huv
      obtain ⟨z, z1, z2⟩ := a x huv
      obtain ⟨w, w1, w2⟩ := a z z2
      exact h.calm w w1 z z1 w2
  · rcases List.mem_append.mp hy with hy | hy
    · exact ans_congr (fun _ h => List.mem_append_left _ h) (h.ans y hy)
    · rw [List.mem_singleton.mp hy]
      exact ans_congr (fun _ h => List.mem_append_left _ h) a
theorem held_nil {P : List Pr} : Held P [] := ⟨fun a ha => (by cases ha), fun x hx => by cases hx⟩
section
variable {N : Lot} {P : List Pr}
theorem sub_in {L : Lot} (h : L.Sublist (so eS N)) : ∀ x ∈ L, x ∈ N := fun x hx => so_mem.mp (h.subset hx)
theorem sub_nodup {L : Lot} (hN : N.Nodup) (h : L.Sublist (so eS N)) : L.Nodup := (so_nodup.mpr hN).sublist h
theorem sub_srt {L : Lot} (h : L.Sublist (so eS N)) : Srt eS L := srt_sub so_srt h
theorem canon_mem {L : Lot} (h : ∀ x ∈ L, x ∈ N) {x : Str} : x ∈ canon N L ↔ x ∈ L := by
  unfold canon
  rw [List.mem_filter, so_mem, decide_eq_true_eq]
  exact ⟨fun h => h.2, fun k => ⟨h x k, k⟩⟩
theorem canon_sub {L : Lot} : (canon N L).Sublist (so eS N) := List.filter_sublist
/-- lots of the same members are one -/
theorem sub_ext {A B : Lot} (hN : N.Nodup) (hA : A.Sublist (so eS N)) (hB : B.Sublist (so eS N)) (h : ∀ x, x ∈ A ↔ x ∈ B) : A = B :=
  srt_ext (e := eS) (sub_srt hA) (sub_srt hB) (sub_nodup hN hA) (sub_nodup hN hB) h
theorem so_canon {L : Lot} (hN : N.Nodup) (hL : L.Nodup) (h : ∀ x ∈ L, x ∈ N) : so eS L = canon N L :=
  srt_ext (e := eS) so_srt (sub_srt canon_sub) (so_nodup.mpr hL) (sub_nodup hN canon_sub) fun x => by rw [so_mem, canon_mem h]
theorem so_sub {L : Lot} (hN : N.Nodup) (hL : L.Nodup) (h : ∀ x ∈ L, x ∈ N) : (so eS L).Sublist (so eS N) := by rw [so_canon hN hL h]; exact canon_sub
/-! sure -/
theorem smallest_none {ls : List Lot} {x : Str} : smallestL ls x = none ↔ ∀ l ∈ ls, x ∉ l := by
  unfold smallestL
  rw [Option.map_eq_none_iff, List.head?_eq_none_iff]
  constructor
  · intro h l hl hx
    have : ((l.length : Int), l) ∈ so eIL ((ls.filter fun l => decide (x ∈ l)).map fun l => ((l.length : Int), l)) := so_mem.mpr (List.mem_map.mpr ⟨l, List.mem_filter.mpr ⟨hl, decide_eq_true hx⟩, rfl⟩)
    rw [h] at this; cases this
  · intro h
    refine List.eq_nil_iff_forall_not_mem.mpr fun p hp => ?_
    obtain ⟨l, hl, rfl⟩ := List.mem_map.mp (so_mem.mp hp)
    obtain ⟨h1, h2⟩ := List.mem_filter.mp hl
    exact h l h1 (of_decide_eq_true h2)
theorem unsure_none {L : Lot} {ls : List Lot} : unsureL P L ls = none ↔ ∀ x ∈ L, ∀ o, (o, x) ∈ P → ∀ E ∈ ls, o ∉ E := by
  unfold unsureL unsureAt
  rw [List.findSome?_eq_none_iff]
  constructor
  · intro h x hx o ho
    have h2 := List.findSome?_eq_none_iff.mp (h x (so_mem.mpr hx)) o (objsL_mem.mpr ho)
    rw [Option.map_eq_none_iff] at h2
    exact smallest_none.mp h2
  · intro h x hx
    rw [List.findSome?_eq_none_iff]
    intro o ho
    rw [Option.map_eq_none_iff]
    exact smallest_none.mpr (h x (so_mem.mp hx) o (objsL_mem.mp ho))
theorem union_mem {ls : List Lot} {x : Str} : x ∈ unionL ls ↔ ∃ l ∈ ls, x ∈ l := by
  unfold unionL
  rw [dedup_mem, List.mem_flatMap]
theorem alone_iff {d : Deb} {L known : Lot} : aloneP d L known = true ↔ ∀ x ∈ L, ∀ o, (o, x) ∈ d.O → o ∉ known := by
  unfold aloneP
  rw [Bool.not_eq_true', List.any_eq_false]
  constructor
  · intro h x hx o ho hk
    exact h x hx (List.any_eq_true.mpr ⟨o, obs_mem.mpr ho, decide_eq_true hk⟩)
  · intro h x hx z
    obtain ⟨o, h1, h2⟩ := List.any_eq_true.mp z
    exact h x hx o (obs_mem.mp h1) (of_decide_eq_true h2)
theorem sure_mem {L : Lot} : L ∈ sureL N P ↔ L.Sublist (so eS N) ∧ Sure N P L := by
  unfold sureL
  rw [List.mem_filter, helds_mem, Option.isNone_iff_eq_none, unsure_none]
  constructor
  · rintro ⟨⟨h1, h2⟩, h3⟩
    refine ⟨h1, sub_in h1, h2, fun x hx o ho E hE hh hoE => ?_⟩
    exact h3 x hx o ho (canon N E) (helds_mem.mpr ⟨canon_sub, held_congr (fun y => (canon_mem hE).symm) hh⟩) ((canon_mem hE).mpr hoE)
  · rintro ⟨h1, h2⟩
    exact ⟨⟨h1, h2.held⟩, fun x hx o ho E hE => h2.safe x hx o ho E (sub_in (helds_mem.mp hE).1) (helds_mem.mp hE).2⟩
theorem sure_eq (hN : N.Nodup) : sureP (debOf N P) = sureL N P := by
  unfold sureP sureL
  rw [held_eq hN]
  refine List.filter_congr fun L hL => ?_
  rw [Bool.eq_iff_iff, alone_iff, Option.isNone_iff_eq_none, unsure_none]
  constructor
  · exact fun h x hx o ho E hE hoE => h x hx o (so_mem.mpr ho) (union_mem.mpr ⟨E, hE, hoE⟩)
  · intro h x hx o ho hk
    obtain ⟨E, h1, h2⟩ := union_mem.mp hk
    exact h x hx o (so_mem.mp ho) E h1 h2
theorem sure_congr {A B : Lot} (h : ∀ x, x ∈ A ↔ x ∈ B) (k : Sure N P A) : Sure N P B :=
  ⟨fun x hx => k.inn x ((h x).mpr hx), held_congr h k.held, fun x hx => k.safe x ((h x).mpr hx)⟩
theorem sure_nil : Sure N P [] := ⟨fun x hx => (by cases hx), held_nil, fun x hx => by cases hx⟩
theorem sure_app {A B : Lot} (hA : Sure N P A) (hB : Sure N P B) : Sure N P (A ++ B) := by
  refine ⟨fun x hx => (List.mem_append.mp hx).elim (hA.inn x) (hB.inn x), ⟨fun a ha b hb hab => ?_, fun x hx => ?_⟩, fun x hx => (List.mem_append.mp hx).elim (hA.safe x) (hB.safe x)⟩
  · rcases List.mem_append.mp ha with ha | ha <;> rcases List.mem_append.mp hb with hb | hb
    · exact hA.held.calm a ha b hb hab
    · exact hB.safe b hb a hab A hA.inn hA.held ha
    · exact hA.safe b hb a hab B hB.inn hB.held ha
    · exact hB.held.calm a ha b hb hab
  · rcases List.mem_append.mp hx with hx | hx
    · exact ans_congr (fun _ h => List.mem_append_left _ h) (hA.held.ans x hx)
    · exact ans_congr (fun _ h => List.mem_append_right _ h) (hB.held.ans x hx)
theorem sure_flat : ∀ (ls : List Lot), (∀ l ∈ ls, Sure N P l) → Sure N P (ls.flatMap fun l => l)
  | [], _ => sure_nil
  | l :: ls, h => by
    rw [List.flatMap_cons]
    exact sure_app (h l (List.mem_cons_self ..)) (sure_flat ls fun m hm => h m (List.mem_cons_of_mem _ hm))
/-- the greatest sure lot -/
def topL (N : Lot) (P : List Pr) : Lot := so eS (unionL (sureL N P))
theorem top_mem {x : Str} : x ∈ topL N P ↔ ∃ l ∈ sureL N P, x ∈ l := by
  unfold topL
  rw [so_mem, union_mem]
theorem top_sure : Sure N P (topL N P) := by
  refine sure_congr (fun x => ?_) (sure_flat (sureL N P) fun l hl => (sure_mem.mp hl).2)
  rw [top_mem, List.mem_flatMap]
theorem top_in (hN : N.Nodup) : topL N P ∈ sureL N P := sure_mem.mpr ⟨so_sub hN (dedup_nodup _) fun x hx => top_sure.inn x (so_mem.mpr hx), top_sure⟩
theorem top_all {l : Lot} (h : l ∈ sureL N P) : within l (topL N P) = true := within_iff.mpr fun x hx => top_mem.mpr ⟨l, h, hx⟩
theorem top_eq (hN : N.Nodup) : sureLotP (debOf N P) = topL N P := by
  unfold sureLotP topL
  rw [sure_eq hN]
theorem sub_len {A B : Lot} (hN : N.Nodup) (hA : A.Sublist (so eS N)) (hB : B.Sublist (so eS N)) (h : within A B = true) (ne : A ≠ B) : A.length < B.length := by
  have h1 := within_iff.mp h
  have h2 : ¬ ∀ x ∈ B, x ∈ A := fun z => ne (sub_ext hN hA hB fun x => ⟨h1 x, z x⟩)
  have h2 : ∃ x, x ∈ B ∧ x ∉ A := Classical.byContradiction fun z => h2 fun x hx => Classical.byContradiction fun k => z ⟨x, hx, k⟩
  obtain ⟨x, hx, hxA⟩ := h2
  have h3 : (x :: A).Nodup := List.nodup_cons.mpr ⟨hxA, sub_nodup hN hA⟩
  have h4 := List.Nodup.length_le_of_subset h3 (l₂ := B) fun y hy => by
    rcases List.mem_cons.mp hy with rfl | hy
    · exact hx
    · exact h1 y hy
  rw [List.length_cons] at h4
  exact h4
/-- the law's way of finding it -/
theorem top_law (hN : N.Nodup) : ∃ r, ((sureL N P).filter fun l => (sureL N P).all fun o => within o l) = topL N P :: r := by
  have h : topL N P ∈ (sureL N P).filter fun l => (sureL N P).all fun o => within o l := List.mem_filter.mpr ⟨top_in hN, List.all_eq_true.mpr fun o ho => top_all ho⟩
  cases hc : ((sureL N P).filter fun l => (sureL N P).all fun o => within o l) with
  | nil => rw [hc] at h; cases h
  | cons a r =>
    have ha : a ∈ (sureL N P).filter fun l => (sureL N P).all fun o => within o l := by rw [hc]; exact List.mem_cons_self ..
    obtain ⟨h1, h2⟩ := List.mem_filter.mp ha
    have h3 := List.all_eq_true.mp h2 _ (top_in hN)
    have : a = topL N P := sub_ext hN (sure_mem.mp h1).1 (sure_mem.mp (top_in hN)).1 fun x => ⟨within_iff.mp (top_all h1) x, within_iff.mp h3 x⟩
    exact ⟨r, by rw [this]⟩
theorem answered_mem {L : Lot} {x : Str} : x ∈ answeredL N P L ↔ x ∈ N ∧ Ans P L x := by
  unfold answeredL
  rw [so_mem, List.mem_filter, answers_iff]
theorem answered_sub {L : Lot} (hN : N.Nodup) : (answeredL N P L).Sublist (so eS N) := so_sub hN (hN.sublist List.filter_sublist) fun x hx => (List.mem_filter.mp hx).1
theorem top_whole (hN : N.Nodup) : answeredL N P (topL N P) = topL N P := by
  refine sub_ext hN (answered_sub hN) (sure_mem.mp (top_in hN)).1 fun x => ?_
  rw [answered_mem]
  constructor
  · rintro ⟨hx, ha⟩
    have h1 : Sure N P (topL N P ++ [x]) := by
      refine ⟨fun y hy => ?_, held_snoc top_sure.held ha, fun y hy o ho E hE hh hoE => ?_⟩
      · rcases List.mem_append.mp hy with hy | hy
        · exact top_sure.inn y hy
        · rw [List.mem_singleton.mp hy]; exact hx
      · rcases List.mem_append.mp hy with hy | hy
        · exact top_sure.safe y hy o ho E hE hh hoE
        · rw [List.mem_singleton.mp hy] at ho
          obtain ⟨u, u1, u2⟩ := ha o ho
          obtain ⟨e, e1, e2⟩ := hh.ans o hoE u u2
          exact top_sure.safe u u1 e e2 E hE hh e1
    have h2 : canon N (topL N P ++ [x]) ∈ sureL N P := sure_mem.mpr ⟨canon_sub, sure_congr (fun y => (canon_mem h1.inn).symm) h1⟩
    exact top_mem.mpr ⟨_, h2, (canon_mem h1.inn).mpr (by simp)⟩
  · exact fun h => ⟨top_sure.inn x h, top_sure.held.ans x h⟩
/-! whole lots, the least one -/
theorem whole_mem {L : Lot} (hN : N.Nodup) : L ∈ wholeL N P ↔ L.Sublist (so eS N) ∧ Held P L ∧ ∀ x ∈ N, Ans P L x → x ∈ L := by
  unfold wholeL
  rw [List.mem_filter, helds_mem, decide_eq_true_eq]
  constructor
  · rintro ⟨⟨h1, h2⟩, h3⟩
    exact ⟨h1, h2, fun x hx ha => by rw [← h3]; exact answered_mem.mpr ⟨hx, ha⟩⟩
  · rintro ⟨h1, h2, h3⟩
    exact ⟨⟨h1, h2⟩, sub_ext hN (answered_sub hN) h1 fun x => by rw [answered_mem]; exact ⟨fun h => h3 x h.1 h.2, fun h => ⟨sub_in h1 x h, h2.ans x h⟩⟩⟩
theorem least_ex (hN : N.Nodup) : ∃ l ∈ wholeL N P, ∀ o ∈ wholeL N P, within l o = true := by
  obtain ⟨g, g1, g2, g3⟩ := max_len (Q := fun L => ∀ o ∈ wholeL N P, within L o = true) (heldsL N P) ⟨[], helds_mem.mpr ⟨List.nil_sublist _, held_nil⟩, fun o _ => by rfl⟩
  obtain ⟨s1, s2⟩ := helds_mem.mp g1
  refine ⟨g, (whole_mem hN).mpr ⟨s1, s2, fun x hx ha => Classical.byContradiction fun hxg => ?_⟩, g2⟩
  have hin : ∀ y ∈ g ++ [x], y ∈ N := fun y hy => by
    rcases List.mem_append.mp hy with hy | hy
    · exact sub_in s1 y hy
    · rw [List.mem_singleton.mp hy]; exact hx
  have h1 : canon N (g ++ [x]) ∈ heldsL N P := helds_mem.mpr ⟨canon_sub, held_congr (fun y => (canon_mem hin).symm) (held_snoc s2 ha)⟩
  have h2 := g3 _ h1 fun o ho => within_iff.mpr fun y hy => by
    have hgo := within_iff.mp (g2 o ho)
    rcases List.mem_append.mp ((canon_mem hin).mp hy) with hy | hy
    · exact hgo y hy
    · rw [List.mem_singleton.mp hy]
      exact ((whole_mem hN).mp ho).2.2 x hx (ans_congr hgo ha)
  have h3 : (x :: g).Nodup := List.nodup_cons.mpr ⟨hxg, sub_nodup hN s1⟩
  have h4 := List.Nodup.length_le_of_subset h3 (l₂ := canon N (g ++ [x])) fun y hy => (canon_mem hin).mpr (by
    rcases List.mem_cons.mp hy with rfl | hy
    · simp
    · simp [hy])
  rw [List.length_cons] at h4
  omega
theorem least_law (hN : N.Nodup) : ∃ l r, leastL N P = l :: r ∧ within l (topL N P) = true := by
  obtain ⟨l, h1, h2⟩ := least_ex (P := P) hN
  have h : l ∈ leastL N P := List.mem_filter.mpr ⟨h1, List.all_eq_true.mpr h2⟩
  cases hc : leastL N P with
  | nil => rw [hc] at h; cases h
  | cons a r =>
    have ha : a ∈ leastL N P := by rw [hc]; exact List.mem_cons_self ..
    have h3 := List.all_eq_true.mp (List.mem_filter.mp ha).2
    refine ⟨a, r, rfl, h3 _ ?_⟩
    unfold wholeL
    refine List.mem_filter.mpr ⟨helds_mem.mpr ⟨(sure_mem.mp (top_in hN)).1, top_sure.held⟩, decide_eq_true (top_whole hN)⟩
/-! greatest lots -/
def Mx (N : Lot) (P : List Pr) (l : Lot) : Prop := ∀ o ∈ heldsL N P, within l o = true → o = l
theorem great_mem {L : Lot} : L ∈ greatestL N P ↔ L ∈ heldsL N P ∧ Mx N P L := by
  unfold greatestL
  rw [List.mem_filter, Bool.not_eq_true', List.any_eq_false]
  constructor
  · rintro ⟨h1, h2⟩
    refine ⟨h1, fun o ho hw => Classical.byContradiction fun z => h2 o ho ?_⟩
    have ne : ¬ L = o := fun e => z e.symm
    rw [hw]
    simp [ne]
  · rintro ⟨h1, h2⟩
    refine ⟨h1, fun o ho z => ?_⟩
    rw [Bool.and_eq_true] at z
    have := h2 o ho z.1
    rw [this] at z
    simp at z
theorem within_self (l : Lot) : within l l = true := within_iff.mpr fun _ h => h
theorem within_tr {a b c : Lot} (h1 : within a b = true) (h2 : within b c = true) : within a c = true := within_iff.mpr fun x hx => within_iff.mp h2 x (within_iff.mp h1 x hx)
theorem great_over (hN : N.Nodup) {L : Lot} (hL : L ∈ heldsL N P) : ∃ G ∈ heldsL N P, Mx N P G ∧ within L G = true ∧ ∀ o ∈ heldsL N P, within L o = true → o.length ≤ G.length := by
  obtain ⟨g, g1, g2, g3⟩ := max_len (Q := fun o => within L o = true) (heldsL N P) ⟨L, hL, within_self L⟩
  refine ⟨g, g1, fun o ho hw => Classical.byContradiction fun z => ?_, g2, g3⟩
  have h1 := sub_len hN (helds_mem.mp g1).1 (helds_mem.mp ho).1 hw fun e => z e.symm
  have h2 := g3 o ho (within_tr g2 hw)
  omega
theorem top_great (hN : N.Nodup) {G : Lot} (hG : G ∈ greatestL N P) : within (topL N P) G = true := by
  obtain ⟨h1, h2⟩ := great_mem.mp hG
  obtain ⟨s1, s2⟩ := helds_mem.mp h1
  have hin : ∀ y ∈ G ++ topL N P, y ∈ N := fun y hy => (List.mem_append.mp hy).elim (sub_in s1 y) (top_sure.inn y)
  have hh : Held P (G ++ topL N P) := by
    refine ⟨fun a ha b hb hab => ?_, fun x hx => ?_⟩
    · rcases List.mem_append.mp ha with ha | ha <;> rcases List.mem_append.mp hb with hb | hb
      · exact s2.calm a ha b hb hab
      · exact top_sure.safe b hb a hab G (sub_in s1) s2 ha
      · obtain ⟨e, e1, e2⟩ := s2.ans b hb a hab
        exact top_sure.safe a ha e e2 G (sub_in s1) s2 e1
      · exact top_sure.held.calm a ha b hb hab
    · rcases List.mem_append.mp hx with hx | hx
      · exact ans_congr (fun _ h => List.mem_append_left _ h) (s2.ans x hx)
      · exact ans_congr (fun _ h => List.mem_append_right _ h) (top_sure.held.ans x hx)
  have h3 := h2 (canon N (G ++ topL N P)) (helds_mem.mpr ⟨canon_sub, held_congr (fun y => (canon_mem hin).symm) hh⟩) (within_iff.mpr fun x hx => (canon_mem hin).mpr (List.mem_append_left _ hx))
  refine within_iff.mpr fun x hx => ?_
  rw [← h3]
  exact (canon_mem hin).mpr (List.mem_append_right _ hx)
def sharedL (N : Lot) (P : List Pr) : List Lot := (heldsL N P).filter fun l => (greatestL N P).all fun o => within l o
theorem top_shared (hN : N.Nodup) : topL N P ∈ sharedL N P :=
  List.mem_filter.mpr ⟨helds_mem.mpr ⟨(sure_mem.mp (top_in hN)).1, top_sure.held⟩, List.all_eq_true.mpr fun G hG => top_great hN hG⟩
theorem shared_top (hN : N.Nodup) {L : Lot} (hL : L ∈ sharedL N P) : within L (topL N P) = true := by
  obtain ⟨h1, h2⟩ := List.mem_filter.mp hL
  have h2 := List.all_eq_true.mp h2
  obtain ⟨s1, s2⟩ := helds_mem.mp h1
  refine top_all (sure_mem.mpr ⟨s1, sub_in s1, s2, fun x hx o ho E hE hh hoE => ?_⟩)
  have hE2 : canon N E ∈ heldsL N P := helds_mem.mpr ⟨canon_sub, held_congr (fun y => (canon_mem hE).symm) hh⟩
  obtain ⟨g, g1, g2, g3, _⟩ := great_over hN hE2
  have h3 := within_iff.mp (h2 g (great_mem.mpr ⟨g1, g2⟩)) x hx
  have h4 := within_iff.mp g3 o ((canon_mem hE).mpr hoE)
  exact (helds_mem.mp g1).2.calm o h4 x h3 ho
/-! greatest_of -/
theorem byLen_srt (ls : List Lot) : (byLen ls).Pairwise fun a b => b.length ≤ a.length := by
  have h : (byLen ls).Pairwise fun a b => (decide (0 - lenI a ≤ 0 - lenI b)) = true := List.pairwise_mergeSort (fun a b c h1 h2 => by
    have h1 := of_decide_eq_true h1
    have h2 := of_decide_eq_true h2
    exact decide_eq_true (Int.le_trans h1 h2)) (fun a b => by
    rw [Bool.or_eq_true, decide_eq_true_eq, decide_eq_true_eq]
    omega) ls
  refine h.imp fun {a b} q => ?_
  have q := of_decide_eq_true q
  unfold lenI at q
  omega
theorem keep_all (hN : N.Nodup) : ∀ (C A ks : List Lot), A ++ C = byLen (heldsL N P) → ks.Nodup → (∀ l, l ∈ ks ↔ l ∈ A ∧ Mx N P l) → (C.foldl keepW ks).Nodup ∧ ∀ l, l ∈ C.foldl keepW ks ↔ l ∈ heldsL N P ∧ Mx N P l
  | [], A, ks, e, nd, h => by
    refine ⟨nd, fun l => ?_⟩
    rw [List.append_nil] at e
    show l ∈ ks ↔ _
    rw [h l, e, byLen_mem]
  | c :: C, A, ks, e, nd, h => by
    have hB := byLen_srt (heldsL N P)
    have nB : (byLen (heldsL N P)).Nodup := (List.mergeSort_perm _ _).nodup_iff.mpr (helds_nodup hN)
    rw [← e] at hB nB
    have inB : ∀ l, l ∈ A ++ c :: C ↔ l ∈ heldsL N P := fun l => by rw [e, byLen_mem]
    have cH : c ∈ heldsL N P := (inB c).mp (by simp)
    have cA : c ∉ A := fun z => (List.nodup_append.mp nB).2.2 c z c (List.mem_cons_self ..) rfl
    rw [List.foldl_cons]
    have e2 : (A ++ [c]) ++ C = byLen (heldsL N P) := by rw [← e]; simp
    by_cases q : (ks.any fun o => within c o) = true
    · rw [keepW_yes q]
      refine keep_all hN C (A ++ [c]) ks e2 nd fun l => ?_
      rw [h l, List.mem_append, List.mem_singleton]
      obtain ⟨o, o1, o2⟩ := List.any_eq_true.mp q
      obtain ⟨o3, o4⟩ := (h o).mp o1
      have oH : o ∈ heldsL N P := (inB o).mp (List.mem_append_left _ o3)
      constructor
      · exact fun k => ⟨.inl k.1, k.2⟩
      · rintro ⟨k | rfl, k2⟩
        · exact ⟨k, k2⟩
        · exact absurd (k2 o oH o2 ▸ o3) cA
    · have q : (ks.any fun o => within c o) = false := by simpa using q
      rw [keepW_no q]
      have cM : Mx N P c := fun o oH ow => Classical.byContradiction fun z => by
        obtain ⟨g, g1, g2, g3, g4⟩ := great_over hN cH
        have hlen : c.length < g.length := by
          have h1 := sub_len hN (helds_mem.mp cH).1 (helds_mem.mp oH).1 ow fun e => z e.symm
          have h2 := g4 o oH ow
          omega
        have gk : g ∈ ks := by
          refine (h g).mpr ⟨?_, g2⟩
          rcases List.mem_append.mp ((inB g).mpr g1) with k | k
          · exact k
          · rcases List.mem_cons.mp k with rfl | k
            · omega
            · have := List.rel_of_pairwise_cons (List.pairwise_append.mp hB).2.1 k
              omega
        exact List.any_eq_false.mp q g gk g3
      refine keep_all hN C (A ++ [c]) (ks ++ [c]) e2 ?_ fun l => ?_
      · rw [List.nodup_append]
        exact ⟨nd, by simp, fun a ha b hb z => by
          rw [List.mem_singleton.mp hb] at z
          rw [z] at ha
          exact cA ((h c).mp ha).1⟩
      · rw [List.mem_append, List.mem_append, h l, List.mem_singleton]
        constructor
        · rintro (k | rfl)
          · exact ⟨.inl k.1, k.2⟩
          · exact ⟨.inr rfl, cM⟩
        · rintro ⟨k | rfl, k2⟩
          · exact .inl ⟨k, k2⟩
          · exact .inr rfl
theorem great_eq (hN : N.Nodup) : greatP (heldP (debOf N P)) = greatestL N P := by
  rw [held_eq hN]
  obtain ⟨h1, h2⟩ := keep_all (P := P) hN (byLen (heldsL N P)) [] [] rfl List.nodup_nil fun l => by simp
  refine srt_ext so_srt (srt_filter helds_srt _) (so_nodup.mpr h1) ((helds_nodup hN).sublist List.filter_sublist) fun l => ?_
  show l ∈ so eLot _ ↔ _
  rw [so_mem, h2 l]
  exact great_mem.symm
/-! the rest -/
theorem lack_eq (hN : N.Nodup) (x : Str) : lackP (debOf N P) x = ((greatestL N P).filter fun l => !decide (x ∈ l)).head? := by
  unfold lackP
  rw [great_eq hN]
theorem paper_eq (hN : N.Nodup) (x : Str) : paperP (debOf N P) x = smallestL (sureL N P) x := by
  unfold paperP
  rw [sure_eq hN]
  exact small_eq (srt_filter helds_srt _) x
theorem why_eq (hN : N.Nodup) (hP : P.Nodup) (L : Lot) : whyP (debOf N P) L = unsureL P L (heldsL N P) := by
  have e : whyAt (debOf N P) = unsureAt P (heldsL N P) := by
    funext x
    unfold whyAt unsureAt
    rw [objs_eq hP, held_eq hN]
    congr 1
    funext o
    by_cases q : o ∈ unionL (heldsL N P)
    · rw [if_pos q, small_eq helds_srt]
    · rw [if_neg q]
      have : smallestL (heldsL N P) o = none := smallest_none.mpr fun l hl ho => q (union_mem.mpr ⟨l, hl, ho⟩)
      rw [this]
      rfl
  unfold whyP unsureL
  rw [e]
theorem held_debs {L : Lot} : Held (so ePP P) L ↔ Held P L := held_perm fun _ => so_mem
theorem fault_none {L : Lot} (h : L ∈ heldsL N P) : faultP (debOf N P) (so eS L) = none := fault_iff.mpr (held_debs.mpr (held_congr (fun _ => so_mem.symm) (helds_mem.mp h).2))
theorem isSure_eq (hN : N.Nodup) (xs : Lot) : isSureB (debOf N P) (.seq (xs.map some)) = (decide xs.Nodup && decide (so eS xs ∈ sureL N P)) := by
  refine decC ?_
  rw [Bool.and_eq_true, decide_eq_true_eq, decide_eq_true_eq]
  constructor
  · rintro ⟨h1, h2⟩
    obtain ⟨h3, h4⟩ := sure_mem.mp h2
    refine ⟨xs, rfl, h1, fun y hy => so_mem.mpr (h4.inn y (so_mem.mpr hy)), fault_iff.mpr (held_debs.mpr h4.held), alone_iff.mpr fun x hx o ho hk => ?_⟩
    obtain ⟨E, e1, e2⟩ := union_mem.mp hk
    rw [held_eq hN] at e1
    exact h4.safe x (so_mem.mpr hx) o (so_mem.mp ho) E (sub_in (helds_mem.mp e1).1) (helds_mem.mp e1).2 e2
  · rintro ⟨ys, e, h1, h2, h3, h4⟩
    have e : xs = ys := by
      injection e with e
      exact smap_inj e
    subst e
    have hin : ∀ x ∈ xs, x ∈ N := fun x hx => so_mem.mp (h2 x hx)
    refine ⟨h1, sure_mem.mpr ⟨so_sub hN h1 hin, fun x hx => hin x (so_mem.mp hx), held_debs.mp (fault_iff.mp h3), fun x hx o ho E hE hh hoE => ?_⟩⟩
    refine alone_iff.mp h4 x (so_mem.mp hx) o (so_mem.mpr ho) (union_mem.mpr ⟨canon N E, ?_, (canon_mem hE).mpr hoE⟩)
    rw [held_eq hN]
    exact helds_mem.mpr ⟨canon_sub, held_congr (fun y => (canon_mem hE).symm) hh⟩
theorem isSure_no (d : Deb) {els : List El} (h : none ∈ els) : isSureB d (.seq els) = false := by
  refine decC ?_
  simp only [Bool.false_eq_true, false_iff]
  rintro ⟨xs, e, _⟩
  injection e with e
  rw [e] at h
  obtain ⟨x, _, z⟩ := List.mem_map.mp h
  cases z
theorem isSure_odd (d : Deb) : isSureB d .odd = false := by
  refine decC ?_
  simp only [Bool.false_eq_true, false_iff]
  rintro ⟨xs, e, _⟩
  cases e
theorem deb_perm {N' : Lot} {P' : List Pr} (h1 : N'.Perm N) (h2 : P'.Perm P) : debOf N' P' = debOf N P := by
  show (⟨so eS N', so ePP P'⟩ : Deb) = ⟨so eS N, so ePP P⟩
  rw [so_congr h1, so_congr h2]
end
end Ob
set_option maxRecDepth 100000
set_option maxHeartbeats 1000000
/-! Kg7: debates are drawn; the spring. -/
namespace Ob
open PySem PySem.Spec PyProof.Rows L2
section
variable {K : PySem.W.Frag} {S : SA} {n m l : Nat} {σ : L2.St} {G H : Hp} {ta tb te : TE} {α β ι : Type} {R : Rp α}
/-- a call of a def that draws, its index told by the arguments -/
theorem es_callD {t : TA} {cost : ι → Nat} {pre : ι → List V → Hp → Prop} {post : ι → Hp → V → Hp → Prop} {E : XK} {A : List V → Hp → Prop} {Z : V → Hp → Prop} {j : Nat} (hs : σ[j]? = some (some (.ref S.1))) (h : EbS K S t σ G n m A) (hl : l ≤ 2 ^ 40)
    (hp : ∀ vs G2, Ex G G2 → A vs G2 → ∃ i, m + cost i ≤ l ∧ pre i vs G2 ∧ ∀ Gc v G3, Ex G Gc → post i Gc v G3 → Z v G3) : EvS K S (tCall (SpS K cost pre post) [] E (tCons (tVar j) t)) σ G n l Z := fun H e Q q => by
  refine ⟨.ref S.1, hs, h H e _ fun vs G2 H2 g s r => ?_⟩
  show SpS K cost pre post ((.ref S.1 :: vs) ++ []) H2 Q E
  rw [List.append_nil]
  obtain ⟨i, hc, hp1, hz⟩ := hp vs G2 g.kk r
  exact ⟨i, S, m, G2, vs, rfl, s, by omega, hp1, fun v G3 H3 g3 s3 p => q v G3 H3 (g.trans g3) ⟨s3.kn, s3.st.mono hc⟩ (hz G2 v G3 g.kk p)⟩
theorem es_tup {ta : TA} {T : List V → Hp → Prop} [MoL T] (h : EbS K S ta σ G n m T) (hz : ∀ vs G2, T vs G2 → vs.length ≤ 10000000) : EvS K S (tTup ta) σ G n m (fun v G2 => ∃ p vs, v = .ref p ∧ G2 p = some (.tup vs) ∧ T vs G2) := fun H e Q q =>
  h H e _ fun vs G1 H1 g1 s1 r1 => ⟨Nat.le_trans (hz vs G1 r1) (by decide), fun p hp => by
    obtain ⟨g2, s2⟩ := s1.go (Gr.new (o := .tup vs) s1.k hp)
    exact q (.ref p) _ _ (g1.trans g2) s2 ⟨p, vs, rfl, upd_same, MoL.mo (Ex.new (s1.k.ex.no _ hp)) r1⟩⟩
/-- c + draw -/
theorem es_plus {E : XK} {j : Nat} {c many : Int} (hs : σ[j]? = some (some (.ref S.1))) (h : Ev K te σ G (.int many)) (h0 : 0 < many) (h1 : many < 1073741824) (hl : n + 1 ≤ 2 ^ 40) : EvS K S (tOp (rI0 fun i j => .int (i + j)) (tC (.int c)) (tCall (spDraw K) [] E (tCons (tVar j) (tCons te tNil)))) σ G n (n + 1) (fun v _ => ∃ r : Int, v = .int (c + r) ∧ 0 ≤ r ∧ r < many) := fun H e Q q =>
  es_draw hs h h0 h1 hl H e _ fun v G2 H2 g s ⟨r, ev, r0, r1⟩ => by
    subst ev
    exact ⟨c, r, rfl, rfl, q _ G2 H2 g s ⟨r, rfl, r0, r1⟩⟩
theorem cut_drop {vs : List V} {n : Nat} (h : n ≤ vs.length) : cutV vs (some (n : Int)) none = vs.drop n := by
  unfold cutV
  have h1 : HT.sIx vs.length 0 (some (n : Int)) = n := by
    rw [HT.sIx_nat]
    exact Nat.min_eq_left h
  have h2 : HT.sIx vs.length vs.length none = vs.length := rfl
  rw [h1, h2, List.take_of_length_le]
  rw [List.length_drop]
  exact Nat.le_refl _
/-- xs[:n] -/
theorem en_pre [Mo R] {xs : List α} {k : Nat} (ha : EvP K te σ G (rL K R) xs) (hb : Ev K tb σ G (.int (k : Int))) (hk : k ≤ xs.length) : EvN K (tSl (rSlL K) te tNoPart (tPart tb)) σ G (AllR R (xs.take k)) := fun H e Q q =>
  ha H e _ fun v G1 H1 g1 ⟨a, vs, e1, h1, h2⟩ => (hb.mono g1.kk) H1 g1.kn _ fun H2 g2 => ⟨(k : Int), rfl, a, vs, e1, ex_l g2.kh h1, fun p hp => by
    have g := g1.trans g2
    refine q p _ G1 _ (g.hh.no _ hp) (g.kh.no _ hp) (g.trans (Gr.skip g2.kn (Ex.new hp) (tb_new g2.kn.tb hp))) upd_same ?_
    rw [cut_take (by rw [← h2.length]; exact hk)]
    exact h2.take k⟩
/-- xs[n:] -/
theorem en_suf [Mo R] {xs : List α} {k : Nat} (ha : EvP K te σ G (rL K R) xs) (hb : Ev K tb σ G (.int (k : Int))) (hk : k ≤ xs.length) : EvN K (tSl (rSlL K) te (tPart tb) tNoPart) σ G (AllR R (xs.drop k)) := fun H e Q q =>
  ha H e _ fun v G1 H1 g1 ⟨a, vs, e1, h1, h2⟩ => (hb.mono g1.kk) H1 g1.kn _ fun H2 g2 => ⟨(k : Int), rfl, a, vs, e1, ex_l g2.kh h1, fun p hp => by
    have g := g1.trans g2
    refine q p _ G1 _ (g.hh.no _ hp) (g.kh.no _ hp) (g.trans (Gr.skip g2.kn (Ex.new hp) (tb_new g2.kn.tb hp))) upd_same ?_
    rw [cut_drop (by rw [← h2.length]; exact hk)]
    exact h2.drop k⟩
/-- a display's items of one kind -/
theorem eb_all0 : EvB K tNil σ G (AllR R []) := fun H e Q q => eb_nil H e Q fun vs G2 H2 g (r : vs = []) => q vs G2 H2 g (by rw [r]; trivial)
theorem eb_all {t : TA} [Mo R] {x : α} {xs : List α} (h : EvP K te σ G R x) (k : EvB K t σ G (AllR R xs)) : EvB K (tCons te t) σ G (AllR R (x :: xs)) := fun H e Q q =>
  h H e _ fun v G1 H1 g1 r1 => k.mono g1.kk H1 g1.kn _ fun vs G2 H2 g2 r2 => q (v :: vs) G2 H2 (g1.trans g2) ⟨Mo.mo g2.kk r1, r2⟩
end
def okPs (N : Lot) (ps : List Pr) : Prop := ps.Nodup ∧ (∀ p ∈ ps, p.1 ∈ N ∧ p.2 ∈ N) ∧ ps.length ≤ 1000
abbrev rZ (K : PySem.W.Frag) : Rp (Lot × List Pr) := rP K (rM rS) (rM (rP K rS rS))
/-- a drawn debate -/
structure DrawnD (z : Lot × List Pr) : Prop where
  good : GoodD z.1 z.2
  pos : 0 < z.1.length
def spZ (K : PySem.W.Frag) (args : List V) : Sp := SpS K (ι := Unit) (fun _ => 1100) (fun _ ws G => ws = args) (fun _ _ v G2 => ∃ z : Lot × List Pr, DrawnD z ∧ rZ K z v G2)
section
variable {P : Program} {w : World} {K : PySem.W.Frag} {mg : Str → Option Value} {base : Heap}
abbrev N_l_z_debate : List Str := ["_law_stream", "_law_most", "_law_names"]
theorem sc_l_z_debate : FnScope N_l_z_debate ["_law_stream", "_law_most"] (defScope s_l_z_debate) := ⟨rfl, rfl, rfl, by decide +kernel, rfl, by decide +kernel, by decide +kernel⟩
theorem cal_l_z_debate (T : Txt K mg) : Cal P w K mg base CX0 4 "_law_z_debate" ["_law_stream", "_law_most"] (spZ K [.int 7]) := by
  refine cal_mk T.g_l_z_debate sc_l_z_debate (fun _ _ _ _ _ _ us hl => match us, hl with | [_, _], _ => rfl) (sps_len fun i vs G e => by rw [e]; rfl) (fun f cdv A outer s H vs Q E hr h => ?_)
  obtain ⟨_, S, n, G, ws, rfl, e, hn, rfl, q⟩ := h
  have hn : n + 1100 ≤ 2 ^ 40 := hn
  refine ⟨_, (pss_cons (ps_set (i := 2) sc_l_z_debate.nd rfl (by first | exact Or.inl rfl | exact Or.inr rfl) (pe_cal (cal_l_d_names T) (hr.mono (by decide)) (by rfl) pass0 (pa_cons (pv 0) (pa_cons (pe_op op_add pe_int (pe_cal (cal_l_draw T) (hr.mono (by decide)) (by rfl) pass0 (pa_cons (pv 0) (pa_cons (pv 1) pa_nil)))) pa_nil)))) (pss_one (ps_ret (pe_tup (pa_cons (pv 2) (pa_cons (pe_cal (cal_l_d_pairs T) (hr.mono (by decide)) (by rfl) pass0 (pa_cons (pv 0) (pa_cons (pv 2) pa_nil))) pa_nil)))))), ?_⟩
  refine qs_asg (m := n + 11) (R := fun v G2 => ∃ N : Lot, N.Nodup ∧ (∀ x ∈ N, x ∈ tenN) ∧ 0 < N.length ∧ N.length ≤ 7 ∧ rM rS N v G2) e (es_callD rfl (ebs_one (es_plus (many := 7) rfl (ev_var rfl) (by decide) (by decide) (by omega))) (by omega) fun vs G2 _ ⟨v, e1, r, ev, r0, r1⟩ => ⟨(1 + r).toNat, by show n + 1 + 10 ≤ _; omega, ⟨by rw [e1, ev]; congr 2; omega, by omega⟩, fun Gc v G3 _ ⟨ys, h1, h2, h3, h4⟩ => ⟨ys, h1, h2, by omega, by omega, h4.m⟩⟩) fun v1 G1 H1 g1 s1 ⟨N, h1, h2, h3, h4, r1⟩ => ?_
  refine ss_ret (m := n + 1011) s1 (es_tup (ebs_cons (R := rM rS N) (U := oneR (rEx (okPs N) (rM (rP K rS rS)) ())) (es_of (er_var rfl r1)) (ebs_one (es_call N rfl (ebs_of (eb_a1 (R := rL K rS) (er_var rfl r1.l))) rfl (by omega) (fun vs G2 _ h => ⟨h, h3, by omega⟩) fun Gc v G2 _ ⟨ps, a1, a2, a3, a4⟩ => ⟨ps, ⟨a1, a2, a3⟩, a4.m⟩))) fun vs G2 ⟨v, r, e1, _, w, e2, _⟩ => by rw [e1, e2]; exact (by decide : 2 ≤ 10000000)) fun v2 G2 H2 g2 s2 ⟨p, vs, e1, hp, v, r, e2, k1, w, e3, ps, ⟨a1, a2, a3⟩, a4⟩ => ?_
  exact q v2 G2 H2 (g1.trans g2) ⟨s2.kn, s2.st.mono (by show n + 1011 ≤ n + 1100; omega)⟩ ⟨(N, ps), ⟨⟨by show N.length ≤ 8; omega, a3, h1, a1, h2, a2⟩, h3⟩, p, v, w, e1, SqT.of (by rw [hp, e2, e3]), k1, a4⟩
abbrev N_l_floating : List Str := ["_law_stream", "_law_names", "_law_a", "_law_b", "_law_c", "_law_d", "_law_pairs", "_law_k"]
theorem sc_l_floating : FnScope N_l_floating ["_law_stream"] (defScope s_l_floating) := ⟨rfl, rfl, rfl, by decide +kernel, rfl, by decide +kernel, by decide +kernel⟩
theorem cal_l_floating (T : Txt K mg) : Cal P w K mg base CX0 4 "_law_floating" ["_law_stream"] (spZ K []) := by
  refine cal_mk T.g_l_floating sc_l_floating (fun _ _ _ _ _ _ us hl => match us, hl with | [_], _ => rfl) (sps_len fun i vs G e => by rw [e]; rfl) (fun f cdv A outer s H vs Q E hr h => ?_)
  obtain ⟨_, S, n, G, ws, rfl, e, hn, rfl, q⟩ := h
  have hn : n + 1100 ≤ 2 ^ 40 := hn
  refine ⟨_, (pss_cons (ps_set (i := 1) sc_l_floating.nd rfl (by first | exact Or.inl rfl | exact Or.inr rfl) (pe_cal (cal_l_d_names T) (hr.mono (by decide)) (by rfl) pass0 (pa_cons (pv 0) (pa_cons (pe_op op_add pe_int (pe_cal (cal_l_draw T) (hr.mono (by decide)) (by rfl) pass0 (pa_cons (pv 0) (pa_cons pe_int pa_nil)))) pa_nil)))) (pss_cons (ps_asg (g := gUnl K 4 (gCons (gName 2) (gCons (gName 3) (gCons (gName 4) (gCons (gName 5) gNil))))) (pe_slice (xslL K) (pv 1) po_none (po_some pe_int)) (pg_unl rfl (pgs_cons (pg_name (i := 2) sc_l_floating.nd rfl (Or.inl rfl)) (pgs_cons (pg_name (i := 3) sc_l_floating.nd rfl (Or.inl rfl)) (pgs_cons (pg_name (i := 4) sc_l_floating.nd rfl (Or.inl rfl)) (pgs_cons (pg_name (i := 5) sc_l_floating.nd rfl (Or.inl rfl)) pgs_nil)))))) (pss_cons (ps_set (i := 6) sc_l_floating.nd rfl (by first | exact Or.inl rfl | exact Or.inr rfl) (pe_lst (pa_cons (pe_tup (pa_cons (pv 2) (pa_cons (pv 3) pa_nil))) (pa_cons (pe_tup (pa_cons (pv 3) (pa_cons (pv 2) pa_nil))) (pa_cons (pe_tup (pa_cons (pv 2) (pa_cons (pv 4) pa_nil))) (pa_cons (pe_tup (pa_cons (pv 3) (pa_cons (pv 4) pa_nil))) (pa_cons (pe_tup (pa_cons (pv 4) (pa_cons (pv 5) pa_nil))) pa_nil))))))) (pss_cons (ps_for (g := gName 7) (passes_of rfl) rfl (pi_range1 (by rfl) T.m_range (pa_cons (pe_cal (cal_l_draw T) (hr.mono (by decide)) (by rfl) pass0 (pa_cons (pv 0) (pa_cons pe_int pa_nil))) pa_nil)) (pg_name (i := 7) sc_l_floating.nd rfl (by first | exact Or.inl rfl | exact Or.inr rfl)) (pss_one (ps_expr (pe_bm PySem.F.plainAttrs_list PySem.F.slot_list_append PySem.F.type_list_append mt_append (pv 6) (pa_cons (pe_tup (pa_cons (pe_cal (cal_l_pick T rS) (hr.mono (by decide)) (by rfl) pass0 (pa_cons (pv 0) (pa_cons (pv 1) pa_nil))) (pa_cons (pe_cal (cal_l_pick T rS) (hr.mono (by decide)) (by rfl) pass0 (pa_cons (pv 0) (pa_cons (pv 1) pa_nil))) pa_nil))) pa_nil))))) (pss_one (ps_ret (pe_tup (pa_cons (pv 1) (pa_cons (pe_cal (cal_l_each_once T) (hr.mono (by decide)) (by rfl) pass0 (pa_cons (pv 6) pa_nil)) pa_nil))))))))), ?_⟩
  refine qs_asg (m := n + 11) (R := fun v G2 => ∃ N : Lot, N.Nodup ∧ (∀ x ∈ N, x ∈ tenN) ∧ 4 ≤ N.length ∧ N.length ≤ 6 ∧ rM rS N v G2) e (es_callD rfl (ebs_one (es_plus (many := 3) rfl ev_c (by decide) (by decide) (by omega))) (by omega) fun vs G2 _ ⟨v, e1, r, ev, r0, r1⟩ => ⟨(4 + r).toNat, by show n + 1 + 10 ≤ _; omega, ⟨by rw [e1, ev]; congr 2; omega, by omega⟩, fun Gc v G3 _ ⟨ys, h1, h2, h3, h4⟩ => ⟨ys, h1, h2, by omega, by omega, h4.m⟩⟩) fun v1 G1 H1 g1 s1 ⟨N, h1, h2, h3, h4, r1⟩ => ?_
  refine (en_pre (R := rS) (k := 4) (xs := N) (er_var rfl r1.l) ev_c h3) H1 s1.k _ fun p vs G2 H2 hp hg g2 hl r2 => ?_
  obtain ⟨g2, s2⟩ := s1.go g2
  match N, h1, h2, h3, h4, r1, r2 with
  | a :: b :: c :: d :: N', h1, h2, h3, h4, r1, r2 =>
  match vs, r2, hl with
  | [va, vb, vc, vd], ⟨ra, rb, rc, rd, _⟩, hl =>
  have ra : rS a va G2 := ra
  have rb : rS b vb G2 := rb
  have rc : rS c vc G2 := rc
  have rd : rS d vd G2 := rd
  obtain ⟨rfl, _⟩ := id ra
  obtain ⟨rfl, _⟩ := id rb
  obtain ⟨rfl, _⟩ := id rc
  obtain ⟨rfl, _⟩ := id rd
  refine ⟨p, _, rfl, SqL.of hl, rfl, _, _, rfl, _, _, rfl, _, _, rfl, _, _, rfl, rfl, ?_⟩
  have gA := g1.trans g2
  have r1 : rM rS (a :: b :: c :: d :: N') v1 G2 := Mo.mo g2.kk r1
  refine qn_asg s2.k (en_lst (eb_all (R := rP K rS rS) (x := (a, b)) (er_pair (er_var rfl ra) (er_var rfl rb)) (eb_all (R := rP K rS rS) (x := (b, a)) (er_pair (er_var rfl rb) (er_var rfl ra)) (eb_all (R := rP K rS rS) (x := (a, c)) (er_pair (er_var rfl ra) (er_var rfl rc)) (eb_all (R := rP K rS rS) (x := (b, c)) (er_pair (er_var rfl rb) (er_var rfl rc)) (eb_all (R := rP K rS rS) (x := (c, d)) (er_pair (er_var rfl rc) (er_var rfl rd)) eb_all0))))) (fun vs G2 h => by rw [← h.length]; exact (by decide : 5 ≤ 10000000))) fun p ws G3 H3 hp hg g3 hl r3 => ?_
  have n1 := s2.ne (xs := ws) hp
  have hpm2 : msk S H2 p = none := by rw [msk_o n1.1 n1.2]; exact hp
  have hpm : msk S H p = none := gA.hh.no _ hpm2
  obtain ⟨g3, s3⟩ := s2.go g3
  have gB := gA.trans g3
  have inN : ∀ y ∈ [(a, b), (b, a), (a, c), (b, c), (c, d)], y.1 ∈ a :: b :: c :: d :: N' ∧ y.2 ∈ a :: b :: c :: d :: N' := by
    intro y hy
    simp only [List.mem_cons, List.not_mem_nil, or_false] at hy
    rcases hy with rfl | rfl | rfl | rfl | rfl <;> simp
  have r1 : rM rS (a :: b :: c :: d :: N') v1 G3 := Mo.mo g3.kk r1
  generalize hN : a :: b :: c :: d :: N' = N at h1 h2 h3 h4 r1 inN
  clear hN
  refine qs_forW (K := K) (S := S) (m := n + 12) (G := G3) (R := rI) (fun ks => ks.length ≤ 3) ?_ (fun i σ' G4 H4 => (∃ x7, σ' = [some (.ref S.1), some v1, some (.str a), some (.str b), some (.str c), some (.str d), some (.ref p), x7]) ∧ GrS K S G H G4 H4 ∧ G4 p = none ∧ ∃ fs ws, H4 p = some (.lst ws) ∧ AllR (rP K rS rS) fs ws G4 ∧ fs.length ≤ 5 + i ∧ ∀ y ∈ fs, y.1 ∈ N ∧ y.2 ∈ N) (fun i => n + 12 + 2 * i) (fun i => by omega) ?_ ?_ ?_
  · intro R' kk
    refine ews_range (B := 3) (n := n + 11) (m := n + 12) (G := G3) (by decide) ?_ s3 fun r J G5 H5 hr g6 s6 wk => kk J G5 H5 _ g6 s6 wk (by simpa using hr)
    exact fun H6 e6 Q6 q6 => es_draw (many := 3) rfl ev_c (by decide) (by decide) (by omega) H6 e6 _ fun v G7 H7 g7 s7 ⟨r, ev, r0, r2⟩ => q6 v G7 H7 g7 s7 ⟨r.toNat, by rw [ev]; exact congrArg V.int (by omega), by omega⟩
  · exact fun G4 H4 g s => ⟨s.st, ⟨_, rfl⟩, gB.trans g, g.sp p hg (hidden (by rw [msk_o n1.1 n1.2]; exact hl)), _, ws, msk_l n1.1 n1.2 hl g, r3.mono g.kk, by simp, inN⟩
  · rintro xs hC i z x σ' G4 H4 G5 H5 ex ⟨⟨x7, rfl⟩, gC, hpC, fs, ws, hl, hr1, hlen, hin⟩ e1 s0 g5 s5 rz
    have hC : xs.length ≤ 3 := hC
    have hi : i < xs.length := (List.getElem?_eq_some_iff.mp ex).1
    have hpk : ∀ E1 (σ : L2.St) n G6, σ[0]? = some (some (.ref S.1)) → σ[1]? = some (some v1) → Ex G3 G6 → n + 1 ≤ 2 ^ 40 → EvS K S (tCall (spPick K rS) [] E1 (tCons (tVar 0) (tCons (tVar 1) tNil))) σ G6 n (n + 1) (rEx (α := Unit) (fun y => y ∈ N) rS ()) := fun E1 σ n G6 e0 e1 e2 hn =>
      es_call N e0 (ebs_of (eb_a1 (R := rL K rS) (x := N) (er_var e1 (Mo.mo (R := rM rS) e2 r1).l))) rfl hn (fun vs G2 _ h => ⟨h, by show 0 < N.length; omega, by show N.length ≤ _; omega⟩) fun _ _ _ _ p => p
    have eC : Ex G3 G5 := e1.trans g5.kk
    have gD := gC.trans g5
    have l5 := msk_l n1.1 n1.2 hl g5
    have p5 : G5 p = none := g5.sp p hpC (hidden (by rw [msk_o n1.1 n1.2]; exact hl))
    refine ⟨.ref p, rfl, .inl ⟨rfl, ws, SqL.of l5⟩, ?_⟩
    refine (es_tup (n := n + 12 + 2 * i) (m := n + 12 + 2 * i + 1 + 1) (ebs_cons (R := rEx (fun y => y ∈ N) rS ()) (U := oneR (rEx (fun y => y ∈ N) rS ())) (hpk _ _ _ G5 rfl rfl eC (by show n + 12 + 2 * i + 1 ≤ _; omega)) (ebs_one (hpk _ _ _ G5 rfl rfl eC (by show n + 12 + 2 * i + 1 + 1 ≤ _; omega)))) fun vs G2 ⟨v, r, e1, _, w, e2, _⟩ => by rw [e1, e2]; exact (by decide : 2 ≤ 10000000)) H5 s5 _ fun v G6 H6 g6 s6 ⟨t, us, ev, ht, u1, r, e2, ⟨y1, a1, b1⟩, u2, e3, ⟨y2, a2, b2⟩⟩ => ?_
    have l6 := msk_l n1.1 n1.2 l5 g6
    have p6 : G6 p = none := g6.sp p p5 (hidden (by rw [msk_o n1.1 n1.2]; exact l5))
    have wl := hr1.length
    refine ⟨p, ws, v, rfl, rfl, l6, Nat.lt_of_lt_of_le (show ws.length < 10000000 by omega) (by decide), ?_⟩
    obtain ⟨gE, s7⟩ := GrS.mut (o := .lst (ws ++ [v])) (gD.trans g6) s6 p6 hpm l6 n1.1 n1.2
    refine ⟨G6, g5.kk.trans g6.kk, ⟨s7.kn, s7.st.mono (by show n + 12 + 2 * i + 1 + 1 ≤ n + 12 + 2 * (i + 1); omega)⟩, ⟨_, rfl⟩, gE, p6, fs ++ [(y1, y2)], _, upd_same, (hr1.mono (g5.kk.trans g6.kk)).append ⟨⟨t, u1, u2, ev, SqT.of (by rw [ht, e2, e3]), b1, b2⟩, trivial⟩, by rw [List.length_append]; simp; omega, ?_⟩
    intro y hy
    rcases List.mem_append.mp hy with hy | hy
    · exact hin y hy
    · rw [List.mem_singleton.mp hy]; exact ⟨a1, a2⟩
  · rintro xs hC σ' G4 H4 ⟨⟨x7, rfl⟩, gC, hpC, fs, ws, hl, hr1, hlen, hin⟩ e1 s0
    have hC : xs.length ≤ 3 := hC
    have hm2 : msk S H4 p = some (.lst ws) := by rw [msk_o n1.1 n1.2]; exact hl
    have gE : GrS K S G H (upd G4 p (.lst ws)) H4 := Gr.plus gC hpm hm2 hpC
    have sE : Sk K S _ (upd G4 p (.lst ws)) H4 := ⟨gE.kn, s0.st⟩
    have r1 : rM rS N v1 (upd G4 p (.lst ws)) := Mo.mo (e1.trans (Ex.new hpC)) r1
    have ho : ∀ E1 (σ : L2.St), σ[6]? = some (some (.ref p)) → EvR K (tCall (spOnce K) [] E1 (tCons (tVar 6) tNil)) σ (upd G4 p (.lst ws)) (rEx (α := Unit) (okPs N) (rM (rP K rS rS)) ()) := fun E1 σ e0 =>
      er_post fs (eb_a1 (R := rPs K) (x := fs) (er_var e0 (⟨p, ws, rfl, SqL.of upd_same, hr1.mono (Ex.new hpC)⟩ : rPs K fs (.ref p) _))) (fun vs G2 _ h => ⟨h, by omega⟩) fun Gc v G2 _ ⟨ys, nd, mm, ln, r⟩ => ⟨ys, ⟨nd, fun p hp => hin p ((mm p).mp hp), by omega⟩, r.m⟩
    show tRet _ _ _ _
    refine ss_ret sE (es_of (er_tup (eb_cons (R := rM rS N) (S := oneR (rEx (α := Unit) (okPs N) (rM (rP K rS rS)) ())) (er_var rfl r1) (eb_one (ho _ _ rfl))) fun vs G2 ⟨v, r, e1, _, w, e2, _⟩ => by rw [e1, e2]; exact (by decide : 2 ≤ 10000000))) fun v2 G5 H5 g5 s5 ⟨t, vs, ev, ht, v, r, e2, k1, w, e3, ps, ⟨a1, a2, a3⟩, a4⟩ => ?_
    exact q v2 G5 H5 (gE.trans g5) ⟨s5.kn, s5.st.mono (by show n + 12 + 2 * xs.length ≤ n + 1100; omega)⟩ ⟨(N, ps), ⟨⟨by show N.length ≤ 8; omega, a3, h1, a1, h2, a2⟩, by show 0 < N.length; omega⟩, t, v, w, ev, SqT.of (by rw [ht, e2, e3]), k1, a4⟩
abbrev N_l_start : List Str := ["_law_script"]
theorem sc_l_start : FnScope N_l_start ["_law_script"] (defScope s_l_start) := ⟨rfl, rfl, rfl, by decide +kernel, rfl, by decide +kernel, by decide +kernel⟩
/-- the spring: a new stream -/
def spStart (K : PySem.W.Frag) : Sp := fun vs H Q _ => ∃ G xs a, vs = [a] ∧ Kn K G H ∧ rL K rI xs a G ∧ xs.length ≤ 1000 ∧ ∀ S H2, Gr K G H G (msk S H2) → Sk K S 0 G H2 → Q (.ref S.1) H2
theorem cal_l_start (T : Txt K mg) : Cal P w K mg base CX0 1 "_law_start" ["_law_script"] (spStart K) := by
  refine cal_mk T.g_l_start sc_l_start (fun _ _ _ _ _ _ us hl => match us, hl with | [_], _ => rfl) (fun vs H Q E ⟨_, _, _, e, _⟩ => by rw [e]; rfl) (fun f cdv A outer s H vs Q E hr h => ?_)
  obtain ⟨G, xs, a, rfl, eG, hx, hz, q⟩ := h
  refine ⟨_, (pss_one (ps_ret (pe_lst (pa_cons (pe_callTy (xlistof K) (by rfl) T.m_list (by decide +kernel) (pa_cons (pv 0) pa_nil)) (pa_cons pe_int (pa_cons pe_int (pa_cons pe_int pa_nil))))))), ?_⟩
  refine (en_listof (R := rI) (i := 0) (v := a) (.inl hx) rfl) H eG _ fun p vs G2 H2 hp hg g hl r => ?_
  refine ⟨(by decide : 4 ≤ sizeLine), fun c hc => ?_⟩
  have hpc : c ≠ p := fun z => by rw [z, hl] at hc; cases hc
  have hcH : H c = none := g.hh.no _ hc
  have e2 : Ex H2 (upd H2 c (.lst [.ref p, .int 0, .int 0, .int 11])) := Ex.new hc
  have st : Strm (c, p) 0 (upd H2 c (.lst [.ref p, .int 0, .int 0, .int 11])) := ⟨⟨xs, 0, 0, 11, upd_same, by rw [upd_ne (Ne.symm hpc), hl, allR_int r], by decide, by decide, by decide, by decide, by decide⟩, hpc⟩
  have tb := tb_new (o := .lst [.ref p, .int 0, .int 0, .int 11]) g.kn.tb hc
  have g3 : Gr K G H G (upd H2 c (.lst [.ref p, .int 0, .int 0, .int 11])) := Gr.skip eG (g.hh.trans e2) tb
  have gm : Gr K G H G (msk (c, p) (upd H2 c (.lst [.ref p, .int 0, .int 0, .int 11]))) := by
    have k1 : Ex H (msk (c, p) (upd H2 c (.lst [.ref p, .int 0, .int 0, .int 11]))) := ⟨fun b o h n => by
        have n1 : b ≠ c := fun z => by rw [z, hcH] at h; cases h
        have n2 : b ≠ p := fun z => by rw [z, hp] at h; cases h
        rw [msk_o n1 n2]; exact g3.hh.ob b o h n, fun b ps h => by
        have n1 : b ≠ c := fun z => by rw [z, hcH] at h; cases h
        have n2 : b ≠ p := fun z => by rw [z, hp] at h; cases h
        rw [msk_o n1 n2]; exact g3.hh.tt b ps h, fun b h => by
        by_cases z1 : b = c
        · rw [z1]; exact hcH
        · by_cases z2 : b = p
          · rw [z2]; exact hp
          · rw [msk_o z1 z2] at h; exact g3.hh.no b h⟩
    exact Gr.skip eG k1 (tb_msk tb st)
  exact q (c, p) _ gm ⟨gm.kn, st⟩
end
end Ob
set_option maxRecDepth 100000
set_option maxHeartbeats 1000000
/-! Kg8: same: two things of one shape. -/
namespace Ob
open PySem PySem.Spec PyProof.Rows L2
abbrev RV := V → V → Hp → Prop
class MoS (S : RV) : Prop where
  mo : ∀ {x y : V} {H H' : Hp}, Ex H H' → S x y H → S x y H'
inductive Leaf : V → Prop
  | non : Leaf .non
  | int (i : Int) : Leaf (.int i)
  | bl (b : Bool) : Leaf (.bl b)
  | str (x : Str) : Leaf (.str x)
/-- alike: leaves that are one; lists, tuples whose parts are alike by S; empty dicts -/
def Nx (K : PySem.W.Frag) (S : RV) : RV := fun v w H => (v = w ∧ Leaf v) ∨
  (∃ a b vs ws, v = .ref a ∧ w = .ref b ∧ ((SqL K H a vs ∧ SqL K H b ws) ∨ (SqT K H a vs ∧ SqT K H b ws)) ∧ vs.length ≤ 10000 ∧ Paired (fun x y => S x y H) vs ws) ∨
  (∃ a b, v = .ref a ∧ w = .ref b ∧ H a = some (.dK []) ∧ H b = some (.dK []) ∧ ∀ (H' : Hp) (c d : Addr), SqL K H' c [] → SqL K H' d [] → S (.ref c) (.ref d) H')
theorem paired_mo {S : RV} [MoS S] {H H' : Hp} (e : Ex H H') : ∀ {vs ws : List V}, Paired (fun x y => S x y H) vs ws → Paired (fun x y => S x y H') vs ws
  | _, _, .nil => .nil
  | _, _, .cons h t => .cons (MoS.mo e h) (paired_mo e t)
instance {K : PySem.W.Frag} {S : RV} [MoS S] : MoS (Nx K S) := ⟨fun e h => by
  rcases h with h | ⟨a, b, vs, ws, h1, h2, h3, h4, h5⟩ | ⟨a, b, h1, h2, h3, h4, h5⟩
  · exact .inl h
  · exact .inr (.inl ⟨a, b, vs, ws, h1, h2, h3.imp (fun h => ⟨ex_l e h.1, ex_l e h.2⟩) fun h => ⟨ex_t e h.1, ex_t e h.2⟩, h4, paired_mo e h5⟩)
  · exact .inr (.inr ⟨a, b, h1, h2, e.d h3, e.d h4, h5⟩)⟩
theorem allR_self {H : Hp} : ∀ (vs : List V), AllR rV vs vs H
  | [] => trivial
  | _ :: vs => ⟨rfl, allR_self vs⟩
def S0 : RV := fun _ _ _ => False
instance : MoS S0 := ⟨fun _ h => h⟩
/-- the kinds of a leaf -/
theorem leaf_ty {K : PySem.W.Frag} {v : V} (h : Leaf v) : ∃ t, (∀ H : Hp, TyX K H v (.type t)) ∧ kitLT t = some false ∧ kitB t "dict" = some false ∧ kitB t "list" = some false ∧ kitB t "tuple" = some false ∧
    (((∃ i, v = .int i) ∧ kitB t "int" = some true ∧ kitB t "bool" = some false) ∨ ((∃ b, v = .bl b) ∧ kitB t "int" = some true ∧ kitB t "bool" = some true) ∨ ((v = .non ∨ ∃ x, v = .str x) ∧ kitB t "int" = some false)) := by
  cases h with
  | non => exact ⟨"NoneType", fun _ => .base .non, by decide +kernel, by decide +kernel, by decide +kernel, by decide +kernel, .inr (.inr ⟨.inl rfl, by decide +kernel⟩)⟩
  | int i => exact ⟨"int", fun _ => .base (.int i), by decide +kernel, by decide +kernel, by decide +kernel, by decide +kernel, .inl ⟨⟨i, rfl⟩, by decide +kernel, by decide +kernel⟩⟩
  | bl b => exact ⟨"bool", fun _ => .base (.bl b), by decide +kernel, by decide +kernel, by decide +kernel, by decide +kernel, .inr (.inl ⟨⟨b, rfl⟩, by decide +kernel, by decide +kernel⟩)⟩
  | str x => exact ⟨"str", fun _ => .base (.str x), by decide +kernel, by decide +kernel, by decide +kernel, by decide +kernel, .inr (.inr ⟨.inr ⟨x, rfl⟩, by decide +kernel⟩)⟩
section
variable {K : PySem.W.Frag} {σ : L2.St} {G H : Hp} {ta tb te : TE} {α β ι : Type} {R : Rp α}
/-- isinstance(x, t) -/
theorem ev_isB {i : Nat} {v : V} {t nm : String} {b : Bool} (h : σ[i]? = some (some v)) (ty : TyX K G v (.type t)) (hk : kitB t nm = some b) : Ev K (tCB (rIsi K) (tCons (tVar i) (tCons (tC (.ty nm)) tNil))) σ G (.bl b) := fun H e Q q =>
  ⟨v, h, v, .ty nm, .type t, .type nm, b, rfl, .ty nm, tyX_mono e.ex ty, kit1 _ hk, q H (Gr.refl e)⟩
/-- isinstance(x, (int, list, tuple, dict)) is false -/
theorem ev_isN4 {i : Nat} {v : V} {t : String} (h : σ[i]? = some (some v)) (ty : TyX K G v (.type t)) (h1 : kitB t "int" = some false) (h2 : kitB t "list" = some false) (h3 : kitB t "tuple" = some false) (h4 : kitB t "dict" = some false) :
    Ev K (tCB (rIsiT K) (tCons (tVar i) (tCons (tTup (tCons (tC (.ty "int")) (tCons (tC (.ty "list")) (tCons (tC (.ty "tuple")) (tCons (tC (.ty "dict")) tNil))))) tNil))) σ G (.bl false) := fun H e Q q => by
  refine ⟨v, h, (by decide : 4 ≤ sizeLine), fun p hp => ?_⟩
  have e2 : Ex H (upd H p (.tup [.ty "int", .ty "list", .ty "tuple", .ty "dict"])) := Ex.new hp
  refine ⟨v, p, [.ty "int", .ty "list", .ty "tuple", .ty "dict"], .type t, [.type "int", .type "list", .type "tuple", .type "dict"], false, rfl, upd_same, .cons (.ty _) (.cons (.ty _) (.cons (.ty _) (.cons (.ty _) .nil))), tyX_mono (e.ex.trans e2) ty, ?_, q _ (Gr.skip e e2 (tb_new e.tb hp))⟩
  exact kitAny_cons (kit1 _ h1) (fun _ => kitAny_cons (kit1 _ h2) (fun _ => kitAny_cons (kit1 _ h3) (fun _ => kitAny_cons (kit1 _ h4) (fun _ => kitAny_nil) fun z => by cases z) fun z => by cases z) fun z => by cases z) fun z => by cases z
theorem ev_nev {x y : V} (hs : scal x y = true) (ha : Ev K ta σ G x) (hb : Ev K tb σ G y) : Ev K (tOp rNe ta tb) σ G (.bl (!decide (x = y))) :=
  ev_opR (er_of (R := fun v _ => v = x) ha rfl) (er_of (R := fun v _ => v = y) hb rfl) fun a b G2 _ ra rb H2 e2 Q q => by rw [show a = x from ra, show b = y from rb]; exact ⟨hs, q⟩
theorem er_items {a : Addr} {i : Nat} (h : σ[i]? = some (some (.ref a))) (hd : G a = some (.dK [])) : EvR K (LiI.tListItems (tVar i)) σ G (fun v G2 => ∃ c, v = .ref c ∧ SqL K G2 c []) := fun H e Q q => by
  refine ⟨.ref a, h, a, [], rfl, e.ex.d hd, fun H' p ts k1 k2 k3 k4 k5 k6 => ?_⟩
  cases k6
  have e2 : Ex H H' := ⟨fun b o h _ => k1 b o h, fun b ps h => ⟨ps, k1 b _ h⟩, fun b h => by
    cases r : H b with
    | none => rfl
    | some o => rw [k1 b o r] at h; cases h⟩
  have t2 : Tb K H' := fun x hx => by
    obtain ⟨ps, h1, h3, h4⟩ := e.tb x hx
    refine ⟨ps, k1 _ _ h1, h3, fun pos cv hc => ?_⟩
    obtain ⟨c, q1, q2⟩ := h4 pos cv hc
    exact ⟨c, q1, k1 _ _ q2⟩
  have g1 : Gr K G H G H' := Gr.skip e e2 t2
  have hG : G p = none := e.ex.no _ k2
  exact q (.ref p) _ H' (Gr.plus g1 k2 k5 hG) ⟨p, rfl, SqL.of upd_same⟩
/-- a new pair, known with S of its parts -/
def rPV (S : RV) : Rp (V × V) := fun p v H => ∃ T, v = .ref T ∧ H T = some (.tup [p.1, p.2]) ∧ S p.1 p.2 H
instance {S : RV} [MoS S] : Mo (rPV S) := ⟨fun e ⟨T, h1, h2, h3⟩ => ⟨T, h1, e.t h2, MoS.mo e h3⟩⟩
theorem paired_at {S : RV} : ∀ {vs ws : List V} {i : Nat} {x y : V}, Paired (fun x y => S x y H) vs ws → vs[i]? = some x → ws[i]? = some y → S x y H
  | _, _, _, _, _, .nil, h, _ => by simp at h
  | _, _, 0, _, _, .cons h t, e1, e2 => by
    cases e1; cases e2; exact h
  | _, _, i + 1, _, _, .cons h t, e1, e2 => paired_at (i := i) t e1 e2
theorem zip_at {vs ws : List V} {i : Nat} {x y : V} (h1 : vs[i]? = some x) (h2 : ws[i]? = some y) : (vs.zip ws)[i]? = some (x, y) := by
  rw [List.getElem?_zip_eq_some]
  exact ⟨h1, h2⟩
theorem ew_zip {S : RV} [MoS S] {i j : Nat} {a b : Addr} {vs ws : List V} (ha : σ[i]? = some (some (.ref a))) (hb : σ[j]? = some (some (.ref b))) (hs : (SqL K G a vs ∧ SqL K G b ws) ∨ (SqT K G a vs ∧ SqT K G b ws)) (hp : Paired (fun x y => S x y G) vs ws) :
    EvW K (RZ.iZipA K (tCons (tVar i) (tCons (tVar j) tNil))) σ G (rPV S) (vs.zip ws) := fun H e Q q => by
  have hl := hp.length
  have hz : (vs.zip ws).length = vs.length := by rw [List.length_zip, ← hl]; exact Nat.min_self _
  refine ⟨.ref a, ha, .ref b, hb, a, b, vs, ws, rfl, ?_⟩
  rcases hs with ⟨s1, s2⟩ | ⟨s1, s2⟩
  · refine .inl ⟨ex_l e.ex s1, ex_l e.ex s2, q _ G H (Gr.refl e) ⟨fun k H2 hk k2 => ?_, fun k H2 x H3 hk k2 y => ?_, fun H2 k2 => ?_⟩⟩
    · rw [hz] at hk
      exact ⟨vs, ws, vs[k], ws[k]'(by omega), ex_l k2.ex s1, ex_l k2.ex s2, List.getElem?_eq_getElem _, List.getElem?_eq_getElem _⟩
    · obtain ⟨T, u, z, rfl, hT, rfl, y1, y2⟩ := y
      have e1 := y1 vs (ex_l k2.ex s1)
      have e2 := y2 ws (ex_l k2.ex s2)
      exact ⟨(u, z), upd G T (.tup [u, z]), zip_at e1 e2, Gr.new k2 hT, T, rfl, upd_same, MoS.mo (Ex.new (k2.ex.no _ hT)) (paired_at hp e1 e2)⟩
    · exact ⟨vs, ws, ex_l k2.ex s1, ex_l k2.ex s2, .inl (Nat.le_of_eq hz.symm)⟩
  · refine .inr ⟨ex_t e.ex s1, ex_t e.ex s2, q _ G H (Gr.refl e) ⟨fun k H2 hk k2 => ?_, fun k H2 x H3 hk k2 y => ?_, fun H2 k2 => ?_⟩⟩
    · rw [hz] at hk
      exact ⟨vs, ws, vs[k], ws[k]'(by omega), ex_t k2.ex s1, ex_t k2.ex s2, List.getElem?_eq_getElem _, List.getElem?_eq_getElem _⟩
    · obtain ⟨T, u, z, rfl, hT, rfl, y1, y2⟩ := y
      have e1 := y1 vs (ex_t k2.ex s1)
      have e2 := y2 ws (ex_t k2.ex s2)
      exact ⟨(u, z), upd G T (.tup [u, z]), zip_at e1 e2, Gr.new k2 hT, T, rfl, upd_same, MoS.mo (Ex.new (k2.ex.no _ hT)) (paired_at hp e1 e2)⟩
    · exact ⟨vs, ws, ex_t k2.ex s1, ex_t k2.ex s2, .inl (Nat.le_of_eq hz.symm)⟩
end
def spSm (K : PySem.W.Frag) (S : RV) : Sp := SpG K (ι := V × V) (fun i vs G => vs = [i.1, i.2] ∧ S i.1 i.2 G) (fun _ _ v _ => v = .bl true)
theorem xzipA (K : PySem.W.Frag) {X : Cx} {e e2 : Expr} {ta : TA} {p pos tpos : Pos} {elts : List Expr} {kk : Nat} (hg : Gl X "zip") (hm : X.mg "zip" = none) (ha : PA X [e, e2] ta)
    (hs : starEach [e, e2] X.env = (false, eval e X.env) :: starEach [e2] X.env := by rfl) (hpl : (backTo pos (starEach [e2] X.env)).any (·.1) = false := by rfl) (h : X.K = K := by rfl) :
    PI X (.Tuple elts kk tpos) (.Call (.Name "zip" p) [e, e2] [] pos) (RZ.iZipA K ta) := by subst h; exact RZ.pi_zipA hg hm ha hs hpl
section
variable {P : Program} {w : World} {K : PySem.W.Frag} {mg : Str → Option Value} {base : Heap}
abbrev N_l_same : List Str := ["_law_found", "_law_due", "_law_x", "_law_y"]
theorem sc_l_same : FnScope N_l_same ["_law_found", "_law_due"] (defScope s_l_same) := ⟨rfl, rfl, rfl, by decide +kernel, rfl, by decide +kernel, by decide +kernel⟩
theorem same_none (T : Txt K mg) : Cal P w K mg base CX0 1 "_law_same" ["_law_found", "_law_due"] (spSm K S0) :=
  cal_mk T.g_l_same sc_l_same (fun _ _ _ _ _ _ us hl => match us, hl with | [_, _], _ => rfl) (fun vs H Q E ⟨_, _, _, ⟨_, h⟩, _⟩ => h.elim) (fun f cdv A outer s H vs Q E hr ⟨_, _, _, ⟨_, h⟩, _⟩ => h.elim)
theorem same_step (T : Txt K mg) {k : Nat} {S : RV} [MoS S] (c : Cal P w K mg base CX0 k "_law_same" ["_law_found", "_law_due"] (spSm K S)) : Cal P w K mg base CX0 (k + 1) "_law_same" ["_law_found", "_law_due"] (spSm K (Nx K S)) := by
  refine cal_mk T.g_l_same sc_l_same (fun _ _ _ _ _ _ us hl => match us, hl with | [_, _], _ => rfl) (spg_len fun i vs G ⟨e, _⟩ => by rw [e]; rfl) (fun f cdv A outer s H vs Q E hr h => ?_)
  obtain ⟨⟨v, w⟩, G, eG, ⟨rfl, hs⟩, q⟩ := h
  have hs : Nx K S v w G := hs
  refine ⟨_, (pss_cons (ps_if (pt_val (pe_callB (xisiT K) (by rfl) T.m_isinstance boot_isinstance (pa_cons (pv 1) (pa_cons (pe_tup (pa_cons (pe_bltn (v := .ty "list") (by rfl) T.m_list (by decide +kernel) rfl) (pa_cons (pe_bltn (v := .ty "tuple") (by rfl) T.m_tuple (by decide +kernel) rfl) pa_nil))) pa_nil)))) (pss_cons (ps_if (PW.pt (pw_or (pt_cmpR op_ne (pe_callB (xisi K) (by rfl) T.m_isinstance boot_isinstance (pa_cons (pv 0) (pa_cons (pe_bltn (v := .ty "list") (by rfl) T.m_list (by decide +kernel) rfl) pa_nil))) (pe_callB (xisi K) (by rfl) T.m_isinstance boot_isinstance (pa_cons (pv 1) (pa_cons (pe_bltn (v := .ty "list") (by rfl) T.m_list (by decide +kernel) rfl) pa_nil))) (nomark _)) (pw_or1 (pt_cmpR op_ne (pe_callB (xisi K) (by rfl) T.m_isinstance boot_isinstance (pa_cons (pv 0) (pa_cons (pe_bltn (v := .ty "tuple") (by rfl) T.m_tuple (by decide +kernel) rfl) pa_nil))) (pe_callB (xisi K) (by rfl) T.m_isinstance boot_isinstance (pa_cons (pv 1) (pa_cons (pe_bltn (v := .ty "tuple") (by rfl) T.m_tuple (by decide +kernel) rfl) pa_nil))) (nomark _))))) (pss_one (ps_ret pe_bl)) pss_nil) (pss_one (ps_ret (pe_and (pe_cmpR op_eq (pe_callB (xlen K) (by rfl) T.m_len PySem.boot_len (pa_cons (pv 0) pa_nil)) (pe_callB (xlen K) (by rfl) T.m_len PySem.boot_len (pa_cons (pv 1) pa_nil)) (nomark _)) (pe_one (pe_callB (xall K) (by rfl) T.m_all boot_all (pa_cons (pe_lc (own := [("_law_x", 2), ("_law_y", 3)]) (g := gTup K 2 (gCons (gName 2) (gCons (gName 3) gNil))) rfl sc_l_same.nd (xzipA K (by rfl) T.m_zip (pa_cons (pv 0) (pa_cons (pv 1) pa_nil))) (blkOk_by (own := [("_law_x", 2), ("_law_y", 3)]) (N := N_l_same) (by kernel_rfl)) (fun _ _ _ _ _ => xgtup K (pgs_cons (pg_name (i := 2) sc_l_same.nd rfl (by first | exact Or.inl rfl | exact Or.inr rfl)) (pgs_cons (pg_name (i := 3) sc_l_same.nd rfl (by first | exact Or.inl rfl | exact Or.inr rfl)) pgs_nil))) (fun _ _ _ _ _ => pts_nil) (fun _ _ _ _ _ => (pe_cal c (hr.mono (Nat.le_refl _)) (by rfl) pass0 (pa_cons (pv 2) (pa_cons (pv 3) pa_nil))))) pa_nil))))))) pss_nil) (pss_cons (ps_if (pt_val (pe_callB (xisi K) (by rfl) T.m_isinstance boot_isinstance (pa_cons (pv 1) (pa_cons (pe_bltn (v := .ty "dict") (by rfl) T.m_dict (by decide +kernel) rfl) pa_nil)))) (pss_one (ps_ret (pe_and (pe_callB (xisi K) (by rfl) T.m_isinstance boot_isinstance (pa_cons (pv 0) (pa_cons (pe_bltn (v := .ty "dict") (by rfl) T.m_dict (by decide +kernel) rfl) pa_nil))) (pe_one (pe_cal c (hr.mono (Nat.le_refl _)) (by rfl) pass0 (pa_cons (LiI.pe_listItems rfl (pv 0) (by rfl) T.m_list (by decide +kernel)) (pa_cons (LiI.pe_listItems rfl (pv 1) (by rfl) T.m_list (by decide +kernel)) pa_nil))))))) pss_nil) (pss_cons (ps_if (pt_val (pe_callB (xisi K) (by rfl) T.m_isinstance boot_isinstance (pa_cons (pv 1) (pa_cons (pe_bltn (v := .ty "int") (by rfl) T.m_int (by decide +kernel) rfl) pa_nil)))) (pss_one (ps_ret (pe_and (pe_callB (xisi K) (by rfl) T.m_isinstance boot_isinstance (pa_cons (pv 0) (pa_cons (pe_bltn (v := .ty "int") (by rfl) T.m_int (by decide +kernel) rfl) pa_nil))) (pe_and (pe_cmpR op_eq (pe_callB (xisi K) (by rfl) T.m_isinstance boot_isinstance (pa_cons (pv 0) (pa_cons (pe_bltn (v := .ty "bool") (by rfl) T.m_bool (by decide +kernel) rfl) pa_nil))) (pe_callB (xisi K) (by rfl) T.m_isinstance boot_isinstance (pa_cons (pv 1) (pa_cons (pe_bltn (v := .ty "bool") (by rfl) T.m_bool (by decide +kernel) rfl) pa_nil))) (nomark _)) (pe_one (pe_cmpR op_eq (pv 0) (pv 1) (nomark _))))))) pss_nil) (pss_one (ps_ret (pe_and (pe_not (pe_callB (xisiT K) (by rfl) T.m_isinstance boot_isinstance (pa_cons (pv 0) (pa_cons (pe_tup (pa_cons (pe_bltn (v := .ty "int") (by rfl) T.m_int (by decide +kernel) rfl) (pa_cons (pe_bltn (v := .ty "list") (by rfl) T.m_list (by decide +kernel) rfl) (pa_cons (pe_bltn (v := .ty "tuple") (by rfl) T.m_tuple (by decide +kernel) rfl) (pa_cons (pe_bltn (v := .ty "dict") (by rfl) T.m_dict (by decide +kernel) rfl) pa_nil))))) pa_nil)))) (pe_one (pe_cmpR op_eq (pv 0) (pv 1) (nomark _))))))))), ?_⟩
  rcases hs with ⟨rfl, hl⟩ | ⟨a, b, vs, ws, rfl, rfl, hs, hz, hp⟩ | ⟨a, b, rfl, rfl, h1, h2, h3⟩
  · obtain ⟨t, ty, k1, k2, k3, k4, k5⟩ := leaf_ty (K := K) hl
    refine q_no eG (et_val (ev_isKind (x := false) (er_var rfl ⟨t, ty G, k1⟩))) fun H1 g1 => ?_
    refine q_no g1.kn (et_val (ev_isB rfl (ty G) k2)) fun H2 g2 => ?_
    have gA := g1.trans g2
    rcases k5 with ⟨⟨i, rfl⟩, k5, k6⟩ | ⟨⟨i, rfl⟩, k5, k6⟩ | ⟨hn, k5⟩
    · refine q_yes g2.kn (et_val (ev_isB rfl (ty G) k5)) fun H3 g3 => ?_
      exact sv_ret g3.kn (ev_and (a := true) (b := true) (ev_isB rfl (ty G) k5) fun _ => ev_and (a := true) (b := true) (ev_is (ev_eqv (x := .bl false) (y := .bl false) rfl (ev_isB rfl (ty G) k6) (ev_isB rfl (ty G) k6)) (by simp)) fun _ => ev_is (ev_eqv (x := .int i) (y := .int i) rfl (ev_var rfl) (ev_var rfl)) (by simp)) fun H4 g4 => q _ G H4 ((gA.trans g3).trans g4) rfl
    · refine q_yes g2.kn (et_val (ev_isB rfl (ty G) k5)) fun H3 g3 => ?_
      exact sv_ret g3.kn (ev_and (a := true) (b := true) (ev_isB rfl (ty G) k5) fun _ => ev_and (a := true) (b := true) (ev_is (ev_eqv (x := .bl true) (y := .bl true) rfl (ev_isB rfl (ty G) k6) (ev_isB rfl (ty G) k6)) (by simp)) fun _ => ev_is (ev_eqv (x := .bl i) (y := .bl i) rfl (ev_var rfl) (ev_var rfl)) (by simp)) fun H4 g4 => q _ G H4 ((gA.trans g3).trans g4) rfl
    · refine q_no g2.kn (et_val (ev_isB rfl (ty G) k5)) fun H3 g3 => ?_
      have sc : scal v v = true := by
        rcases hn with rfl | ⟨x, rfl⟩ <;> rfl
      exact sv_ret g3.kn (ev_and (a := true) (b := true) (ev_is (ev_not (ev_isN4 rfl (ty G) k5 k3 k4 k2)) rfl) fun _ => ev_is (ev_eqv (x := v) (y := v) sc (ev_var rfl) (ev_var rfl)) (by simp)) fun H4 g4 => q _ G H4 ((gA.trans g3).trans g4) rfl
  · have hlen : vs.length = ws.length := hp.length
    have hzl : (vs.zip ws).length < 10000000 := by rw [List.length_zip]; omega
    obtain ⟨t, tya, tyb, k1, k2, k3⟩ : ∃ t, TyX K G (.ref a) (.type t) ∧ TyX K G (.ref b) (.type t) ∧ kitLT t = some true ∧ (∃ x, kitB t "list" = some x) ∧ ∃ x, kitB t "tuple" = some x := by
      rcases hs with ⟨s1, s2⟩ | ⟨s1, s2⟩
      · exact ⟨"list", ty_sqL s1, ty_sqL s2, by decide +kernel, ⟨true, by decide +kernel⟩, ⟨false, by decide +kernel⟩⟩
      · exact ⟨"tuple", ty_sqT s1, ty_sqT s2, by decide +kernel, ⟨false, by decide +kernel⟩, ⟨true, by decide +kernel⟩⟩
    obtain ⟨x1, k2⟩ := k2
    obtain ⟨x2, k3⟩ := k3
    have ra : rQ K rV vs (.ref a) G := hs.imp (fun h => ⟨a, vs, rfl, h.1, allR_self vs⟩) fun h => ⟨a, vs, rfl, h.1, allR_self vs⟩
    have rb : rQ K rV ws (.ref b) G := hs.imp (fun h => ⟨b, ws, rfl, h.2, allR_self ws⟩) fun h => ⟨b, ws, rfl, h.2, allR_self ws⟩
    refine q_yes eG (et_val (ev_isKind (x := true) (er_var rfl ⟨t, tyb, k1⟩))) fun H1 g1 => ?_
    refine q_no g1.kn (et_is (et_or (a := false) (b := false) (et_cmp (ev_is (ev_nev (x := .bl x1) (y := .bl x1) rfl (ev_isB rfl tya k2) (ev_isB rfl tyb k2)) (by simp))) fun _ => et_cmp (ev_is (ev_nev (x := .bl x2) (y := .bl x2) rfl (ev_isB rfl tya k3) (ev_isB rfl tyb k3)) (by simp))) rfl) fun H2 g2 => ?_
    refine sv_ret g2.kn (v := .bl true) (ev_and (a := true) (b := true) (ev_is (ev_eqi (ev_lenQ rfl ra) (ev_lenQ rfl rb)) (by rw [hlen]; simp)) fun _ => ev_is (ev_allc (R := rPV S) (fun _ => true) (ew_zip (S := S) rfl rfl hs hp) hzl fun p hp x G3 H3 e3 k3 ⟨T', ex, hT, hS⟩ => ?_) (by simp)) fun H3 g3 => q _ G H3 ((g1.trans g2).trans g3) rfl
    subst ex
    refine tg_tup2 (SqT.of (k3.ex.t hT)) ⟨rfl, ?_⟩
    exact ev_call (p.1, p.2) (eb_cons (R := fun v _ => v = p.1) (er_var rfl rfl) (eb_one (R := fun v _ => v = p.2) (er_var rfl rfl))) (fun us G4 e4 ⟨u, r, e1, e2, u2, e5, e6⟩ => ⟨by rw [e1, e5]; rw [show u = p.1 from e2, show u2 = p.2 from e6], MoS.mo e4 hS⟩) (fun _ _ _ z => z)
  · have tya : TyX K G (.ref a) (.type "dict") := .base (.dK h1)
    have tyb : TyX K G (.ref b) (.type "dict") := .base (.dK h2)
    refine q_no eG (et_val (ev_isKind (x := false) (er_var rfl ⟨"dict", tyb, by decide +kernel⟩))) fun H1 g1 => ?_
    refine q_yes g1.kn (et_val (ev_isB (b := true) rfl tyb (by decide +kernel))) fun H2 g2 => ?_
    refine sv_ret g2.kn (v := .bl true) (ev_and (a := true) (b := true) (ev_isB rfl tya (by decide +kernel)) fun _ => ?_) fun H3 g3 => q _ G H3 ((g1.trans g2).trans g3) rfl
    intro H3 e3 Q3 q3
    refine (er_items rfl h1) H3 e3 _ fun u1 G4 H4 g4 ⟨c1, ec1, sc1⟩ => ?_
    refine (er_items rfl (g4.kk.d h2)) H4 g4.kn _ fun u2 G5 H5 g5 ⟨c2, ec2, sc2⟩ => ?_
    subst ec1 ec2
    refine ⟨(.ref c1, .ref c2), G5, g5.kn, ⟨rfl, h3 G5 c1 c2 (ex_l g5.kk sc1) sc2⟩, fun v G6 H6 g6 ev => ?_⟩
    have ev : v = .bl true := ev
    rw [ev]
    exact q3 H6 (Gr.skip e3 ((g4.trans g5).trans g6).hh g6.kn.tb)
end
end Ob
set_option maxRecDepth 100000
set_option maxHeartbeats 1000000
/-! Kg9: same, by what values stand for; odd names, things. -/
namespace Ob
open PySem PySem.Spec PyProof.Rows L2
def Sm (K : PySem.W.Frag) : Nat → RV
  | 0 => Nx K S0
  | k + 1 => Nx K (Sm K k)
instance sm_mo {K : PySem.W.Frag} : ∀ k, MoS (Sm K k)
  | 0 => (inferInstance : MoS (Nx K S0))
  | k + 1 => by
    have := sm_mo (K := K) k
    exact (inferInstance : MoS (Nx K (Sm K k)))
theorem sm_leaf {K : PySem.W.Frag} {v : V} {H : Hp} (h : Leaf v) : ∀ k, Sm K k v v H
  | 0 => .inl ⟨rfl, h⟩
  | _ + 1 => .inl ⟨rfl, h⟩
theorem sm_nil {K : PySem.W.Frag} {a b : Addr} {H : Hp} (h1 : SqL K H a []) (h2 : SqL K H b []) : ∀ k, Sm K k (.ref a) (.ref b) H
  | 0 => .inr (.inl ⟨a, b, [], [], rfl, rfl, .inl ⟨h1, h2⟩, by simp, .nil⟩)
  | _ + 1 => .inr (.inl ⟨a, b, [], [], rfl, rfl, .inl ⟨h1, h2⟩, by simp, .nil⟩)
/-- what R and S tell of one thing is alike -/
class Sa {α : Type} (K : PySem.W.Frag) (R S : Rp α) (ok : outParam (α → Prop)) (k : Nat) : Prop where
  sa : ∀ {x : α} {v w : V} {H : Hp}, ok x → R x v H → S x w H → Sm K k v w H
/-- lists of all kinds -/
class Ls {α : Type} (K : PySem.W.Frag) (R : Rp (List α)) (R' : outParam (Rp α)) : Prop where
  toL : ∀ {xs : List α} {v : V} {H : Hp}, R xs v H → rL K R' xs v H
def okL {α : Type} (ok : α → Prop) (xs : List α) : Prop := xs.length ≤ 10000 ∧ ∀ x ∈ xs, ok x
def okO {α : Type} (ok : α → Prop) (o : Option α) : Prop := ∀ x, o = some x → ok x
def okT {α : Type} : α → Prop := fun _ => True
def ok3 {α β γ : Type} (ok : γ → Prop) (p : α × β × γ) : Prop := ok p.2.2
section
variable {K : PySem.W.Frag} {α β γ : Type} {R S : Rp α} {H0 : Hp}
instance : Ls K (rL K R) R := ⟨fun h => h⟩
instance : Ls K (rM R) R := ⟨fun h => h.l⟩
instance : Ls K (rF H0 R) R := ⟨fun h => h.l⟩
instance {k : Nat} : Sa K rS rS okT k := ⟨fun {x v w H} _ h1 h2 => by
  rw [h1.1, h2.1]
  exact sm_leaf (.str x) k⟩
theorem paired_of {ok : α → Prop} {k : Nat} [Sa K R S ok k] {H : Hp} : ∀ {xs : List α} {vs ws : List V}, (∀ x ∈ xs, ok x) → AllR R xs vs H → AllR S xs ws H → Paired (fun x y => Sm K k x y H) vs ws
  | [], [], [], _, _, _ => .nil
  | x :: xs, v :: vs, w :: ws, h, h1, h2 => .cons (Sa.sa (h x (List.mem_cons_self ..)) h1.1 h2.1) (paired_of (fun y hy => h y (List.mem_cons_of_mem _ hy)) h1.2 h2.2)
  | [], _ :: _, _, _, h, _ => h.elim
  | _ :: _, [], _, _, h, _ => h.elim
  | [], [], _ :: _, _, _, h => h.elim
  | _ :: _, _ :: _, [], _, _, h => h.elim
instance {A B : Rp (List α)} {ok : α → Prop} {k : Nat} [Ls K A R] [Ls K B S] [Sa K R S ok k] : Sa K A B (okL ok) (k + 1) := ⟨fun {xs v w H} h h1 h2 => by
  obtain ⟨a, vs, rfl, q1, q2⟩ := Ls.toL (K := K) h1
  obtain ⟨b, ws, rfl, q3, q4⟩ := Ls.toL (K := K) h2
  exact .inr (.inl ⟨a, b, vs, ws, rfl, rfl, .inl ⟨q1, q3⟩, by rw [← q2.length]; exact h.1, paired_of h.2 q2 q4⟩)⟩
instance {ok : α → Prop} {k : Nat} [Sa K R S ok k] : Sa K (rO R) (rO S) (okO ok) k := ⟨fun {o v w H} h h1 h2 => by
  cases o with
  | none =>
    have h1 : v = .non := h1
    have h2 : w = .non := h2
    rw [h1, h2]
    exact sm_leaf .non k
  | some x => exact Sa.sa (R := R) (S := S) (h x rfl) h1 h2⟩
instance {T T' : Rp γ} {ok : γ → Prop} {k : Nat} [Sa K T T' ok k] : Sa K (rP3 K rS rS T) (rP3 K rS rS T') (ok3 (α := Str) (β := Str) ok) (k + 1) := ⟨fun {p v w H} h h1 h2 => by
  obtain ⟨a, u1, u2, u3, rfl, q1, q2, q3, q4⟩ := h1
  obtain ⟨b, w1, w2, w3, rfl, r1, r2, r3, r4⟩ := h2
  exact .inr (.inl ⟨a, b, _, _, rfl, rfl, .inr ⟨q1, r1⟩, (by decide : 3 ≤ 10000), .cons (Sa.sa (R := rS) (S := rS) trivial q2 r2) (.cons (Sa.sa (R := rS) (S := rS) trivial q3 r3) (.cons (Sa.sa (R := T) (S := T') (ok := ok) (x := p.2.2) h q4 r4) .nil))⟩)⟩
end
section
variable {K : PySem.W.Frag} {σ : L2.St} {G H : Hp} {ta tb te : TE} {α β ι : Type} {R S : Rp α}
/-- same(a, b) of one thing -/
theorem ev_same {E : XK} {ok : α → Prop} {x : α} [Mo R] [Mo S] {k : Nat} [Sa K R S ok k] (h : ok x) (ha : EvP K ta σ G R x) (hb : EvP K tb σ G S x) : Ev K (tCall (spSm K (Sm K k)) [] E (tCons ta (tCons tb tNil))) σ G (.bl true) := fun H e Q q =>
  ha H e _ fun v G1 H1 g1 r1 => hb.mono g1.kk H1 g1.kn _ fun w G2 H2 g2 r2 => by
    refine ⟨(v, w), G2, g2.kn, ⟨rfl, Sa.sa (R := R) (S := S) h (Mo.mo g2.kk r1) r2⟩, fun z G3 H3 g3 ez => ?_⟩
    have ez : z = .bl true := ez
    rw [ez]
    exact q H3 (Gr.skip e ((g1.trans g2).trans g3).hh g3.kn.tb)
/-- .. of one truth, one number -/
theorem ev_sameV {E : XK} {v : V} {k : Nat} (h : Leaf v) (ha : Ev K ta σ G v) (hb : Ev K tb σ G v) : Ev K (tCall (spSm K (Sm K k)) [] E (tCons ta (tCons tb tNil))) σ G (.bl true) := fun H e Q q =>
  ha H e _ fun H1 g1 => hb H1 g1.kn _ fun H2 g2 => by
    refine ⟨(v, v), G, g2.kn, ⟨rfl, sm_leaf h k⟩, fun z G3 H3 g3 ez => ?_⟩
    have ez : z = .bl true := ez
    rw [ez]
    exact q H3 (Gr.skip e ((g1.trans g2).trans g3).hh g3.kn.tb)
theorem er_dnew : EvR K tDNewK σ G (fun v G2 => ∃ a, v = .ref a ∧ G2 a = some (.dK [])) := fun H e Q q => fun p hp => q _ _ _ (Gr.new e hp) ⟨p, rfl, upd_same⟩
end
/-! an odd name -/
def rOdd (K : PySem.W.Frag) : Rp Unit := fun _ v H => ∃ o : El, rEl o v H ∧ (∀ x, o = some x → x ∉ tenN) ∧ Sm K 1 v v H
instance {K : PySem.W.Frag} : Mo (rOdd K) := ⟨fun e ⟨o, h1, h2, h3⟩ => ⟨o, Mo.mo e h1, h2, MoS.mo e h3⟩⟩
section
variable {K : PySem.W.Frag} {σ : L2.St} {G H : Hp} {ta tb te : TE}
theorem odd_leaf {v : V} (h : Leaf v) (hs : v = .non ∨ (∃ i, v = .int i) ∨ ∃ b, v = .bl b) : rOdd K () v H := ⟨none, hs.elim .inl fun h => h.elim (fun h => .inr (.inl h)) fun h => .inr (.inr (.inl h)), (fun x z => by cases z), sm_leaf h 1⟩
theorem odd_str {x : Str} (h : PyData.strOk x = true) (h2 : x ∉ tenN) : rOdd K () (.str x) H := ⟨some x, ⟨rfl, h⟩, fun y e => by cases e; exact h2, sm_leaf (.str x) 1⟩
theorem odd_list {p : Addr} {x : Str} (h : H p = some (.lst [.str x])) : rOdd K () (.ref p) H := ⟨none, .inr (.inr (.inr (.inl ⟨p, _, rfl, h⟩))), (fun x z => by cases z), .inr (.inl ⟨p, p, _, _, rfl, rfl, .inl ⟨SqL.of h, SqL.of h⟩, (by decide : 1 ≤ 10000), .cons (sm_leaf (.str x) 0) .nil⟩)⟩
theorem odd_tup {p : Addr} {x : Str} (h : H p = some (.tup [.str x])) : rOdd K () (.ref p) H := ⟨none, .inr (.inr (.inr (.inr (.inl ⟨p, _, rfl, h⟩)))), (fun x z => by cases z), .inr (.inl ⟨p, p, _, _, rfl, rfl, .inr ⟨SqT.of h, SqT.of h⟩, (by decide : 1 ≤ 10000), .cons (sm_leaf (.str x) 0) .nil⟩)⟩
theorem odd_dict {p : Addr} (h : H p = some (.dK [])) : rOdd K () (.ref p) H := ⟨none, .inr (.inr (.inr (.inr (.inr ⟨p, rfl, h⟩)))), (fun x z => by cases z), .inr (.inr ⟨p, p, rfl, rfl, h, h, fun H' c d h1 h2 => sm_nil h1 h2 0⟩)⟩
end
section
variable {P : Program} {w : World} {K : PySem.W.Frag} {mg : Str → Option Value} {base : Heap}
theorem cal_same (T : Txt K mg) : ∀ k, Cal P w K mg base CX0 (k + 2) "_law_same" ["_law_found", "_law_due"] (spSm K (Sm K k))
  | 0 => same_step T (same_none T)
  | k + 1 => same_step T (cal_same T k)
abbrev N_l_z_odd_name : List Str := ["_law_stream"]
theorem sc_l_z_odd_name : FnScope N_l_z_odd_name ["_law_stream"] (defScope s_l_z_odd_name) := ⟨rfl, rfl, rfl, by decide +kernel, rfl, by decide +kernel, by decide +kernel⟩
def spOdd (K : PySem.W.Frag) : Sp := SpS K (ι := Unit) (fun _ => 1) (fun _ ws _ => ws = []) (fun _ _ v G2 => rOdd K () v G2)
theorem cal_l_z_odd_name (T : Txt K mg) : Cal P w K mg base CX0 3 "_law_z_odd_name" ["_law_stream"] (spOdd K) := by
  refine cal_mk T.g_l_z_odd_name sc_l_z_odd_name (fun _ _ _ _ _ _ us hl => match us, hl with | [_], _ => rfl) (sps_len fun i vs G e => by rw [e]; rfl) (fun f cdv A outer s H vs Q E hr h => ?_)
  obtain ⟨_, S, n, G, ws, rfl, e, hn, rfl, q⟩ := h
  have hn : n + 1 ≤ 2 ^ 40 := hn
  refine ⟨_, (pss_one (ps_ret (pe_cal (cal_l_pick T (rOdd K)) (hr.mono (by decide)) (by rfl) pass0 (pa_cons (pv 0) (pa_cons (pe_lst (pa_cons pe_non (pa_cons pe_int (pa_cons pe_str (pa_cons pe_str (pa_cons pe_bl (pa_cons (pe_lst (pa_cons pe_str pa_nil)) (pa_cons (pe_tup (pa_cons pe_str pa_nil)) (pa_cons pe_dnewK (pa_cons pe_str (pa_cons pe_int pa_nil))))))))))) pa_nil))))), ?_⟩
  have h10 : ∀ te, EvP K te (L2.start N_l_z_odd_name [V.ref S.1]) G (rL K (rOdd K)) [(), (), (), (), (), (), (), (), (), ()] → ∀ E, EvS K S (tCall (spPick K (rOdd K)) [] E (tCons (tVar 0) (tCons te tNil))) (L2.start N_l_z_odd_name [V.ref S.1]) G n (n + 1) (rOdd K ()) := fun te h E =>
    es_call [(), (), (), (), (), (), (), (), (), ()] rfl (ebs_of (eb_a1 h)) rfl hn (fun vs G2 _ h => ⟨h, by decide, by decide⟩) fun Gc v G2 _ ⟨_, _, r⟩ => r
  refine ss_ret e (h10 _ ?_ _) fun v G2 H2 g s r => q v G2 H2 g s r
  refine EvN.l (en_lst (eb_all (R := rOdd K) (x := ()) (er_c (odd_leaf .non (.inl rfl))) (eb_all (R := rOdd K) (x := ()) (er_c (odd_leaf (.int _) (.inr (.inl ⟨_, rfl⟩)))) (eb_all (R := rOdd K) (x := ()) (er_c (odd_str (by decide +kernel) (by decide +kernel))) (eb_all (R := rOdd K) (x := ()) (er_c (odd_str (by decide +kernel) (by decide +kernel))) (eb_all (R := rOdd K) (x := ()) (er_c (odd_leaf (.bl _) (.inr (.inr ⟨_, rfl⟩)))) (eb_all (R := rOdd K) (x := ()) ?_ (eb_all (R := rOdd K) (x := ()) ?_ (eb_all (R := rOdd K) (x := ()) ?_ (eb_all (R := rOdd K) (x := ()) (er_c (odd_str (by decide +kernel) (by decide +kernel))) (eb_all (R := rOdd K) (x := ()) (er_c (odd_leaf (.int _) (.inr (.inl ⟨_, rfl⟩)))) eb_all0)))))))))) (fun vs G2 h => by rw [← h.length]; exact (by decide : 10 ≤ 10000000)))
  · exact (en_one (R := rS) (x := ("b" : Str)) (er_c ⟨rfl, by decide +kernel⟩)).r fun p vs G1 G2 h _ r => odd_list (x := ("b" : Str)) (by rw [h, allR_str r]; rfl)
  · exact (er_tup (eb_one (R := fun v _ => v = .str ("a" : Str)) (er_c rfl)) (fun vs G2 ⟨v, e, _⟩ => by rw [e]; exact (by decide : 1 ≤ 10000000))).imp fun v G2 _ ⟨p, vs, ev, h, u, e1, e2⟩ => by
      have e2 : u = .str ("a" : Str) := e2
      rw [ev]
      exact odd_tup (x := ("a" : Str)) (by rw [h, e1, e2])
  · exact er_dnew.imp fun v G2 _ ⟨a, ev, h⟩ => by rw [ev]; exact odd_dict h
end
/-! things -/
theorem eb_four {K : PySem.W.Frag} {σ : L2.St} {G : Hp} : EvB K (tCons (tC (.int 4)) tNil) σ G (fun vs _ => vs = [V.int ((4 : Nat) : Int)]) := fun H e Q q => q _ G H (Gr.refl e) rfl
def goodTg (t : Thg) : Prop := ∀ els, t = .seq els → els.length ≤ 100
theorem subsL_pos (N : Lot) : 0 < (subsL N).length := by
  unfold subsL
  rw [so_len]
  unfold subsAll
  rw [subsAll_len]
  exact Nat.mul_pos (by decide) (Nat.pow_pos (by decide))
theorem rTg_L {K : PySem.W.Frag} {xs : Lot} {v : V} {H : Hp} (h : rL K rS xs v H) : rTg K (.seq (xs.map some)) v H := rQ_el2 (.inl h)
theorem rTg_T {K : PySem.W.Frag} {xs : Lot} {v : V} {H : Hp} (h : rT K rS xs v H) : rTg K (.seq (xs.map some)) v H := rQ_el2 (.inr h)
theorem good_map {xs : Lot} (h : xs.length ≤ 100) : goodTg (.seq (xs.map some)) := fun els e => by
  injection e with e
  rw [← e, List.length_map]; exact h
section
variable {P : Program} {w : World} {K : PySem.W.Frag} {mg : Str → Option Value} {base : Heap}
abbrev N_l_things : List Str := ["_law_stream", "_law_names", "_law_sure", "_law_found", "_law_lot", "_law_more", "_law_k"]
theorem sc_l_things : FnScope N_l_things ["_law_stream", "_law_names", "_law_sure"] (defScope s_l_things) := ⟨rfl, rfl, rfl, by decide +kernel, rfl, by decide +kernel, by decide +kernel⟩
def spThings (K : PySem.W.Frag) : Sp := SpS K (ι := Lot × List Lot) (fun _ => 100) (fun i ws G => A2 (rM rS) (rMs K) i.1 i.2 ws G ∧ (0 < i.1.length ∧ i.1.length ≤ 8) ∧ 0 < i.2.length ∧ i.2.length ≤ 256 ∧ ∀ l ∈ i.2, l.length ≤ 8) (fun _ _ v G2 => ∃ ts : List Thg, (∀ t ∈ ts, goodTg t) ∧ ts.length ≤ 1000 ∧ rL K (rTg K) ts v G2)
theorem cal_l_things (T : Txt K mg) : Cal P w K mg base CX0 3 "_law_things" ["_law_stream", "_law_names", "_law_sure"] (spThings K) := by
  refine cal_mk T.g_l_things sc_l_things (fun _ _ _ _ _ _ us hl => match us, hl with | [_, _, _], _ => rfl) (sps_len fun i vs G ⟨⟨_, _, e, _⟩, _⟩ => by rw [e]; rfl) (fun f cdv A outer s H vs Q E hr h => ?_)
  obtain ⟨⟨N, sure⟩, S, n, G, ws, rfl, e, hn, ⟨⟨a, b, rfl, hN, hs⟩, ⟨h1, h8⟩, h0, h256, hl8⟩, q⟩ := h
  have hN : rM rS N a G := hN
  have hs : rMs K sure b G := hs
  have h1 : 0 < N.length := h1
  have h8 : N.length ≤ 8 := h8
  have h0 : 0 < sure.length := h0
  have h256 : sure.length ≤ 256 := h256
  have hl8 : ∀ l ∈ sure, l.length ≤ 8 := hl8
  have hn : n + 100 ≤ 2 ^ 40 := hn
  refine ⟨_, (pss_cons (ps_set (i := 3) sc_l_things.nd rfl (by first | exact Or.inl rfl | exact Or.inr rfl) (pe_lst (pa_cons pe_non (pa_cons pe_int (pa_cons pe_str (pa_cons pe_dnewK (pa_cons pe_bl (pa_cons (pe_lst pa_nil) (pa_cons (pe_tup pa_nil) (pa_cons (pe_lst (pa_cons pe_non pa_nil)) (pa_cons (pe_lst (pa_cons pe_str pa_nil)) (pa_cons (pe_lst (pa_cons pe_bl pa_nil)) (pa_cons (pv 1) (pa_cons (pe_op op_cat (pv 1) (pe_slice (xslL K) (pv 1) po_none (po_some pe_int))) (pa_cons (pe_lst (pa_cons (pe_slice (xslL K) (pv 1) po_none (po_some pe_int)) pa_nil)) pa_nil))))))))))))))) (pss_cons (ps_for (g := gName 6) (passes_of rfl) rfl (pi_range1 (by rfl) T.m_range (pa_cons pe_int pa_nil)) (pg_name (i := 6) sc_l_things.nd rfl (by first | exact Or.inl rfl | exact Or.inr rfl)) (pss_cons (ps_set (i := 4) sc_l_things.nd rfl (by first | exact Or.inl rfl | exact Or.inr rfl) (pe_cal (cal_l_mixed T rS) (hr.mono (by decide)) (by rfl) pass0 (pa_cons (pv 0) (pa_cons (pe_cal (cal_l_pick T (rM rS)) (hr.mono (by decide)) (by rfl) pass0 (pa_cons (pv 0) (pa_cons (pe_cal (cal_l_d_subsets T) (hr.mono (by decide)) (by rfl) pass0 (pa_cons (pv 1) pa_nil)) pa_nil))) pa_nil)))) (pss_cons (ps_set (i := 5) sc_l_things.nd rfl (by first | exact Or.inl rfl | exact Or.inr rfl) (pe_cal (cal_l_mixed T rS) (hr.mono (by decide)) (by rfl) pass0 (pa_cons (pv 0) (pa_cons (pe_cal (cal_l_pick T (rM rS)) (hr.mono (by decide)) (by rfl) pass0 (pa_cons (pv 0) (pa_cons (pv 2) pa_nil))) pa_nil)))) (pss_one (ps_expr (pe_bm PySem.F.plainAttrs_list PySem.F.slot_list_extend PySem.F.type_list_extend mt_extend (pv 3) (pa_cons (pe_lst (pa_cons (pv 4) (pa_cons (pe_callTy (xtupof K) (by rfl) T.m_tuple (by decide +kernel) (pa_cons (pv 4) pa_nil)) (pa_cons (pv 5) (pa_cons (pe_callTy (xtupof K) (by rfl) T.m_tuple (by decide +kernel) (pa_cons (pv 5) pa_nil)) (pa_cons (pe_op op_cat (pv 5) (pv 4)) (pa_cons (pe_op op_cat (pv 5) (pv 5)) pa_nil))))))) pa_nil))))))) (pss_one (ps_ret (pv 3))))), ?_⟩
  refine qn_asg (R := AllR (rTg K) [.odd, .odd, .odd, .odd, .odd, .seq [], .seq [], .seq [none], .seq (([("nobody" : Str)]).map some), .seq [none], .seq (N.map some), .seq ((N ++ N.take 1).map some), .seq [none]]) e.k (en_lst (eb_all (er_c (.inl rfl)) (eb_all (er_c (.inr (.inl ⟨_, rfl⟩))) (eb_all (er_c (.inr (.inr (.inr (.inl ⟨_, rfl⟩))))) (eb_all ?_ (eb_all (er_c (.inr (.inr (.inl ⟨_, rfl⟩)))) (eb_all ?_ (eb_all ?_ (eb_all ?_ (eb_all ?_ (eb_all ?_ (eb_all ?_ (eb_all ?_ (eb_all ?_ eb_all0))))))))))))) (fun vs G2 h => by rw [← h.length]; exact (by decide : 13 ≤ 10000000))) fun p ws G3 H3 hp hg g3 hl r3 => ?_
  · exact er_dnew.imp fun v G2 _ ⟨a, ev, h⟩ => .inr (.inr (.inr (.inr ⟨a, ev, h⟩)))
  · exact (er_nil (R := rEl)).imp fun v G2 _ h => .inl h
  · exact (er_tup eb_nil (fun vs G2 e => by rw [show vs = [] from e]; exact (by decide : 0 ≤ 10000000))).imp fun v G2 _ ⟨p, vs, ev, h, e1⟩ => .inr ⟨p, [], ev, SqT.of (by rw [h, show vs = [] from e1]), trivial⟩
  · exact (EvN.l (en_one (R := rEl) (x := none) (er_c (.inl rfl)))).imp fun v G2 _ h => .inl h
  · exact (EvN.l (en_one (R := rS) (x := ("nobody" : Str)) (er_c ⟨rfl, by decide +kernel⟩))).imp fun v G2 _ h => rTg_L h
  · exact (EvN.l (en_one (R := rEl) (x := none) (er_c (.inr (.inr (.inl ⟨_, rfl⟩)))))).imp fun v G2 _ h => .inl h
  · exact er_var rfl (rTg_L hN.l)
  · exact (EvN.l (en_cat (R := rS) (er_var rfl hN) (EvN.m (en_pre (R := rS) (k := 1) (xs := N) (er_var rfl hN.l) ev_c h1)) (by rw [List.length_take]; omega))).imp fun v G2 _ h => rTg_L h
  · exact (EvN.l (en_one (R := rEl) (x := none) ((en_pre (R := rS) (k := 1) (xs := N) (er_var rfl hN.l) ev_c h1).r fun p vs G1 G2 h _ _ => .inr (.inr (.inr (.inl ⟨p, vs, rfl, h⟩)))))).imp fun v G2 _ h => .inl h
  have n1 := e.ne (xs := ws) hp
  have hpm : msk S H p = none := by rw [msk_o n1.1 n1.2]; exact hp
  obtain ⟨g3, s3⟩ := e.go g3
  have good0 : ∀ t ∈ ([.odd, .odd, .odd, .odd, .odd, .seq [], .seq [], .seq [none], .seq (([("nobody" : Str)]).map some), .seq [none], .seq (N.map some), .seq ((N ++ N.take 1).map some), .seq [none]] : List Thg), goodTg t := by
    intro t ht
    simp only [List.mem_cons, List.not_mem_nil, or_false] at ht
    rcases ht with rfl | rfl | rfl | rfl | rfl | rfl | rfl | rfl | rfl | rfl | rfl | rfl | rfl
    · exact fun _ z => by cases z
    · exact fun _ z => by cases z
    · exact fun _ z => by cases z
    · exact fun _ z => by cases z
    · exact fun _ z => by cases z
    · exact fun _ z => by cases z; decide
    · exact fun _ z => by cases z; decide
    · exact fun _ z => by cases z; decide
    · exact fun _ z => by cases z; decide
    · exact fun _ z => by cases z; decide
    · exact good_map (by omega)
    · exact good_map (by rw [List.length_append, List.length_take]; omega)
    · exact fun _ z => by cases z; decide
  have len0 : ([.odd, .odd, .odd, .odd, .odd, .seq [], .seq [], .seq [none], .seq (([("nobody" : Str)]).map some), .seq [none], .seq (N.map some), .seq ((N ++ N.take 1).map some), .seq [none]] : List Thg).length ≤ 13 := by simp only [List.length_cons, List.length_nil]; decide
  generalize ([.odd, .odd, .odd, .odd, .odd, .seq [], .seq [], .seq [none], .seq (([("nobody" : Str)]).map some), .seq [none], .seq (N.map some), .seq ((N ++ N.take 1).map some), .seq [none]] : List Thg) = ts0 at r3 good0 len0
  refine qs_for (K := K) (S := S) (n := n) (m := n) (G := G3) (R := rI) (xs := (List.range 4).map fun (k : Nat) => (k : Int)) s3 (ews_of (ew_range (n := 4) eb_four (by decide))) (fun i σ' G4 H4 => (∃ x4 x5 x6, σ' = [some (.ref S.1), some a, some b, some (.ref p), x4, x5, x6]) ∧ GrS K S G H G4 H4 ∧ G4 p = none ∧ ∃ ts ws, H4 p = some (.lst ws) ∧ AllR (rTg K) ts ws G4 ∧ ts.length ≤ 13 + 6 * i ∧ ∀ t ∈ ts, goodTg t) (fun i => n + 20 * i) (fun i => by omega) ?_ ?_ ?_
  · exact fun G4 H4 g s => ⟨s.st, ⟨_, _, _, rfl⟩, g3.trans g, g.sp p hg (hidden (by rw [msk_o n1.1 n1.2]; exact hl)), ts0, ws, msk_l n1.1 n1.2 hl g, r3.mono g.kk, len0, good0⟩
  · rintro i z x σ' G4 H4 G5 H5 ex ⟨⟨x4, x5, x6, rfl⟩, gC, hpC, ts, ws, hl, hr1, hlen, hgood⟩ e1 s0 g5 s5 rz
    have hi : i < 4 := by have := (List.getElem?_eq_some_iff.mp ex).1; simpa using this
    have gD := gC.trans g5
    have l5 := msk_l n1.1 n1.2 hl g5
    have p5 : G5 p = none := g5.sp p hpC (hidden (by rw [msk_o n1.1 n1.2]; exact hl))
    have hmix : ∀ E1 E2 σ G6 m te (ls : List Lot), σ[0]? = some (some (.ref S.1)) → EvP K te σ G6 (rL K (rM rS)) ls → 0 < ls.length → ls.length ≤ 256 → (∀ l ∈ ls, l.length ≤ 8) → m + 9 ≤ 2 ^ 40 →
        EvS K S (tCall (spMixed K rS) [] E1 (tCons (tVar 0) (tCons (tCall (spPick K (rM rS)) [] E2 (tCons (tVar 0) (tCons te tNil))) tNil))) σ G6 m (m + 9) (rEx (α := Unit) (fun l : Lot => l.length ≤ 8) (rM rS) ()) := fun E1 E2 σ G6 m te ls e0 h k0 k1 k2 k3 =>
      es_callD (m := m + 1) e0 (ebs_one (R := rEx (α := Unit) (fun l : Lot => l.length ≤ 8) (rM rS) ()) (es_call ls e0 (ebs_of (eb_a1 h)) rfl (by omega) (fun vs G2 _ h => ⟨h, k0, by omega⟩) fun Gc v G2 _ ⟨l, h1, h2⟩ => ⟨l, k2 l h1, h2⟩)) k3 fun vs G2 _ ⟨v, e1, l, h1, h2⟩ => ⟨l, by omega, ⟨⟨v, e1, .inl h2.l⟩, by omega⟩, fun Gc v G3 _ ⟨ys, h3, h4⟩ => ⟨ys, by show ys.length ≤ 8; rw [h3.length_eq]; exact h1, h4.m⟩⟩
    refine qs_asg (m := n + 20 * i + 9) s5 (hmix _ _ _ _ _ _ (subsL N) rfl (er_post (Z := rL K (rM rS) (subsL N)) N (eb_a1 (R := rL K rS) (er_var rfl (Mo.mo (R := rM rS) gD.kk hN).l)) (fun vs G2 _ h => ⟨h, h8⟩) fun _ _ _ _ p => p) (subsL_pos N) (subsL_len h8) (fun l hl => Nat.le_trans (subsL_small hl) h8) (by omega)) fun v6 G6 H6 g6 s6 ⟨lot, hl1, r6⟩ => ?_
    refine qs_asg (m := n + 20 * i + 9 + 9) s6 (hmix _ _ _ _ _ _ sure rfl (er_var rfl (Mo.mo (gD.trans g6).kk hs)) h0 h256 hl8 (by omega)) fun v7 G7 H7 g7 s7 ⟨more, hl2, r7⟩ => ?_
    have gE := (gD.trans g6).trans g7
    have l7 := msk_l n1.1 n1.2 l5 (g6.trans g7)
    have p7 : G7 p = none := (g6.trans g7).sp p p5 (hidden (by rw [msk_o n1.1 n1.2]; exact l5))
    have r6 : rM rS lot v6 G7 := Mo.mo g7.kk r6
    have r7 : rM rS more v7 G7 := r7
    refine ⟨.ref p, rfl, .inl ⟨rfl, ws, SqL.of l7⟩, ?_⟩
    refine tc1 ?_
    refine (en_lst (T := AllR (rTg K) [.seq (lot.map some), .seq (lot.map some), .seq (more.map some), .seq (more.map some), .seq ((more ++ lot).map some), .seq ((more ++ more).map some)]) (eb_all (er_var rfl (rTg_L r6.l)) (eb_all ((er_tupofL (er_var rfl r6.l)).imp fun _ _ _ h => rTg_T h) (eb_all (er_var rfl (rTg_L r7.l)) (eb_all ((er_tupofL (er_var rfl r7.l)).imp fun _ _ _ h => rTg_T h) (eb_all ((EvN.l (en_cat (R := rS) (er_var rfl r7) (er_var rfl r6) (by omega))).imp fun v G2 _ h => rTg_L h) (eb_all ((EvN.l (en_cat (R := rS) (er_var rfl r7) (er_var rfl r7) (by omega))).imp fun v G2 _ h => rTg_L h) eb_all0)))))) (fun vs G2 h => by rw [← h.length]; exact (by decide : 6 ≤ 10000000))) H7 s7.k _ fun p8 us G8 H8 hp8 hg8 g8 lu r8 => ?_
    obtain ⟨g8, s8⟩ := s7.go g8
    have l8 := msk_l n1.1 n1.2 l7 g8
    have p8' : G8 p = none := g8.sp p p7 (hidden (by rw [msk_o n1.1 n1.2]; exact l7))
    have ul := r8.length
    have wl := hr1.length
    refine ⟨p, p8, ws, us, rfl, rfl, l8, lu, ?_, ?_⟩
    · refine Nat.le_trans ?_ (by decide : 10000000 ≤ sizeLine)
      simp only [List.length_cons, List.length_nil] at ul
      omega
    obtain ⟨gF, s9⟩ := GrS.mut (o := .lst (ws ++ us)) (gE.trans g8) s8 p8' hpm l8 n1.1 n1.2
    refine ⟨G8, ((g5.kk.trans g6.kk).trans g7.kk).trans g8.kk, ⟨s9.kn, s9.st.mono (by show n + 20 * i + 9 + 9 ≤ n + 20 * (i + 1); omega)⟩, ⟨_, _, _, rfl⟩, gF, p8', _, _, upd_same, (hr1.mono (((g5.kk.trans g6.kk).trans g7.kk).trans g8.kk)).append r8, ?_, ?_⟩
    · rw [List.length_append]
      simp only [List.length_cons, List.length_nil]
      omega
    · intro t ht
      rcases List.mem_append.mp ht with ht | ht
      · exact hgood t ht
      · simp only [List.mem_cons, List.not_mem_nil, or_false] at ht
        rcases ht with rfl | rfl | rfl | rfl | rfl | rfl
        · exact good_map (by omega)
        · exact good_map (by omega)
        · exact good_map (by omega)
        · exact good_map (by omega)
        · exact good_map (by rw [List.length_append]; omega)
        · exact good_map (by rw [List.length_append]; omega)
  · rintro σ' G4 H4 ⟨⟨x4, x5, x6, rfl⟩, gC, hpC, ts, ws, hl, hr1, hlen, hgood⟩ e1 s0
    have hm2 : msk S H4 p = some (.lst ws) := by rw [msk_o n1.1 n1.2]; exact hl
    have gE : GrS K S G H (upd G4 p (.lst ws)) H4 := Gr.plus gC hpm hm2 hpC
    have sE : Sk K S _ (upd G4 p (.lst ws)) H4 := ⟨gE.kn, s0.st⟩
    have hlen : ts.length ≤ 13 + 6 * 4 := hlen
    refine ss_ret sE (es_of (er_var (R := rL K (rTg K) ts) rfl ⟨p, ws, rfl, SqL.of upd_same, hr1.mono (Ex.new hpC)⟩)) fun v5 G5 H5 g5 s5 r5 => ?_
    exact q v5 G5 H5 (gE.trans g5) ⟨s5.kn, s5.st.mono (by show n + 20 * 4 ≤ n + 100; omega)⟩ ⟨ts, hgood, by omega, r5⟩
end
end Ob
set_option maxRecDepth 100000
set_option maxHeartbeats 1000000
/-! Ki1: lots_right. -/
namespace Ob
open PySem PySem.Spec PyProof.Rows L2
section
variable {K : PySem.W.Frag} {σ : L2.St} {G G1 H H1 : Hp} {ta tb te : TE} {D : Ends} {tz : TS} {p : Addr} {vs : List V}
/-- what a call has made is new -/
theorem fresh_of (g : Gr K G H G1 H1) (hp : G p = none) (hl : G1 p = some (.lst vs)) : H p = none := by
  cases q : H p with
  | none => rfl
  | some o =>
    by_cases t : ∃ xs, o = .tup xs
    · obtain ⟨xs, rfl⟩ := t
      have h1 := g.hh.t q
      rw [g.kh.l hl] at h1
      cases h1
    · have h2 := g.sp p hp ⟨o, q, fun xs z => t ⟨xs, z⟩⟩
      rw [hl] at h2
      cases h2
/-- a new list changes: what was known ahead of it stays -/
theorem Gr.late {o : HO} (e : Kn K G H) (g : Gr K G H G1 H1) (hp : G p = none) (hl : G1 p = some (.lst vs)) : Gr K G H G (upd H1 p o) :=
  Gr.skip e (g.hh.mut (fresh_of g hp hl)) (tb_lst g.kn.tb (g.kh.l hl))
/-- for x in new lists: x.append(..) -/
theorem q_late {i : Nat} {x : Str} {ls : List Lot} (hsl : i < σ.length) (e : Kn K G H) (h : EvP K te σ G (rF G (rF G rS)) ls) (hz : ls.length ≤ 256) (hs : ∀ l ∈ ls, l.length ≤ 8)
    (k : ∀ σ' H2, (σ' = σ ∨ ∃ v, σ' = σ.set i v) → Gr K G H G H2 → tz D σ' H2) : tSeq (tFor (iList K te) (gName i) (tDrop (tBM K "list" rAppend (tVar i) (tCons (tC (.str x)) tNil)))) tz D σ H :=
  h H e _ fun v G1 H1 g1 ⟨p, vs, ev, hp, hl, ha⟩ => by
    subst ev
    have hpH : H p = none := fresh_of g1 hp hl
    have l1 := g1.kh.l hl
    have hlen := ha.length
    have g2 : Gr K G H (upd G p (.lst vs)) H1 := Gr.plus (Gr.skip e g1.hh g1.kn.tb) hpH l1 hp
    have inn : ∀ v ∈ vs, ∃ a xs, v = .ref a ∧ a ≠ p ∧ H a = none ∧ G a = none ∧ H1 a = some (.lst xs) ∧ xs.length ≤ 8 := by
      intro v hv
      obtain ⟨l, hl1, a, xs, e1, e2, e3, e4⟩ := ha.mem hv
      refine ⟨a, xs, e1, fun z => ?_, fresh_of g1 e2 e3, e2, g1.kh.l e3, by rw [← e4.length]; exact hs l hl1⟩
      rw [z, hl] at e3
      have e3 : vs = xs := by injection (Option.some.inj e3)
      subst e3
      rw [allR_str e4] at hv
      obtain ⟨y, _, z2⟩ := List.mem_map.mp hv
      rw [e1] at z2
      cases z2
    have wk : Wk K (Itl K p) rV vs (upd G p (.lst vs)) := wk_list (SqL.of upd_same) (allR_self vs)
    refine ⟨p, rfl, ⟨vs, SqL.of l1⟩, fun j m σ' H' => m = vs.length - j ∧ j ≤ vs.length ∧ (σ' = σ ∨ ∃ v, σ' = σ.set i v) ∧ Gr K G H (upd G p (.lst vs)) H' ∧ ∀ v ∈ vs, ∃ a xs, v = .ref a ∧ a ≠ p ∧ H a = none ∧ G a = none ∧ H' a = some (.lst xs) ∧ xs.length ≤ 8 + j, ⟨vs.length, rfl, Nat.zero_le _, .inl rfl, g2, inn⟩, ?_⟩
    rintro j m σ' H' ⟨rfl, hj, hσ, gg, hv⟩
    by_cases hlt : j < vs.length
    · refine .inr ⟨wk.go j H' hlt gg.kn, fun σ3 H4 => (σ3 = σ ∨ ∃ v, σ3 = σ.set i v) ∧ Gr K G H (upd G p (.lst vs)) H4 ∧ ∀ v ∈ vs, ∃ a xs, v = .ref a ∧ a ≠ p ∧ H a = none ∧ G a = none ∧ H4 a = some (.lst xs) ∧ xs.length ≤ 8 + (j + 1), fun σ3 H4 h => ⟨vs.length - (j + 1), by omega, rfl, hlt, h⟩, fun y H2 hy => ?_⟩
      obtain ⟨z, G2, ez, gz, rz⟩ := wk.yld j H' y H2 hlt gg.kn hy
      have rz : y = z := rz
      subst rz
      have hyv : y ∈ vs := List.mem_of_getElem? ez
      have gA : Gr K G H (upd G p (.lst vs)) H2 := Gr.plus (Gr.skip e (gg.hh.trans gz.hh) gz.kn.tb) hpH (gz.hh.l (gg.kh.l upd_same)) hp
      obtain ⟨a, xs, rfl, n1, a1, a2, a3, a4⟩ := hv _ hyv
      have hset : σ'.set i (some (.ref a)) = σ.set i (some (.ref a)) := by
        rcases hσ with rfl | ⟨w, rfl⟩
        · rfl
        · exact List.set_set ..
      have hl2 := gz.hh.l a3
      refine ⟨.ref a, ?_, .inl ⟨rfl, xs, SqL.of hl2⟩, a, xs, .str x, rfl, rfl, hl2, Nat.lt_of_lt_of_le (show xs.length < 1000 by omega) (by decide), ?_⟩
      · rw [hset, List.getElem?_set_self hsl]
      · refine ⟨.inr ⟨_, hset⟩, gA.mut (by rw [upd_ne n1]; exact a2) a1 hl2, fun v hv2 => ?_⟩
        obtain ⟨b, ys, rfl, m1, b1, b2, b3, b4⟩ := hv _ hv2
        by_cases q : b = a
        · subst q
          refine ⟨b, xs ++ [.str x], rfl, m1, b1, b2, upd_same, ?_⟩
          rw [List.length_append]
          simp
          omega
        · exact ⟨b, ys, rfl, m1, b1, b2, by rw [upd_ne q]; exact gz.hh.l b3, by omega⟩
    · have ej : j = vs.length := by omega
      subst ej
      exact .inl ⟨wk.stop H' gg.kn, k σ' H' hσ (Gr.skip e gg.hh gg.kn.tb)⟩
/-- f(..).append(..) -/
theorem q_late1 {x : Str} {l : Lot} (e : Kn K G H) (h : EvP K te σ G (rF G rS) l) (hs : l.length ≤ 1000) (k : ∀ H2, Gr K G H G H2 → tz D σ H2) : tSeq (tDrop (tBM K "list" rAppend te (tCons (tC (.str x)) tNil))) tz D σ H :=
  h H e _ fun v G1 H1 g1 ⟨p, vs, ev, hp, hl, ha⟩ => by
    subst ev
    have l1 := g1.kh.l hl
    exact ⟨.inl ⟨rfl, vs, SqL.of l1⟩, p, vs, .str x, rfl, rfl, l1, Nat.lt_of_lt_of_le (show vs.length < 10000 by rw [← ha.length]; omega) (by decide), k _ (Gr.late e g1 hp hl)⟩
end
theorem lots_g {N : Lot} {P : List Pr} : lotsL N P ("greatest" : Str) = greatestL N P := by
  unfold lotsL
  rw [if_neg (by decide), if_pos rfl]
theorem lots_l {N : Lot} {P : List Pr} : lotsL N P ("least" : Str) = leastL N P := by
  unfold lotsL
  rw [if_neg (by decide), if_neg (by decide)]
theorem lots_h {N : Lot} {P : List Pr} : lotsL N P ("held" : Str) = heldsL N P := by
  unfold lotsL
  rw [if_pos rfl]
theorem GoodD.okd {N : Lot} {P : List Pr} (h : GoodD N P) : OkD (debOf N P) := ⟨by show (so eS N).length ≤ 8; rw [so_len]; exact h.nl, by show (so ePP P).length ≤ 1000; rw [so_len]; exact h.pl⟩
theorem sureL_len {N : Lot} {P : List Pr} (h : N.length ≤ 8) : (sureL N P).length ≤ 256 := Nat.le_trans (List.length_filter_le _ _) (heldsL_len h)
theorem sureL_small {N : Lot} {P : List Pr} (h : N.length ≤ 8) : ∀ l ∈ sureL N P, l.length ≤ 8 := fun l hl => Nat.le_trans (heldsL_small (List.mem_filter.mp hl).1) h
theorem ok_lots {ls : List Lot} (h1 : ls.length ≤ 256) (h2 : ∀ l ∈ ls, l.length ≤ 8) : okL (okL (okT (α := Str))) ls := ⟨by omega, fun l hl => ⟨by have := h2 l hl; omega, fun _ _ => trivial⟩⟩
theorem ok_lot8 {l : Lot} (h : l.length ≤ 1000) : okL (okT (α := Str)) l := ⟨by omega, fun _ _ => trivial⟩
section
variable {P : Program} {w : World} {K : PySem.W.Frag} {mg : Str → Option Value} {base : Heap}
abbrev N_l_lots_right : List Str := ["_law_made", "_law_names", "_law_pairs", "_law_held", "_law_sure", "_law_greatest", "_law_least", "_law_lot", "_law_one", "_law_top", "_law_shared"]
theorem sc_l_lots_right : FnScope N_l_lots_right ["_law_made", "_law_names", "_law_pairs", "_law_held", "_law_sure"] (defScope s_l_lots_right) := ⟨rfl, rfl, rfl, by decide +kernel, rfl, by decide +kernel, by decide +kernel⟩
def spLR (K : PySem.W.Frag) : Sp := SpG K (ι := Lot × List Pr) (fun i vs G => ∃ a b c d e, vs = [a, b, c, d, e] ∧ rDeb K (debOf i.1 i.2) a G ∧ rM rS i.1 b G ∧ rPs K i.2 c G ∧ rMs K (heldsL i.1 i.2) d G ∧ rMs K (sureL i.1 i.2) e G ∧ GoodD i.1 i.2) (fun _ _ v _ => v = .bl true)
theorem cal_l_lots_right (T : Txt K mg) : Cal P w K mg base CX0 7 "_law_lots_right" ["_law_made", "_law_names", "_law_pairs", "_law_held", "_law_sure"] (spLR K) := by
  refine cal_mk T.g_l_lots_right sc_l_lots_right (fun _ _ _ _ _ _ us hl => match us, hl with | [_, _, _, _, _], _ => rfl) (spg_len fun i vs G ⟨_, _, _, _, _, e, _⟩ => by rw [e]; rfl) (fun f cdv A outer s H vs Q E hr h => ?_)
  obtain ⟨⟨N, ps⟩, G, eG, ⟨a, b, c, d, e, rfl, ha, hb, hc, hd, he, good⟩, q⟩ := h
  have ha : rDeb K (debOf N ps) a G := ha
  have hb : rM rS N b G := hb
  have hc : rPs K ps c G := hc
  have hd : rMs K (heldsL N ps) d G := hd
  have he : rMs K (sureL N ps) e G := he
  have good : GoodD N ps := good
  have nl := good.nl
  have pl := good.pl
  have ok := good.okd
  have nn := good.nn
  have hl := heldsL_len (P := ps) nl
  have sl := sureL_len (P := ps) nl
  have sm := sureL_small (P := ps) nl
  have hm : ∀ l ∈ heldsL N ps, l.length ≤ 8 := fun l hl => Nat.le_trans (heldsL_small hl) nl
  obtain ⟨least, lr, least_eq, least_in⟩ := least_law (P := ps) nn
  obtain ⟨tr, top_e⟩ := top_law (P := ps) nn
  have top8 : (topL N ps).length ≤ 8 := sm _ (top_in nn)
  have least8 : least.length ≤ 8 := by
    have h1 : least ∈ leastL N ps := by rw [least_eq]; exact List.mem_cons_self ..
    exact hm _ (List.mem_filter.mp (List.mem_filter.mp h1).1).1
  have gl : (greatestL N ps).length ≤ 256 := Nat.le_trans (List.length_filter_le _ _) hl
  have shl : (sharedL N ps).length ≤ 256 := Nat.le_trans (List.length_filter_le _ _) hl
  refine ⟨_, (pss_cons (ps_asg (g := gTup K 2 (gCons (gName 5) (gCons (gName 6) gNil))) (pe_tup (pa_cons (pe_cal (cal_l_d_lots T) (hr.mono (by decide)) (by rfl) pass0 (pa_cons (pv 1) (pa_cons (pv 2) (pa_cons pe_str pa_nil)))) (pa_cons (pe_ix (xixL K) (pe_cal (cal_l_d_lots T) (hr.mono (by decide)) (by rfl) pass0 (pa_cons (pv 1) (pa_cons (pv 2) (pa_cons pe_str pa_nil)))) pe_int (fun _ _ => rfl)) pa_nil))) (xgtup K (pgs_cons (pg_name (i := 5) sc_l_lots_right.nd rfl (by first | exact Or.inl rfl | exact Or.inr rfl)) (pgs_cons (pg_name (i := 6) sc_l_lots_right.nd rfl (by first | exact Or.inl rfl | exact Or.inr rfl)) pgs_nil)))) (pss_cons (ps_for (g := gName 7) (passes_of rfl) rfl (xlist K (pe_cal (cal_sure_lots T) (hr.mono (by decide)) (by rfl) pass0 (pa_cons (pv 0) pa_nil))) (pg_name (i := 7) sc_l_lots_right.nd rfl (by first | exact Or.inl rfl | exact Or.inr rfl)) (pss_one (ps_expr (pe_bm PySem.F.plainAttrs_list PySem.F.slot_list_append PySem.F.type_list_append mt_append (pv 7) (pa_cons pe_str pa_nil))))) (pss_cons (ps_set (i := 9) sc_l_lots_right.nd rfl (by first | exact Or.inl rfl | exact Or.inr rfl) (pe_ix (xixL K) (pe_lc (own := [("_law_lot", 7)]) (g := gName 7) rfl sc_l_lots_right.nd (xlist K (pv 4)) (blkOk_by (own := [("_law_lot", 7)]) (N := N_l_lots_right) (by kernel_rfl)) (fun _ _ _ _ _ => pg_name (i := 7) sc_l_lots_right.nd rfl (by first | exact Or.inl rfl | exact Or.inr rfl)) (fun _ _ _ _ _ => pts_one (pt_val (pe_callB (xall K) (by rfl) T.m_all boot_all (pa_cons (pe_lc (own := [("_law_one", 8)]) (g := gName 8) rfl sc_l_lots_right.nd (xlist K (pv 4)) (blkOk_by (own := [("_law_one", 8)]) (N := N_l_lots_right) (by kernel_rfl)) (fun _ _ _ _ _ => pg_name (i := 8) sc_l_lots_right.nd rfl (by first | exact Or.inl rfl | exact Or.inr rfl)) (fun _ _ _ _ _ => pts_nil) (fun _ _ _ _ _ => (pe_cal (cal_l_d_within T) (hr.mono (by decide)) (by rfl) pass0 (pa_cons (pv 8) (pa_cons (pv 7) pa_nil))))) pa_nil)))) (fun _ _ _ _ _ => (pv 7))) pe_int (fun _ _ => rfl))) (pss_cons (ps_expr (pe_bm PySem.F.plainAttrs_list PySem.F.slot_list_append PySem.F.type_list_append mt_append (pe_cal (cal_sure_lot T) (hr.mono (by decide)) (by rfl) pass0 (pa_cons (pv 0) pa_nil)) (pa_cons pe_str pa_nil))) (pss_cons (ps_if (PW.pt (pw_or (pt_not (pt_val (pe_cal (cal_same T 3) (hr.mono (by decide)) (by rfl) pass0 (pa_cons (pe_cal (cal_sure_lots T) (hr.mono (by decide)) (by rfl) pass0 (pa_cons (pv 0) pa_nil)) (pa_cons (pv 4) pa_nil))))) (pw_or1 (pt_not (pt_val (pe_cal (cal_same T 3) (hr.mono (by decide)) (by rfl) pass0 (pa_cons (pe_cal (cal_sure_lot T) (hr.mono (by decide)) (by rfl) pass0 (pa_cons (pv 0) pa_nil)) (pa_cons (pv 9) pa_nil)))))))) (pss_one (ps_ret pe_bl)) pss_nil) (pss_cons (ps_if (PW.pt (pw_or (pt_cmpR (xneD K hr.units) (pe_cal (cal_l_d_answered T) (hr.mono (by decide)) (by rfl) pass0 (pa_cons (pv 1) (pa_cons (pv 2) (pa_cons (pv 9) pa_nil)))) (pv 9) (nomark _)) (pw_or1 (pt_not (pt_val (pe_cal (cal_l_d_within T) (hr.mono (by decide)) (by rfl) pass0 (pa_cons (pv 6) (pa_cons (pv 9) pa_nil)))))))) (pss_one (ps_ret pe_bl)) pss_nil) (pss_cons (ps_setLc (i := 10) (own := [("_law_lot", 7)]) (g := gName 7) rfl sc_l_lots_right.nd rfl rfl (sw_true rfl rfl rfl (by decide +kernel)) (xlist K (pv 3)) (blkOk_by (own := [("_law_lot", 7)]) (N := N_l_lots_right) (by kernel_rfl)) (fun _ _ _ _ _ => pg_name (i := 7) sc_l_lots_right.nd rfl (by first | exact Or.inl rfl | exact Or.inr rfl)) (fun _ _ _ _ _ => pts_one (pt_val (pe_callB (xall K) (by rfl) T.m_all boot_all (pa_cons (pe_lc (own := [("_law_one", 8)]) (g := gName 8) rfl sc_l_lots_right.nd (xlist K (pv 5)) (blkOk_by (own := [("_law_one", 8)]) (N := N_l_lots_right) (by kernel_rfl)) (fun _ _ _ _ _ => pg_name (i := 8) sc_l_lots_right.nd rfl (by first | exact Or.inl rfl | exact Or.inr rfl)) (fun _ _ _ _ _ => pts_nil) (fun _ _ _ _ _ => (pe_cal (cal_l_d_within T) (hr.mono (by decide)) (by rfl) pass0 (pa_cons (pv 7) (pa_cons (pv 8) pa_nil))))) pa_nil)))) (fun _ _ _ _ _ => (pv 7))) (pss_one (ps_ret (pe_and (pe_cmpR (xinD K hr.u65) (pv 9) (pv 10) (by rfl)) (pe_one (pe_callB (xall K) (by rfl) T.m_all boot_all (pa_cons (pe_lc (own := [("_law_lot", 7)]) (g := gName 7) rfl sc_l_lots_right.nd (xlist K (pv 10)) (blkOk_by (own := [("_law_lot", 7)]) (N := N_l_lots_right) (by kernel_rfl)) (fun _ _ _ _ _ => pg_name (i := 7) sc_l_lots_right.nd rfl (by first | exact Or.inl rfl | exact Or.inr rfl)) (fun _ _ _ _ _ => pts_nil) (fun _ _ _ _ _ => (pe_cal (cal_l_d_within T) (hr.mono (by decide)) (by rfl) pass0 (pa_cons (pv 7) (pa_cons (pv 9) pa_nil))))) pa_nil))))))))))))), ?_⟩
  have sok : PyData.strOk ("greatest" : Str) = true := by decide +kernel
  have sok2 : PyData.strOk ("least" : Str) = true := by decide +kernel
  refine q_tup2 (R := rL K (rM rS)) (S := rM rS) (x := greatestL N ps) (y := least) eG (er_post (N, ps, ("greatest" : Str)) (eb_a3 (R := rL K rS) (S := rPs K) (T := rS) (er_var rfl hb.l) (er_var rfl hc) (er_c ⟨rfl, sok⟩)) (fun vs G2 _ h => ⟨h, nl, by show ps.length ≤ _; omega, .inr (.inl rfl)⟩) fun _ _ _ _ p => by rw [← lots_g]; exact p) (er_ix (R := rM rS) (i := 0) (xs := leastL N ps) (er_post (N, ps, ("least" : Str)) (eb_a3 (R := rL K rS) (S := rPs K) (T := rS) (er_var rfl hb.l) (er_var rfl hc) (er_c ⟨rfl, sok2⟩)) (fun vs G2 _ h => ⟨h, nl, by show ps.length ≤ _; omega, .inr (.inr rfl)⟩) fun _ _ _ _ p => by rw [← lots_l]; exact p) ev_c (by rw [least_eq]; rfl)) fun v5 v6 G1 H1 g1 r5 r6 => ?_
  have sureE : ∀ E σ G2, Ex G G2 → σ[0]? = some (some a) → EvP K (tCall (spSure K) [] E (tCons (tVar 0) tNil)) σ G2 (rF G2 (rF G2 rS)) (sureL N ps) := fun E σ G2 e2 e0 =>
    er_post (debOf N ps) (eb_a1 (R := rDeb K) (er_var e0 (Mo.mo e2 ha))) (fun vs G3 _ h => ⟨h, ok⟩) fun Gc v G3 ec p => by rw [← sure_eq nn]; exact (rF.base ec p).rel fun _ _ h => h.base ec
  have topE : ∀ E σ G2, Ex G G2 → σ[0]? = some (some a) → EvP K (tCall (spSureLot K) [] E (tCons (tVar 0) tNil)) σ G2 (rF G2 rS) (topL N ps) := fun E σ G2 e2 e0 =>
    er_post (debOf N ps) (eb_a1 (R := rDeb K) (er_var e0 (Mo.mo e2 ha))) (fun vs G3 _ h => ⟨h, ok⟩) fun Gc v G3 ec p => by rw [← top_eq nn]; exact rF.base ec p
  refine q_late (K := K) (show 7 < 11 by decide) g1.kn (sureE _ _ _ g1.kk rfl) sl sm fun σ' H2 hσ g2 => ?_
  obtain ⟨x7, rfl⟩ : ∃ x7, σ' = [some a, some b, some c, some d, some e, some v5, some v6, x7, none, none, none] := by
    rcases hσ with rfl | ⟨v, rfl⟩
    · exact ⟨_, rfl⟩
    · exact ⟨_, rfl⟩
  have gA := g1.trans g2
  refine qr_asg g2.kn (er_ix (R := rM rS) (i := 0) (xs := (sureL N ps).filter fun l => (sureL N ps).all fun o => within o l) (EvN.l (en_flt (R := rM rS) (fun l => (sureL N ps).all fun o => within o l) (ew_list (er_var rfl (Mo.mo g1.kk he))) (by omega) (fun _ => rfl) (fun _ => rfl) fun l hl2 v G2 e1 r => et_val (ev_allN (R := rM rS) (xs := sureL N ps) (fun o => within o l) (ew_list (er_var rfl (Mo.mo (g1.kk.trans e1) he))) (by omega) (fun _ => rfl) fun o ho u G6 e2 ro => ev_call (o, l) (eb_a2 (er_var rfl ro.l) (er_var rfl (Mo.mo e2 r).l)) (fun vs G2 _ h => ⟨h, Nat.le_trans (sm o ho) (by decide)⟩) (fun _ _ _ p => p)))) ev_c (by rw [top_e]; rfl)) fun v9 G3 H3 g3 r9 => ?_
  have r9 : rM rS (topL N ps) v9 G3 := r9
  have gB := gA.trans g3
  refine q_late1 (K := K) g3.kn (topE _ _ _ gB.kk rfl) (by omega) fun H4 g4 => ?_
  have gC := gB.trans g4
  refine q_no g4.kn (et_is (et_or (a := false) (b := false) (et_is (et_not (et_val (ev_same (R := rF G3 (rF G3 rS)) (S := rMs K) (ok_lots sl sm) (sureE _ _ _ gB.kk rfl) (er_var rfl (Mo.mo gB.kk he))))) rfl) fun _ => et_is (et_not (et_val (ev_same (R := rF G3 rS) (S := rM rS) (ok_lot8 (by omega)) (topE _ _ _ gB.kk rfl) (er_var rfl r9)))) rfl) rfl) fun H5 g5 => ?_
  have gD := gC.trans g5
  refine q_no g5.kn (et_is (et_or (a := false) (b := false) (et_cmp (ev_is (ev_neG (R := rL K rS) (R2 := rM rS) (by decide) (er_post (N, ps, topL N ps) (eb_a3 (R := rL K rS) (S := rPs K) (T := rL K rS) (er_var rfl (Mo.mo gD.kk hb).l) (er_var rfl (Mo.mo gD.kk hc)) (er_var rfl r9.l)) (fun vs G2 _ h => ⟨h, by show N.length ≤ 1000; omega, by show ps.length ≤ _; omega⟩) fun _ _ _ _ p => p) (er_var rfl r9)) (by show V.bl (!decide (answeredL N ps (topL N ps) = topL N ps)) = _; rw [top_whole nn]; simp))) fun _ => et_is (et_not (et_val (ev_call (least, topL N ps) (eb_a2 (R := rL K rS) (S := rL K rS) (er_var rfl (Mo.mo (g3.kk) r6).l) (er_var rfl r9.l)) (fun vs G2 _ h => ⟨h, by show least.length ≤ 1000; omega⟩) (fun _ _ _ p => p)))) (by rw [least_in]; rfl)) rfl) fun H6 g6 => ?_
  have gE := gD.trans g6
  refine qr_asg g6.kn (EvN.l (en_flt (R := rM rS) (fun l => (greatestL N ps).all fun o => within l o) (ew_list (er_var rfl (Mo.mo gE.kk hd))) (by omega) (fun _ => rfl) (fun _ => rfl) fun l hl2 v G4 e1 r => et_val (ev_allN (R := rM rS) (xs := greatestL N ps) (fun o => within l o) (ew_list (er_var rfl (Mo.mo (g3.kk.trans e1) r5))) (by omega) (fun _ => rfl) fun o ho u G6 e2 ro => ev_call (l, o) (eb_a2 (er_var rfl (Mo.mo e2 r).l) (er_var rfl ro.l)) (fun vs G2 _ h => ⟨h, Nat.le_trans (hm l hl2) (by decide)⟩) (fun _ _ _ p => p)))) fun v10 G7 H7 g7 r10 => ?_
  have r10 : rL K (rM rS) (sharedL N ps) v10 G7 := r10
  have gF := gE.trans g7
  refine sv_ret g7.kn (v := .bl true) (ev_and (a := true) (b := true) (ev_is (ev_inG (R := rM rS) (R2 := rM rS) (by decide) (er_var rfl (Mo.mo g7.kk r9)) (er_var rfl r10)) (congrArg V.bl (by simpa using top_shared (P := ps) nn))) fun _ => ev_is (ev_allN (R := rM rS) (xs := sharedL N ps) (fun l => within l (topL N ps)) (ew_list (er_var rfl r10)) (by omega) (fun _ => rfl) fun l hl2 v G8 e1 r => ev_call (l, topL N ps) (eb_a2 (er_var rfl r.l) (er_var rfl (Mo.mo (g7.kk.trans e1) r9).l)) (fun vs G2 _ h => ⟨h, Nat.le_trans (hm l (List.mem_filter.mp hl2).1) (by decide)⟩) (fun _ _ _ p => p)) (by rw [List.all_eq_true.mpr fun l hl => shared_top nn hl])) fun H8 g8 => q _ G7 H8 (gF.trans g8) rfl
end
end Ob
set_option maxRecDepth 100000
set_option maxHeartbeats 1000000
/-! Ki2: names_right. -/
namespace Ob
open PySem PySem.Spec PyProof.Rows L2
/-- a lot, or None, as data -/
def eO : Option Lot → PyData
  | none => .none
  | some l => eLot l
instance {K : PySem.W.Frag} {R : Rp Lot} [En K R eLot] : En K (rO R) eO := ⟨fun {o v H} h => by
  cases o with
  | none => simp [eO, PyData.canLay0]
  | some l => exact En.lay (K := K) (R := R) h, fun {o v H} h => by
  cases o with
  | none =>
    have h : v = .non := h
    rw [h]
    exact .non
  | some l => exact En.dp (K := K) (R := R) h⟩
instance : Nice eO 1 := ⟨fun o => by
  cases o with
  | none => simp [eO, PyData.depth]
  | some l => exact dp_lot l, fun x y => by
  cases x with
  | none =>
    cases y with
    | none => simp [eO, PyData.eqv]
    | some l => simp [eO, PyData.eqv]
  | some k =>
    cases y with
    | none => simp [eO, PyData.eqv]
    | some l =>
      rw [Option.some.injEq]
      exact Nice.eqv (enc := eLot) (k := 0 + 1) k l⟩
section
variable {K : PySem.W.Frag} {σ : L2.St} {G G1 H H1 : Hp} {ta tb te : TE} {D : Ends} {tz : TS} {p : Addr} {vs : List V}
/-- for x in [new lists or None]: if x is not None: x.append(..) -/
theorem q_late2 {i : Nat} {x : Str} {ls : List (Option Lot)} {tt : TT} (hsl : i < σ.length) (htt : ∀ (σ2 : L2.St) H2 v Q, σ2[i]? = some (some v) → Q (!decide (v = .non)) H2 → tt σ2 H2 Q) (e : Kn K G H) (h : EvN K te σ G (AllR (rO (rF G rS)) ls)) (hz : ls.length ≤ 256) (hs : ∀ l, some l ∈ ls → l.length ≤ 8)
    (k : ∀ σ' H2, (σ' = σ ∨ ∃ v, σ' = σ.set i v) → Gr K G H G H2 → tz D σ' H2) : tSeq (tFor (iList K te) (gName i) (tIfS tt (tDrop (tBM K "list" rAppend (tVar i) (tCons (tC (.str x)) tNil))) tNext)) tz D σ H :=
  h H e _ fun p vs G1 H1 hpH hp1 g1 l1 ha => by
    have hp : G p = none := e.ex.no _ hpH
    have hlen := ha.length
    have g2 : Gr K G H (upd G p (.lst vs)) H1 := Gr.plus (Gr.skip e g1.hh g1.kn.tb) hpH l1 hp
    have inn : ∀ v ∈ vs, v = .non ∨ ∃ a xs, v = .ref a ∧ a ≠ p ∧ H a = none ∧ G a = none ∧ H1 a = some (.lst xs) ∧ xs.length ≤ 8 := by
      intro v hv
      obtain ⟨o, ho, hr⟩ := ha.mem hv
      cases o with
      | none => exact .inl hr
      | some l =>
        obtain ⟨a, xs, e1, e2, e3, e4⟩ := (show rF G rS l v G1 from hr)
        exact .inr ⟨a, xs, e1, fun z => (by rw [z, hp1] at e3; cases e3), fresh_of g1 e2 e3, e2, g1.kh.l e3, by rw [← e4.length]; exact hs l ho⟩
    have wk : Wk K (Itl K p) rV vs (upd G p (.lst vs)) := wk_list (SqL.of upd_same) (allR_self vs)
    refine ⟨p, rfl, ⟨vs, SqL.of l1⟩, fun j m σ' H' => m = vs.length - j ∧ j ≤ vs.length ∧ (σ' = σ ∨ ∃ v, σ' = σ.set i v) ∧ Gr K G H (upd G p (.lst vs)) H' ∧ ∀ v ∈ vs, v = .non ∨ ∃ a xs, v = .ref a ∧ a ≠ p ∧ H a = none ∧ G a = none ∧ H' a = some (.lst xs) ∧ xs.length ≤ 8 + j, ⟨vs.length, rfl, Nat.zero_le _, .inl rfl, g2, inn⟩, ?_⟩
    rintro j m σ' H' ⟨rfl, hj, hσ, gg, hv⟩
    by_cases hlt : j < vs.length
    · refine .inr ⟨wk.go j H' hlt gg.kn, fun σ3 H4 => (σ3 = σ ∨ ∃ v, σ3 = σ.set i v) ∧ Gr K G H (upd G p (.lst vs)) H4 ∧ ∀ v ∈ vs, v = .non ∨ ∃ a xs, v = .ref a ∧ a ≠ p ∧ H a = none ∧ G a = none ∧ H4 a = some (.lst xs) ∧ xs.length ≤ 8 + (j + 1), fun σ3 H4 h => ⟨vs.length - (j + 1), by omega, rfl, hlt, h⟩, fun y H2 hy => ?_⟩
      obtain ⟨z, G2, ez, gz, rz⟩ := wk.yld j H' y H2 hlt gg.kn hy
      have rz : y = z := rz
      subst rz
      have hyv : y ∈ vs := List.mem_of_getElem? ez
      have gA : Gr K G H (upd G p (.lst vs)) H2 := Gr.plus (Gr.skip e (gg.hh.trans gz.hh) gz.kn.tb) hpH (gz.hh.l (gg.kh.l upd_same)) hp
      have hset : σ'.set i (some y) = σ.set i (some y) := by
        rcases hσ with rfl | ⟨w, rfl⟩
        · rfl
        · exact List.set_set ..
      have hat : (σ'.set i (some y))[i]? = some (some y) := by rw [hset, List.getElem?_set_self hsl]
      rcases hv _ hyv with rfl | ⟨a, xs, rfl, n1, a1, a2, a3, a4⟩
      · refine htt (σ'.set i (some .non)) H2 .non _ hat ?_
        refine iteF ⟨.inr ⟨_, hset⟩, gA, fun v hv2 => ?_⟩
        rcases hv _ hv2 with rfl | ⟨b, ys, rfl, m1, b1, b2, b3, b4⟩
        · exact .inl rfl
        · exact .inr ⟨b, ys, rfl, m1, b1, b2, gz.hh.l b3, by omega⟩
      · have hl2 := gz.hh.l a3
        refine htt (σ'.set i (some (.ref a))) H2 (.ref a) _ hat ?_
        refine iteT ⟨.ref a, hat, .inl ⟨rfl, xs, SqL.of hl2⟩, a, xs, .str x, rfl, rfl, hl2, Nat.lt_of_lt_of_le (show xs.length < 1000 by omega) (by decide), ?_⟩
        refine ⟨.inr ⟨_, hset⟩, gA.mut (by rw [upd_ne n1]; exact a2) a1 hl2, fun v hv2 => ?_⟩
        rcases hv _ hv2 with rfl | ⟨b, ys, rfl, m1, b1, b2, b3, b4⟩
        · exact .inl rfl
        · by_cases q : b = a
          · subst q
            refine .inr ⟨b, xs ++ [.str x], rfl, m1, b1, b2, upd_same, ?_⟩
            rw [List.length_append]
            simp
            omega
          · exact .inr ⟨b, ys, rfl, m1, b1, b2, by rw [upd_ne q]; exact gz.hh.l b3, by omega⟩
    · have ej : j = vs.length := by omega
      subst ej
      exact .inl ⟨wk.stop H' gg.kn, k σ' H' hσ (Gr.skip e gg.hh gg.kn.tb)⟩
end
theorem smallest_in {ls : List Lot} {x : Str} {l : Lot} (h : smallestL ls x = some l) : l ∈ ls := by
  unfold smallestL at h
  rw [Option.map_eq_some_iff] at h
  obtain ⟨p, h1, rfl⟩ := h
  obtain ⟨m, h2, rfl⟩ := List.mem_map.mp (so_mem.mp (List.mem_of_head? h1))
  exact (List.mem_filter.mp h2).1
theorem rO.rel {α : Type} {R S : Rp α} {o : Option α} {v : V} {H : Hp} (f : ∀ x v, R x v H → S x v H) (h : rO R o v H) : rO S o v H := by
  cases o with
  | none => exact h
  | some x => exact f x v h
section
variable {P : Program} {w : World} {K : PySem.W.Frag} {mg : Str → Option Value} {base : Heap} {cL cS cH : Addr}
abbrev N_l_names_right : List Str := ["_law_made", "_law_names", "_law_pairs", "_law_held", "_law_sure", "_law_lot", "_law_lacking", "_law_told", "_law_name"]
theorem sc_l_names_right : FnScope N_l_names_right ["_law_made", "_law_names", "_law_pairs", "_law_held", "_law_sure"] (defScope s_l_names_right) := ⟨rfl, rfl, rfl, by decide +kernel, rfl, by decide +kernel, by decide +kernel⟩
theorem cal_l_names_right (T : Txt K mg) (B : Tbx K mg base) (Er : Errs K mg cL cS cH) : Cal P w K mg base CX0 7 "_law_names_right" ["_law_made", "_law_names", "_law_pairs", "_law_held", "_law_sure"] (spLR K) := by
  refine cal_mk T.g_l_names_right sc_l_names_right (fun _ _ _ _ _ _ us hl => match us, hl with | [_, _, _, _, _], _ => rfl) (spg_len fun i vs G ⟨_, _, _, _, _, e, _⟩ => by rw [e]; rfl) (fun f cdv A outer s H vs Q E hr h => ?_)
  obtain ⟨⟨N, ps⟩, G, eG, ⟨a, b, c, d, e, rfl, ha, hb, hc, hd, he, good⟩, q⟩ := h
  have ha : rDeb K (debOf N ps) a G := ha
  have hb : rM rS N b G := hb
  have hc : rPs K ps c G := hc
  have he : rMs K (sureL N ps) e G := he
  have good : GoodD N ps := good
  have nl := good.nl
  have pl := good.pl
  have ok := good.okd
  have nn := good.nn
  have hl := heldsL_len (P := ps) nl
  have sl := sureL_len (P := ps) nl
  have sm := sureL_small (P := ps) nl
  have hm : ∀ l ∈ heldsL N ps, l.length ≤ 8 := fun l hl => Nat.le_trans (heldsL_small hl) nl
  have gl : (greatestL N ps).length ≤ 256 := Nat.le_trans (List.length_filter_le _ _) hl
  have gm : ∀ l ∈ greatestL N ps, l.length ≤ 8 := fun l hl => hm l (List.mem_filter.mp hl).1
  have sok : PyData.strOk ("greatest" : Str) = true := by decide +kernel
  refine ⟨_, (pss_cons (ps_for (g := gName 8) (passes_of rfl) rfl (xlist K (pv 1)) (pg_name (i := 8) sc_l_names_right.nd rfl (by first | exact Or.inl rfl | exact Or.inr rfl)) (pss_cons (ps_setLc (i := 6) (own := [("_law_lot", 5)]) (g := gName 5) rfl sc_l_names_right.nd rfl rfl (sw_true rfl rfl rfl (by decide +kernel)) (xlist K (pe_cal (cal_l_d_lots T) (hr.mono (by decide)) (by rfl) pass0 (pa_cons (pv 1) (pa_cons (pv 2) (pa_cons pe_str pa_nil))))) (blkOk_by (own := [("_law_lot", 5)]) (N := N_l_names_right) (by kernel_rfl)) (fun _ _ _ _ _ => pg_name (i := 5) sc_l_names_right.nd rfl (by first | exact Or.inl rfl | exact Or.inr rfl)) (fun _ _ _ _ _ => pts_one (pt_cmpR (xnin K) (pv 8) (pv 5) (by rfl))) (fun _ _ _ _ _ => (pv 5))) (pss_cons (ps_if (pt_not (pt_val (pe_cal (cal_same T 3) (hr.mono (by decide)) (by rfl) pass0 (pa_cons (pe_lst (pa_cons (pe_cal (E := E0) (cal_lacking_lot T B Er) (hr.mono (by decide)) (by rfl) passL (pa_cons (pv 0) (pa_cons (pv 8) pa_nil))) pa_nil)) (pa_cons (pe_lst (pa_cons (pe_ifExp (pt_cmpR (xneD K hr.units) (pv 6) (pe_lst pa_nil) (nomark _)) (pe_ix (xixL K) (pv 6) pe_int (fun _ _ => rfl)) pe_non) pa_nil)) pa_nil))))) (pss_one (ps_ret pe_bl)) pss_nil) (pss_cons (ps_if (pt_not (pt_val (pe_cal (cal_same T 3) (hr.mono (by decide)) (by rfl) pass0 (pa_cons (pe_lst (pa_cons (pe_cal (E := E0) (cal_sure_paper T Er) (hr.mono (by decide)) (by rfl) passL (pa_cons (pv 0) (pa_cons (pv 8) pa_nil))) pa_nil)) (pa_cons (pe_lst (pa_cons (pe_cal (cal_l_smallest T) (hr.mono (by decide)) (by rfl) pass0 (pa_cons (pv 4) (pa_cons (pv 8) pa_nil))) pa_nil)) pa_nil))))) (pss_one (ps_ret pe_bl)) pss_nil) (pss_cons (ps_for (g := gName 7) (passes_of rfl) rfl (xlist K (pe_lst (pa_cons (pe_cal (E := E0) (cal_lacking_lot T B Er) (hr.mono (by decide)) (by rfl) passL (pa_cons (pv 0) (pa_cons (pv 8) pa_nil))) (pa_cons (pe_cal (E := E0) (cal_sure_paper T Er) (hr.mono (by decide)) (by rfl) passL (pa_cons (pv 0) (pa_cons (pv 8) pa_nil))) pa_nil)))) (pg_name (i := 7) sc_l_names_right.nd rfl (by first | exact Or.inl rfl | exact Or.inr rfl)) (pss_one (ps_if (pt_cmpR op_notN (pv 7) pe_non (nomark _)) (pss_one (ps_expr (pe_bm PySem.F.plainAttrs_list PySem.F.slot_list_append PySem.F.type_list_append mt_append (pv 7) (pa_cons pe_str pa_nil)))) pss_nil))) (pss_one (ps_if (pt_cmpR (xneD K hr.units) (pe_cal (E := E0) (cal_sure_paper T Er) (hr.mono (by decide)) (by rfl) passL (pa_cons (pv 0) (pa_cons (pv 8) pa_nil))) (pe_cal (cal_l_smallest T) (hr.mono (by decide)) (by rfl) pass0 (pa_cons (pv 4) (pa_cons (pv 8) pa_nil))) (nomark _)) (pss_one (ps_ret pe_bl)) pss_nil))))))) (pss_one (ps_ret pe_bl))), ?_⟩
  refine q_for (R := rS) (xs := N) eG (ew_list (er_var rfl hb.l)) (fun i σ' G' H' => (∃ x6 x7 x8, σ' = [some a, some b, some c, some d, some e, none, x6, x7, x8]) ∧ Gr K G H G' H') (fun G2 H2 g => ⟨⟨_, _, _, rfl⟩, g⟩) ?_ fun σ' G' H' ⟨⟨x6, x7, x8, hσ⟩, gg⟩ _ _ => ?_
  · rintro i x v σ' G' H' G2 H2 ex ⟨⟨x6, x7, x8, rfl⟩, gg⟩ eG' kG' g2 rx
    have xN : x ∈ N := List.mem_of_getElem? ex
    have xS : ¬ badSt (debOf N ps).S (some x) := fun z => z x rfl (so_mem.mpr xN)
    have rx : rS x v G2 := rx
    have gA := gg.trans g2
    show tSeq _ _ _ [some a, some b, some c, some d, some e, none, x6, x7, some v] H2
    have hlk : (lackP (debOf N ps) x) = ((greatestL N ps).filter fun l => !decide (x ∈ l)).head? := lack_eq nn x
    have hpp : (paperP (debOf N ps) x) = smallestL (sureL N ps) x := paper_eq nn x
    have lackE : ∀ σ G3, Ex G2 G3 → σ[0]? = some (some a) → σ[8]? = some (some v) → EvP K (tCall (spLack K cS) [] E0 (tCons (tVar 0) (tCons (tVar 8) tNil))) σ G3 (rO (rF G3 rS)) (lackP (debOf N ps) x) := fun σ G3 e3 e0 e8 =>
      er_callE (debOf N ps, some x, v) xS (eb_a2 (R := rDeb K) (S := rV) (er_var e0 (Mo.mo (gA.kk.trans e3) ha)) (er_var e8 rfl)) (fun vs G4 e4 ⟨u, z, ev, h1, h2⟩ => ⟨u, by rw [ev, show z = v from h2], h1, Mo.mo (R := rS) (e3.trans e4) rx, ok⟩) fun Gc u G4 ec p => rO.rel (fun _ _ h => h.base ec) (p x rfl)
    have paperE : ∀ σ G3, Ex G2 G3 → σ[0]? = some (some a) → σ[8]? = some (some v) → EvP K (tCall (spPaper K cS) [] E0 (tCons (tVar 0) (tCons (tVar 8) tNil))) σ G3 (rO (rF G3 rS)) (paperP (debOf N ps) x) := fun σ G3 e3 e0 e8 =>
      er_callE (debOf N ps, some x, v) xS (eb_a2 (R := rDeb K) (S := rV) (er_var e0 (Mo.mo (gA.kk.trans e3) ha)) (er_var e8 rfl)) (fun vs G4 e4 ⟨u, z, ev, h1, h2⟩ => ⟨u, by rw [ev, show z = v from h2], h1, Mo.mo (R := rS) (e3.trans e4) rx, ok⟩) fun Gc u G4 ec p => rO.rel (fun _ _ h => h.base ec) (p x rfl)
    have smallE : ∀ E σ G3, Ex G2 G3 → σ[4]? = some (some e) → σ[8]? = some (some v) → EvP K (tCall (spSmallest K) [] E (tCons (tVar 4) (tCons (tVar 8) tNil))) σ G3 (rO (rM rS)) (smallestL (sureL N ps) x) := fun E σ G3 e3 e4 e8 =>
      er_post (sureL N ps, x) (eb_a2 (R := rMs K) (S := rS) (er_var e4 (Mo.mo (gA.kk.trans e3) he)) (er_var e8 (Mo.mo e3 rx))) (fun vs G4 _ h => ⟨h, by show (sureL N ps).length ≤ 1000; omega⟩) fun _ _ _ _ p => p
    have okl : okL (okO (okL (okT (α := Str)))) [lackP (debOf N ps) x] := ⟨by simp, fun o ho l hl => by
      rw [List.mem_singleton.mp ho, hlk] at hl
      exact ok_lot8 (Nat.le_trans (gm l (List.mem_filter.mp (List.mem_of_head? hl)).1) (by decide))⟩
    have okp : okL (okO (okL (okT (α := Str)))) [paperP (debOf N ps) x] := ⟨by simp, fun o ho l hl => by
      rw [List.mem_singleton.mp ho, hpp] at hl
      exact ok_lot8 (Nat.le_trans (sm l (smallest_in hl)) (by decide))⟩
    refine qr_asg g2.kn (EvN.l (en_flt (R := rM rS) (xs := greatestL N ps) (fun l => !decide (x ∈ l)) (ew_list (er_post (N, ps, ("greatest" : Str)) (eb_a3 (R := rL K rS) (S := rPs K) (T := rS) (er_var rfl (Mo.mo gA.kk hb).l) (er_var rfl (Mo.mo gA.kk hc)) (er_c ⟨rfl, sok⟩)) (fun vs G2 _ h => ⟨h, nl, by show ps.length ≤ _; omega, .inr (.inl rfl)⟩) fun _ _ _ _ p => by rw [← lots_g]; exact p)) (by omega) (fun _ => rfl) (fun _ => rfl) fun l _ u G3 e3 rl => et_cmp (ev_nins (ev_strv (Mo.mo (R := rS) e3 rx) rfl) (er_var rfl rl.l)))) fun v6 G3 H3 g3 r6 => ?_
    have r6 : rL K (rM rS) ((greatestL N ps).filter fun l => !decide (x ∈ l)) v6 G3 := r6
    refine q_no g3.kn (et_is (et_not (et_val (ev_same (R := rL K (rO (rF G3 rS))) (S := rL K (rO (rM rS))) okl (EvN.l (en_one (lackE _ _ g3.kk rfl rfl))) (EvN.l (en_one ?_))))) rfl) fun H4 g4 => ?_
    · rw [hlk]
      refine er_if (et_cmp (ev_ne_nil (R := rM rS) (enc := eLot) (by decide) (er_var rfl r6))) (fun hne => ?_) fun he => ?_
      · cases hs : (greatestL N ps).filter fun l => !decide (x ∈ l) with
        | nil => rw [hs] at hne; simp at hne
        | cons p ps =>
          rw [hs] at r6
          exact er_ix (R := rM rS) (i := 0) (er_var rfl r6) ev_c rfl
      · have he : (greatestL N ps).filter (fun l => !decide (x ∈ l)) = [] := of_decide_eq_true (by rw [Bool.not_eq_false'] at he; exact he)
        rw [he]
        exact er_c rfl
    refine q_no g4.kn (et_is (et_not (et_val (ev_same (R := rL K (rO (rF G3 rS))) (S := rL K (rO (rM rS))) okp (EvN.l (en_one (paperE _ _ g3.kk rfl rfl))) (EvN.l (en_one (by rw [hpp]; exact smallE _ _ _ g3.kk rfl rfl)))))) rfl) fun H5 g5 => ?_
    refine q_late2 (K := K) (ls := [lackP (debOf N ps) x, paperP (debOf N ps) x]) (show 7 < 9 by decide) (fun σ2 H2 v Q h1 h2 => ⟨v, h1, rfl, _, rfl, h2⟩) g5.kn (en_lst (eb_all (lackE _ _ g3.kk rfl rfl) (eb_all (paperE _ _ g3.kk rfl rfl) eb_all0)) (fun vs G2 h => by rw [← h.length]; exact (by decide : 2 ≤ 10000000))) (by decide : 2 ≤ 256) (fun l hl => ?_) fun σ' H6 hσ g6 => ?_
    · rcases List.mem_cons.mp hl with hl | hl
      · rw [hlk] at hl
        exact gm l (List.mem_filter.mp (List.mem_of_head? hl.symm)).1
      · rw [List.mem_singleton, hpp] at hl
        exact sm l (smallest_in hl.symm)
    obtain ⟨y7, rfl⟩ : ∃ y7, σ' = [some a, some b, some c, some d, some e, none, some v6, y7, some v] := by
      rcases hσ with rfl | ⟨u, rfl⟩
      · exact ⟨_, rfl⟩
      · exact ⟨_, rfl⟩
    refine s_if (b := false) g6.kn (et_cmp (ev_is (ev_neG (R := rO (rF G3 rS)) (R2 := rO (rM rS)) (enc := eO) (k := 1) (x := paperP (debOf N ps) x) (y := smallestL (sureL N ps) x) (by decide) (paperE _ _ g3.kk rfl rfl) (smallE _ _ _ g3.kk rfl rfl)) (by rw [hpp]; simp))) (fun z => by cases z) fun _ H7 g7 => ?_
    exact ⟨G3, g2.kk.trans g3.kk, g7.kn, ⟨_, _, _, rfl⟩, ((((gA.trans g3).trans g4).trans g5).trans g6).trans g7⟩
  · subst hσ
    exact sv_ret gg.kn ev_c fun H3 g3 => q _ G' H3 (gg.trans g3) rfl
end
end Ob
set_option maxRecDepth 100000
set_option maxHeartbeats 1000000
/-! Ki3: several except clauses with a name; a lambda that is asked; met. -/
namespace Ob
open PySem PySem.Spec PyProof.Rows L2 LamX
abbrev TsA := Addr → Value → Option Addr → TS
/-- what the clauses 'except x as n' wish of an exception of the body, one after the other: slot i of len is n's -/
def wManyAs (K : PySem.W.Frag) (i len : Nat) (Wout : WX) (D : Ends) : List (Value × TsA) → WX
  | [] => Wout
  | (c, ts) :: r => fun cls d σ H => ∃ b, PySem.W.exmOne K cls c = some b ∧
    (b = true → σ.length = len → ∀ a, H a = none → ts a cls d { nx := fun σ' H' => D.nx (σ'.set i none) H', rt := D.rt, bk := fun σ' H' => D.bk (σ'.set i none) H', ct := fun σ' H' => D.ct (σ'.set i none) H' } (σ.set i (some (.ref a))) H) ∧
    (b = false → wManyAs K i len Wout D r cls d σ H)
inductive HdsAs (X : Cx) (n : Str) : List ExceptHandler → List (Value × TsA) → Prop
  | nil : HdsAs X n [] []
  | cons {x : Str} {c : Value} {ts : TsA} {b₀ : Stmt} {suite : List Stmt} {np pos' : Pos} {hds : List ExceptHandler} {l : List (Value × TsA)} (hc : Names X x c)
      (hsu : ∀ (a : Addr) (oe : Obj) (cls : Value) (d : Option Addr) (pn : List (Addr × Obj)), Zc cls d oe → (∃ vs, oe.data = .fields vs) → PSs (X.suite a ((a, oe) :: pn)) (b₀ :: suite) (ts a cls d)) (r : HdsAs X n hds l) :
      HdsAs X n (.ExceptHandler (some (.Name x np)) (some n) (b₀ :: suite) pos' :: hds) ((c, ts) :: l)
section
variable {X : Cx} {n : Str} {i : Nat} {body : List Stmt} {h₀ : ExceptHandler} {hds : List ExceptHandler} {l : List (Value × TsA)} {pos : Pos} {tb : WX → TS} {Wout : WX}
theorem ps_try_manyAs (hs : X.stack = X.env :: X.outer) (hf : X.env.frame = some X.env.locals) (hN : X.N.Nodup) (hi : X.N[i]? = some n) (hln : X.env.kindOf n = some .local) (tk : Takes X Wout)
    (hb : ∀ (W : WX) (pn : List (Addr × Obj)) (xe : Value → Shared → Prop), Takes (X.tr pn xe) W → PassesOwn (model X.prog X.w) X.A X.env xe → PSs (X.tr pn xe) body (tb W))
    (hh : HdsAs X n (h₀ :: hds) l) : PS X (.Try body (h₀ :: hds) [] [] pos) (fun D σ H => tb (wManyAs X.K i X.N.length Wout D l) D σ H) := by
  refine ⟨fun pins s σ H D I h => ?_⟩
  have ok := I.ok
  have hfr : X.A.frames = some (X.env :: X.outer) := by rw [ok.frames, hs]
  have hloc : Loc X.env.scope n := .inl hln
  refine wpAny_Try_except ?_
  refine wpAny_mono ((hb (wManyAs X.K i X.N.length Wout D l) (X.pn ++ pins) (fun e s₁ => wpAny (model X.prog X.w) X.A (noteFrame e X.env) (fun _ s₂ => wpAny (model X.prog X.w) X.A (setFlight e none) (fun _ s₃ =>
    wpAny (model X.prog X.w) X.A (handleBy e X.env (h₀ :: hds)) (SP X pins D) X.xe s₃) X.xe s₂) X.xe s₁) (fun u s' xx => ?_) PassesOwn.looking).run [] s σ H D (I.toTry _) h) (fun f s1 hsp => ?_) (fun e s1 he => he)
  · obtain ⟨a, B, sI, pins', σ', H', cls, d, rfl, J', nb, up, sky, na, os, ag, w⟩ := xx
    have J : L2.Inv X pins σ' H' sI := J'.ofTry ok
    have sky' : Sky B (X.env :: X.outer) a (Zc cls d) X.env.locals s'.heap := by rw [← hs]; exact sky
    show wpAny (model X.prog X.w) X.A (noteFrame (.ref a) X.env) _ _ _
    refine Sky.land Zc.steady hfr hf sky' fun h3 fl3 up3 => ?_
    have J3 : L2.Inv X pins σ' H' { s' with heap := h3 } := J.landed nb fl3.1 (up.trans up3) os ag
    obtain ⟨oe3, vs3, he3, hz3, hd3⟩ := fl3.there
    have notFr : ∀ {h : Heap} {o : Obj} {vs : Array Value}, h.FunFrames B (X.env :: X.outer) → h.get? a = some o → o.data = .fields vs → a ∉ frs (X.env :: X.outer) := fun {h o vs} ff e dd hm => by
      obtain ⟨_, o', e', hnf⟩ := ff.mem hm
      rw [e] at e'; cases e'
      exact hnf _ dd
    have nfr := notFr fl3.2.2.1 he3 hd3
    have nL : a ≠ X.env.locals := fun z => nfr (List.mem_filterMap.mpr ⟨X.env, List.mem_cons_self, by rw [hf, z]⟩)
    have nF : a ∉ X.fs := fun hm => by
      obtain ⟨e, he, q⟩ := List.mem_filterMap.mp hm
      exact nfr (List.mem_filterMap.mpr ⟨e, List.mem_cons_of_mem _ he, q⟩)
    have S3 := J3.suite he3 hd3 na nL nF
    have go : ∀ {hds' : List ExceptHandler} {l' : List (Value × TsA)}, HdsAs X n hds' l' → wManyAs X.K i X.N.length Wout D l' cls d σ' H' →
        wpAny (model X.prog X.w) X.A (handleBy (.ref a) X.env hds') (SP X pins D) X.xe { s' with heap := h3 } := by
      intro hds' l' hk
      induction hk with
      | nil =>
        intro w
        refine wpAny_handleBy_nil ?_
        obtain ⟨k1, k2, k3, oe, vs, T, oT, ts', he, hz, hd, h1, hr⟩ := id fl3
        unfold PySem.passOn
        refine wpAny_bind (wpAny_field he hd h1 ?_)
        rw [if_neg (show ¬ ((Value.ref T == Value.none) = true) from by simp)]
        have fin : wpAny (model X.prog X.w) X.A (setFlight (.ref a) X.env.frame) (fun _ s4 => wpAny (model X.prog X.w) X.A (throw (.ref a) : Sem Flow) (SP X pins D) X.xe s4) X.xe { s' with heap := h3 } := by
          rw [hf]
          refine HandSPX.setFlight_upZ fl3 fun h4 hh4 up4 => wpAny_throw (tk _ _ ?_)
          exact ⟨a, B, sI, pins, σ', H', cls, d, rfl, J, nb, (up.trans up3).trans up4, .inr (.inr (by rw [hs]; exact hh4)), na, os, ag, w⟩
        first
          | exact wpAny_bind (wpAny_pure (wpAny_bind fin))
          | exact wpAny_bind fin
      | @cons x c ts b₀ suite np pos' hds2 l2 hc hsu r ih =>
        intro w
        obtain ⟨b, hb1, hyes, hno⟩ := w
        refine wpAny_handleBy_cons (codeAny_handlers_test ?_) (by intro q; cases q)
        have LT : PySem.W.Looks (model X.prog X.w) h3 (typeOf (.ref a)) cls := fun A Q E s k q => wpAny_typeOf_ref (k _ _ he3) (by rw [hz3.1]; exact q)
        have LM := PySem.W.exm_one (M := model X.prog X.w) (J3.kIn) LT hb1
        have test : ∀ {Q : Value → Shared → Prop} {E : Value → Shared → Prop}, Q c { s' with heap := h3 } → wpAny (model X.prog X.w) (X.A.mark (some (.ref a))) (eval (.Name x np) X.env) Q E { s' with heap := h3 } := fun {Q E} q => by
          obtain ⟨hg, hdbg, hm | ⟨hm, hv, hnn⟩⟩ := hc
          · exact ld_glob (X := X.suite a ((a, oe3) :: (X.pn ++ pins))) S3 hg hm q hdbg
          · exact ld_blt (X := X.suite a ((a, oe3) :: (X.pn ++ pins))) S3 hg hm hv q hnn hdbg
        refine test (LM.here ?_)
        cases b with
        | true =>
          refine codeAny_handlers_suite_as ?_
          refine HandSPX.lands_againZ fl3 fun h4 fl4 up4 => ?_
          have J4 : L2.Inv X pins σ' H' { s' with heap := h4 } := J.landed nb fl4.1 ((up.trans up3).trans up4) os ag
          obtain ⟨oe4, vs4, he4, hz4, hd4⟩ := fl4.there
          have S4 := J4.suite he4 hd4 na nL nF
          refine store_ok (X := X.suite a ((a, oe4) :: (X.pn ++ pins))) (v := .ref a) S4 hN hi hloc rfl (fun s5 S5 => ?_) (.inr hln)
          refine wpAny_mono ((hsu a oe4 cls d (X.pn ++ pins) hz4 ⟨_, hd4⟩).run [] s5 _ H' _ S5 (hyes rfl J.len a na)) (fun f s6 hsp => ?_) (fun _ _ z => False.elim z)
          have end_ : ∀ {σ6 : L2.St} {H6 : Hp} {Q : Shared → Prop}, L2.Inv (X.suite a ((a, oe4) :: (X.pn ++ pins))) [] σ6 H6 s6 → (∀ s7, L2.Inv X pins (σ6.set i none) H6 s7 → Q s7) →
              wpAny (model X.prog X.w) X.A (do bindName X.env n .none; unbindBehindTheSuite X.env n pos') (fun _ s7 => Q s7) X.xe s6 := fun {σ6 H6 Q} S6 hq => gone_ok (S6.unsuite ok) hN hi hln hq
          cases f with
          | next =>
            obtain ⟨σ6, H6, S6, q6⟩ := hsp
            exact end_ S6 fun s7 J7 => ⟨_, _, J7, q6⟩
          | brk =>
            obtain ⟨σ6, H6, S6, q6⟩ := hsp
            exact end_ S6 fun s7 J7 => ⟨_, _, J7, q6⟩
          | cont =>
            obtain ⟨σ6, H6, S6, q6⟩ := hsp
            exact end_ S6 fun s7 J7 => ⟨_, _, J7, q6⟩
          | ret u =>
            obtain ⟨v6, σ6, H6, S6, r6, q6⟩ := hsp
            exact end_ S6 fun s7 J7 => ⟨_, _, _, J7, r6, q6⟩
        | false =>
          show wpAny _ X.A (handleBy (.ref a) X.env hds2) _ _ _
          exact ih (hno rfl)
    exact go hh w
  · cases f with
    | next =>
      obtain ⟨σ', H', J', q⟩ := hsp
      exact wpAny_execs_nil ⟨σ', H', J'.ofTry ok, q⟩
    | brk =>
      obtain ⟨σ', H', J', q⟩ := hsp
      exact ⟨σ', H', J'.ofTry ok, q⟩
    | cont =>
      obtain ⟨σ', H', J', q⟩ := hsp
      exact ⟨σ', H', J'.ofTry ok, q⟩
    | ret u =>
      obtain ⟨v, σ', H', J', r, q⟩ := hsp
      exact ⟨v, σ', H', J'.ofTry ok, r, q⟩
end
/-! ### a lambda handed to a def -/
abbrev TL := (XK → Hp → VK → Prop) → Hp → VK → Prop
def tLamX (K : PySem.W.Frag) (TT : TL) (t : XK → TE) : TE := fun σ H Q => Tb K H ∧ ∀ H1, Ex H H1 → Tb K H1 → TT (fun E H' Q' => t E σ H' Q') H1 Q
/-- x(lambda: body), the heap's growth told -/
theorem pe_lamcallX {X : Cx} (K : PySem.W.Frag) {TT : TL} {x a : Str} {g c P : Addr} {k : Nat} {pg : Arguments} {bg : List Stmt} {sg : Scope} {dV kV doc pm cdv ct oc : Value} {an od : Option Addr} {osl : Array (Option Value)} {Ng : List Str}
    {params : Arguments} {body : Expr} {scope : Scope} {t : XK → TE} {p lpos pos : Pos} (hg : Gl X x) (hm : X.mg x = some (.ref g)) (hk : PySem.W.keepIn X.K (.ref g) = true)
    (lk : X.K.lookup g = some ⟨oc, od, .func (PySem.W.fnOf x x pg bg sg dV kV doc pm an cdv ct), osl⟩) (hcg : PySem.W.codeIn X.K cdv x = true) (hb : L2.Binds X.K (PySem.W.fnOf x x pg bg sg dV kV doc pm an cdv ct) [a] []) (Sg : FnScope Ng [a] sg) (hNg : Ng[0]? = some a) (hva : Vis sg a)
    (hG : GivesTo X Ng x sg g cdv bg a (X.env.qual ++ "<lambda>") TT)
    (TB : TabB X.base X.mg c P) (hcode : X.env.code = .ref c) (hmT : (P, X.env.qual ++ "<lambda>") ∈ tabs K) (hu : ∀ p ∈ tabs K, p.1 = P → p.2 = X.env.qual ++ "<lambda>") (hr : Room (k + 2) X.A) (L : LamS X.env.scope scope) (hdef : defaultsOf params X.env = ([], []))
    (hbind : ∀ (q : Str) (cl : List (Str × Addr)) (pm cv ctv : Value), bindArgs (PySem.W.kla_fn "<lambda>" q params body scope cl pm cv ctv) ⟨[], []⟩ = pure [])
    (hbody : ∀ (A : Around) (outer : List Env) (s : Shared) (H : Hp) (E : XK) (f c' : Addr), Room k (A.deeper (lamEnv X scope s.heap.objs.size f c')) → PE (lamCx X A outer s H E scope f c') body (t E))
    (hdb : (x == ("__debug__" : Str)) = false := by decide) (hd : (a == ("__debug__" : Str)) = false := by decide) (hcd : (a == ("__classdict__" : Str)) = false := by decide) :
    PE X (.Call (.Name x p) [.Lambda params body scope lpos] [] pos) (tLamX K TT t) := by
  refine ⟨fun pins s σ H Q I h => ?_⟩
  obtain ⟨hT, h⟩ := h
  refine wpAny_Call_Name_kw (ld_glob I hg hm ?_ hdb)
  refine PySem.W.callWith_K (h₀ := X.base) I.ok.mod.kin hk ?_ (by rfl) (by rfl)
  show wpAny _ _ (spliced ((false, eval (.Lambda params body scope lpos) X.env) :: backTo pos (starEach [] X.env))) _ _ s
  refine Calls.spliced_cons (lam_make3 I TB hcode hmT hu hT hdef (L.has I.ok) fun f c' pm' ctv H1 s' I1 eN T1 hf hfn hfr hco => ?_)
  refine Calls.spliced_nil ⟨I1.kIn, ?_⟩
  have rc : codeAny (model X.prog X.w) X.A (.call (.ref g) ⟨[.ref f], []⟩) (CR C8.CX0 X.stack X.prog X.w H1 s' Q C8.E0) s' := by
    refine run_ofS (N := Ng) (ps := [a]) (us := [.ref f]) (vs := [.ref f]) lk hcg Sg hr I1.env0 (hb s' [.ref f] I1.kIn rfl) (.cons rfl .nil) rfl fun hr' => ?_
    obtain ⟨t', ht', hq'⟩ := hG f c' s' H1 Q (fun E H' Q' => t E σ H' Q') (fun W pn xe E p1 p2 tk hW => pe_act (i := 0) I1 L hf hfn hfr (hbind _ _ _ _ _) tk hW hr' (fun A outer s H hr2 => hbody A outer s H E f c' hr2) hNg hva hd hcd) hco (h H1 eN T1)
    exact ⟨t', ht'.nox, hq'⟩
  refine wpAny_call (codeAny_mono rc fun r s2 hq => ?_)
  cases r with
  | error e => exact (show False from hq).elim
  | ok fl =>
    cases fl with
    | ret u => exact I1.after hq
    | next => exact False.elim hq
    | brk => exact False.elim hq
    | cont => exact False.elim hq
/-! ### met -/
/-- what met makes of what its lambda raises -/
def echMet (cS cL cH : Addr) (Q : VK) : XK := fun cls d H =>
  (cls = .ref cS ∧ ∃ dd v, d = some dd ∧ H dd = some (.xd [("thing", v)]) ∧ ∀ p, H p = none → Q (.ref p) (upd H p (.tup [.str "statement", v]))) ∨
  (cls = .ref cL ∧ ∃ dd v, d = some dd ∧ H dd = some (.xd [("index", v)]) ∧ ∀ p, H p = none → Q (.ref p) (upd H p (.tup [.str "lot", v]))) ∨
  (cls = .ref cH ∧ ∃ dd v, d = some dd ∧ H dd = some (.xd [("fault", v)]) ∧ ∀ p, H p = none → Q (.ref p) (upd H p (.tup [.str "fault", v])))
def TMet (cS cL cH : Addr) : TL := fun tl H Q => tl (echMet cS cL cH Q) H fun v H1 => 2 ≤ sizeLine ∧ ∀ p, H1 p = none → Q (.ref p) (upd H1 p (.tup [.str "told", v]))
section
variable {cL cS cH : Addr}
abbrev N_l_met : List Str := ["_law_ask", "e"]
theorem sc_l_met : FnScope N_l_met ["_law_ask"] (defScope s_l_met) := ⟨rfl, rfl, rfl, by decide +kernel, rfl, by decide +kernel, by decide +kernel⟩
theorem met_gives {X : Cx} (Er : Errs X.K X.mg cL cS cH) {g : Addr} {cdg : Value} {q : Str} : GivesTo X N_l_met "_law_met" (defScope s_l_met) g cdg (defBody s_l_met) "_law_ask" q (TMet cS cL cH) := by
  intro f c' s H Q tl act hc h
  refine ⟨_, pss_one (ps_try_manyAs (X := (cxOf C8.CX0 X.prog X.w X.K X.mg X.base N_l_met "_law_met" (defScope s_l_met) g cdg X.A X.stack s H C8.E0).nox) (n := "e") (i := 1)
      (tb := fun W D σ H => ∃ Ech : XK, (∀ cls d σ' H', Ech cls d H' → W cls d σ' H') ∧ σ[0]? = some (some (.ref f)) ∧ H c' = some (CodeO c' q) ∧ tl Ech H fun v H1 => 2 ≤ sizeLine ∧ ∀ p, H1 p = none → D.rt (.ref p) (upd H1 p (.tup [.str "told", v])))
      rfl rfl sc_l_met.nd rfl rfl LamX.takes0 (fun W pn xe tk _ => ?_)
      (HdsAs.cons (c := .ref cS) ⟨rfl, by decide, .inl Er.ns.g⟩ (fun a oe cls d pn hz hf => pss_one (ps_ret (pe_tup (pa_cons pe_str (pa_cons (pe_xf Er.ns.xf Er.ns.no hz hf (pv 1)) pa_nil)))))
        (HdsAs.cons (c := .ref cL) ⟨rfl, by decide, .inl Er.bl.g⟩ (fun a oe cls d pn hz hf => pss_one (ps_ret (pe_tup (pa_cons pe_str (pa_cons (pe_xf Er.bl.xf Er.bl.no hz hf (pv 1)) pa_nil)))))
          (HdsAs.cons (c := .ref cH) ⟨rfl, by decide, .inl Er.nh.g⟩ (fun a oe cls d pn hz hf => pss_one (ps_ret (pe_tup (pa_cons pe_str (pa_cons (pe_xf Er.nh.xf Er.nh.no hz hf (pv 1)) pa_nil))))) .nil)))), ?_⟩
  · refine ⟨fun pins s' σ H' D I h' => ?_⟩
    obtain ⟨Ech, hW, h1, h2, h3⟩ := h'
    exact (PSs.run (pss_one (ps_ret (pe_tup (pa_cons pe_str (pa_cons (act W pn xe Ech _ _ tk hW) pa_nil))))) pins s' σ H' D I ⟨h1, h2, h3⟩)
  · refine ⟨echMet cS cL cH Q, fun cls d σ' H' hx => ?_, rfl, hc, h⟩
    have at1 : ∀ a : Addr, σ'.length = 2 → (σ'.set 1 (some (.ref a)))[1]? = some (some (.ref a)) := fun a hl => List.getElem?_set_self (by rw [hl]; decide)
    rcases hx with ⟨rfl, dd, v, rfl, hd, hq⟩ | ⟨rfl, dd, v, rfl, hd, hq⟩ | ⟨rfl, dd, v, rfl, hd, hq⟩
    · exact ⟨true, Er.ss, fun _ hl a ha => ⟨.ref a, at1 a hl, rfl, rfl, dd, _, v, rfl, hd, rfl, (by decide : 2 ≤ sizeLine), hq⟩, fun z => by cases z⟩
    · refine ⟨false, Er.ls, fun z => (by cases z), fun _ => ⟨true, Er.ll, fun _ hl a ha => ⟨.ref a, at1 a hl, rfl, rfl, dd, _, v, rfl, hd, rfl, (by decide : 2 ≤ sizeLine), hq⟩, fun z => by cases z⟩⟩
    · refine ⟨false, Er.hs, fun z => (by cases z), fun _ => ⟨false, Er.hl, fun z => (by cases z), fun _ => ⟨true, Er.hh, fun _ hl a ha => ⟨.ref a, at1 a hl, rfl, rfl, dd, _, v, rfl, hd, rfl, (by decide : 2 ≤ sizeLine), hq⟩, fun z => by cases z⟩⟩⟩
end
end Ob
set_option maxRecDepth 100000
set_option maxHeartbeats 3200000
/-! Ks: set(xs), xs a list or a tuple of texts; len(set(xs)). Printed by gen_set.py; after the library's rule for at most one text (HandS.Strs). -/
namespace Ob
open PySem PySem.Spec PyProof.Rows L2
section
variable {prog : Program} {w : World} {A : Around} {R : Result → Shared → Prop} {I : Addr} {fp wr : List Addr} {G : Array GenState → Array GenState → Prop} {n : Nat} {P : Nat → Value → Prop} {St : Nat → Shared → Prop}
/-- the set of the first i texts -/
def memI (xs : Lot) (i : Nat) : Str → Bool := fun k => (xs.take i).any (· == k)
def cntI (xs : Lot) (i : Nat) : Nat := (dedup (xs.take i)).length
theorem cntI_le (xs : Lot) (i : Nat) : cntI xs i ≤ i := by
  have h := fold_len (xs.take i) []
  rw [List.length_take] at h
  have h2 : cntI xs i ≤ ([] : Lot).length + min i xs.length := h
  rw [List.length_nil] at h2
  omega
theorem memI_in {xs : Lot} {i : Nat} {k : Str} : memI xs i k = true ↔ k ∈ dedup (xs.take i) := by
  unfold memI
  rw [dedup_mem, List.any_eq_true]
  exact ⟨fun ⟨y, h1, h2⟩ => by rw [← beq_iff_eq.mp h2]; exact h1, fun h => ⟨k, h, beq_self_eq_true k⟩⟩
theorem memI_succ {xs : Lot} {i : Nat} {x : Str} (e : xs[i]? = some x) (k : Str) : (memI xs i k || decide (k = x)) = memI xs (i + 1) k := by
  unfold memI
  rw [List.take_add_one, e, List.any_append]
  congr 1
  by_cases h : k = x
  · subst h; simp
  · have h2 : ¬ x = k := fun z => h z.symm
    simp [h, h2]
theorem cntI_succ {xs : Lot} {i : Nat} {x : Str} (e : xs[i]? = some x) : (if memI xs i x = true then cntI xs i else cntI xs i + 1) = cntI xs (i + 1) := by
  unfold cntI
  rw [dedup_take e]
  unfold insK
  by_cases h : x ∈ dedup (xs.take i)
  · rw [if_pos (memI_in.mpr h), if_pos h]
  · rw [if_neg (fun z => h (memI_in.mp z)), if_neg h, List.length_append]
    rfl
theorem loop_texts (W : WalksS prog w A.in1 I fp wr G n P St) (S : Addr) (hSf : S ∉ fp) (xs : Lot) (hsz : xs.length = n) (hn1 : n ≤ 1000) (hval : ∀ i v, P i v → ∃ x t, xs[i]? = some x ∧ v = .str x t) :
    ∀ (k i : Nat) (s : Shared), n - i = k → i ≤ n → St i s → s.heap.SetOf (PySem.strKind prog w) S (memI xs i) (cntI xs i) →
      (∀ s', Moved (S :: wr) G s s' → s'.heap.SetOf (PySem.strKind prog w) S (memI xs n) (cntI xs n) → R (.ok (.ret .none)) s') →
      codeAny (model prog w) A (.builtin "set.update.loop" ⟨[.ref S, .ref I], []⟩) R s := by
  have hSw : S ∉ wr := fun h => hSf (W.sub _ h)
  have hsub : ∀ b ∈ wr, b ∈ S :: wr := fun b hb => List.mem_cons_of_mem _ hb
  intro k
  induction k with
  | zero =>
    intro i s hk hi hst hS hR
    obtain rfl : i = n := by omega
    refine codeAny_builtin F.entry_set_update_loop ?_
    rw [Around.under_plainId F.plain_set_update_loop _]
    refine wpAny_bind (W.done s _ _ hst fun s' hm => wpAny_pure (hR s' (hm.mono hsub) ?_))
    obtain ⟨o, es, ep, t, ho, rest⟩ := hS
    exact ⟨o, es, ep, t, hm.heap S _ hSw ho, rest⟩
  | succ k ih =>
    intro i s hk hi hst hS hR
    have hlt : i < n := by omega
    refine codeAny_builtin F.entry_set_update_loop ?_
    rw [Around.under_plainId F.plain_set_update_loop _]
    refine wpAny_bind (W.item i s _ _ hlt hst fun v s' hP hst' hm => ?_)
    obtain ⟨x, t, hx, rfl⟩ := hval i v hP
    have hS' : s'.heap.SetOf (PySem.strKind prog w) S (memI xs i) (cntI xs i) := by
      obtain ⟨o, es, ep, tb, ho, rest⟩ := hS
      exact ⟨o, es, ep, tb, hm.heap S _ hSw ho, rest⟩
    show wpAny _ A.in1 (holding [Value.str x t] (setAdd S (.str x t)) >>= _) _ _ s'
    refine wpAny_bind (wpAny_holding ?_)
    unfold setAdd
    refine wpAny_holding (wpAny_bind ((PySem.strKind prog w).pyHash (k := x) (strKind_is _ _ _ _) ?_))
    have room := cntI_le xs i
    refine wpAny_setAddHashed_of (knd := PySem.strKind prog w) (s := { s' with toks := s'.toks + 1 }) (strKind_is _ _ _ _) rfl hS' (by unfold scanBound; omega) fun h' hsb hS2 => ?_
    have hSi : h'.SetOf (PySem.strKind prog w) S (memI xs (i + 1)) (cntI xs (i + 1)) := SetOf_congr hS2 (memI_succ hx) (cntI_succ hx)
    refine wpAny_pure ⟨plainId_quiet F.plain_set_update_loop _, ih (i + 1) _ (by omega) hlt (W.frame _ s' _ _ hst' (Nat.le_succ _) fun b hb o e => ?_) hSi fun s'' hm'' hS'' => hR s'' (Moved.trans W.gtrans ((hm.mono hsub).then_heap (Nat.le_succ _) fun b o hb e => ?_) hm'') hS''⟩
    · exact (hsb.2 b fun h : b = S => hSf (by rw [← h]; exact hb)).trans e
    · exact (hsb.2 b fun h : b = S => hb (by rw [h]; exact List.mem_cons_self)).trans e
end
section
variable {prog : Program} {w : World} {A : Around} {E : Value → Shared → Prop} {s : Shared}
abbrev newSet (led : Bool) : Obj := { cls := .type "set", dict := none, data := .set #[] 0 (.fresh 0 0 led) }
theorem set_of_list {l : Addr} {items : Array Value} {xs : Lot} {Q : Value → Shared → Prop} (hh : A.handled = none) (hl : s.heap.IsList l items) (hi : StrsAre items.toList xs) (hn1 : xs.length ≤ 1000)
    (h : ∀ (h' : Heap) (tk : Nat), h'.SetOf (PySem.strKind prog w) s.heap.objs.size (memI xs xs.length) (cntI xs xs.length) → (∀ b o, s.heap.get? b = some o → h'.get? b = some o) → Q (.ref s.heap.objs.size) { s with heap := h', toks := tk }) :
    wpAny (model prog w) A (call (.type "set") [.ref l]) Q E s := by
  have hsz : xs.length = items.size := by rw [← StrsAre.len_eq hi, Array.length_toList]
  obtain ⟨c, tl, hmro⟩ := PySem.F.called_set.mro
  have hmade := PySem.F.called_set.made
  have hsub := PySem.F.called_set.sub
  refine wpAny_call (codeAny_of_tree ?_)
  refine wpAny_pure ⟨Code.quiet_builtin _ (by decide +kernel), codeAny_builtin PySem.F.entry_type_call ?_⟩
  rw [Around.under_plain (weight_type_call_type "set" [.ref l] []) rfl]
  have h1 := PySem.F.called_set.notType
  have h2 := PySem.F.called_set.canCreate
  have hct := PySem.F.typeCall_set_1 (.ref l)
  repeat (any_goals (first | assumption | wp_step))
  refine codeAny_mono (code_set_new_1 (.ref l) (E := E) (Q₁ := fun obj s₁ => ∃ led : Bool, obj = .ref s.heap.objs.size ∧ s₁ = { s with heap := s.heap.push (newSet led) }) fun led => ⟨led, rfl, rfl⟩) fun r s₁ hr => ?_
  match r, hr with
  | .ok (.ret obj), hr =>
    obtain ⟨led, rfl, rfl⟩ := hr
    have hz1 : (s.heap.push (newSet led)).objs.size = s.heap.objs.size + 1 := Heap.size_push ..
    have hS : (s.heap.push (newSet led)).get? s.heap.objs.size = some (newSet led) := Heap.get?_push_size _ rfl
    have hT : Shared.TypeIs { s with heap := s.heap.push (newSet led) } (.ref s.heap.objs.size) "set" := ⟨_, hS, rfl⟩
    have hli := PySem.F.called_set.init.lookup
    have hbi := PySem.F.called_set.init.bind (.ref s.heap.objs.size)
    repeat (any_goals (first | assumption | wp_step))
    refine codeAny_mono (codeAny_call_builtin (R := wants (fun r s₂ => r = .none ∧ ∃ h' tk, s₂ = { s with heap := h', toks := tk } ∧ h'.SetOf (PySem.strKind prog w) s.heap.objs.size (memI xs xs.length) (cntI xs xs.length) ∧
        (∀ b o, s.heap.get? b = some o → h'.get? b = some o)) E) PySem.F.called_set.init.plain PySem.F.entry_set_init (check_set_init_1 hT ?_)) fun r₂ s₂ hr₂ => ?_
    · obtain ⟨⟨ocls, odict, odata, oslots⟩, hol, hcl, nl, hdl⟩ := hl
      simp only at hcl hdl
      subst hcl hdl
      have hol' : (s.heap.push (newSet led)).get? l = some { cls := .type "list", dict := odict, data := .seq items nl, slots := oslots } := Heap.get?_push_of_some _ hol
      have hsls := PySem.F.sub_list_set
      have hslf := PySem.F.sub_list_frozenset
      have hne : (Value.type "list" == Value.type "dict") = false := by decide
      have hl1 : (s.heap.push (newSet led)).IsList l items := ⟨_, hol', rfl, nl, rfl⟩
      unfold Builtin.«set.__init__» noKeywords Builtin.Frozenset.updateFrom
      generalize hPI : pyIter = PI
      wp_walk
      subst hPI
      refine wpAny_pyIter_list hl1 (wpAny_bind (wpAny_runValue ?_))
      have hlS : l < s.heap.objs.size := Heap.lt_size hol
      have hh3 : A.in1.in1.in1.handled = none := by simp [hh]
      have hneI : l ≠ (s.heap.push (newSet led)).objs.size := by rw [hz1]; exact Nat.ne_of_lt (Nat.lt_succ_of_lt hlS)
      have hSf : s.heap.objs.size ∉ [(s.heap.push (newSet led)).objs.size, l] := by
        rw [hz1]
        simp only [List.mem_cons, List.not_mem_nil, or_false, not_or]
        exact ⟨Nat.ne_of_lt (Nat.lt_succ_self _), Nat.ne_of_gt hlS⟩
      have hval : ∀ (i : Nat) (v : Value), items[i]? = some v → ∃ x t, xs[i]? = some x ∧ v = .str x t := fun i v hv => by
        have hi2 : i < xs.length := by rw [hsz]; exact (Array.getElem?_eq_some_iff.mp hv).1
        obtain ⟨t, e⟩ := SS.strs_at hi i v (by rw [Array.getElem?_toList]; exact hv)
        exact ⟨xs[i], t, List.getElem?_eq_getElem hi2, by rw [e, List.getD_eq_getElem?_getD, List.getElem?_eq_getElem hi2, Option.getD_some]⟩
      refine loop_texts ((Walks.list hh3 _ l hneI items).toS) s.heap.objs.size hSf xs hsz (by omega) hval (items.size - 0) 0 _ (by omega) (Nat.zero_le _) ⟨⟨_, Heap.get?_push_size _ rfl, rfl, rfl⟩, (hl1.push _)⟩ ?hS0 ?hR
      case hS0 =>
        have hget : ((s.heap.push (newSet led)).push { cls := .type "list_iterator", data := .fields #[.ref l, .int 0 0] }).get? s.heap.objs.size = some (newSet led) := Heap.get?_push_of_some _ hS
        exact SetOf_congr ((setObjOf_fresh (knd := PySem.strKind prog w) led).setOf hget (by unfold scanBound; omega)) (fun _ => rfl) rfl
      case hR =>
        intro s' hm hS'
        obtain ⟨h', g', d', tk', os'⟩ := s'
        obtain rfl : g' = s.gens := hm.gens
        obtain rfl : d' = s.drawn := hm.drawn
        obtain rfl : os' = s.os := hm.os
        rw [← hsz] at hS'
        refine wpAny_pure (wpAny_pure ⟨rfl, h', tk', rfl, hS', fun b o e => ?_⟩)
        have hb := Heap.lt_size e
        refine hm.heap b o ?_ (Heap.get?_push_of_some _ (Heap.get?_push_of_some _ e))
        simp only [List.mem_cons, List.not_mem_nil, or_false, not_or]
        exact ⟨Nat.ne_of_lt hb, by rw [hz1]; exact Nat.ne_of_lt (Nat.lt_succ_of_lt hb)⟩
    · match r₂, hr₂ with
      | .ok (.ret r), hr₂ =>
        obtain ⟨rfl, h', tk, rfl, hS', hk'⟩ := hr₂
        repeat (any_goals (first | assumption | wp_step))
        exact h _ _ hS' hk'
      | .error e, hr₂ => exact hr₂
      | .ok .next, hr₂ => exact hr₂.elim
      | .ok .brk, hr₂ => exact hr₂.elim
      | .ok .cont, hr₂ => exact hr₂.elim
  | .error e, hr => exact hr
  | .ok .next, hr => exact hr.elim
  | .ok .brk, hr => exact hr.elim
  | .ok .cont, hr => exact hr.elim
theorem set_of_tuple {l : Addr} {items : Array Value} {xs : Lot} {Q : Value → Shared → Prop} (hh : A.handled = none) (hl : s.heap.IsTuple l items) (hi : StrsAre items.toList xs) (hn1 : xs.length ≤ 1000)
    (h : ∀ (h' : Heap) (tk : Nat), h'.SetOf (PySem.strKind prog w) s.heap.objs.size (memI xs xs.length) (cntI xs xs.length) → (∀ b o, s.heap.get? b = some o → h'.get? b = some o) → Q (.ref s.heap.objs.size) { s with heap := h', toks := tk }) :
    wpAny (model prog w) A (call (.type "set") [.ref l]) Q E s := by
  have hsz : xs.length = items.size := by rw [← StrsAre.len_eq hi, Array.length_toList]
  obtain ⟨c, tl, hmro⟩ := PySem.F.called_set.mro
  have hmade := PySem.F.called_set.made
  have hsub := PySem.F.called_set.sub
  refine wpAny_call (codeAny_of_tree ?_)
  refine wpAny_pure ⟨Code.quiet_builtin _ (by decide +kernel), codeAny_builtin PySem.F.entry_type_call ?_⟩
  rw [Around.under_plain (weight_type_call_type "set" [.ref l] []) rfl]
  have h1 := PySem.F.called_set.notType
  have h2 := PySem.F.called_set.canCreate
  have hct := PySem.F.typeCall_set_1 (.ref l)
  repeat (any_goals (first | assumption | wp_step))
  refine codeAny_mono (code_set_new_1 (.ref l) (E := E) (Q₁ := fun obj s₁ => ∃ led : Bool, obj = .ref s.heap.objs.size ∧ s₁ = { s with heap := s.heap.push (newSet led) }) fun led => ⟨led, rfl, rfl⟩) fun r s₁ hr => ?_
  match r, hr with
  | .ok (.ret obj), hr =>
    obtain ⟨led, rfl, rfl⟩ := hr
    have hz1 : (s.heap.push (newSet led)).objs.size = s.heap.objs.size + 1 := Heap.size_push ..
    have hS : (s.heap.push (newSet led)).get? s.heap.objs.size = some (newSet led) := Heap.get?_push_size _ rfl
    have hT : Shared.TypeIs { s with heap := s.heap.push (newSet led) } (.ref s.heap.objs.size) "set" := ⟨_, hS, rfl⟩
    have hli := PySem.F.called_set.init.lookup
    have hbi := PySem.F.called_set.init.bind (.ref s.heap.objs.size)
    repeat (any_goals (first | assumption | wp_step))
    refine codeAny_mono (codeAny_call_builtin (R := wants (fun r s₂ => r = .none ∧ ∃ h' tk, s₂ = { s with heap := h', toks := tk } ∧ h'.SetOf (PySem.strKind prog w) s.heap.objs.size (memI xs xs.length) (cntI xs xs.length) ∧
        (∀ b o, s.heap.get? b = some o → h'.get? b = some o)) E) PySem.F.called_set.init.plain PySem.F.entry_set_init (check_set_init_1 hT ?_)) fun r₂ s₂ hr₂ => ?_
    · obtain ⟨⟨ocls, odict, odata, oslots⟩, hol, hcl, nl, hdl⟩ := hl
      simp only at hcl hdl
      subst hcl hdl
      have hol' : (s.heap.push (newSet led)).get? l = some { cls := .type "tuple", dict := odict, data := .seq items nl, slots := oslots } := Heap.get?_push_of_some _ hol
      have hsls := PySem.F.sub_tuple_set
      have hslf := PySem.F.sub_tuple_frozenset
      have hne : (Value.type "tuple" == Value.type "dict") = false := by decide
      have hl1 : (s.heap.push (newSet led)).IsTuple l items := ⟨_, hol', rfl, nl, rfl⟩
      unfold Builtin.«set.__init__» noKeywords Builtin.Frozenset.updateFrom
      generalize hPI : pyIter = PI
      wp_walk
      subst hPI
      refine wpAny_pyIter_tuple hl1 (wpAny_bind (wpAny_runValue ?_))
      have hlS : l < s.heap.objs.size := Heap.lt_size hol
      have hh3 : A.in1.in1.in1.handled = none := by simp [hh]
      have hneI : l ≠ (s.heap.push (newSet led)).objs.size := by rw [hz1]; exact Nat.ne_of_lt (Nat.lt_succ_of_lt hlS)
      have hSf : s.heap.objs.size ∉ [(s.heap.push (newSet led)).objs.size, l] := by
        rw [hz1]
        simp only [List.mem_cons, List.not_mem_nil, or_false, not_or]
        exact ⟨Nat.ne_of_lt (Nat.lt_succ_self _), Nat.ne_of_gt hlS⟩
      have hval : ∀ (i : Nat) (v : Value), items[i]? = some v → ∃ x t, xs[i]? = some x ∧ v = .str x t := fun i v hv => by
        have hi2 : i < xs.length := by rw [hsz]; exact (Array.getElem?_eq_some_iff.mp hv).1
        obtain ⟨t, e⟩ := SS.strs_at hi i v (by rw [Array.getElem?_toList]; exact hv)
        exact ⟨xs[i], t, List.getElem?_eq_getElem hi2, by rw [e, List.getD_eq_getElem?_getD, List.getElem?_eq_getElem hi2, Option.getD_some]⟩
      refine loop_texts ((Walks.tuple hh3 _ l hneI items).toS) s.heap.objs.size hSf xs hsz (by omega) hval (items.size - 0) 0 _ (by omega) (Nat.zero_le _) ⟨⟨_, Heap.get?_push_size _ rfl, rfl, rfl⟩, (hl1.push _)⟩ ?hS0 ?hR
      case hS0 =>
        have hget : ((s.heap.push (newSet led)).push { cls := .type "tuple_iterator", data := .fields #[.ref l, .int 0 0] }).get? s.heap.objs.size = some (newSet led) := Heap.get?_push_of_some _ hS
        exact SetOf_congr ((setObjOf_fresh (knd := PySem.strKind prog w) led).setOf hget (by unfold scanBound; omega)) (fun _ => rfl) rfl
      case hR =>
        intro s' hm hS'
        obtain ⟨h', g', d', tk', os'⟩ := s'
        obtain rfl : g' = s.gens := hm.gens
        obtain rfl : d' = s.drawn := hm.drawn
        obtain rfl : os' = s.os := hm.os
        rw [← hsz] at hS'
        refine wpAny_pure (wpAny_pure ⟨rfl, h', tk', rfl, hS', fun b o e => ?_⟩)
        have hb := Heap.lt_size e
        refine hm.heap b o ?_ (Heap.get?_push_of_some _ (Heap.get?_push_of_some _ e))
        simp only [List.mem_cons, List.not_mem_nil, or_false, not_or]
        exact ⟨Nat.ne_of_lt hb, by rw [hz1]; exact Nat.ne_of_lt (Nat.lt_succ_of_lt hb)⟩
    · match r₂, hr₂ with
      | .ok (.ret r), hr₂ =>
        obtain ⟨rfl, h', tk, rfl, hS', hk'⟩ := hr₂
        repeat (any_goals (first | assumption | wp_step))
        exact h _ _ hS' hk'
      | .error e, hr₂ => exact hr₂
      | .ok .next, hr₂ => exact hr₂.elim
      | .ok .brk, hr₂ => exact hr₂.elim
      | .ok .cont, hr₂ => exact hr₂.elim
  | .error e, hr => exact hr
  | .ok .next, hr => exact hr.elim
  | .ok .brk, hr => exact hr.elim
  | .ok .cont, hr => exact hr.elim
end
section
variable {X : Cx}
/-- len(set(xs)), xs a list or a tuple of texts -/
def tLenS (K : PySem.W.Frag) (ta : TE) : TE := fun σ H Q => ta σ H fun x H1 => ∃ l, ∃ xs : Lot, x = .ref l ∧ (SqL K H1 l (xs.map V.str) ∨ SqT K H1 l (xs.map V.str)) ∧ xs.length ≤ 1000 ∧ Q (.int ((dedup xs).length : Int)) H1
theorem pe_lenS (K : PySem.W.Frag) {a : Expr} {ta : TE} {p p2 q pos : Pos} (hg : Gl X "len") (hm : X.mg "len" = none) (hg2 : Gl X "set") (hm2 : X.mg "set" = none) (ha : PE X a ta)
    (na : starEach [a] X.env = (false, eval a X.env) :: starEach [] X.env := by rfl) (hc : X.calm = true := by rfl) (hK : X.K = K := by rfl) : PE X (.Call (.Name "len" p) [.Call (.Name "set" p2) [a] [] q] [] pos) (tLenS K ta) := by
  subst hK
  refine ⟨fun pins s σ H Q I h => ?_⟩
  refine Call_ (ld_blt I hg hm boot_len (callWith_builtin1 (args_cons (Call_ (ld_blt I hg2 hm2 boot_set ?_)) rfl) rfl rfl))
  refine callWith_type1 (args_cons (thn (ha.run pins s σ H _ I h) fun v s1 ⟨x, H1, I1, r1, q1⟩ => args_nil ?_) na) na rfl
  obtain ⟨l, xs, rfl, hq, h1, q1⟩ := q1
  cases r1
  have fin : ∀ (h' : Heap) (tk : Nat), h'.SetOf (PySem.strKind X.prog X.w) s1.heap.objs.size (memI xs xs.length) (cntI xs xs.length) → (∀ b o, s1.heap.get? b = some o → h'.get? b = some o) →
      wpAny (model X.prog X.w) X.A (spliced (backTo pos (starEach [] X.env))) (fun vs s₂ => wpAny (model X.prog X.w) X.A (call (.builtin "len") (Value.ref s1.heap.objs.size :: vs)) (EP X pins σ Q) X.xe s₂) X.xe { s1 with heap := h', toks := tk } := fun h' tk hS hk => by
    refine args_nil ?_
    have hc := cntI_le xs xs.length
    have e : cntI xs xs.length = (dedup xs).length := by unfold cntI; rw [List.take_length]
    rw [← e] at q1
    obtain ⟨o, es, ep, t, ho, hex, hd, _, _, _, hf, hn⟩ := hS
    have I2 : L2.Inv X pins σ H1 { s1 with heap := h', toks := tk } := I1.kept hk
    exact call_len_set ho hex hd hf (by rw [hn] <;> omega) ⟨.int (cntI xs xs.length : Int), H1, I2.tok _, ⟨_, by rw [hn]⟩, q1⟩
  rcases hq with hq | hq
  · obtain ⟨its, r, pl, hz⟩ := I1.list hq
    exact set_of_list (I1.ok.hd hc) pl.isList (by simpa using strsAre_of r) h1 fin
  · obtain ⟨its, r, pl, hz⟩ := I1.tuple hq
    exact set_of_tuple (I1.ok.hd hc) pl (by simpa using strsAre_of r) h1 fin
end
/-- as many as there are: each once -/
theorem dedup_len {xs : Lot} : (dedup xs).length = xs.length ↔ xs.Nodup := by
  constructor
  · intro h
    by_cases q : xs.Nodup
    · exact q
    · exfalso
      have key : ∀ ys zs : Lot, zs.Nodup → (∀ x ∈ ys, x ∉ zs) ∧ ys.Nodup ∨ (ys.foldl insK zs).length < zs.length + ys.length := by
        intro ys
        induction ys with
        | nil => intro zs _; exact .inl ⟨fun x hx => (by cases hx), List.nodup_nil⟩
        | cons y ys ih =>
          intro zs nz
          have hf := fold_len ys (insK zs y)
          rw [List.foldl_cons, List.length_cons]
          by_cases hy : y ∈ zs
          · refine .inr ?_
            have e : insK zs y = zs := if_pos hy
            rw [e] at hf ⊢
            omega
          · have e : insK zs y = zs ++ [y] := if_neg hy
            rw [e]
            have nz2 : (zs ++ [y]).Nodup := by
              rw [List.nodup_append]
              exact ⟨nz, by simp, fun a ha b hb => by rw [List.mem_singleton.mp hb]; exact fun z => hy (z ▸ ha)⟩
            rcases ih (zs ++ [y]) nz2 with ⟨h1, h2⟩ | h1
            · refine .inl ⟨fun x hx => ?_, List.nodup_cons.mpr ⟨fun z => h1 y z (by simp), h2⟩⟩
              rcases List.mem_cons.mp hx with rfl | hx
              · exact hy
              · exact fun z => h1 x hx (by simp [z])
            · refine .inr ?_
              rw [List.length_append, List.length_singleton] at h1
              omega
      rcases key xs [] List.nodup_nil with ⟨_, h2⟩ | h2
      · exact q h2
      · have h2 : (dedup xs).length < 0 + xs.length := h2
        omega
  · intro h
    have p : (dedup xs).Perm xs := (List.perm_ext_iff_of_nodup (dedup_nodup xs) h).mpr fun x => dedup_mem
    exact p.length_eq
section
variable {K : PySem.W.Frag} {σ : L2.St} {G : Hp} {te : TE}
theorem ev_lenS2 {xs : Lot} (h : EvP K te σ G (rQ K rS) xs) (hz : xs.length ≤ 1000) : Ev K (tLenS K te) σ G (.int ((dedup xs).length : Int)) := fun H e Q q => h H e _ fun v G2 H2 g r => by
  obtain ⟨a, e1, h1⟩ := rQ.strs (Mo.mo (R := rQ K rS) g.kh r)
  exact ⟨a, xs, e1, h1, hz, q H2 (Gr.skip e g.hh g.kn.tb)⟩
end
end Ob
set_option maxRecDepth 100000
set_option maxHeartbeats 1000000
/-! Ki4: words for the law's own def. -/
namespace Ob
open PySem PySem.Spec PyProof.Rows L2
section
variable {K : PySem.W.Frag} {S : SA} {n m l : Nat} {σ : L2.St} {G H : Hp} {ta tb te tc : TE} {α β ι : Type} {R T : V → Hp → Prop} {D : Ends} {tz : TS}
/-- a if draw == k else b, both may draw -/
theorem es_ifD {k : Int} [MoP T] (hd : EvS K S te σ G n m (fun v _ => ∃ r : Int, v = .int r)) (h1 : EvS K S ta σ G m l T) (h2 : EvS K S tb σ G m l T) : EvS K S (tIf (tTest (tOp rEq te (tC (.int k)))) ta tb) σ G n l T := fun H e Q q =>
  hd H e _ fun v G2 H2 g s ⟨r, ev⟩ => by
    subst ev
    refine ⟨rfl, decide (V.int r = V.int k), rfl, ?_⟩
    have fin : ∀ {te : TE}, EvS K S te σ G m l T → te σ H2 Q := fun h => (h.mono g.kk) H2 s _ fun v G3 H3 g3 s3 r3 => q v G3 H3 (g.trans g3) s3 r3
    generalize decide (V.int r = V.int k) = b
    cases b with
    | true => exact iteT (fin h1)
    | false => exact iteF (fin h2)
/-- i, j = a, b through a tuple -/
theorem qs_tup2 {i j : Nat} [MoP R] [MoP T] (e : Sk K S n G H) (ha : EvS K S ta σ G n m R) (hb : EvS K S tb σ G m l T)
    (k : ∀ v w G2 H2, GrS K S G H G2 H2 → Sk K S l G2 H2 → R v G2 → T w G2 → tz D ((σ.set i (some v)).set j (some w)) H2) :
    tSeq (tAsg (tTup (tCons ta (tCons tb tNil))) (gTup K 2 (gCons (gName i) (gCons (gName j) gNil)))) tz D σ H :=
  (es_tup (ebs_cons ha (ebs_one hb)) (fun vs G2 ⟨v, r, e, _, w, e2, _⟩ => by rw [e, e2]; exact (by decide : 2 ≤ 10000000))) H e (fun v H2 => gTup K 2 (gCons (gName i) (gCons (gName j) gNil)) v σ H2 (tz D)) fun v G2 H2 g s ⟨p, vs, ev, hp, u, r, e1, r1, w, e2, r2⟩ => by
    subst ev
    rw [e1, e2] at hp
    exact ⟨p, [u, w], rfl, SqT.of (s.k.ex.t hp), rfl, u, [w], rfl, w, [], rfl, rfl, k u w G2 H2 g s r1 r2⟩
/-- i, j = a pair -/
theorem q_unpack {i j : Nat} {R' : Rp α} {S' : Rp β} {p : α × β} (e : Kn K G H) (h : EvP K te σ G (rP K R' S') p) (k : ∀ v w G2 H2, Gr K G H G2 H2 → R' p.1 v G2 → S' p.2 w G2 → tz D ((σ.set i (some v)).set j (some w)) H2) :
    tSeq (tAsg te (gTup K 2 (gCons (gName i) (gCons (gName j) gNil)))) tz D σ H :=
  h H e (fun v H2 => gTup K 2 (gCons (gName i) (gCons (gName j) gNil)) v σ H2 (tz D)) fun v G2 H2 g ⟨a, u, w, ev, hp, r1, r2⟩ => by
    subst ev
    exact ⟨a, [u, w], rfl, ex_t g.kh hp, rfl, u, [w], rfl, w, [], rfl, rfl, k u w G2 H2 g r1 r2⟩
/-- tuple(e), e may draw -/
theorem es_tupof {C : List α → Prop} {R' : Rp α} [Mo R'] (h : EvS K S te σ G n m (rEx (α := Unit) C (rL K R') ())) : EvS K S (tCB (rTupOf K) (tCons te tNil)) σ G n m (rEx (α := Unit) C (rT K R') ()) := fun H e Q q =>
  h H e _ fun v G2 H2 g s ⟨xs, hC, p, vs, e1, h1, h2⟩ => ⟨p, vs, by rw [e1], .inl ⟨ex_l s.k.ex h1, fun a ha => by
    obtain ⟨g3, s3⟩ := s.go (Gr.new (o := .tup vs) s.k ha)
    exact q (.ref a) _ _ (g.trans g3) s3 ⟨xs, hC, a, vs, rfl, SqT.of upd_same, h2.mono (Ex.new (s.k.ex.no _ ha))⟩⟩⟩
/-- a hidden list of ours grows by what may draw -/
theorem qs_app {i : Nat} {p : Addr} {ws : List V} {G0 H0 : Hp} (g0 : GrS K S G0 H0 G H) (e : Sk K S n G H) (hi : σ[i]? = some (some (.ref p))) (n1 : p ≠ S.1) (n2 : p ≠ S.2) (hp0 : msk S H0 p = none) (hp : G p = none) (hl : H p = some (.lst ws)) (hz : ws.length < 1000000) (h : EvS K S te σ G n m R)
    (k : ∀ v G2 H2, Ex G G2 → GrS K S G0 H0 G2 (upd H2 p (.lst (ws ++ [v]))) → Sk K S m G2 (upd H2 p (.lst (ws ++ [v]))) → G2 p = none → R v G2 → GrS K S G H G2 H2 → tz D σ (upd H2 p (.lst (ws ++ [v])))) : tSeq (tDrop (tBM K "list" rAppend (tVar i) (tCons te tNil))) tz D σ H :=
  ⟨.ref p, hi, .inl ⟨rfl, ws, SqL.of hl⟩, h H e _ fun v G2 H2 g s r => by
    have l2 := msk_l n1 n2 hl g
    have p2 : G2 p = none := g.sp p hp (hidden (by rw [msk_o n1 n2]; exact hl))
    obtain ⟨gm, sm⟩ := GrS.mut (o := .lst (ws ++ [v])) (g0.trans g) s p2 hp0 l2 n1 n2
    exact ⟨p, ws, v, rfl, rfl, l2, Nat.lt_of_lt_of_le hz (by decide), k v G2 H2 g.kk gm sm p2 r g⟩⟩
theorem ss_app {i : Nat} {p : Addr} {ws : List V} {G0 H0 : Hp} (g0 : GrS K S G0 H0 G H) (e : Sk K S n G H) (hi : σ[i]? = some (some (.ref p))) (n1 : p ≠ S.1) (n2 : p ≠ S.2) (hp0 : msk S H0 p = none) (hp : G p = none) (hl : H p = some (.lst ws)) (hz : ws.length < 1000000) (h : EvS K S te σ G n m R)
    (k : ∀ v G2 H2, Ex G G2 → GrS K S G0 H0 G2 (upd H2 p (.lst (ws ++ [v]))) → Sk K S m G2 (upd H2 p (.lst (ws ++ [v]))) → G2 p = none → R v G2 → GrS K S G H G2 H2 → D.nx σ (upd H2 p (.lst (ws ++ [v])))) : tDrop (tBM K "list" rAppend (tVar i) (tCons te tNil)) D σ H :=
  ⟨.ref p, hi, .inl ⟨rfl, ws, SqL.of hl⟩, h H e _ fun v G2 H2 g s r => by
    have l2 := msk_l n1 n2 hl g
    have p2 : G2 p = none := g.sp p hp (hidden (by rw [msk_o n1 n2]; exact hl))
    obtain ⟨gm, sm⟩ := GrS.mut (o := .lst (ws ++ [v])) (g0.trans g) s p2 hp0 l2 n1 n2
    exact ⟨p, ws, v, rfl, rfl, l2, Nat.lt_of_lt_of_le hz (by decide), k v G2 H2 g.kk gm sm p2 r g⟩⟩
/-- for x in [e]: one turn, which may change what e has made -/
theorem q_for1 {i : Nat} {tu : TS} {P3 : L2.St → Prop} (e : Kn K G H) (h : EvR K te σ G R)
    (turn : ∀ v p G2 H2 (X : L2.St → Hp → Prop), Gr K G H G2 H2 → R v G2 → G2 p = none → H p = none → H2 p = some (.lst [v]) → (∀ σ3 H3, P3 σ3 → Gr K G H G H3 → H3 p = some (.lst [v]) → X σ3 H3) → tu { D with nx := X, ct := X, bk := tz D } (σ.set i (some v)) H2)
    (done : ∀ σ3 H3, P3 σ3 → Gr K G H G H3 → tz D σ3 H3) : tSeq (tFor (iList K (tLst (tCons te tNil))) (gName i) tu) tz D σ H :=
  h H e _ fun v G1 H1 g1 r1 => by
    refine ⟨(by decide : 1 ≤ sizeLine), fun p hp => ⟨p, rfl, ⟨[v], SqL.of upd_same⟩, ?_⟩⟩
    have hpH : H p = none := g1.hh.no _ hp
    have hpG : G1 p = none := g1.kh.no _ hp
    have g2 : Gr K G H G1 (upd H1 p (.lst [v])) := g1.trans (Gr.skip g1.kn (Ex.new hp) (tb_new g1.kn.tb hp))
    have st : ∀ {H' : Hp}, H' p = some (.lst [v]) → SqL K H' p [v] := fun h => SqL.of h
    refine ⟨fun j m σ' H' => (j = 0 ∧ m = 1 ∧ σ' = σ ∧ H' = upd H1 p (.lst [v])) ∨ (j = 1 ∧ m = 0 ∧ P3 σ' ∧ Gr K G H G H' ∧ H' p = some (.lst [v])), ⟨1, .inl ⟨rfl, rfl, rfl, rfl⟩⟩, ?_⟩
    rintro j m σ' H' (⟨rfl, rfl, rfl, rfl⟩ | ⟨rfl, rfl, h3, g3, l3⟩)
    · refine .inr ⟨⟨[v], v, SqL.of upd_same, rfl⟩, fun σ3 H4 => P3 σ3 ∧ Gr K G H G H4 ∧ H4 p = some (.lst [v]), fun σ3 H4 h => ⟨0, by omega, .inr ⟨rfl, rfl, h⟩⟩, fun x H2 hy => ?_⟩
      obtain ⟨rfl, hx⟩ := hy
      have ex : x = v := (Option.some.inj (hx [v] (SqL.of upd_same))).symm
      subst ex
      exact turn x p G1 _ _ g2 r1 hpG hpH upd_same fun σ3 H3 h3 g3 l3 => ⟨h3, g3, l3⟩
    · exact .inl ⟨⟨[v], SqL.of l3, Nat.le_refl _⟩, done σ' H' h3 g3⟩
/-- an evaluation that raises, and may draw -/
def EsX (K : PySem.W.Frag) (S : SA) (te : TE) (E : XK) (σ : L2.St) (G : Hp) (n m : Nat) (X : Value → Option Addr → Hp → Prop) : Prop := ∀ H, Sk K S n G H → (∀ cls d G2 H2, GrS K S G H G2 H2 → Sk K S m G2 H2 → X cls d G2 → E cls d H2) → ∀ Q, te σ H Q
theorem esx_call {t : TA} {pre : ι → List V → Hp → Prop} {post : ι → Hp → V → Hp → Prop} {bad : ι → Prop} {ex : ι → Value → Option Addr → Hp → Prop} {E : XK} {A : List V → Hp → Prop} {X : Value → Option Addr → Hp → Prop} (h : EbS K S t σ G n m A)
    (hp : ∀ vs G2, Ex G G2 → A vs G2 → ∃ i, bad i ∧ pre i vs G2 ∧ ∀ cls d G3, Ex G2 G3 → ex i cls d G3 → X cls d G3) : EsX K S (tCall (SpE K pre post bad ex) [] E t) E σ G n m X := fun H e qx Q => h H e _ fun vs G2 H2 g s r => by
  rw [List.append_nil]
  obtain ⟨i, hb, h1, h2⟩ := hp vs G2 g.kk r
  exact ⟨i, G2, s.k, h1, fun nb => absurd hb nb, fun _ cls d G3 H3 g3 x => qx cls d G3 H3 (g.trans (s.go g3).1) (s.go g3).2 (h2 cls d G3 g3.kk x)⟩
/-- what met makes of it -/
def MetOk (cS cL cH : Addr) (X : Value → Option Addr → Hp → Prop) (Z : V → Hp → Prop) : Prop := ∀ cls d G2, X cls d G2 →
  (cls = .ref cS ∧ ∃ dd v, d = some dd ∧ G2 dd = some (.xd [("thing", v)]) ∧ ∀ G3 p, Ex G2 G3 → G3 p = some (.tup [.str "statement", v]) → Z (.ref p) G3) ∨
  (cls = .ref cL ∧ ∃ dd v, d = some dd ∧ G2 dd = some (.xd [("index", v)]) ∧ ∀ G3 p, Ex G2 G3 → G3 p = some (.tup [.str "lot", v]) → Z (.ref p) G3) ∨
  (cls = .ref cH ∧ ∃ dd v, d = some dd ∧ G2 dd = some (.xd [("fault", v)]) ∧ ∀ G3 p, Ex G2 G3 → G3 p = some (.tup [.str "fault", v]) → Z (.ref p) G3)
theorem ex_xd {G H : Hp} {p : Addr} {fs : List (Str × V)} (e : Ex G H) (h : G p = some (.xd fs)) : H p = some (.xd fs) := e.ob p _ h fun _ z => by cases z
theorem es_met {cS cL cH : Addr} {t : XK → TE} {X : Value → Option Addr → Hp → Prop} {Z : V → Hp → Prop} (h : ∀ E, EsX K S (t E) E σ G n m X) (hz : MetOk cS cL cH X Z) : EvS K S (tLamX K (TMet cS cL cH) t) σ G n m Z := fun H e Q q =>
  ⟨e.k.tb, fun H1 eX T1 => by
    obtain ⟨g1, s1⟩ := e.go (Gr.skip e.k eX T1)
    refine h (echMet cS cL cH Q) H1 s1 (fun cls d G2 H2 g s x => ?_) _
    have fin : ∀ {z : Str} {v : V}, (∀ G3 p, Ex G2 G3 → G3 p = some (.tup [.str z, v]) → Z (.ref p) G3) → ∀ p, H2 p = none → Q (.ref p) (upd H2 p (.tup [.str z, v])) := fun {z v} k p hp => by
      obtain ⟨g2, s2⟩ := s.go (Gr.new (o := .tup [.str z, v]) s.k hp)
      exact q (.ref p) _ _ ((g1.trans g).trans g2) s2 (k _ p (Ex.new (s.k.ex.no _ hp)) upd_same)
    rcases hz cls d G2 x with ⟨rfl, dd, v, rfl, hd, k⟩ | ⟨rfl, dd, v, rfl, hd, k⟩ | ⟨rfl, dd, v, rfl, hd, k⟩
    · exact .inl ⟨rfl, dd, v, rfl, ex_xd s.k.ex hd, fin k⟩
    · exact .inr (.inl ⟨rfl, dd, v, rfl, ex_xd s.k.ex hd, fin k⟩)
    · exact .inr (.inr ⟨rfl, dd, v, rfl, ex_xd s.k.ex hd, fin k⟩)⟩
/-- as qs_if, the ways go on alike -/
theorem qs_ifJ {t : TT} {tu : TS} {b : Bool} (Pst : L2.St → Hp → Prop) (e : Sk K S n G H) (h : EvT K t σ G b) (rest : ∀ σ' H', Pst σ' H' → tz D σ' H') (h1 : b = true → ∀ H2, GrS K S G H G H2 → Sk K S n G H2 → (∀ σ' H', Pst σ' H' → tz D σ' H') → tu { D with nx := tz D } σ H2) (h2 : b = false → ∀ H2, GrS K S G H G H2 → Sk K S n G H2 → Pst σ H2) : tSeq (tIfS t tu tNext) tz D σ H :=
  qs_if e h (fun hb H2 g s => h1 hb H2 g s rest) fun hb H2 g s => rest σ H2 (h2 hb H2 g s)
end
/-! ### what met tells -/
inductive Met
  | lot (n : Int)
  | stm (v : V)
  | flt (p : Str × Str × Str)
def rMt (K : PySem.W.Frag) : Rp Met := fun x v H => match x with
  | .lot n => ∃ a, v = .ref a ∧ H a = some (.tup [.str "lot", .int n])
  | .stm w => ∃ a, v = .ref a ∧ H a = some (.tup [.str "statement", w]) ∧ Sm K 1 w w H
  | .flt p => ∃ a u, v = .ref a ∧ H a = some (.tup [.str "fault", u]) ∧ rP3 K rS rS rS p u H
instance {K : PySem.W.Frag} : Mo (rMt K) := ⟨fun {x v H H'} e h => by
  cases x with
  | lot n => exact let ⟨a, h1, h2⟩ := h; ⟨a, h1, e.t h2⟩
  | stm w => exact let ⟨a, h1, h2, h3⟩ := h; ⟨a, h1, e.t h2, MoS.mo e h3⟩
  | flt p => exact let ⟨a, u, h1, h2, h3⟩ := h; ⟨a, u, h1, e.t h2, Mo.mo (R := rP3 K rS rS rS) e h3⟩⟩
instance {K : PySem.W.Frag} : Sa K (rMt K) (rMt K) okT 2 := ⟨fun {x v w H} _ h1 h2 => by
  cases x with
  | lot n =>
    obtain ⟨a, rfl, ha⟩ := h1
    obtain ⟨b, rfl, hb⟩ := h2
    exact .inr (.inl ⟨a, b, _, _, rfl, rfl, .inr ⟨SqT.of ha, SqT.of hb⟩, (by decide : 2 ≤ 10000), .cons (sm_leaf (.str _) 1) (.cons (sm_leaf (.int _) 1) .nil)⟩)
  | stm w =>
    obtain ⟨a, rfl, ha, h3⟩ := h1
    obtain ⟨b, rfl, hb, _⟩ := h2
    exact .inr (.inl ⟨a, b, _, _, rfl, rfl, .inr ⟨SqT.of ha, SqT.of hb⟩, (by decide : 2 ≤ 10000), .cons (sm_leaf (.str _) 1) (.cons h3 .nil)⟩)
  | flt p =>
    obtain ⟨a, u, rfl, ha, h3⟩ := h1
    obtain ⟨b, u2, rfl, hb, h4⟩ := h2
    exact .inr (.inl ⟨a, b, _, _, rfl, rfl, .inr ⟨SqT.of ha, SqT.of hb⟩, (by decide : 2 ≤ 10000), .cons (sm_leaf (.str _) 1) (.cons (Sa.sa (K := K) (R := rP3 K rS rS rS) (S := rP3 K rS rS rS) (k := 1) (ok := ok3 (okT (α := Str))) (x := p) trivial h3 h4) .nil)⟩)⟩
theorem met_thing {K : PySem.W.Frag} {cS cL cH : Addr} {w : V} {X : Value → Option Addr → Hp → Prop} (h : ∀ cls d G, X cls d G → ExIs cS "thing" rV w cls d G ∧ Sm K 1 w w G) : MetOk cS cL cH X (rMt K (.stm w)) := fun cls d G hx => by
  obtain ⟨⟨rfl, dd, y, rfl, hd, hy⟩, hs⟩ := h cls d G hx
  have hy : y = w := hy
  subst hy
  exact .inl ⟨rfl, dd, y, rfl, hd, fun G3 p e hp => ⟨p, rfl, hp, MoS.mo e hs⟩⟩
theorem met_index {K : PySem.W.Frag} {cS cL cH : Addr} {n : Int} {X : Value → Option Addr → Hp → Prop} (h : ∀ cls d G, X cls d G → ExIs cL "index" rI n cls d G) : MetOk cS cL cH X (rMt K (.lot n)) := fun cls d G hx => by
  obtain ⟨rfl, dd, y, rfl, hd, hy⟩ := h cls d G hx
  have hy : y = .int n := hy
  subst hy
  exact .inr (.inl ⟨rfl, dd, _, rfl, hd, fun G3 p e hp => ⟨p, rfl, hp⟩⟩)
theorem met_fault {K : PySem.W.Frag} {cS cL cH : Addr} {q : Str × Str × Str} {X : Value → Option Addr → Hp → Prop} (h : ∀ cls d G, X cls d G → ExIs cH "fault" (rP3 K rS rS rS) q cls d G) : MetOk cS cL cH X (rMt K (.flt q)) := fun cls d G hx => by
  obtain ⟨rfl, dd, y, rfl, hd, hy⟩ := h cls d G hx
  exact .inr (.inr ⟨rfl, dd, y, rfl, hd, fun G3 p e hp => ⟨p, y, rfl, hp, Mo.mo (R := rP3 K rS rS rS) e hy⟩⟩)
/-- a pair with its word -/
theorem er_tag {K : PySem.W.Frag} {σ : L2.St} {G : Hp} {te : TE} {z : Str} {R : V → Hp → Prop} [MoP R] {x : Met} (h : EvR K te σ G R) (f : ∀ v p G2, R v G2 → G2 p = some (.tup [.str z, v]) → rMt K x (.ref p) G2) : EvP K (tTup (tCons (tC (.str z)) (tCons te tNil))) σ G (rMt K) x :=
  (er_tup (eb_cons (R := fun v _ => v = .str z) (er_c rfl) (eb_one h)) (fun vs G2 ⟨v, r, e, _, w, e2, _⟩ => by rw [e, e2]; exact (by decide : 2 ≤ 10000000))).imp fun v G2 _ ⟨p, vs, ev, hp, u, r, e1, r1, w, e2, r2⟩ => by
    have r1 : u = .str z := r1
    subst ev
    exact f w p G2 r2 (by rw [hp, e1, e2, r1])
/-! ### where a lot goes wrong -/
theorem bad_uniq {S : Lot} {els : List El} {n m : Nat} (h1 : BadAt S els n) (h2 : BadAt S els m) : n = m := by
  rcases Nat.lt_trichotomy n m with h | h | h
  · exact absurd (h2.2.1 n h) h1.2.2
  · exact h
  · exact absurd (h1.2.1 m h) h2.2.2
theorem bad_mid {S l : Lot} {o : El} {r : List El} {k : Nat} (hk : k ≤ l.length) (hn : l.Nodup) (hin : ∀ x ∈ l, x ∈ S) (ho : ∀ x, o = some x → x ∉ S) : BadAt S (((l.map some).take k ++ o :: r) ++ (l.map some).drop k) k := by
  have hl : ((l.map some).take k).length = k := by rw [List.length_take, List.length_map]; omega
  have at_ : ∀ j, j < k → (((l.map some).take k ++ o :: r) ++ (l.map some).drop k)[j]? = (l.map some)[j]? := fun j hj => by
    rw [List.append_assoc, List.getElem?_append_left (by omega), List.getElem?_take_of_lt hj]
  refine ⟨by simp only [List.length_append, List.length_cons]; omega, fun j hj => ?_, fun ⟨x, h1, h2, _⟩ => ?_⟩
  · have hjl : j < l.length := by omega
    refine ⟨l[j], by rw [at_ j hj, List.getElem?_map, List.getElem?_eq_getElem hjl]; rfl, hin _ (List.getElem_mem hjl), ?_⟩
    rw [List.append_assoc, List.take_append_of_le_length (by omega), List.take_take, Nat.min_eq_left (by omega), ← List.map_take]
    intro z
    obtain ⟨y, hy, e⟩ := List.mem_map.mp z
    have e : y = l[j] := Option.some.inj e
    obtain ⟨i, hi, e2⟩ := List.mem_iff_getElem.mp hy
    have hij : i < j := by
      rw [List.length_take] at hi
      omega
    rw [List.getElem_take] at e2
    rw [e] at e2
    exact List.pairwise_iff_getElem.mp hn i j (by omega) hjl hij e2
  · have h3 : (((l.map some).take k ++ o :: r) ++ (l.map some).drop k)[k]? = some o := by
      rw [List.append_assoc, List.getElem?_append_right (by omega), hl, Nat.sub_self]
      rfl
    rw [h3] at h1
    exact ho x (Option.some.inj h1) h2
end Ob
set_option maxRecDepth 100000
set_option maxHeartbeats 4000000
/-! Ki5: the law's own def. -/
namespace Ob
open PySem PySem.Spec PyProof.Rows L2
theorem tkLam {X : Cx} {A : Around} {outer : List Env} {s : Shared} {H : Hp} {E : XK} {scope : Scope} {f c' : Addr} : Takes (LamX.lamCx X A outer s H E scope f c') (fun cls d _ H => E cls d H) := takes_of rfl rfl rfl rfl
/-- only texts in it -/
def strsTg : Thg → Bool
  | .seq els => els.all fun o => o.isSome
  | .odd => false
theorem all_some : ∀ {els : List El}, (els.all fun o => o.isSome) = true → ∃ zs : Lot, els = zs.map some
  | [], _ => ⟨[], rfl⟩
  | o :: els, h => by
    rw [List.all_cons, Bool.and_eq_true] at h
    obtain ⟨zs, rfl⟩ := all_some h.2
    cases o with
    | none => cases h.1
    | some x => exact ⟨x :: zs, rfl⟩
theorem strs_some {els : List El} (h : ((Thg.seq els).isSeq && strsTg (.seq els)) = true) : ∃ zs : Lot, Thg.seq els = .seq (zs.map some) := by
  obtain ⟨zs, rfl⟩ := all_some (els := els) (by simpa [Thg.isSeq, strsTg] using h)
  exact ⟨zs, rfl⟩
theorem strs_none {els : List El} (h : ((Thg.seq els).isSeq && strsTg (.seq els)) = false) : none ∈ els := by
  have h : (els.all fun o => o.isSome) = false := by simpa [Thg.isSeq, strsTg] using h
  rw [List.all_eq_false] at h
  obtain ⟨o, ho, hn⟩ := h
  cases o with
  | none => exact ho
  | some x => simp at hn
theorem unsure_small {N l : Lot} {ps : List Pr} (hm : ∀ l ∈ heldsL N ps, l.length ≤ 8) : ∀ z, unsureL ps l (heldsL N ps) = some z → z.2.2.length ≤ 8 := by
  intro z h
  unfold unsureL at h
  obtain ⟨x, _, h2⟩ := List.exists_of_findSome?_eq_some h
  unfold unsureAt at h2
  obtain ⟨o, _, h3⟩ := List.exists_of_findSome?_eq_some h2
  obtain ⟨m, h4, rfl⟩ := Option.map_eq_some_iff.mp h3
  exact hm m (smallest_in h4)
def rStm (K : PySem.W.Frag) (w : V) : V → Hp → Prop := fun v G => v = w ∧ Sm K 1 w w G
instance {K : PySem.W.Frag} {w : V} : MoP (rStm K w) := ⟨fun e h => ⟨h.1, MoS.mo e h.2⟩⟩
theorem odd4 {t : Thg} (h : t ∈ [Thg.odd, .odd, .odd, .odd]) : t = .odd := by
  simp only [List.mem_cons, List.not_mem_nil, or_false, or_self] at h
  exact h
/-- x in xs, of lots -/
theorem ev_inG' {K : PySem.W.Frag} {σ : L2.St} {G : Hp} {ta tb : TE} {x : Lot} {ys : List Lot} [DecidableEq Lot] (ha : EvP K ta σ G (rL K rS) x) (hb : EvP K tb σ G (rMs K) ys) : Ev K (tOp (rInD K) ta tb) σ G (.bl (decide (x ∈ ys))) := by
  refine ev_is (ev_inG (R := rL K rS) (R2 := rM rS) (by decide) ha hb) ?_
  congr 1
  by_cases h : x ∈ ys
  · simp [h]
  · simp [h]
section
variable {P : Program} {w : World} {K : PySem.W.Frag} {mg : Str → Option Value} {base : Heap} {cL cS cH cD : Addr}
theorem tab_law (B : Tbx K mg base) : ((He.cT K ("law", none)).2, ("law.<locals>.<lambda>" : Str)) ∈ tabs K := by simp [tabs]
theorem tab_law_u (B : Tbx K mg base) : ∀ p ∈ tabs K, p.1 = (He.cT K ("law", none)).2 → p.2 = ("law.<locals>.<lambda>" : Str) := fun p hp e => by
  rcases List.mem_cons.mp hp with rfl | hp
  · rfl
  · rw [List.mem_singleton.mp hp] at e
    exact absurd e.symm B.ne
abbrev N_law : List Str := ["_law_script", "_law_stream", "_law_some", "_law_names", "_law_pairs", "_law_made", "_law_held", "_law_lot", "_law_sure", "_law_one", "_law_due", "_law_thing", "_law_passed", "_law_told", "_law_odd", "_law_fault", "_law_at", "_law_found", "_law_turn"]
theorem sc_law : FnScope N_law ["_law_script"] (defScope s_law) := ⟨rfl, rfl, rfl, by decide +kernel, rfl, by decide +kernel, by decide +kernel⟩
def spLaw (K : PySem.W.Frag) : Sp := fun vs H Q _ => ∃ G xs a, vs = [a] ∧ Kn K G H ∧ rL K rI xs a G ∧ xs.length ≤ 1000 ∧ ∀ H2, Q (.bl true) H2
theorem ok_law (T : Txt K mg) (B : Tbx K mg base) (Er : Errs K mg cL cS cH) (Wy : Ways K mg) (Nm : Small mg) (Dm : DebMk K mg cD) {f : Addr} {oc dV kV doc pm ct : Value} {od an : Option Addr} {osl : Array (Option Value)}
    (lk : K.lookup f = some ⟨oc, od, .func (PySem.W.fnOf "law" "law" (defArgs s_law) (defBody s_law) (defScope s_law) dV kV doc pm an (.ref (He.cT K ("law", none)).1) ct), osl⟩) (hcd : PySem.W.codeIn K (.ref (He.cT K ("law", none)).1) "law" = true) :
    FnOk P w K mg base CX0 12 f (PySem.W.fnOf "law" "law" (defArgs s_law) (defBody s_law) (defScope s_law) dV kV doc pm an (.ref (He.cT K ("law", none)).1) ct) ["_law_script"] (spLaw K) := by
  obtain ⟨fM, fdM, FM, gM⟩ := T.g_l_met.ex
  have bM := FM.bindsN (ps := ["_law_ask"]) fun _ _ _ _ _ _ us hl => match us, hl with | [_], _ => rfl
  obtain ⟨⟨ocM, odM, dVM, kVM, docM, pmM, anM, cdvM, ctM, oslM, rfl, lkM, hcM, _, _⟩, kM⟩ := FM
  refine fn_of (k := 11) lk hcd sc_law (fun vs H Q E ⟨_, _, _, e, _⟩ => by rw [e]; rfl) (fun A outer s H vs Q E hr h => ?_)
  obtain ⟨G, xs, a, rfl, eG, hx, hz, q⟩ := h
  have hrL := hr
  refine ⟨_, (pss_cons (ps_set (i := 1) sc_law.nd rfl (by first | exact Or.inl rfl | exact Or.inr rfl) (pe_cal (cal_l_start T) (hr.mono (by decide)) (by rfl) pass0 (pa_cons (pv 0) pa_nil))) (pss_cons (ps_for (g := gName 18) (passes_of rfl) rfl (pi_range1 (by rfl) T.m_range (pa_cons pe_int pa_nil)) (pg_name (i := 18) sc_law.nd rfl (by first | exact Or.inl rfl | exact Or.inr rfl)) (pss_cons (ps_set (i := 2) sc_law.nd rfl (by first | exact Or.inl rfl | exact Or.inr rfl) (pe_ifExp (pt_cmpR op_eq (pe_cal (cal_l_draw T) (hr.mono (by decide)) (by rfl) pass0 (pa_cons (pv 1) (pa_cons pe_int pa_nil))) pe_int (nomark _)) (pe_cal (cal_l_floating T) (hr.mono (by decide)) (by rfl) pass0 (pa_cons (pv 1) pa_nil)) (pe_cal (cal_l_z_debate T) (hr.mono (by decide)) (by rfl) pass0 (pa_cons (pv 1) (pa_cons pe_int pa_nil))))) (pss_cons (ps_asg (g := gTup K 2 (gCons (gName 3) (gCons (gName 4) gNil))) (pv 2) (xgtup K (pgs_cons (pg_name (i := 3) sc_law.nd rfl (by first | exact Or.inl rfl | exact Or.inr rfl)) (pgs_cons (pg_name (i := 4) sc_law.nd rfl (by first | exact Or.inl rfl | exact Or.inr rfl)) pgs_nil)))) (pss_cons (ps_asg (g := gTup K 2 (gCons (gName 5) (gCons (gName 6) gNil))) (pe_tup (pa_cons (pe_cal (cal_l_z_made T Nm Dm) (hr.mono (by decide)) (by rfl) pass0 (pa_cons (pv 1) (pa_cons (pv 2) pa_nil))) (pa_cons (pe_cal (cal_l_d_lots T) (hr.mono (by decide)) (by rfl) pass0 (pa_cons (pv 3) (pa_cons (pv 4) (pa_cons pe_str pa_nil)))) pa_nil))) (xgtup K (pgs_cons (pg_name (i := 5) sc_law.nd rfl (by first | exact Or.inl rfl | exact Or.inr rfl)) (pgs_cons (pg_name (i := 6) sc_law.nd rfl (by first | exact Or.inl rfl | exact Or.inr rfl)) pgs_nil)))) (pss_cons (ps_setLc (i := 8) (own := [("_law_lot", 7)]) (g := gName 7) rfl sc_law.nd rfl rfl (sw_true rfl rfl rfl (by decide +kernel)) (xlist K (pv 6)) (blkOk_by (own := [("_law_lot", 7)]) (N := N_law) (by kernel_rfl)) (fun _ _ _ _ _ => pg_name (i := 7) sc_law.nd rfl (by first | exact Or.inl rfl | exact Or.inr rfl)) (fun _ _ _ _ _ => pts_one (pt_cmpR op_isN (pe_cal (cal_l_unsure T) (hr.mono (by decide)) (by rfl) pass0 (pa_cons (pv 4) (pa_cons (pv 7) (pa_cons (pv 6) pa_nil)))) pe_non (nomark _))) (fun _ _ _ _ _ => (pv 7))) (pss_cons (ps_if (PW.pt (pw_or (pt_not (pt_val (pe_cal (cal_l_lots_right T) (hr.mono (by decide)) (by rfl) pass0 (pa_cons (pv 5) (pa_cons (pv 3) (pa_cons (pv 4) (pa_cons (pv 6) (pa_cons (pv 8) pa_nil)))))))) (pw_or1 (pt_not (pt_val (pe_cal (cal_l_names_right T B Er) (hr.mono (by decide)) (by rfl) pass0 (pa_cons (pv 5) (pa_cons (pv 3) (pa_cons (pv 4) (pa_cons (pv 6) (pa_cons (pv 8) pa_nil))))))))))) (pss_one (ps_ret pe_bl)) pss_nil) (pss_cons (ps_for (g := gName 11) (passes_of rfl) rfl (xlist K (pe_cal (cal_l_things T) (hr.mono (by decide)) (by rfl) pass0 (pa_cons (pv 1) (pa_cons (pv 3) (pa_cons (pv 8) pa_nil))))) (pg_name (i := 11) sc_law.nd rfl (by first | exact Or.inl rfl | exact Or.inr rfl)) (pss_cons (ps_set (i := 10) sc_law.nd rfl (by first | exact Or.inl rfl | exact Or.inr rfl) (pe_and (pe_callB (xisiT K) (by rfl) T.m_isinstance boot_isinstance (pa_cons (pv 11) (pa_cons (pe_tup (pa_cons (pe_bltn (v := .ty "list") (by rfl) T.m_list (by decide +kernel) rfl) (pa_cons (pe_bltn (v := .ty "tuple") (by rfl) T.m_tuple (by decide +kernel) rfl) pa_nil))) pa_nil))) (pe_one (pe_callB (xall K) (by rfl) T.m_all boot_all (pa_cons (pe_lc (own := [("_law_one", 9)]) (g := gName 9) rfl sc_law.nd (PI.or (xlist K (pv 11)) (xtup K (pv 11))) (blkOk_by (own := [("_law_one", 9)]) (N := N_law) (by kernel_rfl)) (fun _ _ _ _ _ => pg_name (i := 9) sc_law.nd rfl (by first | exact Or.inl rfl | exact Or.inr rfl)) (fun _ _ _ _ _ => pts_nil) (fun _ _ _ _ _ => (pe_callB (xisi K) (by rfl) T.m_isinstance boot_isinstance (pa_cons (pv 9) (pa_cons (pe_bltn (v := .ty "str") (by rfl) T.m_str (by decide +kernel) rfl) pa_nil))))) pa_nil))))) (pss_cons (ps_set (i := 10) sc_law.nd rfl (by first | exact Or.inl rfl | exact Or.inr rfl) (pe_and (pv 10) (pe_and (pe_cmpR op_eq (pe_lenS K (by rfl) T.m_len (by rfl) T.m_set (pv 11)) (pe_callB (xlen K) (by rfl) T.m_len PySem.boot_len (pa_cons (pv 11) pa_nil)) (nomark _)) (pe_one (pe_cmpR (xinD K hr.u65) (pe_callB (xsort K rS hr.units) (by rfl) T.m_sorted boot_sorted (pa_cons (pv 11) pa_nil)) (pv 8) (by rfl)))))) (pss_one (ps_if (pt_not (pt_val (pe_cal (cal_same T 3) (hr.mono (by decide)) (by rfl) pass0 (pa_cons (pe_cal (cal_is_sure T Wy) (hr.mono (by decide)) (by rfl) pass0 (pa_cons (pv 5) (pa_cons (pv 11) pa_nil))) (pa_cons (pv 10) pa_nil))))) (pss_one (ps_ret pe_bl)) pss_nil))))) (pss_cons (ps_for (g := gName 7) (passes_of rfl) rfl (xlist K (pv 6)) (pg_name (i := 7) sc_law.nd rfl (by first | exact Or.inl rfl | exact Or.inr rfl)) (pss_cons (ps_par (i := 10) (j := 12) rfl sc_law.nd rfl rfl  (by decide) rfl rfl  (pa_cons (pe_cal (cal_l_unsure T) (hr.mono (by decide)) (by rfl) pass0 (pa_cons (pv 4) (pa_cons (pv 7) (pa_cons (pv 6) pa_nil)))) (pa_cons (pe_callTy (xtupof K) (by rfl) T.m_tuple (by decide +kernel) (pa_cons (pe_cal (cal_l_mixed T rS) (hr.mono (by decide)) (by rfl) pass0 (pa_cons (pv 1) (pa_cons (pv 7) pa_nil))) pa_nil)) pa_nil)) rfl) (pss_cons (ps_for (g := gName 13) (passes_of rfl) rfl (xlist K (pe_lst (pa_cons (pe_cal (E := E0) (cal_why_unsure T Er) (hr.mono (by decide)) (by rfl) passL (pa_cons (pv 5) (pa_cons (pv 12) pa_nil))) pa_nil))) (pg_name (i := 13) sc_law.nd rfl (by first | exact Or.inl rfl | exact Or.inr rfl)) (pss_cons (ps_if (pt_not (pt_val (pe_cal (cal_same T 3) (hr.mono (by decide)) (by rfl) pass0 (pa_cons (pe_lst (pa_cons (pv 13) pa_nil)) (pa_cons (pe_lst (pa_cons (pv 10) pa_nil)) pa_nil))))) (pss_one (ps_ret pe_bl)) pss_nil) (pss_one (ps_if (pt_cmpR op_notN (pv 13) pe_non (nomark _)) (pss_one (ps_expr (pe_bm PySem.F.plainAttrs_list PySem.F.slot_list_append PySem.F.type_list_append mt_append (pe_ix (xixT K) (pv 13) pe_int (fun _ _ => rfl)) (pa_cons pe_str pa_nil)))) pss_nil)))) (pss_one (ps_if (pt_not (pt_val (pe_cal (cal_same T 3) (hr.mono (by decide)) (by rfl) pass0 (pa_cons (pe_lst (pa_cons (pe_cal (E := E0) (cal_why_unsure T Er) (hr.mono (by decide)) (by rfl) passL (pa_cons (pv 5) (pa_cons (pv 12) pa_nil))) pa_nil)) (pa_cons (pe_lst (pa_cons (pv 10) pa_nil)) pa_nil))))) (pss_one (ps_ret pe_bl)) pss_nil))))) (pss_cons (ps_asg (g := gTup K 2 (gCons (gName 7) (gCons (gName 14) gNil))) (pe_tup (pa_cons (pe_cal (cal_l_pick T (rM rS)) (hr.mono (by decide)) (by rfl) pass0 (pa_cons (pv 1) (pa_cons (pe_cal (cal_l_d_subsets T) (hr.mono (by decide)) (by rfl) pass0 (pa_cons (pv 3) pa_nil)) pa_nil))) (pa_cons (pe_cal (cal_l_z_odd_name T) (hr.mono (by decide)) (by rfl) pass0 (pa_cons (pv 1) pa_nil)) pa_nil))) (xgtup K (pgs_cons (pg_name (i := 7) sc_law.nd rfl (by first | exact Or.inl rfl | exact Or.inr rfl)) (pgs_cons (pg_name (i := 14) sc_law.nd rfl (by first | exact Or.inl rfl | exact Or.inr rfl)) pgs_nil)))) (pss_cons (ps_asg (g := gTup K 2 (gCons (gName 15) (gCons (gName 16) gNil))) (pe_tup (pa_cons (pe_cal (cal_fault_of T Er Wy) (hr.mono (by decide)) (by rfl) pass0 (pa_cons (pv 5) (pa_cons pe_str (pa_cons (pv 7) pa_nil)))) (pa_cons (pe_cal (cal_l_draw T) (hr.mono (by decide)) (by rfl) pass0 (pa_cons (pv 1) (pa_cons (pe_op op_add (pe_callB (xlen K) (by rfl) T.m_len PySem.boot_len (pa_cons (pv 7) pa_nil)) pe_int) pa_nil))) pa_nil))) (xgtup K (pgs_cons (pg_name (i := 15) sc_law.nd rfl (by first | exact Or.inl rfl | exact Or.inr rfl)) (pgs_cons (pg_name (i := 16) sc_law.nd rfl (by first | exact Or.inl rfl | exact Or.inr rfl)) pgs_nil)))) (pss_cons (ps_set (i := 17) sc_law.nd rfl (by first | exact Or.inl rfl | exact Or.inr rfl) (pe_lst (pa_cons (pe_lamcallX K (TT := TMet cS cL cH) (by rfl) gM kM lkM hcM bM sc_l_met rfl (Or.inl rfl) (met_gives Er) B.law rfl (tab_law B) (tab_law_u B) hrL (LamX.lamS_by (by kernel_rfl)) (by rfl) (by intros; rfl) (fun A2 outer2 s2 H2 E2 f2 c2 hr2 => (pe_cal (E := E2) (cal_why_unsure T Er) (hr2.mono (by decide)) (by rfl) (passes_call tkLam fun _ _ _ _ h => h) (pa_cons (pv 5) (pa_cons (pe_op op_cat (pe_op op_cat (pe_slice (xslL K) (pv 7) po_none (po_some (pv 16))) (pe_lst (pa_cons (pv 14) (pa_cons pe_non pa_nil)))) (pe_slice (xslL K) (pv 7) (po_some (pv 16)) po_none)) pa_nil))))) pa_nil))) (pss_cons (ps_expr (pe_bm PySem.F.plainAttrs_list PySem.F.slot_list_append PySem.F.type_list_append mt_append (pv 17) (pa_cons (pe_lamcallX K (TT := TMet cS cL cH) (by rfl) gM kM lkM hcM bM sc_l_met rfl (Or.inl rfl) (met_gives Er) B.law rfl (tab_law B) (tab_law_u B) hrL (LamX.lamS_by (by kernel_rfl)) (by rfl) (by intros; rfl) (fun A2 outer2 s2 H2 E2 f2 c2 hr2 => (pe_cal (E := E2) (cal_why_unsure T Er) (hr2.mono (by decide)) (by rfl) (passes_call tkLam fun _ _ _ _ h => h) (pa_cons (pv 5) (pa_cons (pe_cal (cal_l_pick T (rTg K)) (hr2.mono (by decide)) (by rfl) pass0 (pa_cons (pv 1) (pa_cons (pe_lst (pa_cons pe_non (pa_cons pe_int (pa_cons pe_dnewK (pa_cons pe_bl pa_nil))))) pa_nil))) pa_nil))))) pa_nil))) (pss_cons (ps_expr (pe_bm PySem.F.plainAttrs_list PySem.F.slot_list_append PySem.F.type_list_append mt_append (pv 17) (pa_cons (pe_lamcallX K (TT := TMet cS cL cH) (by rfl) gM kM lkM hcM bM sc_l_met rfl (Or.inl rfl) (met_gives Er) B.law rfl (tab_law B) (tab_law_u B) hrL (LamX.lamS_by (by kernel_rfl)) (by rfl) (by intros; rfl) (fun A2 outer2 s2 H2 E2 f2 c2 hr2 => (pe_cal (E := E2) (cal_lacking_lot T B Er) (hr2.mono (by decide)) (by rfl) (passes_call tkLam fun _ _ _ _ h => h) (pa_cons (pv 5) (pa_cons (pv 14) pa_nil))))) pa_nil))) (pss_cons (ps_expr (pe_bm PySem.F.plainAttrs_list PySem.F.slot_list_append PySem.F.type_list_append mt_append (pv 17) (pa_cons (pe_lamcallX K (TT := TMet cS cL cH) (by rfl) gM kM lkM hcM bM sc_l_met rfl (Or.inl rfl) (met_gives Er) B.law rfl (tab_law B) (tab_law_u B) hrL (LamX.lamS_by (by kernel_rfl)) (by rfl) (by intros; rfl) (fun A2 outer2 s2 H2 E2 f2 c2 hr2 => (pe_cal (E := E2) (cal_sure_paper T Er) (hr2.mono (by decide)) (by rfl) (passes_call tkLam fun _ _ _ _ h => h) (pa_cons (pv 5) (pa_cons (pv 14) pa_nil))))) pa_nil))) (pss_cons (ps_set (i := 10) sc_law.nd rfl (by first | exact Or.inl rfl | exact Or.inr rfl) (pe_lst (pa_cons (pe_tup (pa_cons pe_str (pa_cons (pv 16) pa_nil))) (pa_cons (pe_tup (pa_cons pe_str (pa_cons pe_int pa_nil))) (pa_cons (pe_tup (pa_cons pe_str (pa_cons (pv 14) pa_nil))) (pa_cons (pe_tup (pa_cons pe_str (pa_cons (pv 14) pa_nil))) pa_nil)))))) (pss_cons (ps_if (pt_cmpR op_notN (pv 15) pe_non (nomark _)) (pss_cons (ps_expr (pe_bm PySem.F.plainAttrs_list PySem.F.slot_list_append PySem.F.type_list_append mt_append (pv 17) (pa_cons (pe_lamcallX K (TT := TMet cS cL cH) (by rfl) gM kM lkM hcM bM sc_l_met rfl (Or.inl rfl) (met_gives Er) B.law rfl (tab_law B) (tab_law_u B) hrL (LamX.lamS_by (by kernel_rfl)) (by rfl) (by intros; rfl) (fun A2 outer2 s2 H2 E2 f2 c2 hr2 => (pe_cal (E := E2) (cal_why_unsure T Er) (hr2.mono (by decide)) (by rfl) (passes_call tkLam fun _ _ _ _ h => h) (pa_cons (pv 5) (pa_cons (pv 7) pa_nil))))) pa_nil))) (pss_one (ps_expr (pe_bm PySem.F.plainAttrs_list PySem.F.slot_list_append PySem.F.type_list_append mt_append (pv 10) (pa_cons (pe_tup (pa_cons pe_str (pa_cons (pv 15) pa_nil))) pa_nil))))) pss_nil) (pss_one (ps_if (pt_not (pt_val (pe_cal (cal_same T 3) (hr.mono (by decide)) (by rfl) pass0 (pa_cons (pv 17) (pa_cons (pv 10) pa_nil))))) (pss_one (ps_ret pe_bl)) pss_nil)))))))))))))))))) (pss_one (ps_ret pe_bl)))), ?_⟩
  have sokH : PyData.strOk ("held" : Str) = true := by decide +kernel
  refine ⟨a, rfl, G, xs, a, rfl, eG, hx, hz, fun S H1 g1 s1 => ?_⟩
  refine qs_for (K := K) (S := S) (n := 0) (m := 0) (G := G) (R := rI) (xs := (List.range 4).map fun (k : Nat) => (k : Int)) s1 (ews_of (ew_range (n := 4) eb_four (by decide))) (fun i σ' G' H' => ∃ x2 x3 x4 x5 x6 x7 x8 x9 x10 x11 x12 x13 x14 x15 x16 x17 x18, σ' = [some a, some (.ref S.1), x2, x3, x4, x5, x6, x7, x8, x9, x10, x11, x12, x13, x14, x15, x16, x17, x18]) (fun i => 20000 * i) (fun i => by omega) (fun G2 H2 g s => ⟨s.st, ⟨_, _, _, _, _, _, _, _, _, _, _, _, _, _, _, _, _, rfl⟩⟩) ?_ fun σ' G' H' ⟨x2, x3, x4, x5, x6, x7, x8, x9, x10, x11, x12, x13, x14, x15, x16, x17, x18, hσ⟩ _ s' => ?_
  · rintro i z x σ' G' H' G2 H2 ex ⟨x2, x3, x4, x5, x6, x7, x8, x9, x10, x11, x12, x13, x14, x15, x16, x17, x18, rfl⟩ e1 s0 g2 s2 rz
    have hi : i < 4 := by have := (List.getElem?_eq_some_iff.mp ex).1; simpa using this
    obtain ⟨n, hn⟩ : ∃ n, n = 20000 * i := ⟨_, rfl⟩
    have s2 : Sk K S n G2 H2 := by rw [hn]; exact s2
    -- a debate
    refine qs_asg (m := n + 1101) (R := rEx (α := Unit) DrawnD (rZ K) ()) s2 (es_ifD (m := n + 1) ((es_draw (many := 3) rfl ev_c (by decide) (by decide) (by omega)).imp fun _ _ _ ⟨r, h, _⟩ => ⟨r, h⟩) (es_call () rfl ebs_nil (by show n + 1 + 1100 = _; omega) (by omega) (fun vs G2 _ h => h) fun Gc v G2 _ p => p) (es_call () rfl (ebs_of (eb_one (R := fun v _ => v = .int 7) (er_c rfl))) (by show n + 1 + 1100 = _; omega) (by omega) (fun vs G2 _ ⟨v, e, ev⟩ => by show vs = _; rw [e, show v = _ from ev]) fun Gc v G2 _ p => p)) fun v2 G3 H3 g3 s3 ⟨⟨N, ps⟩, dr, rz⟩ => ?_
    have good : GoodD N ps := dr.good
    have pos : 0 < N.length := dr.pos
    have nl := good.nl
    have pl := good.pl
    have nn := good.nn
    have pn := good.pn
    have ok := good.okd
    have hl := heldsL_len (P := ps) nl
    have sl := sureL_len (P := ps) nl
    have sm := sureL_small (P := ps) nl
    have hm : ∀ l ∈ heldsL N ps, l.length ≤ 8 := fun l hl => Nat.le_trans (heldsL_small hl) nl
    have spos : 0 < (sureL N ps).length := List.length_pos_of_mem (top_in nn)
    refine q_unpack (R' := rM rS) (S' := rM (rP K rS rS)) (p := (N, ps)) s3.k (er_var rfl rz) fun v3 v4 G4 H4 g4 r3 r4 => ?_
    obtain ⟨g4, s4⟩ := s3.go g4
    have r3 : rM rS N v3 G4 := r3
    have r4 : rM (rP K rS rS) ps v4 G4 := r4
    have rzL : rP K (rL K rS) (rPs K) (N, ps) v2 G4 := by
      obtain ⟨p, u, w, k1, k2, k3, k4⟩ := Mo.mo (R := rZ K) g4.kk rz
      exact ⟨p, u, w, k1, k2, rM.l k3, rM.l k4⟩
    refine qs_tup2 (m := n + 11101) (l := n + 11101) (R := rDeb K (debOf N ps)) (T := rMs K (heldsL N ps)) s4 (es_call (N, ps) rfl (ebs_of (eb_a1 (R := rP K (rL K rS) (rPs K)) (er_var rfl rzL))) (by show n + 1101 + 10000 = _; omega) (by omega) (fun vs G _ h => ⟨h, good⟩) fun Gc v G2 _ ⟨N', ps', h1, h2, r⟩ => (deb_perm h1 h2) ▸ r) (es_of (er_post (N, ps, ("held" : Str)) (eb_a3 (R := rL K rS) (S := rPs K) (T := rS) (er_var rfl r3.l) (er_var rfl r4.l) (er_c ⟨rfl, sokH⟩)) (fun vs G2 _ h => ⟨h, nl, by show ps.length ≤ _; omega, .inl rfl⟩) fun _ _ _ _ p => by rw [← lots_h]; exact p)) fun v5 v6 G5 H5 g5 s5 r5 r6 => ?_
    have r3 : rM rS N v3 G5 := Mo.mo g5.kk r3
    have r4 : rM (rP K rS rS) ps v4 G5 := Mo.mo g5.kk r4
    have r5 : rDeb K (debOf N ps) v5 G5 := r5
    have r6 : rMs K (heldsL N ps) v6 G5 := r6
    refine qs_asg (m := n + 11101) (R := rMs K (sureL N ps)) s5 (es_of (EvN.l (en_flt (R := rM rS) (xs := heldsL N ps) (fun l => (unsureL ps l (heldsL N ps)).isNone) (ew_list (er_var rfl r6)) (by omega) (fun _ => rfl) (fun _ => rfl) fun l hl2 v G7 e7 r => et_cmp (ev_isN (R := rP3 K rS rS (rM rS)) (er_post (ps, l, heldsL N ps) (eb_a3 (R := rPs K) (S := rL K rS) (T := rMs K) (er_var rfl (Mo.mo e7 r4).l) (er_var rfl r.l) (er_var rfl (Mo.mo e7 r6))) (fun vs G2 _ h => ⟨h, by show ps.length ≤ _; omega, Nat.le_trans (hm l hl2) (by decide), by show (heldsL N ps).length ≤ _; omega⟩) fun _ _ _ _ p => p))))) fun v8 G6 H6 g6 s6 r8 => ?_
    have r3 : rM rS N v3 G6 := Mo.mo g6.kk r3
    have r4 : rM (rP K rS rS) ps v4 G6 := Mo.mo g6.kk r4
    have r5 : rDeb K (debOf N ps) v5 G6 := Mo.mo g6.kk r5
    have r6 : rMs K (heldsL N ps) v6 G6 := Mo.mo g6.kk r6
    have r8 : rMs K (sureL N ps) v8 G6 := r8
    have a5 : ∀ σ, σ[5]? = some (some v5) → σ[3]? = some (some v3) → σ[4]? = some (some v4) → σ[6]? = some (some v6) → σ[8]? = some (some v8) → EvB K (tCons (tVar 5) (tCons (tVar 3) (tCons (tVar 4) (tCons (tVar 6) (tCons (tVar 8) tNil))))) σ G6 (fun vs G7 => ∃ a b c d e, vs = [a, b, c, d, e] ∧ rDeb K (debOf N ps) a G7 ∧ rM rS N b G7 ∧ rPs K ps c G7 ∧ rMs K (heldsL N ps) d G7 ∧ rMs K (sureL N ps) e G7 ∧ GoodD N ps) := fun σ e5 e3 e4 e6 e8 H e Q q =>
      ⟨v5, e5, v3, e3, v4, e4, v6, e6, v8, e8, q _ G6 H (Gr.refl e) ⟨_, _, _, _, _, rfl, r5, r3, r4.l, r6, r8, good⟩⟩
    refine qs_no s6 (et_is (et_or (a := false) (b := false) (et_is (et_not (et_val (ev_call (N, ps) (a5 _ rfl rfl rfl rfl rfl) (fun vs G7 _ h => h) fun _ _ _ p => p))) rfl) fun _ => et_is (et_not (et_val (ev_call (N, ps) (a5 _ rfl rfl rfl rfl rfl) (fun vs G7 _ h => h) fun _ _ _ p => p))) rfl) rfl) fun H7 g7 s7 => ?_
    -- things
    refine qs_forW (K := K) (S := S) (m := n + 11201) (G := G6) (R := rTg K) (fun ts => (∀ t ∈ ts, goodTg t) ∧ ts.length ≤ 1000) ?_ (fun j σ' G' H' => ∃ x9 x10 x11, σ' = [some a, some (.ref S.1), some v2, some v3, some v4, some v5, some v6, x7, some v8, x9, x10, x11, x12, x13, x14, x15, x16, x17, some x]) (fun _ => n + 11201) (fun _ => Nat.le_refl _) (fun G8 H8 g s => ⟨s.st, ⟨_, _, _, rfl⟩⟩) ?_ ?_
    · intro R' kk
      have ht : ∀ E σ, σ[1]? = some (some (.ref S.1)) → σ[3]? = some (some v3) → σ[8]? = some (some v8) → EvS K S (tCall (spThings K) [] E (tCons (tVar 1) (tCons (tVar 3) (tCons (tVar 8) tNil)))) σ G6 (n + 11101) (n + 11201) (fun v G2 => ∃ ts : List Thg, (∀ t ∈ ts, goodTg t) ∧ ts.length ≤ 1000 ∧ rL K (rTg K) ts v G2) := fun E σ q1 q3 q8 =>
        es_call (N, sureL N ps) q1 (ebs_of (eb_a2 (R := rM rS) (S := rMs K) (er_var q3 r3) (er_var q8 r8))) rfl (by omega) (fun vs G _ h => ⟨h, ⟨pos, nl⟩, spos, sl, sm⟩) fun _ _ _ _ p => p
      exact ht _ _ rfl rfl rfl H7 s7 _ fun v G8 H8 g8 s8 ⟨ts, t1, t2, b, vs, ev, t3, t4⟩ => ⟨b, ev, ⟨vs, ex_l s8.k.ex t3⟩, kk (Itl K b) G8 H8 ts g8 s8 (wk_list t3 t4) ⟨t1, t2⟩⟩
    · rintro ts ⟨hgood, hlen⟩ j t y σ' G8 H8 G9 H9 et ⟨x9, x10, x11, rfl⟩ e8 s8 g9 s9 rt
      have rt : rTg K t y G9 := rt
      have tin : t ∈ ts := List.mem_of_getElem? et
      have e9 : Ex G6 G9 := e8.trans g9.kk
      have tl : ∀ els, t = .seq els → els.length ≤ 1000 := fun els he => Nat.le_trans (hgood t tin els he) (by decide)
      show tSeq _ _ _ [some a, some (.ref S.1), some v2, some v3, some v4, some v5, some v6, x7, some v8, x9, x10, some y, x12, x13, x14, x15, x16, x17, some x] H9
      refine qv_asg (G := G9) s9.k (v := .bl (t.isSeq && strsTg t)) (ev_and (a := t.isSeq) (b := strsTg t) (ev_isSeq (er_var rfl rt)) fun hs => ?_) fun Ha ga => ?_
      · cases t with
        | odd => cases hs
        | seq els =>
          exact ev_allN (R := rEl) (xs := els) (fun o => o.isSome) (ew_listQ (er_varQ rfl (show rQ K rEl els y G9 from rt))) (by have := tl els rfl; omega) (fun _ => rfl) fun o _ u G e r => ev_isStr (er_var rfl r)
      refine qv_asg (G := G9) ga.kn (v := .bl (isSureB (debOf N ps) t)) ?_ fun Hb gb => ?_
      · refine ev_is (ev_and (a := t.isSeq && strsTg t) (b := isSureB (debOf N ps) t) (ev_var rfl) fun hs => ?_) ?_
        · obtain ⟨zs, rfl⟩ : ∃ zs : Lot, t = .seq (zs.map some) := by
            cases t with
            | odd => cases hs
            | seq els => exact strs_some hs
          have rq : rQ K rS zs y G9 := rQ_el (show rQ K rEl (zs.map some) y G9 from rt)
          have zl : zs.length ≤ 1000 := by have := tl _ rfl; rwa [List.length_map] at this
          rw [isSure_eq nn zs]
          refine ev_and (a := decide zs.Nodup) (ev_is (ev_eqi (ev_lenS2 (er_var rfl rq) zl) (ev_lenQ rfl rq)) ?_) fun _ => ?_
          · exact congrArg V.bl (decide_eq_decide.mpr ⟨fun h => dedup_len.mp (by omega), fun h => by rw [dedup_len.mpr h]⟩)
          · exact ev_inG' (EvN.l (en_sortQ (ok_str (by omega)) (er_var rfl rq))) (er_var rfl (Mo.mo e9 r8))
        · cases hq : (t.isSeq && strsTg t) with
          | true => rfl
          | false =>
            have : isSureB (debOf N ps) t = false := by
              cases t with
              | odd => exact isSure_odd _
              | seq els => exact isSure_no _ (strs_none hq)
            rw [this]
            rfl
      refine s_if (b := false) gb.kn (et_is (et_not (et_val (ev_sameV (v := .bl (isSureB (debOf N ps) t)) (.bl _) (ev_call (debOf N ps, t) (eb_a2 (R := rDeb K) (S := rTg K) (er_var rfl (Mo.mo e9 r5)) (er_var rfl rt)) (fun vs G _ h => ⟨h, ok, tl⟩) fun _ _ _ p => p) (ev_var rfl)))) rfl) (fun z => by cases z) fun _ Hc gc => ?_
      obtain ⟨gd, sd⟩ := s9.go ((ga.trans gb).trans gc)
      exact ⟨G9, g9.kk, sd, ⟨_, _, _, rfl⟩⟩
    rintro ts ⟨hgood, hlen⟩ σ' G8 H8 ⟨x9, x10, x11, rfl⟩ e8 s8
    clear hgood hlen
    have r3 : rM rS N v3 G8 := Mo.mo e8 r3
    have r4 : rM (rP K rS rS) ps v4 G8 := Mo.mo e8 r4
    have r5 : rDeb K (debOf N ps) v5 G8 := Mo.mo e8 r5
    have r6 : rMs K (heldsL N ps) v6 G8 := Mo.mo e8 r6
    -- held lots
    refine qs_for (K := K) (S := S) (n := n + 11201) (m := n + 11201) (G := G8) (R := rM rS) (xs := heldsL N ps) s8 (ews_of (ew_list (er_var rfl r6))) (fun j σ' G' H' => ∃ y7 y10 y12 y13, σ' = [some a, some (.ref S.1), some v2, some v3, some v4, some v5, some v6, y7, some v8, x9, y10, x11, y12, y13, x14, x15, x16, x17, some x]) (fun j => n + 11201 + 8 * j) (fun j => by omega) (fun G9 H9 g s => ⟨s.st, ⟨_, _, _, _, rfl⟩⟩) ?_ ?_
    · rintro j l y σ' G9 H9 Ga Ha el ⟨y7, y10, y12, y13, rfl⟩ e9 s9 ga sa rl
      have rl : rM rS l y Ga := rl
      have lin : l ∈ heldsL N ps := List.mem_of_getElem? el
      have l8 := hm l lin
      have jl : j < 256 := Nat.lt_of_lt_of_le (List.getElem?_eq_some_iff.mp el).1 hl
      have ea : Ex G8 Ga := e9.trans ga.kk
      obtain ⟨lsub, lheld⟩ := helds_mem.mp lin
      show tSeq _ _ _ [some a, some (.ref S.1), some v2, some v3, some v4, some v5, some v6, some y, some v8, x9, y10, x11, y12, y13, x14, x15, x16, x17, some x] Ha
      have hdue : ∀ E σ, σ[4]? = some (some v4) → σ[7]? = some (some y) → σ[6]? = some (some v6) → EvP K (tCall (spUnsureL K) [] E (tCons (tVar 4) (tCons (tVar 7) (tCons (tVar 6) tNil)))) σ Ga (rO (rP3 K rS rS (rM rS))) (unsureL ps l (heldsL N ps)) := fun E σ q4 q7 q6 =>
        er_post (ps, l, heldsL N ps) (eb_a3 (R := rPs K) (S := rL K rS) (T := rMs K) (er_var q4 (Mo.mo (R := rM (rP K rS rS)) ea r4).l) (er_var q7 rl.l) (er_var q6 (Mo.mo ea r6))) (fun vs G2 _ h => ⟨h, by show ps.length ≤ _; omega, by show l.length ≤ _; omega, by show (heldsL N ps).length ≤ _; omega⟩) fun _ _ _ _ p => p
      refine hdue _ _ rfl rfl rfl Ha sa.k _ fun v10 Gb Hb gb r10 => ?_
      obtain ⟨gb, sb⟩ := sa.go gb
      have r10 : rO (rP3 K rS rS (rM rS)) (unsureL ps l (heldsL N ps)) v10 Gb := r10
      have hpas : ∀ E σ, σ[1]? = some (some (.ref S.1)) → σ[7]? = some (some y) → EvS K S (tCB (rTupOf K) (tCons (tCall (spMixed K rS) [] E (tCons (tVar 1) (tCons (tVar 7) tNil))) tNil)) σ Gb (n + 11201 + 8 * j) (n + 11201 + 8 * j + 8) (rEx (α := Unit) (fun l' : Lot => l'.Perm l) (rT K rS) ()) := fun E σ q1 q7 =>
        es_tupof (es_callD q1 (ebs_of (eb_a1 (R := rQ K rS) (x := l) (er_var q7 (.inl (Mo.mo (R := rM rS) gb.kk rl).l)))) (by omega) fun vs G _ h => ⟨l, by show n + 11201 + 8 * j + l.length ≤ _; omega, ⟨h, by omega⟩, fun Gc v G2 _ ⟨ys, h1, h2⟩ => ⟨ys, h1, h2.l⟩⟩)
      refine hpas _ _ rfl rfl Hb sb _ fun v12 Gc Hc gc sc ⟨l', hperm, r12⟩ => ?_
      refine ⟨v10, v12, rfl, ?_⟩
      have r10 : rO (rP3 K rS rS (rM rS)) (unsureL ps l (heldsL N ps)) v10 Gc := Mo.mo gc.kk r10
      have r12 : rT K rS l' v12 Gc := r12
      have ec : Ex G8 Gc := (ea.trans gb.kk).trans gc.kk
      have r5c : rDeb K (debOf N ps) v5 Gc := Mo.mo ec r5
      have lnd : l'.Nodup := hperm.nodup_iff.mpr (sub_nodup nn lsub)
      have lin' : ∀ z ∈ l', z ∈ (debOf N ps).S := fun z hz => lsub.subset (hperm.mem_iff.mp hz)
      have ll' : l'.length ≤ 8 := by rw [hperm.length_eq]; exact l8
      have nb : ¬ badWhy (debOf N ps) (.seq (l'.map some)) := by
        rintro (⟨k, b1, b2, b3⟩ | ⟨zs, q, e, hq⟩)
        · exact b3 (ok_of lnd lin' k b1)
        · injection e with e
          rw [← smap_inj e, so_congr hperm, fault_none lin] at hq
          cases hq
      have hwhy : whyP (debOf N ps) l' = unsureL ps l (heldsL N ps) := by
        rw [why_eq nn pn]
        unfold unsureL
        rw [so_congr hperm]
      have whyE : ∀ σ, σ[5]? = some (some v5) → σ[12]? = some (some v12) → EvP K (tCall (spWhy K cL cH) [] E0 (tCons (tVar 5) (tCons (tVar 12) tNil))) σ Gc (rO (rP3 K rS rS (rF Gc rS))) (unsureL ps l (heldsL N ps)) := fun σ q5 q12 =>
        er_callE (debOf N ps, .seq (l'.map some)) nb (eb_a2 (R := rDeb K) (S := rTg K) (er_var q5 r5c) (er_var q12 (rTg_T r12))) (fun vs G _ h => ⟨h, ok, fun els e => by injection e with e; rw [← e, List.length_map]; omega⟩) fun Gd u Ge ed p => by
          have p2 := p l' rfl
          rw [hwhy] at p2
          exact rO.rel (fun z v hz => let ⟨q1, q2, q3, q4, q5, q6, q7, q8, q9⟩ := hz; ⟨q1, q2, q3, q4, q5, q6, q7, q8, q9.base ed⟩) p2
      have small : ∀ z, unsureL ps l (heldsL N ps) = some z → z.2.2.length ≤ 8 := unsure_small hm
      have okw : okL (okO (ok3 (α := Str) (β := Str) (okL (okT (α := Str))))) [unsureL ps l (heldsL N ps)] := ⟨by simp, fun o ho z hz => by
        rw [List.mem_singleton.mp ho] at hz
        exact ok_lot8 (Nat.le_trans (small z hz) (by decide))⟩
      refine q_for1 (K := K) (P3 := fun σ3 => ∃ y13, σ3 = [some a, some (.ref S.1), some v2, some v3, some v4, some v5, some v6, some y, some v8, x9, some v10, x11, some v12, y13, x14, x15, x16, x17, some x]) sc.k (whyE _ rfl rfl) (fun v p Gd Hd X gd rd hpd hpH lp k => ?_) fun σ3 Hd ⟨y13', hσ⟩ gd => ?_
      · have rd : rO (rP3 K rS rS (rF Gc rS)) (unsureL ps l (heldsL N ps)) v Gd := rd
        refine q_no gd.kn (et_is (et_not (et_val (ev_same (R := rL K (rO (rP3 K rS rS (rF Gc rS)))) (S := rL K (rO (rP3 K rS rS (rM rS)))) okw (EvN.l (en_one (er_var rfl rd))) (EvN.l (en_one (er_var rfl (Mo.mo gd.kk r10))))))) rfl) fun He ge => ?_
        refine s_if ge.kn (et_cmp (ev_notN (R := rP3 K rS rS (rF Gc rS)) (er_var rfl rd))) (fun hy Hf gf => ?_) fun hno Hf gf => ?_
        · cases hu : unsureL ps l (heldsL N ps) with
          | none => rw [hu] at hy; cases hy
          | some z =>
            rw [hu] at rd
            obtain ⟨t, u1, u2, u3, rfl, q1, q2, q3, b, ws, rfl, q4, q5, q6⟩ := rd
            have gg := (gd.trans ge).trans gf
            have lb := gg.kh.l q5
            have nbp : p ≠ b := fun z => by rw [z, q5] at hpd; cases hpd
            have wl : ws.length ≤ 8 := by rw [← q6.length]; exact small z hu
            refine ⟨.ref t, rfl, t, _, 2, .ref b, rfl, rfl, ex_t gg.kh q1, rfl, .inl ⟨rfl, ws, SqL.of lb⟩, b, ws, .str "late", rfl, rfl, lb, Nat.lt_of_lt_of_le (show ws.length < 1000 by omega) (by decide), k _ _ ⟨_, rfl⟩ (Gr.late sc.k gg q4 q5) ?_⟩
            rw [upd_ne nbp]
            exact gf.hh.l (ge.hh.l lp)
        · exact k _ _ ⟨_, rfl⟩ (Gr.skip sc.k ((gd.trans ge).trans gf).hh gf.kn.tb) (gf.hh.l (ge.hh.l lp))
      · subst hσ
        refine s_if (b := false) gd.kn (et_is (et_not (et_val (ev_same (R := rL K (rO (rP3 K rS rS (rF Gc rS)))) (S := rL K (rO (rP3 K rS rS (rM rS)))) okw (EvN.l (en_one (whyE _ rfl rfl))) (EvN.l (en_one (er_var rfl r10)))))) rfl) (fun z => by cases z) fun _ He ge => ?_
        obtain ⟨gz, sz⟩ := sc.go (gd.trans ge)
        exact ⟨Gc, (ga.kk.trans gb.kk).trans gc.kk, ⟨sz.kn, sz.st.mono (by show n + 11201 + 8 * j + 8 ≤ n + 11201 + 8 * (j + 1); omega)⟩, ⟨_, _, _, _, rfl⟩⟩
    rintro σ' G9 H9 ⟨y7, y10, y12, y13, rfl⟩ e9 s9
    have r3 : rM rS N v3 G9 := Mo.mo e9 r3
    have r5 : rDeb K (debOf N ps) v5 G9 := Mo.mo e9 r5
    obtain ⟨M, hM, hM2⟩ : ∃ M, M = n + 11201 + 8 * (heldsL N ps).length ∧ M ≤ n + 13300 := ⟨_, rfl, by omega⟩
    have s9 : Sk K S M G9 H9 := by rw [hM]; exact s9
    -- a lot, an odd name
    refine qs_tup2 (m := M + 1) (l := M + 2) (R := rEx (α := Unit) (fun l : Lot => l ∈ subsL N) (rM rS) ()) (T := rOdd K ()) s9 (es_call (subsL N) rfl (ebs_of (eb_a1 (R := rL K (rM rS)) (er_post N (eb_a1 (R := rL K rS) (er_var rfl r3.l)) (fun vs G _ h => ⟨h, nl⟩) fun _ _ _ _ p => p))) rfl (by omega) (fun vs G _ h => ⟨h, subsL_pos N, Nat.le_trans (subsL_len nl) (by decide)⟩) fun Gc v G2 _ ⟨l, h1, h2⟩ => ⟨l, h1, h2⟩) (es_call () rfl ebs_nil rfl (by omega) (fun vs G _ h => h) fun _ _ _ _ p => p) fun v7 v14 Ga Ha ga sa ⟨l, hls, r7⟩ r14 => ?_
    have r5 : rDeb K (debOf N ps) v5 Ga := Mo.mo ga.kk r5
    have r7 : rM rS l v7 Ga := r7
    have lsub := subs_mem.mp hls
    have lnd : l.Nodup := sub_nodup nn lsub
    have l8 : l.length ≤ 8 := Nat.le_trans (subsL_small hls) nl
    have lin : ∀ z ∈ l, z ∈ (debOf N ps).S := fun z hz => lsub.subset hz
    -- its fault, a place
    refine qs_tup2 (m := M + 2) (l := M + 3) (R := rO (rP3 K rS rS rS) (faultP (debOf N ps) (so eS l))) (T := rEx (α := Unit) (fun r : Int => 0 ≤ r ∧ r < (l.length : Int) + 1) rI ()) sa (es_of (er_post (debOf N ps, l) (A := fun vs G => ∃ a b, vs = [a, .str ("held" : Str), b] ∧ rDeb K (debOf N ps) a G ∧ rL K rS l b G) (fun H e Q q => ⟨v5, rfl, v7, rfl, q _ Ga H (Gr.refl e) ⟨_, _, rfl, r5, r7.l⟩⟩) (fun vs G _ ⟨a, b, e, h1, h2⟩ => ⟨a, b, e, h1, h2, ok, by show l.length ≤ _; omega, lnd, lin⟩) fun _ _ _ _ p => p)) ((es_draw (many := (l.length : Int) + 1) rfl (ev_add (ev_len (R := rS) (er_var rfl r7.l)) ev_c) (by omega) (by omega) (by omega)).imp fun _ _ _ ⟨r, e, h1, h2⟩ => ⟨r, ⟨h1, h2⟩, e⟩) fun v15 v16 Gd Hd gd sd r15 ⟨kI, ⟨k0, k1⟩, r16⟩ => ?_
    have r16 : v16 = .int kI := r16
    subst r16
    obtain ⟨k, rfl⟩ := Int.eq_ofNat_of_zero_le k0
    have kl : k ≤ l.length := by omega
    have r5 : rDeb K (debOf N ps) v5 Gd := Mo.mo gd.kk r5
    have r7 : rM rS l v7 Gd := Mo.mo gd.kk r7
    have r14 : rOdd K () v14 Gd := Mo.mo gd.kk r14
    have r15 : rO (rP3 K rS rS rS) (faultP (debOf N ps) (so eS l)) v15 Gd := r15
    obtain ⟨o, ro, hodd, hsm⟩ := id r14
    have oS : badSt (debOf N ps).S o := fun z e hz => hodd z e (good.ok z (so_mem.mp hz))
    -- met, four times
    have rlE : ∀ G', Ex Gd G' → rL K rEl (l.map some) v7 G' := fun G' e => by
      obtain ⟨b, vs, q1, q2, q3⟩ := (Mo.mo (R := rM rS) e r7).l (K := K)
      exact ⟨b, vs, q1, q2, allR_el2 q3⟩
    have hbad := bad_mid (S := (debOf N ps).S) (r := [none]) kl lnd lin oS
    have lenE : ((((l.map some).take k ++ o :: [none]) ++ (l.map some).drop k) : List El).length ≤ 1000 := by
      simp only [List.length_append, List.length_take, List.length_drop, List.length_map, List.length_cons, List.length_nil]
      omega
    refine (es_met (X := fun cls dd G => ExIs cL "index" rI ((k : Nat) : Int) cls dd G) (Z := rMt K (.lot k)) (n := M + 3) (m := M + 3) (fun E => esx_call (ebs_of (eb_a2 (R := rDeb K) (S := rTg K) (x := debOf N ps) (y := .seq (((l.map some).take k ++ o :: [none]) ++ (l.map some).drop k)) (er_var rfl r5) ((EvN.l (en_cat (R := rEl) (EvN.m (en_cat (R := rEl) (EvN.m (en_pre (R := rEl) (er_var rfl (rlE _ (exr _))) (ev_var rfl) (by rw [List.length_map]; exact kl))) (EvN.m (en_lst (eb_all (R := rEl) (x := o) (er_var rfl ro) (eb_all (R := rEl) (x := none) (er_c (.inl rfl)) eb_all0)) (fun vs G h => by rw [← h.length]; exact (by decide : 2 ≤ 10000000)))) ?_)) (EvN.m (en_suf (R := rEl) (er_var rfl (rlE _ (exr _))) (ev_var rfl) (by rw [List.length_map]; exact kl))) ?_)).imp fun v G _ h => .inl h))) fun vs G' e' h => ⟨(debOf N ps, .seq (((l.map some).take k ++ o :: [none]) ++ (l.map some).drop k)), .inl ⟨k, hbad⟩, ⟨h, ok, fun els e => by injection e with e; rw [← e]; exact lenE⟩, fun cls dd G3 e3 hx => ?_⟩) (met_index fun cls dd G hx => hx)) Hd sd _ fun u1 Ge He ge se t1 => ?_
    · simp only [List.length_take, List.length_map, List.length_cons, List.length_nil]
      omega
    · simp only [List.length_append, List.length_take, List.length_drop, List.length_map, List.length_cons, List.length_nil]
      omega
    · rcases hx with ⟨_, m, _, hm2, hx⟩ | ⟨zs, q, e, _⟩
      · rw [bad_uniq hbad (hm2 _ rfl)]
        exact hx
      · injection e with e
        have hnone : (none : El) ∈ zs.map some := by rw [← e]; simp
        obtain ⟨z, _, hz⟩ := List.mem_map.mp hnone
        cases hz
    refine ⟨(by decide : 1 ≤ sizeLine), fun p hp => ?_⟩
    have pn1 := se.ne (xs := []) hp
    have hpm : msk S Hd p = none := ge.hh.no _ (by rw [msk_o pn1.1 pn1.2]; exact hp)
    have hpG : Ge p = none := se.k.ex.no _ hp
    obtain ⟨gf, sf⟩ := se.go (Gr.skip se.k (Ex.new (o := .lst [u1]) hp) (tb_new se.k.tb hp))
    have g1' : GrS K S Gd Hd Ge (upd He p (.lst [u1])) := ge.trans gf
    have lf : upd He p (.lst [u1]) p = some (.lst [u1]) := upd_same
    revert g1' sf lf
    generalize upd He p (.lst [u1]) = Hf
    intro sf g1' lf
    show tSeq _ _ _ [some a, some (.ref S.1), some v2, some v3, some v4, some v5, some v6, some v7, some v8, x9, y10, x11, y12, y13, some v14, some v15, some (.int (k : Nat)), some (.ref p), some x] Hf
    refine qs_app (K := K) (R := rMt K (.lot ((0 : Nat) : Int))) (m := M + 4) g1' sf rfl pn1.1 pn1.2 hpm hpG lf (show 1 < 1000000 by decide) (es_met (X := fun cls dd G => ExIs cL "index" rI ((0 : Nat) : Int) cls dd G) (n := M + 3) (m := M + 4) (fun E => esx_call (ebs_cons (R := rDeb K (debOf N ps)) (U := oneR (rTg K .odd)) (es_of (er_var rfl (Mo.mo ge.kk r5))) (ebs_one (es_call [.odd, .odd, .odd, .odd] rfl (ebs_of (eb_a1 (R := rL K (rTg K)) (EvN.l (en_lst (eb_all (R := rTg K) (x := .odd) (er_c (.inl rfl)) (eb_all (R := rTg K) (x := .odd) (er_c (.inr (.inl ⟨_, rfl⟩))) (eb_all (R := rTg K) (x := .odd) (er_dnew.imp fun v G2 _ ⟨a, ev, h⟩ => .inr (.inr (.inr (.inr ⟨a, ev, h⟩)))) (eb_all (R := rTg K) (x := .odd) (er_c (.inr (.inr (.inl ⟨_, rfl⟩)))) eb_all0)))) (fun vs G2 h => by rw [← h.length]; exact (by decide : 4 ≤ 10000000)))))) rfl (by omega) (fun vs G _ h => ⟨h, by decide, by decide⟩) fun Gc v G2 _ ⟨t, ht, rt⟩ => odd4 ht ▸ rt))) fun vs G' e' ⟨b, r, q1, q2, b2, q3, q4⟩ => ⟨(debOf N ps, .odd), .inl trivial, ⟨⟨b, b2, by rw [q1, q3], q2, q4⟩, ok, fun els e => by cases e⟩, fun cls dd G3 e3 hx => ?_⟩) (met_index fun cls dd G hx => hx)) fun u2 Gg Hg eg gg sg hpg t2 gg2 => ?_
    · rcases hx with ⟨_, m, hm2, _, hx⟩ | ⟨zs, q, e, _⟩
      · rw [hm2 rfl] at hx
        exact hx
      · cases e
    have lg : upd Hg p (.lst ([u1] ++ [u2])) p = some (.lst [u1, u2]) := upd_same
    revert gg sg lg
    generalize upd Hg p (.lst ([u1] ++ [u2])) = Hh
    intro gg sg lg
    have eG : Ex Gd Gg := ge.kk.trans eg
    refine qs_app (K := K) (R := rMt K (.stm v14)) (m := M + 4) gg sg rfl pn1.1 pn1.2 hpm hpg lg (show 2 < 1000000 by decide) (es_met (X := fun cls dd G => ExIs cS "thing" rV v14 cls dd G ∧ Sm K 1 v14 v14 G) (n := M + 4) (m := M + 4) (fun E => esx_call (ebs_of (eb_a2 (R := rDeb K) (S := rV) (x := debOf N ps) (y := v14) (er_var rfl (Mo.mo eG r5)) (er_var rfl rfl))) fun vs G' e' ⟨b, b2, q1, q2, q3⟩ => ⟨(debOf N ps, o, v14), oS, ⟨b, by rw [q1, show b2 = v14 from q3], q2, Mo.mo (R := rEl) (eG.trans e') ro, ok⟩, fun cls dd G3 e3 hx => ⟨hx, MoS.mo ((eG.trans e').trans e3) hsm⟩⟩) (met_thing fun cls dd G hx => hx)) fun u3 Gi Hi ei gi si hpi t3 gi2 => ?_
    have li : upd Hi p (.lst ([u1, u2] ++ [u3])) p = some (.lst [u1, u2, u3]) := upd_same
    revert gi si li
    generalize upd Hi p (.lst ([u1, u2] ++ [u3])) = Hj
    intro gi si li
    have eI : Ex Gd Gi := eG.trans ei
    refine qs_app (K := K) (R := rMt K (.stm v14)) (m := M + 4) gi si rfl pn1.1 pn1.2 hpm hpi li (show 3 < 1000000 by decide) (es_met (X := fun cls dd G => ExIs cS "thing" rV v14 cls dd G ∧ Sm K 1 v14 v14 G) (n := M + 4) (m := M + 4) (fun E => esx_call (ebs_of (eb_a2 (R := rDeb K) (S := rV) (x := debOf N ps) (y := v14) (er_var rfl (Mo.mo eI r5)) (er_var rfl rfl))) fun vs G' e' ⟨b, b2, q1, q2, q3⟩ => ⟨(debOf N ps, o, v14), oS, ⟨b, by rw [q1, show b2 = v14 from q3], q2, Mo.mo (R := rEl) (eI.trans e') ro, ok⟩, fun cls dd G3 e3 hx => ⟨hx, MoS.mo ((eI.trans e').trans e3) hsm⟩⟩) (met_thing fun cls dd G hx => hx)) fun u4 Gk Hk ek gk sk hpk t4 gk2 => ?_
    have lk : upd Hk p (.lst ([u1, u2, u3] ++ [u4])) p = some (.lst [u1, u2, u3, u4]) := upd_same
    revert gk sk lk
    generalize upd Hk p (.lst ([u1, u2, u3] ++ [u4])) = Hl
    intro gk sk lk
    have eK : Ex Gd Gk := eI.trans ek
    have found : AllR (rMt K) [.lot (k : Nat), .lot ((0 : Nat) : Int), .stm v14, .stm v14] [u1, u2, u3, u4] Gk := ⟨Mo.mo ((eg.trans ei).trans ek) t1, Mo.mo (ei.trans ek) t2, Mo.mo ek t3, t4, trivial⟩
    -- what is due
    refine qn_asg (K := K) sk.k (en_lst (eb_all (R := rMt K) (x := .lot (k : Nat)) (er_tag (R := fun v _ => v = .int (k : Nat)) (er_var rfl rfl) fun v p G2 ev hp => ⟨p, rfl, by rw [hp, show v = _ from ev]⟩) (eb_all (R := rMt K) (x := .lot ((0 : Nat) : Int)) (er_tag (R := fun v _ => v = .int 0) (er_c rfl) fun v p G2 ev hp => ⟨p, rfl, by rw [hp, show v = _ from ev]; rfl⟩) (eb_all (R := rMt K) (x := .stm v14) (er_tag (R := rStm K v14) (er_var rfl ⟨rfl, MoS.mo eK hsm⟩) fun v p G2 ⟨ev, hs⟩ hp => ⟨p, rfl, by rw [hp, ev], hs⟩) (eb_all (R := rMt K) (x := .stm v14) (er_tag (R := rStm K v14) (er_var rfl ⟨rfl, MoS.mo eK hsm⟩) fun v p G2 ⟨ev, hs⟩ hp => ⟨p, rfl, by rw [hp, ev], hs⟩) eb_all0)))) (fun vs G2 h => by rw [← h.length]; exact (by decide : 4 ≤ 10000000))) fun p2 ws2 Gm Hm hp2 hp2G gm lm due => ?_
    obtain ⟨gm, smm⟩ := sk.go gm
    have qn := sk.ne (xs := []) hp2
    have hpp : p ≠ p2 := fun z => by rw [← z, lk] at hp2; cases hp2
    have hp2m : msk S Hd p2 = none := gk.hh.no _ (by rw [msk_o qn.1 qn.2]; exact hp2)
    have lkm := msk_l pn1.1 pn1.2 lk gm
    have hpm2 : Gm p = none := gm.sp p hpk (hidden (by rw [msk_o pn1.1 pn1.2]; exact lk))
    have gM := gk.trans gm
    have foundM := found.mono gm.kk
    have eM : Ex Gd Gm := eK.trans gm.kk
    have eAll : Ex G' Gm := ((((((((g2.kk.trans g3.kk).trans g4.kk).trans g5.kk).trans g6.kk).trans e8).trans e9).trans ga.kk).trans gd.kk).trans eM
    show tSeq _ _ _ [some a, some (.ref S.1), some v2, some v3, some v4, some v5, some v6, some v7, some v8, x9, some (.ref p2), x11, y12, y13, some v14, some v15, some (.int (k : Nat)), some (.ref p), some x] Hm
    refine qs_ifJ (K := K) (b := (faultP (debOf N ps) (so eS l)).isSome) (fun σ' H' => ∃ Gz fs ws1 ws2, σ' = [some a, some (.ref S.1), some v2, some v3, some v4, some v5, some v6, some v7, some v8, x9, some (.ref p2), x11, y12, y13, some v14, some v15, some (.int (k : Nat)), some (.ref p), some x] ∧ Ex Gm Gz ∧ Sk K S (M + 4) Gz H' ∧ Gz p = none ∧ Gz p2 = none ∧ H' p = some (.lst ws1) ∧ H' p2 = some (.lst ws2) ∧ AllR (rMt K) fs ws1 Gz ∧ AllR (rMt K) fs ws2 Gz ∧ fs.length ≤ 5) smm (et_cmp (ev_notN (R := rP3 K rS rS rS) (er_var rfl (Mo.mo eM r15)))) ?_ ?_ ?_
    · rintro σ' Hz ⟨Gz, fs, ws1, ws2, rfl, ez, sz, hz1, hz2, lz1, lz2, rf1, rf2, flen⟩
      have kz : Kn K (upd (upd Gz p (.lst ws1)) p2 (.lst ws2)) Hz := kn_plus (kn_plus sz.k lz1) lz2
      have hz3 : upd Gz p (.lst ws1) p2 = none := by rw [upd_ne (Ne.symm hpp)]; exact hz2
      have ez1 : Ex Gz (upd (upd Gz p (.lst ws1)) p2 (.lst ws2)) := (Ex.new hz1).trans (Ex.new hz3)
      refine s_if (b := false) kz (et_is (et_not (et_val (ev_same (R := rL K (rMt K)) (S := rL K (rMt K)) (x := fs) (ok := okL okT) (k := 3) ⟨by omega, fun _ _ => trivial⟩ (er_var rfl ⟨p, ws1, rfl, SqL.of (by rw [upd_ne hpp, upd_same]), rf1.mono ez1⟩) (er_var rfl ⟨p2, ws2, rfl, SqL.of upd_same, rf2.mono ez1⟩)))) rfl) (fun z => by cases z) fun _ Hy gy => ?_
      obtain ⟨gy2, sy⟩ := sz.go (Gr.skip sz.k gy.hh gy.kn.tb)
      exact ⟨Gz, eAll.trans ez, ⟨sy.kn, sy.st.mono (by show M + 4 ≤ 20000 * (i + 1); omega)⟩, ⟨_, _, _, _, _, _, _, _, _, _, _, _, _, _, _, _, _, rfl⟩⟩
    · intro hb Hn gn sn rest
      cases hf : faultP (debOf N ps) (so eS l) with
      | none => rw [hf] at hb; cases hb
      | some fl =>
        rw [hf] at r15
        have r15 : rP3 K rS rS rS fl v15 Gd := r15
        have l1 := msk_l pn1.1 pn1.2 lkm gn
        refine qs_app (K := K) (R := rMt K (.flt fl)) (m := M + 4) (gM.trans gn) sn rfl pn1.1 pn1.2 hpm hpm2 l1 (show 4 < 1000000 by decide) (es_met (X := fun cls dd G => ExIs cH "fault" (rP3 K rS rS rS) fl cls dd G) (n := M + 4) (m := M + 4) (fun E => esx_call (ebs_of (eb_a2 (R := rDeb K) (S := rTg K) (x := debOf N ps) (y := .seq (l.map some)) (er_var rfl (Mo.mo eM r5)) (er_var rfl (rTg_L (Mo.mo eM r7).l)))) fun vs G' e' h => ⟨(debOf N ps, .seq (l.map some)), .inr ⟨l, fl, rfl, hf⟩, ⟨h, ok, fun els e => by injection e with e; rw [← e, List.length_map]; omega⟩, fun cls dd G3 e3 hx => ?_⟩) (met_fault fun cls dd G hx => hx)) fun u5 Go Ho eo go so2 hpo t5 go2 => ?_
        · rcases hx with ⟨⟨j, b1, b2, b3⟩, _⟩ | ⟨zs, q, e, hq, hx⟩
          · exact absurd (ok_of lnd lin j b1) b3
          · injection e with e
            rw [← smap_inj e, hf] at hq
            cases hq
            exact hx
        have l2 : Hn p2 = some (.lst ws2) := msk_l qn.1 qn.2 lm gn
        have l2o : Ho p2 = some (.lst ws2) := msk_l qn.1 qn.2 l2 go2
        have l2u : upd Ho p (.lst ([u1, u2, u3, u4] ++ [u5])) p2 = some (.lst ws2) := by rw [upd_ne (Ne.symm hpp)]; exact l2o
        have l1u : upd Ho p (.lst ([u1, u2, u3, u4] ++ [u5])) p = some (.lst [u1, u2, u3, u4, u5]) := upd_same
        have hp2o : Go p2 = none := go2.sp p2 hp2G (hidden (by rw [msk_o qn.1 qn.2]; exact l2))
        revert go so2 l2u l1u
        generalize upd Ho p (.lst ([u1, u2, u3, u4] ++ [u5])) = Hp
        intro go so2 l2u l1u
        have dl := due.length
        refine ss_app (K := K) (R := rMt K (.flt fl)) (m := M + 4) go so2 rfl qn.1 qn.2 hp2m hp2o l2u (by simp only [List.length_cons, List.length_nil] at dl; omega) (es_of (er_tag (R := rP3 K rS rS rS fl) (er_var rfl (Mo.mo (eM.trans eo) r15)) fun v p G2 hv hp => ⟨p, v, rfl, hp, hv⟩)) fun u6 Gq Hq eq gq sq hpq t6 gq2 => ?_
        have l1q : Hq p = some (.lst [u1, u2, u3, u4, u5]) := msk_l pn1.1 pn1.2 l1u gq2
        have hp1q : Gq p = none := gq2.sp p hpo (hidden (by rw [msk_o pn1.1 pn1.2]; exact l1u))
        refine rest _ _ ⟨Gq, [.lot (k : Nat), .lot ((0 : Nat) : Int), .stm v14, .stm v14, .flt fl], _, _, rfl, eo.trans eq, sq, hp1q, hpq, by rw [upd_ne hpp]; exact l1q, upd_same, ?_, ?_, (by decide : 5 ≤ 5)⟩
        · exact (foundM.mono (eo.trans eq)).append (show AllR (rMt K) [.flt fl] [u5] Gq from ⟨Mo.mo eq t5, trivial⟩)
        · exact (due.mono (eo.trans eq)).append (show AllR (rMt K) [.flt fl] [u6] Gq from ⟨t6, trivial⟩)
    · intro hb Hn gn sn
      exact ⟨Gm, _, _, _, rfl, exr _, sn, hpm2, hp2G, msk_l pn1.1 pn1.2 lkm gn, msk_l qn.1 qn.2 lm gn, foundM, due, (by decide : 4 ≤ 5)⟩
  · subst hσ
    exact sv_ret s'.k ev_c fun H3 g3 => q H3
end
end Ob
set_option maxRecDepth 100000
set_option maxHeartbeats 0
namespace Ob
open PySem PySem.Spec PyProof.Rows L2
def d_initBadLot : He.DefD := ⟨("BadLot", some "__init__"), "__init__", "BadLot.__init__", defArgs s_initBadLot, defBody s_initBadLot, defScope s_initBadLot, [], []⟩
def d_initNoStatement : He.DefD := ⟨("NoStatement", some "__init__"), "__init__", "NoStatement.__init__", defArgs s_initNoStatement, defBody s_initNoStatement, defScope s_initNoStatement, [], []⟩
def d_initNotHeld : He.DefD := ⟨("NotHeld", some "__init__"), "__init__", "NotHeld.__init__", defArgs s_initNotHeld, defBody s_initNotHeld, defScope s_initNotHeld, [], []⟩
def d_is_list : He.DefD := ⟨("is_list", none), "is_list", "is_list", defArgs s_is_list, defBody s_is_list, defScope s_is_list, [], []⟩
def d_is_name : He.DefD := ⟨("is_name", none), "is_name", "is_name", defArgs s_is_name, defBody s_is_name, defScope s_is_name, [], []⟩
def d_as_tuples : He.DefD := ⟨("as_tuples", none), "as_tuples", "as_tuples", defArgs s_as_tuples, defBody s_as_tuples, defScope s_as_tuples, [], []⟩
def d_checked_statements : He.DefD := ⟨("checked_statements", none), "checked_statements", "checked_statements", defArgs s_checked_statements, defBody s_checked_statements, defScope s_checked_statements, [], []⟩
def d_is_pair_of : He.DefD := ⟨("is_pair_of", none), "is_pair_of", "is_pair_of", defArgs s_is_pair_of, defBody s_is_pair_of, defScope s_is_pair_of, [], []⟩
def d_checked_objections : He.DefD := ⟨("checked_objections", none), "checked_objections", "checked_objections", defArgs s_checked_objections, defBody s_checked_objections, defScope s_checked_objections, [], []⟩
def d_initDebate : He.DefD := ⟨("Debate", some "__init__"), "__init__", "Debate.__init__", defArgs s_initDebate, defBody s_initDebate, defScope s_initDebate, [], []⟩
def d_checked_statement : He.DefD := ⟨("checked_statement", none), "checked_statement", "checked_statement", defArgs s_checked_statement, defBody s_checked_statement, defScope s_checked_statement, [], []⟩
def d_checked_lot : He.DefD := ⟨("checked_lot", none), "checked_lot", "checked_lot", defArgs s_checked_lot, defBody s_checked_lot, defScope s_checked_lot, [], []⟩
def d_checked_way : He.DefD := ⟨("checked_way", none), "checked_way", "checked_way", defArgs s_checked_way, defBody s_checked_way, defScope s_checked_way, [], []⟩
def d_hit_by : He.DefD := ⟨("hit_by", none), "hit_by", "hit_by", defArgs s_hit_by, defBody s_hit_by, defScope s_hit_by, [], []⟩
def d_clash_in : He.DefD := ⟨("clash_in", none), "clash_in", "clash_in", defArgs s_clash_in, defBody s_clash_in, defScope s_clash_in, [], []⟩
def d_unanswered_in : He.DefD := ⟨("unanswered_in", none), "unanswered_in", "unanswered_in", defArgs s_unanswered_in, defBody s_unanswered_in, defScope s_unanswered_in, [], []⟩
def d_held_lots : He.DefD := ⟨("held_lots", none), "held_lots", "held_lots", defArgs s_held_lots, defBody s_held_lots, defScope s_held_lots, [], []⟩
def d_calm_with : He.DefD := ⟨("calm_with", none), "calm_with", "calm_with", defArgs s_calm_with, defBody s_calm_with, defScope s_calm_with, [], []⟩
def d_greatest_of : He.DefD := ⟨("greatest_of", none), "greatest_of", "greatest_of", defArgs s_greatest_of, defBody s_greatest_of, defScope s_greatest_of, [], []⟩
def d_is_within : He.DefD := ⟨("is_within", none), "is_within", "is_within", defArgs s_is_within, defBody s_is_within, defScope s_is_within, [], []⟩
def d_lots_in : He.DefD := ⟨("lots_in", none), "lots_in", "lots_in", defArgs s_lots_in, defBody s_lots_in, defScope s_lots_in, [], []⟩
def d_fault_in : He.DefD := ⟨("fault_in", none), "fault_in", "fault_in", defArgs s_fault_in, defBody s_fault_in, defScope s_fault_in, [], []⟩
def d_fault_of : He.DefD := ⟨("fault_of", none), "fault_of", "fault_of", defArgs s_fault_of, defBody s_fault_of, defScope s_fault_of, [], []⟩
def d_is_lot : He.DefD := ⟨("is_lot", none), "is_lot", "is_lot", defArgs s_is_lot, defBody s_is_lot, defScope s_is_lot, [], []⟩
def d_smallest_with : He.DefD := ⟨("smallest_with", none), "smallest_with", "smallest_with", defArgs s_smallest_with, defBody s_smallest_with, defScope s_smallest_with, [], []⟩
def d_lacking_lot : He.DefD := ⟨("lacking_lot", none), "lacking_lot", "lacking_lot", defArgs s_lacking_lot, defBody s_lacking_lot, defScope s_lacking_lot, [], []⟩
def d_all_held : He.DefD := ⟨("all_held", none), "all_held", "all_held", defArgs s_all_held, defBody s_all_held, defScope s_all_held, [], []⟩
def d_is_left_alone : He.DefD := ⟨("is_left_alone", none), "is_left_alone", "is_left_alone", defArgs s_is_left_alone, defBody s_is_left_alone, defScope s_is_left_alone, [], []⟩
def d_sure_lots : He.DefD := ⟨("sure_lots", none), "sure_lots", "sure_lots", defArgs s_sure_lots, defBody s_sure_lots, defScope s_sure_lots, [], []⟩
def d_sure_lot : He.DefD := ⟨("sure_lot", none), "sure_lot", "sure_lot", defArgs s_sure_lot, defBody s_sure_lot, defScope s_sure_lot, [], []⟩
def d_is_sure : He.DefD := ⟨("is_sure", none), "is_sure", "is_sure", defArgs s_is_sure, defBody s_is_sure, defScope s_is_sure, [], []⟩
def d_sure_paper : He.DefD := ⟨("sure_paper", none), "sure_paper", "sure_paper", defArgs s_sure_paper, defBody s_sure_paper, defScope s_sure_paper, [], []⟩
def d_why_unsure : He.DefD := ⟨("why_unsure", none), "why_unsure", "why_unsure", defArgs s_why_unsure, defBody s_why_unsure, defScope s_why_unsure, [], []⟩
def d_l_z_debate : He.DefD := ⟨("_law_z_debate", none), "_law_z_debate", "_law_z_debate", defArgs s_l_z_debate, defBody s_l_z_debate, defScope s_l_z_debate, [], []⟩
def d_l_z_made : He.DefD := ⟨("_law_z_made", none), "_law_z_made", "_law_z_made", defArgs s_l_z_made, defBody s_l_z_made, defScope s_l_z_made, [], []⟩
def d_l_z_odd_name : He.DefD := ⟨("_law_z_odd_name", none), "_law_z_odd_name", "_law_z_odd_name", defArgs s_l_z_odd_name, defBody s_l_z_odd_name, defScope s_l_z_odd_name, [], []⟩
def d_l_start : He.DefD := ⟨("_law_start", none), "_law_start", "_law_start", defArgs s_l_start, defBody s_l_start, defScope s_l_start, [], []⟩
def d_l_draw : He.DefD := ⟨("_law_draw", none), "_law_draw", "_law_draw", defArgs s_l_draw, defBody s_l_draw, defScope s_l_draw, [], []⟩
def d_l_pick : He.DefD := ⟨("_law_pick", none), "_law_pick", "_law_pick", defArgs s_l_pick, defBody s_l_pick, defScope s_l_pick, [], []⟩
def d_l_mixed : He.DefD := ⟨("_law_mixed", none), "_law_mixed", "_law_mixed", defArgs s_l_mixed, defBody s_l_mixed, defScope s_l_mixed, [], []⟩
def d_l_same : He.DefD := ⟨("_law_same", none), "_law_same", "_law_same", defArgs s_l_same, defBody s_l_same, defScope s_l_same, [], []⟩
def d_l_each_once : He.DefD := ⟨("_law_each_once", none), "_law_each_once", "_law_each_once", defArgs s_l_each_once, defBody s_l_each_once, defScope s_l_each_once, [], []⟩
def d_l_loose : He.DefD := ⟨("_law_loose", none), "_law_loose", "_law_loose", defArgs s_l_loose, defBody s_l_loose, defScope s_l_loose, [], []⟩
def d_l_d_names : He.DefD := ⟨("_law_d_names", none), "_law_d_names", "_law_d_names", defArgs s_l_d_names, defBody s_l_d_names, defScope s_l_d_names, [], []⟩
def d_l_d_pairs : He.DefD := ⟨("_law_d_pairs", none), "_law_d_pairs", "_law_d_pairs", defArgs s_l_d_pairs, defBody s_l_d_pairs, defScope s_l_d_pairs, [], []⟩
def d_l_d_objectors : He.DefD := ⟨("_law_d_objectors", none), "_law_d_objectors", "_law_d_objectors", defArgs s_l_d_objectors, defBody s_l_d_objectors, defScope s_l_d_objectors, [], []⟩
def d_l_d_hits : He.DefD := ⟨("_law_d_hits", none), "_law_d_hits", "_law_d_hits", defArgs s_l_d_hits, defBody s_l_d_hits, defScope s_l_d_hits, [], []⟩
def d_l_d_answers : He.DefD := ⟨("_law_d_answers", none), "_law_d_answers", "_law_d_answers", defArgs s_l_d_answers, defBody s_l_d_answers, defScope s_l_d_answers, [], []⟩
def d_l_d_answered : He.DefD := ⟨("_law_d_answered", none), "_law_d_answered", "_law_d_answered", defArgs s_l_d_answered, defBody s_l_d_answered, defScope s_l_d_answered, [], []⟩
def d_l_d_is_calm : He.DefD := ⟨("_law_d_is_calm", none), "_law_d_is_calm", "_law_d_is_calm", defArgs s_l_d_is_calm, defBody s_l_d_is_calm, defScope s_l_d_is_calm, [], []⟩
def d_l_d_is_held : He.DefD := ⟨("_law_d_is_held", none), "_law_d_is_held", "_law_d_is_held", defArgs s_l_d_is_held, defBody s_l_d_is_held, defScope s_l_d_is_held, [], []⟩
def d_l_d_subsets : He.DefD := ⟨("_law_d_subsets", none), "_law_d_subsets", "_law_d_subsets", defArgs s_l_d_subsets, defBody s_l_d_subsets, defScope s_l_d_subsets, [], []⟩
def d_l_d_lots : He.DefD := ⟨("_law_d_lots", none), "_law_d_lots", "_law_d_lots", defArgs s_l_d_lots, defBody s_l_d_lots, defScope s_l_d_lots, [], []⟩
def d_l_d_within : He.DefD := ⟨("_law_d_within", none), "_law_d_within", "_law_d_within", defArgs s_l_d_within, defBody s_l_d_within, defScope s_l_d_within, [], []⟩
def d_l_met : He.DefD := ⟨("_law_met", none), "_law_met", "_law_met", defArgs s_l_met, defBody s_l_met, defScope s_l_met, [], []⟩
def d_l_smallest : He.DefD := ⟨("_law_smallest", none), "_law_smallest", "_law_smallest", defArgs s_l_smallest, defBody s_l_smallest, defScope s_l_smallest, [], []⟩
def d_l_unsure : He.DefD := ⟨("_law_unsure", none), "_law_unsure", "_law_unsure", defArgs s_l_unsure, defBody s_l_unsure, defScope s_l_unsure, [], []⟩
def d_l_lots_right : He.DefD := ⟨("_law_lots_right", none), "_law_lots_right", "_law_lots_right", defArgs s_l_lots_right, defBody s_l_lots_right, defScope s_l_lots_right, [], []⟩
def d_l_names_right : He.DefD := ⟨("_law_names_right", none), "_law_names_right", "_law_names_right", defArgs s_l_names_right, defBody s_l_names_right, defScope s_l_names_right, [], []⟩
def d_l_things : He.DefD := ⟨("_law_things", none), "_law_things", "_law_things", defArgs s_l_things, defBody s_l_things, defScope s_l_things, [], []⟩
def d_l_floating : He.DefD := ⟨("_law_floating", none), "_law_floating", "_law_floating", defArgs s_l_floating, defBody s_l_floating, defScope s_l_floating, [], []⟩
def d_law : He.DefD := ⟨("law", none), "law", "law", defArgs s_law, defBody s_law, defScope s_law, [], []⟩
def fnA : List He.DefD := [d_initBadLot, d_initNoStatement, d_initNotHeld, d_is_list, d_is_name, d_as_tuples, d_checked_statements, d_is_pair_of, d_checked_objections, d_initDebate, d_checked_statement, d_checked_lot, d_checked_way, d_hit_by, d_clash_in, d_unanswered_in, d_held_lots, d_calm_with, d_greatest_of, d_is_within, d_lots_in, d_fault_in, d_fault_of, d_is_lot, d_smallest_with, d_lacking_lot, d_all_held, d_is_left_alone, d_sure_lots, d_sure_lot, d_is_sure, d_sure_paper]
def fnB : List He.DefD := [d_why_unsure, d_l_z_debate, d_l_z_made, d_l_z_odd_name, d_l_start, d_l_draw, d_l_pick, d_l_mixed, d_l_same, d_l_each_once, d_l_loose, d_l_d_names, d_l_d_pairs, d_l_d_objectors, d_l_d_hits, d_l_d_answers, d_l_d_answered, d_l_d_is_calm, d_l_d_is_held, d_l_d_subsets, d_l_d_lots, d_l_d_within, d_l_met, d_l_smallest, d_l_unsure, d_l_lots_right, d_l_names_right, d_l_things, d_l_floating, d_law]
def fnL : List He.DefD := fnA ++ fnB
def lseA : List PySem.Str := ["DebateError", "BadLot", "BadObjections", "BadStatements", "BadWay", "NoStatement", "NotHeld", "Made", "is_list", "is_name", "as_tuples", "checked_statements", "is_pair_of", "checked_objections", "Debate", "checked_statement", "checked_lot", "checked_way", "hit_by", "answered_in", "least_lot", "clash_in", "unanswered_in", "held_lots", "calm_with", "calm_lots", "greatest_of", "is_within", "spared_in", "lots_in"]
def lseB : List PySem.Str := ["fault_in", "fault_among_held", "fault_of", "is_lot", "smallest_with", "lacking_lot", "all_held", "is_left_alone", "sure_lots", "sure_lot", "is_sure", "sure_paper", "why_unsure", "_law_z_debate", "_law_z_made", "_law_z_odd_name", "_law_start", "_law_draw", "_law_pick", "_law_mixed", "_law_same", "_law_each_once", "_law_loose", "_law_d_names", "_law_d_pairs", "_law_d_objectors", "_law_d_hits", "_law_d_answers", "_law_d_answered", "_law_d_is_calm"]
def lseC : List PySem.Str := ["_law_d_is_held", "_law_d_subsets", "_law_d_lots", "_law_d_within", "_law_met", "_law_smallest", "_law_unsure", "_law_lots_right", "_law_names_right", "_law_things", "_law_floating", "SMALL", "FIGURES", "WAYS"]
def looseAll : List PySem.Str := lseA ++ lseB ++ lseC
def faA : List He.Fa := [.glo "is_list", .glo "is_name", .glo "as_tuples", .glo "checked_statements", .glo "is_pair_of", .glo "checked_objections", .glo "checked_statement", .glo "checked_lot", .glo "checked_way", .glo "hit_by", .glo "clash_in", .glo "unanswered_in", .glo "held_lots", .glo "calm_with", .glo "greatest_of", .glo "is_within", .glo "lots_in", .glo "fault_in", .glo "fault_of", .glo "is_lot", .glo "smallest_with", .glo "lacking_lot", .glo "all_held", .glo "is_left_alone", .glo "sure_lots", .glo "sure_lot", .glo "is_sure", .glo "sure_paper", .glo "why_unsure", .glo "_law_z_debate", .glo "_law_z_made", .glo "_law_z_odd_name"]
def faB : List He.Fa := [.glo "_law_start", .glo "_law_draw", .glo "_law_pick", .glo "_law_mixed", .glo "_law_same", .glo "_law_each_once", .glo "_law_loose", .glo "_law_d_names", .glo "_law_d_pairs", .glo "_law_d_objectors", .glo "_law_d_hits", .glo "_law_d_answers", .glo "_law_d_answered", .glo "_law_d_is_calm", .glo "_law_d_is_held", .glo "_law_d_subsets", .glo "_law_d_lots", .glo "_law_d_within", .glo "_law_met", .glo "_law_smallest", .glo "_law_unsure", .glo "_law_lots_right", .glo "_law_names_right", .glo "_law_things", .glo "_law_floating", .glo "law", .glo "Debate", .glo "BadLot", .glo "NoStatement", .glo "NotHeld"]
def faC : List He.Fa := [.free "all", .free "any", .free "enumerate", .free "int", .free "isinstance", .free "len", .free "list", .free "min", .free "range", .free "set", .free "sorted", .free "str", .free "tuple", .free "zip", .free "dict", .free "bool", .str "SMALL" "abcdefghijklmnopqrstuvwxyz", .str "FIGURES" "0123456789", .cls "Debate", .mkr "Debate", .noat "Debate" "own_statements", .noat "Debate" "own_objections", .noat "Debate" "own_objectors", .noat "Debate" "own_objected", .exm "NoStatement" "NoStatement" true, .exm "NoStatement" "BadLot" false, .exm "NoStatement" "NotHeld" false, .exm "BadLot" "NoStatement" false, .exm "BadLot" "BadLot" true, .exm "BadLot" "NotHeld" false, .exm "NotHeld" "NoStatement" false, .exm "NotHeld" "BadLot" false, .exm "NotHeld" "NotHeld" true, .noat "BadLot" "index", .noat "NoStatement" "thing", .noat "NotHeld" "fault"]
def faL : List He.Fa := faA ++ faB ++ faC
/-- the shape of an own class over ValueError, by looks alone -/
def oexClsB (K : PySem.W.Frag) (C : Addr) : Bool := match K.lookup C with
  | some ⟨.type "type", _, .cls cd, sl⟩ => (match cd.mro, sl.toList with
    | .ref C2 :: bm, [_, _, _, _, some (.builtin n), _] => decide (C2 = C) && (decide (n = "ValueError.__new__") && ((!cd.hasDel) && (cd.hasDict && PySem.HandSPX.refsVE bm)))
    | _, _ => false)
  | _ => false
def oexB (K : PySem.W.Frag) (x : Str) : Bool :=
  oexClsB K (He.ga K x) && (He.eqO (PySem.W.findIn K (.ref (He.ga K x)) "__setattr__") (some (some (.builtin "object.__setattr__"))) &&
    (decide (PySem.W.subIn K (.ref (He.ga K x)) (.type "BaseException") = some true) && (decide (PySem.W.typeIn K (.ref (He.ga K x)) = some (.type "type")) &&
      (PySem.W.keepIn K (.ref (He.ga K x)) && (xfB K (He.ga K x) && (He.eqO (PySem.W.findIn K (.ref (He.ga K x)) "__init__") (some (some (.ref (He.ma K (He.ga K x) "__init__")))) &&
        decide (PySem.W.typeIn K (.ref (He.ma K (He.ga K x) "__init__")) = some (.type "function"))))))))
def exL (K : PySem.W.Frag) : Bool := oexB K "BadLot" && (oexB K "NoStatement" && (oexB K "NotHeld" && He.tupB K "WAYS" [.str "calm", .str "held", .str "whole", .str "least", .str "greatest", .str "settled"] && (decide ((He.cT K ("law", none)).2 ≠ (He.cT K ("greatest_of", none)).2) && (He.Fa.glo "WAYS").ok K)))
abbrev R : PySem.W.OpenRow := PySem.W.OpenLaw.row PySem.Challenge.rw_objections_k22_whole_sure_lots
def tfL : List He.Defn := [("law", none), ("greatest_of", none)]
abbrev hk : PySem.W.Hook := He.hookX 4 faL fnL [] tfL exL
def ob (s : PySem.W.SharedT) : He.AlX := He.obsX 4 faL fnL [] tfL exL (HandSHeadRun.getT s)
theorem ob_eq (s : PySem.W.SharedT) : ob s = hk.obs s.abs := He.obsX_eq (HandSHeadRun.getT_eq s)
theorem run (w : World) : HandSHeadRun.RunEq R (PySem.W.view R.prog [81]) hk ob 6000 looseAll w := by
  intro os
  kernel_rfl
end Ob
set_option maxRecDepth 100000
set_option maxHeartbeats 2000000
/-! Kz: the head's facts, the end. Printed by gen_end.py. -/
namespace Ob
open PySem PySem.Spec PyProof.Rows L2
theorem ba {a b : Bool} (h : (a && b) = true) : a = true ∧ b = true := Bool.and_eq_true_iff.mp h
theorem oexClsB_ok {K : PySem.W.Frag} {C : Addr} (q : oexClsB K C = true) : ∃ nm q N bs bm sn sub ab col dd k0 k1 k2 k3 k5, K.lookup C = some (excClassObj nm q C N bs bm true sn sub ab col dd k0 k1 k2 k3 k5 "ValueError.__new__") ∧ PySem.HandSPX.refsVE bm = true := by
  unfold oexClsB at q
  split at q
  · rename_i dd cd sl ho
    split at q
    · rename_i C2 bm k0 k1 k2 k3 n k5 hm hs
      obtain ⟨h1, q⟩ := ba q
      obtain ⟨h2, q⟩ := ba q
      obtain ⟨h3, q⟩ := ba q
      obtain ⟨h4, h5⟩ := ba q
      have h1 := of_decide_eq_true h1
      have h2 := of_decide_eq_true h2
      have hdel : cd.hasDel = false := by simpa using h3
      clear h3
      subst h1 h2
      obtain ⟨nm, bs, mro, ns, qn, hd, sn, sub, ab, col, del⟩ := cd
      dsimp only at hm hdel h4
      subst hm hdel h4
      have hsl : sl = #[k0, k1, k2, k3, some (.builtin "ValueError.__new__"), k5] := by
        obtain ⟨l⟩ := sl
        simp only at hs
        rw [hs]
      subst hsl
      exact ⟨nm, qn, ns, bs, bm, sn, sub, ab, col, dd, k0, k1, k2, k3, k5, ho, h5⟩
    · cases q
  · cases q
section
variable {P : Program} {w : World} {K : PySem.W.Frag} {h : Heap} {mg : Str → Option Value}
theorem errC_of {x f : Str} {st : Stmt} (g : mg x = some (.ref (He.ga K x))) (q : oexB K x = true) (no : PySem.W.findIn K (.ref (He.ga K x)) f = some none) {fd : FuncData} (F : FunD K "__init__" (x ++ ".__init__") (defArgs st) (defBody st) (defScope st) [] [] (He.ma K (He.ga K x) "__init__") fd) : ErrC K mg x f st (He.ga K x) := by
  obtain ⟨h1, q⟩ := ba q
  obtain ⟨h2, q⟩ := ba q
  obtain ⟨h3, q⟩ := ba q
  obtain ⟨h4, q⟩ := ba q
  obtain ⟨h5, q⟩ := ba q
  obtain ⟨h6, q⟩ := ba q
  obtain ⟨h7, h8⟩ := ba q
  exact ⟨g, ⟨oexClsB_ok h1, He.eqO_ok h2, of_decide_eq_true h3, of_decide_eq_true h4, h5⟩, xfB_ok h6, no, _, fd, F, He.eqO_ok h7, of_decide_eq_true h8⟩
theorem got_of {x : Str} {st : Stmt} (g : mg x = some (.ref (He.ga K x))) (F : ∃ fd, FnP K x st (He.ga K x) fd) : Got K mg x st := let ⟨fd, F⟩ := F; ⟨_, fd, F, g⟩
theorem gotT_of {x : Str} {st : Stmt} (g : mg x = some (.ref (He.ga K x))) (F : ∃ fd, FnP K x st (He.ga K x) fd) : GotT K mg x st (He.cT K (x, none)).1 := by
  obtain ⟨fd, F⟩ := F
  obtain ⟨oc, od, dV, kV, doc, pm, an, cdv, ct, osl, rfl, lk, hcd, _, _⟩ := id F.ex
  obtain ⟨c, rfl⟩ := He.codeIn_ref hcd
  have e : He.codeOf K (x, none) = c := He.codeOf_eq (p := (x, none)) lk rfl
  show GotT K mg x st (He.codeOf K (x, none))
  rw [e]
  exact ⟨_, oc, od, dV, kV, doc, pm, an, ct, osl, lk, hcd, g, F⟩

theorem txt_of (X : K.In h) (G : h.Ns mainGlobals mg) (c : He.SaysD faL fnL K) : Txt K mg where
  m_all := He.free_ok X G (c.fact 62 (f := .free "all") rfl)
  m_any := He.free_ok X G (c.fact 63 (f := .free "any") rfl)
  m_enumerate := He.free_ok X G (c.fact 64 (f := .free "enumerate") rfl)
  m_int := He.free_ok X G (c.fact 65 (f := .free "int") rfl)
  m_isinstance := He.free_ok X G (c.fact 66 (f := .free "isinstance") rfl)
  m_len := He.free_ok X G (c.fact 67 (f := .free "len") rfl)
  m_list := He.free_ok X G (c.fact 68 (f := .free "list") rfl)
  m_min := He.free_ok X G (c.fact 69 (f := .free "min") rfl)
  m_range := He.free_ok X G (c.fact 70 (f := .free "range") rfl)
  m_set := He.free_ok X G (c.fact 71 (f := .free "set") rfl)
  m_sorted := He.free_ok X G (c.fact 72 (f := .free "sorted") rfl)
  m_str := He.free_ok X G (c.fact 73 (f := .free "str") rfl)
  m_tuple := He.free_ok X G (c.fact 74 (f := .free "tuple") rfl)
  m_zip := He.free_ok X G (c.fact 75 (f := .free "zip") rfl)
  m_dict := He.free_ok X G (c.fact 76 (f := .free "dict") rfl)
  m_bool := He.free_ok X G (c.fact 77 (f := .free "bool") rfl)
  g_is_list := got_of (He.glo_ok X G (c.fact 0 (f := .glo "is_list") rfl)) (c.def_ 3 (d := d_is_list) rfl)
  g_is_name := got_of (He.glo_ok X G (c.fact 1 (f := .glo "is_name") rfl)) (c.def_ 4 (d := d_is_name) rfl)
  g_as_tuples := got_of (He.glo_ok X G (c.fact 2 (f := .glo "as_tuples") rfl)) (c.def_ 5 (d := d_as_tuples) rfl)
  g_checked_statements := got_of (He.glo_ok X G (c.fact 3 (f := .glo "checked_statements") rfl)) (c.def_ 6 (d := d_checked_statements) rfl)
  g_is_pair_of := got_of (He.glo_ok X G (c.fact 4 (f := .glo "is_pair_of") rfl)) (c.def_ 7 (d := d_is_pair_of) rfl)
  g_checked_objections := got_of (He.glo_ok X G (c.fact 5 (f := .glo "checked_objections") rfl)) (c.def_ 8 (d := d_checked_objections) rfl)
  g_checked_statement := got_of (He.glo_ok X G (c.fact 6 (f := .glo "checked_statement") rfl)) (c.def_ 10 (d := d_checked_statement) rfl)
  g_checked_lot := got_of (He.glo_ok X G (c.fact 7 (f := .glo "checked_lot") rfl)) (c.def_ 11 (d := d_checked_lot) rfl)
  g_checked_way := got_of (He.glo_ok X G (c.fact 8 (f := .glo "checked_way") rfl)) (c.def_ 12 (d := d_checked_way) rfl)
  g_hit_by := got_of (He.glo_ok X G (c.fact 9 (f := .glo "hit_by") rfl)) (c.def_ 13 (d := d_hit_by) rfl)
  g_clash_in := got_of (He.glo_ok X G (c.fact 10 (f := .glo "clash_in") rfl)) (c.def_ 14 (d := d_clash_in) rfl)
  g_unanswered_in := got_of (He.glo_ok X G (c.fact 11 (f := .glo "unanswered_in") rfl)) (c.def_ 15 (d := d_unanswered_in) rfl)
  g_held_lots := got_of (He.glo_ok X G (c.fact 12 (f := .glo "held_lots") rfl)) (c.def_ 16 (d := d_held_lots) rfl)
  g_calm_with := got_of (He.glo_ok X G (c.fact 13 (f := .glo "calm_with") rfl)) (c.def_ 17 (d := d_calm_with) rfl)
  g_greatest_of := got_of (He.glo_ok X G (c.fact 14 (f := .glo "greatest_of") rfl)) (c.def_ 18 (d := d_greatest_of) rfl)
  g_is_within := got_of (He.glo_ok X G (c.fact 15 (f := .glo "is_within") rfl)) (c.def_ 19 (d := d_is_within) rfl)
  g_lots_in := got_of (He.glo_ok X G (c.fact 16 (f := .glo "lots_in") rfl)) (c.def_ 20 (d := d_lots_in) rfl)
  g_fault_in := got_of (He.glo_ok X G (c.fact 17 (f := .glo "fault_in") rfl)) (c.def_ 21 (d := d_fault_in) rfl)
  g_fault_of := got_of (He.glo_ok X G (c.fact 18 (f := .glo "fault_of") rfl)) (c.def_ 22 (d := d_fault_of) rfl)
  g_is_lot := got_of (He.glo_ok X G (c.fact 19 (f := .glo "is_lot") rfl)) (c.def_ 23 (d := d_is_lot) rfl)
  g_smallest_with := got_of (He.glo_ok X G (c.fact 20 (f := .glo "smallest_with") rfl)) (c.def_ 24 (d := d_smallest_with) rfl)
  g_lacking_lot := got_of (He.glo_ok X G (c.fact 21 (f := .glo "lacking_lot") rfl)) (c.def_ 25 (d := d_lacking_lot) rfl)
  g_all_held := got_of (He.glo_ok X G (c.fact 22 (f := .glo "all_held") rfl)) (c.def_ 26 (d := d_all_held) rfl)
  g_is_left_alone := got_of (He.glo_ok X G (c.fact 23 (f := .glo "is_left_alone") rfl)) (c.def_ 27 (d := d_is_left_alone) rfl)
  g_sure_lots := got_of (He.glo_ok X G (c.fact 24 (f := .glo "sure_lots") rfl)) (c.def_ 28 (d := d_sure_lots) rfl)
  g_sure_lot := got_of (He.glo_ok X G (c.fact 25 (f := .glo "sure_lot") rfl)) (c.def_ 29 (d := d_sure_lot) rfl)
  g_is_sure := got_of (He.glo_ok X G (c.fact 26 (f := .glo "is_sure") rfl)) (c.def_ 30 (d := d_is_sure) rfl)
  g_sure_paper := got_of (He.glo_ok X G (c.fact 27 (f := .glo "sure_paper") rfl)) (c.def_ 31 (d := d_sure_paper) rfl)
  g_why_unsure := got_of (He.glo_ok X G (c.fact 28 (f := .glo "why_unsure") rfl)) (c.def_ 32 (d := d_why_unsure) rfl)
  g_l_z_debate := got_of (He.glo_ok X G (c.fact 29 (f := .glo "_law_z_debate") rfl)) (c.def_ 33 (d := d_l_z_debate) rfl)
  g_l_z_made := got_of (He.glo_ok X G (c.fact 30 (f := .glo "_law_z_made") rfl)) (c.def_ 34 (d := d_l_z_made) rfl)
  g_l_z_odd_name := got_of (He.glo_ok X G (c.fact 31 (f := .glo "_law_z_odd_name") rfl)) (c.def_ 35 (d := d_l_z_odd_name) rfl)
  g_l_start := got_of (He.glo_ok X G (c.fact 32 (f := .glo "_law_start") rfl)) (c.def_ 36 (d := d_l_start) rfl)
  g_l_draw := got_of (He.glo_ok X G (c.fact 33 (f := .glo "_law_draw") rfl)) (c.def_ 37 (d := d_l_draw) rfl)
  g_l_pick := got_of (He.glo_ok X G (c.fact 34 (f := .glo "_law_pick") rfl)) (c.def_ 38 (d := d_l_pick) rfl)
  g_l_mixed := got_of (He.glo_ok X G (c.fact 35 (f := .glo "_law_mixed") rfl)) (c.def_ 39 (d := d_l_mixed) rfl)
  g_l_same := got_of (He.glo_ok X G (c.fact 36 (f := .glo "_law_same") rfl)) (c.def_ 40 (d := d_l_same) rfl)
  g_l_each_once := got_of (He.glo_ok X G (c.fact 37 (f := .glo "_law_each_once") rfl)) (c.def_ 41 (d := d_l_each_once) rfl)
  g_l_loose := got_of (He.glo_ok X G (c.fact 38 (f := .glo "_law_loose") rfl)) (c.def_ 42 (d := d_l_loose) rfl)
  g_l_d_names := got_of (He.glo_ok X G (c.fact 39 (f := .glo "_law_d_names") rfl)) (c.def_ 43 (d := d_l_d_names) rfl)
  g_l_d_pairs := got_of (He.glo_ok X G (c.fact 40 (f := .glo "_law_d_pairs") rfl)) (c.def_ 44 (d := d_l_d_pairs) rfl)
  g_l_d_objectors := got_of (He.glo_ok X G (c.fact 41 (f := .glo "_law_d_objectors") rfl)) (c.def_ 45 (d := d_l_d_objectors) rfl)
  g_l_d_hits := got_of (He.glo_ok X G (c.fact 42 (f := .glo "_law_d_hits") rfl)) (c.def_ 46 (d := d_l_d_hits) rfl)
  g_l_d_answers := got_of (He.glo_ok X G (c.fact 43 (f := .glo "_law_d_answers") rfl)) (c.def_ 47 (d := d_l_d_answers) rfl)
  g_l_d_answered := got_of (He.glo_ok X G (c.fact 44 (f := .glo "_law_d_answered") rfl)) (c.def_ 48 (d := d_l_d_answered) rfl)
  g_l_d_is_calm := got_of (He.glo_ok X G (c.fact 45 (f := .glo "_law_d_is_calm") rfl)) (c.def_ 49 (d := d_l_d_is_calm) rfl)
  g_l_d_is_held := got_of (He.glo_ok X G (c.fact 46 (f := .glo "_law_d_is_held") rfl)) (c.def_ 50 (d := d_l_d_is_held) rfl)
  g_l_d_subsets := got_of (He.glo_ok X G (c.fact 47 (f := .glo "_law_d_subsets") rfl)) (c.def_ 51 (d := d_l_d_subsets) rfl)
  g_l_d_lots := got_of (He.glo_ok X G (c.fact 48 (f := .glo "_law_d_lots") rfl)) (c.def_ 52 (d := d_l_d_lots) rfl)
  g_l_d_within := got_of (He.glo_ok X G (c.fact 49 (f := .glo "_law_d_within") rfl)) (c.def_ 53 (d := d_l_d_within) rfl)
  g_l_met := got_of (He.glo_ok X G (c.fact 50 (f := .glo "_law_met") rfl)) (c.def_ 54 (d := d_l_met) rfl)
  g_l_smallest := got_of (He.glo_ok X G (c.fact 51 (f := .glo "_law_smallest") rfl)) (c.def_ 55 (d := d_l_smallest) rfl)
  g_l_unsure := got_of (He.glo_ok X G (c.fact 52 (f := .glo "_law_unsure") rfl)) (c.def_ 56 (d := d_l_unsure) rfl)
  g_l_lots_right := got_of (He.glo_ok X G (c.fact 53 (f := .glo "_law_lots_right") rfl)) (c.def_ 57 (d := d_l_lots_right) rfl)
  g_l_names_right := got_of (He.glo_ok X G (c.fact 54 (f := .glo "_law_names_right") rfl)) (c.def_ 58 (d := d_l_names_right) rfl)
  g_l_things := got_of (He.glo_ok X G (c.fact 55 (f := .glo "_law_things") rfl)) (c.def_ 59 (d := d_l_things) rfl)
  g_l_floating := got_of (He.glo_ok X G (c.fact 56 (f := .glo "_law_floating") rfl)) (c.def_ 60 (d := d_l_floating) rfl)
  g_law := got_of (He.glo_ok X G (c.fact 57 (f := .glo "law") rfl)) (c.def_ 61 (d := d_law) rfl)
theorem errs_of (X : K.In h) (G : h.Ns mainGlobals mg) (c : He.SaysD faL fnL K) (m : exL K = true) : Errs K mg (He.ga K "BadLot") (He.ga K "NoStatement") (He.ga K "NotHeld") where
  bl := errC_of (He.glo_ok X G (c.fact 59 (f := .glo "BadLot") rfl)) (ba m).1 (He.noat_ok (c.fact 95 (f := .noat "BadLot" "index") rfl)) (Classical.choose_spec (c.def_ 0 (d := d_initBadLot) rfl))
  ns := errC_of (He.glo_ok X G (c.fact 60 (f := .glo "NoStatement") rfl)) (ba (ba m).2).1 (He.noat_ok (c.fact 96 (f := .noat "NoStatement" "thing") rfl)) (Classical.choose_spec (c.def_ 1 (d := d_initNoStatement) rfl))
  nh := errC_of (He.glo_ok X G (c.fact 61 (f := .glo "NotHeld") rfl)) (ba (ba (ba (ba m).2).2).1).1 (He.noat_ok (c.fact 97 (f := .noat "NotHeld" "fault") rfl)) (Classical.choose_spec (c.def_ 2 (d := d_initNotHeld) rfl))
  ss := He.exm_ok (c.fact 86 (f := .exm "NoStatement" "NoStatement" true) rfl)
  ls := He.exm_ok (c.fact 89 (f := .exm "BadLot" "NoStatement" false) rfl)
  ll := He.exm_ok (c.fact 90 (f := .exm "BadLot" "BadLot" true) rfl)
  hs := He.exm_ok (c.fact 92 (f := .exm "NotHeld" "NoStatement" false) rfl)
  hl := He.exm_ok (c.fact 93 (f := .exm "NotHeld" "BadLot" false) rfl)
  hh := He.exm_ok (c.fact 94 (f := .exm "NotHeld" "NotHeld" true) rfl)
theorem ways_of (X : K.In h) (G : h.Ns mainGlobals mg) (m : exL K = true) : Ways K mg :=
  ⟨_, He.glo_ok X G (ba (ba (ba (ba m).2).2).2).2, fun H => He.tupB_ok (ba (ba (ba (ba m).2).2).1).2 H⟩
theorem small_of (X : K.In h) (G : h.Ns mainGlobals mg) (c : He.SaysD faL fnL K) : Small mg := ⟨He.str_ok X G (c.fact 78 (f := .str "SMALL" "abcdefghijklmnopqrstuvwxyz") rfl), He.str_ok X G (c.fact 79 (f := .str "FIGURES" "0123456789") rfl)⟩
theorem debMk_of (X : K.In h) (G : h.Ns mainGlobals mg) (c : He.SaysD faL fnL K) : DebMk K mg (He.ga K "Debate") where
  g := He.glo_ok X G (c.fact 58 (f := .glo "Debate") rfl)
  c := ⟨He.cls_ok (c.fact 80 (f := .cls "Debate") rfl), He.noat_ok (c.fact 82 (f := .noat "Debate" "own_statements") rfl), He.noat_ok (c.fact 83 (f := .noat "Debate" "own_objections") rfl), He.noat_ok (c.fact 84 (f := .noat "Debate" "own_objectors") rfl), He.noat_ok (c.fact 85 (f := .noat "Debate" "own_objected") rfl)⟩
  made := let ⟨fd, F⟩ := (c.def_ 9 (d := d_initDebate) rfl); ⟨_, fd, He.mkr_ok (c.fact 81 (f := .mkr "Debate") rfl), F⟩
/-- the row's end -/
theorem law_at {l : PySem.W.OpenLaw} {fa : Addr} (X : K.In h) (G : h.Ns mainGlobals mg) (hmg : mg ("law" : Str) = some (.ref fa)) (S : He.SaysX faL fnL [] tfL exL w h K) : LamX.LawAtS l w K CX0 12 63 "_law_script" mg fa h := by
  have c : He.SaysD faL fnL K := S.t.d
  have T := txt_of X G c
  have Er := errs_of X G c S.more
  have Wy := ways_of X G S.more
  have Nm := small_of X G c
  have Dm := debMk_of X G c
  have gl : mg ("law" : Str) = some (.ref (He.ga K "law")) := He.glo_ok X G (c.fact 57 (f := .glo "law") rfl)
  have efa : fa = He.ga K "law" := by
    rw [hmg] at gl
    exact Value.ref.inj (Option.some.inj gl)
  subst efa
  have flaw := gotT_of (st := s_law) gl (c.def_ 61 (d := d_law) rfl)
  have fgr := gotT_of (st := s_greatest_of) (He.glo_ok X G (c.fact 14 (f := .glo "greatest_of") rfl)) (c.def_ 18 (d := d_greatest_of) rfl)
  have ne : (He.cT K ("law", none)).2 ≠ (He.cT K ("greatest_of", none)).2 := of_decide_eq_true (ba (ba (ba (ba S.more).2).2).2).1
  obtain ⟨f, oc, od, dV, kV, doc, pm, an, ct, osl, lk, hcd, g, F⟩ := flaw.ex
  have ef : f = He.ga K "law" := by
    rw [gl] at g
    exact (Value.ref.inj (Option.some.inj g)).symm
  subst ef
  have inT : ∀ p ∈ [He.cT K ("law", none), He.cT K ("greatest_of", none)], ∃ d ∈ tfL, p = He.cT K d := by
    intro p hp
    rcases List.mem_cons.mp hp with rfl | hp
    · exact ⟨("law", none), List.mem_cons_self .., rfl⟩
    · rw [List.mem_singleton.mp hp]
      exact ⟨("greatest_of", none), List.mem_cons_of_mem _ (List.mem_cons_self ..), rfl⟩
  have b := FunD.bindsA (ps := ["_law_script"]) F fun _ _ _ _ _ _ us hl => match us, hl with | [_], _ => rfl
  refine ⟨_, [He.cT K ("law", none), He.cT K ("greatest_of", none)], spLaw K, fun p hp => ?_, fun p hp => ?_, fun p hp => ?_, fun s u => b s [u] rfl, fun H a ns hl _ hH hS => ?_, fun base Xb Gb TB => ?_⟩
  · obtain ⟨d, hd, rfl⟩ := inT p hp
    exact S.empty d hd
  · obtain ⟨d, hd, rfl⟩ := inT p hp
    exact S.out d hd
  · obtain ⟨d, hd, rfl⟩ := inT p hp
    exact PySem.W.codeHd_of_K X (S.hd d hd)
  · refine ⟨H, ns, .ref a, rfl, ⟨exr _, fun p hp => ?_⟩, ⟨a, _, rfl, hS, int_allR⟩, by omega, fun _ => rfl⟩
    rcases List.mem_cons.mp hp with rfl | hp
    · exact LamX.TabS.nil (hH _ (List.mem_cons_self ..))
    · rw [List.mem_singleton.mp hp]
      exact LamX.TabS.nil (hH _ (List.mem_cons_of_mem _ (List.mem_cons_self ..)))
  · exact ok_law T ⟨TB _ (List.mem_cons_self ..), TB _ (List.mem_cons_of_mem _ (List.mem_cons_self ..)), ne, fgr, flaw⟩ Er Wy Nm Dm lk hcd
end
end Ob
open PySem PySem.W PySem.Calls PyProof.Rows
theorem PySem.Challenge.cw_objections_k22_whole_sure_lots_holds : PySem.Challenge.rw_objections_k22_whole_sure_lots.Holds := by
  w_on; o_law
  refine HandSHeadRun.head_any (r := OpenLaw.row PySem.Challenge.rw_objections_k22_whole_sure_lots) (q := view (OpenLaw.row PySem.Challenge.rw_objections_k22_whole_sure_lots).prog [81]) (H := Ob.hk) (ob := Ob.ob) (M := 6000) (loose := Ob.looseAll) (d := HandSHeadRun.topDef (OpenLaw.row PySem.Challenge.rw_objections_k22_whole_sure_lots).prog 81) (kwd := []) Ob.ob_eq
    (by kernel_rfl) (fun s => by kernel_rfl) Ob.run (by kernel_rfl) (by kernel_rfl) (by kernel_rfl) (by rfl) (by first | assumption | decide +kernel) (by decide +kernel) ⟨rfl, rfl, rfl, rfl, rfl, by decide +kernel⟩ ?hw ?hc
  case hw => w_witness2
  case hc =>
    refine LamX.walk_ofTsE (l := PySem.Challenge.rw_objections_k22_whole_sure_lots) (n := 63) (k := 12) (x := "_law_script") (CX := fun _ => L2.CX0) rfl (by decide) (by kernel_rfl) ⟨rfl, by decide, by decide⟩ ?F (fun _ _ _ _ _ z => z)
    intro w mg fa h Y G hmg0
    obtain ⟨K, KX, c⟩ := Y
    have hmg : mg ("law" : PySem.Str) = some (.ref fa) := by
      have e : (HandSHeadRun.topDef (OpenLaw.row PySem.Challenge.rw_objections_k22_whole_sure_lots).prog 81).name = ("law" : PySem.Str) := by kernel_rfl
      rw [← e]
      exact hmg0
    exact ⟨K, KX, Ob.law_at KX G hmg c⟩
