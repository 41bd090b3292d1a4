import PyProof.Rows.All
import Wide.All
import OpenK.AllK
import Wide.FinOn
import HandS.Defaults
import HandS.ExcField
import HandS.ExcInit
import HandS.ExcValue
import HandS.Flow
import HandS.ForExc
import HandS.ForMost
import HandS.Head0
import HandS.Head1
import HandS.Head2
import HandS.HeadHook2
import HandS.HeadHook3
import HandS.HeadHook4
import HandS.HeadWalk
import HandS.IsInst
import HandS.Lambda
import HandS.Nested
import HandS.NestedK
import HandS.Small
import HandS.Strs
import HandS.Style
import HandS.Text
import HandS.TupAny
import HandS.WordsDict
import HandS.WordsExc
import HandS.Zip
import KE.DataEq
import KE.KExcIs
import KE.KExcSuper
import KE.KStateDown
import KE.KUnpackStar
import Lean
import PyProof.ExcBaseAll.ValueError
import PyProof.FactsAll.subtypes_4
import PyProof.ListOps
import PyProof.Rows.StrSplitCount
import PyProof.Rows.StrSplitJoin
import PyProof.StrOps2
import PyProof.SumWalkG
import PyProof.WalkInts
import PySem.Challenge.RW_mergeheld_k79_whole_texts_of_programs
section
set_option Elab.async false
set_option linter.all false
set_option maxRecDepth 100000
/-! engine: data of tuples, frames, what a def keeps -/
namespace MH
open PySem PySem.Spec PyProof.Rows L2
abbrev D := PyData
abbrev Fg := PySem.W.Frag

/-! ### data that never change -/
mutual
inductive Dt (K : Fg) (H : Hp) : V → D → Prop
  | non : Dt K H .non .none
  | bl (b : Bool) : Dt K H (.bl b) (.bool b)
  | int (i : Int) : Dt K H (.int i) (.int i)
  | str (x : Str) (h : x.length ≤ sizeLine) : Dt K H (.str x) (.str x)
  | tup {a : Addr} {xs : List V} {ds : List D} : SqT K H a xs → DtAll K H xs ds → Dt K H (.ref a) (.tuple ds)
  | lst {a : Addr} (xs : List V) : H a = some (.lst xs) → Dt K H (.ref a) (.list [])
inductive DtAll (K : Fg) (H : Hp) : List V → List D → Prop
  | nil : DtAll K H [] []
  | cons {v : V} {vs : List V} {d : D} {ds : List D} : Dt K H v d → DtAll K H vs ds → DtAll K H (v :: vs) (d :: ds)
end
/-- tuples stand, lists stay lists -/
structure StT (K : Fg) (H H' : Hp) : Prop where
  t : ∀ a xs, SqT K H a xs → SqT K H' a xs
  l : ∀ a xs, H a = some (.lst xs) → ∃ ys, H' a = some (.lst ys)
theorem StT.refl {K : Fg} {H : Hp} : StT K H H := ⟨fun _ _ h => h, fun _ xs h => ⟨xs, h⟩⟩
theorem StT.trans {K : Fg} {H H1 H2 : Hp} (a : StT K H H1) (b : StT K H1 H2) : StT K H H2 :=
  ⟨fun c xs h => b.t c xs (a.t c xs h), fun c xs h => by obtain ⟨ys, h⟩ := a.l c xs h; exact b.l c ys h⟩
theorem StT.same {K : Fg} {H H' : Hp} (s : Same H H') : StT K H H' := ⟨fun a xs h => by
  rcases h with (h | ⟨o, h⟩) | h
  · exact .inl (.inl (s _ _ h))
  · exact .inl (.inr ⟨o, s _ _ h⟩)
  · exact .inr h, fun a xs h => ⟨xs, s _ _ h⟩⟩
/-- no tuple, nothing locked -/
def Soft : Option HO → Prop
  | some (.tup _) => False
  | some (.frz _ _) => False
  | _ => True
theorem StT.put {K : Fg} {H : Hp} {a : Addr} {o : HO} (h : Soft (H a)) (hl : ∀ xs, H a = some (.lst xs) → ∃ ys, o = .lst ys) : StT K H (upd H a o) := ⟨fun b xs q => by
  rcases q with (q | ⟨u, q⟩) | q
  · exact .inl (.inl (by rw [upd_ne (fun z => by subst z; rw [q] at h; exact h)]; exact q))
  · exact .inl (.inr ⟨u, by rw [upd_ne (fun z => by subst z; rw [q] at h; exact h)]; exact q⟩)
  · exact .inr q, fun b xs q => by
  by_cases e : b = a
  · subst e
    obtain ⟨ys, rfl⟩ := hl xs q
    exact ⟨ys, upd_same⟩
  · exact ⟨xs, by rw [upd_ne e]; exact q⟩⟩
theorem StT.new {K : Fg} {H : Hp} {a : Addr} {o : HO} (h : H a = none) : StT K H (upd H a o) := StT.put (by rw [h]; trivial) (fun xs q => by rw [h] at q; cases q)
theorem StT.lst {K : Fg} {H : Hp} {a : Addr} {xs ys : List V} (h : H a = some (.lst xs)) : StT K H (upd H a (.lst ys)) := StT.put (by rw [h]; trivial) (fun _ _ => ⟨ys, rfl⟩)
mutual
theorem Dt.mono {K : Fg} {H H' : Hp} (s : StT K H H') : ∀ {v : V} {d : D}, Dt K H v d → Dt K H' v d
  | _, _, .non => .non
  | _, _, .bl b => .bl b
  | _, _, .int i => .int i
  | _, _, .str x h => .str x h
  | _, _, .tup h r => .tup (s.t _ _ h) (DtAll.mono s r)
  | _, _, .lst xs h => by obtain ⟨ys, h⟩ := s.l _ xs h; exact .lst ys h
theorem DtAll.mono {K : Fg} {H H' : Hp} (s : StT K H H') : ∀ {vs : List V} {ds : List D}, DtAll K H vs ds → DtAll K H' vs ds
  | _, _, .nil => .nil
  | _, _, .cons h t => .cons (Dt.mono s h) (DtAll.mono s t)
end
mutual
/-- no list within -/
def noL : D → Bool
  | .list _ => false
  | .tuple ds => noLs ds
  | _ => true
def noLs : List D → Bool
  | [] => true
  | d :: ds => noL d && noLs ds
end
mutual
theorem Dt.dp {K : Fg} {H : Hp} : ∀ {v : V} {d : D}, Dt K H v d → noL d = true → Dp K H v d
  | _, _, .non, _ => .non
  | _, _, .bl b, _ => .bl b
  | _, _, .int i, _ => .int i
  | _, _, .str x _, _ => .str x
  | _, _, .tup h r, n => .tup h (DtAll.dp r (by unfold noL at n; exact n))
  | _, _, .lst _ _, n => by cases n
theorem DtAll.dp {K : Fg} {H : Hp} : ∀ {vs : List V} {ds : List D}, DtAll K H vs ds → noLs ds = true → DpAll K H vs ds
  | _, _, .nil, _ => .nil
  | _, _, .cons h t, n => by
    unfold noLs at n
    rw [Bool.and_eq_true] at n
    exact .cons (Dt.dp h n.1) (DtAll.dp t n.2)
end
theorem DtAll.length {K : Fg} {H : Hp} : ∀ {vs : List V} {ds : List D}, DtAll K H vs ds → vs.length = ds.length
  | _, _, .nil => rfl
  | _, _, .cons _ t => congrArg (· + 1) (DtAll.length t)
theorem DtAll.get {K : Fg} {H : Hp} : ∀ {vs : List V} {ds : List D} {i : Nat} {d : D}, DtAll K H vs ds → ds[i]? = some d → ∃ v, vs[i]? = some v ∧ Dt K H v d
  | _, _, _, _, .nil, e => by simp at e
  | _, _, 0, _, .cons h _, e => by
    have e : some _ = some _ := e
    cases e
    exact ⟨_, rfl, h⟩
  | _, _, i + 1, _, .cons _ t, e => DtAll.get (i := i) t (by simpa using e)
theorem DtAll.getV {K : Fg} {H : Hp} : ∀ {vs : List V} {ds : List D} {i : Nat} {v : V}, DtAll K H vs ds → vs[i]? = some v → ∃ d, ds[i]? = some d ∧ Dt K H v d
  | _, _, _, _, .nil, e => by simp at e
  | _, _, 0, _, .cons h _, e => by
    have e : some _ = some _ := e
    cases e
    exact ⟨_, rfl, h⟩
  | _, _, i + 1, _, .cons _ t, e => DtAll.getV (i := i) t (by simpa using e)
theorem DtAll.append {K : Fg} {H : Hp} : ∀ {vs ws : List V} {ds es : List D}, DtAll K H vs ds → DtAll K H ws es → DtAll K H (vs ++ ws) (ds ++ es)
  | _, _, _, _, .nil, t => t
  | _, _, _, _, .cons h t, u => .cons h (DtAll.append t u)
theorem DtAll.take {K : Fg} {H : Hp} : ∀ {vs : List V} {ds : List D} (n : Nat), DtAll K H vs ds → DtAll K H (vs.take n) (ds.take n)
  | _, _, 0, _ => by simpa using DtAll.nil
  | _, _, _ + 1, .nil => .nil
  | _, _, n + 1, .cons h t => .cons h (DtAll.take n t)
theorem DtAll.drop {K : Fg} {H : Hp} : ∀ {vs : List V} {ds : List D} (n : Nat), DtAll K H vs ds → DtAll K H (vs.drop n) (ds.drop n)
  | _, _, 0, h => h
  | _, _, _ + 1, .nil => .nil
  | _, _, n + 1, .cons _ t => DtAll.drop n t
theorem DtAll.strs {K : Fg} {H : Hp} : ∀ {xs : List Str}, (∀ x ∈ xs, x.length ≤ sizeLine) → DtAll K H (xs.map V.str) (xs.map PyData.str)
  | [], _ => .nil
  | x :: r, h => .cons (.str x (h x List.mem_cons_self)) (DtAll.strs fun y hy => h y (List.mem_cons_of_mem _ hy))
theorem DtAll.strsLe {K : Fg} {H : Hp} : ∀ {vs : List V} {xs : List Str}, DtAll K H vs (xs.map PyData.str) → ∀ x ∈ xs, x.length ≤ sizeLine
  | _, [], _ => fun x hx => by cases hx
  | _, y :: r, h => by
    cases h with
    | cons h t =>
      cases h with
      | str _ hl =>
        intro x hx
        rcases List.mem_cons.mp hx with rfl | hx
        · exact hl
        · exact DtAll.strsLe t x hx
theorem DtAll.strsV {K : Fg} {H : Hp} : ∀ {vs : List V} {xs : List Str}, DtAll K H vs (xs.map PyData.str) → vs = xs.map V.str
  | _, [], h => by cases h; rfl
  | _, x :: r, h => by
    cases h with
    | cons h t =>
      cases h
      rw [DtAll.strsV t]
      rfl
theorem DtAll.strsD {K : Fg} {H : Hp} : ∀ {ds : List D} {xs : List Str}, DtAll K H (xs.map V.str) ds → ds = xs.map PyData.str
  | _, [], h => by cases h; rfl
  | _, x :: r, h => by
    cases h with
    | cons h t =>
      cases h
      rw [DtAll.strsD t]
      rfl
/-! ### kinds -/
def tyName : D → String
  | .none => "NoneType"
  | .bool _ => "bool"
  | .int _ => "int"
  | .str _ => "str"
  | .list _ => "list"
  | .tuple _ => "tuple"
  | .dict _ => "dict"
def isT (t : String) (d : D) : Bool := (kitB (tyName d) t) == some true
theorem Dt.ty {K : Fg} {H : Hp} {v : V} {d : D} (h : Dt K H v d) : TyX K H v (.type (tyName d)) := by
  cases h with
  | non => exact .base .non
  | bl b => exact .base (.bl b)
  | int i => exact .base (.int i)
  | str x _ => exact .base (.str x)
  | tup q _ =>
    rcases q with (q | ⟨o, q⟩) | ⟨o, its, n, q, c, _⟩
    · exact .base (.tup q)
    · exact .fTuple q
    · exact .kTuple q c
  | lst xs q => exact .base (.lst q)
def is_str : D → Bool
  | .none => false
  | .bool _ => false
  | .int _ => false
  | .str _ => true
  | .list _ => false
  | .tuple _ => false
  | .dict _ => false
theorem kit_str : ∀ d : D, kitB (tyName d) "str" = some (is_str d)
  | .none => (by decide +kernel : kitB "NoneType" "str" = some false)
  | .bool _ => (by decide +kernel : kitB "bool" "str" = some false)
  | .int _ => (by decide +kernel : kitB "int" "str" = some false)
  | .str _ => (by decide +kernel : kitB "str" "str" = some true)
  | .list _ => (by decide +kernel : kitB "list" "str" = some false)
  | .tuple _ => (by decide +kernel : kitB "tuple" "str" = some false)
  | .dict _ => (by decide +kernel : kitB "dict" "str" = some false)
def is_tuple : D → Bool
  | .none => false
  | .bool _ => false
  | .int _ => false
  | .str _ => false
  | .list _ => false
  | .tuple _ => true
  | .dict _ => false
theorem kit_tuple : ∀ d : D, kitB (tyName d) "tuple" = some (is_tuple d)
  | .none => (by decide +kernel : kitB "NoneType" "tuple" = some false)
  | .bool _ => (by decide +kernel : kitB "bool" "tuple" = some false)
  | .int _ => (by decide +kernel : kitB "int" "tuple" = some false)
  | .str _ => (by decide +kernel : kitB "str" "tuple" = some false)
  | .list _ => (by decide +kernel : kitB "list" "tuple" = some false)
  | .tuple _ => (by decide +kernel : kitB "tuple" "tuple" = some true)
  | .dict _ => (by decide +kernel : kitB "dict" "tuple" = some false)
def is_int : D → Bool
  | .none => false
  | .bool _ => true
  | .int _ => true
  | .str _ => false
  | .list _ => false
  | .tuple _ => false
  | .dict _ => false
theorem kit_int : ∀ d : D, kitB (tyName d) "int" = some (is_int d)
  | .none => (by decide +kernel : kitB "NoneType" "int" = some false)
  | .bool _ => (by decide +kernel : kitB "bool" "int" = some true)
  | .int _ => (by decide +kernel : kitB "int" "int" = some true)
  | .str _ => (by decide +kernel : kitB "str" "int" = some false)
  | .list _ => (by decide +kernel : kitB "list" "int" = some false)
  | .tuple _ => (by decide +kernel : kitB "tuple" "int" = some false)
  | .dict _ => (by decide +kernel : kitB "dict" "int" = some false)
def is_bool : D → Bool
  | .none => false
  | .bool _ => true
  | .int _ => false
  | .str _ => false
  | .list _ => false
  | .tuple _ => false
  | .dict _ => false
theorem kit_bool : ∀ d : D, kitB (tyName d) "bool" = some (is_bool d)
  | .none => (by decide +kernel : kitB "NoneType" "bool" = some false)
  | .bool _ => (by decide +kernel : kitB "bool" "bool" = some true)
  | .int _ => (by decide +kernel : kitB "int" "bool" = some false)
  | .str _ => (by decide +kernel : kitB "str" "bool" = some false)
  | .list _ => (by decide +kernel : kitB "list" "bool" = some false)
  | .tuple _ => (by decide +kernel : kitB "tuple" "bool" = some false)
  | .dict _ => (by decide +kernel : kitB "dict" "bool" = some false)
def is_list : D → Bool
  | .none => false
  | .bool _ => false
  | .int _ => false
  | .str _ => false
  | .list _ => true
  | .tuple _ => false
  | .dict _ => false
theorem kit_list : ∀ d : D, kitB (tyName d) "list" = some (is_list d)
  | .none => (by decide +kernel : kitB "NoneType" "list" = some false)
  | .bool _ => (by decide +kernel : kitB "bool" "list" = some false)
  | .int _ => (by decide +kernel : kitB "int" "list" = some false)
  | .str _ => (by decide +kernel : kitB "str" "list" = some false)
  | .list _ => (by decide +kernel : kitB "list" "list" = some true)
  | .tuple _ => (by decide +kernel : kitB "tuple" "list" = some false)
  | .dict _ => (by decide +kernel : kitB "dict" "list" = some false)
/-- isinstance(v, T) of data -/
theorem rd_isi {K : Fg} {H : Hp} {v : V} {d : D} {t : String} {b : Bool} {Q : VK} (h : Dt K H v d) (e : kitB (tyName d) t = some b) (q : Q (.bl b) H) : rIsi K [v, .ty t] H Q :=
  ⟨v, .ty t, _, _, b, rfl, .ty t, h.ty, kit_ty e, q⟩
/-- v[i] of a tuple -/
theorem rd_ix {K : Fg} {H : Hp} {v : V} {ds : List D} {i : Int} {n : Nat} {d : D} {Q : VK} (h : Dt K H v (.tuple ds)) (ei : i = (n : Int)) (e : ds[n]? = some d) (q : ∀ u, Dt K H u d → Q u H) : rIxT K v (.int i) H Q := by
  subst ei
  cases h with
  | tup hs ha =>
    obtain ⟨u, e1, hu⟩ := ha.get e
    exact ⟨_, _, _, u, rfl, rfl, hs, atI_nat e1, q u hu⟩
theorem rd_len {K : Fg} {H : Hp} {v : V} {ds : List D} {Q : VK} (h : Dt K H v (.tuple ds)) (q : Q (.int ds.length) H) : ∃ p ys, [v] = [.ref p] ∧ (SqL K H p ys ∨ SqT K H p ys) ∧ Q (.int ys.length) H := by
  cases h with
  | tup hs ha => exact ⟨_, _, rfl, .inr hs, by rw [ha.length]; exact q⟩
/-! ### what a def keeps -/
structure Keeps (P : Program) (w : World) (K : Fg) (mg : Str → Option Value) (base : Heap) (CX : CXT) (k : Nat) (x : Str) (ps : List Str) (sp : Sp) : Prop where
  ex : ∃ f fd, FnOk P w K mg base CX k f fd ps sp ∧ Binds K fd ps [] ∧ PySem.W.keepIn K (.ref f) = true ∧ mg x = some (.ref f)
section
variable {X : Cx} {CX : CXT} {k : Nat} {ps : List Str} {sp : Sp} {E : XK} {x : Str} {p pos : Pos} {e : Expr} {es : List Expr} {t : TA}
theorem pe_k (F : Keeps X.prog X.w X.K X.mg X.base CX k x ps sp) (hr : Room k X.A) (hx : Passes CX X E) (ha : PA X (e :: es) t) (hg : Gl X x := by rfl) (hdb : (x == ("__debug__" : Str)) = false := by decide)
    (he : starEach (e :: es) X.env = (false, eval e X.env) :: starEach es X.env := by rfl) (hpl : (backTo pos (starEach es X.env)).any (·.1) = false := by rfl) : PE X (.Call (.Name x p) (e :: es) [] pos) (tCall sp [] E t) := by
  obtain ⟨f, fd, h1, h2, h3, h4⟩ := F.ex
  exact pe_call h1 hr hg h4 h3 h2 .nil hx ha hdb he hpl
theorem pe_k0 (F : Keeps X.prog X.w X.K X.mg X.base CX k x ps sp) (hr : Room k X.A) (hx : Passes CX X E) (hg : Gl X x := by rfl) (hdb : (x == ("__debug__" : Str)) = false := by decide) : PE X (.Call (.Name x p) [] [] pos) (tCall sp [] E tNil) := by
  obtain ⟨f, fd, h1, h2, h3, h4⟩ := F.ex
  exact pe_call0 h1 hr hg h4 h3 h2 .nil hx hdb
/-- a number of the module -/
theorem pe_gi {i : Int} (hm : ∃ t, X.mg x = some (.int i t)) (hg : Gl X x := by rfl) (hd : (x == ("__debug__" : Str)) = false := by decide) : PE X (.Name x pos) (tC (.int i)) := by
  obtain ⟨t, h⟩ := hm
  exact pe_glob hg h ⟨t, rfl⟩ hd
theorem pe_gs {z : Str} (hm : ∃ t, X.mg x = some (.str z t)) (hg : Gl X x := by rfl) (hd : (x == ("__debug__" : Str)) = false := by decide) : PE X (.Name x pos) (tC (.str z)) := by
  obtain ⟨t, h⟩ := hm
  exact pe_glob hg h ⟨t, rfl⟩ hd
theorem pe_gr {a : Addr} (hm : X.mg x = some (.ref a)) (hg : Gl X x := by rfl) (hd : (x == ("__debug__" : Str)) = false := by decide) : PE X (.Name x pos) (tC (.ref a)) := pe_glob hg hm rfl hd
/-- a built-in class, as a value -/
theorem pe_ty {T : String} (hm : X.mg x = none) (hv : bootBuiltins x = some (.type T) := by decide +kernel) (hg : Gl X x := by rfl) (hn : x ≠ "__name__" := by decide) (hd : (x == ("__debug__" : Str)) = false := by decide) : PE X (.Name x pos) (tC (.ty T)) := pe_bltn hg hm hv rfl hn hd
end
end MH
end
section
set_option Elab.async false
set_option linter.all false
set_option maxRecDepth 100000
/-! the text by places: law k79 (printed by gentext.py) -/
namespace MH
open PySem PySem.Spec PyProof.Rows L2
theorem ig {K : PySem.W.Frag} {mg : Str → Option Value} (S : ∀ (x : Str) (v : Value), PySem.W.nsIn K mainGlobals x = some (some v) → mg x = some v) {x : Str} {i : Int} (c : (He.Fa.int x i).ok K = true) : ∃ t, mg x = some (.int i t) := by
  have c2 : (match PySem.W.nsIn K mainGlobals x with | some (some (.int j _)) => decide (j = i) | _ => false) = true := c
  split at c2
  · rename_i j t q
    rw [of_decide_eq_true c2] at q
    exact ⟨t, S _ _ q⟩
  · cases c2
theorem sg {K : PySem.W.Frag} {mg : Str → Option Value} (S : ∀ (x : Str) (v : Value), PySem.W.nsIn K mainGlobals x = some (some v) → mg x = some v) {x z : Str} (c : (He.Fa.str x z).ok K = true) : ∃ t, mg x = some (.str z t) := by
  have c2 : (match PySem.W.nsIn K mainGlobals x with | some (some (.str j _)) => decide (j = z) | _ => false) = true := c
  split at c2
  · rename_i j t q
    rw [of_decide_eq_true c2] at q
    exact ⟨t, S _ _ q⟩
  · cases c2
def topS (i : Nat) : Stmt := PySem.Challenge.pw_mergeheld_k79_whole_texts_of_programs.main.body.getD i (.Pass ⟨0, 0, 0, 0⟩)
abbrev s_BadText_init : Stmt := inClass (topS 3) 0
abbrev n_BadText_init : List Str := ["self", "at"]
abbrev s_is_name : Stmt := topS 7
abbrev n_is_name : List Str := ["thing", "sign"]
theorem sc_is_name : FnScope n_is_name ["thing"] (defScope s_is_name) := ⟨rfl, rfl, rfl, by decide +kernel, rfl, by decide +kernel, by decide +kernel⟩
abbrev s_is_row : Stmt := topS 8
abbrev n_is_row : List Str := ["thing", "most"]
theorem sc_is_row : FnScope n_is_row ["thing", "most"] (defScope s_is_row) := ⟨rfl, rfl, rfl, by decide +kernel, rfl, by decide +kernel, by decide +kernel⟩
abbrev s_is_head : Stmt := topS 14
abbrev n_is_head : List Str := ["thing", "args", "name"]
theorem sc_is_head : FnScope n_is_head ["thing"] (defScope s_is_head) := ⟨rfl, rfl, rfl, by decide +kernel, rfl, by decide +kernel, by decide +kernel⟩
abbrev s_is_item : Stmt := topS 15
abbrev n_is_item : List Str := ["thing"]
theorem sc_is_item : FnScope n_is_item ["thing"] (defScope s_is_item) := ⟨rfl, rfl, rfl, by decide +kernel, rfl, by decide +kernel, by decide +kernel⟩
abbrev s_bodies_of : Stmt := topS 16
abbrev n_bodies_of : List Str := ["item"]
theorem sc_bodies_of : FnScope n_bodies_of ["item"] (defScope s_bodies_of) := ⟨rfl, rfl, rfl, by decide +kernel, rfl, by decide +kernel, by decide +kernel⟩
abbrev s_is_body : Stmt := topS 17
abbrev n_is_body : List Str := ["thing", "deep", "item", "body"]
theorem sc_is_body : FnScope n_is_body ["thing", "deep"] (defScope s_is_body) := ⟨rfl, rfl, rfl, by decide +kernel, rfl, by decide +kernel, by decide +kernel⟩
abbrev s_sites_in : Stmt := topS 18
abbrev n_sites_in : List Str := ["body", "found", "item", "inner"]
theorem sc_sites_in : FnScope n_sites_in ["body"] (defScope s_sites_in) := ⟨rfl, rfl, rfl, by decide +kernel, rfl, by decide +kernel, by decide +kernel⟩
abbrev s_is_program_body : Stmt := topS 19
abbrev n_is_program_body : List Str := ["thing", "some"]
theorem sc_is_program_body : FnScope n_is_program_body ["thing"] (defScope s_is_program_body) := ⟨rfl, rfl, rfl, by decide +kernel, rfl, by decide +kernel, by decide +kernel⟩
abbrev s_is_program : Stmt := topS 20
abbrev n_is_program : List Str := ["thing"]
theorem sc_is_program : FnScope n_is_program ["thing"] (defScope s_is_program) := ⟨rfl, rfl, rfl, by decide +kernel, rfl, by decide +kernel, by decide +kernel⟩
abbrev s_check_program : Stmt := topS 21
abbrev n_check_program : List Str := ["program"]
theorem sc_check_program : FnScope n_check_program ["program"] (defScope s_check_program) := ⟨rfl, rfl, rfl, by decide +kernel, rfl, by decide +kernel, by decide +kernel⟩
abbrev s_lines_of : Stmt := topS 23
abbrev n_lines_of : List Str := ["body", "found", "item"]
theorem sc_lines_of : FnScope n_lines_of ["body"] (defScope s_lines_of) := ⟨rfl, rfl, rfl, by decide +kernel, rfl, by decide +kernel, by decide +kernel⟩
abbrev s_program_text : Stmt := topS 24
abbrev n_program_text : List Str := ["program"]
theorem sc_program_text : FnScope n_program_text ["program"] (defScope s_program_text) := ⟨rfl, rfl, rfl, by decide +kernel, rfl, by decide +kernel, by decide +kernel⟩
abbrev s_Reader_init : Stmt := inClass (topS 25) 0
abbrev n_Reader_init : List Str := ["self"]
theorem sc_Reader_init : FnScope n_Reader_init ["self"] (defScope s_Reader_init) := ⟨rfl, rfl, rfl, by decide +kernel, rfl, by decide +kernel, by decide +kernel⟩
abbrev s_Reader_body : Stmt := inClass (topS 25) 1
abbrev n_Reader_body : List Str := ["self"]
theorem sc_Reader_body : FnScope n_Reader_body ["self"] (defScope s_Reader_body) := ⟨rfl, rfl, rfl, by decide +kernel, rfl, by decide +kernel, by decide +kernel⟩
abbrev s_Reader_take : Stmt := inClass (topS 25) 2
abbrev n_Reader_take : List Str := ["self", "line", "words"]
theorem sc_Reader_take : FnScope n_Reader_take ["self", "line"] (defScope s_Reader_take) := ⟨rfl, rfl, rfl, by decide +kernel, rfl, by decide +kernel, by decide +kernel⟩
abbrev s_Reader_is_head : Stmt := inClass (topS 25) 3
abbrev n_Reader_is_head : List Str := ["self", "words", "word", "least"]
theorem sc_Reader_is_head : FnScope n_Reader_is_head ["self", "words"] (defScope s_Reader_is_head) := ⟨rfl, rfl, rfl, by decide +kernel, rfl, by decide +kernel, by decide +kernel⟩
abbrev s_Reader_take_else : Stmt := inClass (topS 25) 4
abbrev n_Reader_take_else : List Str := ["self", "head"]
theorem sc_Reader_take_else : FnScope n_Reader_take_else ["self"] (defScope s_Reader_take_else) := ⟨rfl, rfl, rfl, by decide +kernel, rfl, by decide +kernel, by decide +kernel⟩
abbrev s_Reader_can_go_deeper : Stmt := inClass (topS 25) 5
abbrev n_Reader_can_go_deeper : List Str := ["self"]
theorem sc_Reader_can_go_deeper : FnScope n_Reader_can_go_deeper ["self"] (defScope s_Reader_can_go_deeper) := ⟨rfl, rfl, rfl, by decide +kernel, rfl, by decide +kernel, by decide +kernel⟩
abbrev s_Reader_take_end : Stmt := inClass (topS 25) 6
abbrev n_Reader_take_end : List Str := ["self", "head", "bodies", "body"]
theorem sc_Reader_take_end : FnScope n_Reader_take_end ["self"] (defScope s_Reader_take_end) := ⟨rfl, rfl, rfl, by decide +kernel, rfl, by decide +kernel, by decide +kernel⟩
abbrev s_read_lines : Stmt := topS 26
abbrev n_read_lines : List Str := ["lines", "reader", "k", "line"]
theorem sc_read_lines : FnScope n_read_lines ["lines"] (defScope s_read_lines) := ⟨rfl, rfl, rfl, by decide +kernel, rfl, by decide +kernel, by decide +kernel⟩
abbrev s_read_program : Stmt := topS 27
abbrev n_read_program : List Str := ["text", "many", "program"]
theorem sc_read_program : FnScope n_read_program ["text"] (defScope s_read_program) := ⟨rfl, rfl, rfl, by decide +kernel, rfl, by decide +kernel, by decide +kernel⟩
abbrev s__law_caught : Stmt := topS 29
abbrev n__law_caught : List Str := ["work", "caught", "error"]
theorem sc__law_caught : FnScope n__law_caught ["work"] (defScope s__law_caught) := ⟨rfl, rfl, rfl, by decide +kernel, rfl, by decide +kernel, by decide +kernel⟩
abbrev s__law_kinds : Stmt := topS 30
abbrev n__law_kinds : List Str := ["thing", "found", "line", "here", "kind"]
theorem sc__law_kinds : FnScope n__law_kinds ["thing"] (defScope s__law_kinds) := ⟨rfl, rfl, rfl, by decide +kernel, rfl, by decide +kernel, by decide +kernel⟩
abbrev s__law_says : Stmt := topS 31
abbrev n__law_says : List Str := ["told", "due"]
theorem sc__law_says : FnScope n__law_says ["told", "due"] (defScope s__law_says) := ⟨rfl, rfl, rfl, by decide +kernel, rfl, by decide +kernel, by decide +kernel⟩
abbrev s__law_text_lines : Stmt := topS 32
abbrev n__law_text_lines : List Str := ["body", "found", "item"]
theorem sc__law_text_lines : FnScope n__law_text_lines ["body"] (defScope s__law_text_lines) := ⟨rfl, rfl, rfl, by decide +kernel, rfl, by decide +kernel, by decide +kernel⟩
abbrev s__law_kept_words : Stmt := topS 33
abbrev n__law_kept_words : List Str := []
theorem sc__law_kept_words : FnScope n__law_kept_words [] (defScope s__law_kept_words) := ⟨rfl, rfl, rfl, by decide +kernel, rfl, by decide +kernel, by decide +kernel⟩
abbrev s__law_is_name : Stmt := topS 34
abbrev n__law_is_name : List Str := ["word", "sign"]
theorem sc__law_is_name : FnScope n__law_is_name ["word"] (defScope s__law_is_name) := ⟨rfl, rfl, rfl, by decide +kernel, rfl, by decide +kernel, by decide +kernel⟩
abbrev s__law_first_wrong : Stmt := topS 35
abbrev n__law_first_wrong : List Str := ["lines", "sites", "tests", "bodies", "k", "line", "words", "is_else", "head", "then", "inner", "more", "least", "word"]
theorem sc__law_first_wrong : FnScope n__law_first_wrong ["lines"] (defScope s__law_first_wrong) := ⟨rfl, rfl, rfl, by decide +kernel, rfl, by decide +kernel, by decide +kernel⟩
abbrev s__law_begun : Stmt := topS 36
abbrev n__law_begun : List Str := ["script", "large", "grain"]
theorem sc__law_begun : FnScope n__law_begun ["script"] (defScope s__law_begun) := ⟨rfl, rfl, rfl, by decide +kernel, rfl, by decide +kernel, by decide +kernel⟩
abbrev s__law_mixed : Stmt := topS 37
abbrev n__law_mixed : List Str := ["draw", "turn", "found", "prime", "blend", "grain"]
theorem sc__law_mixed : FnScope n__law_mixed ["draw"] (defScope s__law_mixed) := ⟨rfl, rfl, rfl, by decide +kernel, rfl, by decide +kernel, by decide +kernel⟩
abbrev s__law_take : Stmt := topS 38
abbrev n__law_take : List Str := ["draw", "many", "found"]
theorem sc__law_take : FnScope n__law_take ["draw", "many"] (defScope s__law_take) := ⟨rfl, rfl, rfl, by decide +kernel, rfl, by decide +kernel, by decide +kernel⟩
abbrev s__law_pick : Stmt := topS 39
abbrev n__law_pick : List Str := ["draw", "some"]
theorem sc__law_pick : FnScope n__law_pick ["draw", "some"] (defScope s__law_pick) := ⟨rfl, rfl, rfl, by decide +kernel, rfl, by decide +kernel, by decide +kernel⟩
abbrev s__law_shuffled : Stmt := topS 40
abbrev n__law_shuffled : List Str := ["draw", "some", "left", "found"]
theorem sc__law_shuffled : FnScope n__law_shuffled ["draw", "some"] (defScope s__law_shuffled) := ⟨rfl, rfl, rfl, by decide +kernel, rfl, by decide +kernel, by decide +kernel⟩
abbrev s__law_step : Stmt := topS 41
abbrev n__law_step : List Str := ["draw", "site", "names", "k"]
theorem sc__law_step : FnScope n__law_step ["draw", "site", "names"] (defScope s__law_step) := ⟨rfl, rfl, rfl, by decide +kernel, rfl, by decide +kernel, by decide +kernel⟩
abbrev s__law_body : Stmt := topS 42
abbrev n__law_body : List Str := ["draw", "left", "names", "deep", "most", "found", "lap", "site", "way", "args", "k"]
theorem sc__law_body : FnScope n__law_body ["draw", "left", "names", "deep", "most"] (defScope s__law_body) := ⟨rfl, rfl, rfl, by decide +kernel, rfl, by decide +kernel, by decide +kernel⟩
abbrev s__law_program : Stmt := topS 43
abbrev n__law_program : List Str := ["draw", "many", "most", "left", "names"]
theorem sc__law_program : FnScope n__law_program ["draw", "many", "most"] (defScope s__law_program) := ⟨rfl, rfl, rfl, by decide +kernel, rfl, by decide +kernel, by decide +kernel⟩
abbrev s__law_bent_lines : Stmt := topS 44
abbrev n__law_bent_lines : List Str := ["draw", "lines", "at", "way", "found", "other", "words", "spot", "sign"]
theorem sc__law_bent_lines : FnScope n__law_bent_lines ["draw", "lines"] (defScope s__law_bent_lines) := ⟨rfl, rfl, rfl, by decide +kernel, rfl, by decide +kernel, by decide +kernel⟩
abbrev s__law_text_right : Stmt := topS 45
abbrev n__law_text_right : List Str := ["text", "lines", "found", "many", "due", "error"]
theorem sc__law_text_right : FnScope n__law_text_right ["text"] (defScope s__law_text_right) := ⟨rfl, rfl, rfl, by decide +kernel, rfl, by decide +kernel, by decide +kernel⟩
abbrev s__law_right : Stmt := topS 46
abbrev n__law_right : List Str := ["draw", "program", "lines", "text", "lap", "bent"]
theorem sc__law_right : FnScope n__law_right ["draw"] (defScope s__law_right) := ⟨rfl, rfl, rfl, by decide +kernel, rfl, by decide +kernel, by decide +kernel⟩
abbrev s__law_limits_right : Stmt := topS 47
abbrev n__law_limits_right : List Str := ["draw", "names", "more", "last", "first", "rows", "name", "begin", "whole", "wide", "deep", "args", "late", "lines"]
theorem sc__law_limits_right : FnScope n__law_limits_right ["draw"] (defScope s__law_limits_right) := ⟨rfl, rfl, rfl, by decide +kernel, rfl, by decide +kernel, by decide +kernel⟩
abbrev s__law_late_else_right : Stmt := topS 48
abbrev n__law_late_else_right : List Str := ["draw", "steps", "last", "first", "many", "style", "lines", "left", "more"]
theorem sc__law_late_else_right : FnScope n__law_late_else_right ["draw"] (defScope s__law_late_else_right) := ⟨rfl, rfl, rfl, by decide +kernel, rfl, by decide +kernel, by decide +kernel⟩
abbrev s__law_odd_right : Stmt := topS 49
abbrev n__law_odd_right : List Str := ["draw", "word", "thing", "error", "odd"]
theorem sc__law_odd_right : FnScope n__law_odd_right ["draw"] (defScope s__law_odd_right) := ⟨rfl, rfl, rfl, by decide +kernel, rfl, by decide +kernel, by decide +kernel⟩
abbrev s_law : Stmt := topS 50
abbrev n_law : List Str := ["script", "draw", "lap", "text", "inner", "whole"]
theorem sc_law : FnScope n_law ["script"] (defScope s_law) := ⟨rfl, rfl, rfl, by decide +kernel, rfl, by decide +kernel, by decide +kernel⟩
def d_is_name : He.DefD := ⟨("is_name", none), "is_name", "is_name", defArgs s_is_name, defBody s_is_name, defScope s_is_name, [], []⟩
def d_is_row : He.DefD := ⟨("is_row", none), "is_row", "is_row", defArgs s_is_row, defBody s_is_row, defScope s_is_row, [], []⟩
def d_is_head : He.DefD := ⟨("is_head", none), "is_head", "is_head", defArgs s_is_head, defBody s_is_head, defScope s_is_head, [], []⟩
def d_is_item : He.DefD := ⟨("is_item", none), "is_item", "is_item", defArgs s_is_item, defBody s_is_item, defScope s_is_item, [], []⟩
def d_bodies_of : He.DefD := ⟨("bodies_of", none), "bodies_of", "bodies_of", defArgs s_bodies_of, defBody s_bodies_of, defScope s_bodies_of, [], []⟩
def d_is_body : He.DefD := ⟨("is_body", none), "is_body", "is_body", defArgs s_is_body, defBody s_is_body, defScope s_is_body, [], []⟩
def d_sites_in : He.DefD := ⟨("sites_in", none), "sites_in", "sites_in", defArgs s_sites_in, defBody s_sites_in, defScope s_sites_in, [], []⟩
def d_is_program_body : He.DefD := ⟨("is_program_body", none), "is_program_body", "is_program_body", defArgs s_is_program_body, defBody s_is_program_body, defScope s_is_program_body, [], []⟩
def d_is_program : He.DefD := ⟨("is_program", none), "is_program", "is_program", defArgs s_is_program, defBody s_is_program, defScope s_is_program, [], []⟩
def d_check_program : He.DefD := ⟨("check_program", none), "check_program", "check_program", defArgs s_check_program, defBody s_check_program, defScope s_check_program, [], []⟩
def d_lines_of : He.DefD := ⟨("lines_of", none), "lines_of", "lines_of", defArgs s_lines_of, defBody s_lines_of, defScope s_lines_of, [], []⟩
def d_program_text : He.DefD := ⟨("program_text", none), "program_text", "program_text", defArgs s_program_text, defBody s_program_text, defScope s_program_text, [], []⟩
def d_Reader_init : He.DefD := ⟨("Reader", some "__init__"), "__init__", "Reader.__init__", defArgs s_Reader_init, defBody s_Reader_init, defScope s_Reader_init, [], []⟩
def d_Reader_body : He.DefD := ⟨("Reader", some "body"), "body", "Reader.body", defArgs s_Reader_body, defBody s_Reader_body, defScope s_Reader_body, [], []⟩
def d_Reader_take : He.DefD := ⟨("Reader", some "take"), "take", "Reader.take", defArgs s_Reader_take, defBody s_Reader_take, defScope s_Reader_take, [], []⟩
def d_Reader_is_head : He.DefD := ⟨("Reader", some "is_head"), "is_head", "Reader.is_head", defArgs s_Reader_is_head, defBody s_Reader_is_head, defScope s_Reader_is_head, [], []⟩
def d_Reader_take_else : He.DefD := ⟨("Reader", some "take_else"), "take_else", "Reader.take_else", defArgs s_Reader_take_else, defBody s_Reader_take_else, defScope s_Reader_take_else, [], []⟩
def d_Reader_can_go_deeper : He.DefD := ⟨("Reader", some "can_go_deeper"), "can_go_deeper", "Reader.can_go_deeper", defArgs s_Reader_can_go_deeper, defBody s_Reader_can_go_deeper, defScope s_Reader_can_go_deeper, [], []⟩
def d_Reader_take_end : He.DefD := ⟨("Reader", some "take_end"), "take_end", "Reader.take_end", defArgs s_Reader_take_end, defBody s_Reader_take_end, defScope s_Reader_take_end, [], []⟩
def d_read_lines : He.DefD := ⟨("read_lines", none), "read_lines", "read_lines", defArgs s_read_lines, defBody s_read_lines, defScope s_read_lines, [], []⟩
def d_read_program : He.DefD := ⟨("read_program", none), "read_program", "read_program", defArgs s_read_program, defBody s_read_program, defScope s_read_program, [], []⟩
def d__law_caught : He.DefD := ⟨("_law_caught", none), "_law_caught", "_law_caught", defArgs s__law_caught, defBody s__law_caught, defScope s__law_caught, [], []⟩
def d__law_kinds : He.DefD := ⟨("_law_kinds", none), "_law_kinds", "_law_kinds", defArgs s__law_kinds, defBody s__law_kinds, defScope s__law_kinds, [], []⟩
def d__law_says : He.DefD := ⟨("_law_says", none), "_law_says", "_law_says", defArgs s__law_says, defBody s__law_says, defScope s__law_says, [], []⟩
def d__law_text_lines : He.DefD := ⟨("_law_text_lines", none), "_law_text_lines", "_law_text_lines", defArgs s__law_text_lines, defBody s__law_text_lines, defScope s__law_text_lines, [], []⟩
def d__law_kept_words : He.DefD := ⟨("_law_kept_words", none), "_law_kept_words", "_law_kept_words", defArgs s__law_kept_words, defBody s__law_kept_words, defScope s__law_kept_words, [], []⟩
def d__law_is_name : He.DefD := ⟨("_law_is_name", none), "_law_is_name", "_law_is_name", defArgs s__law_is_name, defBody s__law_is_name, defScope s__law_is_name, [], []⟩
def d__law_first_wrong : He.DefD := ⟨("_law_first_wrong", none), "_law_first_wrong", "_law_first_wrong", defArgs s__law_first_wrong, defBody s__law_first_wrong, defScope s__law_first_wrong, [], []⟩
def d__law_begun : He.DefD := ⟨("_law_begun", none), "_law_begun", "_law_begun", defArgs s__law_begun, defBody s__law_begun, defScope s__law_begun, [], []⟩
def d__law_mixed : He.DefD := ⟨("_law_mixed", none), "_law_mixed", "_law_mixed", defArgs s__law_mixed, defBody s__law_mixed, defScope s__law_mixed, [], []⟩
def d__law_take : He.DefD := ⟨("_law_take", none), "_law_take", "_law_take", defArgs s__law_take, defBody s__law_take, defScope s__law_take, [], []⟩
def d__law_pick : He.DefD := ⟨("_law_pick", none), "_law_pick", "_law_pick", defArgs s__law_pick, defBody s__law_pick, defScope s__law_pick, [], []⟩
def d__law_shuffled : He.DefD := ⟨("_law_shuffled", none), "_law_shuffled", "_law_shuffled", defArgs s__law_shuffled, defBody s__law_shuffled, defScope s__law_shuffled, [], []⟩
def d__law_step : He.DefD := ⟨("_law_step", none), "_law_step", "_law_step", defArgs s__law_step, defBody s__law_step, defScope s__law_step, [], []⟩
def d__law_body : He.DefD := ⟨("_law_body", none), "_law_body", "_law_body", defArgs s__law_body, defBody s__law_body, defScope s__law_body, [], []⟩
def d__law_program : He.DefD := ⟨("_law_program", none), "_law_program", "_law_program", defArgs s__law_program, defBody s__law_program, defScope s__law_program, [], []⟩
def d__law_bent_lines : He.DefD := ⟨("_law_bent_lines", none), "_law_bent_lines", "_law_bent_lines", defArgs s__law_bent_lines, defBody s__law_bent_lines, defScope s__law_bent_lines, [], []⟩
def d__law_text_right : He.DefD := ⟨("_law_text_right", none), "_law_text_right", "_law_text_right", defArgs s__law_text_right, defBody s__law_text_right, defScope s__law_text_right, [], []⟩
def d__law_right : He.DefD := ⟨("_law_right", none), "_law_right", "_law_right", defArgs s__law_right, defBody s__law_right, defScope s__law_right, [], []⟩
def d__law_limits_right : He.DefD := ⟨("_law_limits_right", none), "_law_limits_right", "_law_limits_right", defArgs s__law_limits_right, defBody s__law_limits_right, defScope s__law_limits_right, [], []⟩
def d__law_late_else_right : He.DefD := ⟨("_law_late_else_right", none), "_law_late_else_right", "_law_late_else_right", defArgs s__law_late_else_right, defBody s__law_late_else_right, defScope s__law_late_else_right, [], []⟩
def d__law_odd_right : He.DefD := ⟨("_law_odd_right", none), "_law_odd_right", "_law_odd_right", defArgs s__law_odd_right, defBody s__law_odd_right, defScope s__law_odd_right, [], []⟩
def d_law : He.DefD := ⟨("law", none), "law", "law", defArgs s_law, defBody s_law, defScope s_law, [], []⟩
def fn0 : List He.DefD := [d_is_name, d_is_row, d_is_head, d_is_item, d_bodies_of, d_is_body, d_sites_in, d_is_program_body, d_is_program, d_check_program, d_lines_of, d_program_text, d_Reader_init, d_Reader_body, d_Reader_take, d_Reader_is_head, d_Reader_take_else, d_Reader_can_go_deeper, d_Reader_take_end, d_read_lines]
def fn1 : List He.DefD := [d_read_program, d__law_caught, d__law_kinds, d__law_says, d__law_text_lines, d__law_kept_words, d__law_is_name, d__law_first_wrong, d__law_begun, d__law_mixed, d__law_take, d__law_pick, d__law_shuffled, d__law_step, d__law_body, d__law_program, d__law_bent_lines, d__law_text_right, d__law_right, d__law_limits_right]
def fn2 : List He.DefD := [d__law_late_else_right, d__law_odd_right, d_law]
def fn : List He.DefD := fn0 ++ (fn1 ++ (fn2))
def fa0 : List He.Fa := [.glo "is_name", .glo "is_row", .glo "is_head", .glo "is_item", .glo "bodies_of", .glo "is_body", .glo "sites_in", .glo "is_program_body", .glo "is_program", .glo "check_program", .glo "lines_of", .glo "program_text", .glo "read_lines", .glo "read_program", .glo "_law_caught", .glo "_law_kinds", .glo "_law_says", .glo "_law_text_lines", .glo "_law_kept_words", .glo "_law_is_name"]
def fa1 : List He.Fa := [.glo "_law_first_wrong", .glo "_law_begun", .glo "_law_mixed", .glo "_law_take", .glo "_law_pick", .glo "_law_shuffled", .glo "_law_step", .glo "_law_body", .glo "_law_program", .glo "_law_bent_lines", .glo "_law_text_right", .glo "_law_right", .glo "_law_limits_right", .glo "_law_late_else_right", .glo "_law_odd_right", .glo "law", .free "ValueError", .free "abs", .free "all", .free "bool"]
def fa2 : List He.Fa := [.free "enumerate", .free "int", .free "isinstance", .free "len", .free "list", .free "min", .free "range", .free "set", .free "str", .free "sum", .free "super", .free "tuple", .glo "VersionError", .exc "VersionError", .keep "VersionError", .exm "VersionError" "VersionError" true, .glo "BadProgram", .exc "BadProgram", .keep "BadProgram", .exm "BadProgram" "VersionError" true]
def fa3 : List He.Fa := [.glo "BadText", .keep "BadText", .exm "BadText" "VersionError" true, .glo "KEPT", .str "LETTERS" "abcdefghijklmnopqrstuvwxyz", .int "ITEMS" 12, .int "SITES" 40, .int "DEEP" 4, .int "ARGS" 3, .glo "Reader", .cls "Reader", .noat "Reader" "tests", .noat "Reader" "sites", .noat "Reader" "is_fresh_else", .meth "Reader" "body", .meth "Reader" "take", .meth "Reader" "is_head", .meth "Reader" "take_else", .meth "Reader" "can_go_deeper", .meth "Reader" "take_end"]
def fa4 : List He.Fa := [.mkr "Reader"]
def fa : List He.Fa := fa0 ++ (fa1 ++ (fa2 ++ (fa3 ++ (fa4))))
def ws_KEPT0 : List Str := ["alike", "args", "back", "base", "body", "cannot", "clash", "cut", "do", "done", "edit", "else", "end", "first", "if", "join", "journal", "least", "move", "names"]
def ws_KEPT1 : List Str := ["no", "none", "nothing", "open", "owners", "put", "redo", "ring", "row", "sets", "size", "slice", "store", "take", "turn", "undo", "version", "what", "while", "yes"]
def ws_KEPT : List Str := ws_KEPT0 ++ (ws_KEPT1)
def exB (K : PySem.W.Frag) : Bool := He.tupB K "KEPT" (ws_KEPT.map He.Dv.str) && true
/-- what the top has left -/
structure Tx (K : PySem.W.Frag) (mg : Str → Option Value) : Prop where
  c : He.SaysD fa fn K
  ex : exB K = true
  s : ∀ (x : Str) (v : Value), PySem.W.nsIn K mainGlobals x = some (some v) → mg x = some v
  n : ∀ (x : Str), PySem.W.nsIn K mainGlobals x = some none → mg x = none
section
variable {K : PySem.W.Frag} {mg : Str → Option Value}
theorem Tx.g_is_name (T : Tx K mg) : mg "is_name" = some (.ref (He.ga K "is_name")) := T.s _ _ (He.eqO_ok (T.c.fact 0 (f := .glo "is_name") rfl))
theorem Tx.g_is_row (T : Tx K mg) : mg "is_row" = some (.ref (He.ga K "is_row")) := T.s _ _ (He.eqO_ok (T.c.fact 1 (f := .glo "is_row") rfl))
theorem Tx.g_is_head (T : Tx K mg) : mg "is_head" = some (.ref (He.ga K "is_head")) := T.s _ _ (He.eqO_ok (T.c.fact 2 (f := .glo "is_head") rfl))
theorem Tx.g_is_item (T : Tx K mg) : mg "is_item" = some (.ref (He.ga K "is_item")) := T.s _ _ (He.eqO_ok (T.c.fact 3 (f := .glo "is_item") rfl))
theorem Tx.g_bodies_of (T : Tx K mg) : mg "bodies_of" = some (.ref (He.ga K "bodies_of")) := T.s _ _ (He.eqO_ok (T.c.fact 4 (f := .glo "bodies_of") rfl))
theorem Tx.g_is_body (T : Tx K mg) : mg "is_body" = some (.ref (He.ga K "is_body")) := T.s _ _ (He.eqO_ok (T.c.fact 5 (f := .glo "is_body") rfl))
theorem Tx.g_sites_in (T : Tx K mg) : mg "sites_in" = some (.ref (He.ga K "sites_in")) := T.s _ _ (He.eqO_ok (T.c.fact 6 (f := .glo "sites_in") rfl))
theorem Tx.g_is_program_body (T : Tx K mg) : mg "is_program_body" = some (.ref (He.ga K "is_program_body")) := T.s _ _ (He.eqO_ok (T.c.fact 7 (f := .glo "is_program_body") rfl))
theorem Tx.g_is_program (T : Tx K mg) : mg "is_program" = some (.ref (He.ga K "is_program")) := T.s _ _ (He.eqO_ok (T.c.fact 8 (f := .glo "is_program") rfl))
theorem Tx.g_check_program (T : Tx K mg) : mg "check_program" = some (.ref (He.ga K "check_program")) := T.s _ _ (He.eqO_ok (T.c.fact 9 (f := .glo "check_program") rfl))
theorem Tx.g_lines_of (T : Tx K mg) : mg "lines_of" = some (.ref (He.ga K "lines_of")) := T.s _ _ (He.eqO_ok (T.c.fact 10 (f := .glo "lines_of") rfl))
theorem Tx.g_program_text (T : Tx K mg) : mg "program_text" = some (.ref (He.ga K "program_text")) := T.s _ _ (He.eqO_ok (T.c.fact 11 (f := .glo "program_text") rfl))
theorem Tx.g_read_lines (T : Tx K mg) : mg "read_lines" = some (.ref (He.ga K "read_lines")) := T.s _ _ (He.eqO_ok (T.c.fact 12 (f := .glo "read_lines") rfl))
theorem Tx.g_read_program (T : Tx K mg) : mg "read_program" = some (.ref (He.ga K "read_program")) := T.s _ _ (He.eqO_ok (T.c.fact 13 (f := .glo "read_program") rfl))
theorem Tx.g__law_caught (T : Tx K mg) : mg "_law_caught" = some (.ref (He.ga K "_law_caught")) := T.s _ _ (He.eqO_ok (T.c.fact 14 (f := .glo "_law_caught") rfl))
theorem Tx.g__law_kinds (T : Tx K mg) : mg "_law_kinds" = some (.ref (He.ga K "_law_kinds")) := T.s _ _ (He.eqO_ok (T.c.fact 15 (f := .glo "_law_kinds") rfl))
theorem Tx.g__law_says (T : Tx K mg) : mg "_law_says" = some (.ref (He.ga K "_law_says")) := T.s _ _ (He.eqO_ok (T.c.fact 16 (f := .glo "_law_says") rfl))
theorem Tx.g__law_text_lines (T : Tx K mg) : mg "_law_text_lines" = some (.ref (He.ga K "_law_text_lines")) := T.s _ _ (He.eqO_ok (T.c.fact 17 (f := .glo "_law_text_lines") rfl))
theorem Tx.g__law_kept_words (T : Tx K mg) : mg "_law_kept_words" = some (.ref (He.ga K "_law_kept_words")) := T.s _ _ (He.eqO_ok (T.c.fact 18 (f := .glo "_law_kept_words") rfl))
theorem Tx.g__law_is_name (T : Tx K mg) : mg "_law_is_name" = some (.ref (He.ga K "_law_is_name")) := T.s _ _ (He.eqO_ok (T.c.fact 19 (f := .glo "_law_is_name") rfl))
theorem Tx.g__law_first_wrong (T : Tx K mg) : mg "_law_first_wrong" = some (.ref (He.ga K "_law_first_wrong")) := T.s _ _ (He.eqO_ok (T.c.fact 20 (f := .glo "_law_first_wrong") rfl))
theorem Tx.g__law_begun (T : Tx K mg) : mg "_law_begun" = some (.ref (He.ga K "_law_begun")) := T.s _ _ (He.eqO_ok (T.c.fact 21 (f := .glo "_law_begun") rfl))
theorem Tx.g__law_mixed (T : Tx K mg) : mg "_law_mixed" = some (.ref (He.ga K "_law_mixed")) := T.s _ _ (He.eqO_ok (T.c.fact 22 (f := .glo "_law_mixed") rfl))
theorem Tx.g__law_take (T : Tx K mg) : mg "_law_take" = some (.ref (He.ga K "_law_take")) := T.s _ _ (He.eqO_ok (T.c.fact 23 (f := .glo "_law_take") rfl))
theorem Tx.g__law_pick (T : Tx K mg) : mg "_law_pick" = some (.ref (He.ga K "_law_pick")) := T.s _ _ (He.eqO_ok (T.c.fact 24 (f := .glo "_law_pick") rfl))
theorem Tx.g__law_shuffled (T : Tx K mg) : mg "_law_shuffled" = some (.ref (He.ga K "_law_shuffled")) := T.s _ _ (He.eqO_ok (T.c.fact 25 (f := .glo "_law_shuffled") rfl))
theorem Tx.g__law_step (T : Tx K mg) : mg "_law_step" = some (.ref (He.ga K "_law_step")) := T.s _ _ (He.eqO_ok (T.c.fact 26 (f := .glo "_law_step") rfl))
theorem Tx.g__law_body (T : Tx K mg) : mg "_law_body" = some (.ref (He.ga K "_law_body")) := T.s _ _ (He.eqO_ok (T.c.fact 27 (f := .glo "_law_body") rfl))
theorem Tx.g__law_program (T : Tx K mg) : mg "_law_program" = some (.ref (He.ga K "_law_program")) := T.s _ _ (He.eqO_ok (T.c.fact 28 (f := .glo "_law_program") rfl))
theorem Tx.g__law_bent_lines (T : Tx K mg) : mg "_law_bent_lines" = some (.ref (He.ga K "_law_bent_lines")) := T.s _ _ (He.eqO_ok (T.c.fact 29 (f := .glo "_law_bent_lines") rfl))
theorem Tx.g__law_text_right (T : Tx K mg) : mg "_law_text_right" = some (.ref (He.ga K "_law_text_right")) := T.s _ _ (He.eqO_ok (T.c.fact 30 (f := .glo "_law_text_right") rfl))
theorem Tx.g__law_right (T : Tx K mg) : mg "_law_right" = some (.ref (He.ga K "_law_right")) := T.s _ _ (He.eqO_ok (T.c.fact 31 (f := .glo "_law_right") rfl))
theorem Tx.g__law_limits_right (T : Tx K mg) : mg "_law_limits_right" = some (.ref (He.ga K "_law_limits_right")) := T.s _ _ (He.eqO_ok (T.c.fact 32 (f := .glo "_law_limits_right") rfl))
theorem Tx.g__law_late_else_right (T : Tx K mg) : mg "_law_late_else_right" = some (.ref (He.ga K "_law_late_else_right")) := T.s _ _ (He.eqO_ok (T.c.fact 33 (f := .glo "_law_late_else_right") rfl))
theorem Tx.g__law_odd_right (T : Tx K mg) : mg "_law_odd_right" = some (.ref (He.ga K "_law_odd_right")) := T.s _ _ (He.eqO_ok (T.c.fact 34 (f := .glo "_law_odd_right") rfl))
theorem Tx.g_law (T : Tx K mg) : mg "law" = some (.ref (He.ga K "law")) := T.s _ _ (He.eqO_ok (T.c.fact 35 (f := .glo "law") rfl))
theorem Tx.b_ValueError (T : Tx K mg) : mg "ValueError" = none := T.n _ (He.eqO_ok (T.c.fact 36 (f := .free "ValueError") rfl))
theorem Tx.b_abs (T : Tx K mg) : mg "abs" = none := T.n _ (He.eqO_ok (T.c.fact 37 (f := .free "abs") rfl))
theorem Tx.b_all (T : Tx K mg) : mg "all" = none := T.n _ (He.eqO_ok (T.c.fact 38 (f := .free "all") rfl))
theorem Tx.b_bool (T : Tx K mg) : mg "bool" = none := T.n _ (He.eqO_ok (T.c.fact 39 (f := .free "bool") rfl))
theorem Tx.b_enumerate (T : Tx K mg) : mg "enumerate" = none := T.n _ (He.eqO_ok (T.c.fact 40 (f := .free "enumerate") rfl))
theorem Tx.b_int (T : Tx K mg) : mg "int" = none := T.n _ (He.eqO_ok (T.c.fact 41 (f := .free "int") rfl))
theorem Tx.b_isinstance (T : Tx K mg) : mg "isinstance" = none := T.n _ (He.eqO_ok (T.c.fact 42 (f := .free "isinstance") rfl))
theorem Tx.b_len (T : Tx K mg) : mg "len" = none := T.n _ (He.eqO_ok (T.c.fact 43 (f := .free "len") rfl))
theorem Tx.b_list (T : Tx K mg) : mg "list" = none := T.n _ (He.eqO_ok (T.c.fact 44 (f := .free "list") rfl))
theorem Tx.b_min (T : Tx K mg) : mg "min" = none := T.n _ (He.eqO_ok (T.c.fact 45 (f := .free "min") rfl))
theorem Tx.b_range (T : Tx K mg) : mg "range" = none := T.n _ (He.eqO_ok (T.c.fact 46 (f := .free "range") rfl))
theorem Tx.b_set (T : Tx K mg) : mg "set" = none := T.n _ (He.eqO_ok (T.c.fact 47 (f := .free "set") rfl))
theorem Tx.b_str (T : Tx K mg) : mg "str" = none := T.n _ (He.eqO_ok (T.c.fact 48 (f := .free "str") rfl))
theorem Tx.b_sum (T : Tx K mg) : mg "sum" = none := T.n _ (He.eqO_ok (T.c.fact 49 (f := .free "sum") rfl))
theorem Tx.b_super (T : Tx K mg) : mg "super" = none := T.n _ (He.eqO_ok (T.c.fact 50 (f := .free "super") rfl))
theorem Tx.b_tuple (T : Tx K mg) : mg "tuple" = none := T.n _ (He.eqO_ok (T.c.fact 51 (f := .free "tuple") rfl))
theorem Tx.g_VersionError (T : Tx K mg) : mg "VersionError" = some (.ref (He.ga K "VersionError")) := T.s _ _ (He.eqO_ok (T.c.fact 52 (f := .glo "VersionError") rfl))
theorem Tx.x_VersionError (T : Tx K mg) : PySem.W.excIn K (He.ga K "VersionError") He.veBase "ValueError.__new__" = true ∧ PySem.W.keepIn K (.ref (He.ga K "VersionError")) = true ∧ PySem.W.subIn K (.ref (He.ga K "VersionError")) (.type "BaseException") = some true ∧ PySem.W.typeIn K (.ref (He.ga K "VersionError")) = some (.type "type") := He.exc_ok (T.c.fact 53 (f := .exc "VersionError") rfl)
theorem Tx.k_VersionError (T : Tx K mg) : PySem.W.keepIn K (.ref (He.ga K "VersionError")) = true := He.keep_ok (T.c.fact 54 (f := .keep "VersionError") rfl)
theorem Tx.e_VersionError (T : Tx K mg) : PySem.W.exmOne K (.ref (He.ga K "VersionError")) (.ref (He.ga K "VersionError")) = some true := He.exm_ok (T.c.fact 55 (f := .exm "VersionError" "VersionError" true) rfl)
theorem Tx.g_BadProgram (T : Tx K mg) : mg "BadProgram" = some (.ref (He.ga K "BadProgram")) := T.s _ _ (He.eqO_ok (T.c.fact 56 (f := .glo "BadProgram") rfl))
theorem Tx.x_BadProgram (T : Tx K mg) : PySem.W.excIn K (He.ga K "BadProgram") He.veBase "ValueError.__new__" = true ∧ PySem.W.keepIn K (.ref (He.ga K "BadProgram")) = true ∧ PySem.W.subIn K (.ref (He.ga K "BadProgram")) (.type "BaseException") = some true ∧ PySem.W.typeIn K (.ref (He.ga K "BadProgram")) = some (.type "type") := He.exc_ok (T.c.fact 57 (f := .exc "BadProgram") rfl)
theorem Tx.k_BadProgram (T : Tx K mg) : PySem.W.keepIn K (.ref (He.ga K "BadProgram")) = true := He.keep_ok (T.c.fact 58 (f := .keep "BadProgram") rfl)
theorem Tx.e_BadProgram (T : Tx K mg) : PySem.W.exmOne K (.ref (He.ga K "BadProgram")) (.ref (He.ga K "VersionError")) = some true := He.exm_ok (T.c.fact 59 (f := .exm "BadProgram" "VersionError" true) rfl)
theorem Tx.g_BadText (T : Tx K mg) : mg "BadText" = some (.ref (He.ga K "BadText")) := T.s _ _ (He.eqO_ok (T.c.fact 60 (f := .glo "BadText") rfl))
theorem Tx.k_BadText (T : Tx K mg) : PySem.W.keepIn K (.ref (He.ga K "BadText")) = true := He.keep_ok (T.c.fact 61 (f := .keep "BadText") rfl)
theorem Tx.e_BadText (T : Tx K mg) : PySem.W.exmOne K (.ref (He.ga K "BadText")) (.ref (He.ga K "VersionError")) = some true := He.exm_ok (T.c.fact 62 (f := .exm "BadText" "VersionError" true) rfl)
theorem Tx.g_KEPT (T : Tx K mg) : mg "KEPT" = some (.ref (He.ga K "KEPT")) := T.s _ _ (He.eqO_ok (T.c.fact 63 (f := .glo "KEPT") rfl))
theorem Tx.c_LETTERS (T : Tx K mg) : ∃ t, mg "LETTERS" = some (.str "abcdefghijklmnopqrstuvwxyz" t) := sg T.s (T.c.fact 64 (f := .str "LETTERS" "abcdefghijklmnopqrstuvwxyz") rfl)
theorem Tx.c_ITEMS (T : Tx K mg) : ∃ t, mg "ITEMS" = some (.int 12 t) := ig T.s (T.c.fact 65 (f := .int "ITEMS" 12) rfl)
theorem Tx.c_SITES (T : Tx K mg) : ∃ t, mg "SITES" = some (.int 40 t) := ig T.s (T.c.fact 66 (f := .int "SITES" 40) rfl)
theorem Tx.c_DEEP (T : Tx K mg) : ∃ t, mg "DEEP" = some (.int 4 t) := ig T.s (T.c.fact 67 (f := .int "DEEP" 4) rfl)
theorem Tx.c_ARGS (T : Tx K mg) : ∃ t, mg "ARGS" = some (.int 3 t) := ig T.s (T.c.fact 68 (f := .int "ARGS" 3) rfl)
theorem Tx.g_Reader (T : Tx K mg) : mg "Reader" = some (.ref (He.ga K "Reader")) := T.s _ _ (He.eqO_ok (T.c.fact 69 (f := .glo "Reader") rfl))
theorem Tx.cl_Reader (T : Tx K mg) : Cls K (He.ga K "Reader") := He.cls_ok (T.c.fact 70 (f := .cls "Reader") rfl)
theorem Tx.na_Reader_tests (T : Tx K mg) : NoAttr K (He.ga K "Reader") "tests" := He.noat_ok (T.c.fact 71 (f := .noat "Reader" "tests") rfl)
theorem Tx.na_Reader_sites (T : Tx K mg) : NoAttr K (He.ga K "Reader") "sites" := He.noat_ok (T.c.fact 72 (f := .noat "Reader" "sites") rfl)
theorem Tx.na_Reader_is_fresh_else (T : Tx K mg) : NoAttr K (He.ga K "Reader") "is_fresh_else" := He.noat_ok (T.c.fact 73 (f := .noat "Reader" "is_fresh_else") rfl)
theorem Tx.m_Reader_body (T : Tx K mg) : Meth K (He.ga K "Reader") "body" (He.ma K (He.ga K "Reader") "body") := He.meth_ok (T.c.fact 74 (f := .meth "Reader" "body") rfl)
theorem Tx.m_Reader_take (T : Tx K mg) : Meth K (He.ga K "Reader") "take" (He.ma K (He.ga K "Reader") "take") := He.meth_ok (T.c.fact 75 (f := .meth "Reader" "take") rfl)
theorem Tx.m_Reader_is_head (T : Tx K mg) : Meth K (He.ga K "Reader") "is_head" (He.ma K (He.ga K "Reader") "is_head") := He.meth_ok (T.c.fact 76 (f := .meth "Reader" "is_head") rfl)
theorem Tx.m_Reader_take_else (T : Tx K mg) : Meth K (He.ga K "Reader") "take_else" (He.ma K (He.ga K "Reader") "take_else") := He.meth_ok (T.c.fact 77 (f := .meth "Reader" "take_else") rfl)
theorem Tx.m_Reader_can_go_deeper (T : Tx K mg) : Meth K (He.ga K "Reader") "can_go_deeper" (He.ma K (He.ga K "Reader") "can_go_deeper") := He.meth_ok (T.c.fact 78 (f := .meth "Reader" "can_go_deeper") rfl)
theorem Tx.m_Reader_take_end (T : Tx K mg) : Meth K (He.ga K "Reader") "take_end" (He.ma K (He.ga K "Reader") "take_end") := He.meth_ok (T.c.fact 79 (f := .meth "Reader" "take_end") rfl)
theorem Tx.mk_Reader (T : Tx K mg) : Mk K (He.ga K "Reader") (He.ma K (He.ga K "Reader") "__init__") := He.mkr_ok (T.c.fact 80 (f := .mkr "Reader") rfl)
theorem Tx.f_is_name (T : Tx K mg) : ∃ fd, FunD K d_is_name.name d_is_name.qual d_is_name.params d_is_name.body d_is_name.scope [] [] (He.fAd K d_is_name.at_) fd := T.c.def_ 0 (d := d_is_name) rfl
theorem Tx.bd_is_name {fd : FuncData} (F : FunD K d_is_name.name d_is_name.qual d_is_name.params d_is_name.body d_is_name.scope [] [] (He.fAd K d_is_name.at_) fd) : Binds K fd ["thing"] [] := F.bindsN fun _ _ _ _ _ _ us hl => match us, hl with | [_], _ => rfl
theorem Tx.kp_is_name {P : Program} {w : World} {base : Heap} {CX : CXT} {k : Nat} {sp : Sp} (T : Tx K mg) (h : ∀ fd, FunD K d_is_name.name d_is_name.qual d_is_name.params d_is_name.body d_is_name.scope [] [] (He.fAd K d_is_name.at_) fd → FnOk P w K mg base CX k (He.fAd K d_is_name.at_) fd ["thing"] sp) : Keeps P w K mg base CX k "is_name" ["thing"] sp := by
  obtain ⟨fd, F⟩ := T.f_is_name
  exact ⟨_, fd, h fd F, Tx.bd_is_name F, F.kp, T.g_is_name⟩
theorem Tx.f_is_row (T : Tx K mg) : ∃ fd, FunD K d_is_row.name d_is_row.qual d_is_row.params d_is_row.body d_is_row.scope [] [] (He.fAd K d_is_row.at_) fd := T.c.def_ 1 (d := d_is_row) rfl
theorem Tx.bd_is_row {fd : FuncData} (F : FunD K d_is_row.name d_is_row.qual d_is_row.params d_is_row.body d_is_row.scope [] [] (He.fAd K d_is_row.at_) fd) : Binds K fd ["thing", "most"] [] := F.bindsN fun _ _ _ _ _ _ us hl => match us, hl with | [_, _], _ => rfl
theorem Tx.kp_is_row {P : Program} {w : World} {base : Heap} {CX : CXT} {k : Nat} {sp : Sp} (T : Tx K mg) (h : ∀ fd, FunD K d_is_row.name d_is_row.qual d_is_row.params d_is_row.body d_is_row.scope [] [] (He.fAd K d_is_row.at_) fd → FnOk P w K mg base CX k (He.fAd K d_is_row.at_) fd ["thing", "most"] sp) : Keeps P w K mg base CX k "is_row" ["thing", "most"] sp := by
  obtain ⟨fd, F⟩ := T.f_is_row
  exact ⟨_, fd, h fd F, Tx.bd_is_row F, F.kp, T.g_is_row⟩
theorem Tx.f_is_head (T : Tx K mg) : ∃ fd, FunD K d_is_head.name d_is_head.qual d_is_head.params d_is_head.body d_is_head.scope [] [] (He.fAd K d_is_head.at_) fd := T.c.def_ 2 (d := d_is_head) rfl
theorem Tx.bd_is_head {fd : FuncData} (F : FunD K d_is_head.name d_is_head.qual d_is_head.params d_is_head.body d_is_head.scope [] [] (He.fAd K d_is_head.at_) fd) : Binds K fd ["thing"] [] := F.bindsN fun _ _ _ _ _ _ us hl => match us, hl with | [_], _ => rfl
theorem Tx.kp_is_head {P : Program} {w : World} {base : Heap} {CX : CXT} {k : Nat} {sp : Sp} (T : Tx K mg) (h : ∀ fd, FunD K d_is_head.name d_is_head.qual d_is_head.params d_is_head.body d_is_head.scope [] [] (He.fAd K d_is_head.at_) fd → FnOk P w K mg base CX k (He.fAd K d_is_head.at_) fd ["thing"] sp) : Keeps P w K mg base CX k "is_head" ["thing"] sp := by
  obtain ⟨fd, F⟩ := T.f_is_head
  exact ⟨_, fd, h fd F, Tx.bd_is_head F, F.kp, T.g_is_head⟩
theorem Tx.f_is_item (T : Tx K mg) : ∃ fd, FunD K d_is_item.name d_is_item.qual d_is_item.params d_is_item.body d_is_item.scope [] [] (He.fAd K d_is_item.at_) fd := T.c.def_ 3 (d := d_is_item) rfl
theorem Tx.bd_is_item {fd : FuncData} (F : FunD K d_is_item.name d_is_item.qual d_is_item.params d_is_item.body d_is_item.scope [] [] (He.fAd K d_is_item.at_) fd) : Binds K fd ["thing"] [] := F.bindsN fun _ _ _ _ _ _ us hl => match us, hl with | [_], _ => rfl
theorem Tx.kp_is_item {P : Program} {w : World} {base : Heap} {CX : CXT} {k : Nat} {sp : Sp} (T : Tx K mg) (h : ∀ fd, FunD K d_is_item.name d_is_item.qual d_is_item.params d_is_item.body d_is_item.scope [] [] (He.fAd K d_is_item.at_) fd → FnOk P w K mg base CX k (He.fAd K d_is_item.at_) fd ["thing"] sp) : Keeps P w K mg base CX k "is_item" ["thing"] sp := by
  obtain ⟨fd, F⟩ := T.f_is_item
  exact ⟨_, fd, h fd F, Tx.bd_is_item F, F.kp, T.g_is_item⟩
theorem Tx.f_bodies_of (T : Tx K mg) : ∃ fd, FunD K d_bodies_of.name d_bodies_of.qual d_bodies_of.params d_bodies_of.body d_bodies_of.scope [] [] (He.fAd K d_bodies_of.at_) fd := T.c.def_ 4 (d := d_bodies_of) rfl
theorem Tx.bd_bodies_of {fd : FuncData} (F : FunD K d_bodies_of.name d_bodies_of.qual d_bodies_of.params d_bodies_of.body d_bodies_of.scope [] [] (He.fAd K d_bodies_of.at_) fd) : Binds K fd ["item"] [] := F.bindsN fun _ _ _ _ _ _ us hl => match us, hl with | [_], _ => rfl
theorem Tx.kp_bodies_of {P : Program} {w : World} {base : Heap} {CX : CXT} {k : Nat} {sp : Sp} (T : Tx K mg) (h : ∀ fd, FunD K d_bodies_of.name d_bodies_of.qual d_bodies_of.params d_bodies_of.body d_bodies_of.scope [] [] (He.fAd K d_bodies_of.at_) fd → FnOk P w K mg base CX k (He.fAd K d_bodies_of.at_) fd ["item"] sp) : Keeps P w K mg base CX k "bodies_of" ["item"] sp := by
  obtain ⟨fd, F⟩ := T.f_bodies_of
  exact ⟨_, fd, h fd F, Tx.bd_bodies_of F, F.kp, T.g_bodies_of⟩
theorem Tx.f_is_body (T : Tx K mg) : ∃ fd, FunD K d_is_body.name d_is_body.qual d_is_body.params d_is_body.body d_is_body.scope [] [] (He.fAd K d_is_body.at_) fd := T.c.def_ 5 (d := d_is_body) rfl
theorem Tx.bd_is_body {fd : FuncData} (F : FunD K d_is_body.name d_is_body.qual d_is_body.params d_is_body.body d_is_body.scope [] [] (He.fAd K d_is_body.at_) fd) : Binds K fd ["thing", "deep"] [] := F.bindsN fun _ _ _ _ _ _ us hl => match us, hl with | [_, _], _ => rfl
theorem Tx.kp_is_body {P : Program} {w : World} {base : Heap} {CX : CXT} {k : Nat} {sp : Sp} (T : Tx K mg) (h : ∀ fd, FunD K d_is_body.name d_is_body.qual d_is_body.params d_is_body.body d_is_body.scope [] [] (He.fAd K d_is_body.at_) fd → FnOk P w K mg base CX k (He.fAd K d_is_body.at_) fd ["thing", "deep"] sp) : Keeps P w K mg base CX k "is_body" ["thing", "deep"] sp := by
  obtain ⟨fd, F⟩ := T.f_is_body
  exact ⟨_, fd, h fd F, Tx.bd_is_body F, F.kp, T.g_is_body⟩
theorem Tx.f_sites_in (T : Tx K mg) : ∃ fd, FunD K d_sites_in.name d_sites_in.qual d_sites_in.params d_sites_in.body d_sites_in.scope [] [] (He.fAd K d_sites_in.at_) fd := T.c.def_ 6 (d := d_sites_in) rfl
theorem Tx.bd_sites_in {fd : FuncData} (F : FunD K d_sites_in.name d_sites_in.qual d_sites_in.params d_sites_in.body d_sites_in.scope [] [] (He.fAd K d_sites_in.at_) fd) : Binds K fd ["body"] [] := F.bindsN fun _ _ _ _ _ _ us hl => match us, hl with | [_], _ => rfl
theorem Tx.kp_sites_in {P : Program} {w : World} {base : Heap} {CX : CXT} {k : Nat} {sp : Sp} (T : Tx K mg) (h : ∀ fd, FunD K d_sites_in.name d_sites_in.qual d_sites_in.params d_sites_in.body d_sites_in.scope [] [] (He.fAd K d_sites_in.at_) fd → FnOk P w K mg base CX k (He.fAd K d_sites_in.at_) fd ["body"] sp) : Keeps P w K mg base CX k "sites_in" ["body"] sp := by
  obtain ⟨fd, F⟩ := T.f_sites_in
  exact ⟨_, fd, h fd F, Tx.bd_sites_in F, F.kp, T.g_sites_in⟩
theorem Tx.f_is_program_body (T : Tx K mg) : ∃ fd, FunD K d_is_program_body.name d_is_program_body.qual d_is_program_body.params d_is_program_body.body d_is_program_body.scope [] [] (He.fAd K d_is_program_body.at_) fd := T.c.def_ 7 (d := d_is_program_body) rfl
theorem Tx.bd_is_program_body {fd : FuncData} (F : FunD K d_is_program_body.name d_is_program_body.qual d_is_program_body.params d_is_program_body.body d_is_program_body.scope [] [] (He.fAd K d_is_program_body.at_) fd) : Binds K fd ["thing"] [] := F.bindsN fun _ _ _ _ _ _ us hl => match us, hl with | [_], _ => rfl
theorem Tx.kp_is_program_body {P : Program} {w : World} {base : Heap} {CX : CXT} {k : Nat} {sp : Sp} (T : Tx K mg) (h : ∀ fd, FunD K d_is_program_body.name d_is_program_body.qual d_is_program_body.params d_is_program_body.body d_is_program_body.scope [] [] (He.fAd K d_is_program_body.at_) fd → FnOk P w K mg base CX k (He.fAd K d_is_program_body.at_) fd ["thing"] sp) : Keeps P w K mg base CX k "is_program_body" ["thing"] sp := by
  obtain ⟨fd, F⟩ := T.f_is_program_body
  exact ⟨_, fd, h fd F, Tx.bd_is_program_body F, F.kp, T.g_is_program_body⟩
theorem Tx.f_is_program (T : Tx K mg) : ∃ fd, FunD K d_is_program.name d_is_program.qual d_is_program.params d_is_program.body d_is_program.scope [] [] (He.fAd K d_is_program.at_) fd := T.c.def_ 8 (d := d_is_program) rfl
theorem Tx.bd_is_program {fd : FuncData} (F : FunD K d_is_program.name d_is_program.qual d_is_program.params d_is_program.body d_is_program.scope [] [] (He.fAd K d_is_program.at_) fd) : Binds K fd ["thing"] [] := F.bindsN fun _ _ _ _ _ _ us hl => match us, hl with | [_], _ => rfl
theorem Tx.kp_is_program {P : Program} {w : World} {base : Heap} {CX : CXT} {k : Nat} {sp : Sp} (T : Tx K mg) (h : ∀ fd, FunD K d_is_program.name d_is_program.qual d_is_program.params d_is_program.body d_is_program.scope [] [] (He.fAd K d_is_program.at_) fd → FnOk P w K mg base CX k (He.fAd K d_is_program.at_) fd ["thing"] sp) : Keeps P w K mg base CX k "is_program" ["thing"] sp := by
  obtain ⟨fd, F⟩ := T.f_is_program
  exact ⟨_, fd, h fd F, Tx.bd_is_program F, F.kp, T.g_is_program⟩
theorem Tx.f_check_program (T : Tx K mg) : ∃ fd, FunD K d_check_program.name d_check_program.qual d_check_program.params d_check_program.body d_check_program.scope [] [] (He.fAd K d_check_program.at_) fd := T.c.def_ 9 (d := d_check_program) rfl
theorem Tx.bd_check_program {fd : FuncData} (F : FunD K d_check_program.name d_check_program.qual d_check_program.params d_check_program.body d_check_program.scope [] [] (He.fAd K d_check_program.at_) fd) : Binds K fd ["program"] [] := F.bindsN fun _ _ _ _ _ _ us hl => match us, hl with | [_], _ => rfl
theorem Tx.kp_check_program {P : Program} {w : World} {base : Heap} {CX : CXT} {k : Nat} {sp : Sp} (T : Tx K mg) (h : ∀ fd, FunD K d_check_program.name d_check_program.qual d_check_program.params d_check_program.body d_check_program.scope [] [] (He.fAd K d_check_program.at_) fd → FnOk P w K mg base CX k (He.fAd K d_check_program.at_) fd ["program"] sp) : Keeps P w K mg base CX k "check_program" ["program"] sp := by
  obtain ⟨fd, F⟩ := T.f_check_program
  exact ⟨_, fd, h fd F, Tx.bd_check_program F, F.kp, T.g_check_program⟩
theorem Tx.f_lines_of (T : Tx K mg) : ∃ fd, FunD K d_lines_of.name d_lines_of.qual d_lines_of.params d_lines_of.body d_lines_of.scope [] [] (He.fAd K d_lines_of.at_) fd := T.c.def_ 10 (d := d_lines_of) rfl
theorem Tx.bd_lines_of {fd : FuncData} (F : FunD K d_lines_of.name d_lines_of.qual d_lines_of.params d_lines_of.body d_lines_of.scope [] [] (He.fAd K d_lines_of.at_) fd) : Binds K fd ["body"] [] := F.bindsN fun _ _ _ _ _ _ us hl => match us, hl with | [_], _ => rfl
theorem Tx.kp_lines_of {P : Program} {w : World} {base : Heap} {CX : CXT} {k : Nat} {sp : Sp} (T : Tx K mg) (h : ∀ fd, FunD K d_lines_of.name d_lines_of.qual d_lines_of.params d_lines_of.body d_lines_of.scope [] [] (He.fAd K d_lines_of.at_) fd → FnOk P w K mg base CX k (He.fAd K d_lines_of.at_) fd ["body"] sp) : Keeps P w K mg base CX k "lines_of" ["body"] sp := by
  obtain ⟨fd, F⟩ := T.f_lines_of
  exact ⟨_, fd, h fd F, Tx.bd_lines_of F, F.kp, T.g_lines_of⟩
theorem Tx.f_program_text (T : Tx K mg) : ∃ fd, FunD K d_program_text.name d_program_text.qual d_program_text.params d_program_text.body d_program_text.scope [] [] (He.fAd K d_program_text.at_) fd := T.c.def_ 11 (d := d_program_text) rfl
theorem Tx.bd_program_text {fd : FuncData} (F : FunD K d_program_text.name d_program_text.qual d_program_text.params d_program_text.body d_program_text.scope [] [] (He.fAd K d_program_text.at_) fd) : Binds K fd ["program"] [] := F.bindsN fun _ _ _ _ _ _ us hl => match us, hl with | [_], _ => rfl
theorem Tx.kp_program_text {P : Program} {w : World} {base : Heap} {CX : CXT} {k : Nat} {sp : Sp} (T : Tx K mg) (h : ∀ fd, FunD K d_program_text.name d_program_text.qual d_program_text.params d_program_text.body d_program_text.scope [] [] (He.fAd K d_program_text.at_) fd → FnOk P w K mg base CX k (He.fAd K d_program_text.at_) fd ["program"] sp) : Keeps P w K mg base CX k "program_text" ["program"] sp := by
  obtain ⟨fd, F⟩ := T.f_program_text
  exact ⟨_, fd, h fd F, Tx.bd_program_text F, F.kp, T.g_program_text⟩
theorem Tx.f_Reader_init (T : Tx K mg) : ∃ fd, FunD K d_Reader_init.name d_Reader_init.qual d_Reader_init.params d_Reader_init.body d_Reader_init.scope [] [] (He.fAd K d_Reader_init.at_) fd := T.c.def_ 12 (d := d_Reader_init) rfl
theorem Tx.bd_Reader_init {fd : FuncData} (F : FunD K d_Reader_init.name d_Reader_init.qual d_Reader_init.params d_Reader_init.body d_Reader_init.scope [] [] (He.fAd K d_Reader_init.at_) fd) : Binds K fd ["self"] [] := F.bindsN fun _ _ _ _ _ _ us hl => match us, hl with | [_], _ => rfl
theorem Tx.f_Reader_body (T : Tx K mg) : ∃ fd, FunD K d_Reader_body.name d_Reader_body.qual d_Reader_body.params d_Reader_body.body d_Reader_body.scope [] [] (He.fAd K d_Reader_body.at_) fd := T.c.def_ 13 (d := d_Reader_body) rfl
theorem Tx.bd_Reader_body {fd : FuncData} (F : FunD K d_Reader_body.name d_Reader_body.qual d_Reader_body.params d_Reader_body.body d_Reader_body.scope [] [] (He.fAd K d_Reader_body.at_) fd) : Binds K fd ["self"] [] := F.bindsN fun _ _ _ _ _ _ us hl => match us, hl with | [_], _ => rfl
theorem Tx.f_Reader_take (T : Tx K mg) : ∃ fd, FunD K d_Reader_take.name d_Reader_take.qual d_Reader_take.params d_Reader_take.body d_Reader_take.scope [] [] (He.fAd K d_Reader_take.at_) fd := T.c.def_ 14 (d := d_Reader_take) rfl
theorem Tx.bd_Reader_take {fd : FuncData} (F : FunD K d_Reader_take.name d_Reader_take.qual d_Reader_take.params d_Reader_take.body d_Reader_take.scope [] [] (He.fAd K d_Reader_take.at_) fd) : Binds K fd ["self", "line"] [] := F.bindsN fun _ _ _ _ _ _ us hl => match us, hl with | [_, _], _ => rfl
theorem Tx.f_Reader_is_head (T : Tx K mg) : ∃ fd, FunD K d_Reader_is_head.name d_Reader_is_head.qual d_Reader_is_head.params d_Reader_is_head.body d_Reader_is_head.scope [] [] (He.fAd K d_Reader_is_head.at_) fd := T.c.def_ 15 (d := d_Reader_is_head) rfl
theorem Tx.bd_Reader_is_head {fd : FuncData} (F : FunD K d_Reader_is_head.name d_Reader_is_head.qual d_Reader_is_head.params d_Reader_is_head.body d_Reader_is_head.scope [] [] (He.fAd K d_Reader_is_head.at_) fd) : Binds K fd ["self", "words"] [] := F.bindsN fun _ _ _ _ _ _ us hl => match us, hl with | [_, _], _ => rfl
theorem Tx.f_Reader_take_else (T : Tx K mg) : ∃ fd, FunD K d_Reader_take_else.name d_Reader_take_else.qual d_Reader_take_else.params d_Reader_take_else.body d_Reader_take_else.scope [] [] (He.fAd K d_Reader_take_else.at_) fd := T.c.def_ 16 (d := d_Reader_take_else) rfl
theorem Tx.bd_Reader_take_else {fd : FuncData} (F : FunD K d_Reader_take_else.name d_Reader_take_else.qual d_Reader_take_else.params d_Reader_take_else.body d_Reader_take_else.scope [] [] (He.fAd K d_Reader_take_else.at_) fd) : Binds K fd ["self"] [] := F.bindsN fun _ _ _ _ _ _ us hl => match us, hl with | [_], _ => rfl
theorem Tx.f_Reader_can_go_deeper (T : Tx K mg) : ∃ fd, FunD K d_Reader_can_go_deeper.name d_Reader_can_go_deeper.qual d_Reader_can_go_deeper.params d_Reader_can_go_deeper.body d_Reader_can_go_deeper.scope [] [] (He.fAd K d_Reader_can_go_deeper.at_) fd := T.c.def_ 17 (d := d_Reader_can_go_deeper) rfl
theorem Tx.bd_Reader_can_go_deeper {fd : FuncData} (F : FunD K d_Reader_can_go_deeper.name d_Reader_can_go_deeper.qual d_Reader_can_go_deeper.params d_Reader_can_go_deeper.body d_Reader_can_go_deeper.scope [] [] (He.fAd K d_Reader_can_go_deeper.at_) fd) : Binds K fd ["self"] [] := F.bindsN fun _ _ _ _ _ _ us hl => match us, hl with | [_], _ => rfl
theorem Tx.f_Reader_take_end (T : Tx K mg) : ∃ fd, FunD K d_Reader_take_end.name d_Reader_take_end.qual d_Reader_take_end.params d_Reader_take_end.body d_Reader_take_end.scope [] [] (He.fAd K d_Reader_take_end.at_) fd := T.c.def_ 18 (d := d_Reader_take_end) rfl
theorem Tx.bd_Reader_take_end {fd : FuncData} (F : FunD K d_Reader_take_end.name d_Reader_take_end.qual d_Reader_take_end.params d_Reader_take_end.body d_Reader_take_end.scope [] [] (He.fAd K d_Reader_take_end.at_) fd) : Binds K fd ["self"] [] := F.bindsN fun _ _ _ _ _ _ us hl => match us, hl with | [_], _ => rfl
theorem Tx.f_read_lines (T : Tx K mg) : ∃ fd, FunD K d_read_lines.name d_read_lines.qual d_read_lines.params d_read_lines.body d_read_lines.scope [] [] (He.fAd K d_read_lines.at_) fd := T.c.def_ 19 (d := d_read_lines) rfl
theorem Tx.bd_read_lines {fd : FuncData} (F : FunD K d_read_lines.name d_read_lines.qual d_read_lines.params d_read_lines.body d_read_lines.scope [] [] (He.fAd K d_read_lines.at_) fd) : Binds K fd ["lines"] [] := F.bindsN fun _ _ _ _ _ _ us hl => match us, hl with | [_], _ => rfl
theorem Tx.kp_read_lines {P : Program} {w : World} {base : Heap} {CX : CXT} {k : Nat} {sp : Sp} (T : Tx K mg) (h : ∀ fd, FunD K d_read_lines.name d_read_lines.qual d_read_lines.params d_read_lines.body d_read_lines.scope [] [] (He.fAd K d_read_lines.at_) fd → FnOk P w K mg base CX k (He.fAd K d_read_lines.at_) fd ["lines"] sp) : Keeps P w K mg base CX k "read_lines" ["lines"] sp := by
  obtain ⟨fd, F⟩ := T.f_read_lines
  exact ⟨_, fd, h fd F, Tx.bd_read_lines F, F.kp, T.g_read_lines⟩
theorem Tx.f_read_program (T : Tx K mg) : ∃ fd, FunD K d_read_program.name d_read_program.qual d_read_program.params d_read_program.body d_read_program.scope [] [] (He.fAd K d_read_program.at_) fd := T.c.def_ 20 (d := d_read_program) rfl
theorem Tx.bd_read_program {fd : FuncData} (F : FunD K d_read_program.name d_read_program.qual d_read_program.params d_read_program.body d_read_program.scope [] [] (He.fAd K d_read_program.at_) fd) : Binds K fd ["text"] [] := F.bindsN fun _ _ _ _ _ _ us hl => match us, hl with | [_], _ => rfl
theorem Tx.kp_read_program {P : Program} {w : World} {base : Heap} {CX : CXT} {k : Nat} {sp : Sp} (T : Tx K mg) (h : ∀ fd, FunD K d_read_program.name d_read_program.qual d_read_program.params d_read_program.body d_read_program.scope [] [] (He.fAd K d_read_program.at_) fd → FnOk P w K mg base CX k (He.fAd K d_read_program.at_) fd ["text"] sp) : Keeps P w K mg base CX k "read_program" ["text"] sp := by
  obtain ⟨fd, F⟩ := T.f_read_program
  exact ⟨_, fd, h fd F, Tx.bd_read_program F, F.kp, T.g_read_program⟩
theorem Tx.f__law_caught (T : Tx K mg) : ∃ fd, FunD K d__law_caught.name d__law_caught.qual d__law_caught.params d__law_caught.body d__law_caught.scope [] [] (He.fAd K d__law_caught.at_) fd := T.c.def_ 21 (d := d__law_caught) rfl
theorem Tx.bd__law_caught {fd : FuncData} (F : FunD K d__law_caught.name d__law_caught.qual d__law_caught.params d__law_caught.body d__law_caught.scope [] [] (He.fAd K d__law_caught.at_) fd) : Binds K fd ["work"] [] := F.bindsN fun _ _ _ _ _ _ us hl => match us, hl with | [_], _ => rfl
theorem Tx.kp__law_caught {P : Program} {w : World} {base : Heap} {CX : CXT} {k : Nat} {sp : Sp} (T : Tx K mg) (h : ∀ fd, FunD K d__law_caught.name d__law_caught.qual d__law_caught.params d__law_caught.body d__law_caught.scope [] [] (He.fAd K d__law_caught.at_) fd → FnOk P w K mg base CX k (He.fAd K d__law_caught.at_) fd ["work"] sp) : Keeps P w K mg base CX k "_law_caught" ["work"] sp := by
  obtain ⟨fd, F⟩ := T.f__law_caught
  exact ⟨_, fd, h fd F, Tx.bd__law_caught F, F.kp, T.g__law_caught⟩
theorem Tx.f__law_kinds (T : Tx K mg) : ∃ fd, FunD K d__law_kinds.name d__law_kinds.qual d__law_kinds.params d__law_kinds.body d__law_kinds.scope [] [] (He.fAd K d__law_kinds.at_) fd := T.c.def_ 22 (d := d__law_kinds) rfl
theorem Tx.bd__law_kinds {fd : FuncData} (F : FunD K d__law_kinds.name d__law_kinds.qual d__law_kinds.params d__law_kinds.body d__law_kinds.scope [] [] (He.fAd K d__law_kinds.at_) fd) : Binds K fd ["thing"] [] := F.bindsN fun _ _ _ _ _ _ us hl => match us, hl with | [_], _ => rfl
theorem Tx.kp__law_kinds {P : Program} {w : World} {base : Heap} {CX : CXT} {k : Nat} {sp : Sp} (T : Tx K mg) (h : ∀ fd, FunD K d__law_kinds.name d__law_kinds.qual d__law_kinds.params d__law_kinds.body d__law_kinds.scope [] [] (He.fAd K d__law_kinds.at_) fd → FnOk P w K mg base CX k (He.fAd K d__law_kinds.at_) fd ["thing"] sp) : Keeps P w K mg base CX k "_law_kinds" ["thing"] sp := by
  obtain ⟨fd, F⟩ := T.f__law_kinds
  exact ⟨_, fd, h fd F, Tx.bd__law_kinds F, F.kp, T.g__law_kinds⟩
theorem Tx.f__law_says (T : Tx K mg) : ∃ fd, FunD K d__law_says.name d__law_says.qual d__law_says.params d__law_says.body d__law_says.scope [] [] (He.fAd K d__law_says.at_) fd := T.c.def_ 23 (d := d__law_says) rfl
theorem Tx.bd__law_says {fd : FuncData} (F : FunD K d__law_says.name d__law_says.qual d__law_says.params d__law_says.body d__law_says.scope [] [] (He.fAd K d__law_says.at_) fd) : Binds K fd ["told", "due"] [] := F.bindsN fun _ _ _ _ _ _ us hl => match us, hl with | [_, _], _ => rfl
theorem Tx.kp__law_says {P : Program} {w : World} {base : Heap} {CX : CXT} {k : Nat} {sp : Sp} (T : Tx K mg) (h : ∀ fd, FunD K d__law_says.name d__law_says.qual d__law_says.params d__law_says.body d__law_says.scope [] [] (He.fAd K d__law_says.at_) fd → FnOk P w K mg base CX k (He.fAd K d__law_says.at_) fd ["told", "due"] sp) : Keeps P w K mg base CX k "_law_says" ["told", "due"] sp := by
  obtain ⟨fd, F⟩ := T.f__law_says
  exact ⟨_, fd, h fd F, Tx.bd__law_says F, F.kp, T.g__law_says⟩
theorem Tx.f__law_text_lines (T : Tx K mg) : ∃ fd, FunD K d__law_text_lines.name d__law_text_lines.qual d__law_text_lines.params d__law_text_lines.body d__law_text_lines.scope [] [] (He.fAd K d__law_text_lines.at_) fd := T.c.def_ 24 (d := d__law_text_lines) rfl
theorem Tx.bd__law_text_lines {fd : FuncData} (F : FunD K d__law_text_lines.name d__law_text_lines.qual d__law_text_lines.params d__law_text_lines.body d__law_text_lines.scope [] [] (He.fAd K d__law_text_lines.at_) fd) : Binds K fd ["body"] [] := F.bindsN fun _ _ _ _ _ _ us hl => match us, hl with | [_], _ => rfl
theorem Tx.kp__law_text_lines {P : Program} {w : World} {base : Heap} {CX : CXT} {k : Nat} {sp : Sp} (T : Tx K mg) (h : ∀ fd, FunD K d__law_text_lines.name d__law_text_lines.qual d__law_text_lines.params d__law_text_lines.body d__law_text_lines.scope [] [] (He.fAd K d__law_text_lines.at_) fd → FnOk P w K mg base CX k (He.fAd K d__law_text_lines.at_) fd ["body"] sp) : Keeps P w K mg base CX k "_law_text_lines" ["body"] sp := by
  obtain ⟨fd, F⟩ := T.f__law_text_lines
  exact ⟨_, fd, h fd F, Tx.bd__law_text_lines F, F.kp, T.g__law_text_lines⟩
theorem Tx.f__law_kept_words (T : Tx K mg) : ∃ fd, FunD K d__law_kept_words.name d__law_kept_words.qual d__law_kept_words.params d__law_kept_words.body d__law_kept_words.scope [] [] (He.fAd K d__law_kept_words.at_) fd := T.c.def_ 25 (d := d__law_kept_words) rfl
theorem Tx.bd__law_kept_words {fd : FuncData} (F : FunD K d__law_kept_words.name d__law_kept_words.qual d__law_kept_words.params d__law_kept_words.body d__law_kept_words.scope [] [] (He.fAd K d__law_kept_words.at_) fd) : Binds K fd [] [] := F.bindsN fun _ _ _ _ _ _ us hl => match us, hl with | [], _ => rfl
theorem Tx.kp__law_kept_words {P : Program} {w : World} {base : Heap} {CX : CXT} {k : Nat} {sp : Sp} (T : Tx K mg) (h : ∀ fd, FunD K d__law_kept_words.name d__law_kept_words.qual d__law_kept_words.params d__law_kept_words.body d__law_kept_words.scope [] [] (He.fAd K d__law_kept_words.at_) fd → FnOk P w K mg base CX k (He.fAd K d__law_kept_words.at_) fd [] sp) : Keeps P w K mg base CX k "_law_kept_words" [] sp := by
  obtain ⟨fd, F⟩ := T.f__law_kept_words
  exact ⟨_, fd, h fd F, Tx.bd__law_kept_words F, F.kp, T.g__law_kept_words⟩
theorem Tx.f__law_is_name (T : Tx K mg) : ∃ fd, FunD K d__law_is_name.name d__law_is_name.qual d__law_is_name.params d__law_is_name.body d__law_is_name.scope [] [] (He.fAd K d__law_is_name.at_) fd := T.c.def_ 26 (d := d__law_is_name) rfl
theorem Tx.bd__law_is_name {fd : FuncData} (F : FunD K d__law_is_name.name d__law_is_name.qual d__law_is_name.params d__law_is_name.body d__law_is_name.scope [] [] (He.fAd K d__law_is_name.at_) fd) : Binds K fd ["word"] [] := F.bindsN fun _ _ _ _ _ _ us hl => match us, hl with | [_], _ => rfl
theorem Tx.kp__law_is_name {P : Program} {w : World} {base : Heap} {CX : CXT} {k : Nat} {sp : Sp} (T : Tx K mg) (h : ∀ fd, FunD K d__law_is_name.name d__law_is_name.qual d__law_is_name.params d__law_is_name.body d__law_is_name.scope [] [] (He.fAd K d__law_is_name.at_) fd → FnOk P w K mg base CX k (He.fAd K d__law_is_name.at_) fd ["word"] sp) : Keeps P w K mg base CX k "_law_is_name" ["word"] sp := by
  obtain ⟨fd, F⟩ := T.f__law_is_name
  exact ⟨_, fd, h fd F, Tx.bd__law_is_name F, F.kp, T.g__law_is_name⟩
theorem Tx.f__law_first_wrong (T : Tx K mg) : ∃ fd, FunD K d__law_first_wrong.name d__law_first_wrong.qual d__law_first_wrong.params d__law_first_wrong.body d__law_first_wrong.scope [] [] (He.fAd K d__law_first_wrong.at_) fd := T.c.def_ 27 (d := d__law_first_wrong) rfl
theorem Tx.bd__law_first_wrong {fd : FuncData} (F : FunD K d__law_first_wrong.name d__law_first_wrong.qual d__law_first_wrong.params d__law_first_wrong.body d__law_first_wrong.scope [] [] (He.fAd K d__law_first_wrong.at_) fd) : Binds K fd ["lines"] [] := F.bindsN fun _ _ _ _ _ _ us hl => match us, hl with | [_], _ => rfl
theorem Tx.kp__law_first_wrong {P : Program} {w : World} {base : Heap} {CX : CXT} {k : Nat} {sp : Sp} (T : Tx K mg) (h : ∀ fd, FunD K d__law_first_wrong.name d__law_first_wrong.qual d__law_first_wrong.params d__law_first_wrong.body d__law_first_wrong.scope [] [] (He.fAd K d__law_first_wrong.at_) fd → FnOk P w K mg base CX k (He.fAd K d__law_first_wrong.at_) fd ["lines"] sp) : Keeps P w K mg base CX k "_law_first_wrong" ["lines"] sp := by
  obtain ⟨fd, F⟩ := T.f__law_first_wrong
  exact ⟨_, fd, h fd F, Tx.bd__law_first_wrong F, F.kp, T.g__law_first_wrong⟩
theorem Tx.f__law_begun (T : Tx K mg) : ∃ fd, FunD K d__law_begun.name d__law_begun.qual d__law_begun.params d__law_begun.body d__law_begun.scope [] [] (He.fAd K d__law_begun.at_) fd := T.c.def_ 28 (d := d__law_begun) rfl
theorem Tx.bd__law_begun {fd : FuncData} (F : FunD K d__law_begun.name d__law_begun.qual d__law_begun.params d__law_begun.body d__law_begun.scope [] [] (He.fAd K d__law_begun.at_) fd) : Binds K fd ["script"] [] := F.bindsN fun _ _ _ _ _ _ us hl => match us, hl with | [_], _ => rfl
theorem Tx.kp__law_begun {P : Program} {w : World} {base : Heap} {CX : CXT} {k : Nat} {sp : Sp} (T : Tx K mg) (h : ∀ fd, FunD K d__law_begun.name d__law_begun.qual d__law_begun.params d__law_begun.body d__law_begun.scope [] [] (He.fAd K d__law_begun.at_) fd → FnOk P w K mg base CX k (He.fAd K d__law_begun.at_) fd ["script"] sp) : Keeps P w K mg base CX k "_law_begun" ["script"] sp := by
  obtain ⟨fd, F⟩ := T.f__law_begun
  exact ⟨_, fd, h fd F, Tx.bd__law_begun F, F.kp, T.g__law_begun⟩
theorem Tx.f__law_mixed (T : Tx K mg) : ∃ fd, FunD K d__law_mixed.name d__law_mixed.qual d__law_mixed.params d__law_mixed.body d__law_mixed.scope [] [] (He.fAd K d__law_mixed.at_) fd := T.c.def_ 29 (d := d__law_mixed) rfl
theorem Tx.bd__law_mixed {fd : FuncData} (F : FunD K d__law_mixed.name d__law_mixed.qual d__law_mixed.params d__law_mixed.body d__law_mixed.scope [] [] (He.fAd K d__law_mixed.at_) fd) : Binds K fd ["draw"] [] := F.bindsN fun _ _ _ _ _ _ us hl => match us, hl with | [_], _ => rfl
theorem Tx.kp__law_mixed {P : Program} {w : World} {base : Heap} {CX : CXT} {k : Nat} {sp : Sp} (T : Tx K mg) (h : ∀ fd, FunD K d__law_mixed.name d__law_mixed.qual d__law_mixed.params d__law_mixed.body d__law_mixed.scope [] [] (He.fAd K d__law_mixed.at_) fd → FnOk P w K mg base CX k (He.fAd K d__law_mixed.at_) fd ["draw"] sp) : Keeps P w K mg base CX k "_law_mixed" ["draw"] sp := by
  obtain ⟨fd, F⟩ := T.f__law_mixed
  exact ⟨_, fd, h fd F, Tx.bd__law_mixed F, F.kp, T.g__law_mixed⟩
theorem Tx.f__law_take (T : Tx K mg) : ∃ fd, FunD K d__law_take.name d__law_take.qual d__law_take.params d__law_take.body d__law_take.scope [] [] (He.fAd K d__law_take.at_) fd := T.c.def_ 30 (d := d__law_take) rfl
theorem Tx.bd__law_take {fd : FuncData} (F : FunD K d__law_take.name d__law_take.qual d__law_take.params d__law_take.body d__law_take.scope [] [] (He.fAd K d__law_take.at_) fd) : Binds K fd ["draw", "many"] [] := F.bindsN fun _ _ _ _ _ _ us hl => match us, hl with | [_, _], _ => rfl
theorem Tx.kp__law_take {P : Program} {w : World} {base : Heap} {CX : CXT} {k : Nat} {sp : Sp} (T : Tx K mg) (h : ∀ fd, FunD K d__law_take.name d__law_take.qual d__law_take.params d__law_take.body d__law_take.scope [] [] (He.fAd K d__law_take.at_) fd → FnOk P w K mg base CX k (He.fAd K d__law_take.at_) fd ["draw", "many"] sp) : Keeps P w K mg base CX k "_law_take" ["draw", "many"] sp := by
  obtain ⟨fd, F⟩ := T.f__law_take
  exact ⟨_, fd, h fd F, Tx.bd__law_take F, F.kp, T.g__law_take⟩
theorem Tx.f__law_pick (T : Tx K mg) : ∃ fd, FunD K d__law_pick.name d__law_pick.qual d__law_pick.params d__law_pick.body d__law_pick.scope [] [] (He.fAd K d__law_pick.at_) fd := T.c.def_ 31 (d := d__law_pick) rfl
theorem Tx.bd__law_pick {fd : FuncData} (F : FunD K d__law_pick.name d__law_pick.qual d__law_pick.params d__law_pick.body d__law_pick.scope [] [] (He.fAd K d__law_pick.at_) fd) : Binds K fd ["draw", "some"] [] := F.bindsN fun _ _ _ _ _ _ us hl => match us, hl with | [_, _], _ => rfl
theorem Tx.kp__law_pick {P : Program} {w : World} {base : Heap} {CX : CXT} {k : Nat} {sp : Sp} (T : Tx K mg) (h : ∀ fd, FunD K d__law_pick.name d__law_pick.qual d__law_pick.params d__law_pick.body d__law_pick.scope [] [] (He.fAd K d__law_pick.at_) fd → FnOk P w K mg base CX k (He.fAd K d__law_pick.at_) fd ["draw", "some"] sp) : Keeps P w K mg base CX k "_law_pick" ["draw", "some"] sp := by
  obtain ⟨fd, F⟩ := T.f__law_pick
  exact ⟨_, fd, h fd F, Tx.bd__law_pick F, F.kp, T.g__law_pick⟩
theorem Tx.f__law_shuffled (T : Tx K mg) : ∃ fd, FunD K d__law_shuffled.name d__law_shuffled.qual d__law_shuffled.params d__law_shuffled.body d__law_shuffled.scope [] [] (He.fAd K d__law_shuffled.at_) fd := T.c.def_ 32 (d := d__law_shuffled) rfl
theorem Tx.bd__law_shuffled {fd : FuncData} (F : FunD K d__law_shuffled.name d__law_shuffled.qual d__law_shuffled.params d__law_shuffled.body d__law_shuffled.scope [] [] (He.fAd K d__law_shuffled.at_) fd) : Binds K fd ["draw", "some"] [] := F.bindsN fun _ _ _ _ _ _ us hl => match us, hl with | [_, _], _ => rfl
theorem Tx.kp__law_shuffled {P : Program} {w : World} {base : Heap} {CX : CXT} {k : Nat} {sp : Sp} (T : Tx K mg) (h : ∀ fd, FunD K d__law_shuffled.name d__law_shuffled.qual d__law_shuffled.params d__law_shuffled.body d__law_shuffled.scope [] [] (He.fAd K d__law_shuffled.at_) fd → FnOk P w K mg base CX k (He.fAd K d__law_shuffled.at_) fd ["draw", "some"] sp) : Keeps P w K mg base CX k "_law_shuffled" ["draw", "some"] sp := by
  obtain ⟨fd, F⟩ := T.f__law_shuffled
  exact ⟨_, fd, h fd F, Tx.bd__law_shuffled F, F.kp, T.g__law_shuffled⟩
theorem Tx.f__law_step (T : Tx K mg) : ∃ fd, FunD K d__law_step.name d__law_step.qual d__law_step.params d__law_step.body d__law_step.scope [] [] (He.fAd K d__law_step.at_) fd := T.c.def_ 33 (d := d__law_step) rfl
theorem Tx.bd__law_step {fd : FuncData} (F : FunD K d__law_step.name d__law_step.qual d__law_step.params d__law_step.body d__law_step.scope [] [] (He.fAd K d__law_step.at_) fd) : Binds K fd ["draw", "site", "names"] [] := F.bindsN fun _ _ _ _ _ _ us hl => match us, hl with | [_, _, _], _ => rfl
theorem Tx.kp__law_step {P : Program} {w : World} {base : Heap} {CX : CXT} {k : Nat} {sp : Sp} (T : Tx K mg) (h : ∀ fd, FunD K d__law_step.name d__law_step.qual d__law_step.params d__law_step.body d__law_step.scope [] [] (He.fAd K d__law_step.at_) fd → FnOk P w K mg base CX k (He.fAd K d__law_step.at_) fd ["draw", "site", "names"] sp) : Keeps P w K mg base CX k "_law_step" ["draw", "site", "names"] sp := by
  obtain ⟨fd, F⟩ := T.f__law_step
  exact ⟨_, fd, h fd F, Tx.bd__law_step F, F.kp, T.g__law_step⟩
theorem Tx.f__law_body (T : Tx K mg) : ∃ fd, FunD K d__law_body.name d__law_body.qual d__law_body.params d__law_body.body d__law_body.scope [] [] (He.fAd K d__law_body.at_) fd := T.c.def_ 34 (d := d__law_body) rfl
theorem Tx.bd__law_body {fd : FuncData} (F : FunD K d__law_body.name d__law_body.qual d__law_body.params d__law_body.body d__law_body.scope [] [] (He.fAd K d__law_body.at_) fd) : Binds K fd ["draw", "left", "names", "deep", "most"] [] := F.bindsN fun _ _ _ _ _ _ us hl => match us, hl with | [_, _, _, _, _], _ => rfl
theorem Tx.kp__law_body {P : Program} {w : World} {base : Heap} {CX : CXT} {k : Nat} {sp : Sp} (T : Tx K mg) (h : ∀ fd, FunD K d__law_body.name d__law_body.qual d__law_body.params d__law_body.body d__law_body.scope [] [] (He.fAd K d__law_body.at_) fd → FnOk P w K mg base CX k (He.fAd K d__law_body.at_) fd ["draw", "left", "names", "deep", "most"] sp) : Keeps P w K mg base CX k "_law_body" ["draw", "left", "names", "deep", "most"] sp := by
  obtain ⟨fd, F⟩ := T.f__law_body
  exact ⟨_, fd, h fd F, Tx.bd__law_body F, F.kp, T.g__law_body⟩
theorem Tx.f__law_program (T : Tx K mg) : ∃ fd, FunD K d__law_program.name d__law_program.qual d__law_program.params d__law_program.body d__law_program.scope [] [] (He.fAd K d__law_program.at_) fd := T.c.def_ 35 (d := d__law_program) rfl
theorem Tx.bd__law_program {fd : FuncData} (F : FunD K d__law_program.name d__law_program.qual d__law_program.params d__law_program.body d__law_program.scope [] [] (He.fAd K d__law_program.at_) fd) : Binds K fd ["draw", "many", "most"] [] := F.bindsN fun _ _ _ _ _ _ us hl => match us, hl with | [_, _, _], _ => rfl
theorem Tx.kp__law_program {P : Program} {w : World} {base : Heap} {CX : CXT} {k : Nat} {sp : Sp} (T : Tx K mg) (h : ∀ fd, FunD K d__law_program.name d__law_program.qual d__law_program.params d__law_program.body d__law_program.scope [] [] (He.fAd K d__law_program.at_) fd → FnOk P w K mg base CX k (He.fAd K d__law_program.at_) fd ["draw", "many", "most"] sp) : Keeps P w K mg base CX k "_law_program" ["draw", "many", "most"] sp := by
  obtain ⟨fd, F⟩ := T.f__law_program
  exact ⟨_, fd, h fd F, Tx.bd__law_program F, F.kp, T.g__law_program⟩
theorem Tx.f__law_bent_lines (T : Tx K mg) : ∃ fd, FunD K d__law_bent_lines.name d__law_bent_lines.qual d__law_bent_lines.params d__law_bent_lines.body d__law_bent_lines.scope [] [] (He.fAd K d__law_bent_lines.at_) fd := T.c.def_ 36 (d := d__law_bent_lines) rfl
theorem Tx.bd__law_bent_lines {fd : FuncData} (F : FunD K d__law_bent_lines.name d__law_bent_lines.qual d__law_bent_lines.params d__law_bent_lines.body d__law_bent_lines.scope [] [] (He.fAd K d__law_bent_lines.at_) fd) : Binds K fd ["draw", "lines"] [] := F.bindsN fun _ _ _ _ _ _ us hl => match us, hl with | [_, _], _ => rfl
theorem Tx.kp__law_bent_lines {P : Program} {w : World} {base : Heap} {CX : CXT} {k : Nat} {sp : Sp} (T : Tx K mg) (h : ∀ fd, FunD K d__law_bent_lines.name d__law_bent_lines.qual d__law_bent_lines.params d__law_bent_lines.body d__law_bent_lines.scope [] [] (He.fAd K d__law_bent_lines.at_) fd → FnOk P w K mg base CX k (He.fAd K d__law_bent_lines.at_) fd ["draw", "lines"] sp) : Keeps P w K mg base CX k "_law_bent_lines" ["draw", "lines"] sp := by
  obtain ⟨fd, F⟩ := T.f__law_bent_lines
  exact ⟨_, fd, h fd F, Tx.bd__law_bent_lines F, F.kp, T.g__law_bent_lines⟩
theorem Tx.f__law_text_right (T : Tx K mg) : ∃ fd, FunD K d__law_text_right.name d__law_text_right.qual d__law_text_right.params d__law_text_right.body d__law_text_right.scope [] [] (He.fAd K d__law_text_right.at_) fd := T.c.def_ 37 (d := d__law_text_right) rfl
theorem Tx.bd__law_text_right {fd : FuncData} (F : FunD K d__law_text_right.name d__law_text_right.qual d__law_text_right.params d__law_text_right.body d__law_text_right.scope [] [] (He.fAd K d__law_text_right.at_) fd) : Binds K fd ["text"] [] := F.bindsN fun _ _ _ _ _ _ us hl => match us, hl with | [_], _ => rfl
theorem Tx.kp__law_text_right {P : Program} {w : World} {base : Heap} {CX : CXT} {k : Nat} {sp : Sp} (T : Tx K mg) (h : ∀ fd, FunD K d__law_text_right.name d__law_text_right.qual d__law_text_right.params d__law_text_right.body d__law_text_right.scope [] [] (He.fAd K d__law_text_right.at_) fd → FnOk P w K mg base CX k (He.fAd K d__law_text_right.at_) fd ["text"] sp) : Keeps P w K mg base CX k "_law_text_right" ["text"] sp := by
  obtain ⟨fd, F⟩ := T.f__law_text_right
  exact ⟨_, fd, h fd F, Tx.bd__law_text_right F, F.kp, T.g__law_text_right⟩
theorem Tx.f__law_right (T : Tx K mg) : ∃ fd, FunD K d__law_right.name d__law_right.qual d__law_right.params d__law_right.body d__law_right.scope [] [] (He.fAd K d__law_right.at_) fd := T.c.def_ 38 (d := d__law_right) rfl
theorem Tx.bd__law_right {fd : FuncData} (F : FunD K d__law_right.name d__law_right.qual d__law_right.params d__law_right.body d__law_right.scope [] [] (He.fAd K d__law_right.at_) fd) : Binds K fd ["draw"] [] := F.bindsN fun _ _ _ _ _ _ us hl => match us, hl with | [_], _ => rfl
theorem Tx.kp__law_right {P : Program} {w : World} {base : Heap} {CX : CXT} {k : Nat} {sp : Sp} (T : Tx K mg) (h : ∀ fd, FunD K d__law_right.name d__law_right.qual d__law_right.params d__law_right.body d__law_right.scope [] [] (He.fAd K d__law_right.at_) fd → FnOk P w K mg base CX k (He.fAd K d__law_right.at_) fd ["draw"] sp) : Keeps P w K mg base CX k "_law_right" ["draw"] sp := by
  obtain ⟨fd, F⟩ := T.f__law_right
  exact ⟨_, fd, h fd F, Tx.bd__law_right F, F.kp, T.g__law_right⟩
theorem Tx.f__law_limits_right (T : Tx K mg) : ∃ fd, FunD K d__law_limits_right.name d__law_limits_right.qual d__law_limits_right.params d__law_limits_right.body d__law_limits_right.scope [] [] (He.fAd K d__law_limits_right.at_) fd := T.c.def_ 39 (d := d__law_limits_right) rfl
theorem Tx.bd__law_limits_right {fd : FuncData} (F : FunD K d__law_limits_right.name d__law_limits_right.qual d__law_limits_right.params d__law_limits_right.body d__law_limits_right.scope [] [] (He.fAd K d__law_limits_right.at_) fd) : Binds K fd ["draw"] [] := F.bindsN fun _ _ _ _ _ _ us hl => match us, hl with | [_], _ => rfl
theorem Tx.kp__law_limits_right {P : Program} {w : World} {base : Heap} {CX : CXT} {k : Nat} {sp : Sp} (T : Tx K mg) (h : ∀ fd, FunD K d__law_limits_right.name d__law_limits_right.qual d__law_limits_right.params d__law_limits_right.body d__law_limits_right.scope [] [] (He.fAd K d__law_limits_right.at_) fd → FnOk P w K mg base CX k (He.fAd K d__law_limits_right.at_) fd ["draw"] sp) : Keeps P w K mg base CX k "_law_limits_right" ["draw"] sp := by
  obtain ⟨fd, F⟩ := T.f__law_limits_right
  exact ⟨_, fd, h fd F, Tx.bd__law_limits_right F, F.kp, T.g__law_limits_right⟩
theorem Tx.f__law_late_else_right (T : Tx K mg) : ∃ fd, FunD K d__law_late_else_right.name d__law_late_else_right.qual d__law_late_else_right.params d__law_late_else_right.body d__law_late_else_right.scope [] [] (He.fAd K d__law_late_else_right.at_) fd := T.c.def_ 40 (d := d__law_late_else_right) rfl
theorem Tx.bd__law_late_else_right {fd : FuncData} (F : FunD K d__law_late_else_right.name d__law_late_else_right.qual d__law_late_else_right.params d__law_late_else_right.body d__law_late_else_right.scope [] [] (He.fAd K d__law_late_else_right.at_) fd) : Binds K fd ["draw"] [] := F.bindsN fun _ _ _ _ _ _ us hl => match us, hl with | [_], _ => rfl
theorem Tx.kp__law_late_else_right {P : Program} {w : World} {base : Heap} {CX : CXT} {k : Nat} {sp : Sp} (T : Tx K mg) (h : ∀ fd, FunD K d__law_late_else_right.name d__law_late_else_right.qual d__law_late_else_right.params d__law_late_else_right.body d__law_late_else_right.scope [] [] (He.fAd K d__law_late_else_right.at_) fd → FnOk P w K mg base CX k (He.fAd K d__law_late_else_right.at_) fd ["draw"] sp) : Keeps P w K mg base CX k "_law_late_else_right" ["draw"] sp := by
  obtain ⟨fd, F⟩ := T.f__law_late_else_right
  exact ⟨_, fd, h fd F, Tx.bd__law_late_else_right F, F.kp, T.g__law_late_else_right⟩
theorem Tx.f__law_odd_right (T : Tx K mg) : ∃ fd, FunD K d__law_odd_right.name d__law_odd_right.qual d__law_odd_right.params d__law_odd_right.body d__law_odd_right.scope [] [] (He.fAd K d__law_odd_right.at_) fd := T.c.def_ 41 (d := d__law_odd_right) rfl
theorem Tx.bd__law_odd_right {fd : FuncData} (F : FunD K d__law_odd_right.name d__law_odd_right.qual d__law_odd_right.params d__law_odd_right.body d__law_odd_right.scope [] [] (He.fAd K d__law_odd_right.at_) fd) : Binds K fd ["draw"] [] := F.bindsN fun _ _ _ _ _ _ us hl => match us, hl with | [_], _ => rfl
theorem Tx.kp__law_odd_right {P : Program} {w : World} {base : Heap} {CX : CXT} {k : Nat} {sp : Sp} (T : Tx K mg) (h : ∀ fd, FunD K d__law_odd_right.name d__law_odd_right.qual d__law_odd_right.params d__law_odd_right.body d__law_odd_right.scope [] [] (He.fAd K d__law_odd_right.at_) fd → FnOk P w K mg base CX k (He.fAd K d__law_odd_right.at_) fd ["draw"] sp) : Keeps P w K mg base CX k "_law_odd_right" ["draw"] sp := by
  obtain ⟨fd, F⟩ := T.f__law_odd_right
  exact ⟨_, fd, h fd F, Tx.bd__law_odd_right F, F.kp, T.g__law_odd_right⟩
theorem Tx.f_law (T : Tx K mg) : ∃ fd, FunD K d_law.name d_law.qual d_law.params d_law.body d_law.scope [] [] (He.fAd K d_law.at_) fd := T.c.def_ 42 (d := d_law) rfl
theorem Tx.bd_law {fd : FuncData} (F : FunD K d_law.name d_law.qual d_law.params d_law.body d_law.scope [] [] (He.fAd K d_law.at_) fd) : Binds K fd ["script"] [] := F.bindsN fun _ _ _ _ _ _ us hl => match us, hl with | [_], _ => rfl
theorem Tx.kp_law {P : Program} {w : World} {base : Heap} {CX : CXT} {k : Nat} {sp : Sp} (T : Tx K mg) (h : ∀ fd, FunD K d_law.name d_law.qual d_law.params d_law.body d_law.scope [] [] (He.fAd K d_law.at_) fd → FnOk P w K mg base CX k (He.fAd K d_law.at_) fd ["script"] sp) : Keeps P w K mg base CX k "law" ["script"] sp := by
  obtain ⟨fd, F⟩ := T.f_law
  exact ⟨_, fd, h fd F, Tx.bd_law F, F.kp, T.g_law⟩
end
end MH
end
section
set_option linter.all false
set_option maxRecDepth 100000
/-! the mathematics: names -/
namespace MH
open PySem
def kept1 : List Str := ["alike", "args", "back", "base", "body", "cannot", "clash", "cut", "do", "done", "edit", "else", "end", "first", "if", "join", "journal", "least", "move", "names"]
def kept2 : List Str := ["no", "none", "nothing", "open", "owners", "put", "redo", "ring", "row", "sets", "size", "slice", "store", "take", "turn", "undo", "version", "what", "while", "yes"]
def keptS : List Str := kept1 ++ kept2
def letters : List Nat := [97, 98, 99, 100, 101, 102, 103, 104, 105, 106, 107, 108, 109, 110, 111, 112, 113, 114, 115, 116, 117, 118, 119, 120, 121, 122]
def isName (x : Str) : Bool := decide (1 ≤ x.length) && decide (x.length ≤ 8) && !keptS.contains x && x.cps.toList.all (fun c => letters.contains c)
def isNameD : PyData → Bool
  | .str x => isName x
  | _ => false
end MH
end
section
set_option Elab.async false
set_option linter.all false
set_option maxRecDepth 100000
/-! engine: readings, step by step -/
namespace MH
open PySem PySem.Spec PyProof.Rows L2
section
variable {t u : TS} {D : Ends} {σ : L2.St} {H : Hp} {c tA tB' : TT} {te ta tb tc : TE} {Q : VK} {g : TG} {i : Nat} {v : V} {b : Bool}
theorem i_seq (h : t { D with nx := u D } σ H) : tSeq t u D σ H := h
theorem i_ifS (h : c σ H fun b H1 => if b = true then t D σ H1 else u D σ H1) : tIfS c t u D σ H := h
theorem i_ret (h : te σ H D.rt) : tRet te D σ H := h
theorem i_retN (h : D.rt .non H) : tRetN D σ H := h
theorem i_drop (h : te σ H fun _ H1 => D.nx σ H1) : tDrop te D σ H := h
theorem i_asg (h : te σ H fun x H1 => g x σ H1 D.nx) : tAsg te g D σ H := h
theorem i_name {Q : L2.St → Hp → Prop} (h : Q (σ.set i (some v)) H) : gName i v σ H Q := h
theorem i_next (h : D.nx σ H) : tNext D σ H := h
theorem i_brk (h : D.bk σ H) : tBreak D σ H := h
theorem i_cont (h : D.ct σ H) : tCont D σ H := h
theorem i_var (e : σ[i]? = some (some v)) (h : Q v H) : tVar i σ H Q := ⟨v, e, h⟩
theorem i_c (h : Q v H) : tC v σ H Q := h
theorem i_cons {tr : TA} {Q : List V → Hp → Prop} (h : te σ H fun x H1 => tr σ H1 fun xs H2 => Q (x :: xs) H2) : tCons te tr σ H Q := h
theorem i_nil {Q : List V → Hp → Prop} (h : Q [] H) : tNil σ H Q := h
theorem i_cb {r : List V → Hp → VK → Prop} {t : TA} (h : t σ H fun vs H1 => r vs H1 Q) : tCB r t σ H Q := h
theorem i_op {r : R2} (h : ta σ H fun x H1 => tb σ H1 fun y H2 => r x y H2 Q) : tOp r ta tb σ H Q := h
theorem i_un {r : V → Hp → VK → Prop} (h : ta σ H fun x H1 => r x H1 Q) : tUn r ta σ H Q := h
theorem i_call {sp : Sp} {dvs : List V} {E : XK} {t : TA} (h : t σ H fun vs H1 => sp (vs ++ dvs) H1 Q E) : tCall sp dvs E t σ H Q := h
theorem i_test {Q : Bool → Hp → Prop} (h : te σ H fun x H' => ∃ k, x = .bl k ∧ Q k H') : tTest te σ H Q := h
theorem i_b {Q : Bool → Hp → Prop} (h : te σ H fun x H' => ∃ k, x = .bl k ∧ Q k H') : tB te σ H Q := h
theorem i_bl {R : Bool → Prop} (h : R b) : ∃ k, V.bl b = .bl k ∧ R k := ⟨b, rfl, h⟩
theorem i_and {Q : Bool → Hp → Prop} (h : tA σ H fun c H1 => if c = true then tB' σ H1 Q else Q false H1) : tAnd tA tB' σ H Q := h
theorem i_or {Q : Bool → Hp → Prop} (h : tA σ H fun c H1 => if c = true then Q true H1 else tB' σ H1 Q) : tOr tA tB' σ H Q := h
theorem i_not {Q : Bool → Hp → Prop} (h : tA σ H fun c H1 => Q (!c) H1) : tNot tA σ H Q := h
theorem i_andV (h : ta σ H fun x H1 => ∃ c, x = .bl c ∧ if c = true then tb σ H1 Q else Q (.bl false) H1) : tAndV ta tb σ H Q := h
theorem i_orV (h : ta σ H fun x H1 => ∃ c, x = .bl c ∧ if c = true then Q (.bl true) H1 else tb σ H1 Q) : tOrV ta tb σ H Q := h
theorem i_notV (h : ta σ H fun x H1 => ∃ c, x = .bl c ∧ Q (.bl (!c)) H1) : tNotV ta σ H Q := h
theorem i_if (h : tA σ H fun c H1 => if c = true then ta σ H1 Q else tb σ H1 Q) : tIf tA ta tb σ H Q := h
theorem i_chain {r r' : R2} (h : ta σ H fun x H1 => tb σ H1 fun y H2 => r x y H2 fun z H3 => ∃ k, z = .bl k ∧ (if k = true then tc σ H3 fun w' H4 => r' y w' H4 Q else Q (.bl false) H3)) : tChain r r' ta tb tc σ H Q := h
theorem i_tup {t : TA} (h : t σ H fun xs H1 => xs.length ≤ sizeLine ∧ ∀ p, H1 p = none → Q (.ref p) (upd H1 p (.tup xs))) : tTup t σ H Q := h
theorem i_lst {t : TA} (h : t σ H fun xs H1 => xs.length ≤ sizeLine ∧ ∀ p, H1 p = none → Q (.ref p) (upd H1 p (.lst xs))) : tLst t σ H Q := h
theorem i_sl {r : V → Option Int → Option Int → Hp → VK → Prop} {tl th : TO} (h : te σ H fun x H1 => tl σ H1 fun l H2 => th σ H2 fun u H3 => r x l u H3 Q) : tSl r te tl th σ H Q := h
theorem i_part {Q : Option Int → Hp → Prop} (h : te σ H fun x H1 => ∃ i, x = .int i ∧ Q (some i) H1) : tPart te σ H Q := h
theorem i_nopart {Q : Option Int → Hp → Prop} (h : Q none H) : tNoPart σ H Q := h
theorem i_int {n : Int} {R : Int → Prop} (h : R n) : ∃ i, V.int n = .int i ∧ R i := ⟨n, rfl, h⟩
theorem i_bm {K : Fg} {T : String} {r : V → List V → Hp → VK → Prop} {to : TE} {t : TA} (h : to σ H fun x H1 => tyV K T x H1 ∧ t σ H1 fun xs H2 => r x xs H2 Q) : tBM K T r to t σ H Q := h
theorem i_bm0 {K : Fg} {T : String} {r : V → List V → Hp → VK → Prop} {to : TE} (h : to σ H fun x H1 => tyV K T x H1 ∧ r x [] H1 Q) : tBM0 K T r to σ H Q := h
theorem i_I0 {f : Int → Int → V} {x y : Int} (h : Q (f x y) H) : rI0 f (.int x) (.int y) H Q := ⟨x, y, rfl, rfl, h⟩
theorem i_yes {Q : Bool → Hp → Prop} (h : Q true H) : tYes σ H Q := h
theorem i_eq {x y : V} (s : scal x y = true) (h : Q (.bl (decide (x = y))) H) : rEq x y H Q := ⟨s, h⟩
theorem i_ne {x y : V} (s : scal x y = true) (h : Q (.bl (!decide (x = y))) H) : rNe x y H Q := ⟨s, h⟩
theorem i_eqS {x y : Str} (h : Q (.bl (decide (x = y))) H) : rEq (.str x) (.str y) H Q := ⟨rfl, by
  rw [show decide (V.str x = V.str y) = decide (x = y) from decide_eq_decide.mpr ⟨fun e => by cases e; rfl, fun e => by rw [e]⟩]
  exact h⟩
theorem i_neS {x y : Str} (h : Q (.bl (!decide (x = y))) H) : rNe (.str x) (.str y) H Q := ⟨rfl, by
  rw [show decide (V.str x = V.str y) = decide (x = y) from decide_eq_decide.mpr ⟨fun e => by cases e; rfl, fun e => by rw [e]⟩]
  exact h⟩
theorem i_eqI {x y : Int} (h : Q (.bl (decide (x = y))) H) : rEq (.int x) (.int y) H Q := ⟨rfl, by
  rw [show decide (V.int x = V.int y) = decide (x = y) from decide_eq_decide.mpr ⟨fun e => by cases e; rfl, fun e => by rw [e]⟩]
  exact h⟩
theorem i_neI {x y : Int} (h : Q (.bl (!decide (x = y))) H) : rNe (.int x) (.int y) H Q := ⟨rfl, by
  rw [show decide (V.int x = V.int y) = decide (x = y) from decide_eq_decide.mpr ⟨fun e => by cases e; rfl, fun e => by rw [e]⟩]
  exact h⟩
theorem i_par {t : TA} {j : Nat} (h : t σ H fun vs H1 => ∃ v w, vs = [v, w] ∧ D.nx ((σ.set i (some v)).set j (some w)) H1) : tPar i j t D σ H := h
theorem i_par3 {t : TA} {j l : Nat} (h : t σ H fun vs H1 => ∃ u v w, vs = [u, v, w] ∧ D.nx (((σ.set i (some u)).set j (some v)).set l (some w)) H1) : tPar3 i j l t D σ H := h
theorem i_two {x y : V} {R : V → V → Prop} (h : R x y) : ∃ v w, [x, y] = [v, w] ∧ R v w := ⟨x, y, rfl, h⟩
theorem i_three {x y z : V} {R : V → V → V → Prop} (h : R x y z) : ∃ u v w, [x, y, z] = [u, v, w] ∧ R u v w := ⟨x, y, z, rfl, h⟩
theorem i_itup {K : Fg} {R : It → Hp → Prop} (h : te σ H fun x H1 => ∃ a, x = .ref a ∧ (∃ xs, SqT K H1 a xs) ∧ R (Itt K a) H1) : iTup K te σ H R := h
theorem i_ilist {K : Fg} {R : It → Hp → Prop} (h : te σ H fun x H1 => ∃ a, x = .ref a ∧ (∃ xs, SqL K H1 a xs) ∧ R (Itl K a) H1) : iList K te σ H R := h
theorem i_istr {R : It → Hp → Prop} (h : te σ H fun v H1 => ∃ x, v = .str x ∧ R (Its x) H1) : iStr te σ H R := h
theorem i_str {x : Str} {R : Str → Prop} (h : R x) : ∃ y, V.str x = .str y ∧ R y := ⟨x, rfl, h⟩
theorem i_m1 {r : V → List V → Hp → VK → Prop} {to : TE} (h : to σ H fun x H1 => (∃ a, x = .str a) ∧ te σ H1 fun y H2 => r x [y] H2 Q) : tM1 r to te σ H Q := h
theorem i_anystr {x : Str} {R : Prop} (h : R) : (∃ a, V.str x = .str a) ∧ R := ⟨⟨x, rfl⟩, h⟩
end
def rLenS (K : Fg) : List V → Hp → VK → Prop := fun vs H Q => ∃ p ys, vs = [.ref p] ∧ (SqL K H p ys ∨ SqT K H p ys) ∧ Q (.int ys.length) H
theorem call_lenS {X : Cx} : CallR X (.builtin "len") (rLenS X.K) := call_len_seq
theorem rd_lenT {K : Fg} {H : Hp} {v : V} {ds : List PyData} {Q : VK} (h : Dt K H v (.tuple ds)) (q : Q (.int ds.length) H) : rLenS K [v] H Q := by
  cases h with
  | tup hs ha => exact ⟨_, _, rfl, .inr hs, by rw [ha.length]; exact q⟩
theorem rd_lenL {K : Fg} {H : Hp} {a : Addr} {xs : List V} {Q : VK} (h : H a = some (.lst xs)) (q : Q (.int xs.length) H) : rLenS K [.ref a] H Q := ⟨_, _, rfl, .inl (SqL.of h), q⟩
theorem ifb {b : Bool} {A B : Prop} (h1 : b = true → A) (h2 : b = false → B) : if b = true then A else B := by
  cases b with
  | true => exact iteT (h1 rfl)
  | false => exact iteF (h2 rfl)
theorem ifn {b : Bool} {A B : Prop} (h1 : b = false → A) (h2 : b = true → B) : if (!b) = true then A else B := by
  cases b with
  | true => exact iteF (h2 rfl)
  | false => exact iteT (h1 rfl)
/-! ### a comprehension that changes nothing -/
/-- what is walked does not change: n items, the i-th it i -/
structure Still (J : It) (H : Hp) (n : Nat) (it : Nat → V) : Prop where
  go : ∀ i, i < n → J.go i H
  yld : ∀ i x H', i < n → J.yld i H x H' → H' = H ∧ x = it i
  stop : J.stop n H
theorem still_tup {K : Fg} {H : Hp} {a : Addr} {xs : List V} (h : SqT K H a xs) (hi : ∀ ys, SqT K H a ys → ys = xs) : Still (Itt K a) H xs.length (fun i => xs.getD i .non) where
  go := fun i hi => ⟨xs, xs[i], h, List.getElem?_eq_getElem hi⟩
  yld := fun i x H' hi ⟨e, f⟩ => ⟨e, by
    have q := f xs h
    rw [List.getD_eq_getElem?_getD, q]
    rfl⟩
  stop := ⟨xs, h, Nat.le_refl _⟩
theorem still_lst {K : Fg} {H : Hp} {a : Addr} {xs : List V} (h : SqL K H a xs) : Still (Itl K a) H xs.length (fun i => xs.getD i .non) where
  go := fun i hi => ⟨xs, xs[i], h, List.getElem?_eq_getElem hi⟩
  yld := fun i x H' hi ⟨e, f⟩ => ⟨e, by
    have q := f xs h
    rw [List.getD_eq_getElem?_getD, q]
    rfl⟩
  stop := ⟨xs, h, Nat.le_refl _⟩
theorem still_tup' {K : Fg} {H : Hp} {a : Addr} {xs : List V} (h : SqT K H a xs) : Still (Itt K a) H xs.length (fun i => xs.getD i .non) where
  go := fun i hi => ⟨xs, xs[i], h, List.getElem?_eq_getElem hi⟩
  yld := fun i x H' hi ⟨e, f⟩ => ⟨e, by
    have q := f xs h
    rw [List.getD_eq_getElem?_getD, q]
    rfl⟩
  stop := ⟨xs, h, Nat.le_refl _⟩
theorem still_str {H : Hp} (x : Str) : Still (Its x) H x.length (fun i => .str ⟨#[x.cps.toList.getD i 0]⟩) where
  go := fun i hi => hi
  yld := fun i v H' hi ⟨e, c, h1, h2⟩ => ⟨e, by
    rw [h2, List.getD_eq_getElem?_getD]
    have q : x.cps.toList[i]? = some c := by rw [Array.getElem?_toList]; exact h1
    rw [q]
    rfl⟩
  stop := Nat.le_refl _
theorem still_rng {H : Hp} (lo : Int) (n : Nat) : Still (Itr lo n) H n (fun i => .int (lo + i)) where
  go := fun i hi => hi
  yld := fun i v H' hi h => h
  stop := Nat.le_refl _
/-- a comprehension behind its iterator -/
def LcB (J : It) (H1 : Hp) (g : TG) (tt : TT) (te : TE) (vs : List Nat) (σ : L2.St) (Q : VK) : Prop := ∀ D, H1 D = none → ∃ W : Nat → Nat → Hp → Prop, (∃ m, W 0 m (upd H1 D (.lst []))) ∧ ∀ i m H, W i m H →
  (J.stop i H ∧ Q (.ref D) H) ∨ (J.go i H ∧ ∃ Nx : Hp → Prop, (∀ H', Nx H' → ∃ m', m' < m ∧ W (i + 1) m' H') ∧ ∀ x H', J.yld i H x H' → g x (wipe σ vs) H' fun σ2 H2 => wipe σ2 vs = wipe σ vs ∧ tt σ2 H2 fun b H3 =>
    if b = true then te σ2 H3 fun y H4 => ∃ acc, H4 D = some (.lst acc) ∧ acc.length < sizeLine ∧ Nx (upd H4 D (.lst (acc ++ [y]))) else Nx H3)
theorem i_lc {wi : TI} {g : TG} {tt : TT} {te : TE} {vs : List Nat} {σ : L2.St} {H : Hp} {Q : VK} (h : wi σ H fun J H1 => LcB J H1 g tt te vs σ Q) : tLc wi g tt te vs σ H Q := h
/-- a loop behind its iterator -/
def ForB (J : It) (H1 : Hp) (g : TG) (tb : TS) (D : Ends) (σ : L2.St) : Prop := ∃ W : Nat → Nat → L2.St → Hp → Prop, (∃ m, W 0 m σ H1) ∧ ∀ i m σ H, W i m σ H →
  (J.stop i H ∧ D.nx σ H) ∨ (J.go i H ∧ ∃ N : L2.St → Hp → Prop, (∀ σ' H', N σ' H' → ∃ m', m' < m ∧ W (i + 1) m' σ' H') ∧ ∀ x H', J.yld i H x H' → g x σ H' fun σ2 H2 => tb { D with nx := N, ct := N, bk := D.nx } σ2 H2)
theorem i_for {wi : TI} {g : TG} {tb : TS} {D : Ends} {σ : L2.St} {H : Hp} (h : wi σ H fun J H1 => ForB J H1 g tb D σ) : tFor wi g tb D σ H := h
theorem lcb_pure {J : It} {H1 : Hp} {n : Nat} {it y : Nat → V} {σ : L2.St} {vs : List Nat} {j : Nat} {te : TE} {Q : VK} (hn : n ≤ sizeLine) (hJ : ∀ H3, Same H1 H3 → Still J H3 n it)
    (hw : ∀ x : V, wipe ((wipe σ vs).set j (some x)) vs = wipe σ vs)
    (he : ∀ i H3 (R : VK), i < n → Same H1 H3 → (∀ H4, Same H3 H4 → R (y i) H4) → te ((wipe σ vs).set j (some (it i))) H3 R)
    (hq : ∀ D H', H1 D = none → Same H1 H' → H' D = some (.lst ((List.range n).map y)) → Q (.ref D) H') :
    LcB J H1 (gName j) tYes te vs σ Q := by
  intro D hD
  have sD : ∀ H, Same H1 H → ∀ o, Same H1 (upd H D o) := fun H s o b u e => by
    rw [upd_ne (ne_of_none e hD)]
    exact s b u e
  refine ⟨fun i m H => i + m = n ∧ Same H1 H ∧ H D = some (.lst ((List.range i).map y)), ⟨n, by omega, sD _ (Same.refl _) _, upd_same⟩, fun i m H hW => ?_⟩
  obtain ⟨e, s, l⟩ := hW
  have S := hJ H s
  cases m with
  | zero =>
    have ei : i = n := by omega
    subst ei
    exact .inl ⟨S.stop, hq D H hD s l⟩
  | succ m =>
    have hi : i < n := by omega
    refine .inr ⟨S.go i hi, fun H' => Same H1 H' ∧ H' D = some (.lst ((List.range (i + 1)).map y)), fun H' h => ⟨m, by omega, by omega, h.1, h.2⟩, fun x H' hy => ?_⟩
    obtain ⟨e1, e2⟩ := S.yld i x H' hi hy
    subst e1 e2
    refine ⟨hw _, ?_⟩
    refine i_yes ?_
    refine iteT ?_
    refine he i H' _ hi s fun H4 s4 => ?_
    refine ⟨_, s4 _ _ l, by rw [List.length_map, List.length_range]; omega, sD _ (s.trans s4) _, ?_⟩
    rw [upd_same, List.range_succ, List.map_append]
    rfl
theorem map_getD_range : ∀ (xs : List V), (List.range xs.length).map (fun i => xs.getD i .non) = xs := fun xs => by
  apply List.ext_getElem
  · simp
  · intro i h1 h2
    simp only [List.getElem_map, List.getElem_range]
    rw [List.getD_eq_getElem?_getD, List.getElem?_eq_getElem h2]
    rfl
end MH
end
section
set_option linter.all false
set_option maxRecDepth 100000
/-! the mathematics: programs as data -/
namespace MH
open PySem
abbrev PD := PyData
def strD : PD → Str
  | .str x => x
  | _ => ""
def tupD : PD → List PD
  | .tuple ds => ds
  | _ => []
def isRowD (d : PD) (m : Int) : Bool := match d with
  | .tuple ds => decide ((ds.length : Int) ≤ m)
  | _ => false
def argsD (d : PD) : Bool := isRowD d 3 && (tupD d).all isNameD
def headD (ds : List PD) : Bool := isNameD (ds.getD 1 .none) && argsD (if strD (ds.getD 0 .none) = "do" then ds.getD 3 .none else ds.getD 2 .none)
def isItemD : PD → Bool
  | .tuple (.str x :: ds) => if x = "do" then decide (ds.length = 3) && isNameD ((PyData.str x :: ds).getD 2 .none) && headD (.str x :: ds)
      else decide (x = "if" ∨ x = "while") && decide (ds.length = if x = "if" then 4 else 3) && headD (.str x :: ds)
  | _ => false
def bodiesD (d : PD) : List PD := if strD ((tupD d).getD 0 .none) = "do" then [] else (tupD d).drop 3
def isBodyD : Nat → PD → Bool
  | 0, d => isRowD d 12 && decide (tupD d = [])
  | n + 1, d => isRowD d 12 && (tupD d).all fun it => isItemD it && (bodiesD it).all (isBodyD n)
def siteD (d : PD) : Str := strD ((tupD d).getD 1 .none)
def sitesD : Nat → PD → List Str
  | 0, _ => []
  | n + 1, d => (tupD d).flatMap fun it => siteD it :: (bodiesD it).flatMap (sitesD n)
def isPBodyD (d : PD) : Bool := isBodyD 4 d && (decide ((sitesD 5 d).length ≤ 40) && decide (sitesD 5 d).Nodup)
def isProgD : PD → Bool
  | .tuple [.str p, b] => decide (p = "program") && isPBodyD b
  | _ => false
theorem item_str {d : PD} (h : isItemD d = true) : ∃ x rest, d = .tuple (.str x :: rest) := by
  unfold isItemD at h
  split at h
  · exact ⟨_, _, rfl⟩
  · cases h
theorem isNameD_str {d : PD} (h : isNameD d = true) : ∃ x, d = .str x ∧ isName x = true := by
  unfold isNameD at h
  split at h
  · exact ⟨_, rfl, h⟩
  · cases h
theorem argsD_tup' {d : PD} (h : argsD d = true) : ∃ as, d = .tuple as ∧ as.length ≤ 3 ∧ as.all isNameD = true := by
  unfold argsD isRowD at h
  split at h
  · rw [Bool.and_eq_true] at h
    exact ⟨_, rfl, by have := of_decide_eq_true h.1; omega, h.2⟩
  · cases h
/-- what an item is -/
inductive ItemIs : PD → Prop
  | d (s x : Str) (as : List PD) : isName s = true → isName x = true → as.length ≤ 3 → as.all isNameD = true → ItemIs (.tuple [.str "do", .str s, .str x, .tuple as])
  | i (s : Str) (as : List PD) (a b : PD) : isName s = true → as.length ≤ 3 → as.all isNameD = true → ItemIs (.tuple [.str "if", .str s, .tuple as, a, b])
  | w (s : Str) (as : List PD) (a : PD) : isName s = true → as.length ≤ 3 → as.all isNameD = true → ItemIs (.tuple [.str "while", .str s, .tuple as, a])
theorem item_is {d : PD} (h : isItemD d = true) : ItemIs d := by
  obtain ⟨x, rest, rfl⟩ := item_str h
  have h : (if x = "do" then decide (rest.length = 3) && isNameD ((PyData.str x :: rest).getD 2 .none) && headD (.str x :: rest)
      else decide (x = "if" ∨ x = "while") && decide (rest.length = if x = "if" then 4 else 3) && headD (.str x :: rest)) = true := h
  split at h
  · rename_i e
    subst e
    rw [Bool.and_eq_true, Bool.and_eq_true] at h
    obtain ⟨⟨h1, h2⟩, h3⟩ := h
    have h1 := of_decide_eq_true h1
    match rest, h1, h2, h3 with
    | [s, x, as], _, h2, h3 =>
      have k3 : (isNameD s && argsD as) = true := h3
      rw [Bool.and_eq_true] at k3; clear h3; obtain ⟨k3, k4⟩ := k3
      obtain ⟨s, rfl, es⟩ := isNameD_str k3
      obtain ⟨x, rfl, ex⟩ := isNameD_str h2
      obtain ⟨as, rfl, e1, e2⟩ := argsD_tup' k4
      exact .d s x as es ex e1 e2
  · rename_i e
    rw [Bool.and_eq_true, Bool.and_eq_true] at h
    obtain ⟨⟨h1, h2⟩, h3⟩ := h
    rcases of_decide_eq_true h1 with rfl | rfl
    · have h2 : rest.length = 4 := of_decide_eq_true h2
      match rest, h2, h3 with
      | [s, as, a, b], _, h3 =>
        have k3 : (isNameD s && argsD as) = true := h3
        rw [Bool.and_eq_true] at k3; clear h3; obtain ⟨k3, k4⟩ := k3
        obtain ⟨s, rfl, es⟩ := isNameD_str k3
        obtain ⟨as, rfl, e1, e2⟩ := argsD_tup' k4
        exact .i s as a b es e1 e2
    · have h2 : rest.length = 3 := of_decide_eq_true h2
      match rest, h2, h3 with
      | [s, as, a], _, h3 =>
        have k3 : (isNameD s && argsD as) = true := h3
        rw [Bool.and_eq_true] at k3; clear h3; obtain ⟨k3, k4⟩ := k3
        obtain ⟨s, rfl, es⟩ := isNameD_str k3
        obtain ⟨as, rfl, e1, e2⟩ := argsD_tup' k4
        exact .w s as a es e1 e2
theorem isBodyD_row {n : Nat} {d : PD} (h : isRowD d 12 = false) : isBodyD n d = false := by
  cases n <;> (unfold isBodyD; rw [h]; rfl)
theorem isRowD_tup {d : PD} {m : Int} (h : isRowD d m = true) : ∃ ds, d = .tuple ds ∧ (ds.length : Int) ≤ m := by
  unfold isRowD at h
  split at h
  · exact ⟨_, rfl, of_decide_eq_true h⟩
  · cases h
def okIt (n : Nat) (it : PD) : Bool := isItemD it && (bodiesD it).all (isBodyD n)
theorem isBodyD_succ (n : Nat) (ds : List PD) (h : (ds.length : Int) ≤ 12) : isBodyD (n + 1) (.tuple ds) = ds.all (okIt n) := by
  show (decide ((ds.length : Int) ≤ 12) && _) = _
  rw [decide_eq_true h, Bool.true_and]
  rfl
theorem isBodyD_zero (ds : List PD) (h : (ds.length : Int) ≤ 12) : isBodyD 0 (.tuple ds) = decide (ds = []) := by
  show (decide ((ds.length : Int) ≤ 12) && decide (ds = [])) = _
  rw [decide_eq_true h, Bool.true_and]
theorem all_take_succ {α : Type} {ds : List α} {f : α → Bool} {i : Nat} {d : α} (e : ds[i]? = some d) (h : (ds.take i).all f = true) (hd : f d = true) : (ds.take (i + 1)).all f = true := by
  rw [List.take_add_one, e, List.all_append, h]
  simp [hd]
theorem all_no {α : Type} {ds : List α} {f : α → Bool} {i : Nat} {d : α} (e : ds[i]? = some d) (hd : f d = false) : ds.all f = false := by
  apply Bool.eq_false_iff.mpr
  intro h
  have := List.all_eq_true.mp h d (List.mem_of_getElem? e)
  rw [hd] at this
  cases this
theorem bodiesD_le {d : PD} (h : isItemD d = true) : (bodiesD d).length ≤ 2 := by
  have := item_is h
  cases this with
  | d s x as _ _ _ _ => show (if (Str.ofString "do") = "do" then _ else _ : List PD).length ≤ 2; rw [if_pos rfl]; simp
  | i s as a b _ _ _ => show (if (Str.ofString "if") = "do" then _ else _ : List PD).length ≤ 2; rw [if_neg (by decide)]; simp [tupD]
  | w s as a _ _ _ => show (if (Str.ofString "while") = "do" then _ else _ : List PD).length ≤ 2; rw [if_neg (by decide)]; simp [tupD]
theorem flatMap_take_succ {α β : Type} {ds : List α} {f : α → List β} {i : Nat} {d : α} (e : ds[i]? = some d) : (ds.take (i + 1)).flatMap f = (ds.take i).flatMap f ++ f d := by
  rw [List.take_add_one, e, List.flatMap_append]
  simp
theorem isBodyD_tup {n : Nat} {d : PD} (h : isBodyD n d = true) : ∃ ds, d = .tuple ds ∧ ds.length ≤ 12 ∧ (n = 0 → ds = []) ∧ ∀ m, n = m + 1 → ds.all (okIt m) = true := by
  have hr : isRowD d 12 = true := by
    cases hr : isRowD d 12 with
    | true => rfl
    | false => rw [isBodyD_row hr] at h; cases h
  obtain ⟨ds, rfl, hl⟩ := isRowD_tup hr
  refine ⟨ds, rfl, by omega, fun e => ?_, fun m e => ?_⟩
  · subst e
    rw [isBodyD_zero ds hl] at h
    exact of_decide_eq_true h
  · subst e
    rwa [isBodyD_succ m ds hl] at h
theorem okIt_item {m : Nat} {it : PD} (h : okIt m it = true) : isItemD it = true ∧ ∀ b ∈ bodiesD it, isBodyD m b = true := by
  unfold okIt at h
  rw [Bool.and_eq_true] at h
  exact ⟨h.1, fun b hb => List.all_eq_true.mp h.2 b hb⟩
/-- sites of one item -/
def itSites (n : Nat) (it : PD) : List Str := siteD it :: (bodiesD it).flatMap (sitesD n)
theorem sitesD_succ (n : Nat) (ds : List PD) : sitesD (n + 1) (.tuple ds) = ds.flatMap (itSites n) := rfl
theorem item_site {d : PD} (h : isItemD d = true) : (tupD d)[1]? = some (.str (siteD d)) ∧ isName (siteD d) = true := by
  have := item_is h
  cases this with
  | d s x as e _ _ _ => exact ⟨rfl, e⟩
  | i s as a b e _ _ => exact ⟨rfl, e⟩
  | w s as a e _ _ => exact ⟨rfl, e⟩
theorem all_get {α : Type} {ds : List α} {f : α → Bool} {i : Nat} {d : α} (h : ds.all f = true) (e : ds[i]? = some d) : f d = true := List.all_eq_true.mp h d (List.mem_of_getElem? e)
theorem item_tup {d : PD} (h : isItemD d = true) : d = .tuple (tupD d) := by
  obtain ⟨x, r, rfl⟩ := item_str h
  rfl
/-- many sites at most -/
def siteMax : Nat → Nat
  | 0 => 0
  | n + 1 => 12 * (1 + 2 * siteMax n)
theorem flatMap_le {α β : Type} {f : α → List β} {c : Nat} : ∀ (ds : List α), (∀ d ∈ ds, (f d).length ≤ c) → (ds.flatMap f).length ≤ ds.length * c
  | [], _ => by simp
  | d :: r, h => by
    rw [List.flatMap_cons, List.length_append, List.length_cons, Nat.succ_mul]
    have h1 := h d List.mem_cons_self
    have h2 := flatMap_le r fun e he => h e (List.mem_cons_of_mem _ he)
    omega
theorem sitesD_le : ∀ (n : Nat) {d : PD}, isBodyD n d = true → (sitesD (n + 1) d).length ≤ siteMax n
  | 0, d, h => by
    obtain ⟨ds, rfl, _, h0, _⟩ := isBodyD_tup h
    rw [h0 rfl]
    simp [sitesD, tupD]
  | n + 1, d, h => by
    obtain ⟨ds, rfl, hl, _, h1⟩ := isBodyD_tup h
    rw [sitesD_succ]
    have hb : ∀ e ∈ ds, (itSites (n + 1) e).length ≤ 1 + 2 * siteMax n := fun e he => by
      obtain ⟨hi, hbs⟩ := okIt_item (List.all_eq_true.mp (h1 n rfl) e he)
      have h2 := bodiesD_le hi
      have h3 := flatMap_le (f := sitesD (n + 1)) (c := siteMax n) (bodiesD e) fun b hb => sitesD_le n (hbs b hb)
      have h4 : (bodiesD e).length * siteMax n ≤ 2 * siteMax n := Nat.mul_le_mul_right _ h2
      unfold itSites
      rw [List.length_cons]
      omega
    have h5 := flatMap_le ds hb
    have h6 : ds.length * (1 + 2 * siteMax n) ≤ 12 * (1 + 2 * siteMax n) := Nat.mul_le_mul_right _ hl
    exact Nat.le_trans h5 h6
theorem siteMax_le : ∀ {n : Nat}, n ≤ 4 → siteMax n ≤ 400000 := by decide
theorem flatMap_split {α β : Type} {ds : List α} {f : α → List β} {i : Nat} {d : α} (e : ds[i]? = some d) : ds.flatMap f = (ds.take i).flatMap f ++ (f d ++ (ds.drop (i + 1)).flatMap f) := by
  obtain ⟨hi, e⟩ := List.getElem?_eq_some_iff.mp e
  have h : ds = ds.take i ++ d :: ds.drop (i + 1) := by
    rw [← e, ← List.drop_eq_getElem_cons hi, List.take_append_drop]
  calc ds.flatMap f = (ds.take i ++ d :: ds.drop (i + 1)).flatMap f := by rw [← h]
    _ = _ := by rw [List.flatMap_append, List.flatMap_cons]
end MH
end
section
set_option Elab.async false
set_option linter.all false
set_option maxRecDepth 100000
/-! engine: comprehensions over data -/
namespace MH
open PySem PySem.Spec PyProof.Rows L2
theorem map_range_getD {α β : Type} (l : List α) (d : α) (g : α → β) : (List.range l.length).map (fun i => g (l.getD i d)) = l.map g := by
  apply List.ext_getElem
  · simp
  · intro i h1 h2
    simp only [List.getElem_map, List.getElem_range]
    rw [List.getD_eq_getElem?_getD, List.getElem?_eq_getElem (by simpa using h2)]
    rfl
theorem DtAll.getD {K : Fg} {H : Hp} {vs : List V} {ds : List PyData} {i : Nat} (h : DtAll K H vs ds) (hi : i < ds.length) : Dt K H (vs.getD i .non) (ds.getD i .none) := by
  obtain ⟨v, e, q⟩ := h.get (List.getElem?_eq_getElem hi)
  rw [List.getD_eq_getElem?_getD, List.getD_eq_getElem?_getD, e, List.getElem?_eq_getElem hi]
  exact q
theorem Dt.tupI {K : Fg} {H : Hp} {a : Addr} {ds : List PyData} (h : Dt K H (.ref a) (.tuple ds)) : ∃ xs, SqT K H a xs ∧ DtAll K H xs ds := by
  cases h with
  | tup h1 h2 => exact ⟨_, h1, h2⟩
theorem Dt.ref {K : Fg} {H : Hp} {v : V} {ds : List PyData} (h : Dt K H v (.tuple ds)) : ∃ a xs, v = .ref a ∧ SqT K H a xs ∧ DtAll K H xs ds := by
  cases h with
  | tup h1 h2 => exact ⟨_, _, rfl, h1, h2⟩
theorem Dt.strI {K : Fg} {H : Hp} {v : V} {x : Str} (h : Dt K H v (.str x)) : v = .str x ∧ x.length ≤ sizeLine := by
  cases h with
  | str _ h => exact ⟨rfl, h⟩
theorem Dt.same {K : Fg} {H H' : Hp} {v : V} {d : PyData} (h : Dt K H v d) (s : Same H H') : Dt K H' v d := h.mono (StT.same s)
theorem sameNew {H : Hp} {p : Addr} {o : HO} (h : H p = none) : Same H (upd H p o) := fun b u e => by
  rw [upd_ne (ne_of_none e h)]
  exact e
theorem samePut {H H2 : Hp} {p : Addr} {o : HO} (s : Same H H2) (h : H p = none) : Same H (upd H2 p o) := fun b u e => by
  rw [upd_ne (ne_of_none e h)]
  exact s b u e
theorem Dt.empty {K : Fg} {H : Hp} {p : Addr} : Dt K (upd H p (.tup [])) (.ref p) (.tuple []) := .tup (SqT.of upd_same) .nil
theorem eqv_empty (ds : List PyData) : PyData.eqv (.tuple ds) (.tuple []) = ds.isEmpty := by
  cases ds <;> simp [PyData.eqv, PyData.eqvAll]
def rEqP (K : Fg) : R2 := fun x y H Q => ∃ d e, Dp K H x d ∧ Dp K H y e ∧ d.plain = true ∧ e.plain = true ∧ min d.depth e.depth ≤ 64 ∧ Q (.bl (PyData.eqv d e)) H
def rNeP (K : Fg) : R2 := fun x y H Q => ∃ d e, Dp K H x d ∧ Dp K H y e ∧ d.plain = true ∧ e.plain = true ∧ min d.depth e.depth ≤ 64 ∧ Q (.bl (!PyData.eqv d e)) H
theorem op_eqP {X : Cx} (hu : X.A.units + 64 < cLine) : OpR X (compareOp .Eq) (rEqP X.K) := by
  intro pins s σ H x y v u Q I rx ry h
  obtain ⟨d, e, hd, he, sd, se, sm, q⟩ := h
  obtain ⟨as, r1⟩ := Dp.reads I d x v hd rx
  obtain ⟨bs, r2⟩ := Dp.reads I e y u he ry
  exact SeqAt.eq_plain r1 r2 sd se (by omega) ⟨.bl _, H, I, rfl, q⟩
theorem op_neP {X : Cx} (hu : X.A.units + 64 < cLine) : OpR X (compareOp .NotEq) (rNeP X.K) := by
  intro pins s σ H x y v u Q I rx ry h
  obtain ⟨d, e, hd, he, sd, se, sm, q⟩ := h
  obtain ⟨as, r1⟩ := Dp.reads I d x v hd rx
  obtain ⟨bs, r2⟩ := Dp.reads I e y u he ry
  exact SeqAt.ne_plain r1 r2 sd se (by omega) ⟨.bl _, H, I, rfl, q⟩
mutual
/-- what Dt tells of, without lists, is plain -/
theorem Dt.plain {K : Fg} {H : Hp} : ∀ {v : V} {d : PyData}, Dt K H v d → d.plain = true
  | _, _, .non => rfl
  | _, _, .bl _ => rfl
  | _, _, .int _ => rfl
  | _, _, .str _ _ => rfl
  | _, _, .tup _ r => by
    unfold PyData.plain
    exact DtAll.plain r
  | _, _, .lst _ _ => rfl
theorem DtAll.plain {K : Fg} {H : Hp} : ∀ {vs : List V} {ds : List PyData}, DtAll K H vs ds → PyData.plainAll ds = true
  | _, _, .nil => rfl
  | _, _, .cons h t => by
    unfold PyData.plainAll
    rw [Dt.plain h, DtAll.plain t]
    rfl
end
theorem minD (a : Nat) : min a (PyData.tuple []).depth ≤ 64 := Nat.le_trans (Nat.min_le_right _ _) (by decide)
theorem rd_eqE {K : Fg} {H : Hp} {v u : V} {ds : List PyData} {Q : VK} (h : Dt K H v (.tuple ds)) (n : noLs ds = true) (hu : Dt K H u (.tuple [])) (q : Q (.bl ds.isEmpty) H) : rEqP K v u H Q :=
  ⟨_, _, h.dp (by unfold noL; exact n), hu.dp rfl, h.plain, rfl, minD _, by rw [eqv_empty]; exact q⟩
theorem rd_neE {K : Fg} {H : Hp} {v u : V} {ds : List PyData} {Q : VK} (h : Dt K H v (.tuple ds)) (n : noLs ds = true) (hu : Dt K H u (.tuple [])) (q : Q (.bl (!ds.isEmpty)) H) : rNeP K v u H Q :=
  ⟨_, _, h.dp (by unfold noL; exact n), hu.dp rfl, h.plain, rfl, minD _, by rw [eqv_empty]; exact q⟩
theorem noLs_mem : ∀ {ds : List PyData} {d : PyData}, noLs ds = true → d ∈ ds → noL d = true
  | e :: r, d, h, hm => by
    unfold noLs at h
    rw [Bool.and_eq_true] at h
    rcases List.mem_cons.mp hm with rfl | hm
    · exact h.1
    · exact noLs_mem h.2 hm
theorem noLs_tup {ds : List PyData} (h : noL (.tuple ds) = true) : noLs ds = true := by
  unfold noL at h
  exact h
theorem noL_bodies {d b : PyData} (h : noL d = true) (hm : b ∈ bodiesD d) : noL b = true := by
  unfold bodiesD at hm
  split at hm
  · cases hm
  · cases d with
    | tuple ds => exact noLs_mem (noLs_tup h) (List.mem_of_mem_drop hm)
    | _ => exact absurd hm (by simp [tupD])
/-- [f(d) for d in data], f of flat values -/
theorem lcb_data {K : Fg} {a : Addr} {ds : List PyData} {H1 : Hp} {y : PyData → V} {σ : L2.St} {vs : List Nat} {j : Nat} {te : TE} {Q : VK} (ha : Dt K H1 (.ref a) (.tuple ds)) (hn : ds.length ≤ sizeLine)
    (hw : ∀ x : V, wipe ((wipe σ vs).set j (some x)) vs = wipe σ vs)
    (he : ∀ u d H3 (R : VK), d ∈ ds → Same H1 H3 → Dt K H3 u d → (∀ H4, Same H3 H4 → R (y d) H4) → te ((wipe σ vs).set j (some u)) H3 R)
    (hq : ∀ D H', H1 D = none → Same H1 H' → H' D = some (.lst (ds.map y)) → Q (.ref D) H') : LcB (Itt K a) H1 (gName j) tYes te vs σ Q := by
  obtain ⟨xs, h1, h2⟩ := ha.tupI
  refine lcb_pure (J := Itt K a) (H1 := H1) (n := xs.length) (it := fun i => xs.getD i .non) (y := fun i => y (ds.getD i .none)) (by rw [h2.length]; exact hn) (fun H3 s => still_tup' ((StT.same s).t _ _ h1)) hw (fun i H3 R hi s k => ?_) (fun D H' hD s l => ?_)
  · have hi' : i < ds.length := by rw [← h2.length]; exact hi
    refine he _ (ds.getD i .none) H3 R ?_ s ((h2.getD hi').same s) k
    rw [List.getD_eq_getElem?_getD, List.getElem?_eq_getElem hi']
    exact List.getElem_mem hi'
  · refine hq D H' hD s ?_
    rw [h2.length, map_range_getD] at l
    exact l
theorem all_id {α : Type} (ds : List α) (f : α → Bool) : (ds.map f).all id = ds.all f := by rw [List.all_map]; rfl
theorem rd_all {K : Fg} {H : Hp} {D : Addr} {ds : List PyData} {f : PyData → Bool} {Q : VK} (h : H D = some (.lst (ds.map fun d => .bl (f d)))) (q : Q (.bl (ds.all f)) H) : rAll K [.ref D] H Q := by
  refine ⟨D, ds.map f, rfl, SqL.of ?_, ?_⟩
  · rw [h, List.map_map]
    rfl
  · rw [all_id]
    exact q
/-- d[lo:hi] of data -/
def cutD (ds : List PyData) (lo hi : Option Int) : List PyData := (ds.drop (HT.sIx ds.length 0 lo)).take (HT.sIx ds.length ds.length hi - HT.sIx ds.length 0 lo)
theorem cutD_drop (ds : List PyData) (k : Nat) : cutD ds (some (k : Int)) none = ds.drop k := by
  unfold cutD
  rw [HT.sIx_nat, HT.sIx_none]
  rcases Nat.le_total k ds.length with h | h
  · rw [Nat.min_eq_left h, List.take_of_length_le (by rw [List.length_drop]; omega)]
  · rw [Nat.min_eq_right h, List.drop_eq_nil_of_le (Nat.le_refl _), List.drop_eq_nil_of_le h, List.take_nil]
theorem cutD_take (ds : List PyData) (k : Nat) : cutD ds none (some (k : Int)) = ds.take k := by
  unfold cutD
  rw [HT.sIx_nat, HT.sIx_none, List.drop_zero, Nat.sub_zero]
  rcases Nat.le_total k ds.length with h | h
  · rw [Nat.min_eq_left h]
  · rw [Nat.min_eq_right h, List.take_of_length_le (Nat.le_refl _), List.take_of_length_le h]
theorem rd_slT {K : Fg} {H : Hp} {v : V} {ds : List PyData} {lo hi : Option Int} {Q : VK} (h : Dt K H v (.tuple ds)) (q : ∀ u H', Same H H' → Dt K H' u (.tuple (cutD ds lo hi)) → Q u H') : rSlA K v lo hi H Q := by
  obtain ⟨a, xs, rfl, h1, h2⟩ := h.ref
  have el := h2.length
  refine ⟨a, xs, rfl, h1, fun hw => ?_, fun _ p hp => ?_⟩
  · refine q _ H (Same.refl H) ?_
    have e : cutD ds lo hi = ds := by
      unfold cutD
      rw [← el, hw.1, hw.2, List.drop_zero, Nat.sub_zero, el, List.take_of_length_le (Nat.le_refl _)]
    rw [e]
    exact .tup h1 h2
  · refine q _ _ (sameNew hp) (.tup (SqT.of upd_same) ?_)
    unfold cutV cutD
    rw [← el]
    exact ((h2.mono (StT.new hp)).drop _).take _
/-- for d in data: with a law of its own -/
theorem forb_data {K : Fg} {a : Addr} {xs : List V} {ds : List PyData} {g : TG} {tb : TS} {D : Ends} {σ : L2.St} {H1 : Hp} (Pv : Nat → L2.St → Hp → Prop) (ha : SqT K H1 a xs) (hd : DtAll K H1 xs ds) (h0 : Pv 0 σ H1) (hl : ∀ i σ H, i ≤ ds.length → Pv i σ H → StT K H1 H)
    (hs : ∀ i v d σ H, ds[i]? = some d → Dt K H v d → Pv i σ H → g v σ H fun σ2 H2 => tb { D with nx := Pv (i + 1), ct := Pv (i + 1), bk := D.nx } σ2 H2) (hq : ∀ σ H, Pv ds.length σ H → D.nx σ H) (e : ∃ xs', SqT K H1 a xs' := ⟨_, ha⟩) : ForB (Itt K a) H1 g tb D σ := by
  refine (for_tup (xs := xs) Pv h0 (fun i σ H hi p => (hl i σ H (by rw [← hd.length]; exact hi) p).t _ _ ha) (fun i x σ H e p => ?_) (fun σ H p => hq σ H (by rw [← hd.length]; exact p)))
  obtain ⟨d, e2, q⟩ := hd.getV e
  have hi : i < ds.length := by
    rcases Nat.lt_or_ge i ds.length with h | h
    · exact h
    · rw [List.getElem?_eq_none h] at e2; cases e2
  exact hs i x d σ H e2 (q.mono (hl i σ H (Nat.le_of_lt hi) p)) p
end MH
end
section
set_option Elab.async false
set_option linter.all false
set_option maxRecDepth 100000
set_option maxHeartbeats 2000000
namespace MH
open PySem PySem.Spec PyProof.Rows L2
local macro_rules | `(tactic| walk_at "go") => `(tactic| repeat (first
  | with_reducible refine i_seq ?_ | with_reducible refine i_ifS ?_ | with_reducible refine i_ret ?_ | with_reducible refine i_drop ?_ | with_reducible refine i_asg ?_ | with_reducible refine i_name ?_
  | with_reducible refine i_next ?_ | with_reducible refine i_var (by with_unfolding_all exact rfl) ?_ | with_reducible refine i_c ?_ | with_reducible refine i_cons ?_ | with_reducible refine i_nil ?_ | with_reducible refine i_cb ?_
  | with_reducible refine i_op ?_ | with_reducible refine i_un ?_ | with_reducible refine i_call ?_ | with_reducible refine i_test ?_ | with_reducible refine i_b ?_ | with_reducible refine i_bl ?_ | with_reducible refine i_and ?_ | with_reducible refine i_or ?_
  | with_reducible refine i_not ?_ | with_reducible refine i_andV ?_ | with_reducible refine i_orV ?_ | with_reducible refine i_notV ?_ | with_reducible refine i_if ?_ | with_reducible refine i_chain ?_ | with_reducible refine i_tup ?_ | with_reducible refine i_lst ?_
  | with_reducible refine i_sl ?_ | with_reducible refine i_part ?_ | with_reducible refine i_nopart ?_ | with_reducible refine i_int ?_ | with_reducible refine i_bm ?_ | with_reducible refine i_bm0 ?_ | with_reducible refine i_I0 ?_ | with_reducible refine i_lc ?_ | with_reducible refine i_disp ?_ | with_reducible refine i_pairsC ?_ | with_reducible refine i_pairsN ?_ | with_reducible refine i_dget2 ?_ | with_reducible refine i_gsub ?_ | with_reducible refine i_raiseB ?_ | with_reducible refine i_make ?_ | with_reducible refine i_gcons ?_ | with_reducible refine i_gnil ?_ | with_reducible refine i_enum ?_ | with_reducible refine i_isN ?_ | with_reducible refine i_notN ?_ | with_reducible refine i_fld ?_ | with_reducible refine i_sfld ?_ | with_reducible refine i_meth ?_ | with_reducible refine i_rU ?_ | with_reducible refine i_dputN ?_ | with_reducible refine i_dput ?_ | with_reducible refine i_dget ?_ | with_reducible refine i_rng1 ?_ | with_reducible refine i_dinP ?_ | with_reducible refine i_raiseA ?_ | with_reducible refine i_lenSetS ?_ | with_reducible refine i_for ?_ | with_reducible refine i_yes ?_ | with_reducible refine i_eqS ?_ | with_reducible refine i_neS ?_ | with_reducible refine i_eqI ?_ | with_reducible refine i_neI ?_
  | with_reducible refine i_retN ?_ | with_reducible refine i_brk ?_ | with_reducible refine i_cont ?_ | with_reducible refine i_par ?_ | with_reducible refine i_par3 ?_ | with_reducible refine i_two ?_ | with_reducible refine i_three ?_
  | with_reducible refine i_itup ?_ | with_reducible refine i_ilist ?_ | with_reducible refine i_istr ?_ | with_reducible refine i_str ?_ | with_reducible refine i_m1 ?_ | with_reducible refine i_anystr ?_
  | with_reducible refine iteT ?_ | with_reducible refine iteF ?_))
section
variable {P : Program} {w : World} {K : Fg} {mg : Str → Option Value} {base : Heap}
theorem Tx.kept (T : Tx K mg) (H : Hp) : SqT K H (He.ga K "KEPT") (keptS.map V.str) := by
  have h := (He.ba T.ex).1
  exact He.tupB_ok h H
theorem all_flat_strs : ∀ (xs : List Str), (xs.map V.str).all flatV = true
  | [] => rfl
  | _ :: r => all_flat_strs r
theorem inV_strs (x : Str) : ∀ (xs : List Str), inV (.str x) (xs.map V.str) = xs.contains x
  | [] => rfl
  | y :: r => by
    have ih := inV_strs x r
    unfold inV at ih ⊢
    rw [List.map_cons, List.any_cons, ih, List.contains_cons]
    show (y == x || _) = (x == y || _)
    rw [BEq.comm]
theorem all_range_getD (ns : List Nat) (ls : List Nat) : ((List.range ns.length).map fun i => decide (ns.getD i 0 ∈ ls)).all id = ns.all fun c => ls.contains c := by
  rw [List.all_map]
  apply Bool.eq_iff_iff.mpr
  rw [List.all_eq_true, List.all_eq_true]
  constructor
  · intro h c hc
    obtain ⟨i, hi, e⟩ := List.mem_iff_getElem.mp hc
    have q := h i (List.mem_range.mpr hi)
    have q2 : decide (ns.getD i 0 ∈ ls) = true := q
    rw [List.getD_eq_getElem?_getD, List.getElem?_eq_getElem hi] at q2
    have q3 : c ∈ ls := by rw [← e]; exact of_decide_eq_true q2
    exact List.contains_iff_mem.mpr q3
  · intro h i hi
    have hi := List.mem_range.mp hi
    have q := h ns[i] (List.getElem_mem hi)
    show decide (ns.getD i 0 ∈ ls) = true
    rw [List.getD_eq_getElem?_getD, List.getElem?_eq_getElem hi]
    exact decide_eq_true (List.contains_iff_mem.mp q)
def spName : Sp := fun vs H Q _ => ∃ v d, vs = [v] ∧ Dt K H v d ∧ ∀ H', Same H H' → Q (.bl (isNameD d)) H'
theorem k_is_name (T : Tx K mg) : Keeps P w K mg base CX0 1 "is_name" ["thing"] (spName (K := K)) := T.kp_is_name fun fd F => by
  refine F.ok sc_is_name (fun vs H Q E h => ?_) (fun cdv A outer s H vs Q E hr h => ?_)
  · obtain ⟨v, d, rfl, _⟩ := h
    rfl
  · obtain ⟨v, d, rfl, hd, q⟩ := h
    refine ⟨_, PSs.nox (pss_cons (ps_if (PW.pt (pw_or (pt_not (pt_val (pe_callB call_isi (by rfl) T.b_isinstance (by decide +kernel) (pa_cons (pv 0) (pa_cons (pe_ty (T := "str") T.b_str) pa_nil))))) (pw_or (pt_not (pt_chain op_le op_le pe_int (pe_callB call_len (by rfl) T.b_len boot_len (pa_cons (pv 0) pa_nil)) pe_int)) (pw_or1 (pt_cmpR op_in_seq (pv 0) (pe_gr T.g_KEPT) (by rfl)))))) (pss_one (ps_ret pe_bl)) pss_nil)
      (pss_one (ps_ret (pe_callB (cr_all rfl) (by rfl) T.b_all (by decide +kernel) (pa_cons (pe_lc (own := [("sign", 1)]) (g := gName 1) (tt := tYes) rfl sc_is_name.nd (pi_str (pv 0)) (blkOk_by (N := n_is_name) (sc := defScope s_is_name) (by decide +kernel)) (fun _ _ _ _ _ => pg_name (i := 1) sc_is_name.nd rfl (.inl rfl)) (fun _ _ _ _ _ => pts_nil) (fun _ _ _ _ _ => pe_cmpR op_in_sign (pv 1) (pe_gs T.c_LETTERS) (by rfl))) pa_nil))))), ?_⟩
    walk_at "go"
    refine rd_isi hd (kit_str d) ?_
    walk_at "go"
    cases hd with
    | str x hl =>
      refine iteF ?_
      walk_at "go"
      refine ⟨_, _, rfl, ⟨hl, rfl⟩, ?_⟩
      walk_at "go"
      refine ifb (fun h1 => ?_) (fun h1 => ?_)
      · have h1 : 1 ≤ x.length := by have := of_decide_eq_true h1; omega
        walk_at "go"
        refine ifn (fun h2 => iteT ?_) (fun h2 => ?_)
        · have h2 : ¬ x.length ≤ 8 := by have := of_decide_eq_false h2; omega
          have e : isNameD (.str x) = false := by
            show isName x = false
            unfold isName
            rw [decide_eq_false h2, Bool.and_false]
            rfl
          rw [e] at q
          exact q H (Same.refl H)
        · have h2 : x.length ≤ 8 := by have := of_decide_eq_true h2; omega
          walk_at "go"
          refine ⟨_, _, rfl, .inr (T.kept H), rfl, all_flat_strs _, ?_⟩
          walk_at "go"
          refine ifb (fun h3 => ?_) (fun h3 => ?_)
          · have e : isNameD (.str x) = false := by
              show isName x = false
              unfold isName
              rw [show keptS.contains x = true from (inV_strs x keptS).symm.trans h3, Bool.not_true, Bool.and_false]
              rfl
            rw [e] at q
            exact q H (Same.refl H)
          · walk_at "go"
            refine lcb_pure (n := x.length) (it := fun i => .str ⟨#[x.cps.toList.getD i 0]⟩) (y := fun i => .bl (decide (x.cps.toList.getD i 0 ∈ letters))) hl (fun H3 _ => still_str x) ?_ (fun i H3 R hi s1 k => ?_) (fun D H' hD s1 hl' => ?_)
            · intro _; rfl
            · walk_at "go"
              refine ⟨_, _, rfl, rfl, ?_⟩
              exact k H3 (Same.refl _)
            · walk_at "go"
              refine ⟨_, (List.range x.length).map fun i => decide (x.cps.toList.getD i 0 ∈ letters), rfl, .inl (.inl ?_), ?_⟩
              · rw [hl', List.map_map]
                rfl
              · have e : ((List.range x.length).map fun i => decide (x.cps.toList.getD i 0 ∈ letters)).all id = isNameD (.str x) := by
                  show _ = isName x
                  unfold isName
                  rw [show keptS.contains x = false from (inV_strs x keptS).symm.trans h3, decide_eq_true h1, decide_eq_true h2, Bool.not_false, Bool.and_self, Bool.and_self, Bool.true_and]
                  rw [show x.length = x.cps.toList.length from rfl]
                  exact all_range_getD _ _
                rw [e]
                exact q H' s1
      · have e : isNameD (.str x) = false := by
          show isName x = false
          unfold isName
          rw [show decide (1 ≤ x.length) = false from decide_eq_false fun z => by have := of_decide_eq_false h1; omega]
          rfl
        rw [e] at q
        walk_at "go"
        exact iteT (iteT (q H (Same.refl H)))
    | non => exact iteT (iteT (q H (Same.refl H)))
    | bl b => exact iteT (iteT (q H (Same.refl H)))
    | int i => exact iteT (iteT (q H (Same.refl H)))
    | tup h1 h2 => exact iteT (iteT (q H (Same.refl H)))
    | lst xs h => exact iteT (iteT (q H (Same.refl H)))
end
end MH
end
section
set_option Elab.async false
set_option linter.all false
set_option maxRecDepth 100000
set_option maxHeartbeats 2000000
namespace MH
open PySem PySem.Spec PyProof.Rows L2
local macro_rules | `(tactic| walk_at "go") => `(tactic| repeat (first
  | with_reducible refine i_seq ?_ | with_reducible refine i_ifS ?_ | with_reducible refine i_ret ?_ | with_reducible refine i_drop ?_ | with_reducible refine i_asg ?_ | with_reducible refine i_name ?_
  | with_reducible refine i_next ?_ | with_reducible refine i_var (by with_unfolding_all exact rfl) ?_ | with_reducible refine i_c ?_ | with_reducible refine i_cons ?_ | with_reducible refine i_nil ?_ | with_reducible refine i_cb ?_
  | with_reducible refine i_op ?_ | with_reducible refine i_un ?_ | with_reducible refine i_call ?_ | with_reducible refine i_test ?_ | with_reducible refine i_b ?_ | with_reducible refine i_bl ?_ | with_reducible refine i_and ?_ | with_reducible refine i_or ?_
  | with_reducible refine i_not ?_ | with_reducible refine i_andV ?_ | with_reducible refine i_orV ?_ | with_reducible refine i_notV ?_ | with_reducible refine i_if ?_ | with_reducible refine i_chain ?_ | with_reducible refine i_tup ?_ | with_reducible refine i_lst ?_
  | with_reducible refine i_sl ?_ | with_reducible refine i_part ?_ | with_reducible refine i_nopart ?_ | with_reducible refine i_int ?_ | with_reducible refine i_bm ?_ | with_reducible refine i_bm0 ?_ | with_reducible refine i_I0 ?_ | with_reducible refine i_lc ?_ | with_reducible refine i_disp ?_ | with_reducible refine i_pairsC ?_ | with_reducible refine i_pairsN ?_ | with_reducible refine i_dget2 ?_ | with_reducible refine i_gsub ?_ | with_reducible refine i_raiseB ?_ | with_reducible refine i_make ?_ | with_reducible refine i_gcons ?_ | with_reducible refine i_gnil ?_ | with_reducible refine i_enum ?_ | with_reducible refine i_isN ?_ | with_reducible refine i_notN ?_ | with_reducible refine i_fld ?_ | with_reducible refine i_sfld ?_ | with_reducible refine i_meth ?_ | with_reducible refine i_rU ?_ | with_reducible refine i_dputN ?_ | with_reducible refine i_dput ?_ | with_reducible refine i_dget ?_ | with_reducible refine i_rng1 ?_ | with_reducible refine i_dinP ?_ | with_reducible refine i_raiseA ?_ | with_reducible refine i_lenSetS ?_ | with_reducible refine i_for ?_ | with_reducible refine i_yes ?_ | with_reducible refine i_eqS ?_ | with_reducible refine i_neS ?_ | with_reducible refine i_eqI ?_ | with_reducible refine i_neI ?_
  | with_reducible refine i_retN ?_ | with_reducible refine i_brk ?_ | with_reducible refine i_cont ?_ | with_reducible refine i_par ?_ | with_reducible refine i_par3 ?_ | with_reducible refine i_two ?_ | with_reducible refine i_three ?_
  | with_reducible refine i_itup ?_ | with_reducible refine i_ilist ?_ | with_reducible refine i_istr ?_ | with_reducible refine i_str ?_ | with_reducible refine i_m1 ?_ | with_reducible refine i_anystr ?_
  | with_reducible refine iteT ?_ | with_reducible refine iteF ?_))
section
variable {P : Program} {w : World} {K : Fg} {mg : Str → Option Value} {base : Heap}
def spRow : Sp := fun vs H Q _ => ∃ v d m, vs = [v, .int m] ∧ Dt K H v d ∧ ∀ H', Same H H' → Q (.bl (isRowD d m)) H'
theorem k_is_row (T : Tx K mg) : Keeps P w K mg base CX0 1 "is_row" ["thing", "most"] (spRow (K := K)) := T.kp_is_row fun fd F => by
  refine F.ok sc_is_row (fun vs H Q E h => ?_) (fun cdv A outer s H vs Q E hr h => ?_)
  · obtain ⟨v, d, m, rfl, _⟩ := h
    rfl
  · obtain ⟨v, d, m, rfl, hd, q⟩ := h
    refine ⟨_, PSs.nox (pss_one (ps_ret (pe_and (pe_callB call_isi (by rfl) T.b_isinstance (by decide +kernel) (pa_cons (pv 0) (pa_cons (pe_ty (T := "tuple") T.b_tuple) pa_nil))) (pe_one (pe_cmpR op_le (pe_callB call_lenS (by rfl) T.b_len (by decide +kernel) (pa_cons (pv 0) pa_nil)) (pv 1) (nomark _)))))), ?_⟩
    walk_at "go"
    refine rd_isi hd (kit_tuple d) ?_
    walk_at "go"
    cases hd with
    | tup h1 h2 =>
      refine iteT ?_
      walk_at "go"
      refine rd_lenT (Dt.tup h1 h2) ?_
      walk_at "go"
      exact q H (Same.refl H)
    | non => exact iteF (q H (Same.refl H))
    | bl b => exact iteF (q H (Same.refl H))
    | int i => exact iteF (q H (Same.refl H))
    | str x h => exact iteF (q H (Same.refl H))
    | lst xs h => exact iteF (q H (Same.refl H))
def spHead : Sp := fun vs H Q _ => ∃ v ds x, vs = [v] ∧ Dt K H v (.tuple ds) ∧ ds[0]? = some (.str x) ∧ 4 ≤ ds.length ∧ ∀ H', Same H H' → Q (.bl (headD ds)) H'
theorem argsD_tup (d : PyData) : argsD d = (isRowD d 3 && (tupD d).all isNameD) := rfl
theorem k_is_head (T : Tx K mg) : Keeps P w K mg base CX0 2 "is_head" ["thing"] (spHead (K := K)) := T.kp_is_head fun fd F => by
  refine F.ok sc_is_head (fun vs H Q E h => ?_) (fun cdv A outer s H vs Q E hr h => ?_)
  · obtain ⟨v, ds, x, rfl, _⟩ := h
    rfl
  · obtain ⟨v, ds, x, rfl, hd, h0, hl, q⟩ := h
    refine ⟨_, PSs.nox (pss_cons (ps_if (pt_not (pt_val (pe_k (k_is_name T) (hr.mono (by omega)) pass0 (pa_cons (pe_ix ix_tup (pv 0) pe_int (fun _ _ => rfl)) pa_nil)))) (pss_one (ps_ret pe_bl)) pss_nil)
      (pss_cons (ps_set (i := 1) sc_is_head.nd rfl (by first | exact Or.inl rfl | exact Or.inr rfl) (pe_ifExp (pt_cmpR op_eq (pe_ix ix_tup (pv 0) pe_int (fun _ _ => rfl)) pe_str (nomark _)) (pe_ix ix_tup (pv 0) pe_int (fun _ _ => rfl)) (pe_ix ix_tup (pv 0) pe_int (fun _ _ => rfl))))
      (pss_one (ps_ret (pe_and (pe_k (k_is_row T) (hr.mono (by omega)) pass0 (pa_cons (pv 1) (pa_cons (pe_gi T.c_ARGS) pa_nil))) (pe_one (pe_callB (cr_all rfl) (by rfl) T.b_all (by decide +kernel) (pa_cons (pe_lc (own := [("name", 2)]) (g := gName 2) (tt := tYes) rfl sc_is_head.nd (pi_tup (pv 1)) (blkOk_by (N := n_is_head) (sc := defScope s_is_head) (by decide +kernel)) (fun _ _ _ _ _ => (pg_name (i := 2) sc_is_head.nd rfl (by first | exact Or.inl rfl | exact Or.inr rfl))) (fun _ _ _ _ _ => pts_nil) (fun _ _ _ _ _ => (pe_k (k_is_name T) (hr.mono (by omega)) pass0 (pa_cons (pv 2) pa_nil)))) pa_nil)))))))), ?_⟩
    have g : ∀ i, i < 4 → ds[i]? = some (ds.getD i .none) := fun i hi => by
      rw [List.getD_eq_getElem?_getD, List.getElem?_eq_getElem (by omega)]
      rfl
    walk_at "go"
    refine rd_ix hd (n := 1) rfl (g 1 (by decide)) (fun u hu => ?_)
    walk_at "go"
    refine ⟨u, _, rfl, hu, fun H1 s1 => ?_⟩
    walk_at "go"
    refine ifn (fun e1 => ?_) (fun e1 => ?_)
    · walk_at "go"
      have e : headD ds = false := by
        unfold headD
        rw [e1]
        rfl
      rw [e] at q
      exact q H1 s1
    · walk_at "go"
      have hd1 := hd.same s1
      refine rd_ix hd1 (n := 0) rfl h0 (fun u0 hu0 => ?_)
      obtain ⟨rfl, hx⟩ := hu0.strI
      walk_at "go"
      have hst : strD (ds.getD 0 .none) = x := by
        rw [List.getD_eq_getElem?_getD, h0]
        rfl
      refine ifb (fun e2 => ?_) (fun e2 => ?_)
      all_goals
        walk_at "go"
        first
          | refine rd_ix hd1 (n := 3) rfl (g 3 (by decide)) (fun u hu => ?_)
          | refine rd_ix hd1 (n := 2) rfl (g 2 (by decide)) (fun u hu => ?_)
        obtain ⟨t, ht, et⟩ : ∃ t, Dt K H1 u t ∧ headD ds = argsD t := ⟨_, hu, by
          unfold headD
          rw [e1, hst, Bool.true_and]
          first
            | rw [if_pos (of_decide_eq_true e2)]
            | rw [if_neg (of_decide_eq_false e2)]⟩
        rw [et] at q
        walk_at "go"
        refine ⟨u, t, 3, rfl, ht, fun H2 s2 => ?_⟩
        walk_at "go"
        cases hr3 : isRowD t 3 with
        | false =>
          refine iteF ?_
          rw [argsD_tup, hr3] at q
          exact q H2 (s1.trans s2)
        | true =>
          refine iteT ?_
          rw [argsD_tup, hr3, Bool.true_and] at q
          obtain ⟨as, rfl, hz⟩ : ∃ as, t = .tuple as ∧ as.length ≤ 3 := by
            unfold isRowD at hr3
            split at hr3
            · exact ⟨_, rfl, by have := of_decide_eq_true hr3; omega⟩
            · cases hr3
          obtain ⟨a, xs, rfl, hx1, hx2⟩ := ht.ref
          walk_at "go"
          refine ⟨_, rfl, ⟨_, (StT.same s2).t _ _ hx1⟩, ?_⟩
          refine lcb_data (ds := as) (y := fun d => .bl (isNameD d)) ((Dt.tup hx1 hx2).same s2) (by unfold sizeLine; omega) (fun _ => rfl) (fun u d H3 R hm s3 hu k => ?_) (fun D H3 _ s3 hl => ?_)
          · walk_at "go"
            exact ⟨u, d, rfl, hu, k⟩
          · walk_at "go"
            exact rd_all hl (q H3 ((s1.trans s2).trans s3))
def spItem : Sp := fun vs H Q _ => ∃ v d, vs = [v] ∧ Dt K H v d ∧ noL d = true ∧ ∀ H', Same H H' → Q (.bl (isItemD d)) H'
theorem item_no (d0 : PyData) (ds : List PyData) (h : is_str d0 = false) : isItemD (.tuple (d0 :: ds)) = false := by
  cases d0 with
  | str x => cases h
  | _ => rfl
theorem k_is_item (T : Tx K mg) : Keeps P w K mg base CX0 3 "is_item" ["thing"] (spItem (K := K)) := T.kp_is_item fun fd F => by
  refine F.ok sc_is_item (fun vs H Q E h => ?_) (fun cdv A outer s H vs Q E hr h => ?_)
  · obtain ⟨v, d, rfl, _⟩ := h
    rfl
  · obtain ⟨v, d, rfl, hd, hn, q⟩ := h
    refine ⟨_, PSs.nox (pss_cons (ps_if (PW.pt (pw_or (pt_not (pt_val (pe_callB call_isi (by rfl) T.b_isinstance (by decide +kernel) (pa_cons (pv 0) (pa_cons (pe_ty (T := "tuple") T.b_tuple) pa_nil))))) (pw_or (pt_cmpR (op_eqP hr.units) (pv 0) (pe_tup pa_nil) (nomark _)) (pw_or1 (pt_not (pt_val (pe_callB call_isi (by rfl) T.b_isinstance (by decide +kernel) (pa_cons (pe_ix ix_tup (pv 0) pe_int (fun _ _ => rfl)) (pa_cons (pe_ty (T := "str") T.b_str) pa_nil))))))))) (pss_one (ps_ret pe_bl)) pss_nil)
      (pss_cons (ps_if (pt_cmpR op_eq (pe_ix ix_tup (pv 0) pe_int (fun _ _ => rfl)) pe_str (nomark _)) (pss_one (ps_ret (pe_and (pe_cmpR op_eq (pe_callB call_lenS (by rfl) T.b_len (by decide +kernel) (pa_cons (pv 0) pa_nil)) pe_int (nomark _)) (pe_and (pe_k (k_is_name T) (hr.mono (by omega)) pass0 (pa_cons (pe_ix ix_tup (pv 0) pe_int (fun _ _ => rfl)) pa_nil)) (pe_one (pe_k (k_is_head T) (hr.mono (by omega)) pass0 (pa_cons (pv 0) pa_nil))))))) pss_nil)
      (pss_one (ps_ret (pe_and (pe_cmpR op_in_seq (pe_ix ix_tup (pv 0) pe_int (fun _ _ => rfl)) (pe_tup (pa_cons pe_str (pa_cons pe_str pa_nil))) (by rfl)) (pe_and (pe_cmpR op_eq (pe_callB call_lenS (by rfl) T.b_len (by decide +kernel) (pa_cons (pv 0) pa_nil)) (pe_ifExp (pt_cmpR op_eq (pe_ix ix_tup (pv 0) pe_int (fun _ _ => rfl)) pe_str (nomark _)) pe_int pe_int) (nomark _)) (pe_one (pe_k (k_is_head T) (hr.mono (by omega)) pass0 (pa_cons (pv 0) pa_nil))))))))), ?_⟩
    walk_at "go"
    refine rd_isi hd (kit_tuple d) ?_
    walk_at "go"
    cases d with
    | none => exact iteT (iteT (q H (Same.refl H)))
    | bool b => exact iteT (iteT (q H (Same.refl H)))
    | int i => exact iteT (iteT (q H (Same.refl H)))
    | str x => exact iteT (iteT (q H (Same.refl H)))
    | list xs => exact iteT (iteT (q H (Same.refl H)))
    | dict xs => exact iteT (iteT (q H (Same.refl H)))
    | tuple ds =>
      refine iteF ?_
      walk_at "go"
      refine ⟨by decide, fun p hp => ?_⟩
      have s1 := sameNew (o := .tup []) hp
      have hd1 := hd.same s1
      refine rd_eqE hd1 (by unfold noL at hn; exact hn) Dt.empty ?_
      walk_at "go"
      cases ds with
      | nil => exact iteT (iteT (q _ s1))
      | cons d0 rest =>
        refine iteF ?_
        walk_at "go"
        refine rd_ix hd1 (n := 0) rfl rfl (fun u0 hu0 => ?_)
        walk_at "go"
        refine rd_isi hu0 (kit_str d0) ?_
        walk_at "go"
        cases d0 with
        | none => exact iteT (q _ s1)
        | bool b => exact iteT (q _ s1)
        | int i => exact iteT (q _ s1)
        | list xs => exact iteT (q _ s1)
        | dict xs => exact iteT (q _ s1)
        | tuple xs => exact iteT (q _ s1)
        | str x =>
          refine iteF ?_
          walk_at "go"
          refine rd_ix hd1 (n := 0) rfl rfl (fun u0 hu0 => ?_)
          obtain ⟨rfl, hx⟩ := hu0.strI
          walk_at "go"
          refine ifb (fun e1 => ?_) (fun e1 => ?_)
          · walk_at "go"
            have e : isItemD (.tuple (.str x :: rest)) = (decide (rest.length = 3) && isNameD ((PyData.str x :: rest).getD 2 .none) && headD (.str x :: rest)) := by
              show (if x = "do" then _ else _) = _
              rw [if_pos (of_decide_eq_true e1)]
            rw [e] at q
            refine rd_lenT hd1 ?_
            walk_at "go"
            refine ifb (fun e2 => ?_) (fun e2 => ?_)
            · have e2 : rest.length = 3 := by
                have := of_decide_eq_true e2
                rw [List.length_cons] at this
                omega
              rw [decide_eq_true e2, Bool.true_and] at q
              walk_at "go"
              refine rd_ix hd1 (n := 2) (d := (PyData.str x :: rest).getD 2 .none) rfl ?_ (fun u2 hu2 => ?_)
              · rw [List.getD_eq_getElem?_getD, List.getElem?_eq_getElem (by rw [List.length_cons]; omega)]
                rfl
              walk_at "go"
              refine ⟨u2, _, rfl, hu2, fun H2 s2 => ?_⟩
              walk_at "go"
              refine ifb (fun e3 => ?_) (fun e3 => ?_)
              · rw [e3, Bool.true_and] at q
                walk_at "go"
                refine ⟨_, _, x, rfl, hd1.same s2, rfl, by rw [List.length_cons]; omega, fun H3 s3 => ?_⟩
                exact q H3 ((s1.trans s2).trans s3)
              · rw [e3, Bool.false_and] at q
                exact q H2 (s1.trans s2)
            · have e2 : ¬ rest.length = 3 := fun z => of_decide_eq_false e2 (by rw [List.length_cons]; omega)
              rw [decide_eq_false e2, Bool.false_and, Bool.false_and] at q
              exact q _ s1
          · walk_at "go"
            have e : isItemD (.tuple (.str x :: rest)) = (decide (x = "if" ∨ x = "while") && decide (rest.length = if x = "if" then 4 else 3) && headD (.str x :: rest)) := by
              show (if x = "do" then _ else _) = _
              rw [if_neg (of_decide_eq_false e1)]
            rw [e] at q
            refine rd_ix hd1 (n := 0) rfl rfl (fun u0 hu0 => ?_)
            obtain ⟨rfl, _⟩ := hu0.strI
            walk_at "go"
            refine ⟨by decide, fun p2 hp2 => ?_⟩
            have s2 := sameNew (o := .tup [V.str "if", V.str "while"]) hp2
            refine ⟨_, _, rfl, .inr (SqT.of upd_same), rfl, rfl, ?_⟩
            walk_at "go"
            have ec : inV (.str x) [V.str "if", V.str "while"] = decide (x = "if" ∨ x = "while") := by
              rw [show [V.str "if", V.str "while"] = (["if", "while"] : List Str).map V.str from rfl, inV_strs]
              apply Bool.eq_iff_iff.mpr
              rw [List.contains_iff_mem, decide_eq_true_iff]
              simp
            rw [ec]
            refine ifb (fun e3 => ?_) (fun e3 => ?_)
            · have e3 : decide (x = "if" ∨ x = "while") = true := e3
              rw [e3, Bool.true_and] at q
              walk_at "go"
              have hd2 := hd1.same s2
              refine rd_lenT hd2 ?_
              walk_at "go"
              refine rd_ix hd2 (n := 0) rfl rfl (fun u0 hu0 => ?_)
              obtain ⟨rfl, _⟩ := hu0.strI
              walk_at "go"
              have ei : ∀ n : Int, (((PyData.str x :: rest).length : Nat) : Int) = n ↔ (rest.length : Int) = n - 1 := fun n => by
                rw [List.length_cons]
                omega
              refine ifb (fun e4 => ?_) (fun e4 => ?_)
              all_goals
                walk_at "go"
                first
                  | rw [if_pos (of_decide_eq_true e4)] at q
                  | rw [if_neg (of_decide_eq_false e4)] at q
                refine ifb (fun e5 => ?_) (fun e5 => ?_)
                · have e5 := (ei _).mp (of_decide_eq_true e5)
                  rw [decide_eq_true (by omega), Bool.true_and] at q
                  walk_at "go"
                  exact ⟨_, _, x, rfl, hd2, rfl, by rw [List.length_cons]; omega, fun H3 s3 => q H3 ((s1.trans s2).trans s3)⟩
                · rw [decide_eq_false (fun z => of_decide_eq_false e5 ((ei _).mpr (by omega))), Bool.false_and] at q
                  exact q _ (s1.trans s2)
            · have e3 : decide (x = "if" ∨ x = "while") = false := e3
              rw [e3, Bool.false_and, Bool.false_and] at q
              exact q _ (s1.trans s2)
def spBodies : Sp := fun vs H Q _ => ∃ v d, vs = [v] ∧ Dt K H v d ∧ isItemD d = true ∧ ∀ u H', Same H H' → Dt K H' u (.tuple (bodiesD d)) → Q u H'
theorem k_bodies_of (T : Tx K mg) : Keeps P w K mg base CX0 1 "bodies_of" ["item"] (spBodies (K := K)) := T.kp_bodies_of fun fd F => by
  refine F.ok sc_bodies_of (fun vs H Q E h => ?_) (fun cdv A outer s H vs Q E hr h => ?_)
  · obtain ⟨v, d, rfl, _⟩ := h
    rfl
  · obtain ⟨v, d, rfl, hd, hi, q⟩ := h
    refine ⟨_, PSs.nox (pss_one (ps_ret (pe_ifExp (pt_cmpR op_ne (pe_ix ix_tup (pv 0) pe_int (fun _ _ => rfl)) pe_str (nomark _)) (pe_slice sl_tupA (pv 0) (po_some pe_int) po_none) (pe_tup pa_nil)))), ?_⟩
    obtain ⟨x, rest, rfl⟩ := item_str hi
    walk_at "go"
    refine rd_ix hd (n := 0) rfl rfl (fun u0 hu0 => ?_)
    obtain ⟨rfl, _⟩ := hu0.strI
    walk_at "go"
    refine ifn (fun e => ?_) (fun e => ?_)
    · have e : bodiesD (.tuple (.str x :: rest)) = (PyData.str x :: rest).drop 3 := by
        show (if x = "do" then _ else _) = _
        rw [if_neg (of_decide_eq_false e)]
        rfl
      rw [e] at q
      walk_at "go"
      refine rd_slT hd (fun u H1 s1 hu => ?_)
      rw [show cutD (PyData.str x :: rest) (some 3) none = (PyData.str x :: rest).drop 3 from cutD_drop _ 3] at hu
      exact q u H1 s1 hu
    · have e : bodiesD (.tuple (.str x :: rest)) = [] := by
        show (if x = "do" then _ else _) = _
        rw [if_pos (of_decide_eq_true e)]
      rw [e] at q
      walk_at "go"
      exact ⟨by decide, fun p hp => q _ _ (sameNew hp) Dt.empty⟩
end
end MH
end
section
set_option Elab.async false
set_option linter.all false
set_option maxRecDepth 100000
set_option maxHeartbeats 2000000
namespace MH
open PySem PySem.Spec PyProof.Rows L2
local macro_rules | `(tactic| walk_at "go") => `(tactic| repeat (first
  | with_reducible refine i_seq ?_ | with_reducible refine i_ifS ?_ | with_reducible refine i_ret ?_ | with_reducible refine i_drop ?_ | with_reducible refine i_asg ?_ | with_reducible refine i_name ?_
  | with_reducible refine i_next ?_ | with_reducible refine i_var (by with_unfolding_all exact rfl) ?_ | with_reducible refine i_c ?_ | with_reducible refine i_cons ?_ | with_reducible refine i_nil ?_ | with_reducible refine i_cb ?_
  | with_reducible refine i_op ?_ | with_reducible refine i_un ?_ | with_reducible refine i_call ?_ | with_reducible refine i_test ?_ | with_reducible refine i_b ?_ | with_reducible refine i_bl ?_ | with_reducible refine i_and ?_ | with_reducible refine i_or ?_
  | with_reducible refine i_not ?_ | with_reducible refine i_andV ?_ | with_reducible refine i_orV ?_ | with_reducible refine i_notV ?_ | with_reducible refine i_if ?_ | with_reducible refine i_chain ?_ | with_reducible refine i_tup ?_ | with_reducible refine i_lst ?_
  | with_reducible refine i_sl ?_ | with_reducible refine i_part ?_ | with_reducible refine i_nopart ?_ | with_reducible refine i_int ?_ | with_reducible refine i_bm ?_ | with_reducible refine i_bm0 ?_ | with_reducible refine i_I0 ?_ | with_reducible refine i_lc ?_ | with_reducible refine i_disp ?_ | with_reducible refine i_pairsC ?_ | with_reducible refine i_pairsN ?_ | with_reducible refine i_dget2 ?_ | with_reducible refine i_gsub ?_ | with_reducible refine i_raiseB ?_ | with_reducible refine i_make ?_ | with_reducible refine i_gcons ?_ | with_reducible refine i_gnil ?_ | with_reducible refine i_enum ?_ | with_reducible refine i_isN ?_ | with_reducible refine i_notN ?_ | with_reducible refine i_fld ?_ | with_reducible refine i_sfld ?_ | with_reducible refine i_meth ?_ | with_reducible refine i_rU ?_ | with_reducible refine i_dputN ?_ | with_reducible refine i_dput ?_ | with_reducible refine i_dget ?_ | with_reducible refine i_rng1 ?_ | with_reducible refine i_dinP ?_ | with_reducible refine i_raiseA ?_ | with_reducible refine i_lenSetS ?_ | with_reducible refine i_for ?_ | with_reducible refine i_yes ?_ | with_reducible refine i_eqS ?_ | with_reducible refine i_neS ?_ | with_reducible refine i_eqI ?_ | with_reducible refine i_neI ?_
  | with_reducible refine i_retN ?_ | with_reducible refine i_brk ?_ | with_reducible refine i_cont ?_ | with_reducible refine i_par ?_ | with_reducible refine i_par3 ?_ | with_reducible refine i_two ?_ | with_reducible refine i_three ?_
  | with_reducible refine i_itup ?_ | with_reducible refine i_ilist ?_ | with_reducible refine i_istr ?_ | with_reducible refine i_str ?_ | with_reducible refine i_m1 ?_ | with_reducible refine i_anystr ?_
  | with_reducible refine iteT ?_ | with_reducible refine iteF ?_))
section
variable {P : Program} {w : World} {K : Fg} {mg : Str → Option Value} {base : Heap}
def spNo : Sp := fun _ _ _ _ => False
def spBody (n : Nat) : Sp := fun vs H Q _ => ∃ v d, vs = [v, .int n] ∧ Dt K H v d ∧ (noL d = true ∨ d = .list []) ∧ ∀ H', Same H H' → Q (.bl (isBodyD n d)) H'
def spBodyP : Nat → Sp
  | 0 => spNo
  | n + 1 => spBody (K := K) n
theorem k_is_body_step (T : Tx K mg) (n : Nat) (KB : Keeps P w K mg base CX0 (n + 3) "is_body" ["thing", "deep"] (spBodyP (K := K) n)) : Keeps P w K mg base CX0 (n + 4) "is_body" ["thing", "deep"] (spBody (K := K) n) := T.kp_is_body fun fd F => by
  refine F.ok sc_is_body (fun vs H Q E h => ?_) (fun cdv A outer s H vs Q E hr h => ?_)
  · obtain ⟨v, d, rfl, _⟩ := h
    rfl
  · obtain ⟨v, d, rfl, hd, hn, q⟩ := h
    refine ⟨_, PSs.nox (pss_cons (ps_if (PW.pt (pw_or (pt_not (pt_val (pe_k (k_is_row T) (hr.mono (by omega)) pass0 (pa_cons (pv 0) (pa_cons (pe_gi T.c_ITEMS) pa_nil))))) (pw_or1 (PW.pt (pw_and (pt_cmpR op_eq (pv 1) pe_int (nomark _)) (pw_and1 (pt_cmpR (op_neP hr.units) (pv 0) (pe_tup pa_nil) (nomark _)))))))) (pss_one (ps_ret pe_bl)) pss_nil)
      (pss_cons (ps_for PassesOwn.never rfl (pi_tup (pv 0)) (pg_name (i := 2) sc_is_body.nd rfl (by first | exact Or.inl rfl | exact Or.inr rfl)) (pss_one (ps_if (PW.pt (pw_or (pt_not (pt_val (pe_k (k_is_item T) (hr.mono (by omega)) pass0 (pa_cons (pv 2) pa_nil)))) (pw_or1 (pt_not (pt_val (pe_callB (cr_all rfl) (by rfl) T.b_all (by decide +kernel) (pa_cons (pe_lc (own := [("body", 3)]) (g := gName 3) (tt := tYes) rfl sc_is_body.nd (pi_tup (pe_k (k_bodies_of T) (hr.mono (by omega)) pass0 (pa_cons (pv 2) pa_nil))) (blkOk_by (N := n_is_body) (sc := defScope s_is_body) (by decide +kernel)) (fun _ _ _ _ _ => (pg_name (i := 3) sc_is_body.nd rfl (by first | exact Or.inl rfl | exact Or.inr rfl))) (fun _ _ _ _ _ => pts_nil) (fun _ _ _ _ _ => (pe_k KB (hr.mono (by omega)) pass0 (pa_cons (pv 3) (pa_cons (pe_op op_sub (pv 1) pe_int) pa_nil))))) pa_nil))))))) (pss_one (ps_ret pe_bl)) pss_nil)))
      (pss_one (ps_ret pe_bl)))), ?_⟩
    walk_at "go"
    refine ⟨v, d, 12, rfl, hd, fun H1 s1 => ?_⟩
    walk_at "go"
    cases hrow : isRowD d 12 with
    | false =>
      rw [isBodyD_row hrow] at q
      exact iteT (iteT (q H1 s1))
    | true =>
      obtain ⟨ds, rfl, hlen⟩ := isRowD_tup hrow
      have hn : noLs ds = true := hn.elim noLs_tup (fun z => by cases z)
      have hd1 := hd.same s1
      refine iteF ?_
      walk_at "go"
      obtain ⟨a, xs, rfl, hx1, hx2⟩ := hd1.ref
      refine ifb (fun e0 => ?_) (fun e0 => ?_)
      · have e0 : n = 0 := by have := of_decide_eq_true e0; omega
        subst e0
        rw [isBodyD_zero ds hlen] at q
        walk_at "go"
        refine ⟨by decide, fun p hp => ?_⟩
        have s2 := sameNew (o := .tup []) hp
        refine rd_neE (hd1.same s2) hn Dt.empty ?_
        walk_at "go"
        cases ds with
        | nil =>
          refine iteF ?_
          walk_at "go"
          refine ⟨_, rfl, ⟨_, (StT.same s2).t _ _ hx1⟩, ?_⟩
          refine forb_data (fun i _ H => i = 0 ∧ H = upd H1 p (.tup [])) ((StT.same s2).t _ _ hx1) (hx2.mono (StT.same s2)) ⟨rfl, rfl⟩ (fun i σ H _ h => h.2 ▸ StT.refl) (fun i v d σ H e => by simp at e) (fun σ H h => ?_)
          walk_at "go"
          rw [h.2]
          exact q _ (s1.trans s2)
        | cons d0 r =>
          refine iteT ?_
          walk_at "go"
          exact q _ (s1.trans s2)
      · walk_at "go"
        refine ⟨_, rfl, ⟨_, hx1⟩, ?_⟩
        obtain ⟨m, rfl⟩ : ∃ m, n = m + 1 := ⟨n - 1, by have := of_decide_eq_false e0; omega⟩
        rw [isBodyD_succ m ds hlen] at q
        refine forb_data (fun i σ H => (∃ y z, σ = [some (.ref a), some (.int ((m + 1 : Nat) : Int)), y, z]) ∧ Same H1 H ∧ (ds.take i).all (okIt m) = true) hx1 hx2 ⟨⟨_, _, rfl⟩, Same.refl _, rfl⟩ (fun i σ H _ h => StT.same h.2.1) (fun i v d σ H e hv h => ?_) (fun σ H h => ?_)
        · obtain ⟨⟨y, z, rfl⟩, s2, hall⟩ := h
          have hm := List.mem_of_getElem? e
          walk_at "go"
          refine ⟨v, d, rfl, hv, noLs_mem hn hm, fun H3 s3 => ?_⟩
          walk_at "go"
          cases hit : isItemD d with
          | false =>
            refine iteT (iteT ?_)
            walk_at "go"
            rw [all_no e (show okIt m d = false by unfold okIt; rw [hit]; rfl)] at q
            exact q H3 ((s1.trans s2).trans s3)
          | true =>
            refine iteF ?_
            walk_at "go"
            refine ⟨v, d, rfl, hv.same s3, hit, fun u H4 s4 hu => ?_⟩
            walk_at "go"
            obtain ⟨b, ys, rfl, hy1, hy2⟩ := hu.ref
            refine ⟨_, rfl, ⟨_, hy1⟩, ?_⟩
            refine lcb_data (ds := bodiesD d) (y := fun d => .bl (isBodyD m d)) hu (by have := bodiesD_le hit; unfold sizeLine; omega) (fun _ => rfl) (fun u d' H5 R hm' s5 hu' k => ?_) (fun D H5 _ s5 hl => ?_)
            · walk_at "go"
              refine ⟨u, d', by rw [show ((m + 1 : Nat) : Int) - 1 = (m : Int) by omega]; rfl, hu', .inl (noL_bodies (noLs_mem hn hm) hm'), k⟩
            · walk_at "go"
              refine rd_all hl ?_
              walk_at "go"
              cases hb : (bodiesD d).all (isBodyD m) with
              | false =>
                refine iteT ?_
                walk_at "go"
                rw [all_no e (show okIt m d = false by unfold okIt; rw [hit, hb]; rfl)] at q
                exact q H5 ((((s1.trans s2).trans s3).trans s4).trans s5)
              | true =>
                refine iteF ?_
                walk_at "go"
                exact ⟨⟨_, _, rfl⟩, ((s2.trans s3).trans s4).trans s5, all_take_succ e hall (by unfold okIt; rw [hit, hb]; rfl)⟩
        · obtain ⟨_, s2, hall⟩ := h
          walk_at "go"
          rw [List.take_of_length_le (Nat.le_refl _)] at hall
          rw [hall] at q
          exact q H (s1.trans s2)
theorem k_is_body_no (T : Tx K mg) : Keeps P w K mg base CX0 3 "is_body" ["thing", "deep"] spNo := T.kp_is_body fun fd F =>
  F.ok sc_is_body (fun _ _ _ _ h => h.elim) (fun _ _ _ _ _ _ _ _ _ h => h.elim)
theorem k_is_body (T : Tx K mg) : ∀ n, Keeps P w K mg base CX0 (n + 4) "is_body" ["thing", "deep"] (spBody (K := K) n)
  | 0 => k_is_body_step T 0 (k_is_body_no T)
  | n + 1 => k_is_body_step T (n + 1) (k_is_body T n)
def spSites (n : Nat) : Sp := fun vs H Q _ => ∃ v d, vs = [v] ∧ Dt K H v d ∧ isBodyD n d = true ∧ n ≤ 4 ∧ ∀ a H', H a = none → Same H H' → H' a = some (.lst ((sitesD (n + 1) d).map V.str)) → Q (.ref a) H'
def spSitesP : Nat → Sp
  | 0 => spNo
  | n + 1 => spSites (K := K) n
theorem k_sites_in_step (T : Tx K mg) (n : Nat) (KB : Keeps P w K mg base CX0 (n + 2) "sites_in" ["body"] (spSitesP (K := K) n)) : Keeps P w K mg base CX0 (n + 3) "sites_in" ["body"] (spSites (K := K) n) := T.kp_sites_in fun fd F => by
  refine F.ok sc_sites_in (fun vs H Q E h => ?_) (fun cdv A outer s H vs Q E hr h => ?_)
  · obtain ⟨v, d, rfl, _⟩ := h
    rfl
  · obtain ⟨v, d, rfl, hd, hb, hn4, q⟩ := h
    refine ⟨_, PSs.nox (pss_cons (ps_set (i := 1) sc_sites_in.nd rfl (by first | exact Or.inl rfl | exact Or.inr rfl) (pe_lst pa_nil))
      (pss_cons (ps_for PassesOwn.never rfl (pi_tup (pv 0)) (pg_name (i := 2) sc_sites_in.nd rfl (by first | exact Or.inl rfl | exact Or.inr rfl)) (pss_cons (ps_expr (pe_bm PySem.F.plainAttrs_list PySem.F.slot_list_append PySem.F.type_list_append mt_append (pv 1) (pa_cons (pe_ix ix_tup (pv 2) pe_int (fun _ _ => rfl)) pa_nil)))
      (pss_one (ps_for PassesOwn.never rfl (pi_tup (pe_k (k_bodies_of T) (hr.mono (by omega)) pass0 (pa_cons (pv 2) pa_nil))) (pg_name (i := 3) sc_sites_in.nd rfl (by first | exact Or.inl rfl | exact Or.inr rfl)) (pss_one (ps_expr (pe_bm PySem.F.plainAttrs_list PySem.F.slot_list_extend PySem.F.type_list_extend mt_extend (pv 1) (pa_cons (pe_k KB (hr.mono (by omega)) pass0 (pa_cons (pv 3) pa_nil)) pa_nil))))))))
      (pss_one (ps_ret (pv 1))))), ?_⟩
    have hbig := Nat.le_trans (sitesD_le n hb) (siteMax_le hn4)
    obtain ⟨ds, rfl, hl, h0, h1⟩ := isBodyD_tup hb
    rw [sitesD_succ] at q hbig
    walk_at "go"
    refine ⟨by decide, fun p hp => ?_⟩
    walk_at "go"
    have hd1 := hd.same (sameNew (o := .lst []) hp)
    obtain ⟨a, xs, rfl, hx1, hx2⟩ := hd1.ref
    refine ⟨_, rfl, ⟨_, hx1⟩, ?_⟩
    refine forb_data (fun i σ H' => (∃ y z, σ = [some (.ref a), some (.ref p), y, z]) ∧ Same H H' ∧ StT K (upd H p (.lst [])) H' ∧ H' p = some (.lst (((ds.take i).flatMap (itSites n)).map V.str))) hx1 hx2 ⟨⟨_, _, rfl⟩, sameNew hp, StT.refl, upd_same⟩ (fun i σ H _ h => h.2.2.1) (fun i v d σ H2 e hv h => ?_) (fun σ H2 h => ?_)
    · obtain ⟨⟨y, z, rfl⟩, s2, t2, hp2⟩ := h
      obtain ⟨m, rfl⟩ : ∃ m, n = m + 1 := by
        cases n with
        | zero => rw [h0 rfl] at e; simp at e
        | succ m => exact ⟨m, rfl⟩
      obtain ⟨hi, hbs⟩ := okIt_item (all_get (h1 m rfl) e)
      obtain ⟨hs1, hs2⟩ := item_site hi
      have hsp := congrArg List.length (flatMap_split (f := itSites (m + 1)) e)
      rw [List.length_append, List.length_append] at hsp
      have hit : (itSites (m + 1) d).length = 1 + ((bodiesD d).flatMap (sitesD (m + 1))).length := by
        unfold itSites
        rw [List.length_cons]
        omega
      walk_at "go"
      refine ⟨.inl ⟨rfl, _, SqL.of hp2⟩, ?_⟩
      walk_at "go"
      rw [item_tup hi] at hv
      refine rd_ix hv (n := 1) rfl hs1 (fun u hu => ?_)
      obtain ⟨rfl, _⟩ := hu.strI
      walk_at "go"
      refine ⟨p, _, _, rfl, rfl, hp2, by rw [List.length_map]; unfold sizeLine; omega, ?_⟩
      walk_at "go"
      have hv3 := hv.mono (StT.lst (ys := List.map V.str (List.flatMap (itSites (m + 1)) (List.take i ds)) ++ [V.str (siteD d)]) hp2)
      refine ⟨_, _, rfl, hv3, by rw [← item_tup hi]; exact hi, fun u H4 s4 hu => ?_⟩
      rw [← item_tup hi] at hu
      walk_at "go"
      obtain ⟨b, ys, rfl, hy1, hy2⟩ := hu.ref
      refine ⟨_, rfl, ⟨_, hy1⟩, ?_⟩
      refine forb_data (fun j σ H' => (∃ z, σ = [some (.ref a), some (.ref p), some v, z]) ∧ Same H H' ∧ StT K (upd H p (.lst [])) H' ∧ StT K H4 H' ∧ H' p = some (.lst ((((ds.take i).flatMap (itSites (m + 1)) ++ [siteD d]) ++ ((bodiesD d).take j).flatMap (sitesD (m + 1))).map V.str))) hy1 hy2 ?_ (fun i σ H _ h => h.2.2.2.1) (fun j v' d' σ H5 e' hv' h => ?_) (fun σ H5 h => ?_)
      · refine ⟨⟨_, rfl⟩, (samePut s2 hp).trans s4, (t2.trans (StT.lst hp2)).trans (StT.same s4), StT.refl, ?_⟩
        refine (s4 _ _ upd_same).trans ?_
        simp [List.map_append]
      · obtain ⟨⟨z', rfl⟩, s5, t5, t5', hp5⟩ := h
        have hsp2 := congrArg List.length (flatMap_split (f := sitesD (m + 1)) e')
        rw [List.length_append, List.length_append] at hsp2
        walk_at "go"
        refine ⟨.inl ⟨rfl, _, SqL.of hp5⟩, ?_⟩
        walk_at "go"
        refine ⟨v', d', rfl, hv', hbs d' (List.mem_of_getElem? e'), by omega, fun c H6 hc s6 hl6 => ?_⟩
        walk_at "go"
        have hp6 := s6 _ _ hp5
        refine ⟨p, c, _, _, rfl, rfl, hp6, hl6, by rw [List.length_map, List.length_map, List.length_append, List.length_append]; simp only [List.length_singleton]; unfold sizeLine; omega, ?_⟩
        walk_at "go"
        refine ⟨⟨_, rfl⟩, samePut (s5.trans s6) hp, (t5.trans (StT.same s6)).trans (StT.lst hp6), (t5'.trans (StT.same s6)).trans (StT.lst hp6), ?_⟩
        rw [upd_same, ← List.map_append, flatMap_take_succ e']
        simp [List.append_assoc]
      · obtain ⟨⟨z', rfl⟩, s5, t5, t5', hp5⟩ := h
        walk_at "go"
        refine ⟨⟨_, _, rfl⟩, s5, t5, ?_⟩
        rw [hp5, List.take_of_length_le (Nat.le_refl _), flatMap_take_succ e]
        simp [itSites, List.append_assoc]
    · obtain ⟨⟨y, z, rfl⟩, s2, t2, hp2⟩ := h
      walk_at "go"
      rw [List.take_of_length_le (Nat.le_refl _)] at hp2
      exact q p H2 hp s2 hp2
theorem k_sites_in_no (T : Tx K mg) : Keeps P w K mg base CX0 2 "sites_in" ["body"] spNo := T.kp_sites_in fun fd F =>
  F.ok sc_sites_in (fun _ _ _ _ h => h.elim) (fun _ _ _ _ _ _ _ _ _ h => h.elim)
theorem k_sites_in (T : Tx K mg) : ∀ n, Keeps P w K mg base CX0 (n + 3) "sites_in" ["body"] (spSites (K := K) n)
  | 0 => k_sites_in_step T 0 (k_sites_in_no T)
  | n + 1 => k_sites_in_step T (n + 1) (k_sites_in T n)
end
end MH
end
section
set_option Elab.async false
set_option linter.all false
set_option maxRecDepth 100000
set_option maxHeartbeats 3200000
/-! engine: len(set(texts)) -/
namespace MH
open PySem PySem.Spec PyProof.Rows L2
def stepS (σ : List Str) (v : Str) : List Str := if σ.any (· == v) then σ else σ ++ [v]
def metS (xs : List Str) : List Str := xs.foldl stepS []
theorem metS_snoc (xs : List Str) (v : Str) : metS (xs ++ [v]) = stepS (metS xs) v := by
  unfold metS
  rw [List.foldl_append]
  rfl
theorem stepS_mem (σ : List Str) (v k : Str) : k ∈ stepS σ v ↔ k ∈ σ ∨ k = v := by
  unfold stepS
  split
  · rename_i h
    obtain ⟨y, hy, e⟩ := List.any_eq_true.mp h
    have e := eq_of_beq e
    subst e
    constructor
    · exact .inl
    · rintro (h | rfl)
      · exact h
      · exact hy
  · rw [List.mem_append, List.mem_singleton]
theorem any_beq (σ : List Str) (k : Str) : σ.any (· == k) = decide (k ∈ σ) := by
  rw [Bool.eq_iff_iff, decide_eq_true_iff, List.any_eq_true]
  constructor
  · rintro ⟨y, hy, e⟩
    rw [← eq_of_beq e]
    exact hy
  · intro h
    exact ⟨k, h, beq_self_eq_true k⟩
theorem stepS_any (σ : List Str) (v k : Str) : (stepS σ v).any (· == k) = (σ.any (· == k) || decide (k = v)) := by
  rw [any_beq, any_beq, Bool.eq_iff_iff, Bool.or_eq_true, decide_eq_true_iff, decide_eq_true_iff, decide_eq_true_iff]
  exact stepS_mem σ v k
theorem stepS_len (σ : List Str) (v : Str) : (stepS σ v).length = if σ.any (· == v) then σ.length else σ.length + 1 := by
  unfold stepS
  split <;> simp
theorem metS_mem : ∀ (xs : List Str) (k : Str), k ∈ metS xs ↔ k ∈ xs := by
  intro xs k
  suffices h : ∀ (xs σ : List Str), k ∈ xs.foldl stepS σ ↔ k ∈ σ ∨ k ∈ xs by
    have := h xs []
    simpa [metS] using this
  intro xs
  induction xs with
  | nil => intro σ; simp
  | cons x r ih =>
    intro σ
    rw [List.foldl_cons, ih, stepS_mem, List.mem_cons]
    constructor
    · rintro ((h | h) | h)
      · exact .inl h
      · exact .inr (.inl h)
      · exact .inr (.inr h)
    · rintro (h | h | h)
      · exact .inl (.inl h)
      · exact .inl (.inr h)
      · exact .inr h
theorem metS_take {xs : List Str} {i : Nat} (hi : i < xs.length) : metS (xs.take (i + 1)) = stepS (metS (xs.take i)) (xs.getD i Str.empty) := by
  rw [List.take_add_one, List.getElem?_eq_getElem hi, List.getD_eq_getElem?_getD, List.getElem?_eq_getElem hi]
  exact metS_snoc _ _
theorem metS_len (xs : List Str) : ∀ i, (metS (xs.take i)).length ≤ i
  | 0 => by simp [metS]
  | i + 1 => by
    rcases Nat.lt_or_ge i xs.length with h | h
    · rw [metS_take h, stepS_len]
      have := metS_len xs i
      split <;> omega
    · have e : xs.take (i + 1) = xs.take i := by rw [List.take_of_length_le h, List.take_of_length_le (by omega)]
      rw [e]
      have := metS_len xs i
      omega
/-- as many as there are texts, exactly if no two are one -/
theorem metS_nodup (xs : List Str) : ∀ i, i ≤ xs.length → ((metS (xs.take i)).length = i ↔ (xs.take i).Nodup)
  | 0, _ => by simp [metS]
  | i + 1, hi => by
    have h : i < xs.length := hi
    have ih := metS_nodup xs i (Nat.le_of_lt h)
    have hle := metS_len xs i
    have et : xs.take (i + 1) = xs.take i ++ [xs[i]] := by
      rw [List.take_add_one, List.getElem?_eq_getElem h]
      rfl
    have eg : xs.getD i Str.empty = xs[i] := by
      rw [List.getD_eq_getElem?_getD, List.getElem?_eq_getElem h]
      rfl
    rw [metS_take h, stepS_len, any_beq, eg, et, List.nodup_append]
    have em : decide (xs[i] ∈ metS (xs.take i)) = decide (xs[i] ∈ xs.take i) := decide_eq_decide.mpr (metS_mem _ _)
    rw [em]
    by_cases hm : xs[i] ∈ xs.take i
    · rw [decide_eq_true hm, if_pos rfl]
      constructor
      · intro z
        omega
      · rintro ⟨_, _, z⟩
        exact absurd rfl (z _ hm _ (List.mem_singleton.mpr rfl))
    · rw [decide_eq_false hm, if_neg Bool.false_ne_true]
      constructor
      · intro z
        refine ⟨ih.mp (by omega), by simp, fun a ha b hb e => ?_⟩
        rw [List.mem_singleton.mp hb] at e
        subst e
        exact hm ha
      · intro z
        have := ih.mpr z.1
        omega
theorem metS_all (xs : List Str) : decide ((metS xs).length = xs.length) = decide xs.Nodup := by
  have h := metS_nodup xs xs.length (Nat.le_refl _)
  rw [List.take_of_length_le (Nat.le_refl _)] at h
  exact decide_eq_decide.mpr h
section
variable {prog : Program} {w : World} {A : Around} {R : Result → Shared → Prop} {I : Addr} {fp wr : List Addr} {G : Array GenState → Array GenState → Prop} {n : Nat} {P : Nat → Value → Prop} {St : Nat → Shared → Prop}
/-- the texts go into the set one by one -/
theorem set_turns (W : WalksS prog w A.in1 I fp wr G n P St) (S : Addr) (hfp : S ∉ fp) (xs : List Str) (len : xs.length = n) (small : n + 1 < scanBound) (tells : ∀ i v, P i v → ∃ t, v = .str (xs.getD i Str.empty) t) :
    ∀ (k i : Nat) (s : Shared), n - i = k → i ≤ n → St i s → s.heap.SetOf (PySem.strKind prog w) S (fun k' => (metS (xs.take i)).any (· == k')) (metS (xs.take i)).length →
      (∀ s', Moved (S :: wr) G s s' → s'.heap.SetOf (PySem.strKind prog w) S (fun k' => (metS (xs.take n)).any (· == k')) (metS (xs.take n)).length → R (.ok (.ret .none)) s') →
      codeAny (model prog w) A (.builtin "set.update.loop" ⟨[.ref S, .ref I], []⟩) R s
  | 0, i, s, hk, hi, hst, hS, hR => by
    obtain rfl : i = n := by omega
    refine codeAny_builtin PyProof.Rows.F.entry_set_update_loop ?_
    rw [Around.under_plainId PyProof.Rows.F.plain_set_update_loop _]
    show wpAny _ A.in1 (pyNext (.ref I) >>= _) _ _ s
    refine wpAny_bind (W.done s _ _ hst fun s' hm => ?_)
    show wpAny _ A.in1 (ret Value.none) _ _ s'
    refine wpAny_pure (hR s' (hm.mono fun b hb => List.mem_cons_of_mem _ hb) ?_)
    obtain ⟨o, es, ep, t, ho, more⟩ := hS
    exact ⟨o, es, ep, t, hm.heap S _ (fun z => hfp (W.sub _ z)) ho, more⟩
  | k + 1, i, s, hk, hi, hst, hS, hR => by
    have hlt : i < n := by omega
    refine codeAny_builtin PyProof.Rows.F.entry_set_update_loop ?_
    rw [Around.under_plainId PyProof.Rows.F.plain_set_update_loop _]
    show wpAny _ A.in1 (pyNext (.ref I) >>= _) _ _ s
    refine wpAny_bind (W.item i s _ _ hlt hst fun v s1 hP hst1 hm => ?_)
    obtain ⟨t, rfl⟩ := tells i v hP
    have hS1 : s1.heap.SetOf (PySem.strKind prog w) S (fun k' => (metS (xs.take i)).any (· == k')) (metS (xs.take i)).length := by
      obtain ⟨o, es, ep, tb, ho, more⟩ := hS
      exact ⟨o, es, ep, tb, hm.heap S _ (fun z => hfp (W.sub _ z)) ho, more⟩
    show wpAny _ A.in1 (holding [Value.str (xs.getD i Str.empty) t] (setAdd S (.str (xs.getD i Str.empty) t)) >>= _) _ _ s1
    refine wpAny_bind (wpAny_holding ?_)
    unfold setAdd
    refine wpAny_holding ?_
    refine wpAny_bind ((PySem.strKind prog w).pyHash (k := xs.getD i Str.empty) (strKind_is _ _ _ _) ?_)
    have room := metS_len xs i
    refine wpAny_setAddHashed_of (knd := PySem.strKind prog w) (s := { s1 with toks := s1.toks + 1 }) (strKind_is _ _ _ _) rfl hS1 (by omega) fun h' same hS2 => ?_
    have hS3 : h'.SetOf (PySem.strKind prog w) S (fun k' => (metS (xs.take (i + 1))).any (· == k')) (metS (xs.take (i + 1))).length :=
      SetOf_congr hS2 (fun k' => by rw [metS_take (by omega), stepS_any]) (by rw [metS_take (by omega), stepS_len])
    refine wpAny_pure ⟨plainId_quiet PyProof.Rows.F.plain_set_update_loop _, set_turns W S hfp xs len small tells k (i + 1) _ (by omega) hlt (W.frame _ s1 _ _ hst1 (Nat.le_succ _) fun b hb o e => ?_) hS3 fun s2 hm2 hS4 => ?_⟩
    · rw [same.2 b (fun z : b = S => hfp (by rw [← z]; exact hb))]
      exact e
    · refine hR s2 (Moved.trans W.gtrans ((hm.mono fun b hb => List.mem_cons_of_mem _ hb).then_heap (Nat.le_succ _) fun b o hb e => ?_) hm2) hS4
      rw [same.2 b (fun z : b = S => hb (by rw [z]; exact List.mem_cons_self))]
      exact e
end
section
variable {prog : Program} {w : World} {A : Around} {E : Value → Shared → Prop} {s : Shared}
/-- set(list of texts) -/
theorem set_of_texts {l : Addr} {items : Array Value} {xs : List Str} {Q : Value → Shared → Prop}
    (calm : A.handled = none) (isl : s.heap.IsList l items) (are : StrsAre items.toList xs) (small : xs.length + 1 < scanBound)
    (fin : ∀ (h' : Heap) (tk : Nat), h'.SetOf (PySem.strKind prog w) s.heap.objs.size (fun k' => (metS xs).any (· == k')) (metS xs).length →
      (∀ b o, b < s.heap.objs.size → s.heap.get? b = some o → h'.get? b = some o) → Q (.ref s.heap.objs.size) { s with heap := h', toks := tk }) :
    wpAny (model prog w) A (call (.type "set") [.ref l]) Q E s := by
  have size : items.size = xs.length := by rw [← StrsAre.len_eq are, Array.length_toList]
  obtain ⟨_, _, hmro⟩ := PySem.F.called_set.mro
  have hmade := PySem.F.called_set.made
  have hsub := PySem.F.called_set.sub
  refine wpAny_call (codeAny_of_tree ?_)
  show wpAny _ _ (callAny (.type "set") _) _ _ _
  refine wpAny_pure ⟨Code.quiet_builtin _ (by decide +kernel), codeAny_builtin PySem.F.entry_type_call ?_⟩
  rw [Around.under_plain (weight_type_call_type "set" [.ref l] []) rfl]
  have c1 := PySem.F.called_set.notType
  have c2 := PySem.F.called_set.canCreate
  have c3 := PySem.F.typeCall_set_1 (.ref l)
  repeat (any_goals (first | assumption | wp_step))
  let new : Bool → Obj := fun led => { cls := .type "set", dict := none, data := .set #[] 0 (.fresh 0 0 led) }
  refine codeAny_mono (code_set_new_1 (.ref l) (E := E) (Q₁ := fun obj s₁ => ∃ led : Bool, obj = .ref s.heap.objs.size ∧ s₁ = { s with heap := s.heap.push (new led) }) fun led => ⟨led, rfl, rfl⟩) fun r s₁ hr => ?_
  match r, hr with
  | .error e, hr => exact hr
  | .ok (.ret obj), hr =>
    obtain ⟨led, rfl, rfl⟩ := hr
    have there : (s.heap.push (new led)).get? s.heap.objs.size = some (new led) := Heap.get?_push_size _ rfl
    have isSet : Shared.TypeIs { s with heap := s.heap.push (new led) } (.ref s.heap.objs.size) "set" := ⟨_, there, rfl⟩
    have i1 := PySem.F.called_set.init.lookup
    have i2 := PySem.F.called_set.init.bind (.ref s.heap.objs.size)
    repeat (any_goals (first | assumption | wp_step))
    refine codeAny_mono (codeAny_call_builtin (R := wants (fun r s₂ => r = .none ∧ ∃ h' tk, s₂ = { s with heap := h', toks := tk } ∧
        h'.SetOf (PySem.strKind prog w) s.heap.objs.size (fun k' => (metS xs).any (· == k')) (metS xs).length ∧
        (∀ b o, b < s.heap.objs.size → s.heap.get? b = some o → h'.get? b = some o)) E) PySem.F.called_set.init.plain PySem.F.entry_set_init (check_set_init_1 isSet ?_)) fun r₂ s₂ hr₂ => ?_
    · obtain ⟨⟨ocls, odict, odata, oslots⟩, hol, hcl, nl, hdl⟩ := isl
      simp only at hcl hdl
      subst hcl hdl
      have still : (s.heap.push (new led)).get? l = some { cls := .type "list", dict := odict, data := .seq items nl, slots := oslots } := Heap.get?_push_of_some _ hol
      have n1 := PySem.F.sub_list_set
      have n2 := PySem.F.sub_list_frozenset
      have n3 : (Value.type "list" == Value.type "dict") = false := by decide
      have isl1 : (s.heap.push (new led)).IsList l items := ⟨_, still, rfl, nl, rfl⟩
      unfold Builtin.«set.__init__» noKeywords Builtin.Frozenset.updateFrom
      generalize hPI : pyIter = PI
      wp_walk
      subst hPI
      refine wpAny_pyIter_list isl1 ?_
      refine wpAny_bind (wpAny_runValue ?_)
      have low : l < s.heap.objs.size := Heap.lt_size hol
      have calm3 : A.in1.in1.in1.handled = none := by simp [calm]
      have big : (s.heap.push (new led)).objs.size = s.heap.objs.size + 1 := Heap.size_push _ _
      have ne1 : l ≠ (s.heap.push (new led)).objs.size := by rw [big]; exact Nat.ne_of_lt (Nat.lt_succ_of_lt low)
      have ne2 : s.heap.objs.size ∉ [(s.heap.push (new led)).objs.size, l] := by
        rw [big]
        simp only [List.mem_cons, List.not_mem_nil, or_false, not_or]
        exact ⟨Nat.ne_of_lt (Nat.lt_succ_self _), Nat.ne_of_gt low⟩
      have tells : ∀ (i : Nat) (v : Value), items[i]? = some v → ∃ t, v = .str (xs.getD i Str.empty) t := fun i v hv => SS.strs_at are i v (by rw [Array.getElem?_toList]; exact hv)
      refine set_turns ((Walks.list calm3 _ l ne1 items).toS) s.heap.objs.size ne2 xs size.symm (by rw [size]; exact small) tells (items.size - 0) 0 _ (by omega) (Nat.zero_le _)
        ⟨⟨_, Heap.get?_push_size _ rfl, rfl, rfl⟩, (isl1.push _)⟩ ?first ?last
      case first =>
        have e : ((s.heap.push (new led)).push { cls := .type "list_iterator", data := .fields #[.ref l, .int 0 0] }).get? s.heap.objs.size = some (new led) := Heap.get?_push_of_some _ there
        exact PyProof.Rows.SetOf_congr ((PyProof.Rows.setObjOf_fresh (knd := PySem.strKind prog w) led).setOf e (by unfold scanBound; omega)) (fun _ => rfl) rfl
      case last =>
        intro s' hm hS'
        obtain ⟨h', g', d', tk', os'⟩ := s'
        obtain rfl : g' = s.gens := hm.gens
        obtain rfl : d' = s.drawn := hm.drawn
        obtain rfl : os' = s.os := hm.os
        show wpAny _ _ _ _ _ _
        refine wpAny_pure ?_
        show wpAny _ _ (ret Value.none) _ _ _
        rw [size, List.take_of_length_le (Nat.le_refl _)] at hS'
        refine wpAny_pure ⟨rfl, h', tk', rfl, hS', fun b o hb e => ?_⟩
        refine hm.heap b o ?_ (Heap.get?_push_of_some _ (Heap.get?_push_of_some _ e))
        show ¬ b ∈ s.heap.objs.size :: _
        rw [big]
        simp only [List.mem_cons, List.not_mem_nil, or_false, not_or]
        exact ⟨Nat.ne_of_lt hb, Nat.ne_of_lt (Nat.lt_succ_of_lt hb)⟩
    · match r₂, hr₂ with
      | .error e, hr₂ => exact hr₂
      | .ok (.ret r), hr₂ =>
        obtain ⟨rfl, h', tk, rfl, hS', hk'⟩ := hr₂
        repeat (any_goals (first | assumption | wp_step))
        exact fin _ _ hS' hk'
end
section
variable {X : Cx}
def tLenSetS (K : Fg) (ta : TE) : TE := fun σ H Q => ta σ H fun x H1 => ∃ l, ∃ xs : List Str, x = .ref l ∧ SqL K H1 l (xs.map V.str) ∧ xs.length ≤ 4000 ∧ Q (.int (metS xs).length) H1
theorem pe_lenSetS {a : Expr} {ta : TE} {p p2 q pos : Pos} (hc : X.calm = true) (hg : Gl X "len") (hm : X.mg "len" = none) (hg2 : Gl X "set") (hm2 : X.mg "set" = none) (ha : PE X a ta)
    (na : starEach [a] X.env = (false, eval a X.env) :: starEach [] X.env := by rfl) : PE X (.Call (.Name "len" p) [.Call (.Name "set" p2) [a] [] q] [] pos) (tLenSetS X.K ta) := by
  refine ⟨fun pins s σ H Q I h => ?_⟩
  refine Call_ (ld_blt I hg hm boot_len ?_)
  refine PyProof.Rows.callWith_builtin1 (PyProof.Rows.args_cons ?_ rfl) rfl rfl
  refine Call_ (ld_blt I hg2 hm2 boot_set ?_)
  refine PyProof.Rows.callWith_type1 (PyProof.Rows.args_cons (thn (ha.run pins s σ H _ I h) fun v s1 ⟨x, H1, I1, r1, q1⟩ => PyProof.Rows.args_nil ?_) na) na rfl
  obtain ⟨l, xs, rfl, hq, h1, q1⟩ := q1
  cases r1
  obtain ⟨its, r, pl, hz⟩ := I1.list hq
  refine set_of_texts (I1.ok.hd hc) pl.isList (by simpa using strsAre_of r) (by unfold scanBound; omega) fun h' tk hS hk => ?_
  refine PyProof.Rows.args_nil ?_
  obtain ⟨o, es, ep, t, ho, hex, hd, _, _, _, hf, hn⟩ := hS
  have I2 : Inv X pins σ H1 { s1 with heap := h', toks := tk } := I1.kept fun b o e => hk b o (Heap.lt_size e) e
  have hle : (metS xs).length ≤ xs.length := by
    have := metS_len xs xs.length
    rwa [List.take_of_length_le (Nat.le_refl _)] at this
  refine call_len_set ho hex hd hf (by rw [hn]; omega) ⟨.int (metS xs).length, H1, I2.tok _, ⟨_, by rw [hn]⟩, q1⟩
theorem i_lenSetS {K : Fg} {ta : TE} {σ : L2.St} {H : Hp} {Q : VK} (h : ta σ H fun x H1 => ∃ l, ∃ xs : List Str, x = .ref l ∧ SqL K H1 l (xs.map V.str) ∧ xs.length ≤ 4000 ∧ Q (.int (metS xs).length) H1) : tLenSetS K ta σ H Q := h
end
end MH
end
section
set_option linter.all false
set_option maxRecDepth 100000
/-! the mathematics: lines of programs -/
namespace MH
open PySem
def spc (ws : List Str) : Str := Txt.join " " ws
def wordsD (it : PD) : List Str := (if strD ((tupD it).getD 0 .none) = "do" then (tupD it).take 3 ++ tupD ((tupD it).getD 3 .none) else (tupD it).take 2 ++ tupD ((tupD it).getD 2 .none)).map strD
def isE : PD → Bool
  | .tuple ds => ds.isEmpty
  | _ => false
def itLines (L : PD → List Str) (it : PD) : List Str :=
  if strD ((tupD it).getD 0 .none) = "do" then [spc (wordsD it)]
  else spc (wordsD it) :: (L ((tupD it).getD 3 .none) ++ ((if strD ((tupD it).getD 0 .none) = "if" ∧ isE ((tupD it).getD 4 .none) = false then ("else" : Str) :: L ((tupD it).getD 4 .none) else []) ++ [("end" : Str)]))
def linesD : Nat → PD → List Str
  | 0, _ => []
  | n + 1, d => (tupD d).flatMap (itLines (linesD n))
theorem linesD_succ (n : Nat) (ds : List PD) : linesD (n + 1) (.tuple ds) = ds.flatMap (itLines (linesD n)) := rfl
theorem isName_len {x : Str} (h : isName x = true) : 1 ≤ x.length ∧ x.length ≤ 8 := by
  unfold isName at h
  simp only [Bool.and_eq_true] at h
  exact ⟨of_decide_eq_true h.1.1.1, of_decide_eq_true h.1.1.2⟩
theorem isName_letters {x : Str} (h : isName x = true) : ∀ c ∈ x.cps.toList, c ∈ letters := by
  unfold isName at h
  simp only [Bool.and_eq_true] at h
  intro c hc
  exact List.contains_iff_mem.mp (List.all_eq_true.mp h.2 c hc)
/-- data that are names -/
theorem names_of : ∀ {as : List PD}, as.all isNameD = true → as = (as.map strD).map PyData.str ∧ ∀ x ∈ as.map strD, isName x = true
  | [], _ => ⟨rfl, fun _ h => by cases h⟩
  | a :: r, h => by
    rw [List.all_cons, Bool.and_eq_true] at h
    obtain ⟨x, rfl, ex⟩ := isNameD_str h.1
    obtain ⟨e, en⟩ := names_of h.2
    refine ⟨?_, fun y hy => ?_⟩
    · rw [List.map_cons, List.map_cons, ← e]
      rfl
    · rcases List.mem_cons.mp hy with rfl | hy
      · exact ex
      · exact en y hy
/-- an item, by its own words -/
inductive ItemW : PD → Prop
  | d (s x : Str) (as : List Str) : isName s = true → isName x = true → as.length ≤ 3 → (∀ y ∈ as, isName y = true) → ItemW (.tuple [.str "do", .str s, .str x, .tuple (as.map .str)])
  | i (s : Str) (as : List Str) (a b : PD) : isName s = true → as.length ≤ 3 → (∀ y ∈ as, isName y = true) → ItemW (.tuple [.str "if", .str s, .tuple (as.map .str), a, b])
  | w (s : Str) (as : List Str) (a : PD) : isName s = true → as.length ≤ 3 → (∀ y ∈ as, isName y = true) → ItemW (.tuple [.str "while", .str s, .tuple (as.map .str), a])
theorem item_w {d : PD} (h : isItemD d = true) : ItemW d := by
  have := item_is h
  cases this with
  | d s x as h1 h2 h3 h4 =>
    obtain ⟨e, en⟩ := names_of h4
    rw [e]
    exact .d s x _ h1 h2 (by rw [List.length_map]; exact h3) en
  | i s as a b h1 h3 h4 =>
    obtain ⟨e, en⟩ := names_of h4
    rw [e]
    exact .i s _ a b h1 (by rw [List.length_map]; exact h3) en
  | w s as a h1 h3 h4 =>
    obtain ⟨e, en⟩ := names_of h4
    rw [e]
    exact .w s _ a h1 (by rw [List.length_map]; exact h3) en
theorem strD_strs (as : List Str) : (as.map PyData.str).map strD = as := by
  rw [List.map_map]
  exact List.map_id as
theorem words_d (s x : Str) (as : List Str) : wordsD (.tuple [.str "do", .str s, .str x, .tuple (as.map .str)]) = ("do" : Str) :: s :: x :: as := by
  show (if (Str.ofString "do") = Str.ofString "do" then (_ : List PD) else _).map strD = _
  rw [if_pos rfl]
  show ([("do" : Str), s, x] ++ (as.map PyData.str).map strD : List Str) = _
  rw [strD_strs]
  rfl
theorem words_i (s : Str) (as : List Str) (a b : PD) : wordsD (.tuple [.str "if", .str s, .tuple (as.map .str), a, b]) = ("if" : Str) :: s :: as := by
  show (if (Str.ofString "if") = Str.ofString "do" then (_ : List PD) else _).map strD = _
  rw [if_neg (by decide)]
  show ([("if" : Str), s] ++ (as.map PyData.str).map strD : List Str) = _
  rw [strD_strs]
  rfl
theorem words_w (s : Str) (as : List Str) (a : PD) : wordsD (.tuple [.str "while", .str s, .tuple (as.map .str), a]) = ("while" : Str) :: s :: as := by
  show (if (Str.ofString "while") = Str.ofString "do" then (_ : List PD) else _).map strD = _
  rw [if_neg (by decide)]
  show ([("while" : Str), s] ++ (as.map PyData.str).map strD : List Str) = _
  rw [strD_strs]
  rfl
theorem lines_d (L : PD → List Str) (s x : Str) (as : List Str) : itLines L (.tuple [.str "do", .str s, .str x, .tuple (as.map .str)]) = [spc (("do" : Str) :: s :: x :: as)] := by
  rw [← words_d]
  show (if (Str.ofString "do") = Str.ofString "do" then (_ : List Str) else _) = _
  rw [if_pos rfl]
theorem lines_i (L : PD → List Str) (s : Str) (as : List Str) (a b : PD) : itLines L (.tuple [.str "if", .str s, .tuple (as.map .str), a, b]) = spc (("if" : Str) :: s :: as) :: (L a ++ ((if isE b = false then ("else" : Str) :: L b else []) ++ [("end" : Str)])) := by
  rw [← words_i s as a b]
  show (if (Str.ofString "if") = Str.ofString "do" then (_ : List Str) else _) = _
  rw [if_neg (by decide)]
  congr 2
  congr 1
  show (if (Str.ofString "if") = Str.ofString "if" ∧ isE b = false then _ else _ : List Str) = _
  by_cases hb : isE b = false
  · rw [if_pos ⟨rfl, hb⟩, if_pos hb]
    rfl
  · rw [if_neg (fun z => hb z.2), if_neg hb]
theorem lines_w (L : PD → List Str) (s : Str) (as : List Str) (a : PD) : itLines L (.tuple [.str "while", .str s, .tuple (as.map .str), a]) = spc (("while" : Str) :: s :: as) :: (L a ++ [("end" : Str)]) := by
  rw [← words_w s as a]
  show (if (Str.ofString "while") = Str.ofString "do" then (_ : List Str) else _) = _
  rw [if_neg (by decide)]
  congr 2
/-- bodies hold no lists -/
theorem spc_len (ws : List Str) (h : ws.length ≤ 6) (hl : ∀ y ∈ ws, y.length ≤ 8) : (spc ws).length ≤ 54 := by
  unfold spc
  rw [TL.join_eq]
  have h1 := StrLaws.join_length_le " " ws
  have h2 : (ws.map (·.length)).sum ≤ ws.length * 8 := by
    clear h h1
    induction ws with
    | nil => simp
    | cons y r ih =>
      rw [List.map_cons, List.sum_cons, List.length_cons, Nat.succ_mul]
      have := hl y List.mem_cons_self
      have := ih fun z hz => hl z (List.mem_cons_of_mem _ hz)
      omega
  have h3 : (Str.ofString " ").length = 1 := by decide
  rw [h3] at h1
  omega
theorem words_le {it : PD} (h : isItemD it = true) : (wordsD it).length ≤ 6 ∧ ∀ y ∈ wordsD it, y.length ≤ 8 := by
  have := item_w h
  cases this with
  | d s x as h1 h2 h3 h4 =>
    rw [words_d]
    refine ⟨by simp only [List.length_cons]; omega, fun y hy => ?_⟩
    rcases List.mem_cons.mp hy with rfl | hy
    · decide
    rcases List.mem_cons.mp hy with rfl | hy
    · exact (isName_len h1).2
    rcases List.mem_cons.mp hy with rfl | hy
    · exact (isName_len h2).2
    · exact (isName_len (h4 y hy)).2
  | i s as a b h1 h3 h4 =>
    rw [words_i]
    refine ⟨by simp only [List.length_cons]; omega, fun y hy => ?_⟩
    rcases List.mem_cons.mp hy with rfl | hy
    · decide
    rcases List.mem_cons.mp hy with rfl | hy
    · exact (isName_len h1).2
    · exact (isName_len (h4 y hy)).2
  | w s as a h1 h3 h4 =>
    rw [words_w]
    refine ⟨by simp only [List.length_cons]; omega, fun y hy => ?_⟩
    rcases List.mem_cons.mp hy with rfl | hy
    · decide
    rcases List.mem_cons.mp hy with rfl | hy
    · exact (isName_len h1).2
    · exact (isName_len (h4 y hy)).2
theorem bodies_d (s x : Str) (as : List PD) : bodiesD (.tuple [.str "do", .str s, .str x, .tuple as]) = [] := by
  show (if (Str.ofString "do") = Str.ofString "do" then (_ : List PD) else _) = _
  rw [if_pos rfl]
theorem bodies_i (s : Str) (as : List PD) (a b : PD) : bodiesD (.tuple [.str "if", .str s, .tuple as, a, b]) = [a, b] := by
  show (if (Str.ofString "if") = Str.ofString "do" then (_ : List PD) else _) = _
  rw [if_neg (by decide)]
  rfl
theorem bodies_w (s : Str) (as : List PD) (a : PD) : bodiesD (.tuple [.str "while", .str s, .tuple as, a]) = [a] := by
  show (if (Str.ofString "while") = Str.ofString "do" then (_ : List PD) else _) = _
  rw [if_neg (by decide)]
  rfl
theorem else_len {L : PD → List Str} {b : PD} : (if isE b = false then ("else" : Str) :: L b else [] : List Str).length ≤ 1 + (L b).length := by
  split
  · rw [List.length_cons]; omega
  · simp
theorem flatMap_le2 {α β γ : Type} {f : α → List β} {g : α → List γ} {c : Nat} : ∀ (ds : List α), (∀ d ∈ ds, (f d).length ≤ c * (g d).length) → (ds.flatMap f).length ≤ c * (ds.flatMap g).length
  | [], _ => by simp
  | d :: r, h => by
    rw [List.flatMap_cons, List.length_append, List.flatMap_cons, List.length_append, Nat.mul_add]
    have h1 := h d List.mem_cons_self
    have h2 := flatMap_le2 r fun e he => h e (List.mem_cons_of_mem _ he)
    omega
theorem linesD_le : ∀ (n : Nat) {d : PD}, isBodyD n d = true → (linesD (n + 1) d).length ≤ 3 * (sitesD (n + 1) d).length
  | 0, d, h => by
    obtain ⟨ds, rfl, _, h0, _⟩ := isBodyD_tup h
    rw [h0 rfl]
    simp [linesD, tupD]
  | n + 1, d, h => by
    obtain ⟨ds, rfl, hl, _, h1⟩ := isBodyD_tup h
    rw [sitesD_succ, linesD_succ]
    refine flatMap_le2 ds fun e he => ?_
    obtain ⟨hi, hbs⟩ := okIt_item (List.all_eq_true.mp (h1 n rfl) e he)
    have := item_w hi
    unfold itSites
    cases this with
    | d s x as h1 h2 h3 h4 => rw [lines_d]; simp only [List.length_cons, List.length_nil]; omega
    | i s as a b h1 h3 h4 =>
      rw [bodies_i] at hbs ⊢
      rw [lines_i]
      have ha := linesD_le n (hbs a (by simp))
      have hb := linesD_le n (hbs b (by simp))
      have he := else_len (L := linesD (n + 1)) (b := b)
      simp only [List.length_cons, List.length_append, List.flatMap_cons, List.flatMap_nil, List.length_nil] at he ⊢
      omega
    | w s as a h1 h3 h4 =>
      rw [bodies_w] at hbs ⊢
      rw [lines_w]
      have ha := linesD_le n (hbs a (by simp))
      simp only [List.length_cons, List.length_append, List.flatMap_cons, List.flatMap_nil, List.length_nil]
      omega
theorem linesD_len : ∀ (n : Nat) {d : PD}, isBodyD n d = true → ∀ y ∈ linesD (n + 1) d, y.length ≤ 54
  | 0, d, h => by
    obtain ⟨ds, rfl, _, h0, _⟩ := isBodyD_tup h
    rw [h0 rfl]
    intro y hy
    cases hy
  | n + 1, d, h => by
    obtain ⟨ds, rfl, hl, _, h1⟩ := isBodyD_tup h
    rw [linesD_succ]
    intro y hy
    obtain ⟨e, he, hy⟩ := List.mem_flatMap.mp hy
    obtain ⟨hi, hbs⟩ := okIt_item (List.all_eq_true.mp (h1 n rfl) e he)
    have hw := words_le hi
    have hsp := spc_len _ hw.1 hw.2
    have := item_w hi
    cases this with
    | d s x as h1 h2 h3 h4 =>
      rw [lines_d] at hy
      rw [words_d] at hsp
      rw [List.mem_singleton.mp hy]
      exact hsp
    | i s as a b h1 h3 h4 =>
      rw [bodies_i] at hbs
      rw [lines_i] at hy
      rw [words_i] at hsp
      rcases List.mem_cons.mp hy with rfl | hy
      · exact hsp
      rcases List.mem_append.mp hy with hy | hy
      · exact linesD_len n (hbs a (by simp)) y hy
      rcases List.mem_append.mp hy with hy | hy
      · split at hy
        · rcases List.mem_cons.mp hy with rfl | hy
          · decide
          · exact linesD_len n (hbs b (by simp)) y hy
        · cases hy
      · rw [List.mem_singleton.mp hy]; decide
    | w s as a h1 h3 h4 =>
      rw [bodies_w] at hbs
      rw [lines_w] at hy
      rw [words_w] at hsp
      rcases List.mem_cons.mp hy with rfl | hy
      · exact hsp
      rcases List.mem_append.mp hy with hy | hy
      · exact linesD_len n (hbs a (by simp)) y hy
      · rw [List.mem_singleton.mp hy]; decide
theorem sum_le {ws : List Str} {c : Nat} (hl : ∀ y ∈ ws, y.length ≤ c) : (ws.map (·.length)).sum ≤ ws.length * c := by
  induction ws with
  | nil => simp
  | cons y r ih =>
    rw [List.map_cons, List.sum_cons, List.length_cons, Nat.succ_mul]
    have := hl y List.mem_cons_self
    have := ih fun z hz => hl z (List.mem_cons_of_mem _ hz)
    omega
theorem joinB {ws : List Str} (h : ws.length ≤ 6) (hl : ∀ y ∈ ws, y.length ≤ 8) : (ws.map (·.length)).sum + ws.length * (Str.ofString " ").length ≤ 16777216 := by
  have h1 := sum_le hl
  have h3 : (Str.ofString " ").length = 1 := by decide
  rw [h3]
  omega
end MH
end
section
set_option Elab.async false
set_option linter.all false
set_option maxRecDepth 100000
set_option maxHeartbeats 2000000
namespace MH
open PySem PySem.Spec PyProof.Rows L2
local macro_rules | `(tactic| walk_at "go") => `(tactic| repeat (first
  | with_reducible refine i_seq ?_ | with_reducible refine i_ifS ?_ | with_reducible refine i_ret ?_ | with_reducible refine i_drop ?_ | with_reducible refine i_asg ?_ | with_reducible refine i_name ?_
  | with_reducible refine i_next ?_ | with_reducible refine i_var (by with_unfolding_all exact rfl) ?_ | with_reducible refine i_c ?_ | with_reducible refine i_cons ?_ | with_reducible refine i_nil ?_ | with_reducible refine i_cb ?_
  | with_reducible refine i_op ?_ | with_reducible refine i_un ?_ | with_reducible refine i_call ?_ | with_reducible refine i_test ?_ | with_reducible refine i_b ?_ | with_reducible refine i_bl ?_ | with_reducible refine i_and ?_ | with_reducible refine i_or ?_
  | with_reducible refine i_not ?_ | with_reducible refine i_andV ?_ | with_reducible refine i_orV ?_ | with_reducible refine i_notV ?_ | with_reducible refine i_if ?_ | with_reducible refine i_chain ?_ | with_reducible refine i_tup ?_ | with_reducible refine i_lst ?_
  | with_reducible refine i_sl ?_ | with_reducible refine i_part ?_ | with_reducible refine i_nopart ?_ | with_reducible refine i_int ?_ | with_reducible refine i_bm ?_ | with_reducible refine i_bm0 ?_ | with_reducible refine i_I0 ?_ | with_reducible refine i_lc ?_ | with_reducible refine i_disp ?_ | with_reducible refine i_pairsC ?_ | with_reducible refine i_pairsN ?_ | with_reducible refine i_dget2 ?_ | with_reducible refine i_gsub ?_ | with_reducible refine i_raiseB ?_ | with_reducible refine i_make ?_ | with_reducible refine i_gcons ?_ | with_reducible refine i_gnil ?_ | with_reducible refine i_enum ?_ | with_reducible refine i_isN ?_ | with_reducible refine i_notN ?_ | with_reducible refine i_fld ?_ | with_reducible refine i_sfld ?_ | with_reducible refine i_meth ?_ | with_reducible refine i_rU ?_ | with_reducible refine i_dputN ?_ | with_reducible refine i_dput ?_ | with_reducible refine i_dget ?_ | with_reducible refine i_rng1 ?_ | with_reducible refine i_dinP ?_ | with_reducible refine i_raiseA ?_ | with_reducible refine i_lenSetS ?_ | with_reducible refine i_for ?_ | with_reducible refine i_yes ?_ | with_reducible refine i_eqS ?_ | with_reducible refine i_neS ?_ | with_reducible refine i_eqI ?_ | with_reducible refine i_neI ?_
  | with_reducible refine i_retN ?_ | with_reducible refine i_brk ?_ | with_reducible refine i_cont ?_ | with_reducible refine i_par ?_ | with_reducible refine i_par3 ?_ | with_reducible refine i_two ?_ | with_reducible refine i_three ?_
  | with_reducible refine i_itup ?_ | with_reducible refine i_ilist ?_ | with_reducible refine i_istr ?_ | with_reducible refine i_str ?_ | with_reducible refine i_m1 ?_ | with_reducible refine i_anystr ?_
  | with_reducible refine iteT ?_ | with_reducible refine iteF ?_))
section
variable {P : Program} {w : World} {K : Fg} {mg : Str → Option Value} {base : Heap}
def spPBody : Sp := fun vs H Q _ => ∃ v d, vs = [v] ∧ Dt K H v d ∧ (noL d = true ∨ d = .list []) ∧ ∀ H', Same H H' → Q (.bl (isPBodyD d)) H'
theorem k_is_program_body (T : Tx K mg) : Keeps P w K mg base CX0 9 "is_program_body" ["thing"] (spPBody (K := K)) := T.kp_is_program_body fun fd F => by
  refine F.ok sc_is_program_body (fun vs H Q E h => ?_) (fun cdv A outer s H vs Q E hr h => ?_)
  · obtain ⟨v, d, rfl, _⟩ := h
    rfl
  · obtain ⟨v, d, rfl, hd, hn, q⟩ := h
    refine ⟨_, PSs.nox (pss_cons (ps_if (pt_not (pt_val (pe_k (k_is_body T 4) (hr.mono (by omega)) pass0 (pa_cons (pv 0) (pa_cons (pe_gi T.c_DEEP) pa_nil))))) (pss_one (ps_ret pe_bl)) pss_nil)
      (pss_cons (ps_set (i := 1) sc_is_program_body.nd rfl (by first | exact Or.inl rfl | exact Or.inr rfl) (pe_k (k_sites_in T 4) (hr.mono (by omega)) pass0 (pa_cons (pv 0) pa_nil)))
      (pss_one (ps_ret (pe_and (pe_cmpR op_le (pe_callB call_lenS (by rfl) T.b_len (by decide +kernel) (pa_cons (pv 1) pa_nil)) (pe_gi T.c_SITES) (nomark _)) (pe_one (pe_cmpR op_eq (pe_lenSetS rfl (by rfl) T.b_len (by rfl) T.b_set (pv 1)) (pe_callB call_lenS (by rfl) T.b_len (by decide +kernel) (pa_cons (pv 1) pa_nil)) (nomark _)))))))), ?_⟩
    walk_at "go"
    refine ⟨v, d, rfl, hd, hn, fun H1 s1 => ?_⟩
    walk_at "go"
    cases hb : isBodyD 4 d with
    | false =>
      have e : isPBodyD d = false := by
        unfold isPBodyD
        rw [hb]
        rfl
      rw [e] at q
      refine iteT ?_
      walk_at "go"
      exact q H1 s1
    | true =>
      have e : isPBodyD d = (decide ((sitesD 5 d).length ≤ 40) && decide (sitesD 5 d).Nodup) := by
        unfold isPBodyD
        rw [hb]
        rfl
      rw [e] at q
      refine iteF ?_
      walk_at "go"
      refine ⟨v, d, rfl, hd.same s1, hb, by decide, fun a H2 ha s2 hl => ?_⟩
      have hl : H2 a = some (.lst ((sitesD 5 d).map V.str)) := hl
      walk_at "go"
      refine rd_lenL hl ?_
      walk_at "go"
      rw [List.length_map]
      refine ifb (fun e1 => ?_) (fun e1 => ?_)
      · have e1 : (sitesD 5 d).length ≤ 40 := by have := of_decide_eq_true e1; omega
        rw [decide_eq_true e1, Bool.true_and] at q
        walk_at "go"
        refine ⟨a, _, rfl, SqL.of hl, by omega, ?_⟩
        walk_at "go"
        refine rd_lenL hl ?_
        walk_at "go"
        rw [List.length_map]
        have e2 : decide (((metS (sitesD 5 d)).length : Int) = ((sitesD 5 d).length : Int)) = decide (sitesD 5 d).Nodup := by
          rw [← metS_all]
          exact decide_eq_decide.mpr ⟨fun z => by omega, fun z => by omega⟩
        rw [e2]
        exact q H2 (s1.trans s2)
      · have e1 : ¬ (sitesD 5 d).length ≤ 40 := by have := of_decide_eq_false e1; omega
        rw [decide_eq_false e1, Bool.false_and] at q
        exact q H2 (s1.trans s2)
def okL : PyData → Prop
  | .tuple ds => ∀ e ∈ ds, noL e = true ∨ e = .list []
  | _ => True
def spProg : Sp := fun vs H Q _ => ∃ v d, vs = [v] ∧ Dt K H v d ∧ okL d ∧ ∀ H', Same H H' → Q (.bl (isProgD d)) H'
theorem k_is_program (T : Tx K mg) : Keeps P w K mg base CX0 10 "is_program" ["thing"] (spProg (K := K)) := T.kp_is_program fun fd F => by
  refine F.ok sc_is_program (fun vs H Q E h => ?_) (fun cdv A outer s H vs Q E hr h => ?_)
  · obtain ⟨v, d, rfl, _⟩ := h
    rfl
  · obtain ⟨v, d, rfl, hd, hn, q⟩ := h
    refine ⟨_, PSs.nox (pss_cons (ps_if (PW.pt (pw_or (pt_not (pt_val (pe_callB call_isi (by rfl) T.b_isinstance (by decide +kernel) (pa_cons (pv 0) (pa_cons (pe_ty (T := "tuple") T.b_tuple) pa_nil))))) (pw_or (pt_cmpR op_ne (pe_callB call_lenS (by rfl) T.b_len (by decide +kernel) (pa_cons (pv 0) pa_nil)) pe_int (nomark _)) (pw_or1 (pt_not (pt_val (pe_callB call_isi (by rfl) T.b_isinstance (by decide +kernel) (pa_cons (pe_ix ix_tup (pv 0) pe_int (fun _ _ => rfl)) (pa_cons (pe_ty (T := "str") T.b_str) pa_nil))))))))) (pss_one (ps_ret pe_bl)) pss_nil)
      (pss_one (ps_ret (pe_and (pe_cmpR op_eq (pe_ix ix_tup (pv 0) pe_int (fun _ _ => rfl)) pe_str (nomark _)) (pe_one (pe_k (k_is_program_body T) (hr.mono (by omega)) pass0 (pa_cons (pe_ix ix_tup (pv 0) pe_int (fun _ _ => rfl)) pa_nil))))))), ?_⟩
    walk_at "go"
    refine rd_isi hd (kit_tuple d) ?_
    walk_at "go"
    cases d with
    | none => exact iteT (iteT (q H (Same.refl H)))
    | bool b => exact iteT (iteT (q H (Same.refl H)))
    | int i => exact iteT (iteT (q H (Same.refl H)))
    | str x => exact iteT (iteT (q H (Same.refl H)))
    | list xs => exact iteT (iteT (q H (Same.refl H)))
    | dict xs => exact iteT (iteT (q H (Same.refl H)))
    | tuple ds =>
      refine iteF ?_
      walk_at "go"
      refine rd_lenT hd ?_
      walk_at "go"
      match ds, hd, hn, q with
      | [], hd, hn, q => exact iteT (iteT (q H (Same.refl H)))
      | [_], hd, hn, q => exact iteT (iteT (by cases ‹PyData› <;> exact q H (Same.refl H)))
      | _ :: _ :: _ :: _, hd, hn, q => 
        rename_i d0 d1 d2 r
        have e : isProgD (.tuple (d0 :: d1 :: d2 :: r)) = false := by cases d0 <;> rfl
        rw [e] at q
        rw [show (!decide ((((d0 :: d1 :: d2 :: r).length : Nat) : Int) = 2)) = true by simp only [List.length_cons]; rw [decide_eq_false (by omega)]; rfl]
        exact iteT (iteT (q H (Same.refl H)))
      | [d0, d1], hd, hn, q =>
        refine iteF ?_
        walk_at "go"
        refine rd_ix hd (n := 0) rfl rfl (fun u0 hu0 => ?_)
        walk_at "go"
        refine rd_isi hu0 (kit_str d0) ?_
        walk_at "go"
        cases d0 with
        | none => exact iteT (q _ (Same.refl H))
        | bool b => exact iteT (q _ (Same.refl H))
        | int i => exact iteT (q _ (Same.refl H))
        | list xs => exact iteT (q _ (Same.refl H))
        | dict xs => exact iteT (q _ (Same.refl H))
        | tuple xs => exact iteT (q _ (Same.refl H))
        | str x =>
          refine iteF ?_
          walk_at "go"
          refine rd_ix hd (n := 0) rfl rfl (fun u0 hu0 => ?_)
          obtain ⟨rfl, hx⟩ := hu0.strI
          walk_at "go"
          have e : isProgD (.tuple [.str x, d1]) = (decide (x = "program") && isPBodyD d1) := rfl
          rw [e] at q
          refine ifb (fun e1 => ?_) (fun e1 => ?_)
          · have e1 : decide (x = "program") = true := e1
            rw [e1, Bool.true_and] at q
            walk_at "go"
            refine rd_ix hd (n := 1) rfl rfl (fun u1 hu1 => ?_)
            walk_at "go"
            exact ⟨u1, d1, rfl, hu1, hn d1 (by simp), q⟩
          · have e1 : decide (x = "program") = false := e1
            rw [e1, Bool.false_and] at q
            exact q H (Same.refl H)
end
end MH
end
section
set_option Elab.async false
set_option linter.all false
set_option maxRecDepth 100000
/-! engine: raise, and defs that let it out -/
namespace MH
open PySem PySem.Spec PyProof.Rows L2
section
variable {X : Cx}
def tRaiseA (C : Addr) (W : WX) (ta : TA) : TS := fun _ σ H => ta σ H fun vs H1 => vs.length ≤ sizeLine ∧ W (.ref C) none σ H1
theorem i_raiseA {C : Addr} {W : WX} {ta : TA} {D : Ends} {σ : L2.St} {H : Hp} (h : ta σ H fun vs H1 => vs.length ≤ sizeLine ∧ W (.ref C) none σ H1) : tRaiseA C W ta D σ H := h
theorem ps_raiseA {C : Addr} {W : WX} {x : Str} {p pos pos2 : Pos} {e : Expr} {es : List Expr} {t : TA} (hc : X.calm = true) (tk : Takes X W) (f : PySem.W.excIn X.K C He.veBase "ValueError.__new__" = true ∧ PySem.W.keepIn X.K (.ref C) = true ∧ PySem.W.subIn X.K (.ref C) (.type "BaseException") = some true ∧ PySem.W.typeIn X.K (.ref C) = some (.type "type"))
    (gC : X.mg x = some (.ref C)) (hg : Gl X x) (ha : PA X (e :: es) t) (hdb : (x == ("__debug__" : Str)) = false := by decide)
    (he : starEach (e :: es) X.env = (false, eval e X.env) :: starEach es X.env := by rfl) (hpl : (backTo pos (starEach es X.env)).any (·.1) = false := by rfl) : PS X (.Raise (some (.Call (.Name x p) (e :: es) [] pos)) none pos2) (tRaiseA C W t) :=
  ps_raise hc tk (pmk_ownA PySem.F.excBase_ValueError f.1 gC f.2.1 (raises_own f.2.2.1 f.2.2.2) hg ha hdb he hpl)
end
theorem le1 {v : V} : [v].length ≤ sizeLine := by
  show 1 ≤ sizeLine
  decide
theorem ift {b : Bool} {A B : Prop} (e : b = true) (h : A) : if b = true then A else B := by
  rw [if_pos e]
  exact h
theorem ife {b : Bool} {A B : Prop} (e : b = false) (h : B) : if b = true then A else B := by
  subst e
  exact iteF h
theorem rd_catT {K : Fg} {H : Hp} {x y : V} {ds es : List PyData} {Q : VK} (h : Dt K H x (.tuple ds)) (h' : Dt K H y (.tuple es)) (hl : ds.length + es.length ≤ sizeLine) (q : ∀ u H', Same H H' → Dt K H' u (.tuple (ds ++ es)) → Q u H') : rCatA K x y H Q := by
  obtain ⟨a, xs, rfl, h1, h2⟩ := h.ref
  obtain ⟨b, ys, rfl, k1, k2⟩ := h'.ref
  refine ⟨a, b, xs, ys, rfl, rfl, h1, k1, by rw [h2.length, k2.length]; exact hl, fun e => ?_, fun _ e => ?_, fun _ _ p hp => ?_⟩
  · subst e
    cases h2
    exact q _ H (Same.refl H) (.tup k1 k2)
  · subst e
    cases k2
    refine q _ H (Same.refl H) ?_
    rw [List.append_nil]
    exact .tup h1 h2
  · exact q _ _ (sameNew hp) (.tup (SqT.of upd_same) ((h2.append k2).mono (StT.new hp)))
theorem noLs_strs : ∀ (as : List Str), noLs (as.map PyData.str) = true
  | [] => rfl
  | a :: r => by
    rw [List.map_cons]
    unfold noLs
    rw [noLs_strs r]
    rfl
theorem noLs_all : ∀ {ds : List PyData}, (∀ d ∈ ds, noL d = true) → noLs ds = true
  | [], _ => rfl
  | d :: r, h => by
    unfold noLs
    rw [h d List.mem_cons_self, noLs_all fun e he => h e (List.mem_cons_of_mem _ he)]
    rfl
theorem noL_tup {ds : List PyData} (h : noLs ds = true) : noL (.tuple ds) = true := by
  unfold noL
  exact h
theorem noL_body : ∀ (n : Nat) {d : PyData}, isBodyD n d = true → noL d = true
  | 0, d, h => by
    obtain ⟨ds, rfl, _, h0, _⟩ := isBodyD_tup h
    rw [h0 rfl]
    rfl
  | n + 1, d, h => by
    obtain ⟨ds, rfl, hl, _, h1⟩ := isBodyD_tup h
    refine noL_tup (noLs_all fun e he => ?_)
    obtain ⟨hi, hbs⟩ := okIt_item (List.all_eq_true.mp (h1 n rfl) e he)
    have := item_w hi
    cases this with
    | d s x as h1 h2 h3 h4 =>
      refine noL_tup (noLs_all fun z hz => ?_)
      simp only [List.mem_cons, List.not_mem_nil, or_false] at hz
      rcases hz with rfl | rfl | rfl | rfl
      · rfl
      · rfl
      · rfl
      · exact noL_tup (noLs_strs as)
    | i s as a b h1 h3 h4 =>
      rw [bodies_i] at hbs
      refine noL_tup (noLs_all fun z hz => ?_)
      simp only [List.mem_cons, List.not_mem_nil, or_false] at hz
      rcases hz with rfl | rfl | rfl | rfl | rfl
      · rfl
      · rfl
      · exact noL_tup (noLs_strs as)
      · exact noL_body n (hbs _ (by simp))
      · exact noL_body n (hbs _ (by simp))
    | w s as a h1 h3 h4 =>
      rw [bodies_w] at hbs
      refine noL_tup (noLs_all fun z hz => ?_)
      simp only [List.mem_cons, List.not_mem_nil, or_false] at hz
      rcases hz with rfl | rfl | rfl | rfl
      · rfl
      · rfl
      · exact noL_tup (noLs_strs as)
      · exact noL_body n (hbs _ (by simp))
/-- a list that a def grows: still there, all else as before -/
structure Grown (K : Fg) (H0 H1 : Hp) (p : Addr) (xs : List V) (H : Hp) : Prop where
  s : Same H0 H
  t : StT K H1 H
  l : H p = some (.lst xs)
theorem Grown.step {K : Fg} {H0 H1 H H' : Hp} {p : Addr} {xs : List V} (g : Grown K H0 H1 p xs H) (s : Same H H') : Grown K H0 H1 p xs H' := ⟨g.s.trans s, g.t.trans (StT.same s), s _ _ g.l⟩
theorem Grown.put {K : Fg} {H0 H1 H : Hp} {p : Addr} {xs ys : List V} (g : Grown K H0 H1 p xs H) (h : H0 p = none) : Grown K H0 H1 p ys (upd H p (.lst ys)) := ⟨samePut g.s h, g.t.trans (StT.lst g.l), upd_same⟩
theorem Grown.new {K : Fg} {H : Hp} {p : Addr} {xs : List V} (h : H p = none) : Grown K H (upd H p (.lst xs)) p xs (upd H p (.lst xs)) := ⟨sameNew h, StT.refl, upd_same⟩
theorem none_of {H H' : Hp} {p : Addr} (s : Same H H') (h : H' p = none) : H p = none := by
  cases q : H p with
  | none => rfl
  | some o =>
    rw [s _ _ q] at h
    cases h
theorem Grown.move {K : Fg} {H0 H1 H : Hp} {p q : Addr} {xs ys : List V} (g : Grown K H0 H1 p xs H) (h : H q = none) : Grown K H0 H1 q ys (upd H q (.lst ys)) := ⟨g.s.trans (sameNew h), g.t.trans (StT.new h), upd_same⟩
/-- an item that is no step -/
theorem item_open {m : Nat} {it : PyData} (h : okIt m it = true) (L : PyData → List Str) : (∃ s x as, it = .tuple [.str "do", .str s, .str x, .tuple (as.map PyData.str)] ∧ itLines L it = [spc (("do" : Str) :: s :: x :: as)] ∧ as.length ≤ 3 ∧ (∀ y ∈ (("do" : Str) :: s :: x :: as), y.length ≤ 8)) ∨
    ∃ k s as a rest Es, it = .tuple (.str k :: .str s :: .tuple (as.map PyData.str) :: a :: rest) ∧ k ≠ "do" ∧ isBodyD m a = true ∧ itLines L it = spc (k :: s :: as) :: (L a ++ (Es ++ [("end" : Str)])) ∧ as.length ≤ 3 ∧ (∀ y ∈ k :: s :: as, y.length ≤ 8) ∧
      ((k = "if" ∧ ∃ b, rest = [b] ∧ isBodyD m b = true ∧ Es = if isE b = false then ("else" : Str) :: L b else []) ∨ (k ≠ "if" ∧ Es = [])) := by
  obtain ⟨hi, hbs⟩ := okIt_item h
  have hw := item_w hi
  have hl := (words_le hi).2
  cases hw with
  | d s x as e1 e2 e3 e4 =>
    rw [words_d] at hl
    exact .inl ⟨s, x, as, rfl, lines_d L s x as, e3, hl⟩
  | i s as a b e1 e3 e4 =>
    rw [words_i] at hl
    rw [bodies_i] at hbs
    refine .inr ⟨"if", s, as, a, [b], _, rfl, by decide, hbs a (by simp), lines_i L s as a b, e3, hl, .inl ⟨rfl, b, rfl, hbs b (by simp), rfl⟩⟩
  | w s as a e1 e3 e4 =>
    rw [words_w] at hl
    rw [bodies_w] at hbs
    refine .inr ⟨"while", s, as, a, [], [], rfl, by decide, hbs a (by simp), lines_w L s as a, e3, hl, .inr ⟨by decide, rfl⟩⟩
end MH
end
section
set_option Elab.async false
set_option linter.all false
set_option maxRecDepth 100000
set_option maxHeartbeats 2000000
namespace MH
open PySem PySem.Spec PyProof.Rows L2
local macro_rules | `(tactic| walk_at "go") => `(tactic| repeat (first
  | with_reducible refine i_seq ?_ | with_reducible refine i_ifS ?_ | with_reducible refine i_ret ?_ | with_reducible refine i_drop ?_ | with_reducible refine i_asg ?_ | with_reducible refine i_name ?_
  | with_reducible refine i_next ?_ | with_reducible refine i_var (by with_unfolding_all exact rfl) ?_ | with_reducible refine i_c ?_ | with_reducible refine i_cons ?_ | with_reducible refine i_nil ?_ | with_reducible refine i_cb ?_
  | with_reducible refine i_op ?_ | with_reducible refine i_un ?_ | with_reducible refine i_call ?_ | with_reducible refine i_test ?_ | with_reducible refine i_b ?_ | with_reducible refine i_bl ?_ | with_reducible refine i_and ?_ | with_reducible refine i_or ?_
  | with_reducible refine i_not ?_ | with_reducible refine i_andV ?_ | with_reducible refine i_orV ?_ | with_reducible refine i_notV ?_ | with_reducible refine i_if ?_ | with_reducible refine i_chain ?_ | with_reducible refine i_tup ?_ | with_reducible refine i_lst ?_
  | with_reducible refine i_sl ?_ | with_reducible refine i_part ?_ | with_reducible refine i_nopart ?_ | with_reducible refine i_int ?_ | with_reducible refine i_bm ?_ | with_reducible refine i_bm0 ?_ | with_reducible refine i_I0 ?_ | with_reducible refine i_lc ?_ | with_reducible refine i_disp ?_ | with_reducible refine i_pairsC ?_ | with_reducible refine i_pairsN ?_ | with_reducible refine i_dget2 ?_ | with_reducible refine i_gsub ?_ | with_reducible refine i_raiseB ?_ | with_reducible refine i_make ?_ | with_reducible refine i_gcons ?_ | with_reducible refine i_gnil ?_ | with_reducible refine i_enum ?_ | with_reducible refine i_isN ?_ | with_reducible refine i_notN ?_ | with_reducible refine i_fld ?_ | with_reducible refine i_sfld ?_ | with_reducible refine i_meth ?_ | with_reducible refine i_rU ?_ | with_reducible refine i_dputN ?_ | with_reducible refine i_dput ?_ | with_reducible refine i_dget ?_ | with_reducible refine i_rng1 ?_ | with_reducible refine i_dinP ?_ | with_reducible refine i_raiseA ?_ | with_reducible refine i_lenSetS ?_ | with_reducible refine i_for ?_ | with_reducible refine i_yes ?_ | with_reducible refine i_eqS ?_ | with_reducible refine i_neS ?_ | with_reducible refine i_eqI ?_ | with_reducible refine i_neI ?_
  | with_reducible refine i_retN ?_ | with_reducible refine i_brk ?_ | with_reducible refine i_cont ?_ | with_reducible refine i_par ?_ | with_reducible refine i_par3 ?_ | with_reducible refine i_two ?_ | with_reducible refine i_three ?_
  | with_reducible refine i_itup ?_ | with_reducible refine i_ilist ?_ | with_reducible refine i_istr ?_ | with_reducible refine i_str ?_ | with_reducible refine i_m1 ?_ | with_reducible refine i_anystr ?_
  | with_reducible refine iteT ?_ | with_reducible refine iteF ?_))
section
variable {P : Program} {w : World} {K : Fg} {mg : Str → Option Value} {base : Heap}
def spCheck : Sp := fun vs H Q E => ∃ v d, vs = [v] ∧ Dt K H v d ∧ okL d ∧ (isProgD d = true → ∀ H', Same H H' → Q .non H') ∧ (isProgD d = false → ∀ H', Same H H' → E (.ref (He.ga K "BadProgram")) none H')
theorem k_check_program (T : Tx K mg) : Keeps P w K mg base (L2.CX P w) 11 "check_program" ["program"] (spCheck (K := K)) := T.kp_check_program fun fd F => by
  refine F.ok sc_check_program (fun vs H Q E h => ?_) (fun cdv A outer s H vs Q E hr h => ?_)
  · obtain ⟨v, d, rfl, _⟩ := h
    rfl
  · obtain ⟨v, d, rfl, hd, hn, q1, q2⟩ := h
    refine ⟨_, (pss_one (ps_if (pt_not (pt_val (pe_k (k_is_program T) (hr.mono (by omega)) pass0 (pa_cons (pv 0) pa_nil)))) (pss_one (ps_raiseA rfl (takes_of rfl rfl rfl rfl) T.x_BadProgram T.g_BadProgram (by rfl) (pa_cons (pv 0) pa_nil))) pss_nil)), ?_⟩
    walk_at "go"
    refine ⟨v, d, rfl, hd, hn, fun H1 s1 => ?_⟩
    walk_at "go"
    cases hp : isProgD d with
    | true =>
      refine iteF ?_
      walk_at "go"
      exact q1 hp H1 s1
    | false =>
      refine iteT ?_
      walk_at "go"
      exact ⟨le1, q2 hp H1 s1⟩
def spLines (n : Nat) : Sp := fun vs H Q _ => ∃ v d, vs = [v] ∧ Dt K H v d ∧ isBodyD n d = true ∧ n ≤ 4 ∧ ∀ a H', H a = none → Same H H' → H' a = some (.lst ((linesD (n + 1) d).map V.str)) → Q (.ref a) H'
def spLinesP : Nat → Sp
  | 0 => spNo
  | n + 1 => spLines (K := K) n
theorem k_lines_of_step (T : Tx K mg) (n : Nat) (KB : Keeps P w K mg base CX0 (n + 2) "lines_of" ["body"] (spLinesP (K := K) n)) : Keeps P w K mg base CX0 (n + 3) "lines_of" ["body"] (spLines (K := K) n) := T.kp_lines_of fun fd F => by
  refine F.ok sc_lines_of (fun vs H Q E h => ?_) (fun cdv A outer s H vs Q E hr h => ?_)
  · obtain ⟨v, d, rfl, _⟩ := h
    rfl
  · obtain ⟨v, d, rfl, hd, hb, hn4, q⟩ := h
    refine ⟨_, PSs.nox (pss_cons (ps_set (i := 1) sc_lines_of.nd rfl (by first | exact Or.inl rfl | exact Or.inr rfl) (pe_lst pa_nil))
      (pss_cons (ps_for PassesOwn.never rfl (pi_tup (pv 0)) (pg_name (i := 2) sc_lines_of.nd rfl (by first | exact Or.inl rfl | exact Or.inr rfl)) (pss_one (ps_if (pt_cmpR op_eq (pe_ix ix_tup (pv 2) pe_int (fun _ _ => rfl)) pe_str (nomark _)) (pss_one (ps_expr (pe_bm PySem.F.plainAttrs_list PySem.F.slot_list_append PySem.F.type_list_append mt_append (pv 1) (pa_cons (pe_join pe_str (pe_op op_catA (pe_slice sl_tupA (pv 2) po_none (po_some pe_int)) (pe_ix ix_tup (pv 2) pe_int (fun _ _ => rfl)))) pa_nil)))) (pss_cons (ps_expr (pe_bm PySem.F.plainAttrs_list PySem.F.slot_list_append PySem.F.type_list_append mt_append (pv 1) (pa_cons (pe_join pe_str (pe_op op_catA (pe_slice sl_tupA (pv 2) po_none (po_some pe_int)) (pe_ix ix_tup (pv 2) pe_int (fun _ _ => rfl)))) pa_nil)))
      (pss_cons (ps_expr (pe_bm PySem.F.plainAttrs_list PySem.F.slot_list_extend PySem.F.type_list_extend mt_extend (pv 1) (pa_cons (pe_k KB (hr.mono (by omega)) pass0 (pa_cons (pe_ix ix_tup (pv 2) pe_int (fun _ _ => rfl)) pa_nil)) pa_nil)))
      (pss_cons (ps_if (PW.pt (pw_and (pt_cmpR op_eq (pe_ix ix_tup (pv 2) pe_int (fun _ _ => rfl)) pe_str (nomark _)) (pw_and1 (pt_cmpR (op_neP hr.units) (pe_ix ix_tup (pv 2) pe_int (fun _ _ => rfl)) (pe_tup pa_nil) (nomark _))))) (pss_cons (ps_expr (pe_bm PySem.F.plainAttrs_list PySem.F.slot_list_append PySem.F.type_list_append mt_append (pv 1) (pa_cons pe_str pa_nil)))
      (pss_one (ps_expr (pe_bm PySem.F.plainAttrs_list PySem.F.slot_list_extend PySem.F.type_list_extend mt_extend (pv 1) (pa_cons (pe_k KB (hr.mono (by omega)) pass0 (pa_cons (pe_ix ix_tup (pv 2) pe_int (fun _ _ => rfl)) pa_nil)) pa_nil))))) pss_nil)
      (pss_one (ps_expr (pe_bm PySem.F.plainAttrs_list PySem.F.slot_list_append PySem.F.type_list_append mt_append (pv 1) (pa_cons pe_str pa_nil))))))))))
      (pss_one (ps_ret (pv 1))))), ?_⟩
    have hbig := Nat.le_trans (linesD_le n hb) (Nat.mul_le_mul_left 3 (Nat.le_trans (sitesD_le n hb) (siteMax_le hn4)))
    obtain ⟨ds, rfl, hl, h0, h1⟩ := isBodyD_tup hb
    rw [linesD_succ] at q hbig
    walk_at "go"
    refine ⟨by decide, fun p hp => ?_⟩
    walk_at "go"
    have hd1 := hd.same (sameNew (o := .lst []) hp)
    obtain ⟨a, xs, rfl, hx1, hx2⟩ := hd1.ref
    refine ⟨_, rfl, ⟨_, hx1⟩, ?_⟩
    refine forb_data (fun i σ H' => (∃ y, σ = [some (.ref a), some (.ref p), y]) ∧ Grown K H (upd H p (.lst [])) p (((ds.take i).flatMap (itLines (linesD n))).map V.str) H') hx1 hx2 ⟨⟨_, rfl⟩, Grown.new hp⟩ (fun i σ H _ h => h.2.t) (fun i v d σ H2 e hv h => ?_) (fun σ H2 h => ?_)
    · obtain ⟨⟨y, rfl⟩, g⟩ := h
      obtain ⟨m, rfl⟩ : ∃ m, n = m + 1 := by
        cases n with
        | zero => rw [h0 rfl] at e; simp at e
        | succ m => exact ⟨m, rfl⟩
      obtain ⟨hi, hbs⟩ := okIt_item (all_get (h1 m rfl) e)
      have hsp := congrArg List.length (flatMap_split (f := itLines (linesD (m + 1))) e)
      rw [List.length_append, List.length_append] at hsp
      rw [flatMap_take_succ e]
      obtain ⟨hw6, hw8⟩ := words_le hi
      have hiw := item_w hi
      have hpl := fun (l : List V) (H' : Hp) (g' : Grown K H (upd H p (.lst [])) p l H') => (show tyV K "list" (.ref p) H' from .inl ⟨rfl, _, SqL.of g'.l⟩)
      cases hiw with
      | d s x as e1 e2 e3 e4 =>
        rw [words_d] at hw6 hw8
        rw [lines_d] at hsp ⊢
        simp only [List.length_singleton] at hsp
        walk_at "go"
        refine rd_ix hv (n := 0) rfl rfl (fun u hu => ?_)
        obtain ⟨rfl, _⟩ := hu.strI
        walk_at "go"
        refine ift (by decide) ?_
        walk_at "go"
        refine ⟨hpl _ _ g, ?_⟩
        walk_at "go"
        refine rd_slT hv (fun u3 H3 s3 hu3 => ?_)
        rw [show cutD _ none (some 3) = _ from cutD_take _ 3] at hu3
        walk_at "go"
        refine rd_ix (hv.same s3) (n := 3) rfl rfl (fun u4 hu4 => ?_)
        walk_at "go"
        refine rd_catT hu3 hu4 (by rw [List.length_map]; show 3 + as.length ≤ sizeLine; unfold sizeLine; omega) (fun u5 H5 s5 hu5 => ?_)
        have hu5 : Dt K H5 u5 (.tuple ((("do" : Str) :: s :: x :: as).map PyData.str)) := hu5
        obtain ⟨p5, zs, rfl, hz1, hz2⟩ := hu5.ref
        have hz := hz2.strsV
        subst hz
        walk_at "go"
        refine ⟨_, p5, _, rfl, rfl, .inr hz1, joinB hw6 hw8, ?_⟩
        walk_at "go"
        have g5 := (g.step s3).step s5
        refine ⟨p, _, _, rfl, rfl, g5.l, by rw [List.length_map]; unfold sizeLine; omega, ?_⟩
        walk_at "go"
        refine ⟨⟨_, rfl⟩, ?_⟩
        rw [List.map_append]
        exact g5.put hp
      | i s as b c e1 e3 e4 =>
        rw [words_i] at hw6 hw8
        rw [bodies_i] at hbs
        rw [lines_i] at hsp ⊢
        simp only [List.length_cons, List.length_append, List.length_nil] at hsp
        have hb1 := hbs b (by simp)
        have hb2 := hbs c (by simp)
        walk_at "go"
        refine rd_ix hv (n := 0) rfl rfl (fun u hu => ?_)
        obtain ⟨rfl, _⟩ := hu.strI
        walk_at "go"
        refine ife (by decide) ?_
        walk_at "go"
        refine ⟨hpl _ _ g, ?_⟩
        walk_at "go"
        refine rd_slT hv (fun u3 H3 s3 hu3 => ?_)
        rw [show cutD _ none (some 2) = _ from cutD_take _ 2] at hu3
        walk_at "go"
        refine rd_ix (hv.same s3) (n := 2) rfl rfl (fun u4 hu4 => ?_)
        walk_at "go"
        refine rd_catT hu3 hu4 (by rw [List.length_map]; show 2 + as.length ≤ sizeLine; unfold sizeLine; omega) (fun u5 H5 s5 hu5 => ?_)
        have hu5 : Dt K H5 u5 (.tuple ((("if" : Str) :: s :: as).map PyData.str)) := hu5
        obtain ⟨p5, zs, rfl, hz1, hz2⟩ := hu5.ref
        have hz := hz2.strsV
        subst hz
        walk_at "go"
        refine ⟨_, p5, _, rfl, rfl, .inr hz1, joinB hw6 hw8, ?_⟩
        walk_at "go"
        have g5 := (g.step s3).step s5
        refine ⟨p, _, _, rfl, rfl, g5.l, by rw [List.length_map]; unfold sizeLine; omega, ?_⟩
        walk_at "go"
        have g6 := g5.put (ys := List.map V.str (List.flatMap (itLines (linesD (m + 1))) (List.take i ds)) ++ [V.str (spc (("if" : Str) :: s :: as))]) hp
        refine ⟨hpl _ _ g6, ?_⟩
        walk_at "go"
        have hv6 := ((hv.same s3).same s5).mono (StT.lst (ys := List.map V.str (List.flatMap (itLines (linesD (m + 1))) (List.take i ds)) ++ [V.str (spc (("if" : Str) :: s :: as))]) g5.l)
        refine rd_ix hv6 (n := 3) rfl rfl (fun u7 hu7 => ?_)
        walk_at "go"
        refine ⟨u7, b, rfl, hu7, hb1, by omega, fun q1 H8 hq1 s8 hl8 => ?_⟩
        walk_at "go"
        have g8 := g6.step s8
        refine ⟨p, q1, _, _, rfl, rfl, g8.l, hl8, by simp only [List.length_append, List.length_map, List.length_singleton]; unfold sizeLine; omega, ?_⟩
        walk_at "go"
        have g9 := g8.put (ys := (List.map V.str (List.flatMap (itLines (linesD (m + 1))) (List.take i ds)) ++ [V.str (spc (("if" : Str) :: s :: as))]) ++ (linesD (m + 1) b).map V.str) hp
        have hv9 := (hv6.same s8).mono (StT.lst (ys := (List.map V.str (List.flatMap (itLines (linesD (m + 1))) (List.take i ds)) ++ [V.str (spc (("if" : Str) :: s :: as))]) ++ (linesD (m + 1) b).map V.str) g8.l)
        refine rd_ix hv9 (n := 0) rfl rfl (fun u hu => ?_)
        obtain ⟨rfl, _⟩ := hu.strI
        walk_at "go"
        refine ift (by decide) ?_
        walk_at "go"
        refine rd_ix hv9 (n := 4) rfl rfl (fun u10 hu10 => ?_)
        walk_at "go"
        refine ⟨by decide, fun p11 hp11 => ?_⟩
        have s11 := sameNew (o := .tup []) hp11
        obtain ⟨cs, rfl, _⟩ := isBodyD_tup hb2
        refine rd_neE (hu10.same s11) (noLs_tup (noL_body _ hb2)) Dt.empty ?_
        walk_at "go"
        have g11 := g9.step s11
        have hv11 := hv9.same s11
        cases hcs : cs.isEmpty with
        | true =>
          refine iteF ?_
          walk_at "go"
          refine ⟨hpl _ _ g11, ?_⟩
          walk_at "go"
          refine ⟨p, _, _, rfl, rfl, g11.l, by simp only [List.length_append, List.length_map, List.length_singleton]; unfold sizeLine; omega, ?_⟩
          walk_at "go"
          refine ⟨⟨_, rfl⟩, ?_⟩
          rw [if_neg (by rw [show isE (.tuple cs) = cs.isEmpty from rfl, hcs]; simp)]
          simp only [List.map_append, List.map_cons, List.map_nil, List.nil_append]
          have := g11.put (ys := List.map V.str (List.flatMap (itLines (linesD (m + 1))) (List.take i ds)) ++ [V.str (spc (("if" : Str) :: s :: as))] ++ List.map V.str (linesD (m + 1) b) ++ [V.str "end"]) hp
          simpa only [List.append_assoc, List.cons_append, List.nil_append] using this
        | false =>
          refine iteT ?_
          rw [if_pos (show isE (.tuple cs) = false from hcs)] at hsp ⊢
          simp only [List.length_cons] at hsp
          walk_at "go"
          refine ⟨hpl _ _ g11, ?_⟩
          walk_at "go"
          refine ⟨p, _, _, rfl, rfl, g11.l, by simp only [List.length_append, List.length_map, List.length_singleton]; unfold sizeLine; omega, ?_⟩
          walk_at "go"
          have g12 := g11.put (ys := (List.map V.str (List.flatMap (itLines (linesD (m + 1))) (List.take i ds)) ++ [V.str (spc (("if" : Str) :: s :: as))]) ++ (linesD (m + 1) b).map V.str ++ [V.str "else"]) hp
          refine ⟨hpl _ _ g12, ?_⟩
          walk_at "go"
          have hv12 := hv11.mono (StT.lst (ys := (List.map V.str (List.flatMap (itLines (linesD (m + 1))) (List.take i ds)) ++ [V.str (spc (("if" : Str) :: s :: as))]) ++ (linesD (m + 1) b).map V.str ++ [V.str "else"]) g11.l)
          refine rd_ix hv12 (n := 4) rfl rfl (fun u13 hu13 => ?_)
          walk_at "go"
          refine ⟨u13, _, rfl, hu13, hb2, by omega, fun q2 H14 hq2 s14 hl14 => ?_⟩
          walk_at "go"
          have g14 := g12.step s14
          refine ⟨p, q2, _, _, rfl, rfl, g14.l, hl14, by simp only [List.length_append, List.length_map, List.length_singleton]; unfold sizeLine; omega, ?_⟩
          walk_at "go"
          have g15 := g14.put (ys := (List.map V.str (List.flatMap (itLines (linesD (m + 1))) (List.take i ds)) ++ [V.str (spc (("if" : Str) :: s :: as))]) ++ (linesD (m + 1) b).map V.str ++ [V.str "else"] ++ (linesD (m + 1) (.tuple cs)).map V.str) hp
          refine ⟨hpl _ _ g15, ?_⟩
          walk_at "go"
          refine ⟨p, _, _, rfl, rfl, g15.l, by simp only [List.length_append, List.length_map, List.length_singleton]; unfold sizeLine; omega, ?_⟩
          walk_at "go"
          refine ⟨⟨_, rfl⟩, ?_⟩
          have := g15.put (ys := List.map V.str (List.flatMap (itLines (linesD (m + 1))) (List.take i ds)) ++ [V.str (spc (("if" : Str) :: s :: as))] ++ List.map V.str (linesD (m + 1) b) ++ [V.str "else"] ++ (linesD (m + 1) (.tuple cs)).map V.str ++ [V.str "end"]) hp
          simp only [List.map_append, List.map_cons, List.map_nil]
          simpa only [List.append_assoc, List.cons_append, List.nil_append] using this
      | w s as b e1 e3 e4 =>
        rw [words_w] at hw6 hw8
        rw [bodies_w] at hbs
        rw [lines_w] at hsp ⊢
        simp only [List.length_cons, List.length_append, List.length_nil] at hsp
        have hb1 := hbs b (by simp)
        walk_at "go"
        refine rd_ix hv (n := 0) rfl rfl (fun u hu => ?_)
        obtain ⟨rfl, _⟩ := hu.strI
        walk_at "go"
        refine ife (by decide) ?_
        walk_at "go"
        refine ⟨hpl _ _ g, ?_⟩
        walk_at "go"
        refine rd_slT hv (fun u3 H3 s3 hu3 => ?_)
        rw [show cutD _ none (some 2) = _ from cutD_take _ 2] at hu3
        walk_at "go"
        refine rd_ix (hv.same s3) (n := 2) rfl rfl (fun u4 hu4 => ?_)
        walk_at "go"
        refine rd_catT hu3 hu4 (by rw [List.length_map]; show 2 + as.length ≤ sizeLine; unfold sizeLine; omega) (fun u5 H5 s5 hu5 => ?_)
        have hu5 : Dt K H5 u5 (.tuple ((("while" : Str) :: s :: as).map PyData.str)) := hu5
        obtain ⟨p5, zs, rfl, hz1, hz2⟩ := hu5.ref
        have hz := hz2.strsV
        subst hz
        walk_at "go"
        refine ⟨_, p5, _, rfl, rfl, .inr hz1, joinB hw6 hw8, ?_⟩
        walk_at "go"
        have g5 := (g.step s3).step s5
        refine ⟨p, _, _, rfl, rfl, g5.l, by rw [List.length_map]; unfold sizeLine; omega, ?_⟩
        walk_at "go"
        have g6 := g5.put (ys := List.map V.str (List.flatMap (itLines (linesD (m + 1))) (List.take i ds)) ++ [V.str (spc (("while" : Str) :: s :: as))]) hp
        refine ⟨hpl _ _ g6, ?_⟩
        walk_at "go"
        have hv6 := ((hv.same s3).same s5).mono (StT.lst (ys := List.map V.str (List.flatMap (itLines (linesD (m + 1))) (List.take i ds)) ++ [V.str (spc (("while" : Str) :: s :: as))]) g5.l)
        refine rd_ix hv6 (n := 3) rfl rfl (fun u7 hu7 => ?_)
        walk_at "go"
        refine ⟨u7, b, rfl, hu7, hb1, by omega, fun q1 H8 hq1 s8 hl8 => ?_⟩
        walk_at "go"
        have g8 := g6.step s8
        refine ⟨p, q1, _, _, rfl, rfl, g8.l, hl8, by simp only [List.length_append, List.length_map, List.length_singleton]; unfold sizeLine; omega, ?_⟩
        walk_at "go"
        have g9 := g8.put (ys := (List.map V.str (List.flatMap (itLines (linesD (m + 1))) (List.take i ds)) ++ [V.str (spc (("while" : Str) :: s :: as))]) ++ (linesD (m + 1) b).map V.str) hp
        have hv9 := (hv6.same s8).mono (StT.lst (ys := (List.map V.str (List.flatMap (itLines (linesD (m + 1))) (List.take i ds)) ++ [V.str (spc (("while" : Str) :: s :: as))]) ++ (linesD (m + 1) b).map V.str) g8.l)
        refine rd_ix hv9 (n := 0) rfl rfl (fun u hu => ?_)
        obtain ⟨rfl, _⟩ := hu.strI
        walk_at "go"
        refine ife (by decide) ?_
        walk_at "go"
        refine ⟨hpl _ _ g9, ?_⟩
        walk_at "go"
        refine ⟨p, _, _, rfl, rfl, g9.l, by simp only [List.length_append, List.length_map, List.length_singleton]; unfold sizeLine; omega, ?_⟩
        walk_at "go"
        refine ⟨⟨_, rfl⟩, ?_⟩
        have := g9.put (ys := List.map V.str (List.flatMap (itLines (linesD (m + 1))) (List.take i ds)) ++ [V.str (spc (("while" : Str) :: s :: as))] ++ List.map V.str (linesD (m + 1) b) ++ [V.str "end"]) hp
        simp only [List.map_append, List.map_cons, List.map_nil]
        simpa only [List.append_assoc, List.cons_append, List.nil_append] using this
    · obtain ⟨⟨y, rfl⟩, g⟩ := h
      walk_at "go"
      rw [List.take_of_length_le (Nat.le_refl _)] at g
      exact q p H2 hp g.s g.l
end
end MH
end
section
set_option linter.all false
set_option maxRecDepth 100000
/-! the mathematics: a reader of lines -/
namespace MH
open PySem
/-- an open test: its head, its first body where an else was read, the body that grows -/
structure PF where
  head : PD
  fst : Option (List PD)
  top : List PD
/-- a reader: the tests from the inmost one to the outmost one (the last is the program itself), the sites, whether an else was the last line -/
structure PR where
  frames : List PF
  sites : List Str
  fresh : Bool
def kindOf (h : PD) : Str := strD ((tupD h).getD 0 .none)
def closeF (f : PF) : PD := .tuple (tupD f.head ++ (match f.fst with
  | some a => [.tuple a, .tuple f.top]
  | none => if kindOf f.head = "if" then [.tuple f.top, .tuple []] else [.tuple f.top]))
def itemOf (ws : List Str) : PD := .tuple [.str "do", .str (ws.getD 1 Str.empty), .str (ws.getD 2 Str.empty), .tuple ((ws.drop 3).map .str)]
def headOf (ws : List Str) : PD := .tuple [.str (ws.getD 0 Str.empty), .str (ws.getD 1 Str.empty), .tuple ((ws.drop 2).map .str)]
def leastOf (k : Str) : Nat := if k = "do" then 3 else 2
/-- the words are a head's -/
def wordsOk (ws : List Str) : Bool := decide (ws.getD 0 Str.empty = "do" ∨ ws.getD 0 Str.empty = "if" ∨ ws.getD 0 Str.empty = "while") && ((ws.drop 1).all isName && decide (leastOf (ws.getD 0 Str.empty) ≤ ws.length ∧ ws.length ≤ leastOf (ws.getD 0 Str.empty) + 3))
def roomFor (S : PR) (f : PF) (ws : List Str) : Bool := decide (ws.getD 1 Str.empty ∉ S.sites) && (decide (S.sites.length < 40) && (decide (f.top.length < 12) && decide (S.frames.length ≤ 4)))
def elseOk (S : PR) (f : PF) : Bool := decide (kindOf f.head = "if") && (f.fst.isNone && decide (S.frames.length ≤ 4 ∧ S.sites.length < 40))
def stepHead (S : PR) (f : PF) (r : List PF) (ws : List Str) : Option PR :=
  if (wordsOk ws && roomFor S f ws) = true then
    some ⟨if ws.getD 0 Str.empty = "do" then { f with top := f.top ++ [itemOf ws] } :: r else ⟨headOf ws, none, []⟩ :: f :: r, S.sites ++ [ws.getD 1 Str.empty], false⟩
  else none
def stepElse (S : PR) (f : PF) (r : List PF) : Option PR :=
  if elseOk S f = true then some ⟨{ f with fst := some f.top, top := [] } :: r, S.sites, true⟩ else none
def stepEnd (S : PR) : Option PR := match S.frames with
  | f :: g :: r => if S.fresh = true then none else some ⟨{ g with top := g.top ++ [closeF f] } :: r, S.sites, S.fresh⟩
  | _ => none
def stepP (S : PR) (line : Str) : Option PR := match S.frames with
  | [] => none
  | f :: r => if line = "else" then stepElse S f r else if line = "end" then stepEnd S else stepHead S f r (Txt.split line " ")
def startP : PR := ⟨[⟨.none, none, []⟩], [], false⟩
/-- how far one comes, and what stands there -/
def runP : PR → List Str → Nat × PR
  | S, [] => (0, S)
  | S, l :: r => match stepP S l with
    | none => (0, ⟨[], [], false⟩)
    | some S' => ((runP S' r).1 + 1, (runP S' r).2)
/-- what a reader tells of lines: how many lines are right, and the program, if all are -/
def readP (ls : List Str) : Nat × Option PD := match (runP startP ls).2.frames with
  | [f] => (ls.length, some (.tuple [.str "program", .tuple f.top]))
  | _ => ((runP startP ls).1, none)
/-- the outmost test has no head, the others have one -/
def WfF : List PF → Prop
  | [] => False
  | [f] => f.head = .none ∧ f.fst = none
  | f :: g :: r => (∃ k s as, f.head = .tuple [.str k, .str s, .tuple as]) ∧ WfF (g :: r)
theorem WfF.cons {f : PF} {r : List PF} (h : WfF r) (e : ∃ k s as, f.head = .tuple [.str k, .str s, .tuple as]) : WfF (f :: r) := by
  cases r with
  | nil => exact h.elim
  | cons g r => exact ⟨e, h⟩
theorem WfF.alike {f f' : PF} {r : List PF} (h : WfF (f :: r)) (e : f'.head = f.head) (e2 : r = [] → f'.fst = f.fst) : WfF (f' :: r) := by
  cases r with
  | nil => exact ⟨e.trans h.1, (e2 rfl).trans h.2⟩
  | cons g r => exact ⟨by rw [e]; exact h.1, h.2⟩
theorem stepP_wf {S S' : PR} {l : Str} (h : WfF S.frames) (e : stepP S l = some S') : WfF S'.frames := by
  unfold stepP at e
  split at e
  · cases e
  · rename_i f r hS
    rw [hS] at h
    split at e
    · unfold stepElse at e
      split at e
      · rename_i hok
        cases e
        refine WfF.alike (f := f) h rfl fun z => ?_
        subst z
        unfold elseOk at hok
        rw [h.1] at hok
        simp [kindOf, tupD, strD] at hok
        exact absurd hok.1 (by decide)
      · cases e
    · split at e
      · unfold stepEnd at e
        rw [hS] at e
        cases r with
        | nil => cases e
        | cons g r =>
          have e : (if S.fresh = true then none else some (⟨{ g with top := g.top ++ [closeF f] } :: r, S.sites, S.fresh⟩ : PR)) = some S' := e
          split at e
          · cases e
          · cases e
            exact WfF.alike (f := g) h.2 rfl fun _ => rfl
      · unfold stepHead at e
        split at e
        · cases e
          show WfF (if _ then _ else _)
          split
          · exact WfF.alike (f := f) h rfl fun _ => rfl
          · exact WfF.cons h ⟨_, _, _, rfl⟩
        · cases e
end MH
end
section
set_option Elab.async false
set_option linter.all false
set_option maxRecDepth 100000
set_option maxHeartbeats 2000000
/-! engine: head, *rest = list -/
namespace MH
open PySem PySem.Spec PyProof.Rows L2
section
variable {prog : Program} {w : World} {A : Around} {E : Value → Shared → Prop} {s : Shared}
theorem unpack_rest {l : Addr} {x : Value} {r : List Value} {Q : List Value → Shared → Prop} (calm : A.handled = none) (isl : s.heap.IsList l (x :: r).toArray) (few : r.length ≤ 1000)
    (fin : ∀ (h' : Heap) (tk : Nat), (∀ b o, s.heap.get? b = some o → h'.get? b = some o) → Q [x, .ref h'.objs.size] { s with heap := h'.push { cls := .type "list", data := .seq r.toArray }, toks := tk }) :
    wpAny (model prog w) A (unpackItems (.ref l) 2 (some 1)) Q E s := by
  have low : l < s.heap.objs.size := by
    obtain ⟨o, ho, _⟩ := isl
    exact Heap.lt_size ho
  have ne : l ≠ s.heap.objs.size := Nat.ne_of_lt low
  have size : (x :: r).toArray.size = r.length + 1 := by simp
  unfold unpackItems
  refine wpAny_bind ?_
  unfold notIterableAtAll
  refine wpAny_bind (wpAny_specialOf isl.typeIs slot_list_iter.lookup ?_)
  refine wpAny_pure ?_
  simp only [Bool.false_eq_true, if_false]
  refine wpAny_bind (wpAny_holding (wpAny_pyIter_list isl ?_))
  refine wpAny_bind (wpAny_holding (PySem.W.kun_draw ne 1 0 _ _ ⟨_, Heap.get?_push_size _ rfl, rfl, rfl⟩ (isl.push _) (by omega) fun h₁ it₁ same => ?_))
  have isl₁ : h₁.IsList l (x :: r).toArray := (isl.push _).extBut same.extBut ne
  rw [Nat.zero_add] at it₁
  have low₁ : s.heap.objs.size < h₁.objs.size := by
    obtain ⟨o, ho, _⟩ := id it₁
    exact Heap.lt_size ho
  have low₂ : l < h₁.objs.size := by
    obtain ⟨o, ho, _⟩ := id isl₁
    exact Heap.lt_size ho
  have e1 : List.take 1 (List.drop 0 (x :: r).toArray.toList) = [x] := by simp
  rw [e1]
  rw [if_neg (show ¬ ([x].length < 1) by simp)]
  refine wpAny_bind (wpAny_holding (PySem.W.kun_collect (s := { s with heap := h₁ }) (T := "list_iterator") (.inr (.inr (.inl rfl))) (Walks.list (A := A.in1) calm s.heap.objs.size l ne (x :: r).toArray) (fun j u st => st.1.typeIs) (k := 1) (by omega) ⟨it₁, isl₁⟩ low₁ low₂ (fun h₂ tk keep => ?_) (by rw [size]; unfold sizeLine; omega)))
  have e2 : List.drop 1 (x :: r).toArray.toList = r := by simp
  rw [e2]
  show wpAny _ _ (if r.length < 0 then _ else _) _ _ _
  rw [if_neg (by omega)]
  show wpAny _ _ (newList (r.take r.length) >>= fun d => pure ([x] ++ [d] ++ r.drop r.length)) _ _ _
  rw [List.take_length, List.drop_length]
  refine wpAny_bind (wpAny_newList (wpAny_pure ?_) (by unfold sizeLine; omega))
  have k1 : ∀ b o, s.heap.get? b = some o → h₂.get? b = some o := fun b o e => keep b o (Nat.ne_of_lt (Heap.lt_size e)) (same.extBut b o (Nat.ne_of_lt (Heap.lt_size e)) (Heap.get?_push_of_some _ e))
  exact fin h₂ tk k1
end
def gStar (K : Fg) (i j : Nat) : TG := fun v σ H Q => ∃ a x xs, v = .ref a ∧ SqL K H a (x :: xs) ∧ xs.length ≤ 1000 ∧ ∀ p, H p = none → Q ((σ.set i (some x)).set j (some (.ref p))) (upd H p (.lst xs))
section
variable {X : Cx}
theorem pg_star {i j : Nat} {x y : Str} {k : Nat} {p1 p2 p3 pos : Pos} (hc : X.calm = true) (hN : X.N.Nodup) (hi : X.N[i]? = some x) (hj : X.N[j]? = some y) (lx : Loc X.env.scope x) (ly : Loc X.env.scope y)
    (fx : X.fn x = true ∨ X.env.scope.names.lookup x = some .local := by first | exact .inl rfl | exact .inr rfl) (fy : X.fn y = true ∨ X.env.scope.names.lookup y = some .local := by first | exact .inl rfl | exact .inr rfl) :
    PG X (.Tuple [.Name x p1, .Starred (.Name y p2) p3] k pos) (gStar X.K i j) := by
  refine ⟨fun pins s σ H v u Q I r h => ?_⟩
  obtain ⟨a, z, zs, rfl, hq, hl, h⟩ := h
  cases r
  obtain ⟨its, rv, pl, hz⟩ := I.list hq
  cases rv with
  | @cons _ _ zv its' rz rzs =>
    have hlen := rzs.length
    rw [assign_Tuple]
    refine wpAny_bind (wpAny_standAt ?_)
    unfold unpack
    refine wpAny_bind (wpAny_holding ?_)
    show wpAny _ _ (unpackItems (.ref a) 2 (some 1)) _ _ _
    refine unpack_rest (I.ok.hd hc) pl.isList (by omega) fun h' tk keep => ?_
    have I1 : Inv X pins σ H { s with heap := h', toks := tk } := I.kept keep
    have f1 : H h'.objs.size = none := I1.hok.fresh (Nat.le_refl _)
    have I2 : Inv X pins σ (upd H h'.objs.size (.lst zs)) { s with heap := h'.push { cls := .type "list", data := .seq its'.toArray }, toks := tk } := I1.laid (t' := tk) (fun b u e => Heap.get?_push_of_some _ e) (Nat.le_refl _) ⟨by unfold sizeLine; omega, its', 0, rzs, Heap.get?_push_size _ rfl⟩
    exact (pgs_cons (pg_name (pos := p1) hN hi lx fx) (pgs_cons (pg_name (pos := p2) hN hj ly fy) pgs_nil)).run pins _ σ _ _ _ Q I2 (.cons rz (.cons (show RelV (.ref h'.objs.size) (.ref h'.objs.size) from rfl) .nil)) ⟨_, _, rfl, ⟨_, _, rfl, rfl, h _ f1⟩⟩
end
end MH
end
section
set_option Elab.async false
set_option linter.all false
set_option maxRecDepth 100000
set_option maxHeartbeats 2000000
/-! a reader, as it stands in the heap -/
namespace MH
open PySem PySem.Spec PyProof.Rows L2
abbrev Foot := List (Addr × HO)
def Hold (H : Hp) (L : Foot) : Prop := ∀ p ∈ L, H p.1 = some p.2
def Nd (L : Foot) : Prop := (L.map (·.1)).Nodup
theorem Hold.same {H H' : Hp} {L : Foot} (h : Hold H L) (s : Same H H') : Hold H' L := fun p hp => s _ _ (h p hp)
theorem Hold.perm {H : Hp} {L M : Foot} (h : Hold H L) (e : L.Perm M) : Hold H M := fun p hp => h p (e.mem_iff.mpr hp)
theorem Nd.perm {L M : Foot} (h : Nd L) (e : L.Perm M) : Nd M := (e.map _).nodup_iff.mp h
theorem Hold.sub {H : Hp} {L M : Foot} (h : Hold H L) (e : M.Sublist L) : Hold H M := fun p hp => h p (e.subset hp)
theorem Nd.sub {L M : Foot} (h : Nd L) (e : M.Sublist L) : Nd M := List.Nodup.sublist (e.map _) h
theorem Hold.new {H : Hp} {L : Foot} {a : Addr} {o : HO} (h : Hold H L) (e : H a = none) : Hold (upd H a o) ((a, o) :: L) := fun p hp => by
  rcases List.mem_cons.mp hp with rfl | hp
  · exact upd_same
  · exact (sameNew e) _ _ (h p hp)
theorem Nd.new {H : Hp} {L : Foot} {a : Addr} {o : HO} (n : Nd L) (h : Hold H L) (e : H a = none) : Nd ((a, o) :: L) := by
  refine List.nodup_cons.mpr ⟨fun z => ?_, n⟩
  obtain ⟨p, hp, rfl⟩ := List.mem_map.mp z
  rw [h p hp] at e
  cases e
theorem Hold.set {H : Hp} {A B : Foot} {a : Addr} {o o' : HO} (h : Hold H (A ++ (a, o) :: B)) (n : Nd (A ++ (a, o) :: B)) : Hold (upd H a o') (A ++ (a, o') :: B) := fun p hp => by
  have n : ((A ++ (a, o) :: B).map (·.1)).Nodup := n
  rw [List.map_append, List.map_cons, List.nodup_append] at n
  obtain ⟨n1, n2, n3⟩ := n
  rw [List.nodup_cons] at n2
  rcases List.mem_append.mp hp with hp | hp
  · rw [upd_ne (fun z => n3 p.1 (List.mem_map_of_mem hp) a List.mem_cons_self z)]
    exact h p (List.mem_append_left _ hp)
  rcases List.mem_cons.mp hp with rfl | hp
  · exact upd_same
  · have ne : p.1 ≠ a := fun z => n2.1 (List.mem_map.mpr ⟨p, hp, z⟩)
    rw [upd_ne ne]
    exact h p (List.mem_append_right _ (List.mem_cons_of_mem _ hp))
theorem Nd.set {A B : Foot} {a : Addr} {o o' : HO} (n : Nd (A ++ (a, o) :: B)) : Nd (A ++ (a, o') :: B) := by
  have n : ((A ++ (a, o) :: B).map (·.1)).Nodup := n
  show ((A ++ (a, o') :: B).map (·.1)).Nodup
  rw [List.map_append, List.map_cons] at n ⊢
  exact n
/-- an open test in the heap -/
structure FA where
  a : Addr
  hv : V
  els : Option (Addr × List V)
  b : Addr
  xs : List V
def elsL : Option (Addr × List V) → List V
  | some e => [.ref e.1]
  | none => []
def elsF : Option (Addr × List V) → Foot
  | some e => [(e.1, .lst e.2)]
  | none => []
def FA.lst (f : FA) : List V := f.hv :: (elsL f.els ++ [.ref f.b])
def FA.foot (f : FA) : Foot := (f.a, .lst f.lst) :: (f.b, .lst f.xs) :: elsF f.els
structure RA where
  r : Addr
  dx : Addr
  t : Addr
  sd : Addr
  fr : Bool
  fas : List FA
  sites : List Str
def siteK (ss : List Str) : List (Key × V) := ss.map fun x => (.inr x, .bl true)
def RA.ins (C : Addr) (R : RA) : HO := .ins C R.dx [("tests", .ref R.t), ("sites", .ref R.sd), ("is_fresh_else", .bl R.fr)]
def RA.frs (R : RA) : Foot := R.fas.flatMap FA.foot
def RA.foot (C : Addr) (R : RA) : Foot := (R.r, R.ins C) :: (R.t, .lst (R.fas.reverse.map fun f => V.ref f.a)) :: (R.sd, .dK (siteK R.sites)) :: R.frs
def RA.adr (R : RA) : List Addr := R.r :: R.t :: R.sd :: R.frs.map (·.1)
theorem RA.adr_eq (C : Addr) (R : RA) : (R.foot C).map (·.1) = R.adr := rfl
def FrOk (K : Fg) (H : Hp) (f : FA) (p : PF) : Prop := Dt K H f.hv p.head ∧ DtAll K H f.xs p.top ∧ (match f.els, p.fst with
  | none, none => True
  | some e, some ds => DtAll K H e.2 ds
  | _, _ => False)
theorem FrOk.mono {K : Fg} {H H' : Hp} {f : FA} {p : PF} (h : FrOk K H f p) (s : StT K H H') : FrOk K H' f p := by
  obtain ⟨h1, h2, h3⟩ := h
  refine ⟨h1.mono s, h2.mono s, ?_⟩
  revert h3
  cases f.els <;> cases p.fst <;> intro h3
  · trivial
  · exact h3
  · exact h3
  · exact DtAll.mono s h3
inductive FrsOk (K : Fg) (H : Hp) : List FA → List PF → Prop
  | nil : FrsOk K H [] []
  | cons {f : FA} {p : PF} {fs : List FA} {ps : List PF} : FrOk K H f p → FrsOk K H fs ps → FrsOk K H (f :: fs) (p :: ps)
theorem FrsOk.mono {K : Fg} {H H' : Hp} (s : StT K H H') : ∀ {fs : List FA} {ps : List PF}, FrsOk K H fs ps → FrsOk K H' fs ps
  | _, _, .nil => .nil
  | _, _, .cons h t => .cons (h.mono s) (FrsOk.mono s t)
theorem FrsOk.length {K : Fg} {H : Hp} : ∀ {fs : List FA} {ps : List PF}, FrsOk K H fs ps → fs.length = ps.length
  | _, _, .nil => rfl
  | _, _, .cons _ t => congrArg (· + 1) (FrsOk.length t)
/-- the reader at R stands for S -/
structure Rep (K : Fg) (C : Addr) (H : Hp) (R : RA) (S : PR) : Prop where
  hold : Hold H (R.foot C)
  nd : Nd (R.foot C)
  frs : FrsOk K H R.fas S.frames
  sites : R.sites = S.sites
  fresh : R.fr = S.fresh
theorem Rep.same {K : Fg} {C : Addr} {H H' : Hp} {R : RA} {S : PR} (h : Rep K C H R S) (s : Same H H') : Rep K C H' R S := ⟨h.hold.same s, h.nd, h.frs.mono (StT.same s), h.sites, h.fresh⟩
/-- what a method may change -/
structure Mv (K : Fg) (H : Hp) (R : RA) (H' : Hp) (R' : RA) : Prop where
  st : StT K H H'
  off : ∀ b o, H b = some o → b ∉ R.adr → H' b = some o
  new : ∀ b ∈ R'.adr, b ∈ R.adr ∨ H b = none
  r : R'.r = R.r
theorem Mv.same {K : Fg} {H H' : Hp} {R : RA} (s : Same H H') : Mv K H R H' R := ⟨StT.same s, fun b o e _ => s b o e, fun _ h => .inl h, rfl⟩
theorem Mv.trans {K : Fg} {H H1 H2 : Hp} {R R1 R2 : RA} (x : Mv K H R H1 R1) (y : Mv K H1 R1 H2 R2) : Mv K H R H2 R2 := by
  refine ⟨x.st.trans y.st, fun b o e n => y.off b o (x.off b o e n) fun z => ?_, fun b hb => ?_, y.r.trans x.r⟩
  · rcases x.new b z with h | h
    · exact n h
    · rw [h] at e; cases e
  · rcases y.new b hb with h | h
    · exact x.new b h
    · by_cases hR : b ∈ R.adr
      · exact .inl hR
      · refine .inr ?_
        cases q : H b with
        | none => rfl
        | some o =>
          rw [x.off b o q hR] at h
          cases h
section
variable {K : Fg} {C : Addr} {H : Hp} {R : RA} {S : PR}
theorem Rep.ins (h : Rep K C H R S) : H R.r = some (R.ins C) := h.hold (R.r, _) List.mem_cons_self
theorem Rep.tests (h : Rep K C H R S) : H R.t = some (.lst (R.fas.reverse.map fun f => V.ref f.a)) := h.hold (R.t, _) (by simp [RA.foot])
theorem Rep.dict (h : Rep K C H R S) : H R.sd = some (.dK (siteK R.sites)) := h.hold (R.sd, _) (by simp [RA.foot])
theorem Rep.top {f : FA} {r : List FA} (h : Rep K C H R S) (e : R.fas = f :: r) : H f.a = some (.lst f.lst) ∧ H f.b = some (.lst f.xs) := by
  have e1 : (f.a, HO.lst f.lst) ∈ R.frs := by unfold RA.frs; rw [e]; simp [FA.foot]
  have e2 : (f.b, HO.lst f.xs) ∈ R.frs := by unfold RA.frs; rw [e]; simp [FA.foot]
  exact ⟨h.hold (f.a, _) (by simp [RA.foot, e1]), h.hold (f.b, _) (by simp [RA.foot, e2])⟩
/-- the last test, the last body -/
theorem Rep.lastT {f : FA} {r : List FA} (e : R.fas = f :: r) : R.fas.reverse.map (fun f => V.ref f.a) = (r.reverse.map fun f => V.ref f.a) ++ [.ref f.a] := by rw [e]; simp
/-- fresh changes -/
theorem Rep.setFresh (h : Rep K C H R S) (b : Bool) : Rep K C (upd H R.r ({ R with fr := b }.ins C)) { R with fr := b } { S with fresh := b } ∧ Mv K H R (upd H R.r ({ R with fr := b }.ins C)) { R with fr := b } := by
  have st : StT K H (upd H R.r ({ R with fr := b }.ins C)) := StT.put (by rw [h.ins]; trivial) (fun xs e => by rw [h.ins] at e; cases e)
  refine ⟨⟨?_, ?_, h.frs.mono st, h.sites, rfl⟩, st, fun c o e n => ?_, fun c hc => .inl hc, rfl⟩
  · exact Hold.set (A := []) h.hold h.nd
  · exact Nd.set (A := []) h.nd
  · have ne : c ≠ R.r := fun z => n (by rw [z]; exact List.mem_cons_self)
    rw [upd_ne ne]
    exact e
theorem Rep.setSites (h : Rep K C H R S) (ss : List Str) : Rep K C (upd H R.sd (.dK (siteK ss))) { R with sites := ss } { S with sites := ss } ∧ Mv K H R (upd H R.sd (.dK (siteK ss))) { R with sites := ss } := by
  have st : StT K H (upd H R.sd (.dK (siteK ss))) := StT.put (by rw [h.dict]; trivial) (fun xs e => by rw [h.dict] at e; cases e)
  refine ⟨⟨?_, ?_, h.frs.mono st, rfl, h.fresh⟩, st, fun c o e n => ?_, fun c hc => .inl hc, rfl⟩
  · exact Hold.set (A := [(R.r, R.ins C), (R.t, .lst (R.fas.reverse.map fun f => V.ref f.a))]) h.hold h.nd
  · exact Nd.set (A := [(R.r, R.ins C), (R.t, .lst (R.fas.reverse.map fun f => V.ref f.a))]) h.nd
  · have ne : c ≠ R.sd := fun z => n (by rw [z]; simp [RA.adr])
    rw [upd_ne ne]
    exact e
/-- an item more in the last body -/
theorem Rep.addItem {f : FA} {r : List FA} {p : PF} {q : List PF} {v : V} {d : PyData} (h : Rep K C H R S) (e : R.fas = f :: r) (eS : S.frames = p :: q) (hv : Dt K H v d) :
    Rep K C (upd H f.b (.lst (f.xs ++ [v]))) { R with fas := { f with xs := f.xs ++ [v] } :: r } { S with frames := { p with top := p.top ++ [d] } :: q } ∧ Mv K H R (upd H f.b (.lst (f.xs ++ [v]))) { R with fas := { f with xs := f.xs ++ [v] } :: r } := by
  have st : StT K H (upd H f.b (.lst (f.xs ++ [v]))) := StT.lst (h.top e).2
  have ef : R.foot C = [(R.r, R.ins C), (R.t, .lst (R.fas.reverse.map fun f => V.ref f.a)), (R.sd, .dK (siteK R.sites)), (f.a, .lst f.lst)] ++ (f.b, .lst f.xs) :: (elsF f.els ++ r.flatMap FA.foot) := by
    show _ :: _ :: _ :: R.frs = _
    unfold RA.frs
    rw [e]
    simp [FA.foot]
  have eg : ({ R with fas := { f with xs := f.xs ++ [v] } :: r } : RA).foot C = [(R.r, R.ins C), (R.t, .lst (R.fas.reverse.map fun f => V.ref f.a)), (R.sd, .dK (siteK R.sites)), (f.a, .lst f.lst)] ++ (f.b, .lst (f.xs ++ [v])) :: (elsF f.els ++ r.flatMap FA.foot) := by
    rw [e]
    simp [RA.foot, RA.frs, FA.foot, FA.lst, RA.ins]
  have hh := h.hold
  have hn := h.nd
  have hf := h.frs
  rw [ef] at hh hn
  rw [e, eS] at hf
  refine ⟨⟨?_, ?_, ?_, h.sites, h.fresh⟩, st, fun c o e' n => ?_, fun c hc => .inl ?_, rfl⟩
  · rw [eg]
    exact Hold.set hh hn
  · rw [eg]
    exact Nd.set hn
  · cases hf with
    | cons h1 h2 =>
      refine .cons ?_ (h2.mono st)
      obtain ⟨k1, k2, k3⟩ := h1.mono st
      exact ⟨k1, k2.append (.cons (hv.mono st) .nil), k3⟩
  · have ne : c ≠ f.b := fun z => n (by rw [z, ← RA.adr_eq C, ef]; simp)
    rw [upd_ne ne]
    exact e'
  · rw [← RA.adr_eq C, eg] at hc
    rw [← RA.adr_eq C, ef]
    simpa using hc
/-- a test more -/
theorem Rep.push {Hm : Hp} {a b : Addr} {hv : V} {d : PyData} (h : Rep K C H R S) (s : Same H Hm) (ha : H a = none) (hb : H b = none) (ne : a ≠ b) (ma : Hm a = some (.lst [hv, .ref b])) (mb : Hm b = some (.lst [])) (hv' : Dt K Hm hv d) :
    Rep K C (upd Hm R.t (.lst ((R.fas.reverse.map fun f => V.ref f.a) ++ [.ref a]))) { R with fas := ⟨a, hv, none, b, []⟩ :: R.fas } { S with frames := ⟨d, none, []⟩ :: S.frames } ∧
    Mv K H R (upd Hm R.t (.lst ((R.fas.reverse.map fun f => V.ref f.a) ++ [.ref a]))) { R with fas := ⟨a, hv, none, b, []⟩ :: R.fas } := by
  have hm := h.same s
  have st : StT K Hm (upd Hm R.t (.lst ((R.fas.reverse.map fun f => V.ref f.a) ++ [.ref a]))) := StT.lst hm.tests
  have n1 : Nd ((b, .lst []) :: R.foot C) := Nd.new h.nd h.hold hb
  have n2 : Nd ((a, .lst [hv, .ref b]) :: (b, .lst []) :: R.foot C) := by
    refine List.nodup_cons.mpr ⟨fun z => ?_, n1⟩
    rcases List.mem_cons.mp z with z | z
    · exact ne z
    · obtain ⟨p, hp, rfl⟩ := List.mem_map.mp z
      rw [h.hold p hp] at ha
      cases ha
  have h2 : Hold Hm ((a, .lst [hv, .ref b]) :: (b, .lst []) :: R.foot C) := fun p hp => by
    rcases List.mem_cons.mp hp with rfl | hp
    · exact ma
    rcases List.mem_cons.mp hp with rfl | hp
    · exact mb
    · exact hm.hold p hp
  have pm : ([(a, HO.lst [hv, .ref b]), (b, HO.lst [])] ++ ([(R.r, R.ins C), (R.t, .lst (R.fas.reverse.map fun f => V.ref f.a)), (R.sd, .dK (siteK R.sites))] ++ R.frs)).Perm ([(R.r, R.ins C), (R.t, .lst (R.fas.reverse.map fun f => V.ref f.a)), (R.sd, .dK (siteK R.sites))] ++ ([(a, HO.lst [hv, .ref b]), (b, HO.lst [])] ++ R.frs)) := List.perm_append_comm_assoc _ _ _
  have h3 := h2.perm pm
  have n3 := n2.perm pm
  have eg : ({ R with fas := ⟨a, hv, none, b, []⟩ :: R.fas } : RA).foot C = [(R.r, R.ins C)] ++ (R.t, .lst ((R.fas.reverse.map fun f => V.ref f.a) ++ [.ref a])) :: ((R.sd, .dK (siteK R.sites)) :: ([(a, HO.lst [hv, .ref b]), (b, HO.lst [])] ++ R.frs)) := by
    simp [RA.foot, RA.frs, FA.foot, FA.lst, RA.ins, elsF, elsL]
  refine ⟨⟨?_, ?_, ?_, h.sites, h.fresh⟩, (StT.same s).trans st, fun c o e n => ?_, fun c hc => ?_, rfl⟩
  · rw [eg]
    exact Hold.set (A := [(R.r, R.ins C)]) h3 n3
  · rw [eg]
    exact Nd.set (A := [(R.r, R.ins C)]) n3
  · exact .cons ⟨hv'.mono st, .nil, trivial⟩ (hm.frs.mono st)
  · have ne : c ≠ R.t := fun z => n (by rw [z]; simp [RA.adr])
    rw [upd_ne ne]
    exact s _ _ e
  · rw [← RA.adr_eq C, eg] at hc
    simp only [List.map_append, List.map_cons, List.map_nil, List.mem_append, List.mem_cons, List.not_mem_nil, or_false] at hc
    rcases hc with rfl | rfl | rfl | (rfl | rfl) | hc
    · exact .inl (by simp [RA.adr])
    · exact .inl (by simp [RA.adr])
    · exact .inl (by simp [RA.adr])
    · exact .inr ha
    · exact .inr hb
    · exact .inl (by simp only [RA.adr, List.mem_cons]; exact .inr (.inr (.inr hc)))
/-- an else begun -/
theorem Rep.els {Hm : Hp} {f : FA} {r : List FA} {p : PF} {q : List PF} {n : Addr} (h : Rep K C H R S) (e : R.fas = f :: r) (eS : S.frames = p :: q) (hf : f.els = none) (s : Same H Hm) (hn : H n = none) (mn : Hm n = some (.lst [])) :
    Rep K C (upd Hm f.a (.lst [f.hv, .ref f.b, .ref n])) { R with fas := ⟨f.a, f.hv, some (f.b, f.xs), n, []⟩ :: r } { S with frames := { p with fst := some p.top, top := [] } :: q } ∧
    Mv K H R (upd Hm f.a (.lst [f.hv, .ref f.b, .ref n])) { R with fas := ⟨f.a, f.hv, some (f.b, f.xs), n, []⟩ :: r } := by
  have hm := h.same s
  have st : StT K Hm (upd Hm f.a (.lst [f.hv, .ref f.b, .ref n])) := StT.lst (hm.top e).1
  have ef : R.foot C = [(R.r, R.ins C), (R.t, .lst (R.fas.reverse.map fun f => V.ref f.a)), (R.sd, .dK (siteK R.sites)), (f.a, .lst f.lst)] ++ (f.b, .lst f.xs) :: r.flatMap FA.foot := by
    show _ :: _ :: _ :: R.frs = _
    unfold RA.frs
    rw [e]
    simp [FA.foot, hf, elsF]
  have n1 : Nd ((n, .lst []) :: R.foot C) := Nd.new h.nd h.hold hn
  have h1 : Hold Hm ((n, .lst []) :: R.foot C) := fun x hx => by
    rcases List.mem_cons.mp hx with rfl | hx
    · exact mn
    · exact hm.hold x hx
  rw [ef] at n1 h1
  have pm : ([(n, HO.lst [])] ++ ([(R.r, R.ins C), (R.t, .lst (R.fas.reverse.map fun f => V.ref f.a)), (R.sd, .dK (siteK R.sites)), (f.a, .lst f.lst)] ++ (f.b, .lst f.xs) :: r.flatMap FA.foot)).Perm ([(R.r, R.ins C), (R.t, .lst (R.fas.reverse.map fun f => V.ref f.a)), (R.sd, .dK (siteK R.sites)), (f.a, .lst f.lst)] ++ ([(n, HO.lst [])] ++ (f.b, .lst f.xs) :: r.flatMap FA.foot)) := List.perm_append_comm_assoc _ _ _
  have h3 := h1.perm pm
  have n3 := n1.perm pm
  have eg : ({ R with fas := ⟨f.a, f.hv, some (f.b, f.xs), n, []⟩ :: r } : RA).foot C = [(R.r, R.ins C), (R.t, .lst (R.fas.reverse.map fun f => V.ref f.a)), (R.sd, .dK (siteK R.sites))] ++ (f.a, .lst [f.hv, .ref f.b, .ref n]) :: ([(n, HO.lst [])] ++ (f.b, .lst f.xs) :: r.flatMap FA.foot) := by
    rw [e]
    simp [RA.foot, RA.frs, FA.foot, FA.lst, RA.ins, elsF, elsL]
  have hfr := hm.frs
  rw [e, eS] at hfr
  refine ⟨⟨?_, ?_, ?_, h.sites, h.fresh⟩, (StT.same s).trans st, fun c o e' nn => ?_, fun c hc => ?_, rfl⟩
  · rw [eg]
    exact Hold.set (A := [(R.r, R.ins C), (R.t, .lst (R.fas.reverse.map fun f => V.ref f.a)), (R.sd, .dK (siteK R.sites))]) h3 n3
  · rw [eg]
    exact Nd.set (A := [(R.r, R.ins C), (R.t, .lst (R.fas.reverse.map fun f => V.ref f.a)), (R.sd, .dK (siteK R.sites))]) n3
  · cases hfr with
    | cons k1 k2 =>
      obtain ⟨j1, j2, j3⟩ := k1.mono st
      exact .cons ⟨j1, .nil, j2⟩ (k2.mono st)
  · have ne : c ≠ f.a := fun z => nn (by rw [z, ← RA.adr_eq C, ef]; simp)
    rw [upd_ne ne]
    exact s _ _ e'
  · rw [← RA.adr_eq C, eg] at hc
    rw [← RA.adr_eq C, ef]
    simp only [List.map_append, List.map_cons, List.map_nil, List.mem_append, List.mem_cons, List.not_mem_nil, or_false] at hc ⊢
    rcases hc with (rfl | rfl | rfl) | rfl | rfl | rfl | hc
    · exact .inl (.inl (.inl rfl))
    · exact .inl (.inl (.inr (.inl rfl)))
    · exact .inl (.inl (.inr (.inr (.inl rfl))))
    · exact .inl (.inl (.inr (.inr (.inr rfl))))
    · exact .inr hn
    · exact .inl (.inr (.inl rfl))
    · exact .inl (.inr (.inr hc))
/-- the last test away -/
theorem Rep.pop {f g : FA} {r : List FA} {p : PF} {q : List PF} (h : Rep K C H R S) (e : R.fas = f :: g :: r) (eS : S.frames = p :: q) :
    Rep K C (upd H R.t (.lst ((g :: r).reverse.map fun f => V.ref f.a))) { R with fas := g :: r } { S with frames := q } ∧ Mv K H R (upd H R.t (.lst ((g :: r).reverse.map fun f => V.ref f.a))) { R with fas := g :: r } := by
  have st : StT K H (upd H R.t (.lst ((g :: r).reverse.map fun f => V.ref f.a))) := StT.lst h.tests
  have ef : R.foot C = [(R.r, R.ins C), (R.t, .lst (R.fas.reverse.map fun f => V.ref f.a)), (R.sd, .dK (siteK R.sites))] ++ (f.foot ++ (g :: r).flatMap FA.foot) := by
    show _ :: _ :: _ :: R.frs = _
    unfold RA.frs
    rw [e]
    simp
  have hh := h.hold
  have hn := h.nd
  rw [ef] at hh hn
  have sb : ([(R.r, R.ins C)] ++ (R.t, .lst (R.fas.reverse.map fun f => V.ref f.a)) :: ((R.sd, .dK (siteK R.sites)) :: (g :: r).flatMap FA.foot)).Sublist ([(R.r, R.ins C), (R.t, .lst (R.fas.reverse.map fun f => V.ref f.a)), (R.sd, .dK (siteK R.sites))] ++ (f.foot ++ (g :: r).flatMap FA.foot)) :=
    List.Sublist.cons_cons _ (List.Sublist.cons_cons _ (List.Sublist.cons_cons _ (List.sublist_append_right _ _)))
  have eg : ({ R with fas := g :: r } : RA).foot C = [(R.r, R.ins C)] ++ (R.t, .lst ((g :: r).reverse.map fun f => V.ref f.a)) :: ((R.sd, .dK (siteK R.sites)) :: (g :: r).flatMap FA.foot) := rfl
  have hf := h.frs
  rw [e, eS] at hf
  refine ⟨⟨?_, ?_, ?_, h.sites, h.fresh⟩, st, fun c o e' n => ?_, fun c hc => .inl ?_, rfl⟩
  · rw [eg]
    exact Hold.set (hh.sub sb) (hn.sub sb)
  · rw [eg]
    exact Nd.set (hn.sub sb)
  · cases hf with
    | cons h1 h2 => exact h2.mono st
  · have ne : c ≠ R.t := fun z => n (by rw [z]; simp [RA.adr])
    rw [upd_ne ne]
    exact e'
  · have hc : c ∈ ([(R.r, R.ins C)] ++ (R.t, HO.lst ((g :: r).reverse.map fun f => V.ref f.a)) :: ((R.sd, .dK (siteK R.sites)) :: (g :: r).flatMap FA.foot)).map (·.1) := hc
    rw [← RA.adr_eq C, ef]
    exact (sb.map (·.1)).subset hc
/-- the last test's own things stand, also where the list of tests is another -/
theorem Rep.popF {f : FA} {r : List FA} {o : HO} (h : Rep K C H R S) (e : R.fas = f :: r) : Hold (upd H R.t o) f.foot := by
  have ef : R.foot C = [(R.r, R.ins C)] ++ (R.t, .lst (R.fas.reverse.map fun f => V.ref f.a)) :: ((R.sd, .dK (siteK R.sites)) :: (f.foot ++ r.flatMap FA.foot)) := by
    show _ :: _ :: _ :: R.frs = _
    unfold RA.frs
    rw [e]
    simp
  have hh := h.hold
  have hn := h.nd
  rw [ef] at hh hn
  have := Hold.set (o' := o) hh hn
  exact fun p hp => this p (by simp [hp])
theorem Rep.out {l : Addr} (h : Rep K C H R S) (e : H l = none) : l ∉ R.adr := fun z => by
  rw [← RA.adr_eq C] at z
  obtain ⟨p, hp, rfl⟩ := List.mem_map.mp z
  rw [h.hold p hp] at e
  cases e
end
end MH
end
section
set_option Elab.async false
set_option linter.all false
set_option maxRecDepth 100000
set_option maxHeartbeats 2000000
/-! engine: methods and fields -/
namespace MH
open PySem PySem.Spec PyProof.Rows L2
structure KeepsM (P : Program) (w : World) (K : Fg) (mg : Str → Option Value) (base : Heap) (CX : CXT) (k : Nat) (C : Addr) (m : Str) (ps : List Str) (sp : Sp) : Prop where
  ex : ∃ f fd, FnOk P w K mg base CX k f fd ps sp ∧ Binds K fd ps [] ∧ Meth K C m f
section
variable {X : Cx} {CX : CXT} {k : Nat} {ps : List Str} {sp : Sp} {E : XK} {C : Addr} {m : Str} {p apos pos : Pos} {o e : Expr} {es : List Expr} {ta : TE} {t : TA}
theorem pe_mm {pl : Sem Bool} (F : KeepsM X.prog X.w X.K X.mg X.base CX k C m ps sp) (c : Cls X.K C) (hr : Room k X.A) (hx : Passes CX X E) (he : PE X o ta) (ha : PA X (e :: es) t)
    (hst : starEach (e :: es) X.env = (false, eval e X.env) :: starEach es X.env := by rfl) (hpl : (backTo pos (starEach es X.env)).any (·.1) = false := by rfl)
    (ht : eval (.Call (.Attribute o m apos) (e :: es) [] pos) X.env = (do
      let ov ← eval o X.env
      standAt apos.atName
      let (f, first) ← holding [ov] (getMethod ov m pl)
      callWith pos f first (backTo pos (starEach (e :: es) X.env)) (backToKw pos (keywordEach [] X.env))) := by rfl) : PE X (.Call (.Attribute o m apos) (e :: es) [] pos) (tMeth C m sp [] E ta t) := by
  obtain ⟨f, fd, h1, h2, h3⟩ := F.ex
  exact pe_meth he c h3 h1 hr h2 .nil hx ha hst hpl ht
theorem pe_mm0 {pl : Sem Bool} (F : KeepsM X.prog X.w X.K X.mg X.base CX k C m ps sp) (c : Cls X.K C) (hr : Room k X.A) (hx : Passes CX X E) (he : PE X o ta)
    (ht : eval (.Call (.Attribute o m apos) [] [] pos) X.env = (do
      let ov ← eval o X.env
      standAt apos.atName
      let (f, first) ← holding [ov] (getMethod ov m pl)
      callWith pos f first (backTo pos (starEach [] X.env)) (backToKw pos (keywordEach [] X.env))) := by rfl) : PE X (.Call (.Attribute o m apos) [] [] pos) (tMeth C m sp [] E ta tNil) := by
  obtain ⟨f, fd, h1, h2, h3⟩ := F.ex
  exact pe_meth0 he c h3 h1 hr h2 .nil hx ht
end
section
variable {K : Fg} {te tv ta : TE} {t : TA} {f m : Str} {σ : L2.St} {H : Hp} {Q : VK} {D : Ends} {C : Addr} {sp : Sp} {dvs : List V} {E : XK}
def rFld (K : Fg) (f : Str) (x : V) (H : Hp) (Q : VK) : Prop := ∃ a C dx fs v, x = .ref a ∧ H a = some (.ins C dx fs) ∧ Cls K C ∧ NoAttr K C f ∧ fs.lookup f = some v ∧ Q v H
theorem i_fld (h : te σ H fun x H1 => rFld K f x H1 Q) : tFld K te f σ H Q := h
def rSetF (K : Fg) (f : Str) (x y : V) (H : Hp) (N : Hp → Prop) : Prop := ∃ a C dx fs, x = .ref a ∧ H a = some (.ins C dx fs) ∧ Cls K C ∧ NoAttr K C f ∧ fs.length < 1000 ∧ N (upd H a (.ins C dx (putF f y fs)))
theorem i_sfld (h : tv σ H fun y H1 => te σ H1 fun x H2 => rSetF K f x y H2 fun H3 => D.nx σ H3) : sFld K te tv f D σ H := h
def rMth (C : Addr) (m : Str) (x : V) (H : Hp) (R : Prop) : Prop := ∃ a dx fs, x = .ref a ∧ H a = some (.ins C dx fs) ∧ fs.lookup m = none ∧ R
theorem i_meth (h : te σ H fun x H1 => rMth C m x H1 (t σ H1 fun vs H2 => sp (x :: (vs ++ dvs)) H2 Q E)) : tMeth C m sp dvs E te t σ H Q := h
theorem i_rU {g : Int → V} {n : Int} (h : Q (g n) H) : rU g (.int n) H Q := ⟨n, rfl, h⟩
theorem rd_ixL {p : Addr} {xs : List V} {i : Int} {v : V} (h : H p = some (.lst xs)) (e : atI xs i = some v) (q : Q v H) : rIxL K (.ref p) (.int i) H Q := ⟨p, xs, i, v, rfl, rfl, SqL.of h, e, q⟩
theorem i_dput {td ty : TE} (h : tv σ H fun v H1 => td σ H1 fun x H2 => ty σ H2 fun y H3 => ∃ a H4, x = .ref a ∧ DPut H3 a y v H4 ∧ D.nx σ H4) : sDPut td ty tv D σ H := h
theorem i_dinP {td ty : TE} (h : ty σ H fun y H1 => td σ H1 fun x H2 => ∃ a o, x = .ref a ∧ DGet H2 a y o ∧ Q (.bl o.isSome) H2) : tDIn ty td σ H Q := h
def rLenD : List V → Hp → VK → Prop := fun xs H Q => ∃ a kvs, xs = [V.ref a] ∧ H a = some (.dK kvs) ∧ Q (.int kvs.length) H
theorem call_lenDk {X : Cx} : CallR X (.builtin "len") rLenD := call_lenD
theorem rd_lenD {a : Addr} {kvs : List (Key × V)} (h : H a = some (.dK kvs)) (q : Q (.int kvs.length) H) : rLenD [.ref a] H Q := ⟨a, kvs, rfl, h, q⟩
theorem valV_siteK : ∀ (ss : List Str) (x : Str), (valV (siteK ss) (.inr x)).isSome = decide (x ∈ ss)
  | [], x => rfl
  | y :: r, x => by
    have ih := valV_siteK r x
    by_cases e : y = x
    · subst e
      rw [siteK, List.map_cons, valV_pos rfl]
      simp
    · rw [siteK, List.map_cons, valV_neg (fun z => e (by injection z))]
      rw [show valV (List.map (fun x => ((Sum.inr x : Key), V.bl true)) r) (.inr x) = valV (siteK r) (.inr x) from rfl, ih]
      exact decide_eq_decide.mpr ⟨fun h => List.mem_cons_of_mem _ h, fun h => by
        rcases List.mem_cons.mp h with h | h
        · exact absurd h.symm e
        · exact h⟩
theorem putK_siteK (ss : List Str) (x : Str) (h : x ∉ ss) : putK (siteK ss) (.inr x) (.bl true) = siteK (ss ++ [x]) := by
  unfold putK
  rw [if_neg]
  · unfold siteK
    rw [List.map_append]
    rfl
  · intro z
    obtain ⟨kv, hk, e⟩ := List.any_eq_true.mp z
    obtain ⟨y, hy, rfl⟩ := List.mem_map.mp hk
    have e := of_decide_eq_true e
    injection e with e
    exact h (e ▸ hy)
theorem siteK_len (ss : List Str) : (siteK ss).length = ss.length := List.length_map ..
end
section
variable {K : Fg} {C : Addr} {H : Hp} {R : RA} {S : PR} {Q : VK} {N : Hp → Prop}
theorem rd_tests (h : Rep K C H R S) (c : Cls K C) (n : NoAttr K C "tests") (q : Q (.ref R.t) H) : rFld K "tests" (.ref R.r) H Q := ⟨R.r, C, R.dx, _, _, rfl, h.ins, c, n, rfl, q⟩
theorem rd_sites (h : Rep K C H R S) (c : Cls K C) (n : NoAttr K C "sites") (q : Q (.ref R.sd) H) : rFld K "sites" (.ref R.r) H Q := ⟨R.r, C, R.dx, _, _, rfl, h.ins, c, n, rfl, q⟩
theorem rd_fresh (h : Rep K C H R S) (c : Cls K C) (n : NoAttr K C "is_fresh_else") (q : Q (.bl R.fr) H) : rFld K "is_fresh_else" (.ref R.r) H Q := ⟨R.r, C, R.dx, _, _, rfl, h.ins, c, n, rfl, q⟩
theorem rd_setFresh (h : Rep K C H R S) (c : Cls K C) (n : NoAttr K C "is_fresh_else") (b : Bool) (q : N (upd H R.r ({ R with fr := b }.ins C))) : rSetF K "is_fresh_else" (.ref R.r) (.bl b) H N := ⟨R.r, C, R.dx, _, rfl, h.ins, c, n, by show 3 < 1000; decide, q⟩
theorem rd_mth {m : Str} {A : Prop} (h : Rep K C H R S) (hm : ([("tests", .ref R.t), ("sites", .ref R.sd), ("is_fresh_else", .bl R.fr)] : List (Str × V)).lookup m = none) (q : A) : rMth C m (.ref R.r) H A := ⟨R.r, R.dx, _, rfl, h.ins, hm, q⟩
end
section
variable {K : Fg} {H : Hp} {Q : VK}
theorem flat_S (xs : List Str) : (xs.map V.str).all flatV = true := by
  rw [List.all_map, List.all_eq_true]
  intro x _
  rfl
theorem inV_S (x : Str) (xs : List Str) : inV (.str x) (xs.map V.str) = decide (x ∈ xs) := by
  unfold inV
  rw [List.any_map, Bool.eq_iff_iff, List.any_eq_true, decide_eq_true_iff]
  constructor
  · rintro ⟨y, hy, e⟩
    have e : (y == x) = true := e
    rw [← eq_of_beq e]
    exact hy
  · intro h
    exact ⟨x, h, beq_self_eq_true x⟩
theorem rd_inT {p : Addr} {x : Str} {ks : List Str} (h : SqT K H p (ks.map V.str)) (q : Q (.bl (decide (x ∈ ks))) H) : rIn K false (.str x) (.ref p) H Q :=
  ⟨p, _, rfl, .inr h, rfl, flat_S ks, by rw [inV_S]; exact q⟩
theorem rd_ninT {p : Addr} {x : Str} {ks : List Str} (h : SqT K H p (ks.map V.str)) (q : Q (.bl (!decide (x ∈ ks))) H) : rIn K true (.str x) (.ref p) H Q :=
  ⟨p, _, rfl, .inr h, rfl, flat_S ks, by rw [inV_S]; exact q⟩
theorem rd_inL {p : Addr} {x : Str} {ks : List Str} (h : H p = some (.lst (ks.map V.str))) (q : Q (.bl (decide (x ∈ ks))) H) : rIn K false (.str x) (.ref p) H Q :=
  ⟨p, _, rfl, .inl (SqL.of h), rfl, flat_S ks, by rw [inV_S]; exact q⟩
theorem rd_ninL {p : Addr} {x : Str} {ks : List Str} (h : H p = some (.lst (ks.map V.str))) (q : Q (.bl (!decide (x ∈ ks))) H) : rIn K true (.str x) (.ref p) H Q :=
  ⟨p, _, rfl, .inl (SqL.of h), rfl, flat_S ks, by rw [inV_S]; exact q⟩
theorem rd_slL {p : Addr} {xs : List V} {lo hi : Option Int} (h : H p = some (.lst xs)) (q : ∀ a, H a = none → Q (.ref a) (upd H a (.lst (cutV xs lo hi)))) : rSlL K (.ref p) lo hi H Q := ⟨p, xs, rfl, SqL.of h, q⟩
theorem cutV_drop (xs : List V) (k : Nat) : cutV xs (some (k : Int)) none = xs.drop k := by
  unfold cutV
  rw [HT.sIx_nat, HT.sIx_none]
  rcases Nat.le_total k xs.length with h | h
  · rw [Nat.min_eq_left h, List.take_of_length_le (by rw [List.length_drop]; omega)]
  · rw [Nat.min_eq_right h, List.drop_eq_nil_of_le (Nat.le_refl _), List.drop_eq_nil_of_le h, List.take_nil]
theorem cutV_take (xs : List V) (k : Nat) : cutV xs none (some (k : Int)) = xs.take k := by
  unfold cutV
  rw [HT.sIx_nat, HT.sIx_none, List.drop_zero, Nat.sub_zero]
  rcases Nat.le_total k xs.length with h | h
  · rw [Nat.min_eq_left h]
  · rw [Nat.min_eq_right h, List.take_of_length_le (Nat.le_refl _), List.take_of_length_le h]
theorem Rep.frames {C : Addr} {R : RA} {S : PR} {f : FA} {r : List FA} (h : Rep K C H R S) (e : R.fas = f :: r) : ∃ p q, S.frames = p :: q ∧ FrOk K H f p ∧ FrsOk K H r q := by
  have hf := h.frs
  rw [e] at hf
  cases hS : S.frames with
  | nil => rw [hS] at hf; cases hf
  | cons p q =>
    rw [hS] at hf
    cases hf with
    | cons h1 h2 => exact ⟨p, q, rfl, h1, h2⟩
/-- [f(x) for x in list of texts] -/
theorem lcb_strs {a : Addr} {ws : List Str} {H1 : Hp} {y : Str → V} {σ : L2.St} {vs : List Nat} {j : Nat} {te : TE} (ha : H1 a = some (.lst (ws.map V.str))) (hn : ws.length ≤ sizeLine)
    (hw : ∀ x : V, wipe ((wipe σ vs).set j (some x)) vs = wipe σ vs)
    (he : ∀ x H3 (R : VK), x ∈ ws → Same H1 H3 → (∀ H4, Same H3 H4 → R (y x) H4) → te ((wipe σ vs).set j (some (.str x))) H3 R)
    (hq : ∀ D H', H1 D = none → Same H1 H' → H' D = some (.lst (ws.map y)) → Q (.ref D) H') : LcB (Itl K a) H1 (gName j) tYes te vs σ Q := by
  refine lcb_pure (J := Itl K a) (H1 := H1) (n := (ws.map V.str).length) (it := fun i => (ws.map V.str).getD i .non) (y := fun i => y (ws.getD i Str.empty)) (by rw [List.length_map]; exact hn) (fun H3 s => still_lst (SqL.of (s _ _ ha))) hw (fun i H3 R hi s k => ?_) (fun D H' hD s l => ?_)
  · have hi' : i < ws.length := by rw [List.length_map] at hi; exact hi
    have e1 : (ws.map V.str).getD i .non = .str ws[i] := by
      rw [List.getD_eq_getElem?_getD, List.getElem?_map, List.getElem?_eq_getElem hi']
      rfl
    have e2 : ws.getD i Str.empty = ws[i] := by
      rw [List.getD_eq_getElem?_getD, List.getElem?_eq_getElem hi']
      rfl
    rw [e2] at k
    show te ((wipe σ vs).set j (some ((ws.map V.str).getD i .non))) H3 R
    rw [e1]
    exact he _ H3 R (List.getElem_mem hi') s k
  · refine hq D H' hD s ?_
    rw [List.length_map, map_range_getD] at l
    exact l
theorem rd_allS {D : Addr} {ws : List Str} {f : Str → Bool} (h : H D = some (.lst (ws.map fun x => .bl (f x)))) (q : Q (.bl (ws.all f)) H) : rAll K [.ref D] H Q := by
  refine ⟨D, ws.map f, rfl, SqL.of ?_, ?_⟩
  · rw [h, List.map_map]
    rfl
  · rw [all_id]
    exact q
end
theorem i_isN {ta : TE} {σ : L2.St} {H : Hp} {Q : VK} (h : ta σ H fun x H1 => Q (.bl (decide (x = .non))) H1) : tIsN ta σ H Q := h
theorem i_notN {ta : TE} {σ : L2.St} {H : Hp} {Q : VK} (h : ta σ H fun x H1 => Q (.bl (!decide (x = .non))) H1) : tNotN ta σ H Q := h
def isNon : PyData → Bool
  | .none => true
  | _ => false
theorem Dt.isNon {K : Fg} {H : Hp} {v : V} {d : PyData} (h : Dt K H v d) : decide (v = .non) = MH.isNon d := by
  cases h with
  | non => rfl
  | bl b => exact decide_eq_false (by intro z; cases z)
  | int i => exact decide_eq_false (by intro z; cases z)
  | str x _ => exact decide_eq_false (by intro z; cases z)
  | tup _ _ => exact decide_eq_false (by intro z; cases z)
  | lst _ _ => exact decide_eq_false (by intro z; cases z)
theorem DtAll.of_get {K : Fg} {H : Hp} : ∀ {vs : List V} {ds : List PyData}, vs.length = ds.length → (∀ (i : Nat) (v : V) (d : PyData), vs[i]? = some v → ds[i]? = some d → Dt K H v d) → DtAll K H vs ds
  | [], [], _, _ => .nil
  | v :: vs, d :: ds, e, h => .cons (h 0 v d rfl rfl) (DtAll.of_get (by simpa using e) fun i v' d' e1 e2 => h (i + 1) v' d' (by simpa using e1) (by simpa using e2))
  | [], _ :: _, e, _ => by simp at e
  | _ :: _, [], e, _ => by simp at e
/-- a comprehension whose items are told by what is true of them -/
theorem lcb_rel {K : Fg} {J : It} {H1 : Hp} {n : Nat} {it : Nat → V} {σ : L2.St} {vs : List Nat} {j : Nat} {te : TE} {Q : VK} (Y : Nat → V → Hp → Prop) (hY : ∀ i v H H', StT K H H' → Y i v H → Y i v H') (hn : n ≤ sizeLine) (hJ : ∀ H3, Same H1 H3 → Still J H3 n it)
    (hw : ∀ x : V, wipe ((wipe σ vs).set j (some x)) vs = wipe σ vs)
    (he : ∀ i H3 (R : VK), i < n → Same H1 H3 → (∀ v H4, Same H3 H4 → Y i v H4 → R v H4) → te ((wipe σ vs).set j (some (it i))) H3 R)
    (hq : ∀ D H' ys, H1 D = none → Same H1 H' → H' D = some (.lst ys) → ys.length = n → (∀ (i : Nat) (v : V), ys[i]? = some v → Y i v H') → Q (.ref D) H') : LcB J H1 (gName j) tYes te vs σ Q := by
  intro D hD
  refine ⟨fun i m H => i + m = n ∧ Same H1 H ∧ ∃ ys, H D = some (.lst ys) ∧ ys.length = i ∧ ∀ (i : Nat) (v : V), ys[i]? = some v → Y i v H, ⟨n, by omega, samePut (Same.refl _) hD, [], upd_same, rfl, fun i v e => by simp at e⟩, fun i m H hW => ?_⟩
  obtain ⟨e, s, ys, l, hl, hy⟩ := hW
  have S := hJ H s
  cases m with
  | zero =>
    have ei : i = n := by omega
    subst ei
    exact .inl ⟨S.stop, hq D H ys hD s l hl hy⟩
  | succ m =>
    have hi : i < n := by omega
    refine .inr ⟨S.go i hi, fun H' => Same H1 H' ∧ ∃ ys, H' D = some (.lst ys) ∧ ys.length = i + 1 ∧ ∀ (i : Nat) (v : V), ys[i]? = some v → Y i v H', fun H' h => ⟨m, by omega, by omega, h.1, h.2⟩, fun x H' hx => ?_⟩
    obtain ⟨e1, e2⟩ := S.yld i x H' hi hx
    subst e1 e2
    refine ⟨hw _, ?_⟩
    refine i_yes ?_
    refine iteT ?_
    refine he i H' _ hi s fun v H4 s4 hv => ?_
    have hput : ∀ i u, Y i u H4 → Y i u (upd H4 D (.lst (ys ++ [v]))) := fun i u h => hY _ _ _ _ (StT.lst (s4 _ _ l)) h
    refine ⟨ys, s4 _ _ l, by omega, samePut (s.trans s4) hD, ys ++ [v], upd_same, by simp [hl], fun k u ek => ?_⟩
    rcases Nat.lt_or_ge k ys.length with hk | hk
    · rw [List.getElem?_append_left hk] at ek
      exact hput k u (hY _ _ _ _ (StT.same s4) (hy k u ek))
    · rw [List.getElem?_append_right hk] at ek
      have : k - ys.length = 0 := by
        cases hq : k - ys.length with
        | zero => rfl
        | succ z => rw [hq] at ek; simp at ek
      rw [this] at ek
      cases ek
      rw [show k = i by omega]
      exact hput i v hv
def rTupOf (K : Fg) : List V → Hp → VK → Prop := fun xs H Q => ∃ p ys, xs = [.ref p] ∧ ((SqL K H p ys ∧ ∀ l, H l = none → Q (.ref l) (upd H l (.tup ys))) ∨ (SqT K H p ys ∧ Q (.ref p) H))
theorem call_tupK {X : Cx} {K : Fg} (e : X.K = K) : CallR X (.type "tuple") (rTupOf K) := by
  subst e
  exact call_tuple_of
def rLstOf (K : Fg) : List V → Hp → VK → Prop := fun xs H Q => ∃ p ys, xs = [.ref p] ∧ (SqL K H p ys ∨ SqT K H p ys) ∧ ∀ l, H l = none → Q (.ref l) (upd H l (.lst ys))
theorem call_lstK {X : Cx} {K : Fg} (e : X.K = K) : CallR X (.type "list") (rLstOf K) := by
  subst e
  exact call_list_of
theorem rd_tupL {K : Fg} {H : Hp} {Q : VK} {p : Addr} {xs : List V} (h : H p = some (.lst xs)) (q : ∀ l, H l = none → Q (.ref l) (upd H l (.tup xs))) : rTupOf K [.ref p] H Q := ⟨p, xs, rfl, .inl ⟨SqL.of h, q⟩⟩
/-- a statement, and what stands behind it, met at what both know -/
theorem seq_at {t u : TS} {D : Ends} {σ : L2.St} {H : Hp} (Pv : L2.St → Hp → Prop) (h1 : ∀ N : L2.St → Hp → Prop, (∀ σ' H', Pv σ' H' → N σ' H') → t { D with nx := N } σ H) (h2 : ∀ σ' H', Pv σ' H' → u D σ' H') : tSeq t u D σ H := h1 _ h2
/-- a comprehension with a test -/
theorem lcb_filt {J : It} {H1 : Hp} {n : Nat} {it y : Nat → V} {keep : Nat → Bool} {σ : L2.St} {vs : List Nat} {j : Nat} {tt : TT} {te : TE} {Q : VK} (hn : n ≤ sizeLine) (hJ : ∀ H3, Same H1 H3 → Still J H3 n it)
    (hw : ∀ x : V, wipe ((wipe σ vs).set j (some x)) vs = wipe σ vs)
    (ht : ∀ i H3 (R : Bool → Hp → Prop), i < n → Same H1 H3 → (∀ H4, Same H3 H4 → R (keep i) H4) → tt ((wipe σ vs).set j (some (it i))) H3 R)
    (he : ∀ i H3 (R : VK), i < n → keep i = true → Same H1 H3 → (∀ H4, Same H3 H4 → R (y i) H4) → te ((wipe σ vs).set j (some (it i))) H3 R)
    (hq : ∀ D H', H1 D = none → Same H1 H' → H' D = some (.lst (((List.range n).filter keep).map y)) → Q (.ref D) H') : LcB J H1 (gName j) tt te vs σ Q := by
  intro D hD
  refine ⟨fun i m H => i + m = n ∧ Same H1 H ∧ H D = some (.lst (((List.range i).filter keep).map y)), ⟨n, by omega, samePut (Same.refl _) hD, upd_same⟩, fun i m H hW => ?_⟩
  obtain ⟨e, s, l⟩ := hW
  have S := hJ H s
  cases m with
  | zero =>
    have ei : i = n := by omega
    subst ei
    exact .inl ⟨S.stop, hq D H hD s l⟩
  | succ m =>
    have hi : i < n := by omega
    refine .inr ⟨S.go i hi, fun H' => Same H1 H' ∧ H' D = some (.lst (((List.range (i + 1)).filter keep).map y)), fun H' h => ⟨m, by omega, by omega, h.1, h.2⟩, fun x H' hx => ?_⟩
    obtain ⟨e1, e2⟩ := S.yld i x H' hi hx
    subst e1 e2
    refine ⟨hw _, ?_⟩
    refine ht i H' _ hi s fun H4 s4 => ?_
    have er : (List.range (i + 1)).filter keep = (List.range i).filter keep ++ (if keep i = true then [i] else []) := by
      rw [List.range_succ, List.filter_append]
      congr 1
      cases hk : keep i <;> simp [hk]
    cases hk : keep i with
    | false =>
      refine iteF ⟨s.trans s4, ?_⟩
      rw [er, hk]
      simpa using s4 _ _ l
    | true =>
      refine iteT (he i H4 _ hi hk (s.trans s4) fun H5 s5 => ?_)
      have l5 := s5 _ _ (s4 _ _ l)
      refine ⟨_, l5, ?_, samePut ((s.trans s4).trans s5) hD, ?_⟩
      · rw [List.length_map]
        have h1 := List.length_filter_le keep (List.range i)
        rw [List.length_range] at h1
        omega
      · rw [upd_same, er, hk]
        simp
theorem filter_range_getD {α β : Type} (l : List α) (d : α) (p : α → Bool) (g : α → β) : ((List.range l.length).filter fun i => p (l.getD i d)).map (fun i => g (l.getD i d)) = (l.filter p).map g := by
  have h : (List.range l.length).map (fun i => l.getD i d) = l := by
    have := map_range_getD l d id
    simpa using this
  calc ((List.range l.length).filter fun i => p (l.getD i d)).map (fun i => g (l.getD i d))
      = (((List.range l.length).filter fun i => p (l.getD i d)).map (fun i => l.getD i d)).map g := by rw [List.map_map]; rfl
    _ = (((List.range l.length).map (fun i => l.getD i d)).filter p).map g := by rw [List.filter_map]; rfl
    _ = (l.filter p).map g := by rw [h]
end MH
end
section
set_option Elab.async false
set_option linter.all false
set_option maxRecDepth 100000
set_option maxHeartbeats 2000000
namespace MH
open PySem PySem.Spec PyProof.Rows L2
local macro_rules | `(tactic| walk_at "go") => `(tactic| repeat (first
  | with_reducible refine i_seq ?_ | with_reducible refine i_ifS ?_ | with_reducible refine i_ret ?_ | with_reducible refine i_drop ?_ | with_reducible refine i_asg ?_ | with_reducible refine i_name ?_
  | with_reducible refine i_next ?_ | with_reducible refine i_var (by with_unfolding_all exact rfl) ?_ | with_reducible refine i_c ?_ | with_reducible refine i_cons ?_ | with_reducible refine i_nil ?_ | with_reducible refine i_cb ?_
  | with_reducible refine i_op ?_ | with_reducible refine i_un ?_ | with_reducible refine i_call ?_ | with_reducible refine i_test ?_ | with_reducible refine i_b ?_ | with_reducible refine i_bl ?_ | with_reducible refine i_and ?_ | with_reducible refine i_or ?_
  | with_reducible refine i_not ?_ | with_reducible refine i_andV ?_ | with_reducible refine i_orV ?_ | with_reducible refine i_notV ?_ | with_reducible refine i_if ?_ | with_reducible refine i_chain ?_ | with_reducible refine i_tup ?_ | with_reducible refine i_lst ?_
  | with_reducible refine i_sl ?_ | with_reducible refine i_part ?_ | with_reducible refine i_nopart ?_ | with_reducible refine i_int ?_ | with_reducible refine i_bm ?_ | with_reducible refine i_bm0 ?_ | with_reducible refine i_I0 ?_ | with_reducible refine i_lc ?_ | with_reducible refine i_disp ?_ | with_reducible refine i_pairsC ?_ | with_reducible refine i_pairsN ?_ | with_reducible refine i_dget2 ?_ | with_reducible refine i_gsub ?_ | with_reducible refine i_raiseB ?_ | with_reducible refine i_make ?_ | with_reducible refine i_gcons ?_ | with_reducible refine i_gnil ?_ | with_reducible refine i_enum ?_ | with_reducible refine i_isN ?_ | with_reducible refine i_notN ?_ | with_reducible refine i_fld ?_ | with_reducible refine i_sfld ?_ | with_reducible refine i_meth ?_ | with_reducible refine i_rU ?_ | with_reducible refine i_dputN ?_ | with_reducible refine i_dput ?_ | with_reducible refine i_dget ?_ | with_reducible refine i_rng1 ?_ | with_reducible refine i_dinP ?_ | with_reducible refine i_raiseA ?_ | with_reducible refine i_lenSetS ?_ | with_reducible refine i_for ?_ | with_reducible refine i_yes ?_ | with_reducible refine i_eqS ?_ | with_reducible refine i_neS ?_ | with_reducible refine i_eqI ?_ | with_reducible refine i_neI ?_
  | with_reducible refine i_retN ?_ | with_reducible refine i_brk ?_ | with_reducible refine i_cont ?_ | with_reducible refine i_par ?_ | with_reducible refine i_par3 ?_ | with_reducible refine i_two ?_ | with_reducible refine i_three ?_
  | with_reducible refine i_itup ?_ | with_reducible refine i_ilist ?_ | with_reducible refine i_istr ?_ | with_reducible refine i_str ?_ | with_reducible refine i_m1 ?_ | with_reducible refine i_anystr ?_
  | with_reducible refine iteT ?_ | with_reducible refine iteF ?_))
section
variable {P : Program} {w : World} {K : Fg} {mg : Str → Option Value} {base : Heap}
theorem k_lines_of_no (T : Tx K mg) : Keeps P w K mg base CX0 2 "lines_of" ["body"] spNo := T.kp_lines_of fun fd F =>
  F.ok sc_lines_of (fun _ _ _ _ h => h.elim) (fun _ _ _ _ _ _ _ _ _ h => h.elim)
theorem k_lines_of (T : Tx K mg) : ∀ n, Keeps P w K mg base CX0 (n + 3) "lines_of" ["body"] (spLines (K := K) n)
  | 0 => k_lines_of_step T 0 (k_lines_of_no T)
  | n + 1 => k_lines_of_step T (n + 1) (k_lines_of T n)
abbrev cR (K : Fg) : Addr := He.ga K "Reader"
theorem FA.lst_eq (f : FA) : f.lst = (f.hv :: elsL f.els) ++ [.ref f.b] := rfl
def spRBody : Sp := fun vs H Q _ => ∃ R S f r, vs = [.ref R.r] ∧ Rep K (cR K) H R S ∧ R.fas = f :: r ∧ Q (.ref f.b) H
theorem kR_body (T : Tx K mg) : KeepsM P w K mg base CX0 1 (cR K) "body" ["self"] (spRBody (K := K)) := by
  obtain ⟨fd, F⟩ := T.f_Reader_body
  refine ⟨_, fd, ?_, Tx.bd_Reader_body F, T.m_Reader_body⟩
  refine F.ok sc_Reader_body (fun vs H Q E h => ?_) (fun cdv A outer s H vs Q E hr h => ?_)
  · obtain ⟨R, S, f, r, rfl, _⟩ := h
    rfl
  · obtain ⟨R, S, f, r, rfl, hR, ef, q⟩ := h
    refine ⟨_, PSs.nox (pss_one (ps_ret (pe_ix ix_list (pe_ix ix_list (pe_fld (pv 0) rfl) (pe_un un_neg pe_int) (fun _ _ => rfl)) (pe_un un_neg pe_int) (fun _ _ => rfl)))), ?_⟩
    have h1 := hR.tests
    rw [Rep.lastT ef] at h1
    have h2 := (hR.top ef).1
    rw [FA.lst_eq] at h2
    walk_at "go"
    refine rd_tests hR T.cl_Reader T.na_Reader_tests ?_
    walk_at "go"
    refine rd_ixL h1 (atI_last _ _) ?_
    walk_at "go"
    refine rd_ixL h2 (atI_last _ _) ?_
    walk_at "go"
    exact q
def spRDeep : Sp := fun vs H Q _ => ∃ R S, vs = [.ref R.r] ∧ Rep K (cR K) H R S ∧ Q (.bl (decide (S.frames.length ≤ 4 ∧ S.sites.length < 40))) H
theorem kR_can_go_deeper (T : Tx K mg) : KeepsM P w K mg base CX0 1 (cR K) "can_go_deeper" ["self"] (spRDeep (K := K)) := by
  obtain ⟨fd, F⟩ := T.f_Reader_can_go_deeper
  refine ⟨_, fd, ?_, Tx.bd_Reader_can_go_deeper F, T.m_Reader_can_go_deeper⟩
  refine F.ok sc_Reader_can_go_deeper (fun vs H Q E h => ?_) (fun cdv A outer s H vs Q E hr h => ?_)
  · obtain ⟨R, S, rfl, _⟩ := h
    rfl
  · obtain ⟨R, S, rfl, hR, q⟩ := h
    refine ⟨_, PSs.nox (pss_one (ps_ret (pe_and (pe_cmpR op_le (pe_callB call_lenS (by rfl) T.b_len (by decide +kernel) (pa_cons (pe_fld (pv 0) rfl) pa_nil)) (pe_gi T.c_DEEP) (nomark _)) (pe_one (pe_cmpR op_lt (pe_callB call_lenDk (by rfl) T.b_len (by decide +kernel) (pa_cons (pe_fld (pv 0) rfl) pa_nil)) (pe_gi T.c_SITES) (nomark _)))))), ?_⟩
    have hl := hR.frs.length
    have hs := hR.sites
    walk_at "go"
    refine rd_tests hR T.cl_Reader T.na_Reader_tests ?_
    walk_at "go"
    refine rd_lenL hR.tests ?_
    walk_at "go"
    rw [List.length_map, List.length_reverse]
    refine ifb (fun e1 => ?_) (fun e1 => ?_)
    · have e1 := of_decide_eq_true e1
      walk_at "go"
      refine rd_sites hR T.cl_Reader T.na_Reader_sites ?_
      walk_at "go"
      refine rd_lenD hR.dict ?_
      walk_at "go"
      rw [siteK_len, hs, show decide ((S.sites.length : Int) < 40) = decide (S.frames.length ≤ 4 ∧ S.sites.length < 40) from decide_eq_decide.mpr ⟨fun z => ⟨by omega, by omega⟩, fun z => by omega⟩]
      exact q
    · have e1 := of_decide_eq_false e1
      rw [show decide (S.frames.length ≤ 4 ∧ S.sites.length < 40) = false from decide_eq_false fun z => e1 (by omega)] at q
      exact q
end
end MH
end
section
set_option Elab.async false
set_option linter.all false
set_option maxRecDepth 100000
set_option maxHeartbeats 4000000
namespace MH
open PySem PySem.Spec PyProof.Rows L2
local macro_rules | `(tactic| walk_at "go") => `(tactic| repeat (first
  | with_reducible refine i_seq ?_ | with_reducible refine i_ifS ?_ | with_reducible refine i_ret ?_ | with_reducible refine i_drop ?_ | with_reducible refine i_asg ?_ | with_reducible refine i_name ?_
  | with_reducible refine i_next ?_ | with_reducible refine i_var (by with_unfolding_all exact rfl) ?_ | with_reducible refine i_c ?_ | with_reducible refine i_cons ?_ | with_reducible refine i_nil ?_ | with_reducible refine i_cb ?_
  | with_reducible refine i_op ?_ | with_reducible refine i_un ?_ | with_reducible refine i_call ?_ | with_reducible refine i_test ?_ | with_reducible refine i_b ?_ | with_reducible refine i_bl ?_ | with_reducible refine i_and ?_ | with_reducible refine i_or ?_
  | with_reducible refine i_not ?_ | with_reducible refine i_andV ?_ | with_reducible refine i_orV ?_ | with_reducible refine i_notV ?_ | with_reducible refine i_if ?_ | with_reducible refine i_chain ?_ | with_reducible refine i_tup ?_ | with_reducible refine i_lst ?_
  | with_reducible refine i_sl ?_ | with_reducible refine i_part ?_ | with_reducible refine i_nopart ?_ | with_reducible refine i_int ?_ | with_reducible refine i_bm ?_ | with_reducible refine i_bm0 ?_ | with_reducible refine i_I0 ?_ | with_reducible refine i_lc ?_ | with_reducible refine i_disp ?_ | with_reducible refine i_pairsC ?_ | with_reducible refine i_pairsN ?_ | with_reducible refine i_dget2 ?_ | with_reducible refine i_gsub ?_ | with_reducible refine i_raiseB ?_ | with_reducible refine i_make ?_ | with_reducible refine i_gcons ?_ | with_reducible refine i_gnil ?_ | with_reducible refine i_enum ?_ | with_reducible refine i_isN ?_ | with_reducible refine i_notN ?_ | with_reducible refine i_fld ?_ | with_reducible refine i_sfld ?_ | with_reducible refine i_meth ?_ | with_reducible refine i_rU ?_ | with_reducible refine i_dputN ?_ | with_reducible refine i_dput ?_ | with_reducible refine i_dget ?_ | with_reducible refine i_rng1 ?_ | with_reducible refine i_dinP ?_ | with_reducible refine i_raiseA ?_ | with_reducible refine i_lenSetS ?_ | with_reducible refine i_for ?_ | with_reducible refine i_yes ?_ | with_reducible refine i_eqS ?_ | with_reducible refine i_neS ?_ | with_reducible refine i_eqI ?_ | with_reducible refine i_neI ?_
  | with_reducible refine i_retN ?_ | with_reducible refine i_brk ?_ | with_reducible refine i_cont ?_ | with_reducible refine i_par ?_ | with_reducible refine i_par3 ?_ | with_reducible refine i_two ?_ | with_reducible refine i_three ?_
  | with_reducible refine i_itup ?_ | with_reducible refine i_ilist ?_ | with_reducible refine i_istr ?_ | with_reducible refine i_str ?_ | with_reducible refine i_m1 ?_ | with_reducible refine i_anystr ?_
  | with_reducible refine iteT ?_ | with_reducible refine iteF ?_))
section
variable {P : Program} {w : World} {K : Fg} {mg : Str → Option Value} {base : Heap}
def spRHead : Sp := fun vs H Q _ => ∃ R S f r p q w0 wr l, vs = [.ref R.r, .ref l] ∧ Rep K (cR K) H R S ∧ R.fas = f :: r ∧ S.frames = p :: q ∧ H l = some (.lst ((w0 :: wr).map V.str)) ∧ (∀ x ∈ w0 :: wr, x.length ≤ sizeLine) ∧ (w0 :: wr).length ≤ sizeLine ∧ ∀ H', Same H H' → Q (.bl (wordsOk (w0 :: wr) && roomFor S p (w0 :: wr))) H'
theorem kR_is_head (T : Tx K mg) : KeepsM P w K mg base CX0 2 (cR K) "is_head" ["self", "words"] (spRHead (K := K)) := by
  obtain ⟨fd, F⟩ := T.f_Reader_is_head
  refine ⟨_, fd, ?_, Tx.bd_Reader_is_head F, T.m_Reader_is_head⟩
  refine F.ok sc_Reader_is_head (fun vs H Q E h => ?_) (fun cdv A outer s H vs Q E hr h => ?_)
  · obtain ⟨R, S, f, r, p, q, w0, wr, l, rfl, _⟩ := h
    rfl
  · obtain ⟨R, S, f, r, p, qs, w0, wr, l, rfl, hR, ef, eS, hl, hx, hn, q⟩ := h
    refine ⟨_, PSs.nox (pss_cons (ps_if (PW.pt (pw_or (pt_cmpR op_notIn_seq (pe_ix ix_list (pv 1) pe_int (fun _ _ => rfl)) (pe_tup (pa_cons pe_str (pa_cons pe_str (pa_cons pe_str pa_nil)))) (by rfl)) (pw_or1 (pt_not (pt_val (pe_callB (cr_all rfl) (by rfl) T.b_all (by decide +kernel) (pa_cons (pe_lc (own := [("word", 2)]) (g := gName 2) (tt := tYes) rfl sc_Reader_is_head.nd (pi_list (pe_slice sl_list (pv 1) (po_some pe_int) po_none)) (blkOk_by (N := n_Reader_is_head) (sc := defScope s_Reader_is_head) (by decide +kernel)) (fun _ _ _ _ _ => (pg_name (i := 2) sc_Reader_is_head.nd rfl (by first | exact Or.inl rfl | exact Or.inr rfl))) (fun _ _ _ _ _ => pts_nil) (fun _ _ _ _ _ => (pe_k (k_is_name T) (hr.mono (by omega)) pass0 (pa_cons (pv 2) pa_nil)))) pa_nil))))))) (pss_one (ps_ret pe_bl)) pss_nil)
      (pss_cons (ps_set (i := 3) sc_Reader_is_head.nd rfl (by first | exact Or.inl rfl | exact Or.inr rfl) (pe_ifExp (pt_cmpR op_eq (pe_ix ix_list (pv 1) pe_int (fun _ _ => rfl)) pe_str (nomark _)) pe_int pe_int))
      (pss_cons (ps_if (PW.pt (pw_or (pt_not (pt_chain op_le op_le (pv 3) (pe_callB call_lenS (by rfl) T.b_len (by decide +kernel) (pa_cons (pv 1) pa_nil)) (pe_op op_add (pv 3) (pe_gi T.c_ARGS)))) (pw_or (pt_cmp (pc_din (hu_of hr) (pe_ix ix_list (pv 1) pe_int (fun _ _ => rfl)) (pe_fld (pv 0) rfl))) (pw_or1 (pt_cmpR op_ge (pe_callB call_lenDk (by rfl) T.b_len (by decide +kernel) (pa_cons (pe_fld (pv 0) rfl) pa_nil)) (pe_gi T.c_SITES) (nomark _)))))) (pss_one (ps_ret pe_bl)) pss_nil)
      (pss_one (ps_ret (pe_and (pe_cmpR op_lt (pe_callB call_lenS (by rfl) T.b_len (by decide +kernel) (pa_cons (pe_mm0 (kR_body T) T.cl_Reader (hr.mono (by omega)) pass0 (pv 0)) pa_nil)) (pe_gi T.c_ITEMS) (nomark _)) (pe_one (pe_cmpR op_le (pe_callB call_lenS (by rfl) T.b_len (by decide +kernel) (pa_cons (pe_fld (pv 0) rfl) pa_nil)) (pe_gi T.c_DEEP) (nomark _))))))))), ?_⟩
    have e0 : atI ((w0 :: wr).map V.str) 0 = some (.str w0) := atI_nat (j := 0) rfl
    walk_at "go"
    refine rd_ixL hl e0 ?_
    walk_at "go"
    refine ⟨by decide, fun p1 hp1 => ?_⟩
    have s1 := sameNew (o := .tup [V.str "do", V.str "if", V.str "while"]) hp1
    refine rd_ninT (ks := ["do", "if", "while"]) (SqT.of upd_same) ?_
    walk_at "go"
    have hl1 := s1 _ _ hl
    have ew : decide (w0 ∈ (["do", "if", "while"] : List Str)) = decide (w0 = "do" ∨ w0 = "if" ∨ w0 = "while") := decide_eq_decide.mpr (by simp)
    rw [ew]
    have hwo : wordsOk (w0 :: wr) = (decide (w0 = "do" ∨ w0 = "if" ∨ w0 = "while") && (wr.all isName && decide (leastOf w0 ≤ (w0 :: wr).length ∧ (w0 :: wr).length ≤ leastOf w0 + 3))) := rfl
    refine ifn (fun k1 => ?_) (fun k1 => ?_)
    · rw [hwo, k1, Bool.false_and, Bool.false_and] at q
      refine iteT ?_
      walk_at "go"
      exact q _ s1
    · rw [hwo, k1, Bool.true_and] at q
      walk_at "go"
      refine rd_slL hl1 (fun a ha => ?_)
      walk_at "go"
      have s2 := sameNew (o := .lst (cutV ((w0 :: wr).map V.str) (some 1) none)) ha
      have hl2 := s2 _ _ hl1
      have ha2 : (upd (upd H p1 (.tup [V.str "do", V.str "if", V.str "while"])) a (.lst (cutV ((w0 :: wr).map V.str) (some 1) none))) a = some (.lst (wr.map V.str)) := by
        rw [upd_same, show cutV ((w0 :: wr).map V.str) (some 1) none = _ from cutV_drop _ 1]
        rfl
      refine ⟨_, rfl, ⟨_, SqL.of ha2⟩, ?_⟩
      refine lcb_strs (y := fun x => .bl (isName x)) ha2 (by rw [List.length_cons] at hn; omega) (fun _ => rfl) (fun x H3 Rr hm s3 k => ?_) (fun D H3 _ s3 hD => ?_)
      · walk_at "go"
        exact ⟨_, .str x, rfl, .str x (hx x (List.mem_cons_of_mem _ hm)), k⟩
      · walk_at "go"
        refine rd_allS hD ?_
        walk_at "go"
        have s03 := (s1.trans s2).trans s3
        have hl3 := s3 _ _ hl2
        have hR3 := hR.same s03
        cases k2 : wr.all isName with
        | false =>
          rw [k2, Bool.false_and, Bool.false_and] at q
          refine iteT ?_
          walk_at "go"
          exact q H3 s03
        | true =>
          rw [k2, Bool.true_and] at q
          refine iteF ?_
          walk_at "go"
          refine rd_ixL hl3 e0 ?_
          walk_at "go"
          have hlen : (((w0 :: wr).map V.str).length : Int) = ((w0 :: wr).length : Int) := by rw [List.length_map]
          obtain ⟨p', q', eS', hf1, hf2⟩ := hR3.frames ef
          rw [eS] at eS'
          cases eS'
          have htop : f.xs.length = p.top.length := hf1.2.1.length
          have hfr := hR3.frs.length
          refine ifb (fun k3 => ?_) (fun k3 => ?_)
          all_goals
            walk_at "go"
            have hlo : leastOf w0 = 3 ∧ w0 = "do" ∨ leastOf w0 = 2 ∧ w0 ≠ "do" := by
              unfold leastOf
              by_cases hd : w0 = "do"
              · rw [if_pos hd]; exact .inl ⟨rfl, hd⟩
              · rw [if_neg hd]; exact .inr ⟨rfl, hd⟩
            first
              | (have hlo : leastOf w0 = 3 := hlo.elim (fun z => z.1) (fun z => absurd (of_decide_eq_true k3) z.2); rw [hlo] at q)
              | (have hlo : leastOf w0 = 2 := hlo.elim (fun z => absurd z.2 (of_decide_eq_false k3)) (fun z => z.1); rw [hlo] at q)
            refine rd_lenL hl3 ?_
            walk_at "go"
            rw [hlen]
            refine ifb (fun k4 => ?_) (fun k4 => ?_)
            · have k4 := of_decide_eq_true k4
              walk_at "go"
              refine ifn (fun k5 => ?_) (fun k5 => ?_)
              · have k5 := of_decide_eq_false k5
                rw [decide_eq_false (fun z => k5 (by omega)), Bool.false_and] at q
                refine iteT ?_
                walk_at "go"
                exact q H3 s03
              · have k5 := of_decide_eq_true k5
                rw [decide_eq_true (by omega), Bool.true_and] at q
                walk_at "go"
                obtain ⟨w1, wt, rfl⟩ : ∃ w1 wt, wr = w1 :: wt := by
                  cases wr with
                  | nil => simp at k4
                  | cons a b => exact ⟨a, b, rfl⟩
                have e1 : atI ((w0 :: w1 :: wt).map V.str) 1 = some (.str w1) := atI_nat (j := 1) rfl
                have hro : roomFor S p (w0 :: w1 :: wt) = (decide (w1 ∉ S.sites) && (decide (S.sites.length < 40) && (decide (p.top.length < 12) && decide (S.frames.length ≤ 4)))) := rfl
                rw [hro] at q
                refine rd_ixL hl3 e1 ?_
                walk_at "go"
                refine rd_sites hR3 T.cl_Reader T.na_Reader_sites ?_
                refine ⟨R.sd, _, rfl, DGet.k (k := .inr w1) hR3.dict, ?_⟩
                walk_at "go"
                rw [valV_siteK, hR3.sites]
                refine ifb (fun k6 => ?_) (fun k6 => ?_)
                · have k6 := of_decide_eq_true k6
                  rw [decide_eq_false (fun z => z k6), Bool.false_and] at q
                  refine iteT ?_
                  walk_at "go"
                  exact q H3 s03
                · have k6 := of_decide_eq_false k6
                  rw [decide_eq_true k6, Bool.true_and] at q
                  walk_at "go"
                  refine rd_sites hR3 T.cl_Reader T.na_Reader_sites ?_
                  walk_at "go"
                  refine rd_lenD hR3.dict ?_
                  walk_at "go"
                  rw [siteK_len, hR3.sites]
                  refine ifb (fun k7 => ?_) (fun k7 => ?_)
                  · have k7 := of_decide_eq_true k7
                    rw [decide_eq_false (fun z => by omega), Bool.false_and] at q
                    walk_at "go"
                    exact q H3 s03
                  · have k7 := of_decide_eq_false k7
                    rw [decide_eq_true (by omega), Bool.true_and] at q
                    walk_at "go"
                    refine rd_mth hR3 rfl ?_
                    walk_at "go"
                    refine ⟨R, S, f, r, rfl, hR3, ef, ?_⟩
                    walk_at "go"
                    refine rd_lenL (hR3.top ef).2 ?_
                    walk_at "go"
                    rw [htop]
                    refine ifb (fun k8 => ?_) (fun k8 => ?_)
                    · have k8 := of_decide_eq_true k8
                      rw [decide_eq_true (by omega), Bool.true_and] at q
                      walk_at "go"
                      refine rd_tests hR3 T.cl_Reader T.na_Reader_tests ?_
                      walk_at "go"
                      refine rd_lenL hR3.tests ?_
                      walk_at "go"
                      rw [List.length_map, List.length_reverse, hfr]
                      rw [show decide ((S.frames.length : Int) ≤ 4) = decide (S.frames.length ≤ 4) from decide_eq_decide.mpr (by omega)]
                      exact q H3 s03
                    · have k8 := of_decide_eq_false k8
                      rw [decide_eq_false (by omega), Bool.false_and] at q
                      exact q H3 s03
            · have k4 := of_decide_eq_false k4
              rw [decide_eq_false (fun z => k4 (by omega)), Bool.false_and] at q
              walk_at "go"
              refine ift rfl ?_
              walk_at "go"
              exact q H3 s03
end
end MH
end
section
set_option Elab.async false
set_option linter.all false
set_option maxRecDepth 100000
set_option maxHeartbeats 4000000
namespace MH
open PySem PySem.Spec PyProof.Rows L2
local macro_rules | `(tactic| walk_at "go") => `(tactic| repeat (first
  | with_reducible refine i_seq ?_ | with_reducible refine i_ifS ?_ | with_reducible refine i_ret ?_ | with_reducible refine i_drop ?_ | with_reducible refine i_asg ?_ | with_reducible refine i_name ?_
  | with_reducible refine i_next ?_ | with_reducible refine i_var (by with_unfolding_all exact rfl) ?_ | with_reducible refine i_c ?_ | with_reducible refine i_cons ?_ | with_reducible refine i_nil ?_ | with_reducible refine i_cb ?_
  | with_reducible refine i_op ?_ | with_reducible refine i_un ?_ | with_reducible refine i_call ?_ | with_reducible refine i_test ?_ | with_reducible refine i_b ?_ | with_reducible refine i_bl ?_ | with_reducible refine i_and ?_ | with_reducible refine i_or ?_
  | with_reducible refine i_not ?_ | with_reducible refine i_andV ?_ | with_reducible refine i_orV ?_ | with_reducible refine i_notV ?_ | with_reducible refine i_if ?_ | with_reducible refine i_chain ?_ | with_reducible refine i_tup ?_ | with_reducible refine i_lst ?_
  | with_reducible refine i_sl ?_ | with_reducible refine i_part ?_ | with_reducible refine i_nopart ?_ | with_reducible refine i_int ?_ | with_reducible refine i_bm ?_ | with_reducible refine i_bm0 ?_ | with_reducible refine i_I0 ?_ | with_reducible refine i_lc ?_ | with_reducible refine i_disp ?_ | with_reducible refine i_pairsC ?_ | with_reducible refine i_pairsN ?_ | with_reducible refine i_dget2 ?_ | with_reducible refine i_gsub ?_ | with_reducible refine i_raiseB ?_ | with_reducible refine i_make ?_ | with_reducible refine i_gcons ?_ | with_reducible refine i_gnil ?_ | with_reducible refine i_enum ?_ | with_reducible refine i_isN ?_ | with_reducible refine i_notN ?_ | with_reducible refine i_fld ?_ | with_reducible refine i_sfld ?_ | with_reducible refine i_meth ?_ | with_reducible refine i_rU ?_ | with_reducible refine i_dputN ?_ | with_reducible refine i_dput ?_ | with_reducible refine i_dget ?_ | with_reducible refine i_rng1 ?_ | with_reducible refine i_dinP ?_ | with_reducible refine i_raiseA ?_ | with_reducible refine i_lenSetS ?_ | with_reducible refine i_for ?_ | with_reducible refine i_yes ?_ | with_reducible refine i_eqS ?_ | with_reducible refine i_neS ?_ | with_reducible refine i_eqI ?_ | with_reducible refine i_neI ?_
  | with_reducible refine i_retN ?_ | with_reducible refine i_brk ?_ | with_reducible refine i_cont ?_ | with_reducible refine i_par ?_ | with_reducible refine i_par3 ?_ | with_reducible refine i_two ?_ | with_reducible refine i_three ?_
  | with_reducible refine i_itup ?_ | with_reducible refine i_ilist ?_ | with_reducible refine i_istr ?_ | with_reducible refine i_str ?_ | with_reducible refine i_m1 ?_ | with_reducible refine i_anystr ?_
  | with_reducible refine iteT ?_ | with_reducible refine iteF ?_))
section
variable {P : Program} {w : World} {K : Fg} {mg : Str → Option Value} {base : Heap}
theorem kind_none : kindOf .none ≠ "if" := by decide
def spRElse : Sp := fun vs H Q _ => ∃ R S f r p q, vs = [.ref R.r] ∧ Rep K (cR K) H R S ∧ R.fas = f :: r ∧ S.frames = p :: q ∧ WfF (p :: q) ∧
  (∀ S', stepElse S p q = some S' → ∀ H' R', Rep K (cR K) H' R' S' → Mv K H R H' R' → Q (.bl true) H') ∧ (stepElse S p q = none → ∀ H', Same H H' → Q (.bl false) H')
theorem kR_take_else (T : Tx K mg) : KeepsM P w K mg base CX0 2 (cR K) "take_else" ["self"] (spRElse (K := K)) := by
  obtain ⟨fd, F⟩ := T.f_Reader_take_else
  refine ⟨_, fd, ?_, Tx.bd_Reader_take_else F, T.m_Reader_take_else⟩
  refine F.ok sc_Reader_take_else (fun vs H Q E h => ?_) (fun cdv A outer s H vs Q E hr h => ?_)
  · obtain ⟨R, S, f, r, p, q, rfl, _⟩ := h
    rfl
  · obtain ⟨R, S, f, r, p, qs, rfl, hR, ef, eS, hwf, q1, q2⟩ := h
    refine ⟨_, PSs.nox (pss_cons (ps_set (i := 1) sc_Reader_take_else.nd rfl (by first | exact Or.inl rfl | exact Or.inr rfl) (pe_ix ix_list (pe_ix ix_list (pe_fld (pv 0) rfl) (pe_un un_neg pe_int) (fun _ _ => rfl)) pe_int (fun _ _ => rfl)))
      (pss_cons (ps_if (PW.pt (pw_or (pt_cmp (pc_isN (pv 1)) rfl) (pw_or (pt_cmpR op_ne (pe_ix ix_tup (pv 1) pe_int (fun _ _ => rfl)) pe_str (nomark _)) (pw_or (pt_cmpR op_gt (pe_callB call_lenS (by rfl) T.b_len (by decide +kernel) (pa_cons (pe_ix ix_list (pe_fld (pv 0) rfl) (pe_un un_neg pe_int) (fun _ _ => rfl)) pa_nil)) pe_int (nomark _)) (pw_or1 (pt_not (pt_val (pe_mm0 (kR_can_go_deeper T) T.cl_Reader (hr.mono (by omega)) pass0 (pv 0))))))))) (pss_one (ps_ret pe_bl)) pss_nil)
      (pss_cons (ps_expr (pe_bm PySem.F.plainAttrs_list PySem.F.slot_list_append PySem.F.type_list_append mt_append (pe_ix ix_list (pe_fld (pv 0) rfl) (pe_un un_neg pe_int) (fun _ _ => rfl)) (pa_cons (pe_lst pa_nil) pa_nil)))
      (pss_cons (ps_fld (pv 0) pe_bl rfl)
      (pss_one (ps_ret pe_bl)))))), ?_⟩
    have ht := hR.tests
    rw [Rep.lastT ef] at ht
    obtain ⟨ha, hb⟩ := hR.top ef
    have h0 : atI f.lst 0 = some f.hv := atI_nat (j := 0) rfl
    obtain ⟨p', q', eS', hf1, hf2⟩ := hR.frames ef
    rw [eS] at eS'
    cases eS'
    have no : elseOk S p = false → Q (.bl false) H := fun z => q2 (by unfold stepElse; rw [z]; rfl) H (Same.refl H)
    walk_at "go"
    refine rd_tests hR T.cl_Reader T.na_Reader_tests ?_
    walk_at "go"
    refine rd_ixL ht (atI_last _ _) ?_
    walk_at "go"
    refine rd_ixL ha h0 ?_
    walk_at "go"
    rw [hf1.1.isNon]
    by_cases hh : p.head = .none
    · rw [hh]
      refine iteT ?_
      refine ift rfl ?_
      walk_at "go"
      exact no (by unfold elseOk; rw [hh, decide_eq_false kind_none]; rfl)
    · obtain ⟨k, s0, as, ehd⟩ : ∃ k s as, p.head = .tuple [.str k, .str s, .tuple as] := by
        cases qs with
        | nil => exact absurd hwf.1 hh
        | cons g r => exact hwf.1
      have hkd : kindOf p.head = k := by rw [ehd]; rfl
      have hhv := hf1.1
      rw [ehd] at hhv
      rw [ehd]
      refine iteF ?_
      walk_at "go"
      refine rd_ix hhv (n := 0) rfl rfl (fun u hu => ?_)
      obtain ⟨rfl, _⟩ := hu.strI
      walk_at "go"
      refine ifn (fun k1 => ?_) (fun k1 => ?_)
      · refine ift rfl ?_
        walk_at "go"
        exact no (by unfold elseOk; rw [hkd, k1]; rfl)
      · walk_at "go"
        refine rd_tests hR T.cl_Reader T.na_Reader_tests ?_
        walk_at "go"
        refine rd_ixL ht (atI_last _ _) ?_
        walk_at "go"
        refine rd_lenL ha ?_
        walk_at "go"
        cases hel : f.els with
        | some e =>
          have hfs : p.fst.isNone = false := by
            have := hf1.2.2
            rw [hel] at this
            cases hp : p.fst with
            | none => rw [hp] at this; exact this.elim
            | some _ => rfl
          rw [show decide ((2 : Int) < (f.lst.length : Int)) = true by unfold FA.lst; rw [hel]; rfl]
          refine ift rfl ?_
          refine ift rfl ?_
          walk_at "go"
          exact no (by unfold elseOk; rw [hfs]; simp)
        | none =>
          have hfs : p.fst = none := by
            have := hf1.2.2
            rw [hel] at this
            cases hp : p.fst with
            | none => rfl
            | some _ => rw [hp] at this; exact this.elim
          have hok : elseOk S p = decide (S.frames.length ≤ 4 ∧ S.sites.length < 40) := by
            unfold elseOk
            rw [hkd, k1, hfs]
            rfl
          rw [show decide ((2 : Int) < (f.lst.length : Int)) = false by unfold FA.lst; rw [hel]; rfl]
          refine ife rfl ?_
          walk_at "go"
          refine rd_mth hR rfl ?_
          walk_at "go"
          refine ⟨R, S, rfl, hR, ?_⟩
          walk_at "go"
          rw [← hok]
          cases hk : elseOk S p with
          | false =>
            refine ift rfl ?_
            walk_at "go"
            exact no hk
          | true =>
            refine ife rfl ?_
            walk_at "go"
            refine rd_tests hR T.cl_Reader T.na_Reader_tests ?_
            walk_at "go"
            refine rd_ixL ht (atI_last _ _) ?_
            walk_at "go"
            refine ⟨.inl ⟨rfl, _, SqL.of ha⟩, ?_⟩
            walk_at "go"
            refine ⟨by decide, fun n hn => ?_⟩
            walk_at "go"
            have s1 := sameNew (o := .lst []) hn
            have hl : f.lst = [f.hv, .ref f.b] := by unfold FA.lst; rw [hel]; rfl
            have ha1 := s1 _ _ ha
            rw [hl] at ha1
            refine ⟨f.a, _, .ref n, rfl, rfl, ha1, by show 2 < sizeLine; decide, ?_⟩
            obtain ⟨hR2, mv2⟩ := hR.els ef eS hel s1 hn upd_same
            walk_at "go"
            refine rd_setFresh hR2 T.cl_Reader T.na_Reader_is_fresh_else true ?_
            obtain ⟨hR3, mv3⟩ := hR2.setFresh true
            walk_at "go"
            exact q1 _ (by unfold stepElse; rw [if_pos hk]) _ _ hR3 (mv2.trans mv3)
def spREnd : Sp := fun vs H Q _ => ∃ R S f r p q, vs = [.ref R.r] ∧ Rep K (cR K) H R S ∧ R.fas = f :: r ∧ S.frames = p :: q ∧ WfF (p :: q) ∧ (∀ g ∈ R.fas, g.xs.length < 100000) ∧
  (∀ S', stepEnd S = some S' → ∀ H' R', Rep K (cR K) H' R' S' → Mv K H R H' R' → Q (.bl true) H') ∧ (stepEnd S = none → ∀ H', Same H H' → Q (.bl false) H')
def bodsD (p : PF) : List PyData := match p.fst with
  | some a => [.tuple a, .tuple p.top]
  | none => [.tuple p.top]
theorem close_eq (p : PF) : closeF p = .tuple (tupD p.head ++ (if kindOf p.head = "if" ∧ (bodsD p).length = 1 then bodsD p ++ [.tuple []] else bodsD p)) := by
  unfold closeF bodsD
  cases p.fst with
  | some a => simp
  | none =>
    by_cases h : kindOf p.head = "if"
    · simp [h]
    · simp [h]
theorem kR_take_end (T : Tx K mg) : KeepsM P w K mg base CX0 2 (cR K) "take_end" ["self"] (spREnd (K := K)) := by
  obtain ⟨fd, F⟩ := T.f_Reader_take_end
  refine ⟨_, fd, ?_, Tx.bd_Reader_take_end F, T.m_Reader_take_end⟩
  refine F.ok sc_Reader_take_end (fun vs H Q E h => ?_) (fun cdv A outer s H vs Q E hr h => ?_)
  · obtain ⟨R, S, f, r, p, q, rfl, _⟩ := h
    rfl
  · obtain ⟨R, S, f, r, p, qs, rfl, hR, ef, eS, hwf, hx12, q1, q2⟩ := h
    refine ⟨_, PSs.nox (pss_cons (ps_if (PW.pt (pw_or (pt_cmp (pc_isN (pe_ix ix_list (pe_ix ix_list (pe_fld (pv 0) rfl) (pe_un un_neg pe_int) (fun _ _ => rfl)) pe_int (fun _ _ => rfl))) rfl) (pw_or1 (pt_val (pe_fld (pv 0) rfl))))) (pss_one (ps_ret pe_bl)) pss_nil)
      (pss_cons (ps_asg (pe_bm0 PySem.F.plainAttrs_list PySem.F.slot_list_pop PySem.F.type_list_pop mt_pop (pe_fld (pv 0) rfl)) (pg_star (i := 1) (j := 2) rfl sc_Reader_take_end.nd rfl rfl (by first | exact Or.inl rfl | exact Or.inr rfl) (by first | exact Or.inl rfl | exact Or.inr rfl)))
      (pss_cons (ps_set (i := 2) sc_Reader_take_end.nd rfl (by first | exact Or.inl rfl | exact Or.inr rfl) (pe_callTy (T := "tuple") (call_tupK (K := K) rfl) (by rfl) T.b_tuple (by decide +kernel) (pa_cons (pe_lc (own := [("body", 3)]) (g := gName 3) (tt := tYes) rfl sc_Reader_take_end.nd (pi_list (pv 2)) (blkOk_by (N := n_Reader_take_end) (sc := defScope s_Reader_take_end) (by decide +kernel)) (fun _ _ _ _ _ => (pg_name (i := 3) sc_Reader_take_end.nd rfl (by first | exact Or.inl rfl | exact Or.inr rfl))) (fun _ _ _ _ _ => pts_nil) (fun _ _ _ _ _ => (pe_callTy (T := "tuple") (call_tupK (K := K) rfl) (by rfl) T.b_tuple (by decide +kernel) (pa_cons (pv 3) pa_nil)))) pa_nil)))
      (pss_cons (ps_if (PW.pt (pw_and (pt_cmpR op_eq (pe_ix ix_tup (pv 1) pe_int (fun _ _ => rfl)) pe_str (nomark _)) (pw_and1 (pt_cmpR op_eq (pe_callB call_lenS (by rfl) T.b_len (by decide +kernel) (pa_cons (pv 2) pa_nil)) pe_int (nomark _))))) (pss_one (ps_set (i := 2) sc_Reader_take_end.nd rfl (by first | exact Or.inl rfl | exact Or.inr rfl) (pe_op op_catA (pv 2) (pe_tup (pa_cons (pe_tup pa_nil) pa_nil))))) pss_nil)
      (pss_cons (ps_expr (pe_bm PySem.F.plainAttrs_list PySem.F.slot_list_append PySem.F.type_list_append mt_append (pe_mm0 (kR_body T) T.cl_Reader (hr.mono (by omega)) pass0 (pv 0)) (pa_cons (pe_op op_catA (pv 1) (pv 2)) pa_nil)))
      (pss_one (ps_ret pe_bl))))))), ?_⟩
    have ht := hR.tests
    rw [Rep.lastT ef] at ht
    obtain ⟨ha, hb⟩ := hR.top ef
    have h0 : atI f.lst 0 = some f.hv := atI_nat (j := 0) rfl
    obtain ⟨p', q', eS', hf1, hf2⟩ := hR.frames ef
    rw [eS] at eS'
    cases eS'
    walk_at "go"
    refine rd_tests hR T.cl_Reader T.na_Reader_tests ?_
    walk_at "go"
    refine rd_ixL ht (atI_last _ _) ?_
    walk_at "go"
    refine rd_ixL ha h0 ?_
    walk_at "go"
    rw [hf1.1.isNon]
    by_cases hh : p.head = .none
    · rw [hh]
      refine ift rfl ?_
      walk_at "go"
      refine q2 ?_ H (Same.refl H)
      cases qs with
      | nil => unfold stepEnd; rw [eS]
      | cons g r =>
        obtain ⟨k, s0, as, e⟩ := hwf.1
        rw [hh] at e
        cases e
    · obtain ⟨g', qs', rfl⟩ : ∃ g' qs', qs = g' :: qs' := by
        cases qs with
        | nil => exact absurd hwf.1 hh
        | cons g r => exact ⟨g, r, rfl⟩
      obtain ⟨k, s0, as, ehd⟩ := hwf.1
      have hkd : kindOf p.head = k := by rw [ehd]; rfl
      have hhv := hf1.1
      rw [ehd] at hhv
      rw [ehd]
      refine ife rfl ?_
      walk_at "go"
      refine rd_fresh hR T.cl_Reader T.na_Reader_is_fresh_else ?_
      walk_at "go"
      rw [hR.fresh]
      have hse : stepEnd S = if S.fresh = true then none else some ⟨{ g' with top := g'.top ++ [closeF p] } :: qs', S.sites, S.fresh⟩ := by
        unfold stepEnd
        rw [eS]
      cases hfr : S.fresh with
      | true =>
        refine ift rfl ?_
        walk_at "go"
        refine q2 ?_ H (Same.refl H)
        rw [hse, if_pos hfr]
      | false =>
        refine ife rfl ?_
        rw [if_neg (by rw [hfr]; exact Bool.false_ne_true)] at hse
        have q1 := q1 _ hse
        walk_at "go"
        refine rd_tests hR T.cl_Reader T.na_Reader_tests ?_
        obtain ⟨fg, rg, rfl⟩ : ∃ fg rg, r = fg :: rg := by
          cases hf2 with
          | cons _ _ => exact ⟨_, _, rfl⟩
        refine ⟨.inl ⟨rfl, _, SqL.of ht⟩, ?_⟩
        refine ⟨R.t, _, .ref f.a, rfl, rfl, ht, by simp, ?_⟩
        rw [List.dropLast_concat]
        obtain ⟨hR2, mv2⟩ := hR.pop ef eS
        have hpf := hR.popF (o := .lst (((fg :: rg).reverse).map fun f => V.ref f.a)) ef
        have ha2 := hpf (f.a, .lst f.lst) (by simp [FA.foot])
        have hb2 := hpf (f.b, .lst f.xs) (by simp [FA.foot])
        generalize upd H R.t (.lst (((fg :: rg).reverse).map fun f => V.ref f.a)) = H2 at hR2 mv2 hpf ha2 hb2 ⊢
        have ha2' : H2 f.a = some (.lst (f.hv :: (elsL f.els ++ [.ref f.b]))) := ha2
        refine ⟨f.a, f.hv, elsL f.els ++ [.ref f.b], rfl, SqL.of ha2', by cases f.els <;> (simp [elsL]), fun b1 hb1 => ?_⟩
        walk_at "go"
        have s3 := sameNew (o := .lst (elsL f.els ++ [.ref f.b])) hb1
        have hR3 := hR2.same s3
        have hu3 : upd H2 b1 (.lst (elsL f.els ++ [.ref f.b])) b1 = some (.lst (elsL f.els ++ [.ref f.b])) := upd_same
        have ha3 := s3 _ _ ha2
        have hp3 : Hold (upd H2 b1 (.lst (elsL f.els ++ [.ref f.b]))) f.foot := hpf.same s3
        have st13 : StT K H (upd H2 b1 (.lst (elsL f.els ++ [.ref f.b]))) := mv2.st.trans (StT.same s3)
        have mv3 := mv2.trans (Mv.same s3)
        generalize upd H2 b1 (.lst (elsL f.els ++ [.ref f.b])) = H3 at s3 hR3 hu3 ha3 hp3 st13 mv3 ⊢
        have hf3 := hf1.mono st13
        refine ⟨_, rfl, ⟨_, SqL.of hu3⟩, ?_⟩
        have hbl : (elsL f.els ++ [V.ref f.b]).length = (bodsD p).length := by
          have := hf1.2.2
          unfold bodsD
          cases h1 : f.els <;> cases h2 : p.fst <;> rw [h1, h2] at this <;> first | rfl | exact this.elim
        have hbs : ∀ i, i < (bodsD p).length → ∃ b zs es, (elsL f.els ++ [V.ref f.b]).getD i .non = .ref b ∧ H3 b = some (.lst zs) ∧ (bodsD p)[i]? = some (.tuple es) ∧ DtAll K H3 zs es := by
          have hb3 : H3 f.b = some (.lst f.xs) := hp3 (f.b, _) (by simp [FA.foot])
          intro i hi
          have hc := hf3.2.2
          unfold bodsD at hi ⊢
          cases h1 : f.els <;> cases h2 : p.fst <;> rw [h1, h2] at hc
          · rw [h2] at hi
            have : i = 0 := by simpa using hi
            subst this
            exact ⟨f.b, f.xs, p.top, rfl, hb3, rfl, hf3.2.1⟩
          · exact hc.elim
          · exact hc.elim
          · rename_i e a
            rw [h2] at hi
            have he3 : H3 e.1 = some (.lst e.2) := hp3 (e.1, _) (by simp [FA.foot, h1, elsF])
            have : i = 0 ∨ i = 1 := by
              have : i < 2 := hi
              omega
            rcases this with rfl | rfl
            · exact ⟨e.1, e.2, a, rfl, he3, rfl, hc⟩
            · exact ⟨f.b, f.xs, p.top, rfl, hb3, rfl, hf3.2.1⟩
        refine lcb_rel (K := K) (n := (elsL f.els ++ [V.ref f.b]).length) (it := fun i => (elsL f.els ++ [V.ref f.b]).getD i .non) (fun i v H => ∃ d, (bodsD p)[i]? = some d ∧ Dt K H v d) (fun i v H H' s ⟨d, e, h⟩ => ⟨d, e, h.mono s⟩) (by rw [hbl]; unfold bodsD; cases p.fst <;> (show _ ≤ sizeLine; unfold sizeLine; simp)) (fun H4 s4 => still_lst (SqL.of (s4 _ _ hu3))) (fun _ => rfl) (fun i H4 Rr hi s4 k => ?_) (fun D H4 ys hD s4 hl4 hlen4 hy4 => ?_)
        · obtain ⟨b, zs, es, e1, e2, e3, e4⟩ := hbs i (by rw [← hbl]; exact hi)
          rw [e1]
          walk_at "go"
          refine rd_tupL (s4 _ _ e2) (fun l hl => ?_)
          exact k _ _ (sameNew hl) ⟨_, e3, .tup (SqT.of upd_same) (e4.mono ((StT.same s4).trans (StT.new hl)))⟩
        · walk_at "go"
          refine rd_tupL hl4 (fun t5 ht5 => ?_)
          have s5 := s4.trans (sameNew (o := .tup ys) ht5)
          have hbd : Dt K (upd H4 t5 (.tup ys)) (.ref t5) (.tuple (bodsD p)) := by
            refine .tup (SqT.of upd_same) (DtAll.mono (StT.new ht5) (DtAll.of_get (by rw [hlen4, hbl]) fun i v d e1 e2 => ?_))
            obtain ⟨d', e3, e4⟩ := hy4 i v e1
            rw [e2] at e3
            cases e3
            exact e4
          generalize upd H4 t5 (.tup ys) = H5 at s5 hbd ⊢
          have hR5 := hR3.same s5
          have mv5 := mv3.trans (Mv.same s5)
          have hh5 : Dt K H5 f.hv (.tuple [.str k, .str s0, .tuple as]) := by
            have := hf3.1.same s5
            rwa [ehd] at this
          refine i_name ?_
          with_reducible refine seq_at (fun σ H6 => ∃ t6 z ds, σ = [some (.ref R.r), some f.hv, some t6, z] ∧ Same H5 H6 ∧ Dt K H6 t6 (.tuple ds) ∧ closeF p = .tuple (tupD p.head ++ ds) ∧ ds.length ≤ 2) (fun N hN => ?_) (fun σ H6 hc6 => ?_)
          · walk_at "go"
            refine rd_ix hh5 (n := 0) rfl rfl (fun u hu => ?_)
            obtain ⟨rfl, _⟩ := hu.strI
            walk_at "go"
            have hb2 : (bodsD p).length ≤ 2 := by unfold bodsD; cases p.fst <;> simp
            refine ifb (fun k1 => ?_) (fun k1 => ?_)
            · have k1 : kindOf p.head = "if" := by rw [hkd]; exact of_decide_eq_true k1
              walk_at "go"
              refine rd_lenT hbd ?_
              walk_at "go"
              refine ifb (fun k2 => ?_) (fun k2 => ?_)
              · have k2 : (bodsD p).length = 1 := by have := of_decide_eq_true k2; omega
                walk_at "go"
                refine ⟨by decide, fun p6 hp6 => ?_⟩
                walk_at "go"
                refine ⟨le1, fun p7 hp7 => ?_⟩
                have s6 := (sameNew (o := .tup []) hp6).trans (sameNew (o := .tup [.ref p6]) hp7)
                refine rd_catT (hbd.same s6) (.tup (SqT.of upd_same) (.cons ((Dt.empty (p := p6)).same (sameNew hp7)) .nil)) (by rw [k2]; decide) (fun u8 H8 s8 hu8 => ?_)
                walk_at "go"
                refine hN _ _ ⟨u8, _, _, rfl, s6.trans s8, hu8, ?_, by rw [List.length_append, k2]; decide⟩
                rw [close_eq, if_pos ⟨k1, k2⟩]
              · have k2 : ¬ (bodsD p).length = 1 := by have := of_decide_eq_false k2; omega
                walk_at "go"
                refine hN _ _ ⟨_, _, _, rfl, Same.refl _, hbd, ?_, hb2⟩
                rw [close_eq, if_neg (fun z => k2 z.2)]
            · have k1 : ¬ kindOf p.head = "if" := by rw [hkd]; exact of_decide_eq_false k1
              walk_at "go"
              refine hN _ _ ⟨_, _, _, rfl, Same.refl _, hbd, ?_, hb2⟩
              rw [close_eq, if_neg (fun z => k1 z.1)]
          · obtain ⟨t6, z, ds, e1, s6, hd6, hcl, hds⟩ := hc6
            subst e1
            have hR6 := hR5.same s6
            have mv6 := mv5.trans (Mv.same s6)
            walk_at "go"
            refine rd_mth (R := { R with fas := fg :: rg }) hR6 rfl ?_
            walk_at "go"
            refine ⟨{ R with fas := fg :: rg }, _, fg, rg, rfl, hR6, rfl, ?_⟩
            have hfg := (hR6.top (f := fg) (r := rg) rfl).2
            refine ⟨.inl ⟨rfl, _, SqL.of hfg⟩, ?_⟩
            walk_at "go"
            have hh6 := hh5.same s6
            refine rd_catT hh6 hd6 (by show 3 + ds.length ≤ sizeLine; unfold sizeLine; omega) (fun u9 H9 s9 hu9 => ?_)
            have hR9 := hR6.same s9
            have hfg9 := s9 _ _ hfg
            walk_at "go"
            refine ⟨fg.b, _, u9, rfl, rfl, hfg9, by have := hx12 fg (by rw [ef]; simp); unfold sizeLine; omega, ?_⟩
            have hu9 : Dt K H9 u9 (closeF p) := by rw [hcl, ehd]; exact hu9
            obtain ⟨hR10, mv10⟩ := hR9.addItem (f := fg) (r := rg) (p := g') (q := qs') rfl rfl hu9
            walk_at "go"
            exact q1 _ _ hR10 ((mv6.trans (Mv.same s9)).trans mv10)
end
end MH
end
section
set_option linter.all false
set_option maxRecDepth 100000
/-! the mathematics: words of lines, growing bodies -/
namespace MH
open PySem
theorem one_sign (c : Nat) : (⟨#[c]⟩ : Str).length = 1 := rfl
theorem split_ne (x : Str) (c : Nat) : Txt.split x ⟨#[c]⟩ ≠ [] := fun z => by
  have h := PyProof.Rows.split_len x c
  rw [z] at h
  have h2 : (0 : Int) ≤ PyProof.Rows.cnt c x.cps.toList := by
    unfold PyProof.Rows.cnt
    generalize (x.cps.toList.map fun n => PyData.str ⟨#[n]⟩) = l
    induction l with
    | nil => exact Int.le_refl 0
    | cons d r ih =>
      unfold PySem.Spec.countIn
      split <;> omega
  simp at h
  omega
theorem split_sum (x : Str) (c : Nat) : ((Txt.split x ⟨#[c]⟩).map (·.length)).sum + (Txt.split x ⟨#[c]⟩).length ≤ x.length + 1 := PyProof.Rows.split_weight x ⟨#[c]⟩ (by rw [one_sign]; exact Nat.le_refl _)
theorem mem_sum : ∀ {ws : List Str} {y : Str}, y ∈ ws → y.length + ws.length ≤ (ws.map (·.length)).sum + ws.length
  | w :: r, y, h => by
    rw [List.map_cons, List.sum_cons]
    rcases List.mem_cons.mp h with rfl | h
    · omega
    · have := mem_sum h
      simp only [List.length_cons]
      omega
theorem split_part {x y : Str} {c : Nat} (h : y ∈ Txt.split x ⟨#[c]⟩) : y.length ≤ x.length := by
  have h1 := mem_sum h
  have h2 := split_sum x c
  have h3 : 1 ≤ (Txt.split x ⟨#[c]⟩).length := List.length_pos_of_mem h
  omega
theorem split_count (x : Str) (c : Nat) : (Txt.split x ⟨#[c]⟩).length ≤ x.length + 1 := by
  have := split_sum x c
  omega
theorem sp_eq : (" " : Str) = ⟨#[32]⟩ := by decide
theorem nl_eq : ("\n" : Str) = ⟨#[10]⟩ := by decide
/-- bodies grow by one at most -/
theorem stepP_top {S S' : PR} {l : Str} {B : Nat} (h : ∀ p ∈ S.frames, p.top.length ≤ B) (e : stepP S l = some S') : ∀ p ∈ S'.frames, p.top.length ≤ B + 1 := by
  unfold stepP at e
  split at e
  · cases e
  · rename_i f r hS
    rw [hS] at h
    have hr : ∀ p ∈ r, p.top.length ≤ B := fun p hp => h p (List.mem_cons_of_mem _ hp)
    split at e
    · unfold stepElse at e
      split at e
      · cases e
        intro p hp
        rcases List.mem_cons.mp hp with rfl | hp
        · exact Nat.zero_le _
        · exact Nat.le_succ_of_le (hr p hp)
      · cases e
    · split at e
      · unfold stepEnd at e
        rw [hS] at e
        cases r with
        | nil => cases e
        | cons g r =>
          have e : (if S.fresh = true then none else some (⟨{ g with top := g.top ++ [closeF f] } :: r, S.sites, S.fresh⟩ : PR)) = some S' := e
          split at e
          · cases e
          · cases e
            intro p hp
            rcases List.mem_cons.mp hp with rfl | hp
            · rw [List.length_append]
              exact Nat.succ_le_succ (hr g List.mem_cons_self)
            · exact Nat.le_succ_of_le (hr p (List.mem_cons_of_mem _ hp))
      · unfold stepHead at e
        split at e
        · cases e
          intro p hp
          have hp : p ∈ (if _ then _ else _ : List PF) := hp
          split at hp
          · rcases List.mem_cons.mp hp with rfl | hp
            · rw [List.length_append]
              exact Nat.succ_le_succ (h f List.mem_cons_self)
            · exact Nat.le_succ_of_le (hr p hp)
          · rcases List.mem_cons.mp hp with rfl | hp
            · exact Nat.zero_le _
            · exact Nat.le_succ_of_le (h p hp)
        · cases e
end MH
end
section
set_option Elab.async false
set_option linter.all false
set_option maxRecDepth 100000
set_option maxHeartbeats 4000000
namespace MH
open PySem PySem.Spec PyProof.Rows L2
local macro_rules | `(tactic| walk_at "go") => `(tactic| repeat (first
  | with_reducible refine i_seq ?_ | with_reducible refine i_ifS ?_ | with_reducible refine i_ret ?_ | with_reducible refine i_drop ?_ | with_reducible refine i_asg ?_ | with_reducible refine i_name ?_
  | with_reducible refine i_next ?_ | with_reducible refine i_var (by with_unfolding_all exact rfl) ?_ | with_reducible refine i_c ?_ | with_reducible refine i_cons ?_ | with_reducible refine i_nil ?_ | with_reducible refine i_cb ?_
  | with_reducible refine i_op ?_ | with_reducible refine i_un ?_ | with_reducible refine i_call ?_ | with_reducible refine i_test ?_ | with_reducible refine i_b ?_ | with_reducible refine i_bl ?_ | with_reducible refine i_and ?_ | with_reducible refine i_or ?_
  | with_reducible refine i_not ?_ | with_reducible refine i_andV ?_ | with_reducible refine i_orV ?_ | with_reducible refine i_notV ?_ | with_reducible refine i_if ?_ | with_reducible refine i_chain ?_ | with_reducible refine i_tup ?_ | with_reducible refine i_lst ?_
  | with_reducible refine i_sl ?_ | with_reducible refine i_part ?_ | with_reducible refine i_nopart ?_ | with_reducible refine i_int ?_ | with_reducible refine i_bm ?_ | with_reducible refine i_bm0 ?_ | with_reducible refine i_I0 ?_ | with_reducible refine i_lc ?_ | with_reducible refine i_disp ?_ | with_reducible refine i_pairsC ?_ | with_reducible refine i_pairsN ?_ | with_reducible refine i_dget2 ?_ | with_reducible refine i_gsub ?_ | with_reducible refine i_raiseB ?_ | with_reducible refine i_make ?_ | with_reducible refine i_gcons ?_ | with_reducible refine i_gnil ?_ | with_reducible refine i_enum ?_ | with_reducible refine i_isN ?_ | with_reducible refine i_notN ?_ | with_reducible refine i_fld ?_ | with_reducible refine i_sfld ?_ | with_reducible refine i_meth ?_ | with_reducible refine i_rU ?_ | with_reducible refine i_dputN ?_ | with_reducible refine i_dput ?_ | with_reducible refine i_dget ?_ | with_reducible refine i_rng1 ?_ | with_reducible refine i_dinP ?_ | with_reducible refine i_raiseA ?_ | with_reducible refine i_lenSetS ?_ | with_reducible refine i_for ?_ | with_reducible refine i_yes ?_ | with_reducible refine i_eqS ?_ | with_reducible refine i_neS ?_ | with_reducible refine i_eqI ?_ | with_reducible refine i_neI ?_
  | with_reducible refine i_retN ?_ | with_reducible refine i_brk ?_ | with_reducible refine i_cont ?_ | with_reducible refine i_par ?_ | with_reducible refine i_par3 ?_ | with_reducible refine i_two ?_ | with_reducible refine i_three ?_
  | with_reducible refine i_itup ?_ | with_reducible refine i_ilist ?_ | with_reducible refine i_istr ?_ | with_reducible refine i_str ?_ | with_reducible refine i_m1 ?_ | with_reducible refine i_anystr ?_
  | with_reducible refine iteT ?_ | with_reducible refine iteF ?_))
section
variable {P : Program} {w : World} {K : Fg} {mg : Str → Option Value} {base : Heap}
theorem frs_top {H : Hp} {B : Nat} : ∀ {fs : List FA} {ps : List PF}, FrsOk K H fs ps → (∀ p ∈ ps, p.top.length ≤ B) → ∀ g ∈ fs, g.xs.length ≤ B
  | _, _, .cons h t, hb, g, hg => by
    rcases List.mem_cons.mp hg with rfl | hg
    · rw [h.2.1.length]
      exact hb _ List.mem_cons_self
    · exact frs_top t (fun p hp => hb p (List.mem_cons_of_mem _ hp)) g hg
def spRTake : Sp := fun vs H Q _ => ∃ R S line, vs = [.ref R.r, .str line] ∧ Rep K (cR K) H R S ∧ WfF S.frames ∧ (∀ p ∈ S.frames, p.top.length ≤ 10000) ∧ S.sites.length ≤ 40 ∧ line.length ≤ 100000 ∧
  (∀ S', stepP S line = some S' → ∀ H' R', Rep K (cR K) H' R' S' → Mv K H R H' R' → Q (.bl true) H') ∧ (stepP S line = none → ∀ H', Same H H' → Q (.bl false) H')
theorem kR_take (T : Tx K mg) : KeepsM P w K mg base CX0 3 (cR K) "take" ["self", "line"] (spRTake (K := K)) := by
  obtain ⟨fd, F⟩ := T.f_Reader_take
  refine ⟨_, fd, ?_, Tx.bd_Reader_take F, T.m_Reader_take⟩
  refine F.ok sc_Reader_take (fun vs H Q E h => ?_) (fun cdv A outer s H vs Q E hr h => ?_)
  · obtain ⟨R, S, line, rfl, _⟩ := h
    rfl
  · obtain ⟨R, S, line, rfl, hR, hwf, hx, hs40, hln, q1, q2⟩ := h
    refine ⟨_, PSs.nox (pss_cons (ps_set (i := 2) sc_Reader_take.nd rfl (by first | exact Or.inl rfl | exact Or.inr rfl) (pe_split (pv 1) pe_str))
      (pss_cons (ps_if (pt_cmpR op_eq (pv 1) pe_str (nomark _)) (pss_one (ps_ret (pe_mm0 (kR_take_else T) T.cl_Reader (hr.mono (by omega)) pass0 (pv 0)))) pss_nil)
      (pss_cons (ps_if (pt_cmpR op_eq (pv 1) pe_str (nomark _)) (pss_one (ps_ret (pe_mm0 (kR_take_end T) T.cl_Reader (hr.mono (by omega)) pass0 (pv 0)))) pss_nil)
      (pss_cons (ps_if (pt_not (pt_val (pe_mm (kR_is_head T) T.cl_Reader (hr.mono (by omega)) pass0 (pv 0) (pa_cons (pv 2) pa_nil)))) (pss_one (ps_ret pe_bl)) pss_nil)
      (pss_cons (ps_dput (hu_of hr) (pe_fld (pv 0) rfl) (pe_ix ix_list (pv 2) pe_int (fun _ _ => rfl)) pe_bl rfl)
      (pss_cons (ps_fld (pv 0) pe_bl rfl)
      (pss_cons (ps_if (pt_cmpR op_eq (pe_ix ix_list (pv 2) pe_int (fun _ _ => rfl)) pe_str (nomark _)) (pss_one (ps_expr (pe_bm PySem.F.plainAttrs_list PySem.F.slot_list_append PySem.F.type_list_append mt_append (pe_mm0 (kR_body T) T.cl_Reader (hr.mono (by omega)) pass0 (pv 0)) (pa_cons (pe_tup (pa_cons pe_str (pa_cons (pe_ix ix_list (pv 2) pe_int (fun _ _ => rfl)) (pa_cons (pe_ix ix_list (pv 2) pe_int (fun _ _ => rfl)) (pa_cons (pe_callTy (T := "tuple") (call_tupK (K := K) rfl) (by rfl) T.b_tuple (by decide +kernel) (pa_cons (pe_slice sl_list (pv 2) (po_some pe_int) po_none) pa_nil)) pa_nil))))) pa_nil)))) (pss_one (ps_expr (pe_bm PySem.F.plainAttrs_list PySem.F.slot_list_append PySem.F.type_list_append mt_append (pe_fld (pv 0) rfl) (pa_cons (pe_lst (pa_cons (pe_tup (pa_cons (pe_ix ix_list (pv 2) pe_int (fun _ _ => rfl)) (pa_cons (pe_ix ix_list (pv 2) pe_int (fun _ _ => rfl)) (pa_cons (pe_callTy (T := "tuple") (call_tupK (K := K) rfl) (by rfl) T.b_tuple (by decide +kernel) (pa_cons (pe_slice sl_list (pv 2) (po_some pe_int) po_none) pa_nil)) pa_nil)))) (pa_cons (pe_lst pa_nil) pa_nil))) pa_nil)))))
      (pss_one (ps_ret pe_bl))))))))), ?_⟩
    obtain ⟨p, qs, eS⟩ : ∃ p qs, S.frames = p :: qs := by
      cases h : S.frames with
      | nil => rw [h] at hwf; exact hwf.elim
      | cons p qs => exact ⟨p, qs, rfl⟩
    obtain ⟨f, r, ef⟩ : ∃ f r, R.fas = f :: r := by
      have := hR.frs
      rw [eS] at this
      cases h : R.fas with
      | nil => rw [h] at this; cases this
      | cons f r => exact ⟨f, r, rfl⟩
    have hstep : stepP S line = (if line = "else" then stepElse S p qs else if line = "end" then stepEnd S else stepHead S p qs (Txt.split line " ")) := by
      unfold stepP
      rw [eS]
    have hwf' : WfF (p :: qs) := by rw [← eS]; exact hwf
    have hfx := frs_top hR.frs hx
    walk_at "go"
    refine ⟨_, _, rfl, rfl, by decide, by unfold sizeLine; omega, fun l hl => ?_⟩
    walk_at "go"
    have s1 := sameNew (o := .lst ((Txt.split line " ").map V.str)) hl
    have hR1 := hR.same s1
    have hl1 : upd H l (.lst ((Txt.split line " ").map V.str)) l = some (.lst ((Txt.split line " ").map V.str)) := upd_same
    generalize upd H l (.lst ((Txt.split line " ").map V.str)) = H1 at s1 hR1 hl1 ⊢
    refine ifb (fun k1 => ?_) (fun k1 => ?_)
    · rw [if_pos (of_decide_eq_true k1)] at hstep
      walk_at "go"
      refine rd_mth hR1 rfl ?_
      walk_at "go"
      exact ⟨R, S, f, r, p, qs, rfl, hR1, ef, eS, hwf', fun S' e H' R' h1 h2 => q1 S' (hstep.trans e) H' R' h1 ((Mv.same s1).trans h2), fun e H' s2 => q2 (hstep.trans e) H' (s1.trans s2)⟩
    rw [if_neg (of_decide_eq_false k1)] at hstep
    walk_at "go"
    refine ifb (fun k2 => ?_) (fun k2 => ?_)
    · rw [if_pos (of_decide_eq_true k2)] at hstep
      walk_at "go"
      refine rd_mth hR1 rfl ?_
      walk_at "go"
      exact ⟨R, S, f, r, p, qs, rfl, hR1, ef, eS, hwf', fun g hg => Nat.lt_of_le_of_lt (hfx g hg) (by decide), fun S' e H' R' h1 h2 => q1 S' (hstep.trans e) H' R' h1 ((Mv.same s1).trans h2), fun e H' s2 => q2 (hstep.trans e) H' (s1.trans s2)⟩
    rw [if_neg (of_decide_eq_false k2)] at hstep
    obtain ⟨w0, wr, ews⟩ : ∃ w0 wr, Txt.split line " " = w0 :: wr := by
      cases h : Txt.split line " " with
      | nil => rw [sp_eq] at h; exact absurd h (split_ne _ _)
      | cons a b => exact ⟨a, b, rfl⟩
    have hpart : ∀ x ∈ w0 :: wr, x.length ≤ sizeLine := fun x hx => by
      rw [← ews, sp_eq] at hx
      have := split_part hx
      unfold sizeLine
      omega
    have hcount : (w0 :: wr).length ≤ 100001 := by
      have := split_count line 32
      rw [← sp_eq, ews] at this
      omega
    rw [ews] at hstep hl1
    walk_at "go"
    refine rd_mth hR1 rfl ?_
    walk_at "go"
    refine ⟨R, S, f, r, p, qs, w0, wr, l, rfl, hR1, ef, eS, hl1, hpart, by unfold sizeLine; omega, fun H2 s2 => ?_⟩
    walk_at "go"
    have s12 := s1.trans s2
    have hR2 := hR1.same s2
    have hl2 := s2 _ _ hl1
    cases hok : (wordsOk (w0 :: wr) && roomFor S p (w0 :: wr)) with
    | false =>
      refine ift rfl ?_
      walk_at "go"
      exact q2 (by rw [hstep]; unfold stepHead; rw [hok]; rfl) H2 s12
    | true =>
      refine ife rfl ?_
      have hst : stepP S line = some ⟨if w0 = "do" then { p with top := p.top ++ [itemOf (w0 :: wr)] } :: qs else ⟨headOf (w0 :: wr), none, []⟩ :: p :: qs, S.sites ++ [(w0 :: wr).getD 1 Str.empty], false⟩ := by
        rw [hstep]
        unfold stepHead
        rw [if_pos hok]
        rfl
      have q1 := q1 _ hst
      rw [Bool.and_eq_true] at hok
      obtain ⟨hwo, hro⟩ := hok
      unfold wordsOk at hwo
      unfold roomFor at hro
      simp only [Bool.and_eq_true, decide_eq_true_eq] at hwo hro
      obtain ⟨hw1, hw2, hw3, hw4⟩ := hwo
      obtain ⟨hr1, hr2, hr3, hr4⟩ := hro
      have hlo : 2 ≤ leastOf ((w0 :: wr).getD 0 Str.empty) := by
        unfold leastOf
        split <;> decide
      obtain ⟨w1, wt, rfl⟩ : ∃ w1 wt, wr = w1 :: wt := by
        cases wr with
        | nil => have h1 : [w0].length = 1 := rfl; omega
        | cons a b => exact ⟨a, b, rfl⟩
      have hr1 : w1 ∉ S.sites := hr1
      have q1 : ∀ (H' : Hp) (R' : RA), Rep K (cR K) H' R' ⟨if w0 = "do" then { p with top := p.top ++ [itemOf (w0 :: w1 :: wt)] } :: qs else ⟨headOf (w0 :: w1 :: wt), none, []⟩ :: p :: qs, S.sites ++ [w1], false⟩ → Mv K H R H' R' → Q (.bl true) H' := q1
      have e0 : atI ((w0 :: w1 :: wt).map V.str) 0 = some (.str w0) := atI_nat (j := 0) rfl
      have e1 : atI ((w0 :: w1 :: wt).map V.str) 1 = some (.str w1) := atI_nat (j := 1) rfl
      walk_at "go"
      refine rd_sites hR2 T.cl_Reader T.na_Reader_sites ?_
      walk_at "go"
      refine rd_ixL hl2 e1 ?_
      refine ⟨R.sd, _, rfl, DPut.k (k := .inr w1) hR2.dict (by rw [siteK_len, hR2.sites]; unfold sizeLine; omega), ?_⟩
      rw [hR2.sites, putK_siteK _ _ hr1]
      obtain ⟨hR3, mv3⟩ := hR2.setSites (S.sites ++ [w1])
      walk_at "go"
      refine rd_setFresh hR3 T.cl_Reader T.na_Reader_is_fresh_else false ?_
      obtain ⟨hR4, mv4⟩ := hR3.setFresh false
      have hl4 := (mv3.trans mv4).off l _ hl2 (hR.out hl)
      have mv4 := ((Mv.same s12).trans mv3).trans mv4
      have es4 : S.sites ++ [w1] = S.sites ++ [w1] := rfl
      generalize hR4e : ({ ({ R with sites := S.sites ++ [w1] } : RA) with fr := false } : RA) = R4 at hR4 mv4 hl4 ⊢
      have er : R.r = R4.r := by rw [← hR4e]
      have ef4 : R4.fas = f :: r := by rw [← hR4e]; exact ef
      generalize upd (upd H2 R.sd (.dK (siteK (S.sites ++ [w1])))) R.r (R4.ins (cR K)) = H4 at hR4 mv4 hl4 ⊢
      rw [er]
      walk_at "go"
      refine rd_ixL hl4 e0 ?_
      walk_at "go"
      have hsl : ∀ k : Nat, (∀ x ∈ (w0 :: w1 :: wt).drop k, x.length ≤ sizeLine) := fun k x hx => hpart x (List.mem_of_mem_drop hx)
      have hp0 := hpart w0 (by simp)
      have hp1 := hpart w1 (by simp)
      refine ifb (fun k3 => ?_) (fun k3 => ?_)
      · have k3 := of_decide_eq_true k3
        rw [if_pos k3] at q1
        have hlo3 : leastOf ((w0 :: w1 :: wt).getD 0 Str.empty) = 3 := by
          show (if w0 = "do" then 3 else 2) = 3
          rw [if_pos k3]
        obtain ⟨w2, wu, rfl⟩ : ∃ w2 wu, wt = w2 :: wu := by
          cases wt with
          | nil => have h1 : [w0, w1].length = 2 := rfl; omega
          | cons a b => exact ⟨a, b, rfl⟩
        have e2 : atI ((w0 :: w1 :: w2 :: wu).map V.str) 2 = some (.str w2) := atI_nat (j := 2) rfl
        have hp2 := hpart w2 (by simp)
        walk_at "go"
        refine rd_mth hR4 rfl ?_
        walk_at "go"
        refine ⟨R4, _, f, r, rfl, hR4, ef4, ?_⟩
        have hfb := (hR4.top ef4).2
        refine ⟨.inl ⟨rfl, _, SqL.of hfb⟩, ?_⟩
        walk_at "go"
        refine rd_ixL hl4 e1 ?_
        walk_at "go"
        refine rd_ixL hl4 e2 ?_
        walk_at "go"
        refine rd_slL hl4 (fun a5 ha5 => ?_)
        rw [show cutV ((w0 :: w1 :: w2 :: wu).map V.str) (some 3) none = wu.map V.str from cutV_drop _ 3]
        walk_at "go"
        refine rd_tupL upd_same (fun a6 ha6 => ?_)
        walk_at "go"
        refine ⟨by show 4 ≤ sizeLine; decide, fun a7 ha7 => ?_⟩
        have s7 := ((sameNew (o := .lst (wu.map V.str)) ha5).trans (sameNew (o := .tup (wu.map V.str)) ha6)).trans (sameNew (o := .tup [V.str "do", V.str w1, V.str w2, V.ref a6]) ha7)
        have hit : Dt K (upd (upd (upd H4 a5 (.lst (wu.map V.str))) a6 (.tup (wu.map V.str))) a7 (.tup [V.str "do", V.str w1, V.str w2, V.ref a6])) (.ref a7) (itemOf (w0 :: w1 :: w2 :: wu)) :=
          .tup (SqT.of upd_same) (.cons (.str _ (by decide)) (.cons (.str _ hp1) (.cons (.str _ hp2) (.cons ((Dt.tup (SqT.of upd_same) (DtAll.strs (hsl 3))).same (sameNew ha7)) .nil))))
        generalize upd (upd (upd H4 a5 (.lst (wu.map V.str))) a6 (.tup (wu.map V.str))) a7 (.tup [V.str "do", V.str w1, V.str w2, V.ref a6]) = H7 at s7 hit ⊢
        have hR7 := hR4.same s7
        refine ⟨f.b, _, _, rfl, rfl, s7 _ _ hfb, by have := hfx f (by rw [ef]; simp); unfold sizeLine; omega, ?_⟩
        obtain ⟨hR8, mv8⟩ := hR7.addItem ef4 eS hit
        walk_at "go"
        exact q1 _ _ hR8 ((mv4.trans (Mv.same s7)).trans mv8)
      · have k3 := of_decide_eq_false k3
        rw [if_neg k3] at q1
        walk_at "go"
        refine rd_tests hR4 T.cl_Reader T.na_Reader_tests ?_
        refine ⟨.inl ⟨rfl, _, SqL.of hR4.tests⟩, ?_⟩
        walk_at "go"
        refine rd_ixL hl4 e0 ?_
        walk_at "go"
        refine rd_ixL hl4 e1 ?_
        walk_at "go"
        refine rd_slL hl4 (fun a5 ha5 => ?_)
        rw [show cutV ((w0 :: w1 :: wt).map V.str) (some 2) none = wt.map V.str from cutV_drop _ 2]
        walk_at "go"
        refine rd_tupL upd_same (fun a6 ha6 => ?_)
        walk_at "go"
        refine ⟨by show 3 ≤ sizeLine; decide, fun a7 ha7 => ?_⟩
        walk_at "go"
        refine ⟨by decide, fun a8 ha8 => ?_⟩
        walk_at "go"
        refine ⟨by show 2 ≤ sizeLine; decide, fun a9 ha9 => ?_⟩
        walk_at "go"
        have s7 := ((sameNew (o := .lst (wt.map V.str)) ha5).trans (sameNew (o := .tup (wt.map V.str)) ha6)).trans (sameNew (o := .tup [V.str w0, V.str w1, V.ref a6]) ha7)
        have hit : Dt K (upd (upd (upd H4 a5 (.lst (wt.map V.str))) a6 (.tup (wt.map V.str))) a7 (.tup [V.str w0, V.str w1, V.ref a6])) (.ref a7) (headOf (w0 :: w1 :: wt)) :=
          .tup (SqT.of upd_same) (.cons (.str _ hp0) (.cons (.str _ hp1) (.cons ((Dt.tup (SqT.of upd_same) (DtAll.strs (hsl 2))).same (sameNew ha7)) .nil)))
        generalize upd (upd (upd H4 a5 (.lst (wt.map V.str))) a6 (.tup (wt.map V.str))) a7 (.tup [V.str w0, V.str w1, V.ref a6]) = H7 at s7 hit ha8 ha9 ⊢
        have hR7 := hR4.same s7
        have s8 := sameNew (o := .lst []) ha8
        have s9 := sameNew (o := .lst [.ref a7, .ref a8]) ha9
        have ne98 : a9 ≠ a8 := fun z => by
          rw [z, upd_same] at ha9
          cases ha9
        have ha97 : H7 a9 = none := by rw [upd_ne ne98] at ha9; exact ha9
        have s79 := s8.trans s9
        refine ⟨R4.t, _, _, rfl, rfl, s79 _ _ hR7.tests, ?_, ?_⟩
        · rw [List.length_map, List.length_reverse, hR4.frs.length]
          show S.frames.length < sizeLine
          unfold sizeLine
          omega
        · obtain ⟨hR8, mv8⟩ := hR7.push s79 ha97 ha8 ne98 upd_same (s9 _ _ upd_same) (hit.same s79)
          walk_at "go"
          refine q1 _ _ ?_ ((mv4.trans (Mv.same s7)).trans mv8)
          rw [← eS]
          exact hR8
end
end MH
end
section
set_option linter.all false
set_option maxRecDepth 100000
/-! the mathematics: a reader's whole way -/
namespace MH
open PySem
def stepsP : PR → List Str → Option PR
  | S, [] => some S
  | S, l :: r => match stepP S l with
    | none => none
    | some S' => stepsP S' r
theorem stepsP_snoc : ∀ (ls : List Str) (S : PR) (x : Str), stepsP S (ls ++ [x]) = (match stepsP S ls with | none => none | some S' => stepP S' x)
  | [], S, x => by
    show (match stepP S x with | none => none | some S' => some S') = stepP S x
    cases stepP S x <;> rfl
  | l :: r, S, x => by
    show (match stepP S l with | none => none | some S' => stepsP S' (r ++ [x])) = (match (match stepP S l with | none => none | some S' => stepsP S' r) with | none => none | some S' => stepP S' x)
    cases stepP S l with
    | none => rfl
    | some S' => exact stepsP_snoc r S' x
theorem stepsP_take {ls : List Str} {i : Nat} {x : Str} (S : PR) (e : ls[i]? = some x) : stepsP S (ls.take (i + 1)) = (match stepsP S (ls.take i) with | none => none | some S' => stepP S' x) := by
  rw [List.take_add_one, e]
  exact stepsP_snoc _ _ _
theorem runP_all : ∀ (ls : List Str) (S S' : PR), stepsP S ls = some S' → runP S ls = (ls.length, S')
  | [], S, S', e => by cases e; rfl
  | l :: r, S, S', e => by
    have e : (match stepP S l with | none => none | some S1 => stepsP S1 r) = some S' := e
    show (match stepP S l with | none => (0, ⟨[], [], false⟩) | some S1 => ((runP S1 r).1 + 1, (runP S1 r).2) : Nat × PR) = _
    cases h : stepP S l with
    | none => rw [h] at e; cases e
    | some S1 =>
      rw [h] at e
      have := runP_all r S1 S' e
      simp [this]
theorem runP_bad : ∀ (ls : List Str) (S S' : PR) (i : Nat) (x : Str), ls[i]? = some x → stepsP S (ls.take i) = some S' → stepP S' x = none → runP S ls = (i, ⟨[], [], false⟩)
  | [], S, S', i, x, e, _, _ => by simp at e
  | l :: r, S, S', 0, x, e, h, hn => by
    cases h
    have e : l = x := by simpa using e
    subst e
    show (match stepP S l with | none => (0, ⟨[], [], false⟩) | some S1 => ((runP S1 r).1 + 1, (runP S1 r).2) : Nat × PR) = _
    rw [hn]
  | l :: r, S, S', i + 1, x, e, h, hn => by
    have h : (match stepP S l with | none => none | some S1 => stepsP S1 (r.take i)) = some S' := h
    show (match stepP S l with | none => (0, ⟨[], [], false⟩) | some S1 => ((runP S1 r).1 + 1, (runP S1 r).2) : Nat × PR) = _
    cases hl : stepP S l with
    | none => rw [hl] at h; cases h
    | some S1 =>
      rw [hl] at h
      have := runP_bad r S1 S' i x (by simpa using e) h hn
      simp [this]
theorem readP_bad {ls : List Str} {S : PR} {i : Nat} {x : Str} (e : ls[i]? = some x) (h : stepsP startP (ls.take i) = some S) (hn : stepP S x = none) : readP ls = (i, none) := by
  unfold readP
  rw [runP_bad ls startP S i x e h hn]
theorem readP_open {ls : List Str} {S : PR} (h : stepsP startP ls = some S) (hl : 1 < S.frames.length) : readP ls = (ls.length, none) := by
  unfold readP
  rw [runP_all ls startP S h]
  match hS : S.frames, hl with
  | f :: g :: r, _ => simp [hS]
theorem readP_all {ls : List Str} {S : PR} {f : PF} (h : stepsP startP ls = some S) (hS : S.frames = [f]) : readP ls = (ls.length, some (.tuple [.str "program", .tuple f.top])) := by
  unfold readP
  rw [runP_all ls startP S h]
  simp [hS]
theorem stepP_sites {S S' : PR} {l : Str} (h : S.sites.length ≤ 40) (e : stepP S l = some S') : S'.sites.length ≤ 40 := by
  unfold stepP at e
  split at e
  · cases e
  · rename_i f r hS
    split at e
    · unfold stepElse at e
      split at e
      · cases e; exact h
      · cases e
    · split at e
      · unfold stepEnd at e
        rw [hS] at e
        cases r with
        | nil => cases e
        | cons g r =>
          have e : (if S.fresh = true then none else some (⟨{ g with top := g.top ++ [closeF f] } :: r, S.sites, S.fresh⟩ : PR)) = some S' := e
          split at e
          · cases e
          · cases e; exact h
      · unfold stepHead at e
        split at e
        · rename_i hok
          rw [Bool.and_eq_true] at hok
          have hr := hok.2
          unfold roomFor at hr
          simp only [Bool.and_eq_true, decide_eq_true_eq] at hr
          cases e
          show (S.sites ++ [_]).length ≤ 40
          rw [List.length_append]
          have := hr.2.1
          simp only [List.length_singleton]
          omega
        · cases e
theorem kept_split : Txt.split (("alike args back base body cannot clash cut do done edit else end first if join journal least move names no none nothing open owners put redo ring row sets " : Str) ++ ("size slice store take turn undo version what while yes" : Str)) " " = keptS := by
  decide +kernel
theorem isName_eq (x : Str) : isName x = (decide (1 ≤ x.length ∧ x.length ≤ 8) && ((x.cps.toList.filter fun c => !decide (c ∈ letters)).isEmpty && !decide (x ∈ keptS))) := by
  unfold isName
  have h1 : x.cps.toList.all (fun c => letters.contains c) = (x.cps.toList.filter fun c => !decide (c ∈ letters)).isEmpty := by
    rw [Bool.eq_iff_iff, List.all_eq_true, List.isEmpty_iff, List.filter_eq_nil_iff]
    constructor
    · intro h c hc z
      have h2 := List.contains_iff_mem.mp (h c hc)
      rw [decide_eq_true h2] at z
      cases z
    · intro h c hc
      have h2 := h c hc
      by_cases hm : c ∈ letters
      · exact List.contains_iff_mem.mpr hm
      · rw [decide_eq_false hm] at h2
        exact absurd rfl h2
  have h2 : keptS.contains x = decide (x ∈ keptS) := by
    rw [Bool.eq_iff_iff, List.contains_iff_mem, decide_eq_true_iff]
  rw [h1, h2, Bool.decide_and]
  cases decide (1 ≤ x.length) <;> cases decide (x.length ≤ 8) <;> cases decide (x ∈ keptS) <;> simp
end MH
end
section
set_option Elab.async false
set_option linter.all false
set_option maxRecDepth 100000
set_option maxHeartbeats 2000000
/-! engine: instances made, enumerate -/
namespace MH
open PySem PySem.Spec PyProof.Rows L2
structure KeepsI (P : Program) (w : World) (K : Fg) (mg : Str → Option Value) (base : Heap) (CX : CXT) (k : Nat) (C : Addr) (ps : List Str) (sp : Sp) : Prop where
  ex : ∃ f fd, FnOk P w K mg base CX k f fd ps sp ∧ Binds K fd ps [] ∧ Mk K C f
section
variable {X : Cx} {CX : CXT} {k : Nat} {ps : List Str} {sp : Sp} {E : XK} {C : Addr} {x : Str} {p pos : Pos}
theorem pe_new0 (F : KeepsI X.prog X.w X.K X.mg X.base CX k C ps sp) (hr : Room (k + 1) X.A) (hx : Passes CX X E) (hm : X.mg x = some (.ref C)) (hg : Gl X x := by rfl) (hdb : (x == ("__debug__" : Str)) = false := by decide) : PE X (.Call (.Name x p) [] [] pos) (tMake C sp [] E tNil) := by
  obtain ⟨f, fd, h1, h2, h3⟩ := F.ex
  exact pe_make0 h3 h1 hr hg hm h2 .nil hx hdb
end
section
variable {K : Fg} {t : TA} {tg : TG} {u : TGs} {σ : L2.St} {H : Hp} {Q : VK} {C : Addr} {sp : Sp} {dvs : List V} {E : XK}
theorem i_make (h : t σ H fun vs H1 => ∀ x dx, H1 x = none → H1 dx = none → dx ≠ x → sp (.ref x :: (vs ++ dvs)) (upd (upd H1 dx (.own x)) x (.ins C dx [])) (fun v H2 => v = .non ∧ Q (.ref x) H2) E) : tMake C sp dvs E t σ H Q := h
theorem i_gcons {v : V} {r : List V} {Q : L2.St → Hp → Prop} (h : tg v σ H fun σ' H' => u r σ' H' Q) : gCons tg u (v :: r) σ H Q := ⟨v, r, rfl, h⟩
theorem i_gnil {Q : L2.St → Hp → Prop} (h : Q σ H) : gNil [] σ H Q := ⟨rfl, h⟩
theorem i_enum {R : It → Hp → Prop} (h : t σ H fun vs H1 => ∃ a xs, vs = [.ref a] ∧ SqL K H1 a xs ∧ R (Ite K a) H1) : iEnum K t σ H R := h
theorem rd_gtup {T : Addr} {xs : List V} {n : Nat} {ts : TGs} {Q : L2.St → Hp → Prop} (h : H T = some (.tup xs)) (e : xs.length = n) (q : ts xs σ H Q) : gTup K n ts (.ref T) σ H Q := ⟨T, xs, rfl, SqT.of h, e, q⟩
/-- for i, x in enumerate(texts) -/
theorem forb_enum {a : Addr} {ls : List Str} {g : TG} {tb : TS} {D : Ends} {σ : L2.St} {H1 : Hp} (Pv : Nat → L2.St → Hp → Prop) (h0 : Pv 0 σ H1) (hl : ∀ i σ H, i ≤ ls.length → Pv i σ H → H a = some (.lst (ls.map V.str)))
    (hs : ∀ (i : Nat) (x : Str) σ H T, ls[i]? = some x → Pv i σ H → H T = none → g (.ref T) σ (upd H T (.tup [.int (i : Nat), .str x])) fun σ2 H2 => tb { D with nx := Pv (i + 1), ct := Pv (i + 1), bk := D.nx } σ2 H2) (hq : ∀ σ H, Pv ls.length σ H → D.nx σ H) : ForB (Ite K a) H1 g tb D σ := by
  refine ⟨fun i m σ H => m = ls.length - i ∧ i ≤ ls.length ∧ Pv i σ H, ⟨ls.length, by simp, Nat.zero_le _, h0⟩, ?_⟩
  rintro i m σ H ⟨rfl, hi, p⟩
  have q : SqL K H a (ls.map V.str) := SqL.of (hl i σ H hi p)
  by_cases hlt : i < ls.length
  · refine .inr ⟨⟨_, .str ls[i], q, by rw [List.getElem?_map, List.getElem?_eq_getElem hlt]; rfl⟩, Pv (i + 1), fun σ' H' p' => ⟨ls.length - (i + 1), by omega, rfl, hlt, p'⟩, fun v H' y => ?_⟩
    obtain ⟨T, x, rfl, hT, rfl, e⟩ := y
    have e := e _ q
    rw [List.getElem?_map, List.getElem?_eq_getElem hlt] at e
    cases e
    exact hs i ls[i] σ H T (List.getElem?_eq_getElem hlt) p hT
  · have e : i = ls.length := by omega
    subst e
    exact .inl ⟨⟨_, q, by rw [List.length_map]; exact Nat.le_refl _⟩, hq σ H p⟩
theorem rd_gtupD {T : Addr} {ds : List PyData} {n : Nat} {ts : TGs} {Q : L2.St → Hp → Prop} (h : Dt K H (.ref T) (.tuple ds)) (e : ds.length = n) (q : ∀ xs, DtAll K H xs ds → ts xs σ H Q) : gTup K n ts (.ref T) σ H Q := by
  obtain ⟨a, xs, ea, h1, h2⟩ := h.ref
  cases ea
  exact ⟨T, xs, rfl, h1, by rw [h2.length]; exact e, q xs h2⟩
end
end MH
end
section
set_option Elab.async false
set_option linter.all false
set_option maxRecDepth 100000
set_option maxHeartbeats 4000000
/-! engine: BadText's __init__ -/
namespace MH
open PySem PySem.Spec PyProof.Rows L2
abbrev cB (K : Fg) : Addr := He.ga K "BadText"
abbrev fB (K : Fg) : Addr := He.ma K (cB K) "__init__"
/-- what the written part says of BadText -/
structure BadC (P : Program) (K : Fg) : Prop where
  T : OexC K (cB K)
  q : PySem.W.excInitIn K (cB K) He.veBase "ValueError.__new__" = true
  ini : PySem.W.findIn K (.ref (cB K)) "__init__" = some (some (.ref (fB K)))
  tI : PySem.W.typeIn K (.ref (fB K)) = some (.type "function")
  fn : ∃ cc cda oc od kV doc pm an ct osl ccl cdd vs ccs file tf cl cld csl,
    K.lookup (fB K) = some ⟨oc, od, .func (PySem.W.fnX "__init__" "BadText.__init__" (defArgs s_BadText_init) (defBody s_BadText_init) (defScope s_BadText_init) [("__class__", cc)] .none kV doc pm an (.ref cda) ct), osl⟩ ∧ PySem.W.codeIn K (.ref cda) "BadText.__init__" = true ∧
    K.lookup cda = some ⟨ccl, cdd, .fields vs, ccs⟩ ∧ vs[2]? = some (.str file tf) ∧ ((P.main.file : Str) == file) = true ∧ K.lookup cc = some ⟨cl, cld, .cell (some (.ref (cB K))), csl⟩
  top : (P.main.scope.names.lookup ("super" : Str)).isSome = false
  sub : PySem.W.mroIn K (cB K) (.ref (cB K)) = some true
  opq : PySem.W.nsIn K PySem.cStatics "thirdparty.any" = some none
  sin : PySem.W.ks_superIn K (cB K) (cB K) "__init__" = some (some (.builtin "ValueError.__init__"))
  sve : PySem.W.subIn K (.ref (cB K)) (.type "ValueError") = some true
  noat : PySem.W.findIn K (.ref (cB K)) "at" = some none
  kfn : PySem.W.keepIn K (.ref (fB K)) = true
section
variable {P : Program} {w : World} {K : Fg} {mg : Str → Option Value} {base : Heap}
abbrev nB : List Str := ["self", "at", "__class__"]
theorem sc_B : NdefX.NScope nB ["self", "at"] ["__class__"] (defScope s_BadText_init) := ⟨rfl, rfl, rfl, by decide +kernel, rfl, by decide +kernel, by decide +kernel, by decide +kernel, by decide +kernel⟩
theorem look1 {k y : Str} {c d : Addr} (h : [(k, c)].lookup y = some d) : y = k ∧ d = c := by
  rw [List.lookup_cons] at h
  cases e : y == k with
  | true =>
    rw [e] at h
    exact ⟨eq_of_beq e, (Option.some.inj h).symm⟩
  | false =>
    rw [e] at h
    cases h
/-- self is a new exception; behind it it has its dict -/
def spBad : Sp := fun vs H Q _ => ∃ a y, vs = [.ref a, y] ∧ H a = some (exo a (cB K) none) ∧ ∀ dx, H dx = none → dx ≠ a → Q .non (upd (upd H dx (exd dx [("at", y)])) a (exo a (cB K) (some dx)))
theorem bad_init (B : BadC P K) (sup : mg "super" = none) : ∃ fd, FnOk P w K mg base CX0 1 (fB K) fd ["self", "at"] (spBad (K := K)) ∧ Binds K fd ["self", "at"] [] := by
  obtain ⟨cc, cda, oc, od, kV, doc, pm, an, ct, osl, ccl, cdd, cvs, ccs, file, tf, cl, cld, csl, lk, hcd, lkc, hv2, hfile, lkcell⟩ := B.fn
  refine ⟨PySem.W.fnX "__init__" "BadText.__init__" (defArgs s_BadText_init) (defBody s_BadText_init) (defScope s_BadText_init) [("__class__", cc)] .none kV doc pm an (.ref cda) ct, ⟨fun vs H Q E h => ?_, fun A outer s H args us vs Q E hr e0 hb r hsp => ?_⟩, .all fun us hl => match us, hl with | [_, _], _ => rfl⟩
  · obtain ⟨a, y, rfl, _⟩ := h
    rfl
  · obtain ⟨a, y, rfl, ha, q⟩ := hsp
    have KX : K.In s.heap := e0.mod.kin.keeps fun b o e => (e0.bs b o e).1
    have lim : s.heap.NoLimit := e0.mod.nolimit.keeps fun b o e => (e0.bs b o e).1
    have S := sc_B
    have hcc : H cc = none := (e0.bs _ _ (e0.mod.kin _ _ lkcell)).2
    have C : NdefX.CellsAt [(("__class__" : Str), cc)] ["__class__"] [some (.ref (cB K))] s.heap H := by
      refine ⟨rfl, fun y c h => ?_, fun x y c h1 h2 => ?_, fun i y h => ?_⟩
      · obtain ⟨_, rfl⟩ := look1 h
        exact ⟨hcc, _, _, KX _ _ lkcell, rfl⟩
      · rw [(look1 h1).1, (look1 h2).1]
      · cases i with
        | zero =>
          cases h
          refine ⟨cc, rfl, fun v hv => ?_⟩
          cases hv
          exact ⟨.ref (cB K), rfl, _, KX _ _ lkcell, rfl⟩
        | succ i => simp at h
    refine codeAny_call_function hr.depth (KX _ _ lk) rfl S.co S.gen rfl (PySem.W.codeRec_of KX hcd) (hb _ _ _ _ ?_)
    refine wpAny_newFunctionEnv S.nocell (fun ⟨n, _⟩ hy => S.par n (List.of_mem_zip hy).1) (fun h₁ hns hsb => ⟨lim.fresh _ hsb, ?_⟩) S.kind
    have kp : ∀ b o, s.heap.get? b = some o → h₁.get? b = some o := fun b o e => hsb.extBut b o (Nat.ne_of_lt (Heap.lt_size e)) (Heap.get?_push_of_some _ e)
    have I := NdefX.inv_startN (CX := CX0) (E := E) (F := ⟨"__init__", "BadText.__init__", defArgs s_BadText_init, defBody s_BadText_init, defScope s_BadText_init, [("__class__", cc)], cda⟩) (f := fB K) S hr.hd e0 rfl r C hns kp (tk := s.toks + (["self", "at"].zip us).length)
    show codeAny _ _ (.func (defBody s_BadText_init) (NdefX.envF ⟨"__init__", "BadText.__init__", defArgs s_BadText_init, defBody s_BadText_init, defScope s_BadText_init, [("__class__", cc)], cda⟩ (fB K) s.heap.objs.size)) _ _
    refine ks_codeAny_funcAt ?_
    refine ks_wpAt_execs_cons (ks_wpAt_Expr_any (ks_wpAt_MethodCall ?_))
    have KX1 : K.In h₁ := KX.keeps kp
    obtain ⟨nm, qn, N, bs, bm, sn, sub, ab, col, dd, k0, k1, k2, k3, k5, hC, hbm⟩ := B.T.cls
    obtain ⟨t1, hx⟩ := exo_at I.hok ha
    have ksup : (defScope s_BadText_init).names.lookup ("super" : Str) = some .globalImplicit := rfl
    have kcls : (defScope s_BadText_init).names.lookup ("__class__" : Str) = some .free := rfl
    have kself : (defScope s_BadText_init).names.lookup ("self" : Str) = some .local := rfl
    refine ks_wpAt_super_base (f := fB K) (cc := cda) ksup kcls rfl rfl (KX1 _ _ lk) rfl rfl rfl (KX1 _ _ lkc) rfl hv2 hfile B.top ?_
    refine PySem.W.ks_loadName_global S.kind ksup ?_
    obtain ⟨mb, b1, b2⟩ := e0.mod.blt
    refine Calls.loadGlobal_builtin (mg := mg) (mb := mb) (v := .type "super") (e0.mod.glob.keeps I.bk) sup (b1.keeps I.bk) ((b2 "super" (by decide)).trans (by decide +kernel)) ⟨rfl, ?_⟩
    refine wpAny_loadName_free S.kind kcls rfl ⟨_, KX1 _ _ lkcell, rfl⟩ ?_
    cases r with
    | @cons _ u0 _ ur ra rr =>
    cases rr with
    | @cons _ u1 _ ur2 ry rr =>
    cases rr
    obtain rfl : u0 = Value.ref a := ra
    refine wpAny_loadName_local S.kind kself hns rfl ?_
    have hC1 := KX1 _ _ hC
    refine ks_wpAny_isType_cls hC1 rfl ⟨rfl, ?_⟩
    refine ks_wpAny_call_super hC1 rfl hx rfl (fun c e => by cases e) (PySem.W.looks_mroIn KX1 B.sub) (fun h2 e2 kk2 => ?_)
    have KX2 : K.In h2 := KX1.keeps kk2
    have hcl : ∃ cd, PySem.W.clsIn K (cB K) = some cd ∧ cd.mro = .ref (cB K) :: bm := by
      refine ⟨{ name := nm, bases := bs, mro := .ref (cB K) :: bm, ns := N, qualname := qn, hasDict := true, slotNames := sn, subclasses := sub, abstract := ab, collection := col, hasDel := false }, ?_, rfl⟩
      unfold PySem.W.clsIn
      rw [hC]
    obtain ⟨cd, hcd1, hcd2⟩ := hcl
    have hsin := B.sin
    unfold PySem.W.ks_superIn at hsin
    rw [hcd1, Option.bind_some] at hsin
    have IA : PySem.W.InstAt h2 a _ (cB K) none := ⟨kk2 _ _ hx, rfl, rfl, trivial⟩
    refine PySem.W.kxs_getMethod PySem.W.kxs_ValueError e2 (PySem.W.looks_opaque KX2 B.opq) (l₀ := cd.mro) (fun A Q E s k q => wpAny_bind ((PySem.W.looks_clsIn KX2 hcd1) A _ E s k (wpAny_pure q))) rfl KX2 hsin (IA.type.andThen (PySem.W.looks_subIn KX2 B.sve)) (PySem.W.ks_ne KX2 IA hcd1) rfl ?_
    have kk3 : ∀ b o, h₁.get? b = some o → (h2.push (PySem.W.kxs_mw "ValueError.__init__" a)).get? b = some o := fun b o e => Heap.get?_push_of_some _ (kk2 b o e)
    have hu : (h2.push (PySem.W.kxs_mw "ValueError.__init__" a)).get? h2.objs.size = some (PySem.W.kxs_mw "ValueError.__init__" a) := Heap.get?_push_at rfl rfl
    have kat : (defScope s_BadText_init).names.lookup ("at" : Str) = some .local := rfl
    have hns3 := hns.keeps kk3
    refine PySem.W.kxs_callWith (i := "ValueError.__init__") (x := a) rfl ?_
    refine Calls.evalArgs_plain (Calls.spliced_cons (wpAny_Name (wpAny_loadName_local S.kind kat hns3 rfl (Calls.spliced_nil ?_)) (by decide)))
    refine ⟨hu, ?_⟩
    have KX3 : K.In (h2.push (PySem.W.kxs_mw "ValueError.__init__" a)) := KX1.keeps kk3
    obtain ⟨nm', N', qn', bs', bm', hdct', sn', sub', ab', col', dd', j0, j1, j2, j3, j5, hC', hT'⟩ := PySem.W.excInit_of KX3 B.q
    refine wpAny_call (codeAny_of_tree ?_)
    show wpAny _ _ (callAny (.ref h2.objs.size) ⟨[u1], []⟩) _ _ _
    simp only [callAny]
    refine wpAny_bind (wpAny_load hu ?_)
    simp only [PySem.W.kxs_mw, show (Value.type "method-wrapper" == Value.type "method" || Value.type "method-wrapper" == Value.type "builtin_function_or_method" || Value.type "method-wrapper" == Value.type "method-wrapper") = true by decide, if_true]
    refine PySem.W.KFB.if_so (by decide) ?_
    refine wpAny_bind (PySem.W.check_bound_init PySem.F.excBase_ValueError.toExcCallFacts hC' (kk3 _ _ hx) rfl ?_)
    refine wpAny_bind (wpAny_pure (wpAny_pure ?_))
    refine ⟨plainId_quiet PySem.F.excBase_ValueError.init.plain _, codeAny_builtin PySem.F.excBase_ValueError.initEntry ?_⟩
    refine PySem.W.exc_init_tree (cls := .ref (cB K)) (t0 := t1) (dv := none) (c2 := .none) (c3 := .none) (b4 := .bool false) (kk3 _ _ hx) (by show 1 ≤ sizeLine; decide) fun h4 kk4 e4 t4 => ?_
    have I3 := I.kept (t' := s.toks) kk3
    have I4 := I3.write (t' := s.toks) (x := a) (e := a) (o := exo a (cB K) none) (by rw [ha]; exact True.intro) (.inl rfl) kk4 ⟨_, e4⟩ (exo_ok e4)
    have eu : upd H a (exo a (cB K) none) = H := by
      funext b
      by_cases hb : b = a
      · rw [hb, upd_same, ha]
      · rw [upd_ne hb]
    rw [eu] at I4
    have ht : PSs (NdefX.ncx CX0 P w K mg base nB ⟨"__init__", "BadText.__init__", defArgs s_BadText_init, defBody s_BadText_init, defScope s_BadText_init, [("__class__", cc)], cda⟩ (fB K) A outer s H E) ((defBody s_BadText_init).drop 1) _ := pss_one (ps_ost (pv 0) (pv 1))
    have hq : tOst K "at" (tVar 0) (tVar 1) { nx := fun _ H' => Q .non H', rt := Q } (NdefX.startF nB [V.ref a, y] [some (.ref (cB K))]) H :=
      ⟨y, rfl, _, rfl, a, cB K, rfl, B.T, B.noat, .inl ⟨ha, fun dx h1 h2 => q dx h1 h2⟩⟩
    refine wpAt_of_wpAny ?_
    refine wpAny_mono (ht.run [] _ _ H _ (I4.tok _) hq) (fun fl s' hs => ?_) fun e s' hs => hs
    have fin : ∀ {σ' : L2.St} {H' : Hp} {v : V} {u : Value}, Inv (NdefX.ncx CX0 P w K mg base nB ⟨"__init__", "BadText.__init__", defArgs s_BadText_init, defBody s_BadText_init, defScope s_BadText_init, [("__class__", cc)], cda⟩ (fB K) A outer s H E) [] σ' H' s' → RelV v u → Q v H' → CE outer P w H s Q u s' :=
      fun {σ' H' v u} J rv q => ⟨v, H', J.os, J.bare, J.base, J.hok, rv, q⟩
    cases fl with
    | ret u =>
      obtain ⟨v, σ', H', J, rv, q⟩ := hs
      exact fin J rv q
    | next =>
      obtain ⟨σ', H', J, q⟩ := hs
      exact fin (v := V.non) (u := Value.none) J rfl q
    | brk =>
      obtain ⟨_, _, _, q⟩ := hs
      exact False.elim q
    | cont =>
      obtain ⟨_, _, _, q⟩ := hs
      exact False.elim q
end
end MH
end
section
set_option Elab.async false
set_option linter.all false
set_option maxRecDepth 100000
set_option maxHeartbeats 4000000
/-! engine: raise BadText(n) -/
namespace MH
open PySem PySem.Spec PyProof.Rows L2
section
variable {X : Cx}
def rBad (K : Fg) (W : WX) (σ : L2.St) (vs : List V) (H1 : Hp) : Prop := vs.length ≤ 1000 ∧ ∀ a, H1 a = none → spBad (K := K) (.ref a :: (vs ++ [])) (upd H1 a (exo a (cB K) none))
  (fun v H2 => v = .non ∧ ∃ (d : Addr) (fs : List (Str × V)), H2 a = some (exo a (cB K) (some d)) ∧ H2 d = some (exd d fs) ∧ H1 d = none ∧ W (.ref (cB K)) (some d) σ (upd (del H2 a) d (.xd fs))) (fun _ _ _ => False)
def tRaiseB (K : Fg) (W : WX) (ta : TA) : TS := fun _ σ H => ta σ H (rBad K W σ)
theorem i_raiseB {K : Fg} {W : WX} {ta : TA} {D : Ends} {σ : L2.St} {H : Hp} (h : ta σ H fun vs H1 => rBad K W σ vs H1) : tRaiseB K W ta D σ H := h
theorem raise_eq {H1 : Hp} {a dx C : Addr} {y : V} (ha : H1 a = none) (hd : H1 dx = none) (ne : dx ≠ a) : upd (del (upd (upd (upd H1 a (exo a C none)) dx (exd dx [("at", y)])) a (exo a C (some dx))) a) dx (.xd [("at", y)]) = upd H1 dx (.xd [("at", y)]) := by
  funext b
  by_cases hb : b = dx
  · rw [hb, upd_same, upd_same]
  · rw [upd_ne hb, upd_ne hb]
    by_cases hba : b = a
    · rw [hba, del_same, ha]
    · rw [del_ne hba, upd_ne hba, upd_ne hb, upd_ne hba]
theorem rd_bad {K : Fg} {W : WX} {σ : L2.St} {y : V} {H1 : Hp} (h : ∀ d, H1 d = none → W (.ref (cB K)) (some d) σ (upd H1 d (.xd [("at", y)]))) : rBad K W σ [y] H1 := by
  refine ⟨by show 1 ≤ 1000; decide, fun a ha => ⟨a, y, rfl, upd_same, fun dx h1 h2 => ⟨rfl, dx, [("at", y)], upd_same, ?_, ?_, ?_⟩⟩⟩
  · rw [upd_ne h2, upd_same]
  · rw [upd_ne h2] at h1
    exact h1
  · rw [upd_ne h2] at h1
    rw [raise_eq ha h1 h2]
    exact h dx h1
theorem ps_raiseBad {K : Fg} {W : WX} {x : Str} {p pos pos2 : Pos} {e : Expr} {t : TA} (eK : X.K = K) (hc : X.calm = true) (tk : Takes X W) (B : BadC X.prog K) (sup : X.mg "super" = none) (hr : Room 2 X.A)
    (gC : X.mg x = some (.ref (cB K))) (hg : Gl X x) (ha : PA X [e] t) (hdb : (x == ("__debug__" : Str)) = false := by decide) (he : starEach [e] X.env = (false, eval e X.env) :: starEach [] X.env := by rfl) (hpl : (backTo pos (starEach [] X.env)).any (·.1) = false := by rfl) :
    PS X (.Raise (some (.Call (.Name x p) [e] [] pos)) none pos2) (tRaiseB K W t) := by
  subst eK
  obtain ⟨fd, F, Bd⟩ := bad_init (w := X.w) (base := X.base) B sup
  exact ps_raise hc tk (pmk_oex B.T B.ini B.tI F hr Bd .nil pass0 hg gC ha hdb he hpl)
end
end MH
end
section
set_option Elab.async false
set_option linter.all false
set_option maxRecDepth 100000
set_option maxHeartbeats 4000000
namespace MH
open PySem PySem.Spec PyProof.Rows L2
local macro_rules | `(tactic| walk_at "go") => `(tactic| repeat (first
  | with_reducible refine i_seq ?_ | with_reducible refine i_ifS ?_ | with_reducible refine i_ret ?_ | with_reducible refine i_drop ?_ | with_reducible refine i_asg ?_ | with_reducible refine i_name ?_
  | with_reducible refine i_next ?_ | with_reducible refine i_var (by with_unfolding_all exact rfl) ?_ | with_reducible refine i_c ?_ | with_reducible refine i_cons ?_ | with_reducible refine i_nil ?_ | with_reducible refine i_cb ?_
  | with_reducible refine i_op ?_ | with_reducible refine i_un ?_ | with_reducible refine i_call ?_ | with_reducible refine i_test ?_ | with_reducible refine i_b ?_ | with_reducible refine i_bl ?_ | with_reducible refine i_and ?_ | with_reducible refine i_or ?_
  | with_reducible refine i_not ?_ | with_reducible refine i_andV ?_ | with_reducible refine i_orV ?_ | with_reducible refine i_notV ?_ | with_reducible refine i_if ?_ | with_reducible refine i_chain ?_ | with_reducible refine i_tup ?_ | with_reducible refine i_lst ?_
  | with_reducible refine i_sl ?_ | with_reducible refine i_part ?_ | with_reducible refine i_nopart ?_ | with_reducible refine i_int ?_ | with_reducible refine i_bm ?_ | with_reducible refine i_bm0 ?_ | with_reducible refine i_I0 ?_ | with_reducible refine i_lc ?_ | with_reducible refine i_disp ?_ | with_reducible refine i_pairsC ?_ | with_reducible refine i_pairsN ?_ | with_reducible refine i_dget2 ?_ | with_reducible refine i_gsub ?_ | with_reducible refine i_raiseB ?_ | with_reducible refine i_make ?_ | with_reducible refine i_gcons ?_ | with_reducible refine i_gnil ?_ | with_reducible refine i_enum ?_ | with_reducible refine i_isN ?_ | with_reducible refine i_notN ?_ | with_reducible refine i_fld ?_ | with_reducible refine i_sfld ?_ | with_reducible refine i_meth ?_ | with_reducible refine i_rU ?_ | with_reducible refine i_dputN ?_ | with_reducible refine i_dput ?_ | with_reducible refine i_dget ?_ | with_reducible refine i_rng1 ?_ | with_reducible refine i_dinP ?_ | with_reducible refine i_raiseA ?_ | with_reducible refine i_lenSetS ?_ | with_reducible refine i_for ?_ | with_reducible refine i_yes ?_ | with_reducible refine i_eqS ?_ | with_reducible refine i_neS ?_ | with_reducible refine i_eqI ?_ | with_reducible refine i_neI ?_
  | with_reducible refine i_retN ?_ | with_reducible refine i_brk ?_ | with_reducible refine i_cont ?_ | with_reducible refine i_par ?_ | with_reducible refine i_par3 ?_ | with_reducible refine i_two ?_ | with_reducible refine i_three ?_
  | with_reducible refine i_itup ?_ | with_reducible refine i_ilist ?_ | with_reducible refine i_istr ?_ | with_reducible refine i_str ?_ | with_reducible refine i_m1 ?_ | with_reducible refine i_anystr ?_
  | with_reducible refine iteT ?_ | with_reducible refine iteF ?_))
section
variable {P : Program} {w : World} {K : Fg} {mg : Str → Option Value} {base : Heap}
def spRInit : Sp := fun vs H Q _ => ∃ x dx, vs = [.ref x] ∧ H x = some (.ins (cR K) dx []) ∧
  ∀ H' R, Rep K (cR K) H' R startP → R.r = x → (∀ b o, H b = some o → b ≠ x → H' b = some o) → StT K H H' → (∀ b ∈ R.adr, b = x ∨ H b = none) → Q .non H'
theorem kI_Reader (T : Tx K mg) : KeepsI P w K mg base CX0 1 (cR K) ["self"] (spRInit (K := K)) := by
  obtain ⟨fd, F⟩ := T.f_Reader_init
  refine ⟨_, fd, ?_, Tx.bd_Reader_init F, T.mk_Reader⟩
  refine F.ok sc_Reader_init (fun vs H Q E h => ?_) (fun cdv A outer s H vs Q E hr h => ?_)
  · obtain ⟨x, dx, rfl, _⟩ := h
    rfl
  · obtain ⟨x, dx, rfl, hx, q⟩ := h
    refine ⟨_, PSs.nox (pss_cons (ps_fld (pv 0) (pe_lst (pa_cons (pe_lst (pa_cons pe_non (pa_cons (pe_lst pa_nil) pa_nil))) pa_nil)) rfl)
      (pss_cons (ps_fld (pv 0) pe_dnewK rfl)
      (pss_one (ps_fld (pv 0) pe_bl rfl)))), ?_⟩
    walk_at "go"
    refine ⟨by decide, fun b hb => ?_⟩
    walk_at "go"
    refine ⟨by show 2 ≤ sizeLine; decide, fun a ha => ?_⟩
    walk_at "go"
    refine ⟨le1, fun t ht => ?_⟩
    walk_at "go"
    have s1 := sameNew (o := .lst []) hb
    have s2 := sameNew (o := .lst [.non, .ref b]) ha
    have s3 := sameNew (o := .lst [.ref a]) ht
    have s123 := (s1.trans s2).trans s3
    have hb3 := s3 _ _ (s2 _ _ (upd_same (H := H) (a := b) (o := .lst [])))
    have ha3 := s3 _ _ (upd_same (H := upd H b (.lst [])) (a := a) (o := .lst [.non, .ref b]))
    have ht3 := upd_same (H := upd (upd H b (.lst [])) a (.lst [.non, .ref b])) (a := t) (o := .lst [.ref a])
    have nba : b ≠ a := ne_of_none upd_same ha
    have nat : a ≠ t := ne_of_none upd_same ht
    have nbt : b ≠ t := ne_of_none (s2 _ _ upd_same) ht
    have nxb : x ≠ b := ne_of_none hx hb
    have nxa : x ≠ a := ne_of_none (s1 _ _ hx) ha
    have nxt : x ≠ t := ne_of_none ((s1.trans s2) _ _ hx) ht
    have hHa : H a = none := by rw [upd_ne nba.symm] at ha; exact ha
    have hHt : H t = none := by rw [upd_ne nat.symm, upd_ne nbt.symm] at ht; exact ht
    generalize upd (upd (upd H b (.lst [])) a (.lst [.non, .ref b])) t (.lst [.ref a]) = H3 at s123 hb3 ha3 ht3 ⊢
    have hx3 := s123 _ _ hx
    refine ⟨x, cR K, dx, [], rfl, hx3, T.cl_Reader, T.na_Reader_tests, by decide, ?_⟩
    walk_at "go"
    refine fun sd hsd => ?_
    walk_at "go"
    have nxs : x ≠ sd := ne_of_none upd_same hsd
    have hs3 : H3 sd = none := by rw [upd_ne nxs.symm] at hsd; exact hsd
    have nbs : b ≠ sd := ne_of_none hb3 hs3
    have nas : a ≠ sd := ne_of_none ha3 hs3
    have nts : t ≠ sd := ne_of_none ht3 hs3
    have hHs : H sd = none := by
      cases q : H sd with
      | none => rfl
      | some o => rw [s123 _ _ q] at hs3; cases hs3
    refine ⟨x, cR K, dx, _, rfl, by rw [upd_ne nxs, upd_same], T.cl_Reader, T.na_Reader_sites, by show 1 < 1000; decide, ?_⟩
    walk_at "go"
    refine ⟨x, cR K, dx, _, rfl, upd_same, T.cl_Reader, T.na_Reader_is_fresh_else, by show 2 < 1000; decide, ?_⟩
    walk_at "go"
    refine q _ ⟨x, dx, t, sd, false, [⟨a, .non, none, b, []⟩], []⟩ ⟨?_, ?_, ?_, rfl, rfl⟩ rfl (fun c o e n => ?_) ?_ ?_
    · intro p hp
      simp only [RA.foot, RA.frs, FA.foot, FA.lst, elsL, elsF, List.flatMap_cons, List.flatMap_nil, List.append_nil, List.mem_cons, List.not_mem_nil, or_false] at hp
      rcases hp with rfl | rfl | rfl | rfl | rfl
      · exact upd_same
      · show upd (upd (upd (upd H3 x _) sd _) x _) x _ t = _
        rw [upd_ne nxt.symm, upd_ne nxt.symm, upd_ne nts, upd_ne nxt.symm]
        exact ht3
      · show upd (upd (upd (upd H3 x _) sd _) x _) x _ sd = _
        rw [upd_ne nxs.symm, upd_ne nxs.symm]
        exact upd_same
      · show upd (upd (upd (upd H3 x _) sd _) x _) x _ a = _
        rw [upd_ne nxa.symm, upd_ne nxa.symm, upd_ne nas, upd_ne nxa.symm]
        exact ha3
      · show upd (upd (upd (upd H3 x _) sd _) x _) x _ b = _
        rw [upd_ne nxb.symm, upd_ne nxb.symm, upd_ne nbs, upd_ne nxb.symm]
        exact hb3
    · show ([x, t, sd, a, b] : List Addr).Nodup
      simp only [List.nodup_cons, List.mem_cons, List.not_mem_nil, or_false, not_or, List.nodup_nil, and_true, not_false_eq_true]
      exact ⟨⟨nxt, nxs, nxa, nxb⟩, ⟨nts, nat.symm, nbt.symm⟩, ⟨nas.symm, nbs.symm⟩, nba.symm⟩
    · exact .cons ⟨.non, .nil, trivial⟩ .nil
    · have ns : c ≠ sd := ne_of_none e hHs
      rw [upd_ne n, upd_ne n, upd_ne ns, upd_ne n]
      exact s123 _ _ e
    · refine StT.trans ?_ (StT.put (a := x) (by rw [upd_same]; trivial) (fun xs e => by rw [upd_same] at e; cases e))
      refine StT.trans ?_ (StT.put (a := x) (by rw [upd_ne nxs, upd_same]; trivial) (fun xs e => by rw [upd_ne nxs, upd_same] at e; cases e))
      refine StT.trans ?_ (StT.new hsd)
      refine StT.trans (StT.same s123) (StT.put (a := x) (by rw [hx3]; trivial) (fun xs e => by rw [hx3] at e; cases e))
    · intro c hc
      have hc : c ∈ ([x, t, sd, a, b] : List Addr) := hc
      simp only [List.mem_cons, List.not_mem_nil, or_false] at hc
      rcases hc with rfl | rfl | rfl | rfl | rfl
      · exact .inl rfl
      · exact .inr hHt
      · exact .inr hHs
      · exact .inr hHa
      · exact .inr hb
def readD (ls : List Str) : PyData := .tuple [.int ((readP ls).1 : Nat), ((readP ls).2).getD .none]
def spReadLines : Sp := fun vs H Q _ => ∃ l ls, vs = [.ref l] ∧ H l = some (.lst (ls.map V.str)) ∧ ls.length ≤ 9000 ∧ (∀ x ∈ ls, x.length ≤ 100000) ∧ ∀ u H', Same H H' → Dt K H' u (readD ls) → Q u H'
theorem k_read_lines (T : Tx K mg) : Keeps P w K mg base CX0 4 "read_lines" ["lines"] (spReadLines (K := K)) := T.kp_read_lines fun fd F => by
  refine F.ok sc_read_lines (fun vs H Q E h => ?_) (fun cdv A outer s H vs Q E hr h => ?_)
  · obtain ⟨l, ls, rfl, _⟩ := h
    rfl
  · obtain ⟨l, ls, rfl, hl, hn, hx, q⟩ := h
    refine ⟨_, PSs.nox (pss_cons (ps_set (i := 1) sc_read_lines.nd rfl (by first | exact Or.inl rfl | exact Or.inr rfl) (pe_new0 (kI_Reader T) (hr.mono (by omega)) pass0 T.g_Reader))
      (pss_cons (ps_for PassesOwn.never rfl (pi_enum (by rfl) T.b_enumerate (pa_cons (pv 0) pa_nil)) (pg_tup rfl (pgs_cons (pg_name (i := 2) sc_read_lines.nd rfl (by first | exact Or.inl rfl | exact Or.inr rfl)) (pgs_cons (pg_name (i := 3) sc_read_lines.nd rfl (by first | exact Or.inl rfl | exact Or.inr rfl)) pgs_nil))) (pss_one (ps_if (pt_not (pt_val (pe_mm (kR_take T) T.cl_Reader (hr.mono (by omega)) pass0 (pv 1) (pa_cons (pv 3) pa_nil)))) (pss_one (ps_ret (pe_tup (pa_cons (pv 2) (pa_cons pe_non pa_nil))))) pss_nil)))
      (pss_cons (ps_if (pt_cmpR op_gt (pe_callB call_lenS (by rfl) T.b_len (by decide +kernel) (pa_cons (pe_fld (pv 1) rfl) pa_nil)) pe_int (nomark _)) (pss_one (ps_ret (pe_tup (pa_cons (pe_callB call_lenS (by rfl) T.b_len (by decide +kernel) (pa_cons (pv 0) pa_nil)) (pa_cons pe_non pa_nil))))) pss_nil)
      (pss_one (ps_ret (pe_tup (pa_cons (pe_callB call_lenS (by rfl) T.b_len (by decide +kernel) (pa_cons (pv 0) pa_nil)) (pa_cons (pe_tup (pa_cons pe_str (pa_cons (pe_callTy (T := "tuple") (call_tupK (K := K) rfl) (by rfl) T.b_tuple (by decide +kernel) (pa_cons (pe_mm0 (kR_body T) T.cl_Reader (hr.mono (by omega)) pass0 (pv 1)) pa_nil)) pa_nil))) pa_nil)))))))), ?_⟩
    walk_at "go"
    refine fun x dx hx0 hdx0 ndx => ?_
    have hx1 : upd (upd H dx (.own x)) x (.ins (cR K) dx []) x = some (.ins (cR K) dx []) := upd_same
    have s1 : Same H (upd (upd H dx (.own x)) x (.ins (cR K) dx [])) := samePut (sameNew hdx0) hx0
    refine ⟨x, dx, rfl, hx1, fun H2 R hR er hoff st hnew => ⟨rfl, ?_⟩⟩
    have s2 : Same H H2 := fun b o e => hoff b o (s1 _ _ e) (ne_of_none e hx0)
    have hout : ∀ b ∈ R.adr, H b = none := fun b hb => by
      cases q : H b with
      | none => rfl
      | some o =>
        rcases hnew b hb with rfl | h
        · rw [hx0] at q; cases q
        · exact absurd ((s1 _ _ q).symm.trans h) (fun z => by cases z)
    walk_at "go"
    refine ⟨l, _, rfl, SqL.of (s2 _ _ hl), ?_⟩
    refine forb_enum (fun i σ H' => ∃ y z R S, σ = [some (.ref l), some (.ref R.r), y, z] ∧ Rep K (cR K) H' R S ∧ Same H H' ∧ (∀ b ∈ R.adr, H b = none) ∧ stepsP startP (ls.take i) = some S ∧ WfF S.frames ∧ (∀ p ∈ S.frames, p.top.length ≤ i) ∧ S.sites.length ≤ 40) ⟨_, _, R, startP, by rw [er]; rfl, hR, s2, hout, rfl, ⟨rfl, rfl⟩, fun p hp => by rw [List.mem_singleton.mp hp]; exact Nat.zero_le _, Nat.zero_le _⟩ (fun i σ H' _ h => by obtain ⟨y, z, R, S, _, _, s, _⟩ := h; exact s _ _ hl) (fun i line σ H3 Tp e h hT => ?_) (fun σ H3 h => ?_)
    · obtain ⟨y, z, R, S, rfl, hR3, s3, hout3, hst, hwf, htop, hsit⟩ := h
      have hi : i < ls.length := by
        rcases Nat.lt_or_ge i ls.length with h | h
        · exact h
        · rw [List.getElem?_eq_none h] at e; cases e
      have sT := sameNew (o := .tup [.int (i : Nat), .str line]) hT
      refine rd_gtup upd_same rfl ?_
      walk_at "go"
      have hR4 := hR3.same sT
      have s4 := s3.trans sT
      generalize upd H3 Tp (.tup [.int (i : Nat), .str line]) = H4 at hR4 s4 ⊢
      refine rd_mth hR4 rfl ?_
      walk_at "go"
      refine ⟨R, S, line, rfl, hR4, hwf, fun p hp => Nat.le_trans (htop p hp) (by omega), hsit, hx line (List.mem_of_getElem? e), fun S' e' H5 R5 hR5 mv5 => ?_, fun e' H5 s5 => ?_⟩
      · walk_at "go"
        refine ife rfl ?_
        walk_at "go"
        refine ⟨_, _, R5, S', by rw [mv5.r]; rfl, hR5, fun b o eb => mv5.off b o (s4 _ _ eb) (fun hb => by rw [hout3 b hb] at eb; cases eb), fun b hb => ?_, by rw [stepsP_take _ e, hst]; exact e', stepP_wf hwf e', stepP_top htop e', stepP_sites hsit e'⟩
        rcases mv5.new b hb with h | h
        · exact hout3 b h
        · cases q : H b with
          | none => rfl
          | some o => rw [s4 _ _ q] at h; cases h
      · walk_at "go"
        refine ift rfl ?_
        walk_at "go"
        refine ⟨by show 2 ≤ sizeLine; decide, fun u hu => ?_⟩
        have hrd := readP_bad e hst e'
        refine q _ _ ((s4.trans s5).trans (sameNew hu)) ?_
        unfold readD
        rw [hrd]
        exact .tup (SqT.of upd_same) (.cons (.int _) (.cons .non .nil))
    · obtain ⟨y, z, R, S, rfl, hR3, s3, hout3, hst, hwf, htop, hsit⟩ := h
      rw [List.take_of_length_le (Nat.le_refl _)] at hst
      have hll := s3 _ _ hl
      walk_at "go"
      refine rd_tests hR3 T.cl_Reader T.na_Reader_tests ?_
      walk_at "go"
      refine rd_lenL hR3.tests ?_
      walk_at "go"
      rw [List.length_map, List.length_reverse, hR3.frs.length]
      refine ifb (fun k1 => ?_) (fun k1 => ?_)
      · have k1 := of_decide_eq_true k1
        have hrd := readP_open hst (by omega)
        walk_at "go"
        refine rd_lenL hll ?_
        walk_at "go"
        refine ⟨by show 2 ≤ sizeLine; decide, fun u hu => ?_⟩
        refine q _ _ (s3.trans (sameNew hu)) ?_
        unfold readD
        rw [hrd]
        rw [List.length_map]
        exact .tup (SqT.of upd_same) (.cons (.int _) (.cons .non .nil))
      · have k1 := of_decide_eq_false k1
        obtain ⟨p, eS⟩ : ∃ p, S.frames = [p] := by
          match h : S.frames with
          | [] => rw [h] at hwf; exact hwf.elim
          | [p] => exact ⟨p, rfl⟩
          | _ :: _ :: _ => rw [h] at k1; simp at k1; omega
        have hrd := readP_all hst eS
        obtain ⟨f, r, ef⟩ : ∃ f r, R.fas = f :: r := by
          have := hR3.frs
          rw [eS] at this
          cases h : R.fas with
          | nil => rw [h] at this; cases this
          | cons f r => exact ⟨f, r, rfl⟩
        obtain ⟨p', q', eS', hf1, hf2⟩ := hR3.frames ef
        rw [eS] at eS'
        cases eS'
        walk_at "go"
        refine rd_lenL hll ?_
        walk_at "go"
        refine rd_mth hR3 rfl ?_
        walk_at "go"
        refine ⟨R, S, f, r, rfl, hR3, ef, ?_⟩
        walk_at "go"
        refine rd_tupL (hR3.top ef).2 (fun t4 ht4 => ?_)
        walk_at "go"
        refine ⟨by show 2 ≤ sizeLine; decide, fun t5 ht5 => ?_⟩
        walk_at "go"
        refine ⟨by show 2 ≤ sizeLine; decide, fun t6 ht6 => ?_⟩
        have s4 := sameNew (o := .tup f.xs) ht4
        have s5 := sameNew (o := .tup [V.str "program", V.ref t4]) ht5
        have s6 := sameNew (o := .tup [V.int (ls.map V.str).length, V.ref t5]) ht6
        refine q _ _ (((s3.trans s4).trans s5).trans s6) ?_
        unfold readD
        rw [hrd]
        have d4 : Dt K (upd H3 t4 (.tup f.xs)) (.ref t4) (.tuple p.top) := .tup (SqT.of upd_same) (hf1.2.1.mono (StT.same s4))
        have d5 : Dt K (upd (upd H3 t4 (.tup f.xs)) t5 (.tup [V.str "program", V.ref t4])) (.ref t5) (.tuple [.str "program", .tuple p.top]) := .tup (SqT.of upd_same) (.cons (.str _ (by decide)) (.cons (d4.same s5) .nil))
        refine .tup (SqT.of upd_same) (.cons ?_ (.cons (d5.same s6) .nil))
        rw [List.length_map]
        exact .int _
end
end MH
end
section
set_option Elab.async false
set_option linter.all false
set_option maxRecDepth 100000
set_option maxHeartbeats 4000000
namespace MH
open PySem PySem.Spec PyProof.Rows L2
local macro_rules | `(tactic| walk_at "go") => `(tactic| repeat (first
  | with_reducible refine i_seq ?_ | with_reducible refine i_ifS ?_ | with_reducible refine i_ret ?_ | with_reducible refine i_drop ?_ | with_reducible refine i_asg ?_ | with_reducible refine i_name ?_
  | with_reducible refine i_next ?_ | with_reducible refine i_var (by with_unfolding_all exact rfl) ?_ | with_reducible refine i_c ?_ | with_reducible refine i_cons ?_ | with_reducible refine i_nil ?_ | with_reducible refine i_cb ?_
  | with_reducible refine i_op ?_ | with_reducible refine i_un ?_ | with_reducible refine i_call ?_ | with_reducible refine i_test ?_ | with_reducible refine i_b ?_ | with_reducible refine i_bl ?_ | with_reducible refine i_and ?_ | with_reducible refine i_or ?_
  | with_reducible refine i_not ?_ | with_reducible refine i_andV ?_ | with_reducible refine i_orV ?_ | with_reducible refine i_notV ?_ | with_reducible refine i_if ?_ | with_reducible refine i_chain ?_ | with_reducible refine i_tup ?_ | with_reducible refine i_lst ?_
  | with_reducible refine i_sl ?_ | with_reducible refine i_part ?_ | with_reducible refine i_nopart ?_ | with_reducible refine i_int ?_ | with_reducible refine i_bm ?_ | with_reducible refine i_bm0 ?_ | with_reducible refine i_I0 ?_ | with_reducible refine i_lc ?_ | with_reducible refine i_disp ?_ | with_reducible refine i_pairsC ?_ | with_reducible refine i_pairsN ?_ | with_reducible refine i_dget2 ?_ | with_reducible refine i_gsub ?_ | with_reducible refine i_raiseB ?_ | with_reducible refine i_make ?_ | with_reducible refine i_gcons ?_ | with_reducible refine i_gnil ?_ | with_reducible refine i_enum ?_ | with_reducible refine i_isN ?_ | with_reducible refine i_notN ?_ | with_reducible refine i_fld ?_ | with_reducible refine i_sfld ?_ | with_reducible refine i_meth ?_ | with_reducible refine i_rU ?_ | with_reducible refine i_dputN ?_ | with_reducible refine i_dput ?_ | with_reducible refine i_dget ?_ | with_reducible refine i_rng1 ?_ | with_reducible refine i_dinP ?_ | with_reducible refine i_raiseA ?_ | with_reducible refine i_lenSetS ?_ | with_reducible refine i_for ?_ | with_reducible refine i_yes ?_ | with_reducible refine i_eqS ?_ | with_reducible refine i_neS ?_ | with_reducible refine i_eqI ?_ | with_reducible refine i_neI ?_
  | with_reducible refine i_retN ?_ | with_reducible refine i_brk ?_ | with_reducible refine i_cont ?_ | with_reducible refine i_par ?_ | with_reducible refine i_par3 ?_ | with_reducible refine i_two ?_ | with_reducible refine i_three ?_
  | with_reducible refine i_itup ?_ | with_reducible refine i_ilist ?_ | with_reducible refine i_istr ?_ | with_reducible refine i_str ?_ | with_reducible refine i_m1 ?_ | with_reducible refine i_anystr ?_
  | with_reducible refine iteT ?_ | with_reducible refine iteF ?_))
section
variable {P : Program} {w : World} {K : Fg} {mg : Str → Option Value} {base : Heap}
def textD (d : PyData) : Str := Txt.join "\n" (linesD 5 ((tupD d).getD 1 .none))
theorem prog_is {d : PyData} (h : isProgD d = true) : ∃ b, d = .tuple [.str "program", b] ∧ isBodyD 4 b = true ∧ (sitesD 5 b).length ≤ 40 ∧ (sitesD 5 b).Nodup := by
  unfold isProgD at h
  split at h
  · rename_i p b
    rw [Bool.and_eq_true] at h
    obtain ⟨h1, h2⟩ := h
    unfold isPBodyD at h2
    simp only [Bool.and_eq_true, decide_eq_true_eq] at h1 h2
    subst h1
    exact ⟨b, rfl, h2.1, h2.2.1, h2.2.2⟩
  · cases h
def spText : Sp := fun vs H Q E => ∃ v d, vs = [v] ∧ Dt K H v d ∧ okL d ∧ (isProgD d = true → ∀ H', Same H H' → Q (.str (textD d)) H') ∧ (isProgD d = false → ∀ H', Same H H' → E (.ref (He.ga K "BadProgram")) none H')
theorem ok_program_text (T : Tx K mg) {fd : FuncData} (F : FunD K d_program_text.name d_program_text.qual d_program_text.params d_program_text.body d_program_text.scope [] [] (He.fAd K d_program_text.at_) fd) : FnOk P w K mg base (L2.CX P w) 12 (He.fAd K d_program_text.at_) fd ["program"] (spText (K := K)) := by
  refine F.ok sc_program_text (fun vs H Q E h => ?_) (fun cdv A outer s H vs Q E hr h => ?_)
  · obtain ⟨v, d, rfl, _⟩ := h
    rfl
  · obtain ⟨v, d, rfl, hd, hn, q1, q2⟩ := h
    refine ⟨_, (pss_cons (ps_expr (pe_k (k_check_program T) (hr.mono (by omega)) (passes_call (takes_of rfl rfl rfl rfl) (fun _ _ _ _ h => h)) (pa_cons (pv 0) pa_nil)))
      (pss_one (ps_ret (pe_join pe_str (pe_k (k_lines_of T 4) (hr.mono (by omega)) pass0 (pa_cons (pe_ix ix_tup (pv 0) pe_int (fun _ _ => rfl)) pa_nil)))))), ?_⟩
    walk_at "go"
    refine ⟨v, d, rfl, hd, hn, fun hp H1 s1 => ?_, fun hp H1 s1 => q2 hp H1 s1⟩
    have q1 := q1 hp
    obtain ⟨b, rfl, hb, hs, hnd⟩ := prog_is hp
    have hl := linesD_le 4 hb
    have hlen := linesD_len 4 hb
    walk_at "go"
    refine rd_ix (hd.same s1) (n := 1) rfl rfl (fun u hu => ?_)
    walk_at "go"
    refine ⟨u, b, rfl, hu, hb, by decide, fun a H2 ha s2 hl2 => ?_⟩
    walk_at "go"
    refine ⟨_, a, _, rfl, rfl, .inl (SqL.of hl2), ?_, ?_⟩
    · have h1 := sum_le hlen
      have h2 : (Str.ofString "\n").length = 1 := by decide
      have hl : (linesD (4 + 1) b).length ≤ 3 * (sitesD 5 b).length := hl
      rw [h2]
      omega
    · walk_at "go"
      exact q1 H2 (s1.trans s2)
theorem k_program_text (T : Tx K mg) : Keeps P w K mg base (L2.CX P w) 12 "program_text" ["program"] (spText (K := K)) := T.kp_program_text fun fd F => ok_program_text T F
end
end MH
end
section
set_option Elab.async false
set_option linter.all false
set_option maxRecDepth 100000
set_option maxHeartbeats 4000000
namespace MH
open PySem PySem.Spec PyProof.Rows L2
local macro_rules | `(tactic| walk_at "go") => `(tactic| repeat (first
  | with_reducible refine i_seq ?_ | with_reducible refine i_ifS ?_ | with_reducible refine i_ret ?_ | with_reducible refine i_drop ?_ | with_reducible refine i_asg ?_ | with_reducible refine i_name ?_
  | with_reducible refine i_next ?_ | with_reducible refine i_var (by with_unfolding_all exact rfl) ?_ | with_reducible refine i_c ?_ | with_reducible refine i_cons ?_ | with_reducible refine i_nil ?_ | with_reducible refine i_cb ?_
  | with_reducible refine i_op ?_ | with_reducible refine i_un ?_ | with_reducible refine i_call ?_ | with_reducible refine i_test ?_ | with_reducible refine i_b ?_ | with_reducible refine i_bl ?_ | with_reducible refine i_and ?_ | with_reducible refine i_or ?_
  | with_reducible refine i_not ?_ | with_reducible refine i_andV ?_ | with_reducible refine i_orV ?_ | with_reducible refine i_notV ?_ | with_reducible refine i_if ?_ | with_reducible refine i_chain ?_ | with_reducible refine i_tup ?_ | with_reducible refine i_lst ?_
  | with_reducible refine i_sl ?_ | with_reducible refine i_part ?_ | with_reducible refine i_nopart ?_ | with_reducible refine i_int ?_ | with_reducible refine i_bm ?_ | with_reducible refine i_bm0 ?_ | with_reducible refine i_I0 ?_ | with_reducible refine i_lc ?_ | with_reducible refine i_disp ?_ | with_reducible refine i_pairsC ?_ | with_reducible refine i_pairsN ?_ | with_reducible refine i_dget2 ?_ | with_reducible refine i_gsub ?_ | with_reducible refine i_raiseB ?_ | with_reducible refine i_make ?_ | with_reducible refine i_gcons ?_ | with_reducible refine i_gnil ?_ | with_reducible refine i_enum ?_ | with_reducible refine i_isN ?_ | with_reducible refine i_notN ?_ | with_reducible refine i_fld ?_ | with_reducible refine i_sfld ?_ | with_reducible refine i_meth ?_ | with_reducible refine i_rU ?_ | with_reducible refine i_dputN ?_ | with_reducible refine i_dput ?_ | with_reducible refine i_dget ?_ | with_reducible refine i_rng1 ?_ | with_reducible refine i_dinP ?_ | with_reducible refine i_raiseA ?_ | with_reducible refine i_lenSetS ?_ | with_reducible refine i_for ?_ | with_reducible refine i_yes ?_ | with_reducible refine i_eqS ?_ | with_reducible refine i_neS ?_ | with_reducible refine i_eqI ?_ | with_reducible refine i_neI ?_
  | with_reducible refine i_retN ?_ | with_reducible refine i_brk ?_ | with_reducible refine i_cont ?_ | with_reducible refine i_par ?_ | with_reducible refine i_par3 ?_ | with_reducible refine i_two ?_ | with_reducible refine i_three ?_
  | with_reducible refine i_itup ?_ | with_reducible refine i_ilist ?_ | with_reducible refine i_istr ?_ | with_reducible refine i_str ?_ | with_reducible refine i_m1 ?_ | with_reducible refine i_anystr ?_
  | with_reducible refine iteT ?_ | with_reducible refine iteF ?_))
section
variable {P : Program} {w : World} {K : Fg} {mg : Str → Option Value} {base : Heap}
def linesOf (x : Str) : List Str := if x = "" then [] else Txt.split x "\n"
theorem linesOf_len (x : Str) : (linesOf x).length ≤ x.length + 1 ∧ ∀ y ∈ linesOf x, y.length ≤ x.length := by
  unfold linesOf
  split
  · exact ⟨Nat.zero_le _, fun y hy => by cases hy⟩
  · rw [nl_eq]
    exact ⟨split_count x 10, fun y hy => split_part hy⟩
/-- what read_program lets out: BadText with the number -/
def badAt (K : Fg) (n : Int) (H : Hp) (E : XK) : Prop := ∀ H', Same H H' → ∀ d, H' d = none → E (.ref (cB K)) (some d) (upd H' d (.xd [("at", .int n)]))
def spReadProg : Sp := fun vs H Q E => ∃ v d, vs = [v] ∧ Dt K H v d ∧ (is_str d = false → badAt K 0 H E) ∧ (∀ x, d = .str x → x.length ≤ 8000 ∧
  ((readP (linesOf x)).2 = none → badAt K ((readP (linesOf x)).1 : Nat) H E) ∧ (∀ p, (readP (linesOf x)).2 = some p → ∀ u H', Same H H' → Dt K H' u p → Q u H'))
theorem readP_non (ls : List Str) (p : PyData) (h : (readP ls).2 = some p) : p ≠ .none := by
  unfold readP at h
  split at h
  · intro z
    rw [z] at h
    simp at h
  · simp at h
theorem ok_read_program (T : Tx K mg) (BC : BadC P K) {fd : FuncData} (F : FunD K d_read_program.name d_read_program.qual d_read_program.params d_read_program.body d_read_program.scope [] [] (He.fAd K d_read_program.at_) fd) : FnOk P w K mg base (L2.CX P w) 5 (He.fAd K d_read_program.at_) fd ["text"] (spReadProg (K := K)) := by
  refine F.ok sc_read_program (fun vs H Q E h => ?_) (fun cdv A outer s H vs Q E hr h => ?_)
  · obtain ⟨v, d, rfl, _⟩ := h
    rfl
  · obtain ⟨v, d, rfl, hd, q1, q2⟩ := h
    refine ⟨_, (pss_cons (ps_if (pt_not (pt_val (pe_callB call_isi (by rfl) T.b_isinstance (by decide +kernel) (pa_cons (pv 0) (pa_cons (pe_ty (T := "str") T.b_str) pa_nil))))) (pss_one (ps_raiseBad (K := K) rfl rfl (takes_of rfl rfl rfl rfl) BC T.b_super (hr.mono (by omega)) T.g_BadText (by rfl) (pa_cons pe_int pa_nil))) pss_nil)
      (pss_cons (ps_asg (pe_k (k_read_lines T) (hr.mono (by omega)) pass0 (pa_cons (pe_ifExp (pt_cmpR op_ne (pv 0) pe_str (nomark _)) (pe_split (pv 0) pe_str) (pe_lst pa_nil)) pa_nil)) (pg_tup rfl (pgs_cons (pg_name (i := 1) sc_read_program.nd rfl (by first | exact Or.inl rfl | exact Or.inr rfl)) (pgs_cons (pg_name (i := 2) sc_read_program.nd rfl (by first | exact Or.inl rfl | exact Or.inr rfl)) pgs_nil))))
      (pss_cons (ps_if (pt_cmp (pc_isN (pv 2)) rfl) (pss_one (ps_raiseBad (K := K) rfl rfl (takes_of rfl rfl rfl rfl) BC T.b_super (hr.mono (by omega)) T.g_BadText (by rfl) (pa_cons (pv 1) pa_nil))) pss_nil)
      (pss_one (ps_ret (pv 2)))))), ?_⟩
    walk_at "go"
    refine rd_isi hd (kit_str d) ?_
    walk_at "go"
    cases hs : is_str d with
    | false =>
      refine ift rfl ?_
      walk_at "go"
      exact rd_bad (fun dd hdd => q1 hs H (Same.refl H) dd hdd)
    | true =>
      obtain ⟨x, rfl⟩ : ∃ x, d = .str x := by
        cases d with
        | str x => exact ⟨x, rfl⟩
        | _ => cases hs
      obtain ⟨rfl, hx⟩ := hd.strI
      obtain ⟨hl8, q3, q4⟩ := q2 x rfl
      refine ife rfl ?_
      walk_at "go"
      refine ifn (fun k1 => ?_) (fun k1 => ?_)
      all_goals
        walk_at "go"
        first
          | (refine ⟨_, _, rfl, rfl, by decide, by unfold sizeLine; omega, fun l hl => ?_⟩; have el : linesOf x = Txt.split x "\n" := if_neg (of_decide_eq_false k1))
          | (refine ⟨by decide, fun l hl => ?_⟩; have el : linesOf x = [] := if_pos (of_decide_eq_true k1))
        have s1 : ∀ o, Same H (upd H l o) := fun o => sameNew hl
        walk_at "go"
        refine ⟨l, linesOf x, rfl, by first | (rw [upd_same, el]; done) | (rw [upd_same, el]; rfl), Nat.le_trans (linesOf_len x).1 (by omega), fun y hy => Nat.le_trans ((linesOf_len x).2 y hy) (by omega), fun u H2 s2 hu => ?_⟩
        have s2 := (s1 _).trans s2
        obtain ⟨ua, uxs, rfl, hu1, hu2⟩ := hu.ref
        refine rd_gtupD hu rfl (fun xs hxs => ?_)
        cases hxs with
        | cons hx1 hxs => cases hxs with
          | cons hx2 hxs =>
            cases hxs
            walk_at "go"
            rw [hx2.isNon]
            cases hr : (readP (linesOf x)).2 with
            | none =>
              refine ift rfl ?_
              walk_at "go"
              cases hx1
              exact rd_bad (fun dd hdd => q3 hr H2 s2 dd hdd)
            | some p =>
              have hne := readP_non _ _ hr
              refine ife (by cases p <;> first | rfl | exact absurd rfl hne) ?_
              walk_at "go"
              rw [hr] at hx2
              exact q4 p hr _ H2 s2 hx2
theorem k_read_program (T : Tx K mg) (BC : BadC P K) : Keeps P w K mg base (L2.CX P w) 5 "read_program" ["text"] (spReadProg (K := K)) := T.kp_read_program fun fd F => ok_read_program T BC F
end
end MH
end
section
set_option Elab.async false
set_option linter.all false
set_option maxRecDepth 100000
set_option maxHeartbeats 4000000
namespace MH
open PySem PySem.Spec PyProof.Rows L2
local macro_rules | `(tactic| walk_at "go") => `(tactic| repeat (first
  | with_reducible refine i_seq ?_ | with_reducible refine i_ifS ?_ | with_reducible refine i_ret ?_ | with_reducible refine i_drop ?_ | with_reducible refine i_asg ?_ | with_reducible refine i_name ?_
  | with_reducible refine i_next ?_ | with_reducible refine i_var (by with_unfolding_all exact rfl) ?_ | with_reducible refine i_c ?_ | with_reducible refine i_cons ?_ | with_reducible refine i_nil ?_ | with_reducible refine i_cb ?_
  | with_reducible refine i_op ?_ | with_reducible refine i_un ?_ | with_reducible refine i_call ?_ | with_reducible refine i_test ?_ | with_reducible refine i_b ?_ | with_reducible refine i_bl ?_ | with_reducible refine i_and ?_ | with_reducible refine i_or ?_
  | with_reducible refine i_not ?_ | with_reducible refine i_andV ?_ | with_reducible refine i_orV ?_ | with_reducible refine i_notV ?_ | with_reducible refine i_if ?_ | with_reducible refine i_chain ?_ | with_reducible refine i_tup ?_ | with_reducible refine i_lst ?_
  | with_reducible refine i_sl ?_ | with_reducible refine i_part ?_ | with_reducible refine i_nopart ?_ | with_reducible refine i_int ?_ | with_reducible refine i_bm ?_ | with_reducible refine i_bm0 ?_ | with_reducible refine i_I0 ?_ | with_reducible refine i_lc ?_ | with_reducible refine i_disp ?_ | with_reducible refine i_pairsC ?_ | with_reducible refine i_pairsN ?_ | with_reducible refine i_dget2 ?_ | with_reducible refine i_gsub ?_ | with_reducible refine i_raiseB ?_ | with_reducible refine i_make ?_ | with_reducible refine i_gcons ?_ | with_reducible refine i_gnil ?_ | with_reducible refine i_enum ?_ | with_reducible refine i_isN ?_ | with_reducible refine i_notN ?_ | with_reducible refine i_fld ?_ | with_reducible refine i_sfld ?_ | with_reducible refine i_meth ?_ | with_reducible refine i_rU ?_ | with_reducible refine i_dputN ?_ | with_reducible refine i_dput ?_ | with_reducible refine i_dget ?_ | with_reducible refine i_rng1 ?_ | with_reducible refine i_dinP ?_ | with_reducible refine i_raiseA ?_ | with_reducible refine i_lenSetS ?_ | with_reducible refine i_for ?_ | with_reducible refine i_yes ?_ | with_reducible refine i_eqS ?_ | with_reducible refine i_neS ?_ | with_reducible refine i_eqI ?_ | with_reducible refine i_neI ?_
  | with_reducible refine i_retN ?_ | with_reducible refine i_brk ?_ | with_reducible refine i_cont ?_ | with_reducible refine i_par ?_ | with_reducible refine i_par3 ?_ | with_reducible refine i_two ?_ | with_reducible refine i_three ?_
  | with_reducible refine i_itup ?_ | with_reducible refine i_ilist ?_ | with_reducible refine i_istr ?_ | with_reducible refine i_str ?_ | with_reducible refine i_m1 ?_ | with_reducible refine i_anystr ?_
  | with_reducible refine iteT ?_ | with_reducible refine iteF ?_))
section
variable {P : Program} {w : World} {K : Fg} {mg : Str → Option Value} {base : Heap}
def spKept : Sp := fun vs H Q _ => vs = [] ∧ ∀ a H', H a = none → Same H H' → H' a = some (.lst (keptS.map V.str)) → Q (.ref a) H'
theorem k__law_kept_words (T : Tx K mg) : Keeps P w K mg base CX0 1 "_law_kept_words" [] spKept := T.kp__law_kept_words fun fd F => by
  refine F.ok sc__law_kept_words (fun vs H Q E h => ?_) (fun cdv A outer s H vs Q E hr h => ?_)
  · obtain ⟨rfl, _⟩ := h
    rfl
  · obtain ⟨rfl, q⟩ := h
    refine ⟨_, PSs.nox (pss_one (ps_ret (pe_split (pe_op op_add_str pe_str pe_str) pe_str))), ?_⟩
    walk_at "go"
    refine ⟨_, _, rfl, rfl, by decide, ?_⟩
    walk_at "go"
    refine ⟨_, _, rfl, rfl, by decide, by decide, fun l hl => ?_⟩
    walk_at "go"
    refine q l _ hl (sameNew hl) ?_
    rw [upd_same, kept_split]
def spLName : Sp := fun vs H Q _ => ∃ x, vs = [.str x] ∧ x.length ≤ 100000 ∧ ∀ H', Same H H' → Q (.bl (isName x)) H'
theorem k__law_is_name (T : Tx K mg) : Keeps P w K mg base CX0 2 "_law_is_name" ["word"] spLName := T.kp__law_is_name fun fd F => by
  refine F.ok sc__law_is_name (fun vs H Q E h => ?_) (fun cdv A outer s H vs Q E hr h => ?_)
  · obtain ⟨x, rfl, _⟩ := h
    rfl
  · obtain ⟨x, rfl, hx, q⟩ := h
    refine ⟨_, PSs.nox (pss_one (ps_ret (pe_and (pe_chain op_le op_le pe_int (pe_callB call_len (by rfl) T.b_len (by decide +kernel) (pa_cons (pv 0) pa_nil)) pe_int) (pe_and (pe_cmpR (op_eqP hr.units) (pe_lc (own := [("sign", 1)]) (g := gName 1)  rfl sc__law_is_name.nd (pi_str (pv 0)) (blkOk_by (N := n__law_is_name) (sc := defScope s__law_is_name) (by decide +kernel)) (fun _ _ _ _ _ => (pg_name (i := 1) sc__law_is_name.nd rfl (by first | exact Or.inl rfl | exact Or.inr rfl))) (fun _ _ _ _ _ => (pts_one (pt_cmpR op_notIn_sign (pv 1) pe_str (by rfl)))) (fun _ _ _ _ _ => (pv 1))) (pe_lst pa_nil) (nomark _)) (pe_one (pe_cmpR op_notIn_seq (pv 0) (pe_k0 (k__law_kept_words T) (hr.mono (by omega)) pass0) (by rfl))))))), ?_⟩
    rw [isName_eq] at q
    walk_at "go"
    refine ⟨_, _, rfl, ⟨by unfold sizeLine; omega, rfl⟩, ?_⟩
    walk_at "go"
    refine ifb (fun k1 => ?_) (fun k1 => ?_)
    · have k1 := of_decide_eq_true k1
      walk_at "go"
      refine ifb (fun k2 => ?_) (fun k2 => ?_)
      · have k2 := of_decide_eq_true k2
        rw [decide_eq_true (show 1 ≤ x.length ∧ x.length ≤ 8 by omega), Bool.true_and] at q
        walk_at "go"
        refine lcb_filt (n := x.length) (it := fun i => .str ⟨#[x.cps.toList.getD i 0]⟩) (y := fun i => .str ⟨#[x.cps.toList.getD i 0]⟩) (keep := fun i => !decide (x.cps.toList.getD i 0 ∈ letters)) (by unfold sizeLine; omega) (fun H3 _ => still_str x) (fun _ => rfl) (fun i H3 R hi s1 k => ?_) (fun i H3 R hi hk s1 k => ?_) (fun D H1 hD s1 hl => ?_)
        · walk_at "go"
          refine ⟨_, _, rfl, rfl, ?_⟩
          walk_at "go"
          exact k H3 (Same.refl _)
        · walk_at "go"
          exact k H3 (Same.refl _)
        · have hl : H1 D = some (.lst ((x.cps.toList.filter fun c => !decide (c ∈ letters)).map fun c => V.str ⟨#[c]⟩)) := by
            rw [hl, ← filter_range_getD x.cps.toList 0 (fun c => !decide (c ∈ letters)) (fun c => V.str ⟨#[c]⟩)]
            rfl
          walk_at "go"
          refine ⟨by decide, fun p hp => ?_⟩
          have s2 := sameNew (o := .lst []) hp
          have hds : ∀ (cs : List Nat), DpAll K (upd H1 p (.lst [])) (cs.map fun c => V.str ⟨#[c]⟩) (cs.map fun c => PyData.str ⟨#[c]⟩) := fun cs => by
            induction cs with
            | nil => exact .nil
            | cons c r ih => exact .cons (.str _) ih
          have hpl : ∀ (cs : List Nat), PyData.plainAll (cs.map fun c => PyData.str ⟨#[c]⟩) = true := fun cs => by
            induction cs with
            | nil => rfl
            | cons c r ih => rw [List.map_cons]; unfold PyData.plainAll; rw [ih]; rfl
          refine ⟨.list ((x.cps.toList.filter fun c => !decide (c ∈ letters)).map fun c => PyData.str ⟨#[c]⟩), .list [], .lst (SqL.of (s2 _ _ hl)) (hds _), .lst (SqL.of upd_same) .nil, by unfold PyData.plain; exact hpl _, rfl, Nat.le_trans (Nat.min_le_right _ _) (by decide), ?_⟩
          have ee : ∀ ds : List PyData, PyData.eqv (.list ds) (.list []) = ds.isEmpty := fun ds => by cases ds <;> simp [PyData.eqv, PyData.eqvAll]
          rw [ee, List.isEmpty_map]
          walk_at "go"
          refine ifb (fun k3 => ?_) (fun k3 => ?_)
          · rw [k3, Bool.true_and] at q
            walk_at "go"
            refine ⟨rfl, fun a H3 ha s3 hl3 => ?_⟩
            refine rd_ninL hl3 ?_
            exact q H3 ((s1.trans s2).trans s3)
          · rw [k3, Bool.false_and] at q
            exact q _ (s1.trans s2)
      · have k2 := of_decide_eq_false k2
        rw [decide_eq_false (show ¬ (1 ≤ x.length ∧ x.length ≤ 8) by omega), Bool.false_and] at q
        walk_at "go"
        exact q H (Same.refl H)
    · have k1 := of_decide_eq_false k1
      rw [decide_eq_false (show ¬ (1 ≤ x.length ∧ x.length ≤ 8) by omega), Bool.false_and] at q
      walk_at "go"
      exact q H (Same.refl H)
end
end MH
end
section
set_option Elab.async false
set_option linter.all false
set_option maxRecDepth 100000
set_option maxHeartbeats 4000000
namespace MH
open PySem PySem.Spec PyProof.Rows L2
local macro_rules | `(tactic| walk_at "go") => `(tactic| repeat (first
  | with_reducible refine i_seq ?_ | with_reducible refine i_ifS ?_ | with_reducible refine i_ret ?_ | with_reducible refine i_drop ?_ | with_reducible refine i_asg ?_ | with_reducible refine i_name ?_
  | with_reducible refine i_next ?_ | with_reducible refine i_var (by with_unfolding_all exact rfl) ?_ | with_reducible refine i_c ?_ | with_reducible refine i_cons ?_ | with_reducible refine i_nil ?_ | with_reducible refine i_cb ?_
  | with_reducible refine i_op ?_ | with_reducible refine i_un ?_ | with_reducible refine i_call ?_ | with_reducible refine i_test ?_ | with_reducible refine i_b ?_ | with_reducible refine i_bl ?_ | with_reducible refine i_and ?_ | with_reducible refine i_or ?_
  | with_reducible refine i_not ?_ | with_reducible refine i_andV ?_ | with_reducible refine i_orV ?_ | with_reducible refine i_notV ?_ | with_reducible refine i_if ?_ | with_reducible refine i_chain ?_ | with_reducible refine i_tup ?_ | with_reducible refine i_lst ?_
  | with_reducible refine i_sl ?_ | with_reducible refine i_part ?_ | with_reducible refine i_nopart ?_ | with_reducible refine i_int ?_ | with_reducible refine i_bm ?_ | with_reducible refine i_bm0 ?_ | with_reducible refine i_I0 ?_ | with_reducible refine i_lc ?_ | with_reducible refine i_disp ?_ | with_reducible refine i_pairsC ?_ | with_reducible refine i_pairsN ?_ | with_reducible refine i_dget2 ?_ | with_reducible refine i_gsub ?_ | with_reducible refine i_raiseB ?_ | with_reducible refine i_make ?_ | with_reducible refine i_gcons ?_ | with_reducible refine i_gnil ?_ | with_reducible refine i_enum ?_ | with_reducible refine i_isN ?_ | with_reducible refine i_notN ?_ | with_reducible refine i_fld ?_ | with_reducible refine i_sfld ?_ | with_reducible refine i_meth ?_ | with_reducible refine i_rU ?_ | with_reducible refine i_dputN ?_ | with_reducible refine i_dput ?_ | with_reducible refine i_dget ?_ | with_reducible refine i_rng1 ?_ | with_reducible refine i_dinP ?_ | with_reducible refine i_raiseA ?_ | with_reducible refine i_lenSetS ?_ | with_reducible refine i_for ?_ | with_reducible refine i_yes ?_ | with_reducible refine i_eqS ?_ | with_reducible refine i_neS ?_ | with_reducible refine i_eqI ?_ | with_reducible refine i_neI ?_
  | with_reducible refine i_retN ?_ | with_reducible refine i_brk ?_ | with_reducible refine i_cont ?_ | with_reducible refine i_par ?_ | with_reducible refine i_par3 ?_ | with_reducible refine i_two ?_ | with_reducible refine i_three ?_
  | with_reducible refine i_itup ?_ | with_reducible refine i_ilist ?_ | with_reducible refine i_istr ?_ | with_reducible refine i_str ?_ | with_reducible refine i_m1 ?_ | with_reducible refine i_anystr ?_
  | with_reducible refine iteT ?_ | with_reducible refine iteF ?_))
section
variable {P : Program} {w : World} {K : Fg} {mg : Str → Option Value} {base : Heap}
theorem rd_lstT {H : Hp} {v : V} {xs : List Str} {Q : VK} (h : Dt K H v (.tuple (xs.map PyData.str))) (q : ∀ l, H l = none → Q (.ref l) (upd H l (.lst (xs.map V.str)))) : rLstOf K [v] H Q := by
  obtain ⟨a, ys, rfl, h1, h2⟩ := h.ref
  have := h2.strsV
  subst this
  exact ⟨a, _, rfl, .inr h1, q⟩
theorem rd_cat {H : Hp} {a b : Addr} {xs ys : List V} {Q : VK} (h1 : H a = some (.lst xs)) (h2 : H b = some (.lst ys)) (hl : xs.length + ys.length ≤ sizeLine) (q : ∀ p, H p = none → Q (.ref p) (upd H p (.lst (xs ++ ys)))) : rCat (.ref a) (.ref b) H Q :=
  ⟨a, b, xs, ys, rfl, rfl, h1, h2, hl, q⟩
theorem k__law_text_lines_step (T : Tx K mg) (n : Nat) (KB : Keeps P w K mg base CX0 (n + 2) "_law_text_lines" ["body"] (spLinesP (K := K) n)) : Keeps P w K mg base CX0 (n + 3) "_law_text_lines" ["body"] (spLines (K := K) n) := T.kp__law_text_lines fun fd F => by
  refine F.ok sc__law_text_lines (fun vs H Q E h => ?_) (fun cdv A outer s H vs Q E hr h => ?_)
  · obtain ⟨v, d, rfl, _⟩ := h
    rfl
  · obtain ⟨v, d, rfl, hd, hb, hn4, q⟩ := h
    refine ⟨_, PSs.nox (pss_cons (ps_set (i := 1) sc__law_text_lines.nd rfl (by first | exact Or.inl rfl | exact Or.inr rfl) (pe_lst pa_nil))
      (pss_cons (ps_for PassesOwn.never rfl (pi_tup (pv 0)) (pg_name (i := 2) sc__law_text_lines.nd rfl (by first | exact Or.inl rfl | exact Or.inr rfl)) (pss_cons (ps_if (pt_cmpR op_eq (pe_ix ix_tup (pv 2) pe_int (fun _ _ => rfl)) pe_str (nomark _)) (pss_cons (ps_expr (pe_bm PySem.F.plainAttrs_list PySem.F.slot_list_append PySem.F.type_list_append mt_append (pv 1) (pa_cons (pe_join pe_str (pe_op op_cat (pe_lst (pa_cons pe_str (pa_cons (pe_ix ix_tup (pv 2) pe_int (fun _ _ => rfl)) (pa_cons (pe_ix ix_tup (pv 2) pe_int (fun _ _ => rfl)) pa_nil)))) (pe_callTy (T := "list") (call_lstK (K := K) rfl) (by rfl) T.b_list (by decide +kernel) (pa_cons (pe_ix ix_tup (pv 2) pe_int (fun _ _ => rfl)) pa_nil)))) pa_nil)))
      (pss_one ps_continue)) pss_nil)
      (pss_cons (ps_expr (pe_bm PySem.F.plainAttrs_list PySem.F.slot_list_append PySem.F.type_list_append mt_append (pv 1) (pa_cons (pe_join pe_str (pe_op op_cat (pe_lst (pa_cons (pe_ix ix_tup (pv 2) pe_int (fun _ _ => rfl)) (pa_cons (pe_ix ix_tup (pv 2) pe_int (fun _ _ => rfl)) pa_nil))) (pe_callTy (T := "list") (call_lstK (K := K) rfl) (by rfl) T.b_list (by decide +kernel) (pa_cons (pe_ix ix_tup (pv 2) pe_int (fun _ _ => rfl)) pa_nil)))) pa_nil)))
      (pss_cons (ps_set (i := 1) sc__law_text_lines.nd rfl (by first | exact Or.inl rfl | exact Or.inr rfl) (pe_op op_cat (pv 1) (pe_k KB (hr.mono (by omega)) pass0 (pa_cons (pe_ix ix_tup (pv 2) pe_int (fun _ _ => rfl)) pa_nil))))
      (pss_cons (ps_if (PW.pt (pw_and (pt_cmpR op_eq (pe_ix ix_tup (pv 2) pe_int (fun _ _ => rfl)) pe_str (nomark _)) (pw_and1 (pt_cmpR (op_neP hr.units) (pe_ix ix_tup (pv 2) pe_int (fun _ _ => rfl)) (pe_tup pa_nil) (nomark _))))) (pss_one (ps_set (i := 1) sc__law_text_lines.nd rfl (by first | exact Or.inl rfl | exact Or.inr rfl) (pe_op op_cat (pe_op op_cat (pv 1) (pe_lst (pa_cons pe_str pa_nil))) (pe_k KB (hr.mono (by omega)) pass0 (pa_cons (pe_ix ix_tup (pv 2) pe_int (fun _ _ => rfl)) pa_nil))))) pss_nil)
      (pss_one (ps_expr (pe_bm PySem.F.plainAttrs_list PySem.F.slot_list_append PySem.F.type_list_append mt_append (pv 1) (pa_cons pe_str pa_nil)))))))))
      (pss_one (ps_ret (pv 1))))), ?_⟩
    have hbig := Nat.le_trans (linesD_le n hb) (Nat.mul_le_mul_left 3 (Nat.le_trans (sitesD_le n hb) (siteMax_le hn4)))
    obtain ⟨ds, rfl, hl, h0, h1⟩ := isBodyD_tup hb
    rw [linesD_succ] at q hbig
    walk_at "go"
    refine ⟨by decide, fun p hp => ?_⟩
    walk_at "go"
    have hd1 := hd.same (sameNew (o := .lst []) hp)
    obtain ⟨a, xs, rfl, hx1, hx2⟩ := hd1.ref
    refine ⟨_, rfl, ⟨_, hx1⟩, ?_⟩
    refine forb_data (fun i σ H' => ∃ y p', σ = [some (.ref a), some (.ref p'), y] ∧ H p' = none ∧ Grown K H (upd H p (.lst [])) p' (((ds.take i).flatMap (itLines (linesD n))).map V.str) H') hx1 hx2 ⟨_, p, rfl, hp, Grown.new hp⟩ (fun i σ H _ h => by obtain ⟨_, _, _, _, g⟩ := h; exact g.t) (fun i v d σ H2 e hv h => ?_) (fun σ H2 h => ?_)
    · obtain ⟨y, p1, rfl, hp1, g⟩ := h
      obtain ⟨m, rfl⟩ : ∃ m, n = m + 1 := by
        cases n with
        | zero => rw [h0 rfl] at e; simp at e
        | succ m => exact ⟨m, rfl⟩
      have hok := all_get (h1 m rfl) e
      have hsp := congrArg List.length (flatMap_split (f := itLines (linesD (m + 1))) e)
      rw [List.length_append, List.length_append] at hsp
      rw [flatMap_take_succ e]
      have hpl := fun (l : List V) (p : Addr) (H1 H' : Hp) (g' : Grown K H H1 p l H') => (show tyV K "list" (.ref p) H' from .inl ⟨rfl, _, SqL.of g'.l⟩)
      rcases item_open hok (linesD (m + 1)) with ⟨s0, x, as, rfl, el, e3, hw8⟩ | ⟨k, s0, as, b, rest, Es, rfl, hk, hb1, el, e3, hw8, hE⟩
      · rw [el] at hsp ⊢
        simp only [List.length_singleton] at hsp
        walk_at "go"
        refine rd_ix hv (n := 0) rfl rfl (fun u hu => ?_)
        obtain ⟨rfl, _⟩ := hu.strI
        walk_at "go"
        refine ift (by decide) ?_
        walk_at "go"
        refine ⟨hpl _ _ _ _ g, ?_⟩
        walk_at "go"
        refine rd_ix hv (n := 1) rfl rfl (fun u hu => ?_)
        obtain ⟨rfl, _⟩ := hu.strI
        walk_at "go"
        refine rd_ix hv (n := 2) rfl rfl (fun u hu => ?_)
        obtain ⟨rfl, _⟩ := hu.strI
        walk_at "go"
        refine ⟨by show 3 ≤ sizeLine; decide, fun p3 hp3 => ?_⟩
        walk_at "go"
        have s3 := sameNew (o := .lst [V.str "do", V.str s0, V.str x]) hp3
        refine rd_ix (hv.same s3) (n := 3) rfl rfl (fun u4 hu4 => ?_)
        walk_at "go"
        refine rd_lstT hu4 (fun p4 hp4 => ?_)
        have s4 := sameNew (o := .lst (as.map V.str)) hp4
        refine rd_cat (s4 _ _ upd_same) upd_same (by rw [List.length_map]; show 3 + as.length ≤ sizeLine; unfold sizeLine; omega) (fun p5 hp5 => ?_)
        have s5 := sameNew (o := .lst ([V.str "do", V.str s0, V.str x] ++ as.map V.str)) hp5
        refine ⟨_, p5, ("do" : Str) :: s0 :: x :: as, rfl, rfl, .inl (SqL.of upd_same), joinB (by simp only [List.length_cons]; omega) hw8, ?_⟩
        walk_at "go"
        have g5 := ((g.step s3).step s4).step s5
        refine ⟨p1, _, _, rfl, rfl, g5.l, by rw [List.length_map]; unfold sizeLine; omega, ?_⟩
        walk_at "go"
        refine ⟨_, p1, rfl, hp1, ?_⟩
        rw [List.map_append]
        exact g5.put hp1
      · rw [el] at hsp ⊢
        simp only [List.length_cons, List.length_append, List.length_nil] at hsp
        walk_at "go"
        refine rd_ix hv (n := 0) rfl rfl (fun u hu => ?_)
        obtain ⟨rfl, _⟩ := hu.strI
        walk_at "go"
        refine ife (decide_eq_false hk) ?_
        walk_at "go"
        refine ⟨hpl _ _ _ _ g, ?_⟩
        walk_at "go"
        refine rd_ix hv (n := 0) rfl rfl (fun u hu => ?_)
        obtain ⟨rfl, _⟩ := hu.strI
        walk_at "go"
        refine rd_ix hv (n := 1) rfl rfl (fun u hu => ?_)
        obtain ⟨rfl, _⟩ := hu.strI
        walk_at "go"
        refine ⟨by show 2 ≤ sizeLine; decide, fun p3 hp3 => ?_⟩
        walk_at "go"
        have s3 := sameNew (o := .lst [V.str k, V.str s0]) hp3
        refine rd_ix (hv.same s3) (n := 2) rfl rfl (fun u4 hu4 => ?_)
        walk_at "go"
        refine rd_lstT hu4 (fun p4 hp4 => ?_)
        have s4 := sameNew (o := .lst (as.map V.str)) hp4
        refine rd_cat (s4 _ _ upd_same) upd_same (by rw [List.length_map]; show 2 + as.length ≤ sizeLine; unfold sizeLine; omega) (fun p5 hp5 => ?_)
        have s5 := sameNew (o := .lst ([V.str k, V.str s0] ++ as.map V.str)) hp5
        refine ⟨_, p5, k :: s0 :: as, rfl, rfl, .inl (SqL.of upd_same), joinB (by simp only [List.length_cons]; omega) hw8, ?_⟩
        walk_at "go"
        have g5 := ((g.step s3).step s4).step s5
        have hv5 := ((hv.same s3).same s4).same s5
        refine ⟨p1, _, _, rfl, rfl, g5.l, by rw [List.length_map]; unfold sizeLine; omega, ?_⟩
        walk_at "go"
        have hv6 := hv5.mono (StT.lst (ys := List.map V.str (List.flatMap (itLines (linesD (m + 1))) (List.take i ds)) ++ [V.str (Txt.join " " (k :: s0 :: as))]) g5.l)
        have g6 := g5.put (ys := List.map V.str (List.flatMap (itLines (linesD (m + 1))) (List.take i ds)) ++ [V.str (Txt.join " " (k :: s0 :: as))]) hp1
        generalize upd (upd (upd (upd H2 p3 (.lst [V.str k, V.str s0])) p4 (.lst (List.map V.str as))) p5 (.lst ([V.str k, V.str s0] ++ List.map V.str as))) p1 (.lst (List.map V.str (List.flatMap (itLines (linesD (m + 1))) (List.take i ds)) ++ [V.str (Txt.join " " (k :: s0 :: as))])) = H6 at g6 hv6 ⊢
        have e6 : List.map V.str (List.flatMap (itLines (linesD (m + 1))) (List.take i ds)) ++ [V.str (Txt.join " " (k :: s0 :: as))] = ((List.flatMap (itLines (linesD (m + 1))) (List.take i ds)) ++ [spc (k :: s0 :: as)]).map V.str := by
          rw [List.map_append]
          rfl
        rw [e6] at g6
        generalize hL6 : (List.flatMap (itLines (linesD (m + 1))) (List.take i ds)) ++ [spc (k :: s0 :: as)] = L6 at g6
        have hlen6 : L6.length = (List.flatMap (itLines (linesD (m + 1))) (List.take i ds)).length + 1 := by rw [← hL6]; simp
        refine rd_ix hv6 (n := 3) rfl rfl (fun u7 hu7 => ?_)
        walk_at "go"
        refine ⟨u7, b, rfl, hu7, hb1, by omega, fun q1 H8 hq1 s8 hl8 => ?_⟩
        have g8 := g6.step s8
        have hl8 : H8 q1 = some (.lst ((linesD (m + 1) b).map V.str)) := hl8
        refine rd_cat g8.l hl8 (by rw [List.length_map, List.length_map]; unfold sizeLine; omega) (fun p9 hp9 => ?_)
        have hp9' := none_of g8.s hp9
        have g9 := g8.move (ys := List.map V.str L6 ++ List.map V.str (linesD (m + 1) b)) hp9
        have hv9 := (hv6.same s8).same (sameNew (o := .lst (List.map V.str L6 ++ List.map V.str (linesD (m + 1) b))) hp9)
        generalize upd H8 p9 (.lst (List.map V.str L6 ++ List.map V.str (linesD (m + 1) b))) = H9 at g9 hv9 ⊢
        rw [← List.map_append] at g9
        refine i_name ?_
        with_reducible refine seq_at (fun σ H' => ∃ p', σ = [some (.ref a), some (.ref p'), some v] ∧ H p' = none ∧ Grown K H (upd H p (.lst [])) p' ((L6 ++ linesD (m + 1) b ++ Es).map V.str) H') (fun N hN => ?_) (fun σ H' hc => ?_)
        · walk_at "go"
          refine rd_ix hv9 (n := 0) rfl rfl (fun u hu => ?_)
          obtain ⟨rfl, _⟩ := hu.strI
          walk_at "go"
          rcases hE with ⟨rfl, b2, rfl, hb2, rfl⟩ | ⟨hk2, rfl⟩
          · refine ift (by decide) ?_
            walk_at "go"
            refine rd_ix hv9 (n := 4) rfl rfl (fun u10 hu10 => ?_)
            walk_at "go"
            refine ⟨by decide, fun p11 hp11 => ?_⟩
            have s11 := sameNew (o := .tup []) hp11
            obtain ⟨cs, rfl, _⟩ := isBodyD_tup hb2
            refine rd_neE (hu10.same s11) (noLs_tup (noL_body _ hb2)) Dt.empty ?_
            walk_at "go"
            have g11 := g9.step s11
            have hv11 := hv9.same s11
            cases hcs : cs.isEmpty with
            | true =>
              refine ife rfl ?_
              walk_at "go"
              refine hN _ _ ⟨p9, rfl, hp9', ?_⟩
              rw [if_neg (by rw [show isE (.tuple cs) = cs.isEmpty from rfl, hcs]; simp), List.append_nil]
              exact g11
            | false =>
              refine ift rfl ?_
              rw [if_pos (show isE (.tuple cs) = false from hcs)] at hsp
              simp only [List.length_cons] at hsp
              walk_at "go"
              refine ⟨le1, fun p12 hp12 => ?_⟩
              have s12 := sameNew (o := .lst [V.str "else"]) hp12
              have g12 := g11.step s12
              refine rd_cat g12.l upd_same (by rw [List.length_map]; simp only [List.length_append, List.length_singleton]; unfold sizeLine; omega) (fun p13 hp13 => ?_)
              walk_at "go"
              have g13 := g12.move (ys := List.map V.str (L6 ++ linesD (m + 1) b) ++ [V.str "else"]) hp13
              have hv13 := (hv11.same s12).same (sameNew (o := .lst (List.map V.str (L6 ++ linesD (m + 1) b) ++ [V.str "else"])) hp13)
              refine rd_ix hv13 (n := 4) rfl rfl (fun u14 hu14 => ?_)
              walk_at "go"
              refine ⟨u14, _, rfl, hu14, hb2, by omega, fun q15 H15 hq15 s15 hl15 => ?_⟩
              have hl15 : H15 q15 = some (.lst ((linesD (m + 1) (.tuple cs)).map V.str)) := hl15
              have g15 := g13.step s15
              refine rd_cat g15.l hl15 (by simp only [List.length_append, List.length_map, List.length_singleton]; unfold sizeLine; omega) (fun p16 hp16 => ?_)
              walk_at "go"
              refine hN _ _ ⟨p16, rfl, none_of g15.s hp16, ?_⟩
              have g16 := g15.move (ys := List.map V.str (L6 ++ linesD (m + 1) b) ++ [V.str "else"] ++ List.map V.str (linesD (m + 1) (.tuple cs))) hp16
              have e16 : List.map V.str (L6 ++ linesD (m + 1) b) ++ [V.str "else"] ++ List.map V.str (linesD (m + 1) (.tuple cs)) = (L6 ++ linesD (m + 1) b ++ ("else" : Str) :: linesD (m + 1) (.tuple cs)).map V.str := by simp
              rw [if_pos (show isE (.tuple cs) = false from hcs), ← e16]
              exact g16
          · refine ife (decide_eq_false hk2) ?_
            walk_at "go"
            refine hN _ _ ⟨p9, rfl, hp9', ?_⟩
            rw [List.append_nil]
            exact g9
        · obtain ⟨p', rfl, hp', g'⟩ := hc
          walk_at "go"
          refine ⟨hpl _ _ _ _ g', ?_⟩
          walk_at "go"
          refine ⟨p', _, _, rfl, rfl, g'.l, by simp only [List.length_append, List.length_map]; unfold sizeLine; omega, ?_⟩
          walk_at "go"
          refine ⟨_, p', rfl, hp', ?_⟩
          have g17 := g'.put (ys := List.map V.str (L6 ++ linesD (m + 1) b ++ Es) ++ [V.str "end"]) hp'
          have e17 : List.map V.str (L6 ++ linesD (m + 1) b ++ Es) ++ [V.str "end"] = List.map V.str (List.flatMap (itLines (linesD (m + 1))) (List.take i ds) ++ spc (k :: s0 :: as) :: (linesD (m + 1) b ++ (Es ++ [("end" : Str)]))) := by
            rw [← hL6]
            simp
          rw [← e17]
          exact g17
    · obtain ⟨y, p1, rfl, hp1, g⟩ := h
      walk_at "go"
      rw [List.take_of_length_le (Nat.le_refl _)] at g
      exact q p1 H2 hp1 g.s g.l
theorem k__law_text_lines_no (T : Tx K mg) : Keeps P w K mg base CX0 2 "_law_text_lines" ["body"] spNo := T.kp__law_text_lines fun fd F =>
  F.ok sc__law_text_lines (fun _ _ _ _ h => h.elim) (fun _ _ _ _ _ _ _ _ _ h => h.elim)
theorem k__law_text_lines (T : Tx K mg) : ∀ n, Keeps P w K mg base CX0 (n + 3) "_law_text_lines" ["body"] (spLines (K := K) n)
  | 0 => k__law_text_lines_step T 0 (k__law_text_lines_no T)
  | n + 1 => k__law_text_lines_step T (n + 1) (k__law_text_lines T n)
end
end MH
end
section
set_option Elab.async false
set_option linter.all false
set_option maxRecDepth 100000
set_option maxHeartbeats 4000000
namespace MH
open PySem PySem.Spec PyProof.Rows L2
local macro_rules | `(tactic| walk_at "go") => `(tactic| repeat (first
  | with_reducible refine i_seq ?_ | with_reducible refine i_ifS ?_ | with_reducible refine i_ret ?_ | with_reducible refine i_drop ?_ | with_reducible refine i_asg ?_ | with_reducible refine i_name ?_
  | with_reducible refine i_next ?_ | with_reducible refine i_var (by with_unfolding_all exact rfl) ?_ | with_reducible refine i_c ?_ | with_reducible refine i_cons ?_ | with_reducible refine i_nil ?_ | with_reducible refine i_cb ?_
  | with_reducible refine i_op ?_ | with_reducible refine i_un ?_ | with_reducible refine i_call ?_ | with_reducible refine i_test ?_ | with_reducible refine i_b ?_ | with_reducible refine i_bl ?_ | with_reducible refine i_and ?_ | with_reducible refine i_or ?_
  | with_reducible refine i_not ?_ | with_reducible refine i_andV ?_ | with_reducible refine i_orV ?_ | with_reducible refine i_notV ?_ | with_reducible refine i_if ?_ | with_reducible refine i_chain ?_ | with_reducible refine i_tup ?_ | with_reducible refine i_lst ?_
  | with_reducible refine i_sl ?_ | with_reducible refine i_part ?_ | with_reducible refine i_nopart ?_ | with_reducible refine i_int ?_ | with_reducible refine i_bm ?_ | with_reducible refine i_bm0 ?_ | with_reducible refine i_I0 ?_ | with_reducible refine i_lc ?_ | with_reducible refine i_disp ?_ | with_reducible refine i_pairsC ?_ | with_reducible refine i_pairsN ?_ | with_reducible refine i_dget2 ?_ | with_reducible refine i_gsub ?_ | with_reducible refine i_raiseB ?_ | with_reducible refine i_make ?_ | with_reducible refine i_gcons ?_ | with_reducible refine i_gnil ?_ | with_reducible refine i_enum ?_ | with_reducible refine i_isN ?_ | with_reducible refine i_notN ?_ | with_reducible refine i_fld ?_ | with_reducible refine i_sfld ?_ | with_reducible refine i_meth ?_ | with_reducible refine i_rU ?_ | with_reducible refine i_dputN ?_ | with_reducible refine i_dput ?_ | with_reducible refine i_dget ?_ | with_reducible refine i_rng1 ?_ | with_reducible refine i_dinP ?_ | with_reducible refine i_raiseA ?_ | with_reducible refine i_lenSetS ?_ | with_reducible refine i_for ?_ | with_reducible refine i_yes ?_ | with_reducible refine i_eqS ?_ | with_reducible refine i_neS ?_ | with_reducible refine i_eqI ?_ | with_reducible refine i_neI ?_
  | with_reducible refine i_retN ?_ | with_reducible refine i_brk ?_ | with_reducible refine i_cont ?_ | with_reducible refine i_par ?_ | with_reducible refine i_par3 ?_ | with_reducible refine i_two ?_ | with_reducible refine i_three ?_
  | with_reducible refine i_itup ?_ | with_reducible refine i_ilist ?_ | with_reducible refine i_istr ?_ | with_reducible refine i_str ?_ | with_reducible refine i_m1 ?_ | with_reducible refine i_anystr ?_
  | with_reducible refine iteT ?_ | with_reducible refine iteF ?_))
mutual
def wt : PyData → Nat
  | .list xs => 1 + wts xs
  | .tuple xs => 1 + wts xs
  | _ => 1
def wts : List PyData → Nat
  | [] => 0
  | x :: r => wt x + wts r
end
def kindD : PyData → Str
  | .tuple _ => "tuple"
  | .list _ => "list"
  | .bool _ => "bool"
  | _ => "other"
def kidsD : PyData → List PyData
  | .tuple xs => xs
  | .list xs => xs
  | _ => []
theorem kind_mem (e : PyData) : decide (kindD e ∈ (["tuple", "list"] : List Str)) = (is_tuple e || is_list e) := by
  have h1 : decide ((Str.ofString "tuple") ∈ (["tuple", "list"] : List Str)) = true := by decide
  have h2 : decide ((Str.ofString "list") ∈ (["tuple", "list"] : List Str)) = true := by decide
  have h3 : decide ((Str.ofString "bool") ∈ (["tuple", "list"] : List Str)) = false := by decide
  have h4 : decide ((Str.ofString "other") ∈ (["tuple", "list"] : List Str)) = false := by decide
  cases e with
  | tuple _ => exact h1
  | list _ => exact h2
  | bool _ => exact h3
  | _ => exact h4
def kindsW : Nat → List PyData → List Str
  | 0, _ => []
  | m + 1, ds => match ds.getLast? with
    | none => []
    | some e => kindD e :: kindsW m (ds.dropLast ++ kidsD e)
theorem wts_cons (x : PyData) (r : List PyData) : wts (x :: r) = wt x + wts r := by simp [wts]
theorem wts_append : ∀ (a b : List PyData), wts (a ++ b) = wts a + wts b
  | [], b => by simp [wts]
  | x :: r, b => by
    rw [List.cons_append, wts_cons, wts_cons, wts_append r b]
    omega
theorem wt_kids (e : PyData) : wt e = 1 + wts (kidsD e) := by
  cases e <;> simp [wt, wts, kidsD]
theorem wts_snoc (ds : List PyData) (e : PyData) : wts (ds ++ [e]) = wts (ds ++ kidsD e) + 1 := by
  rw [wts_append, wts_append]
  have : wts [e] = wt e := by rw [wts_cons]; simp [wts]
  rw [this, wt_kids]
  omega
theorem kindsW_snoc (ds : List PyData) (e : PyData) : kindsW (wts (ds ++ [e])) (ds ++ [e]) = kindD e :: kindsW (wts (ds ++ kidsD e)) (ds ++ kidsD e) := by
  rw [wts_snoc]
  show (match (ds ++ [e]).getLast? with | none => [] | some e' => kindD e' :: kindsW (wts (ds ++ kidsD e)) ((ds ++ [e]).dropLast ++ kidsD e')) = _
  rw [List.getLast?_concat, List.dropLast_concat]
theorem len_le_wts : ∀ ds : List PyData, ds.length ≤ wts ds
  | [] => Nat.zero_le _
  | e :: r => by
    rw [wts_cons]
    have := len_le_wts r
    have h2 := wt_kids e
    rw [List.length_cons]
    omega
section
variable {P : Program} {w : World} {K : Fg} {mg : Str → Option Value} {base : Heap}
mutual
theorem dpSame {H H' : Hp} (s : Same H H') : ∀ {v : V} {d : PyData}, Dp K H v d → Dp K H' v d
  | _, _, .non => .non
  | _, _, .bl b => .bl b
  | _, _, .int i => .int i
  | _, _, .str x => .str x
  | _, _, .lst h r => .lst (by
    rcases h with (h | ⟨o, h⟩) | h
    · exact .inl (.inl (s _ _ h))
    · exact .inl (.inr ⟨o, s _ _ h⟩)
    · exact .inr h) (dpAllSame s r)
  | _, _, .tup h r => .tup ((StT.same s).t _ _ h) (dpAllSame s r)
theorem dpAllSame {H H' : Hp} (s : Same H H') : ∀ {vs : List V} {ds : List PyData}, DpAll K H vs ds → DpAll K H' vs ds
  | _, _, .nil => .nil
  | _, _, .cons h t => .cons (dpSame s h) (dpAllSame s t)
end
theorem dpLen {H : Hp} : ∀ {vs : List V} {ds : List PyData}, DpAll K H vs ds → vs.length = ds.length
  | _, _, .nil => rfl
  | _, _, .cons _ t => congrArg (· + 1) (dpLen t)
theorem dpApp {H : Hp} : ∀ {vs ws : List V} {ds es : List PyData}, DpAll K H vs ds → DpAll K H ws es → DpAll K H (vs ++ ws) (ds ++ es)
  | _, _, _, _, .nil, t => t
  | _, _, _, _, .cons h t, u => .cons h (dpApp t u)
theorem dpSnoc {H : Hp} : ∀ {ds : List PyData} {vs : List V} {e : PyData}, DpAll K H vs (ds ++ [e]) → ∃ ws u, vs = ws ++ [u] ∧ DpAll K H ws ds ∧ Dp K H u e
  | [], _, e, h => by
    cases h with
    | cons h t =>
      cases t
      exact ⟨[], _, rfl, .nil, h⟩
  | d :: r, _, e, h => by
    cases h with
    | cons h t =>
      obtain ⟨ws, u, rfl, h1, h2⟩ := dpSnoc t
      exact ⟨_ :: ws, u, rfl, .cons h h1, h2⟩
mutual
theorem dpPlain {H : Hp} : ∀ {v : V} {d : PyData}, Dp K H v d → d.plain = true
  | _, _, .non => rfl
  | _, _, .bl _ => rfl
  | _, _, .int _ => rfl
  | _, _, .str _ => rfl
  | _, _, .lst _ r => by unfold PyData.plain; exact dpAllPlain r
  | _, _, .tup _ r => by unfold PyData.plain; exact dpAllPlain r
theorem dpAllPlain {H : Hp} : ∀ {vs : List V} {ds : List PyData}, DpAll K H vs ds → PyData.plainAll ds = true
  | _, _, .nil => rfl
  | _, _, .cons h t => by
    unfold PyData.plainAll
    rw [dpPlain h, dpAllPlain t]
    rfl
end
theorem dpTy {H : Hp} {v : V} {d : PyData} (h : Dp K H v d) : TyX K H v (.type (tyName d)) := by
  cases h with
  | non => exact .base .non
  | bl b => exact .base (.bl b)
  | int i => exact .base (.int i)
  | str x => exact .base (.str x)
  | tup q _ =>
    rcases q with (q | ⟨o, q⟩) | ⟨o, its, n, q, c, _⟩
    · exact .base (.tup q)
    · exact .fTuple q
    · exact .kTuple q c
  | lst q _ =>
    rcases q with (q | ⟨o, q⟩) | ⟨o, its, n, q, c, _⟩
    · exact .base (.lst q)
    · exact .base (.frz q)
    · exact .kList q c
theorem rd_isiP {H : Hp} {v : V} {d : PyData} {t : String} {b : Bool} {Q : VK} (h : Dp K H v d) (e : kitB (tyName d) t = some b) (q : Q (.bl b) H) : rIsi K [v, .ty t] H Q :=
  ⟨v, .ty t, _, _, b, rfl, .ty t, dpTy h, kit_ty e, q⟩
def spKinds : Sp := fun vs H Q _ => ∃ v d, vs = [v] ∧ Dp K H v d ∧ wt d ≤ 1000000 ∧ ∀ a H', H a = none → Same H H' → H' a = some (.lst ((kindsW (wt d) [d]).map V.str)) → Q (.ref a) H'
theorem k__law_kinds (T : Tx K mg) : Keeps P w K mg base CX0 1 "_law_kinds" ["thing"] (spKinds (K := K)) := T.kp__law_kinds fun fd F => by
  refine F.ok sc__law_kinds (fun vs H Q E h => ?_) (fun cdv A outer s H vs Q E hr h => ?_)
  · obtain ⟨v, d, rfl, _⟩ := h
    rfl
  · obtain ⟨v, d, rfl, hd, hw, q⟩ := h
    refine ⟨_, PSs.nox (pss_cons (ps_par (i := 1) (j := 2) (by rfl) sc__law_kinds.nd rfl rfl (by decide) rfl rfl (pa_cons (pe_lst pa_nil) (pa_cons (pe_lst (pa_cons (pv 0) pa_nil)) pa_nil)) (by rfl))
      (pss_cons (ps_while PassesOwn.never (pt_cmpR (op_neP hr.units) (pv 2) (pe_lst pa_nil) (nomark _)) (pss_cons (ps_set (i := 3) sc__law_kinds.nd rfl (by first | exact Or.inl rfl | exact Or.inr rfl) (pe_bm0 PySem.F.plainAttrs_list PySem.F.slot_list_pop PySem.F.type_list_pop mt_pop (pv 2)))
      (pss_cons (ps_set (i := 4) sc__law_kinds.nd rfl (by first | exact Or.inl rfl | exact Or.inr rfl) (pe_ifExp (pt_val (pe_callB call_isi (by rfl) T.b_isinstance (by decide +kernel) (pa_cons (pv 3) (pa_cons (pe_ty (T := "tuple") T.b_tuple) pa_nil)))) pe_str (pe_ifExp (pt_val (pe_callB call_isi (by rfl) T.b_isinstance (by decide +kernel) (pa_cons (pv 3) (pa_cons (pe_ty (T := "list") T.b_list) pa_nil)))) pe_str (pe_ifExp (pt_val (pe_callB call_isi (by rfl) T.b_isinstance (by decide +kernel) (pa_cons (pv 3) (pa_cons (pe_ty (T := "bool") T.b_bool) pa_nil)))) pe_str pe_str))))
      (pss_cons (ps_expr (pe_bm PySem.F.plainAttrs_list PySem.F.slot_list_append PySem.F.type_list_append mt_append (pv 1) (pa_cons (pv 4) pa_nil)))
      (pss_one (ps_set (i := 2) sc__law_kinds.nd rfl (by first | exact Or.inl rfl | exact Or.inr rfl) (pe_ifExp (pt_cmpR op_in_seq (pv 4) (pe_lst (pa_cons pe_str (pa_cons pe_str pa_nil))) (by rfl)) (pe_op op_cat (pv 2) (pe_callTy (T := "list") (call_lstK (K := K) rfl) (by rfl) T.b_list (by decide +kernel) (pa_cons (pv 3) pa_nil))) (pv 2))))))))
      (pss_one (ps_ret (pv 1))))), ?_⟩
    walk_at "go"
    refine ⟨by decide, fun a ha => ?_⟩
    walk_at "go"
    refine ⟨le1, fun b hb => ?_⟩
    walk_at "go"
    have ew : wts [d] = wt d := by rw [wts_cons]; simp [wts]
    have nab : a ≠ b := ne_of_none upd_same hb
    obtain ⟨W, hW⟩ : ∃ W : Nat → L2.St → Hp → Prop, W = fun m σ H' => ∃ a b y z ds vs ks, σ = [some v, some (.ref a), some (.ref b), y, z] ∧ a ≠ b ∧ H a = none ∧ H b = none ∧ Same H H' ∧ H' a = some (.lst (ks.map V.str)) ∧ H' b = some (.lst vs) ∧ DpAll K H vs ds ∧ m = wts ds ∧ ks ++ kindsW (wts ds) ds = kindsW (wt d) [d] ∧ ks.length + wts ds ≤ 1000000 := ⟨_, rfl⟩
    refine ⟨W, ⟨wt d, by rw [hW]; exact ⟨a, b, _, _, [d], [v], [], rfl, nab, ha, none_of (sameNew ha) hb, (sameNew ha).trans (sameNew hb), (sameNew hb) _ _ upd_same, upd_same, .cons hd .nil, ew.symm, by rw [ew]; rfl, by rw [ew]; simpa using hw⟩⟩, ?_⟩
    intro m σ H1 h
    rw [hW] at h
    obtain ⟨a, b, y, z, ds, vs, ks, rfl, nab, ha, hb, s1, hla, hlb, hds, rfl, hk, hsz⟩ := h
    walk_at "go"
    refine ⟨by decide, fun p hp => ?_⟩
    have s2 := sameNew (o := .lst []) hp
    have hds2 := dpAllSame (s1.trans s2) hds
    refine ⟨.list ds, .list [], .lst (SqL.of (s2 _ _ hlb)) hds2, .lst (SqL.of upd_same) .nil, by unfold PyData.plain; exact dpAllPlain hds2, rfl, Nat.le_trans (Nat.min_le_right _ _) (by decide), ?_⟩
    have ee : ∀ ds : List PyData, PyData.eqv (.list ds) (.list []) = ds.isEmpty := fun ds => by cases ds <;> simp [PyData.eqv, PyData.eqvAll]
    rw [ee]
    walk_at "go"
    rcases List.eq_nil_or_concat ds with rfl | ⟨dr, e, e0⟩
    · refine iteF ?_
      walk_at "go"
      have hk : ks ++ [] = kindsW (wt d) [d] := hk
      rw [List.append_nil] at hk
      rw [hk] at hla
      exact q a _ ha (s1.trans s2) (s2 _ _ hla)
    · rw [List.concat_eq_append] at e0
      subst e0
      refine ift (by simp) ?_
      refine ⟨fun σ' H' => ∃ m', m' < wts (dr ++ [e]) ∧ W m' σ' H', fun _ _ h => h, ?_⟩
      obtain ⟨ws, u, rfl, hds1, hu⟩ := dpSnoc hds
      have hla2 := s2 _ _ hla
      have hlb2 := s2 _ _ hlb
      have s02 := s1.trans s2
      generalize upd H1 p (.lst []) = H2 at s02 hla2 hlb2 ⊢
      walk_at "go"
      refine ⟨.inl ⟨rfl, _, SqL.of hlb2⟩, ?_⟩
      refine ⟨b, _, u, rfl, rfl, hlb2, by simp, ?_⟩
      rw [List.dropLast_concat]
      have s03 : Same H (upd H2 b (.lst ws)) := samePut s02 hb
      have hla3 : upd H2 b (.lst ws) a = some (.lst (ks.map V.str)) := by rw [upd_ne nab]; exact hla2
      have hlb3 : upd H2 b (.lst ws) b = some (.lst ws) := upd_same
      generalize upd H2 b (.lst ws) = H3 at s03 hla3 hlb3 ⊢
      have hu3 := dpSame s03 hu
      rw [kindsW_snoc] at hk
      rw [wts_snoc] at hsz ⊢
      refine i_name ?_
      refine i_next ?_
      with_reducible refine seq_at (fun σ H' => σ = [some v, some (.ref a), some (.ref b), some u, some (.str (kindD e))] ∧ H' = H3) (fun N hN => ?_) (fun σ H' hc => ?_)
      · walk_at "go"
        refine rd_isiP hu3 (kit_tuple e) ?_
        walk_at "go"
        cases e with
        | tuple cs =>
          refine ift rfl ?_
          walk_at "go"
          exact hN _ _ ⟨rfl, rfl⟩
        | list cs =>
          refine ife rfl ?_
          walk_at "go"
          refine rd_isiP hu3 (kit_list _) ?_
          walk_at "go"
          refine ift rfl ?_
          walk_at "go"
          exact hN _ _ ⟨rfl, rfl⟩
        | bool c =>
          refine ife rfl ?_
          walk_at "go"
          refine rd_isiP hu3 (kit_list _) ?_
          walk_at "go"
          refine ife rfl ?_
          walk_at "go"
          refine rd_isiP hu3 (kit_bool _) ?_
          walk_at "go"
          refine ift rfl ?_
          walk_at "go"
          exact hN _ _ ⟨rfl, rfl⟩
        | _ =>
          refine ife rfl ?_
          walk_at "go"
          refine rd_isiP hu3 (kit_list _) ?_
          walk_at "go"
          refine ife rfl ?_
          walk_at "go"
          refine rd_isiP hu3 (kit_bool _) ?_
          walk_at "go"
          refine ife rfl ?_
          walk_at "go"
          exact hN _ _ ⟨rfl, rfl⟩
      · obtain ⟨rfl, rfl⟩ := hc
        walk_at "go"
        refine ⟨.inl ⟨rfl, _, SqL.of hla3⟩, ?_⟩
        walk_at "go"
        refine ⟨a, _, _, rfl, rfl, hla3, by rw [List.length_map]; unfold sizeLine; omega, ?_⟩
        walk_at "go"
        have s04 : Same H (upd H' a (.lst (ks.map V.str ++ [V.str (kindD e)]))) := samePut s03 ha
        have hla4 : upd H' a (.lst (ks.map V.str ++ [V.str (kindD e)])) a = some (.lst ((ks ++ [kindD e]).map V.str)) := by rw [upd_same, List.map_append]; rfl
        have hlb4 : upd H' a (.lst (ks.map V.str ++ [V.str (kindD e)])) b = some (.lst ws) := by rw [upd_ne nab.symm]; exact hlb3
        generalize upd H' a (.lst (ks.map V.str ++ [V.str (kindD e)])) = H4 at s04 hla4 hlb4 ⊢
        refine ⟨by show 2 ≤ sizeLine; decide, fun p5 hp5 => ?_⟩
        have s5 := sameNew (o := .lst [V.str "tuple", V.str "list"]) hp5
        refine rd_inL (ks := ["tuple", "list"]) upd_same ?_
        walk_at "go"
        have s05 := s04.trans s5
        have hla5 := s5 _ _ hla4
        have hlb5 := s5 _ _ hlb4
        generalize upd H4 p5 (.lst [V.str "tuple", V.str "list"]) = H5 at s05 hla5 hlb5 ⊢
        have hu5 := dpSame s05 hu
        have hlen := dpLen hds1
        have hle := len_le_wts (dr ++ kidsD e)
        rw [List.length_append] at hle
        have fin : ∀ (b' : Addr) (H' : Hp) (us : List V), a ≠ b' → H b' = none → Same H H' → H' a = some (.lst ((ks ++ [kindD e]).map V.str)) → H' b' = some (.lst us) → DpAll K H us (dr ++ kidsD e) → ∃ m', m' < wts (dr ++ kidsD e) + 1 ∧ W m' [some v, some (.ref a), some (.ref b'), some u, some (.str (kindD e))] H' := fun b' H' us n1 n2 n3 n4 n5 n6 =>
          ⟨_, Nat.lt_succ_self _, by rw [hW]; exact ⟨a, b', _, _, dr ++ kidsD e, us, ks ++ [kindD e], rfl, n1, ha, n2, n3, n4, n5, n6, rfl, by rw [List.append_assoc]; exact hk, by rw [List.length_append, List.length_singleton]; omega⟩⟩
        rw [kind_mem]
        refine ifb (fun k1 => ?_) (fun k1 => ?_)
        · obtain ⟨c, us, rfl, hsq, hkids⟩ : ∃ c us, u = .ref c ∧ (SqL K H5 c us ∨ SqT K H5 c us) ∧ DpAll K H us (kidsD e) := by
            cases hu with
            | lst h1 h2 =>
              exact ⟨_, _, rfl, .inl (by
                rcases h1 with (h | ⟨o, h⟩) | h
                · exact .inl (.inl (s05 _ _ h))
                · exact .inl (.inr ⟨o, s05 _ _ h⟩)
                · exact .inr h), h2⟩
            | tup h1 h2 => exact ⟨_, _, rfl, .inr ((StT.same s05).t _ _ h1), h2⟩
            | _ => cases k1
          walk_at "go"
          refine ⟨c, us, rfl, hsq, fun l hl => ?_⟩
          have s6 := sameNew (o := .lst us) hl
          have hkl := dpLen hkids
          refine rd_cat (s6 _ _ hlb5) upd_same (by unfold sizeLine; omega) (fun b' hb' => ?_)
          walk_at "go"
          have s06 := s05.trans s6
          have hla6 := s6 _ _ hla5
          exact fin b' _ (ws ++ us) (ne_of_none hla6 hb') (none_of s06 hb') (s06.trans (sameNew hb')) ((sameNew hb') _ _ hla6) upd_same (dpApp hds1 hkids)
        · walk_at "go"
          have hk0 : kidsD e = [] := by
            cases e with
            | tuple cs => cases k1
            | list cs => cases k1
            | _ => rfl
          refine fin b _ ws nab hb s05 hla5 hlb5 ?_
          rw [hk0, List.append_nil]
          exact hds1
end
end MH
end
section
set_option Elab.async false
set_option linter.all false
set_option maxRecDepth 100000
set_option maxHeartbeats 4000000
namespace MH
open PySem PySem.Spec PyProof.Rows L2
local macro_rules | `(tactic| walk_at "go") => `(tactic| repeat (first
  | with_reducible refine i_seq ?_ | with_reducible refine i_ifS ?_ | with_reducible refine i_ret ?_ | with_reducible refine i_drop ?_ | with_reducible refine i_asg ?_ | with_reducible refine i_name ?_
  | with_reducible refine i_next ?_ | with_reducible refine i_var (by with_unfolding_all exact rfl) ?_ | with_reducible refine i_c ?_ | with_reducible refine i_cons ?_ | with_reducible refine i_nil ?_ | with_reducible refine i_cb ?_
  | with_reducible refine i_op ?_ | with_reducible refine i_un ?_ | with_reducible refine i_call ?_ | with_reducible refine i_test ?_ | with_reducible refine i_b ?_ | with_reducible refine i_bl ?_ | with_reducible refine i_and ?_ | with_reducible refine i_or ?_
  | with_reducible refine i_not ?_ | with_reducible refine i_andV ?_ | with_reducible refine i_orV ?_ | with_reducible refine i_notV ?_ | with_reducible refine i_if ?_ | with_reducible refine i_chain ?_ | with_reducible refine i_tup ?_ | with_reducible refine i_lst ?_
  | with_reducible refine i_sl ?_ | with_reducible refine i_part ?_ | with_reducible refine i_nopart ?_ | with_reducible refine i_int ?_ | with_reducible refine i_bm ?_ | with_reducible refine i_bm0 ?_ | with_reducible refine i_I0 ?_ | with_reducible refine i_lc ?_ | with_reducible refine i_disp ?_ | with_reducible refine i_pairsC ?_ | with_reducible refine i_pairsN ?_ | with_reducible refine i_dget2 ?_ | with_reducible refine i_gsub ?_ | with_reducible refine i_raiseB ?_ | with_reducible refine i_make ?_ | with_reducible refine i_gcons ?_ | with_reducible refine i_gnil ?_ | with_reducible refine i_enum ?_ | with_reducible refine i_isN ?_ | with_reducible refine i_notN ?_ | with_reducible refine i_fld ?_ | with_reducible refine i_sfld ?_ | with_reducible refine i_meth ?_ | with_reducible refine i_rU ?_ | with_reducible refine i_dputN ?_ | with_reducible refine i_dput ?_ | with_reducible refine i_dget ?_ | with_reducible refine i_rng1 ?_ | with_reducible refine i_dinP ?_ | with_reducible refine i_raiseA ?_ | with_reducible refine i_lenSetS ?_ | with_reducible refine i_for ?_ | with_reducible refine i_yes ?_ | with_reducible refine i_eqS ?_ | with_reducible refine i_neS ?_ | with_reducible refine i_eqI ?_ | with_reducible refine i_neI ?_
  | with_reducible refine i_retN ?_ | with_reducible refine i_brk ?_ | with_reducible refine i_cont ?_ | with_reducible refine i_par ?_ | with_reducible refine i_par3 ?_ | with_reducible refine i_two ?_ | with_reducible refine i_three ?_
  | with_reducible refine i_itup ?_ | with_reducible refine i_ilist ?_ | with_reducible refine i_istr ?_ | with_reducible refine i_str ?_ | with_reducible refine i_m1 ?_ | with_reducible refine i_anystr ?_
  | with_reducible refine iteT ?_ | with_reducible refine iteF ?_))
section
variable {P : Program} {w : World} {K : Fg} {mg : Str → Option Value} {base : Heap}
theorem dpStrs {H : Hp} : ∀ (xs : List Str), DpAll K H (xs.map V.str) (xs.map PyData.str)
  | [] => .nil
  | x :: r => .cons (.str x) (dpStrs r)
theorem depth_strs : ∀ (xs : List Str), PyData.depthAll (xs.map PyData.str) ≤ 1
  | [] => by simp [PyData.depthAll]
  | x :: r => by
    have := depth_strs r
    rw [List.map_cons]
    unfold PyData.depthAll
    simp only [PyData.depth]
    omega
def spSays : Sp := fun vs H Q _ => ∃ v u d, vs = [v, u] ∧ Dp K H v d ∧ Dp K H u d ∧ wt d ≤ 1000000 ∧ d.depth ≤ 60 ∧ ∀ H', Same H H' → Q (.bl true) H'
theorem k__law_says (T : Tx K mg) : Keeps P w K mg base CX0 2 "_law_says" ["told", "due"] (spSays (K := K)) := T.kp__law_says fun fd F => by
  refine F.ok sc__law_says (fun vs H Q E h => ?_) (fun cdv A outer s H vs Q E hr h => ?_)
  · obtain ⟨v, u, d, rfl, _⟩ := h
    rfl
  · obtain ⟨v, u, d, rfl, hv, hu, hw, hdp, q⟩ := h
    refine ⟨_, PSs.nox (pss_one (ps_ret (pe_and (pe_cmpR (op_eqP hr.units) (pv 0) (pv 1) (nomark _)) (pe_one (pe_cmpR (op_eqP hr.units) (pe_k (k__law_kinds T) (hr.mono (by omega)) pass0 (pa_cons (pv 0) pa_nil)) (pe_k (k__law_kinds T) (hr.mono (by omega)) pass0 (pa_cons (pv 1) pa_nil)) (nomark _)))))), ?_⟩
    walk_at "go"
    refine ⟨d, d, hv, hu, dpPlain hv, dpPlain hv, Nat.le_trans (Nat.min_le_left _ _) (by omega), ?_⟩
    rw [SeqAt.eqv_refl_plain d (dpPlain hv)]
    walk_at "go"
    refine ⟨v, d, rfl, hv, hw, fun a H1 ha s1 hl1 => ?_⟩
    walk_at "go"
    refine ⟨u, d, rfl, dpSame s1 hu, hw, fun b H2 hb s2 hl2 => ?_⟩
    have hpl := dpAllPlain (dpStrs (K := K) (H := H) (kindsW (wt d) [d]))
    refine ⟨.list ((kindsW (wt d) [d]).map PyData.str), .list ((kindsW (wt d) [d]).map PyData.str), .lst (SqL.of (s2 _ _ hl1)) (dpStrs _), .lst (SqL.of hl2) (dpStrs _), by unfold PyData.plain; exact hpl, by unfold PyData.plain; exact hpl, ?_, ?_⟩
    · have := depth_strs (kindsW (wt d) [d])
      simp only [PyData.depth]
      omega
    · rw [SeqAt.eqv_refl_plain _ (by unfold PyData.plain; exact hpl)]
      exact q H2 (s1.trans s2)
end
end MH
end
section
set_option linter.all false
set_option maxRecDepth 100000
/-! the mathematics: what holds along a reader's way -/
namespace MH
open PySem
theorem stepP_fresh {S S' : PR} {l : Str} (e : stepP S l = some S') : S'.fresh = decide (l = "else") := by
  unfold stepP at e
  split at e
  · cases e
  · rename_i f r hS
    split at e
    · rename_i hl
      unfold stepElse at e
      split at e
      · cases e
        rw [decide_eq_true hl]
      · cases e
    · rename_i hl
      rw [decide_eq_false hl]
      split at e
      · unfold stepEnd at e
        rw [hS] at e
        cases r with
        | nil => cases e
        | cons g r =>
          have e : (if S.fresh = true then none else some (⟨{ g with top := g.top ++ [closeF f] } :: r, S.sites, S.fresh⟩ : PR)) = some S' := e
          split at e
          · cases e
          · rename_i hf
            cases e
            exact Bool.eq_false_iff.mpr hf
      · unfold stepHead at e
        split at e
        · cases e
          rfl
        · cases e
/-- an else stands behind an if alone -/
def WfI (fs : List PF) : Prop := ∀ f ∈ fs, f.fst.isSome = true → kindOf f.head = "if"
theorem stepP_wfi {S S' : PR} {l : Str} (h : WfI S.frames) (e : stepP S l = some S') : WfI S'.frames := by
  unfold stepP at e
  split at e
  · cases e
  · rename_i f r hS
    rw [hS] at h
    have hf := h f List.mem_cons_self
    have hr : WfI r := fun g hg => h g (List.mem_cons_of_mem _ hg)
    split at e
    · unfold stepElse at e
      split at e
      · rename_i hok
        cases e
        unfold elseOk at hok
        simp only [Bool.and_eq_true, decide_eq_true_eq] at hok
        intro g hg hs
        rcases List.mem_cons.mp hg with rfl | hg
        · exact hok.1
        · exact hr g hg hs
      · cases e
    · split at e
      · unfold stepEnd at e
        rw [hS] at e
        cases r with
        | nil => cases e
        | cons g r =>
          have e : (if S.fresh = true then none else some (⟨{ g with top := g.top ++ [closeF f] } :: r, S.sites, S.fresh⟩ : PR)) = some S' := e
          split at e
          · cases e
          · cases e
            intro g' hg hs
            rcases List.mem_cons.mp hg with rfl | hg
            · exact hr g List.mem_cons_self hs
            · exact hr g' (List.mem_cons_of_mem _ hg) hs
      · unfold stepHead at e
        split at e
        · cases e
          intro g hg hs
          have hg : g ∈ (if _ then _ else _ : List PF) := hg
          split at hg
          · rcases List.mem_cons.mp hg with rfl | hg
            · exact hf hs
            · exact hr g hg hs
          · rcases List.mem_cons.mp hg with rfl | hg
            · cases hs
            · exact h g hg hs
        · cases e
theorem close_law {p : PF} (h : p.fst.isSome = true → kindOf p.head = "if") : closeF p = .tuple (tupD p.head ++ (if kindOf p.head = "if" then (match p.fst with | none => [.tuple p.top, .tuple []] | some a => [.tuple a, .tuple p.top]) else [.tuple p.top])) := by
  unfold closeF
  cases hf : p.fst with
  | none => by_cases hk : kindOf p.head = "if" <;> simp [hk]
  | some a =>
    have hk := h (by rw [hf]; rfl)
    simp [hk]
theorem wfi_start : WfI startP.frames := fun f hf hs => by
  have : f = ⟨.none, none, []⟩ := List.mem_singleton.mp hf
  rw [this] at hs
  cases hs
theorem top_start : ∀ p ∈ startP.frames, p.top.length ≤ 0 := fun p hp => by
  have : p = ⟨.none, none, []⟩ := List.mem_singleton.mp hp
  rw [this]
  exact Nat.le_refl 0
end MH
end
section
set_option Elab.async false
set_option linter.all false
set_option maxRecDepth 100000
set_option maxHeartbeats 4000000
/-! engine: list == [], the law's own reader in the heap -/
namespace MH
open PySem PySem.Spec PyProof.Rows L2
def rEqL0 : R2 := fun x y H Q => ∃ a b xs, x = .ref a ∧ y = .ref b ∧ H a = some (.lst xs) ∧ H b = some (.lst []) ∧ Q (.bl xs.isEmpty) H
def rNeL0 : R2 := fun x y H Q => ∃ a b xs, x = .ref a ∧ y = .ref b ∧ H a = some (.lst xs) ∧ H b = some (.lst []) ∧ Q (.bl (!xs.isEmpty)) H
theorem op_eqL0 {X : Cx} (hu : X.A.units + 64 < cLine) : OpR X (compareOp .Eq) rEqL0 := by
  intro pins s σ H x y v u Q I rx ry h
  obtain ⟨a, b, xs, rfl, rfl, ha, hb, q⟩ := h
  cases rx
  cases ry
  obtain ⟨its, r1, p1, z1⟩ := I.list (SqL.of ha)
  obtain ⟨its2, r2, p2, z2⟩ := I.list (SqL.of hb)
  cases r2
  cases r1 with
  | nil => exact PySem.SeqAt.RcAt.lists (e := fun _ => true) p1.isList p2.isList rfl (by omega) (fun j h1 _ => absurd h1 (by simp)) _ _ _ _ ⟨.bl _, H, I, rfl, q⟩
  | cons _ _ => exact PySem.SeqAt.RcAt.lists_lengths p1.isList p2.isList (by simp) (by omega) _ _ _ _ ⟨.bl _, H, I, rfl, q⟩
theorem op_neL0 {X : Cx} (hu : X.A.units + 64 < cLine) : OpR X (compareOp .NotEq) rNeL0 := by
  intro pins s σ H x y v u Q I rx ry h
  obtain ⟨a, b, xs, rfl, rfl, ha, hb, q⟩ := h
  cases rx
  cases ry
  obtain ⟨its, r1, p1, z1⟩ := I.list (SqL.of ha)
  obtain ⟨its2, r2, p2, z2⟩ := I.list (SqL.of hb)
  cases r2
  cases r1 with
  | nil => exact PySem.SeqAt.RcNeAt.lists (e := fun _ => true) p1.isList p2.isList rfl (by omega) (fun j h1 _ => absurd h1 (by simp)) _ _ _ _ ⟨.bl _, H, I, rfl, q⟩
  | cons _ _ => exact PySem.SeqAt.RcNeAt.lists_lengths p1.isList p2.isList (by simp) (by omega) _ _ _ _ ⟨.bl _, H, I, rfl, q⟩
theorem rd_eqL0 {H : Hp} {a b : Addr} {xs : List V} {Q : VK} (h1 : H a = some (.lst xs)) (h2 : H b = some (.lst [])) (q : Q (.bl xs.isEmpty) H) : rEqL0 (.ref a) (.ref b) H Q := ⟨a, b, xs, rfl, rfl, h1, h2, q⟩
theorem rd_neL0 {H : Hp} {a b : Addr} {xs : List V} {Q : VK} (h1 : H a = some (.lst xs)) (h2 : H b = some (.lst [])) (q : Q (.bl (!xs.isEmpty)) H) : rNeL0 (.ref a) (.ref b) H Q := ⟨a, b, xs, rfl, rfl, h1, h2, q⟩
theorem i_gsub {to ti : TE} {t : TSet} {v : V} {σ : L2.St} {H : Hp} {Q : L2.St → Hp → Prop} (h : to σ H fun o H1 => ti σ H1 fun i H2 => t o i v H2 fun H3 => Q σ H3) : gSub to ti t v σ H Q := h
theorem rd_setLast {H : Hp} {p : Addr} {ys : List V} {x v : V} {N : Hp → Prop} (h : H p = some (.lst (ys ++ [x]))) (q : N (upd H p (.lst (ys ++ [v])))) : rSetL (.ref p) (.int (-1)) v H N := by
  refine ⟨p, _, -1, ys.length, rfl, rfl, h, ?_, ?_⟩
  · unfold ixN
    rw [if_neg (by decide), if_pos (by rw [List.length_append]; simp only [List.length_singleton]; omega)]
    rw [List.length_append]
    simp only [List.length_singleton]
    congr 1
    omega
  · rw [List.set_append_right _ _ (Nat.le_refl _)]
    simpa using q
theorem i_disp {trs : List (TE × TE)} {σ : L2.St} {H : Hp} {Q : VK} (h : ∀ p, H p = none → tPairs trs σ (upd H p (.dK [])) fun ps H2 => H2 p = some (.dK []) ∧ ∃ kvs : List (Key × V), ps = kvs.map (fun kv => (kV kv.1, kv.2)) ∧ kvs.length ≤ 15 ∧ Q (.ref p) (upd H2 p (.dK (mergeK [] kvs)))) : tDisp trs σ H Q := h
theorem i_pairsC {tk tv : TE} {r : List (TE × TE)} {σ : L2.St} {H : Hp} {Q : List (V × V) → Hp → Prop} (h : tk σ H fun x H1 => tv σ H1 fun y H2 => tPairs r σ H2 fun ps H3 => Q ((x, y) :: ps) H3) : tPairs ((tk, tv) :: r) σ H Q := h
theorem i_pairsN {σ : L2.St} {H : Hp} {Q : List (V × V) → Hp → Prop} (h : Q [] H) : tPairs [] σ H Q := h
theorem i_dget2 {td ty tx : TE} {σ : L2.St} {H : Hp} {Q : VK} (h : td σ H fun x H1 => ∃ a, x = .ref a ∧ IsD H1 a ∧ ty σ H1 fun y H2 => tx σ H2 fun z H3 => ∃ o, DGet H3 a y o ∧ Q (o.getD z) H3) : tDGet2 td ty tx σ H Q := h
def leastL (k : Str) : Nat := if k = "do" then 3 else if k = "if" ∨ k = "while" then 2 else 99
def leastK : List (Key × V) := [(.inr "do", .int 3), (.inr "if", .int 2), (.inr "while", .int 2)]
theorem least_merge : mergeK [] leastK = leastK := by rfl
theorem least_val (k : Str) : (valV leastK (.inr k)).getD (.int 99) = .int (leastL k : Nat) := by
  unfold leastL
  by_cases h1 : k = "do"
  · subst h1
    rfl
  · rw [if_neg h1]
    have e1 : valV leastK (.inr k) = valV [((.inr "if" : Key), V.int 2), (.inr "while", .int 2)] (.inr k) := valV_neg (fun z => h1 (by injection z with z; exact z.symm))
    rw [e1]
    by_cases h2 : k = "if"
    · subst h2
      rfl
    · have e2 : valV [((.inr "if" : Key), V.int 2), (.inr "while", .int 2)] (.inr k) = valV [((.inr "while" : Key), V.int 2)] (.inr k) := valV_neg (fun z => h2 (by injection z with z; exact z.symm))
      rw [e2]
      by_cases h3 : k = "while"
      · subst h3
        rfl
      · have e3 : valV [((.inr "while" : Key), V.int 2)] (.inr k) = none := (valV_neg (fun z => h3 (by injection z with z; exact z.symm))).trans valV_nil
        rw [e3, if_neg (fun z => z.elim h2 h3)]
        rfl
/-- [x for x in texts if not good(x)] -/
theorem lcb_filtS {K : Fg} {a : Addr} {ws : List Str} {H1 : Hp} {keep : Str → Bool} {σ : L2.St} {vs : List Nat} {j : Nat} {tt : TT} {te : TE} {Q : VK} (ha : H1 a = some (.lst (ws.map V.str))) (hn : ws.length ≤ sizeLine)
    (hw : ∀ x : V, wipe ((wipe σ vs).set j (some x)) vs = wipe σ vs)
    (ht : ∀ x H3 (R : Bool → Hp → Prop), x ∈ ws → Same H1 H3 → (∀ H4, Same H3 H4 → R (keep x) H4) → tt ((wipe σ vs).set j (some (.str x))) H3 R)
    (he : ∀ x H3 (R : VK), x ∈ ws → Same H1 H3 → (∀ H4, Same H3 H4 → R (.str x) H4) → te ((wipe σ vs).set j (some (.str x))) H3 R)
    (hq : ∀ D H', H1 D = none → Same H1 H' → H' D = some (.lst ((ws.filter keep).map V.str)) → Q (.ref D) H') : LcB (Itl K a) H1 (gName j) tt te vs σ Q := by
  have at_ : ∀ i, i < ws.length → (ws.map V.str).getD i .non = .str (ws.getD i Str.empty) ∧ ws.getD i Str.empty ∈ ws := fun i hi => by
    have e2 : ws.getD i Str.empty = ws[i] := by
      rw [List.getD_eq_getElem?_getD, List.getElem?_eq_getElem hi]
      rfl
    rw [e2]
    refine ⟨?_, List.getElem_mem hi⟩
    rw [List.getD_eq_getElem?_getD, List.getElem?_map, List.getElem?_eq_getElem hi]
    rfl
  refine lcb_filt (J := Itl K a) (H1 := H1) (n := (ws.map V.str).length) (it := fun i => (ws.map V.str).getD i .non) (y := fun i => .str (ws.getD i Str.empty)) (keep := fun i => keep (ws.getD i Str.empty)) (by rw [List.length_map]; exact hn) (fun H3 s => still_lst (SqL.of (s _ _ ha))) hw (fun i H3 R hi s k => ?_) (fun i H3 R hi _ s k => ?_) (fun D H' hD s l => ?_)
  · have hi' : i < ws.length := by rw [List.length_map] at hi; exact hi
    show tt ((wipe σ vs).set j (some ((ws.map V.str).getD i .non))) H3 R
    rw [(at_ i hi').1]
    exact ht _ H3 R (at_ i hi').2 s k
  · have hi' : i < ws.length := by rw [List.length_map] at hi; exact hi
    show te ((wipe σ vs).set j (some ((ws.map V.str).getD i .non))) H3 R
    rw [(at_ i hi').1]
    exact he _ H3 R (at_ i hi').2 s k
  · refine hq D H' hD s ?_
    rw [List.length_map, filter_range_getD ws Str.empty keep V.str] at l
    exact l
/-! ### the law's own reader -/
def testD (p : PF) : PyData := .tuple [p.head, match p.fst with
  | none => .none
  | some a => .tuple a]
structure LA where
  sl : Addr
  tl : Addr
  bl : Addr
  sites : List Str
  tv : List V
  bs : List (Addr × List V)
def LA.frs (L : LA) : Foot := L.bs.map fun b => (b.1, .lst b.2)
def LA.foot (L : LA) : Foot := (L.sl, .lst (L.sites.map V.str)) :: (L.tl, .lst L.tv.reverse) :: (L.bl, .lst (L.bs.reverse.map fun b => V.ref b.1)) :: L.frs
def LA.adr (L : LA) : List Addr := L.foot.map (·.1)
inductive LOk (K : Fg) (H : Hp) : List (Addr × List V) → List V → List PF → Prop
  | base {b : Addr} {xs : List V} {p : PF} : DtAll K H xs p.top → LOk K H [(b, xs)] [] [p]
  | cons {b : Addr} {xs : List V} {p : PF} {t : V} {bs : List (Addr × List V)} {tv : List V} {ps : List PF} : DtAll K H xs p.top → Dt K H t (testD p) → LOk K H bs tv ps → LOk K H ((b, xs) :: bs) (t :: tv) (p :: ps)
theorem LOk.mono {K : Fg} {H H' : Hp} (s : StT K H H') : ∀ {bs : List (Addr × List V)} {tv : List V} {ps : List PF}, LOk K H bs tv ps → LOk K H' bs tv ps
  | _, _, _, .base h => .base (h.mono s)
  | _, _, _, .cons h t r => .cons (h.mono s) (t.mono s) (LOk.mono s r)
theorem LOk.len {K : Fg} {H : Hp} : ∀ {bs : List (Addr × List V)} {tv : List V} {ps : List PF}, LOk K H bs tv ps → bs.length = ps.length ∧ tv.length + 1 = ps.length
  | _, _, _, .base _ => ⟨rfl, rfl⟩
  | _, _, _, .cons _ _ r => by
    have := LOk.len r
    simp only [List.length_cons]
    omega
/-- the law's reader at L stands in the heap -/
structure LS (H0 H : Hp) (L : LA) : Prop where
  hold : Hold H L.foot
  nd : Nd L.foot
  same : Same H0 H
  out : ∀ b ∈ L.adr, H0 b = none
section
variable {K : Fg} {H0 H : Hp} {L : LA}
theorem LS.step {H' : Hp} (h : LS H0 H L) (s : Same H H') : LS H0 H' L := ⟨h.hold.same s, h.nd, h.same.trans s, h.out⟩
theorem LS.s (h : LS H0 H L) : H L.sl = some (.lst (L.sites.map V.str)) := h.hold (L.sl, _) (by simp [LA.foot])
theorem LS.t (h : LS H0 H L) : H L.tl = some (.lst L.tv.reverse) := h.hold (L.tl, _) (by simp [LA.foot])
theorem LS.b (h : LS H0 H L) : H L.bl = some (.lst (L.bs.reverse.map fun b => V.ref b.1)) := h.hold (L.bl, _) (by simp [LA.foot])
theorem LS.body (h : LS H0 H L) {b : Addr × List V} (hb : b ∈ L.bs) : H b.1 = some (.lst b.2) := h.hold (b.1, _) (by simp only [LA.foot, LA.frs, List.mem_cons, List.mem_map]; exact .inr (.inr (.inr ⟨b, hb, rfl⟩)))
theorem LS.put {a : Addr} {A B : Foot} {L' : LA} {xs ys : List V} (h : LS H0 H L) (e : L.foot = A ++ (a, .lst xs) :: B) (e' : L'.foot = A ++ (a, .lst ys) :: B) : LS H0 (upd H a (.lst ys)) L' ∧ StT K H (upd H a (.lst ys)) := by
  have hh := h.hold
  have hn := h.nd
  have ho := h.out
  unfold LA.adr at ho
  rw [e] at hh hn ho
  have ha : H a = some (.lst xs) := hh (a, _) (by simp)
  refine ⟨⟨by rw [e']; exact Hold.set hh hn, by rw [e']; exact Nd.set hn, samePut h.same (ho a (by simp)), ?_⟩, StT.lst ha⟩
  unfold LA.adr
  rw [e']
  intro b hb
  exact ho b (by simpa using hb)
theorem LS.setT (h : LS H0 H L) (tv : List V) : LS H0 (upd H L.tl (.lst tv.reverse)) { L with tv := tv } ∧ StT K H (upd H L.tl (.lst tv.reverse)) :=
  h.put (A := [(L.sl, .lst (L.sites.map V.str))]) (B := (L.bl, .lst (L.bs.reverse.map fun b => V.ref b.1)) :: L.frs) rfl rfl
theorem LS.setS (h : LS H0 H L) (ss : List Str) : LS H0 (upd H L.sl (.lst (ss.map V.str))) { L with sites := ss } ∧ StT K H (upd H L.sl (.lst (ss.map V.str))) :=
  h.put (A := []) (B := (L.tl, .lst L.tv.reverse) :: (L.bl, .lst (L.bs.reverse.map fun b => V.ref b.1)) :: L.frs) rfl rfl
/-- the last body grows -/
theorem LS.app {b : Addr} {xs : List V} {r : List (Addr × List V)} (h : LS H0 H L) (e : L.bs = (b, xs) :: r) (v : V) : LS H0 (upd H b (.lst (xs ++ [v]))) { L with bs := (b, xs ++ [v]) :: r } ∧ StT K H (upd H b (.lst (xs ++ [v]))) := by
  refine h.put (xs := xs) (A := [(L.sl, .lst (L.sites.map V.str)), (L.tl, .lst L.tv.reverse), (L.bl, .lst (L.bs.reverse.map fun b => V.ref b.1))]) (B := r.map fun b => (b.1, .lst b.2)) ?_ ?_
  · simp [LA.foot, LA.frs, e]
  · simp [LA.foot, LA.frs, e]
/-- the last body away -/
theorem LS.pop {b : Addr × List V} {r : List (Addr × List V)} (h : LS H0 H L) (e : L.bs = b :: r) : LS H0 (upd H L.bl (.lst (r.reverse.map fun b => V.ref b.1))) { L with bs := r } ∧ StT K H (upd H L.bl (.lst (r.reverse.map fun b => V.ref b.1))) := by
  have sb : ([(L.sl, HO.lst (L.sites.map V.str)), (L.tl, HO.lst L.tv.reverse)] ++ (L.bl, HO.lst (L.bs.reverse.map fun b : Addr × List V => V.ref b.1)) :: (r.map fun b : Addr × List V => (b.1, HO.lst b.2))).Sublist L.foot := by
    show (_ :: _ :: _ :: _ : Foot).Sublist (_ :: _ :: _ :: L.frs)
    refine List.Sublist.cons_cons _ (List.Sublist.cons_cons _ (List.Sublist.cons_cons _ ?_))
    unfold LA.frs
    rw [e, List.map_cons]
    exact List.sublist_cons_self _ _
  have hh := h.hold.sub sb
  have hn := h.nd.sub sb
  have ef : ({ L with bs := r } : LA).foot = [(L.sl, .lst (L.sites.map V.str)), (L.tl, .lst L.tv.reverse)] ++ (L.bl, HO.lst (r.reverse.map fun b => V.ref b.1)) :: (r.map fun b => (b.1, HO.lst b.2)) := rfl
  refine ⟨⟨by rw [ef]; exact Hold.set hh hn, by rw [ef]; exact Nd.set hn, samePut h.same (h.out _ (by simp [LA.adr, LA.foot])), ?_⟩, StT.lst h.b⟩
  unfold LA.adr
  rw [ef]
  intro b hb
  exact h.out b ((sb.map (·.1)).subset (by simpa using hb))
/-- a body more -/
theorem LS.push {Hm : Hp} {n : Addr} (h : LS H0 H L) (s : Same H Hm) (hn : H n = none) (mn : Hm n = some (.lst [])) : LS H0 (upd Hm L.bl (.lst ((L.bs.reverse.map fun b => V.ref b.1) ++ [.ref n]))) { L with bs := (n, []) :: L.bs } ∧ StT K Hm (upd Hm L.bl (.lst ((L.bs.reverse.map fun b => V.ref b.1) ++ [.ref n]))) := by
  have hm := h.step s
  have n1 : Nd ((n, .lst []) :: L.foot) := Nd.new h.nd h.hold hn
  have h1 : Hold Hm ((n, .lst []) :: L.foot) := fun x hx => by
    rcases List.mem_cons.mp hx with rfl | hx
    · exact mn
    · exact hm.hold x hx
  have pm : ([(n, HO.lst [])] ++ ([(L.sl, HO.lst (L.sites.map V.str)), (L.tl, .lst L.tv.reverse), (L.bl, HO.lst (L.bs.reverse.map fun b => V.ref b.1))] ++ L.frs)).Perm ([(L.sl, HO.lst (L.sites.map V.str)), (L.tl, .lst L.tv.reverse), (L.bl, HO.lst (L.bs.reverse.map fun b => V.ref b.1))] ++ ([(n, HO.lst [])] ++ L.frs)) := List.perm_append_comm_assoc _ _ _
  have h3 := h1.perm pm
  have n3 := n1.perm pm
  have ef : ({ L with bs := (n, []) :: L.bs } : LA).foot = [(L.sl, .lst (L.sites.map V.str)), (L.tl, .lst L.tv.reverse)] ++ (L.bl, HO.lst ((L.bs.reverse.map fun b => V.ref b.1) ++ [.ref n])) :: ((n, .lst []) :: L.frs) := by simp [LA.foot, LA.frs]
  refine ⟨⟨by rw [ef]; exact Hold.set (A := [(L.sl, .lst (L.sites.map V.str)), (L.tl, .lst L.tv.reverse)]) h3 n3, by rw [ef]; exact Nd.set (A := [(L.sl, .lst (L.sites.map V.str)), (L.tl, .lst L.tv.reverse)]) n3, samePut hm.same (h.out _ (by simp [LA.adr, LA.foot])), ?_⟩, StT.lst hm.b⟩
  unfold LA.adr
  rw [ef]
  intro b hb
  have hb : b = L.sl ∨ b = L.tl ∨ b = L.bl ∨ b = n ∨ b ∈ L.frs.map (·.1) := by simpa using hb
  rcases hb with rfl | rfl | rfl | rfl | hb
  · exact h.out _ (by simp [LA.adr, LA.foot])
  · exact h.out _ (by simp [LA.adr, LA.foot])
  · exact h.out _ (by simp [LA.adr, LA.foot])
  · exact none_of h.same hn
  · exact h.out _ (by simp only [LA.adr, LA.foot, List.map_cons, List.mem_cons]; exact .inr (.inr (.inr hb)))
theorem LS.swap {Hm : Hp} {n : Addr} {b : Addr × List V} {r : List (Addr × List V)} (h : LS H0 H L) (e : L.bs = b :: r) (s : Same H Hm) (hn : H n = none) (mn : Hm n = some (.lst [])) :
    LS H0 (upd Hm L.bl (.lst ((r.reverse.map fun b => V.ref b.1) ++ [.ref n]))) { L with bs := (n, []) :: r } ∧ StT K Hm (upd Hm L.bl (.lst ((r.reverse.map fun b => V.ref b.1) ++ [.ref n]))) := by
  obtain ⟨p1, _⟩ := h.pop (K := K) e
  have nbl : n ≠ L.bl := fun z => by
    rw [z, h.b] at hn
    cases hn
  have s2 : Same (upd H L.bl (.lst (r.reverse.map fun b => V.ref b.1))) (upd Hm L.bl (.lst (r.reverse.map fun b => V.ref b.1))) := fun c o ec => by
    by_cases hc : c = L.bl
    · subst hc
      rw [upd_same] at ec ⊢
      exact ec
    · rw [upd_ne hc] at ec ⊢
      exact s c o ec
  obtain ⟨q1, _⟩ := p1.push (K := K) s2 (by rw [upd_ne nbl]; exact hn) (by rw [upd_ne nbl]; exact mn)
  rw [show upd (upd Hm L.bl (.lst (r.reverse.map fun b => V.ref b.1))) ({ L with bs := r } : LA).bl (.lst ((({ L with bs := r } : LA).bs.reverse.map fun b => V.ref b.1) ++ [.ref n])) = upd Hm L.bl (.lst ((r.reverse.map fun b => V.ref b.1) ++ [.ref n])) from upd_upd] at q1
  exact ⟨q1, StT.lst (h.step s).b⟩
end
end MH
end
section
set_option Elab.async false
set_option linter.all false
set_option maxRecDepth 100000
set_option maxHeartbeats 8000000
set_option pp.maxSteps 1500
namespace MH
open PySem PySem.Spec PyProof.Rows L2
local macro_rules | `(tactic| walk_at "go") => `(tactic| repeat (first
  | with_reducible refine i_seq ?_ | with_reducible refine i_ifS ?_ | with_reducible refine i_ret ?_ | with_reducible refine i_drop ?_ | with_reducible refine i_asg ?_ | with_reducible refine i_name ?_
  | with_reducible refine i_next ?_ | with_reducible refine i_var (by with_unfolding_all exact rfl) ?_ | with_reducible refine i_c ?_ | with_reducible refine i_cons ?_ | with_reducible refine i_nil ?_ | with_reducible refine i_cb ?_
  | with_reducible refine i_op ?_ | with_reducible refine i_un ?_ | with_reducible refine i_call ?_ | with_reducible refine i_test ?_ | with_reducible refine i_b ?_ | with_reducible refine i_bl ?_ | with_reducible refine i_and ?_ | with_reducible refine i_or ?_
  | with_reducible refine i_not ?_ | with_reducible refine i_andV ?_ | with_reducible refine i_orV ?_ | with_reducible refine i_notV ?_ | with_reducible refine i_if ?_ | with_reducible refine i_chain ?_ | with_reducible refine i_tup ?_ | with_reducible refine i_lst ?_
  | with_reducible refine i_sl ?_ | with_reducible refine i_part ?_ | with_reducible refine i_nopart ?_ | with_reducible refine i_int ?_ | with_reducible refine i_bm ?_ | with_reducible refine i_bm0 ?_ | with_reducible refine i_I0 ?_ | with_reducible refine i_lc ?_ | with_reducible refine i_disp ?_ | with_reducible refine i_pairsC ?_ | with_reducible refine i_pairsN ?_ | with_reducible refine i_dget2 ?_ | with_reducible refine i_gsub ?_ | with_reducible refine i_raiseB ?_ | with_reducible refine i_make ?_ | with_reducible refine i_gcons ?_ | with_reducible refine i_gnil ?_ | with_reducible refine i_enum ?_ | with_reducible refine i_isN ?_ | with_reducible refine i_notN ?_ | with_reducible refine i_fld ?_ | with_reducible refine i_sfld ?_ | with_reducible refine i_meth ?_ | with_reducible refine i_rU ?_ | with_reducible refine i_dputN ?_ | with_reducible refine i_dput ?_ | with_reducible refine i_dget ?_ | with_reducible refine i_rng1 ?_ | with_reducible refine i_dinP ?_ | with_reducible refine i_raiseA ?_ | with_reducible refine i_lenSetS ?_ | with_reducible refine i_for ?_ | with_reducible refine i_yes ?_ | with_reducible refine i_eqS ?_ | with_reducible refine i_neS ?_ | with_reducible refine i_eqI ?_ | with_reducible refine i_neI ?_
  | with_reducible refine i_retN ?_ | with_reducible refine i_brk ?_ | with_reducible refine i_cont ?_ | with_reducible refine i_par ?_ | with_reducible refine i_par3 ?_ | with_reducible refine i_two ?_ | with_reducible refine i_three ?_
  | with_reducible refine i_itup ?_ | with_reducible refine i_ilist ?_ | with_reducible refine i_istr ?_ | with_reducible refine i_str ?_ | with_reducible refine i_m1 ?_ | with_reducible refine i_anystr ?_
  | with_reducible refine iteT ?_ | with_reducible refine iteF ?_))
section
variable {P : Program} {w : World} {K : Fg} {mg : Str → Option Value} {base : Heap}
def spWrong : Sp := fun vs H Q _ => ∃ l ls, vs = [.ref l] ∧ H l = some (.lst (ls.map V.str)) ∧ ls.length ≤ 9000 ∧ (∀ x ∈ ls, x.length ≤ 97) ∧ ∀ u H', Same H H' → Dt K H' u (readD ls) → Q u H'
theorem k__law_first_wrong (T : Tx K mg) : Keeps P w K mg base CX0 4 "_law_first_wrong" ["lines"] (spWrong (K := K)) := T.kp__law_first_wrong fun fd F => by
  refine F.ok sc__law_first_wrong (fun vs H Q E h => ?_) (fun cdv A outer s H vs Q E hr h => ?_)
  · obtain ⟨l, ls, rfl, _⟩ := h
    rfl
  · obtain ⟨l, ls, rfl, hl, hn, hx, q⟩ := h
    refine ⟨_, PSs.nox (pss_cons (ps_par3 (i := 1) (j := 2) (l := 3) (by rfl) sc__law_first_wrong.nd rfl rfl rfl (by decide) (by decide) (by decide) rfl rfl rfl (pa_cons (pe_lst pa_nil) (pa_cons (pe_lst pa_nil) (pa_cons (pe_lst (pa_cons (pe_lst pa_nil) pa_nil)) pa_nil))) (by rfl))
      (pss_cons (ps_for PassesOwn.never rfl (pi_enum (by rfl) T.b_enumerate (pa_cons (pv 0) pa_nil)) (pg_tup rfl (pgs_cons (pg_name (i := 4) sc__law_first_wrong.nd rfl (by first | exact Or.inl rfl | exact Or.inr rfl)) (pgs_cons (pg_name (i := 5) sc__law_first_wrong.nd rfl (by first | exact Or.inl rfl | exact Or.inr rfl)) pgs_nil))) (pss_cons (ps_set (i := 6) sc__law_first_wrong.nd rfl (by first | exact Or.inl rfl | exact Or.inr rfl) (pe_split (pv 5) pe_str))
      (pss_cons (ps_set (i := 7) sc__law_first_wrong.nd rfl (by first | exact Or.inl rfl | exact Or.inr rfl) (pe_ifExp (pt_cmpR op_gt (pv 4) pe_int (nomark _)) (pe_cmpR op_eq (pe_ix ix_list (pv 0) (pe_op op_sub (pv 4) pe_int) (fun _ _ => rfl)) pe_str (nomark _)) pe_bl))
      (pss_one (ps_if (pt_cmpR op_eq (pv 5) pe_str (nomark _)) (pss_cons (ps_if (PW.pt (pw_or (pt_cmpR (op_eqL0 hr.units) (pv 2) (pe_lst pa_nil) (nomark _)) (pw_or (pt_cmpR op_ne (pe_ix ix_tup (pe_ix ix_tup (pe_ix ix_list (pv 2) (pe_un un_neg pe_int) (fun _ _ => rfl)) pe_int (fun _ _ => rfl)) pe_int (fun _ _ => rfl)) pe_str (nomark _)) (pw_or (pt_cmp (pc_notN (pe_ix ix_tup (pe_ix ix_list (pv 2) (pe_un un_neg pe_int) (fun _ _ => rfl)) pe_int (fun _ _ => rfl))) rfl) (pw_or (pt_cmpR op_gt (pe_callB call_lenS (by rfl) T.b_len (by decide +kernel) (pa_cons (pv 2) pa_nil)) pe_int (nomark _)) (pw_or1 (pt_cmpR op_gt (pe_callB call_lenS (by rfl) T.b_len (by decide +kernel) (pa_cons (pv 1) pa_nil)) pe_int (nomark _)))))))) (pss_one (ps_ret (pe_tup (pa_cons (pv 4) (pa_cons pe_non pa_nil))))) pss_nil)
      (pss_cons (ps_asg (pe_tup (pa_cons (pe_ix ix_tup (pe_ix ix_list (pv 2) (pe_un un_neg pe_int) (fun _ _ => rfl)) pe_int (fun _ _ => rfl)) (pa_cons (pe_callTy (T := "tuple") (call_tupK (K := K) rfl) (by rfl) T.b_tuple (by decide +kernel) (pa_cons (pe_ix ix_list (pv 3) (pe_un un_neg pe_int) (fun _ _ => rfl)) pa_nil)) pa_nil))) (pg_sub (pv 2) (pe_un un_neg pe_int) set_list))
      (pss_one (ps_asg (pe_lst pa_nil) (pg_sub (pv 3) (pe_un un_neg pe_int) set_list))))) (pss_one (ps_if (pt_cmpR op_eq (pv 5) pe_str (nomark _)) (pss_cons (ps_if (PW.pt (pw_or (pt_cmpR (op_eqL0 hr.units) (pv 2) (pe_lst pa_nil) (nomark _)) (pw_or1 (pt_val (pv 7))))) (pss_one (ps_ret (pe_tup (pa_cons (pv 4) (pa_cons pe_non pa_nil))))) pss_nil)
      (pss_cons (ps_asg (pe_bm0 PySem.F.plainAttrs_list PySem.F.slot_list_pop PySem.F.type_list_pop mt_pop (pv 2)) (pg_tup rfl (pgs_cons (pg_name (i := 8) sc__law_first_wrong.nd rfl (by first | exact Or.inl rfl | exact Or.inr rfl)) (pgs_cons (pg_name (i := 9) sc__law_first_wrong.nd rfl (by first | exact Or.inl rfl | exact Or.inr rfl)) pgs_nil))))
      (pss_cons (ps_set (i := 10) sc__law_first_wrong.nd rfl (by first | exact Or.inl rfl | exact Or.inr rfl) (pe_callTy (T := "tuple") (call_tupK (K := K) rfl) (by rfl) T.b_tuple (by decide +kernel) (pa_cons (pe_bm0 PySem.F.plainAttrs_list PySem.F.slot_list_pop PySem.F.type_list_pop mt_pop (pv 3)) pa_nil)))
      (pss_cons (ps_set (i := 11) sc__law_first_wrong.nd rfl (by first | exact Or.inl rfl | exact Or.inr rfl) (pe_ifExp (pt_cmp (pc_isN (pv 9)) rfl) (pe_tup (pa_cons (pv 10) (pa_cons (pe_tup pa_nil) pa_nil))) (pe_tup (pa_cons (pv 9) (pa_cons (pv 10) pa_nil)))))
      (pss_one (ps_expr (pe_bm PySem.F.plainAttrs_list PySem.F.slot_list_append PySem.F.type_list_append mt_append (pe_ix ix_list (pv 3) (pe_un un_neg pe_int) (fun _ _ => rfl)) (pa_cons (pe_op op_catA (pv 8) (pe_ifExp (pt_cmpR op_eq (pe_ix ix_tup (pv 8) pe_int (fun _ _ => rfl)) pe_str (nomark _)) (pv 11) (pe_tup (pa_cons (pv 10) pa_nil)))) pa_nil)))))))) (pss_cons (ps_set (i := 12) sc__law_first_wrong.nd rfl (by first | exact Or.inl rfl | exact Or.inr rfl) (pe_dget2 (hu_of hr) (pe_disp (pps_cons pe_str pe_int (pps_cons pe_str pe_int (pps_cons pe_str pe_int pps_nil))) rfl rfl (by simp) (by decide)) (pe_ix ix_list (pv 6) pe_int (fun _ _ => rfl)) pe_int ⟨rfl, rfl, rfl, rfl⟩))
      (pss_cons (ps_if (PW.pt (pw_or (pt_not (pt_chain op_le op_le (pv 12) (pe_callB call_lenS (by rfl) T.b_len (by decide +kernel) (pa_cons (pv 6) pa_nil)) (pe_op op_add (pv 12) pe_int))) (pw_or (pt_cmpR (op_neL0 hr.units) (pe_lc (own := [("word", 13)]) (g := gName 13)  rfl sc__law_first_wrong.nd (pi_list (pe_slice sl_list (pv 6) (po_some pe_int) po_none)) (blkOk_by (N := n__law_first_wrong) (sc := defScope s__law_first_wrong) (by decide +kernel)) (fun _ _ _ _ _ => (pg_name (i := 13) sc__law_first_wrong.nd rfl (by first | exact Or.inl rfl | exact Or.inr rfl))) (fun _ _ _ _ _ => (pts_one (pt_not (pt_val (pe_k (k__law_is_name T) (hr.mono (by omega)) pass0 (pa_cons (pv 13) pa_nil)))))) (fun _ _ _ _ _ => (pv 13))) (pe_lst pa_nil) (nomark _)) (pw_or1 (pt_cmpR op_in_seq (pe_ix ix_list (pv 6) pe_int (fun _ _ => rfl)) (pv 1) (by rfl)))))) (pss_one (ps_ret (pe_tup (pa_cons (pv 4) (pa_cons pe_non pa_nil))))) pss_nil)
      (pss_cons (ps_if (PW.pt (pw_or (pt_cmpR op_gt (pe_callB call_lenS (by rfl) T.b_len (by decide +kernel) (pa_cons (pv 1) pa_nil)) pe_int (nomark _)) (pw_or (pt_cmpR op_gt (pe_callB call_lenS (by rfl) T.b_len (by decide +kernel) (pa_cons (pe_ix ix_list (pv 3) (pe_un un_neg pe_int) (fun _ _ => rfl)) pa_nil)) pe_int (nomark _)) (pw_or1 (pt_cmpR op_gt (pe_callB call_lenS (by rfl) T.b_len (by decide +kernel) (pa_cons (pv 2) pa_nil)) pe_int (nomark _)))))) (pss_one (ps_ret (pe_tup (pa_cons (pv 4) (pa_cons pe_non pa_nil))))) pss_nil)
      (pss_cons (ps_expr (pe_bm PySem.F.plainAttrs_list PySem.F.slot_list_append PySem.F.type_list_append mt_append (pv 1) (pa_cons (pe_ix ix_list (pv 6) pe_int (fun _ _ => rfl)) pa_nil)))
      (pss_one (ps_if (pt_cmpR op_eq (pe_ix ix_list (pv 6) pe_int (fun _ _ => rfl)) pe_str (nomark _)) (pss_one (ps_expr (pe_bm PySem.F.plainAttrs_list PySem.F.slot_list_append PySem.F.type_list_append mt_append (pe_ix ix_list (pv 3) (pe_un un_neg pe_int) (fun _ _ => rfl)) (pa_cons (pe_tup (pa_cons pe_str (pa_cons (pe_ix ix_list (pv 6) pe_int (fun _ _ => rfl)) (pa_cons (pe_ix ix_list (pv 6) pe_int (fun _ _ => rfl)) (pa_cons (pe_callTy (T := "tuple") (call_tupK (K := K) rfl) (by rfl) T.b_tuple (by decide +kernel) (pa_cons (pe_slice sl_list (pv 6) (po_some pe_int) po_none) pa_nil)) pa_nil))))) pa_nil)))) (pss_cons (ps_expr (pe_bm PySem.F.plainAttrs_list PySem.F.slot_list_append PySem.F.type_list_append mt_append (pv 2) (pa_cons (pe_tup (pa_cons (pe_tup (pa_cons (pe_ix ix_list (pv 6) pe_int (fun _ _ => rfl)) (pa_cons (pe_ix ix_list (pv 6) pe_int (fun _ _ => rfl)) (pa_cons (pe_callTy (T := "tuple") (call_tupK (K := K) rfl) (by rfl) T.b_tuple (by decide +kernel) (pa_cons (pe_slice sl_list (pv 6) (po_some pe_int) po_none) pa_nil)) pa_nil)))) (pa_cons pe_non pa_nil))) pa_nil)))
      (pss_one (ps_expr (pe_bm PySem.F.plainAttrs_list PySem.F.slot_list_append PySem.F.type_list_append mt_append (pv 3) (pa_cons (pe_lst pa_nil) pa_nil))))))))))))))))))
      (pss_one (ps_ret (pe_tup (pa_cons (pe_callB call_lenS (by rfl) T.b_len (by decide +kernel) (pa_cons (pv 0) pa_nil)) (pa_cons (pe_ifExp (pt_cmpR (op_eqL0 hr.units) (pv 2) (pe_lst pa_nil) (nomark _)) (pe_tup (pa_cons pe_str (pa_cons (pe_callTy (T := "tuple") (call_tupK (K := K) rfl) (by rfl) T.b_tuple (by decide +kernel) (pa_cons (pe_ix ix_list (pv 3) pe_int (fun _ _ => rfl)) pa_nil)) pa_nil))) pe_non) pa_nil))))))), ?_⟩
    walk_at "go"
    refine ⟨by decide, fun sl hsl => ?_⟩
    walk_at "go"
    refine ⟨by decide, fun tl htl => ?_⟩
    walk_at "go"
    refine ⟨by decide, fun b0 hb0 => ?_⟩
    walk_at "go"
    refine ⟨le1, fun bl hbl => ?_⟩
    walk_at "go"
    have s1 := sameNew (o := .lst []) hsl
    have s2 := sameNew (o := .lst []) htl
    have s3 := sameNew (o := .lst []) hb0
    have s4 := sameNew (o := .lst [.ref b0]) hbl
    have s14 := ((s1.trans s2).trans s3).trans s4
    have L0 : LS H (upd (upd (upd (upd H sl (.lst [])) tl (.lst [])) b0 (.lst [])) bl (.lst [.ref b0])) ⟨sl, tl, bl, [], [], [(b0, [])]⟩ := by
      have e1 := s4 _ _ (s3 _ _ (s2 _ _ (upd_same (H := H) (a := sl) (o := .lst []))))
      have e2 := s4 _ _ (s3 _ _ (upd_same (H := upd H sl (.lst [])) (a := tl) (o := .lst [])))
      have e3 := s4 _ _ (upd_same (H := upd (upd H sl (.lst [])) tl (.lst [])) (a := b0) (o := .lst []))
      have n12 : sl ≠ tl := ne_of_none upd_same htl
      have n13 : sl ≠ b0 := ne_of_none (s2 _ _ upd_same) hb0
      have n14 : sl ≠ bl := ne_of_none (s3 _ _ (s2 _ _ upd_same)) hbl
      have n23 : tl ≠ b0 := ne_of_none upd_same hb0
      have n24 : tl ≠ bl := ne_of_none (s3 _ _ upd_same) hbl
      have n34 : b0 ≠ bl := ne_of_none upd_same hbl
      refine ⟨fun p hp => ?_, ?_, s14, fun b hb => ?_⟩
      · simp only [LA.foot, LA.frs, List.map_cons, List.map_nil, List.mem_cons, List.not_mem_nil, or_false, List.reverse_nil, List.reverse_cons, List.nil_append] at hp
        rcases hp with rfl | rfl | rfl | rfl
        · exact e1
        · exact e2
        · exact upd_same
        · exact e3
      · show ([sl, tl, bl, b0] : List Addr).Nodup
        simp only [List.nodup_cons, List.mem_cons, List.not_mem_nil, or_false, not_or, List.nodup_nil, and_true, not_false_eq_true]
        exact ⟨⟨n12, n14, n13⟩, ⟨n24, n23⟩, n34.symm⟩
      · have hb : b ∈ ([sl, tl, bl, b0] : List Addr) := hb
        simp only [List.mem_cons, List.not_mem_nil, or_false] at hb
        rcases hb with rfl | rfl | rfl | rfl
        · exact hsl
        · exact none_of s1 htl
        · exact none_of ((s1.trans s2).trans s3) hbl
        · exact none_of (s1.trans s2) hb0
    have hl4 := s14 _ _ hl
    generalize upd (upd (upd (upd H sl (.lst [])) tl (.lst [])) b0 (.lst [])) bl (.lst [.ref b0]) = H4 at L0 hl4 ⊢
    refine ⟨l, _, rfl, SqL.of hl4, ?_⟩
    obtain ⟨Pv, hPv⟩ : ∃ Pv : Nat → L2.St → Hp → Prop, Pv = fun i σ H' => ∃ y4 y5 y6 y7 y8 y9 y10 y11 y12 y13 L S, σ = [some (.ref l), some (.ref L.sl), some (.ref L.tl), some (.ref L.bl), y4, y5, y6, y7, y8, y9, y10, y11, y12, y13] ∧ LS H H' L ∧ LOk K H' L.bs L.tv S.frames ∧ L.sites = S.sites ∧ stepsP startP (ls.take i) = some S ∧ WfF S.frames ∧ WfI S.frames ∧ (∀ p ∈ S.frames, p.top.length ≤ i) ∧ S.sites.length ≤ 40 ∧ (i = 0 → S.fresh = false) ∧ ∀ j x, i = j + 1 → ls[j]? = some x → S.fresh = decide (x = "else") := ⟨_, rfl⟩
    refine forb_enum Pv (by rw [hPv]; exact ⟨_, _, _, _, _, _, _, _, _, _, _, startP, rfl, L0, .base .nil, rfl, rfl, ⟨rfl, rfl⟩, wfi_start, top_start, Nat.zero_le _, fun _ => rfl, fun j x e => by cases e⟩) (fun i σ H' _ h => by rw [hPv] at h; obtain ⟨_, _, _, _, _, _, _, _, _, _, L, S, _, hL, _⟩ := h; exact hL.same _ _ hl) (fun i line σ H5 Tp e h hT => ?_) (fun σ H5 h => ?_)
    · rw [hPv] at h
      obtain ⟨y4, y5, y6, y7, y8, y9, y10, y11, y12, y13, L, S, rfl, hL, hO, hsi, hst, hwf, hwi, htop, hs40, hf0, hfs⟩ := h
      have hi : i < ls.length := by
        rcases Nat.lt_or_ge i ls.length with h | h
        · exact h
        · rw [List.getElem?_eq_none h] at e; cases e
      have hline := hx line (List.mem_of_getElem? e)
      obtain ⟨p, qs, eS⟩ : ∃ p qs, S.frames = p :: qs := by
        cases h : S.frames with
        | nil => rw [h] at hwf; exact hwf.elim
        | cons p qs => exact ⟨p, qs, rfl⟩
      have hstep : stepP S line = (if line = "else" then stepElse S p qs else if line = "end" then stepEnd S else stepHead S p qs (Txt.split line " ")) := by
        unfold stepP
        rw [eS]
      have sT := sameNew (o := .tup [.int (i : Nat), .str line]) hT
      refine rd_gtup upd_same rfl ?_
      walk_at "go"
      refine ⟨_, _, rfl, rfl, by decide, by unfold sizeLine; omega, fun lw hlw => ?_⟩
      have sW := sameNew (o := .lst ((Txt.split line " ").map V.str)) hlw
      have hlw7 := upd_same (H := upd H5 Tp (.tup [.int (i : Nat), .str line])) (a := lw) (o := .lst ((Txt.split line " ").map V.str))
      have nsw : L.sl ≠ lw := ne_of_none (hL.step sT).s hlw
      have hL := (hL.step sT).step sW
      have hO := hO.mono (StT.same (sT.trans sW))
      generalize upd (upd H5 Tp (.tup [.int (i : Nat), .str line])) lw (.lst ((Txt.split line " ").map V.str)) = H7 at hL hO hlw7 ⊢
      have hl7 := hL.same _ _ hl
      have bad : ∀ H', Same H H' → stepP S line = none → 2 ≤ sizeLine ∧ ∀ u, H' u = none → Q (.ref u) (upd H' u (.tup [.int (i : Nat), .non])) := fun H' s' hnone => ⟨by decide, fun u hu => by
        refine q _ _ (s'.trans (sameNew hu)) ?_
        unfold readD
        rw [readP_bad e hst hnone]
        exact .tup (SqT.of upd_same) (.cons (.int _) (.cons .non .nil))⟩
      have nxt : ∀ σ' H' S' L', stepP S line = some S' → LS H H' L' → LOk K H' L'.bs L'.tv S'.frames → L'.sites = S'.sites → (∃ z4 z5 z6 z7 z8 z9 z10 z11 z12 z13, σ' = [some (.ref l), some (.ref L'.sl), some (.ref L'.tl), some (.ref L'.bl), z4, z5, z6, z7, z8, z9, z10, z11, z12, z13]) → Pv (i + 1) σ' H' := fun σ' H' S' L' hs' hL' hO' hsi' ⟨z4, z5, z6, z7, z8, z9, z10, z11, z12, z13, hz⟩ => by
        rw [hPv]
        refine ⟨z4, z5, z6, z7, z8, z9, z10, z11, z12, z13, L', S', hz, hL', hO', hsi', by rw [stepsP_take _ e, hst]; exact hs', stepP_wf hwf hs', stepP_wfi hwi hs', stepP_top htop hs', stepP_sites hs40 hs', (fun z => by cases z), fun j x hj ex => ?_⟩
        have : j = i := by omega
        subst this
        rw [e] at ex
        cases ex
        exact stepP_fresh hs'
      refine i_name ?_
      refine i_next ?_
      with_reducible refine seq_at (fun σ' H' => σ' = [some (.ref l), some (.ref L.sl), some (.ref L.tl), some (.ref L.bl), some (.int (i : Nat)), some (.str line), some (.ref lw), some (.bl S.fresh), y8, y9, y10, y11, y12, y13] ∧ H' = H7) (fun N hN => ?_) (fun σ' H' hc => ?_)
      · walk_at "go"
        refine ifb (fun k1 => ?_) (fun k1 => ?_)
        · have k1 := of_decide_eq_true k1
          obtain ⟨j, rfl⟩ : ∃ j, i = j + 1 := ⟨i - 1, by omega⟩
          obtain ⟨x, ex⟩ : ∃ x, ls[j]? = some x := ⟨_, List.getElem?_eq_getElem (by omega)⟩
          walk_at "go"
          refine rd_ixL hl7 (v := .str x) ?_ ?_
          · rw [show ((j + 1 : Nat) : Int) - 1 = (j : Int) by omega]
            exact atI_nat (by rw [List.getElem?_map, ex]; rfl)
          · walk_at "go"
            rw [← hfs j x rfl ex]
            exact hN _ _ ⟨rfl, rfl⟩
        · have k1 := of_decide_eq_false k1
          walk_at "go"
          refine hN _ _ ⟨?_, rfl⟩
          rw [hf0 (by omega)]
          rfl
      · obtain ⟨rfl, rfl⟩ := hc
        have hlen := hO.len
        rw [eS] at hlen hO hwf
        walk_at "go"
        refine ifb (fun k1 => ?_) (fun k1 => ?_)
        · rw [if_pos (of_decide_eq_true k1)] at hstep
          walk_at "go"
          refine ⟨by decide, fun pe hpe => ?_⟩
          have sE := sameNew (o := .lst []) hpe
          have ht8 := sE _ _ hL.t
          have he8 := upd_same (H := H') (a := pe) (o := .lst [])
          have hL8 := hL.step sE
          have hO8 := hO.mono (StT.same sE)
          generalize upd H' pe (.lst []) = H8 at ht8 he8 hL8 hO8 ⊢
          refine rd_eqL0 ht8 he8 ?_
          walk_at "go"
          generalize hbs : L.bs = bs at hO8
          generalize htv : L.tv = tv at hO8 ht8 hlen ⊢
          cases hO8 with
          | base hx0 =>
            refine ift rfl ?_
            refine ift rfl ?_
            walk_at "go"
            refine bad _ hL8.same ?_
            rw [hstep]
            unfold stepElse
            rw [show elseOk S p = false by unfold elseOk; rw [hwf.1, decide_eq_false kind_none]; rfl]
            rfl
          | @cons b xs p0 t bs' tv' ps hx0 ht0 hr0 =>
            obtain ⟨g, r, rfl⟩ : ∃ g r, qs = g :: r := by
              cases hr0 with
              | base _ => exact ⟨_, _, rfl⟩
              | cons _ _ _ => exact ⟨_, _, rfl⟩
            obtain ⟨k, s0, as, ehd⟩ := hwf.1
            have hkd : kindOf p.head = k := by rw [ehd]; rfl
            rw [List.reverse_cons] at ht8
            rw [show (t :: tv').reverse.isEmpty = false by simp]
            refine ife rfl ?_
            walk_at "go"
            have ht0' := ht0
            unfold testD at ht0
            rw [ehd] at ht0
            have no : elseOk S p = false → stepP S line = none := fun z => by
              rw [hstep]
              unfold stepElse
              rw [z]
              rfl
            refine rd_ixL ht8 (atI_last _ _) ?_
            walk_at "go"
            refine rd_ix ht0 (n := 0) rfl rfl (fun u1 hu1 => ?_)
            walk_at "go"
            refine rd_ix hu1 (n := 0) rfl rfl (fun u2 hu2 => ?_)
            obtain ⟨rfl, _⟩ := hu2.strI
            walk_at "go"
            refine ifn (fun k2 => ?_) (fun k2 => ?_)
            · refine ift rfl ?_
              walk_at "go"
              exact bad _ hL8.same (no (by unfold elseOk; rw [hkd, k2]; rfl))
            · walk_at "go"
              refine rd_ixL ht8 (atI_last _ _) ?_
              walk_at "go"
              refine rd_ix ht0 (n := 1) rfl rfl (fun u3 hu3 => ?_)
              walk_at "go"
              rw [hu3.isNon]
              cases hfst : p.fst with
              | some a =>
                refine ift rfl ?_
                refine ift rfl ?_
                walk_at "go"
                exact bad _ hL8.same (no (by unfold elseOk; rw [hfst]; simp))
              | none =>
                have hok : elseOk S p = decide (S.frames.length ≤ 4 ∧ S.sites.length < 40) := by
                  unfold elseOk
                  rw [hkd, k2, hfst]
                  rfl
                refine ife rfl ?_
                walk_at "go"
                refine rd_lenL ht8 ?_
                walk_at "go"
                rw [← List.reverse_cons, List.length_reverse]
                have hfl : (t :: tv').length + 1 = S.frames.length := by rw [eS]; exact hlen.2
                refine ifb (fun k3 => ?_) (fun k3 => ?_)
                · have k3 := of_decide_eq_true k3
                  walk_at "go"
                  exact bad _ hL8.same (no (by rw [hok]; exact decide_eq_false (fun z => by omega)))
                · have k3 := of_decide_eq_false k3
                  walk_at "go"
                  refine rd_lenL hL8.s ?_
                  walk_at "go"
                  rw [List.length_map, hsi]
                  refine ifb (fun k4 => ?_) (fun k4 => ?_)
                  · have k4 := of_decide_eq_true k4
                    walk_at "go"
                    exact bad _ hL8.same (no (by rw [hok]; exact decide_eq_false (fun z => by omega)))
                  · have k4 := of_decide_eq_false k4
                    have hst' : stepP S line = some ⟨{ p with fst := some p.top, top := [] } :: g :: r, S.sites, true⟩ := by
                      rw [hstep]
                      unfold stepElse
                      rw [if_pos (by rw [hok]; exact decide_eq_true ⟨by omega, by omega⟩)]
                    walk_at "go"
                    refine rd_ixL ht8 (atI_last _ _) ?_
                    walk_at "go"
                    refine rd_ix ht0 (n := 0) rfl rfl (fun u5 hu5 => ?_)
                    walk_at "go"
                    have hb8 := hL8.b
                    rw [hbs, List.reverse_cons, List.map_append] at hb8
                    refine rd_ixL hb8 (atI_last _ _) ?_
                    walk_at "go"
                    have hxb := hL8.body (b := (b, xs)) (by rw [hbs]; simp)
                    refine rd_tupL hxb (fun t9 ht9 => ?_)
                    walk_at "go"
                    refine ⟨by show 2 ≤ sizeLine; decide, fun t10 ht10 => ?_⟩
                    have s9 := (sameNew (o := .tup xs) ht9).trans (sameNew (o := .tup [u5, .ref t9]) ht10)
                    have hd10 : Dt K (upd (upd H8 t9 (.tup xs)) t10 (.tup [u5, .ref t9])) (.ref t10) (testD { p with fst := some p.top, top := [] }) := by
                      show Dt K _ _ (.tuple [p.head, .tuple p.top])
                      rw [ehd]
                      exact .tup (SqT.of upd_same) (.cons (hu5.same s9) (.cons ((Dt.tup (SqT.of upd_same) (hx0.mono (StT.new ht9))).same (sameNew ht10)) .nil))
                    have hL10 := hL8.step s9
                    have hr10 := hr0.mono (StT.same s9)
                    generalize upd (upd H8 t9 (.tup xs)) t10 (.tup [u5, .ref t9]) = H10 at hL10 hd10 hr10 ⊢
                    have ht10 := hL10.t
                    rw [htv, List.reverse_cons] at ht10
                    walk_at "go"
                    refine rd_setLast ht10 ?_
                    obtain ⟨hL11, st11⟩ := hL10.setT (K := K) (.ref t10 :: tv')
                    rw [List.reverse_cons] at hL11 st11
                    have hd11 := hd10.mono st11
                    have hr11 := hr10.mono st11
                    generalize upd H10 L.tl (.lst (tv'.reverse ++ [.ref t10])) = H11 at hL11 hd11 hr11 ⊢
                    walk_at "go"
                    refine ⟨by decide, fun nb hnb => ?_⟩
                    walk_at "go"
                    have sN := sameNew (o := .lst []) hnb
                    have hb12 := sN _ _ hL11.b
                    have hbs' : ({ L with tv := .ref t10 :: tv' } : LA).bs = (b, xs) :: bs' := hbs
                    rw [hbs', List.reverse_cons, List.map_append] at hb12
                    refine rd_setLast hb12 ?_
                    obtain ⟨hL13, st13⟩ := hL11.swap (K := K) hbs' sN hnb upd_same
                    walk_at "go"
                    exact nxt _ _ _ _ hst' hL13 (.cons .nil ((hd11.mono (StT.same sN)).mono st13) ((hr11.mono (StT.same sN)).mono st13)) hsi ⟨_, _, _, _, _, _, _, _, _, _, rfl⟩
        · rw [if_neg (of_decide_eq_false k1)] at hstep
          walk_at "go"
          refine ifb (fun k2 => ?_) (fun k2 => ?_)
          · rw [if_pos (of_decide_eq_true k2)] at hstep
            walk_at "go"
            refine ⟨by decide, fun pe hpe => ?_⟩
            have sE := sameNew (o := .lst []) hpe
            have ht8 := sE _ _ hL.t
            have he8 := upd_same (H := H') (a := pe) (o := .lst [])
            have hL8 := hL.step sE
            have hO8 := hO.mono (StT.same sE)
            generalize upd H' pe (.lst []) = H8 at ht8 he8 hL8 hO8 ⊢
            refine rd_eqL0 ht8 he8 ?_
            walk_at "go"
            generalize hbs : L.bs = bs at hO8
            generalize htv : L.tv = tv at hO8 ht8 hlen ⊢
            cases hO8 with
            | base hx0 =>
              refine ift rfl ?_
              refine ift rfl ?_
              walk_at "go"
              refine bad _ hL8.same ?_
              rw [hstep]
              unfold stepEnd
              rw [eS]
            | @cons b xs p0 t bs' tv' ps hx0 ht0 hr0 =>
              obtain ⟨g, r, rfl⟩ : ∃ g r, qs = g :: r := by
                cases hr0 with
                | base _ => exact ⟨_, _, rfl⟩
                | cons _ _ _ => exact ⟨_, _, rfl⟩
              obtain ⟨k, s0, as, ehd⟩ := hwf.1
              have hkd : kindOf p.head = k := by rw [ehd]; rfl
              rw [List.reverse_cons] at ht8
              rw [show (t :: tv').reverse.isEmpty = false by simp]
              refine ife rfl ?_
              walk_at "go"
              have hse : stepP S line = if S.fresh = true then none else some ⟨{ g with top := g.top ++ [closeF p] } :: r, S.sites, S.fresh⟩ := by
                rw [hstep]
                unfold stepEnd
                rw [eS]
              cases hfr : S.fresh with
              | true =>
                refine ift rfl ?_
                walk_at "go"
                refine bad _ hL8.same ?_
                rw [hse, if_pos hfr]
              | false =>
                refine ife rfl ?_
                walk_at "go"
                rw [if_neg (by rw [hfr]; exact Bool.false_ne_true)] at hse
                have hcl := close_law (p := p) (hwi p (by rw [eS]; simp))
                have ht0' := ht0
                unfold testD at ht0
                rw [ehd] at ht0
                refine ⟨.inl ⟨rfl, _, SqL.of ht8⟩, ?_⟩
                refine ⟨L.tl, _, t, rfl, rfl, ht8, by simp, ?_⟩
                rw [List.dropLast_concat]
                obtain ⟨hL9, st9⟩ := hL8.setT (K := K) tv'
                have ht9 := ht0.mono st9
                have hx9 := hx0.mono st9
                have hr9 := hr0.mono st9
                generalize upd H8 L.tl (.lst tv'.reverse) = H9 at hL9 ht9 hx9 hr9 ⊢
                obtain ⟨ta, txs, rfl, _, _⟩ := ht9.ref
                refine rd_gtupD ht9 rfl (fun ys hys => ?_)
                cases hys with
                | cons hy1 hys => cases hys with
                  | cons hy2 hys =>
                    cases hys
                    rename_i yh yt
                    walk_at "go"
                    have hbs9 : ({ L with tv := tv' } : LA).bs = (b, xs) :: bs' := hbs
                    have hb9 := hL9.b
                    rw [hbs9, List.reverse_cons, List.map_append] at hb9
                    refine ⟨.inl ⟨rfl, _, SqL.of hb9⟩, ?_⟩
                    refine ⟨L.bl, _, .ref b, rfl, rfl, hb9, by simp, ?_⟩
                    rw [show (List.map (fun b => V.ref b.1) bs'.reverse ++ List.map (fun b : Addr × List V => V.ref b.1) [(b, xs)]).dropLast = bs'.reverse.map (fun b => V.ref b.1) from List.dropLast_concat]
                    obtain ⟨hL10, st10⟩ := hL9.pop (K := K) hbs9
                    have hxb9 := hL9.body (b := (b, xs)) (by rw [hbs9]; simp)
                    have nbb : b ≠ L.bl := by
                      intro z
                      have hnd := hL9.nd
                      have : (L.sl :: L.tl :: L.bl :: ((L.bs.map fun b => (b.1, HO.lst b.2)).map (·.1))).Nodup := hnd
                      rw [hbs] at this
                      simp only [List.map_cons, List.nodup_cons, List.mem_cons, not_or] at this
                      exact this.2.2.1.1 z.symm
                    have hxb10 : upd H9 L.bl (.lst (bs'.reverse.map fun b => V.ref b.1)) b = some (.lst xs) := by rw [upd_ne nbb]; exact hxb9
                    have hy1' := hy1.mono st10
                    have hy2' := hy2.mono st10
                    have hx10 := hx9.mono st10
                    have hr10 := hr9.mono st10
                    generalize upd H9 L.bl (.lst (bs'.reverse.map fun b => V.ref b.1)) = H10 at hL10 hxb10 hy1' hy2' hx10 hr10 ⊢
                    walk_at "go"
                    refine rd_tupL hxb10 (fun t11 ht11 => ?_)
                    have s11 := sameNew (o := .tup xs) ht11
                    have hL11 := hL10.step s11
                    have hin : Dt K (upd H10 t11 (.tup xs)) (.ref t11) (.tuple p.top) := .tup (SqT.of upd_same) (hx10.mono (StT.same s11))
                    have hy1' := hy1'.same s11
                    have hy2' := hy2'.same s11
                    have hr11 := hr10.mono (StT.same s11)
                    generalize upd H10 t11 (.tup xs) = H11 at hL11 hin hy1' hy2' hr11 ⊢
                    refine i_name ?_
                    refine i_next ?_
                    with_reducible refine seq_at (fun σ' H' => ∃ m, σ' = [some (.ref l), some (.ref L.sl), some (.ref L.tl), some (.ref L.bl), some (.int (i : Nat)), some (.str line), some (.ref lw), some (.bl false), some yh, some yt, some (.ref t11), some m, y12, y13] ∧ Same H11 H' ∧ Dt K H' m (.tuple (match p.fst with | none => [.tuple p.top, .tuple []] | some a => [.tuple a, .tuple p.top]))) (fun N hN => ?_) (fun σ' H' hc => ?_)
                    · walk_at "go"
                      rw [hy2'.isNon]
                      cases hfst : p.fst with
                      | none =>
                        refine ift rfl ?_
                        walk_at "go"
                        refine ⟨by decide, fun p1 hp1 => ?_⟩
                        walk_at "go"
                        refine ⟨by show 2 ≤ sizeLine; decide, fun p2 hp2 => ?_⟩
                        have s12 := (sameNew (o := .tup []) hp1).trans (sameNew (o := .tup [.ref t11, .ref p1]) hp2)
                        walk_at "go"
                        rw [hfst] at hN
                        exact hN _ _ ⟨_, rfl, s12, .tup (SqT.of upd_same) (.cons (hin.same s12) (.cons ((Dt.empty (p := p1)).same (sameNew hp2)) .nil))⟩
                      | some a =>
                        refine ife rfl ?_
                        walk_at "go"
                        refine ⟨by show 2 ≤ sizeLine; decide, fun p2 hp2 => ?_⟩
                        have s12 := sameNew (o := .tup [yt, .ref t11]) hp2
                        walk_at "go"
                        rw [hfst] at hN hy2'
                        exact hN _ _ ⟨_, rfl, s12, .tup (SqT.of upd_same) (.cons (hy2'.same s12) (.cons (hin.same s12) .nil))⟩
                    · obtain ⟨m, rfl, s12, hm⟩ := hc
                      have hL12 := hL11.step s12
                      have hr12 := hr11.mono (StT.same s12)
                      have hy1' := hy1'.same s12
                      have hin := hin.same s12
                      obtain ⟨b', xs', bs'', eb'⟩ : ∃ b' xs' bs'', bs' = (b', xs') :: bs'' := by
                        cases hr12 with
                        | base _ => exact ⟨_, _, _, rfl⟩
                        | cons _ _ _ => exact ⟨_, _, _, rfl⟩
                      subst eb'
                      have hb12 := hL12.b
                      rw [show ({ ({ L with tv := tv' } : LA) with bs := (b', xs') :: bs'' } : LA).bs = (b', xs') :: bs'' from rfl, List.reverse_cons, List.map_append] at hb12
                      have hxb12 := hL12.body (b := (b', xs')) List.mem_cons_self
                      walk_at "go"
                      refine rd_ixL hb12 (atI_last _ _) ?_
                      refine ⟨.inl ⟨rfl, _, SqL.of hxb12⟩, ?_⟩
                      walk_at "go"
                      refine rd_ix hy1' (n := 0) rfl rfl (fun u hu => ?_)
                      obtain ⟨rfl, _⟩ := hu.strI
                      walk_at "go"
                      have fin : ∀ (H13 : Hp) (v13 : V) (ds : List PyData), Same H' H13 → Dt K H13 v13 (.tuple ds) → ds.length ≤ 2 → closeF p = .tuple (tupD p.head ++ ds) → rCatA K yh v13 H13 (fun y H14 => rAppend (.ref b') [y] H14 (fun x H15 => Pv (i + 1) [some (.ref l), some (.ref L.sl), some (.ref L.tl), some (.ref L.bl), some (.int (i : Nat)), some (.str line), some (.ref lw), some (.bl false), some yh, some yt, some (.ref t11), some m, y12, y13] H15)) := fun H13 v13 ds s13 hd13 hds hcl13 => by
                        have hL13 := hL12.step s13
                        refine rd_catT (hy1'.same s13) hd13 (by show 3 + ds.length ≤ sizeLine; unfold sizeLine; omega) (fun u14 H14 s14 hu14 => ?_)
                        have hu14 : Dt K H14 u14 (closeF p) := by
                          rw [hcl13, ehd]
                          exact hu14
                        have hL14 := hL13.step s14
                        have hr14 := (hr12.mono (StT.same s13)).mono (StT.same s14)
                        have hxb14 := s14 _ _ (s13 _ _ hxb12)
                        have hxlen : xs'.length = g.top.length := by
                          cases hr14 with
                          | base hx => exact hx.length
                          | cons hx _ _ => exact hx.length
                        refine ⟨b', xs', u14, rfl, rfl, hxb14, by have := htop g (by rw [eS]; simp); unfold sizeLine; omega, ?_⟩
                        obtain ⟨hL15, st15⟩ := hL14.app (K := K) rfl u14
                        refine nxt _ _ _ _ hse hL15 ?_ hsi ⟨_, _, _, _, _, _, _, _, _, _, rfl⟩
                        have hr15 := hr14.mono st15
                        have hu15 := hu14.mono st15
                        cases hr15 with
                        | base hx => exact .base (hx.append (.cons hu15 .nil))
                        | cons hx ht hr => exact .cons (hx.append (.cons hu15 .nil)) (by exact ht) hr
                      refine ifb (fun k3 => ?_) (fun k3 => ?_)
                      · have k3 : kindOf p.head = "if" := by rw [hkd]; exact of_decide_eq_true k3
                        walk_at "go"
                        exact fin H' m _ (Same.refl _) hm (by split <;> exact Nat.le_refl 2) (by rw [hcl, if_pos k3] <;> rfl)
                      · have k3 : ¬ kindOf p.head = "if" := by rw [hkd]; exact of_decide_eq_false k3
                        walk_at "go"
                        refine ⟨le1, fun p13 hp13 => ?_⟩
                        exact fin _ _ [.tuple p.top] (sameNew hp13) (.tup (SqT.of upd_same) (.cons (hin.same (sameNew hp13)) .nil)) (by show 1 ≤ 2; decide) (by rw [hcl, if_neg k3])
          · rw [if_neg (of_decide_eq_false k2)] at hstep
            obtain ⟨w0, wr, ews⟩ : ∃ w0 wr, Txt.split line " " = w0 :: wr := by
              cases h : Txt.split line " " with
              | nil => rw [sp_eq] at h; exact absurd h (split_ne _ _)
              | cons a b => exact ⟨a, b, rfl⟩
            have hpart : ∀ x ∈ w0 :: wr, x.length ≤ 97 := fun x hx => by
              rw [← ews, sp_eq] at hx
              have := split_part hx
              omega
            have hcount : (w0 :: wr).length ≤ 98 := by
              have := split_count line 32
              rw [← sp_eq, ews] at this
              omega
            rw [ews] at hstep hlw7
            have no : (wordsOk (w0 :: wr) && roomFor S p (w0 :: wr)) = false → stepP S line = none := fun z => by
              rw [hstep]
              unfold stepHead
              rw [z]
              rfl
            have e0 : atI ((w0 :: wr).map V.str) 0 = some (.str w0) := atI_nat (j := 0) rfl
            have hwo : wordsOk (w0 :: wr) = (decide (w0 = "do" ∨ w0 = "if" ∨ w0 = "while") && (wr.all isName && decide (leastOf w0 ≤ (w0 :: wr).length ∧ (w0 :: wr).length ≤ leastOf w0 + 3))) := rfl
            walk_at "go"
            refine fun pd hpd => ?_
            walk_at "go"
            refine ⟨upd_same, leastK, rfl, by decide, ?_⟩
            rw [upd_upd, least_merge]
            have sD := sameNew (o := .dK leastK) hpd
            have hpd8 := upd_same (H := H') (a := pd) (o := .dK leastK)
            have hL8 := hL.step sD
            have hO8 := hO.mono (StT.same sD)
            have hlw8 := sD _ _ hlw7
            generalize upd H' pd (.dK leastK) = H8 at hpd8 hL8 hO8 hlw8 ⊢
            refine ⟨pd, rfl, .inl ⟨_, .inl hpd8⟩, ?_⟩
            walk_at "go"
            refine rd_ixL hlw8 e0 ?_
            walk_at "go"
            refine ⟨_, DGet.k (k := .inr w0) hpd8, ?_⟩
            rw [least_val]
            walk_at "go"
            refine rd_lenL hlw8 ?_
            walk_at "go"
            rw [List.length_map]
            refine ifb (fun k3 => ?_) (fun k3 => ?_)
            · have k3 := of_decide_eq_true k3
              have hkind : w0 = "do" ∨ w0 = "if" ∨ w0 = "while" := by
                unfold leastL at k3
                split at k3
                · rename_i h; exact .inl h
                · split at k3
                  · rename_i h; exact .inr h
                  · omega
              have hll : leastL w0 = leastOf w0 := by
                unfold leastL leastOf
                by_cases h : w0 = "do"
                · rw [if_pos h, if_pos h]
                · rw [if_neg h, if_neg h, if_pos (hkind.resolve_left h)]
              rw [hll] at k3 ⊢
              walk_at "go"
              refine ifn (fun k4 => ?_) (fun k4 => ?_)
              · have k4 := of_decide_eq_false k4
                refine ift rfl ?_
                walk_at "go"
                refine bad _ hL8.same (no ?_)
                rw [hwo, decide_eq_false (show ¬ (leastOf w0 ≤ (w0 :: wr).length ∧ (w0 :: wr).length ≤ leastOf w0 + 3) by omega), Bool.and_false, Bool.and_false, Bool.false_and]
              · have k4 := of_decide_eq_true k4
                walk_at "go"
                refine rd_slL hlw8 (fun a9 ha9 => ?_)
                rw [show cutV ((w0 :: wr).map V.str) (some 1) none = wr.map V.str from cutV_drop _ 1]
                have s9 := sameNew (o := .lst (wr.map V.str)) ha9
                have ha9' := upd_same (H := H8) (a := a9) (o := .lst (wr.map V.str))
                have hL9 := hL8.step s9
                have hO9 := hO8.mono (StT.same s9)
                have hlw9 := s9 _ _ hlw8
                generalize upd H8 a9 (.lst (wr.map V.str)) = H9 at ha9' hL9 hO9 hlw9 ⊢
                walk_at "go"
                refine ⟨_, rfl, ⟨_, SqL.of ha9'⟩, ?_⟩
                refine lcb_filtS (keep := fun x => !isName x) ha9' (by rw [List.length_cons] at hcount; unfold sizeLine; omega) (fun _ => rfl) (fun x H10 Rr hm s10 k => ?_) (fun x H10 Rr hm s10 k => ?_) (fun D H10 hD s10 hl10 => ?_)
                · walk_at "go"
                  refine ⟨x, rfl, by have := hpart x (List.mem_cons_of_mem _ hm); omega, fun H11 s11 => ?_⟩
                  walk_at "go"
                  exact k H11 s11
                · walk_at "go"
                  exact k H10 (Same.refl _)
                · walk_at "go"
                  refine ⟨by decide, fun pe hpe => ?_⟩
                  have sE := sameNew (o := .lst []) hpe
                  refine rd_neL0 (sE _ _ hl10) upd_same ?_
                  walk_at "go"
                  have s11 := s10.trans sE
                  have hL11 := hL9.step s11
                  have hO11 := hO9.mono (StT.same s11)
                  have hlw11 := s11 _ _ hlw9
                  generalize upd H10 pe (.lst []) = H11 at s11 hL11 hO11 hlw11 ⊢
                  have hall : (List.map V.str (wr.filter fun x => !isName x)).isEmpty = wr.all isName := by
                    rw [List.isEmpty_map, Bool.eq_iff_iff, List.isEmpty_iff, List.filter_eq_nil_iff, List.all_eq_true]
                    constructor
                    · intro h x hx
                      have := h x hx
                      simpa using this
                    · intro h x hx
                      have := h x hx
                      simp [this]
                  rw [hall]
                  cases ka : wr.all isName with
                  | false =>
                    refine ift rfl ?_
                    refine ift rfl ?_
                    walk_at "go"
                    refine bad _ hL11.same (no ?_)
                    rw [hwo, ka, Bool.false_and, Bool.and_false, Bool.false_and]
                  | true =>
                    refine ife rfl ?_
                    walk_at "go"
                    obtain ⟨w1, wt, rfl⟩ : ∃ w1 wt, wr = w1 :: wt := by
                      cases wr with
                      | nil =>
                        have h1 : [w0].length = 1 := rfl
                        have h2 : 2 ≤ leastOf w0 := by unfold leastOf; split <;> decide
                        omega
                      | cons a b => exact ⟨a, b, rfl⟩
                    have e1 : atI ((w0 :: w1 :: wt).map V.str) 1 = some (.str w1) := atI_nat (j := 1) rfl
                    have hwt : wordsOk (w0 :: w1 :: wt) = true := by
                      rw [hwo, ka, decide_eq_true hkind, decide_eq_true (show leastOf w0 ≤ (w0 :: w1 :: wt).length ∧ (w0 :: w1 :: wt).length ≤ leastOf w0 + 3 by omega)]
                      rfl
                    have hro : roomFor S p (w0 :: w1 :: wt) = (decide (w1 ∉ S.sites) && (decide (S.sites.length < 40) && (decide (p.top.length < 12) && decide (S.frames.length ≤ 4)))) := rfl
                    rw [hwt, hro, Bool.true_and] at no
                    refine rd_ixL hlw11 e1 ?_
                    walk_at "go"
                    refine rd_inL hL11.s ?_
                    walk_at "go"
                    rw [hsi]
                    refine ifb (fun k5 => ?_) (fun k5 => ?_)
                    · have k5 := of_decide_eq_true k5
                      walk_at "go"
                      exact bad _ hL11.same (no (by rw [decide_eq_false (fun z => z k5)]; rfl))
                    · have k5 := of_decide_eq_false k5
                      rw [decide_eq_true k5, Bool.true_and] at no
                      walk_at "go"
                      refine rd_lenL hL11.s ?_
                      walk_at "go"
                      rw [List.length_map, hsi]
                      refine ifb (fun k6 => ?_) (fun k6 => ?_)
                      · have k6 := of_decide_eq_true k6
                        refine ift rfl ?_
                        walk_at "go"
                        exact bad _ hL11.same (no (by rw [decide_eq_false (fun z => by omega)]; rfl))
                      · have k6 := of_decide_eq_false k6
                        rw [decide_eq_true (by omega), Bool.true_and] at no
                        walk_at "go"
                        obtain ⟨b, xs, bs', ebs⟩ : ∃ b xs bs', L.bs = (b, xs) :: bs' := by
                          cases h : L.bs with
                          | nil => rw [h] at hO11; cases hO11
                          | cons x y => exact ⟨x.1, x.2, y, rfl⟩
                        have hb11 := hL11.b
                        rw [ebs, List.reverse_cons, List.map_append] at hb11
                        have hxb11 := hL11.body (b := (b, xs)) (by rw [ebs]; simp)
                        have hxlen : xs.length = p.top.length := by
                          rw [ebs] at hO11
                          generalize L.tv = tv at hO11
                          cases hO11 with
                          | base hx => exact hx.length
                          | cons hx _ _ => exact hx.length
                        refine rd_ixL hb11 (atI_last _ _) ?_
                        walk_at "go"
                        refine rd_lenL hxb11 ?_
                        walk_at "go"
                        rw [hxlen]
                        have hfl : L.tv.length + 1 = S.frames.length := by rw [eS]; exact hlen.2
                        refine ifb (fun k7 => ?_) (fun k7 => ?_)
                        · have k7 := of_decide_eq_true k7
                          refine ift rfl ?_
                          walk_at "go"
                          exact bad _ hL11.same (no (by rw [decide_eq_false (fun z => by omega)]; rfl))
                        · have k7 := of_decide_eq_false k7
                          rw [decide_eq_true (by omega), Bool.true_and] at no
                          walk_at "go"
                          refine rd_lenL hL11.t ?_
                          walk_at "go"
                          rw [List.length_reverse]
                          refine ifb (fun k8 => ?_) (fun k8 => ?_)
                          · have k8 := of_decide_eq_true k8
                            walk_at "go"
                            exact bad _ hL11.same (no (decide_eq_false (fun z => by omega)))
                          · have k8 := of_decide_eq_false k8
                            have hst' : stepP S line = some ⟨if w0 = "do" then { p with top := p.top ++ [itemOf (w0 :: w1 :: wt)] } :: qs else ⟨headOf (w0 :: w1 :: wt), none, []⟩ :: p :: qs, S.sites ++ [w1], false⟩ := by
                              rw [hstep]
                              unfold stepHead
                              rw [if_pos (by rw [hwt, hro, decide_eq_true k5, decide_eq_true (by omega), decide_eq_true (by omega), decide_eq_true (by omega)]; rfl)]
                              rfl
                            have hps : ∀ x ∈ w0 :: w1 :: wt, x.length ≤ sizeLine := fun x hx => Nat.le_trans (hpart x hx) (by decide)
                            have hsl : ∀ k : Nat, (∀ x ∈ (w0 :: w1 :: wt).drop k, x.length ≤ sizeLine) := fun k x hx => hps x (List.mem_of_mem_drop hx)
                            walk_at "go"
                            refine ⟨.inl ⟨rfl, _, SqL.of hL11.s⟩, ?_⟩
                            walk_at "go"
                            refine rd_ixL hlw11 e1 ?_
                            walk_at "go"
                            refine ⟨L.sl, _, _, rfl, rfl, hL11.s, by rw [List.length_map, hsi]; unfold sizeLine; omega, ?_⟩
                            walk_at "go"
                            obtain ⟨hL12, st12⟩ := hL11.setS (K := K) (L.sites ++ [w1])
                            rw [show (L.sites ++ [w1]).map V.str = L.sites.map V.str ++ [V.str w1] by simp] at hL12 st12
                            have hO12 := hO11.mono st12
                            have hlw12 : upd H11 L.sl (.lst (L.sites.map V.str ++ [V.str w1])) lw = some (.lst ((w0 :: w1 :: wt).map V.str)) := by
                              rw [upd_ne nsw.symm]
                              exact hlw11
                            generalize upd H11 L.sl (.lst (L.sites.map V.str ++ [V.str w1])) = H12 at hL12 hO12 hlw12 ⊢
                            refine rd_ixL hlw12 e0 ?_
                            walk_at "go"
                            refine ifb (fun k9 => ?_) (fun k9 => ?_)
                            · have k9 := of_decide_eq_true k9
                              rw [if_pos k9] at hst'
                              have hlo3 : leastOf w0 = 3 := if_pos k9
                              obtain ⟨w2, wu, rfl⟩ : ∃ w2 wu, wt = w2 :: wu := by
                                cases wt with
                                | nil => have h1 : [w0, w1].length = 2 := rfl; omega
                                | cons a b => exact ⟨a, b, rfl⟩
                              have e2 : atI ((w0 :: w1 :: w2 :: wu).map V.str) 2 = some (.str w2) := atI_nat (j := 2) rfl
                              have hb12 := hL12.b
                              rw [show ({ L with sites := L.sites ++ [w1] } : LA).bs = (b, xs) :: bs' from ebs, List.reverse_cons, List.map_append] at hb12
                              have hxb12 := hL12.body (b := (b, xs)) (by rw [show ({ L with sites := L.sites ++ [w1] } : LA).bs = (b, xs) :: bs' from ebs]; simp)
                              walk_at "go"
                              refine rd_ixL hb12 (atI_last _ _) ?_
                              refine ⟨.inl ⟨rfl, _, SqL.of hxb12⟩, ?_⟩
                              walk_at "go"
                              refine rd_ixL hlw12 e1 ?_
                              walk_at "go"
                              refine rd_ixL hlw12 e2 ?_
                              walk_at "go"
                              refine rd_slL hlw12 (fun a5 ha5 => ?_)
                              rw [show cutV ((w0 :: w1 :: w2 :: wu).map V.str) (some 3) none = wu.map V.str from cutV_drop _ 3]
                              walk_at "go"
                              refine rd_tupL upd_same (fun a6 ha6 => ?_)
                              walk_at "go"
                              refine ⟨by show 4 ≤ sizeLine; decide, fun a7 ha7 => ?_⟩
                              have s7 := ((sameNew (o := .lst (wu.map V.str)) ha5).trans (sameNew (o := .tup (wu.map V.str)) ha6)).trans (sameNew (o := .tup [V.str "do", V.str w1, V.str w2, V.ref a6]) ha7)
                              have hit : Dt K (upd (upd (upd H12 a5 (.lst (wu.map V.str))) a6 (.tup (wu.map V.str))) a7 (.tup [V.str "do", V.str w1, V.str w2, V.ref a6])) (.ref a7) (itemOf (w0 :: w1 :: w2 :: wu)) :=
                                .tup (SqT.of upd_same) (.cons (.str _ (by decide)) (.cons (.str _ (hps w1 (by simp))) (.cons (.str _ (hps w2 (by simp))) (.cons ((Dt.tup (SqT.of upd_same) (DtAll.strs (hsl 3))).same (sameNew ha7)) .nil))))
                              have hL13 := hL12.step s7
                              have hO13 := hO12.mono (StT.same s7)
                              have hxb13 := s7 _ _ hxb12
                              generalize upd (upd (upd H12 a5 (.lst (wu.map V.str))) a6 (.tup (wu.map V.str))) a7 (.tup [V.str "do", V.str w1, V.str w2, V.ref a6]) = H13 at hL13 hO13 hxb13 hit ⊢
                              refine ⟨b, xs, .ref a7, rfl, rfl, hxb13, by unfold sizeLine; omega, ?_⟩
                              obtain ⟨hL14, st14⟩ := hL13.app (K := K) ebs (.ref a7)
                              walk_at "go"
                              refine nxt _ _ _ _ hst' hL14 ?_ (by rw [← hsi]) ⟨_, _, _, _, _, _, _, _, _, _, rfl⟩
                              have hO14 := hO13.mono st14
                              have hit14 := hit.mono st14
                              rw [ebs] at hO14
                              generalize hv14 : L.tv = tv14 at hO14
                              cases hO14 with
                              | base hx => exact .base (hx.append (.cons hit14 .nil))
                              | cons hx ht hr => exact .cons (hx.append (.cons hit14 .nil)) (by exact ht) hr
                            · have k9 := of_decide_eq_false k9
                              rw [if_neg k9] at hst'
                              walk_at "go"
                              refine ⟨.inl ⟨rfl, _, SqL.of hL12.t⟩, ?_⟩
                              walk_at "go"
                              refine rd_ixL hlw12 e0 ?_
                              walk_at "go"
                              refine rd_ixL hlw12 e1 ?_
                              walk_at "go"
                              refine rd_slL hlw12 (fun a5 ha5 => ?_)
                              rw [show cutV ((w0 :: w1 :: wt).map V.str) (some 2) none = wt.map V.str from cutV_drop _ 2]
                              walk_at "go"
                              refine rd_tupL upd_same (fun a6 ha6 => ?_)
                              walk_at "go"
                              refine ⟨by show 3 ≤ sizeLine; decide, fun a7 ha7 => ?_⟩
                              walk_at "go"
                              refine ⟨by show 2 ≤ sizeLine; decide, fun a8 ha8 => ?_⟩
                              have s7 := ((sameNew (o := .lst (wt.map V.str)) ha5).trans (sameNew (o := .tup (wt.map V.str)) ha6)).trans (sameNew (o := .tup [V.str w0, V.str w1, V.ref a6]) ha7)
                              have hit : Dt K (upd (upd (upd H12 a5 (.lst (wt.map V.str))) a6 (.tup (wt.map V.str))) a7 (.tup [V.str w0, V.str w1, V.ref a6])) (.ref a7) (headOf (w0 :: w1 :: wt)) :=
                                .tup (SqT.of upd_same) (.cons (.str _ (hps w0 (by simp))) (.cons (.str _ (hps w1 (by simp))) (.cons ((Dt.tup (SqT.of upd_same) (DtAll.strs (hsl 2))).same (sameNew ha7)) .nil)))
                              have s8 := sameNew (o := .tup [.ref a7, .non]) ha8
                              have hL13 := hL12.step (s7.trans s8)
                              have hO13 := hO12.mono (StT.same (s7.trans s8))
                              have hit := hit.same s8
                              have htd : Dt K (upd (upd (upd (upd H12 a5 (.lst (wt.map V.str))) a6 (.tup (wt.map V.str))) a7 (.tup [V.str w0, V.str w1, V.ref a6])) a8 (.tup [.ref a7, .non])) (.ref a8) (testD ⟨headOf (w0 :: w1 :: wt), none, []⟩) := .tup (SqT.of upd_same) (.cons hit (.cons .non .nil))
                              generalize upd (upd (upd (upd H12 a5 (.lst (wt.map V.str))) a6 (.tup (wt.map V.str))) a7 (.tup [V.str w0, V.str w1, V.ref a6])) a8 (.tup [.ref a7, .non]) = H13 at hL13 hO13 htd ⊢
                              refine ⟨L.tl, _, _, rfl, rfl, hL13.t, by rw [List.length_reverse]; show L.tv.length < sizeLine; unfold sizeLine; omega, ?_⟩
                              obtain ⟨hL14, st14⟩ := hL13.setT (K := K) (.ref a8 :: L.tv)
                              rw [List.reverse_cons] at hL14 st14
                              have hO14 := hO13.mono st14
                              have htd14 := htd.mono st14
                              walk_at "go"
                              generalize upd H13 L.tl (.lst (L.tv.reverse ++ [.ref a8])) = H14 at hL14 hO14 htd14 ⊢
                              refine ⟨.inl ⟨rfl, _, SqL.of hL14.b⟩, ?_⟩
                              walk_at "go"
                              refine ⟨by decide, fun nb hnb => ?_⟩
                              have sN := sameNew (o := .lst []) hnb
                              obtain ⟨hL15, st15⟩ := hL14.push (K := K) sN hnb upd_same
                              refine ⟨L.bl, _, _, rfl, rfl, sN _ _ hL14.b, by rw [List.length_map, List.length_reverse]; have := hO11.len.1; show L.bs.length < sizeLine; unfold sizeLine; omega, ?_⟩
                              walk_at "go"
                              exact nxt _ _ _ _ hst' hL15 (.cons .nil ((htd14.mono (StT.same sN)).mono st15) ((hO14.mono (StT.same sN)).mono st15)) (by rw [← hsi]) ⟨_, _, _, _, _, _, _, _, _, _, rfl⟩
            · have k3 := of_decide_eq_false k3
              walk_at "go"
              refine ift rfl ?_
              refine ift rfl ?_
              walk_at "go"
              refine bad _ hL8.same (no ?_)
              by_cases hkind : w0 = "do" ∨ w0 = "if" ∨ w0 = "while"
              · have hll : leastL w0 = leastOf w0 := by
                  unfold leastL leastOf
                  by_cases h : w0 = "do"
                  · rw [if_pos h, if_pos h]
                  · rw [if_neg h, if_neg h, if_pos (hkind.resolve_left h)]
                rw [hll] at k3
                rw [hwo, decide_eq_false (show ¬ (leastOf w0 ≤ (w0 :: wr).length ∧ (w0 :: wr).length ≤ leastOf w0 + 3) by omega), Bool.and_false, Bool.and_false, Bool.false_and]
              · rw [hwo, decide_eq_false hkind, Bool.false_and, Bool.false_and]
    · rw [hPv] at h
      obtain ⟨y4, y5, y6, y7, y8, y9, y10, y11, y12, y13, L, S, rfl, hL, hO, hsi, hst, hwf, hwi, htop, hs40, hf0, hfs⟩ := h
      rw [List.take_length] at hst
      have hl5 := hL.same _ _ hl
      walk_at "go"
      refine rd_lenL hl5 ?_
      walk_at "go"
      rw [List.length_map]
      refine ⟨by decide, fun pe hpe => ?_⟩
      have sE := sameNew (o := .lst []) hpe
      have hL8 := hL.step sE
      have hO8 := hO.mono (StT.same sE)
      have he8 := upd_same (H := H5) (a := pe) (o := .lst [])
      generalize upd H5 pe (.lst []) = H8 at he8 hL8 hO8 ⊢
      have ht8 := hL8.t
      refine rd_eqL0 ht8 he8 ?_
      walk_at "go"
      generalize hbs : L.bs = bs at hO8
      generalize htv : L.tv = tv at hO8 ⊢
      generalize hfr : S.frames = frs at hO8
      cases hO8 with
      | @base b xs p hx0 =>
        refine ift rfl ?_
        walk_at "go"
        have hb8 := hL8.b
        rw [hbs] at hb8
        have hxb := hL8.body (b := (b, xs)) (by rw [hbs]; simp)
        refine rd_ixL hb8 (atI_nat (j := 0) rfl) ?_
        walk_at "go"
        refine rd_tupL hxb (fun t9 ht9 => ?_)
        walk_at "go"
        refine ⟨by show 2 ≤ sizeLine; decide, fun t10 ht10 => ?_⟩
        walk_at "go"
        refine ⟨by show 2 ≤ sizeLine; decide, fun t11 ht11 => ?_⟩
        have s9 := sameNew (o := .tup (b, xs).2) ht9
        have s10 := sameNew (o := .tup [.str "program", .ref t9]) ht10
        have s11 := sameNew (o := .tup [.int (ls.length : Nat), .ref t10]) ht11
        refine q _ _ (hL8.same.trans ((s9.trans s10).trans s11)) ?_
        unfold readD
        rw [readP_all hst hfr]
        have d1 : Dt K (upd H8 t9 (.tup xs)) (.ref t9) (.tuple p.top) := .tup (SqT.of upd_same) (hx0.mono (StT.new ht9))
        have d2 : Dt K (upd (upd H8 t9 (.tup xs)) t10 (.tup [.str "program", .ref t9])) (.ref t10) (.tuple [.str "program", .tuple p.top]) := .tup (SqT.of upd_same) (.cons (.str _ (by decide)) (.cons (d1.same s10) .nil))
        exact .tup (SqT.of upd_same) (.cons (.int _) (.cons (d2.same s11) .nil))
      | @cons b xs p0 t bs' tv' ps hx0 ht0 hr0 =>
        rw [show (t :: tv').reverse.isEmpty = false by simp]
        refine ife rfl ?_
        walk_at "go"
        refine ⟨by show 2 ≤ sizeLine; decide, fun t11 ht11 => ?_⟩
        have s11 := sameNew (o := .tup [.int (ls.length : Nat), .non]) ht11
        refine q _ _ (hL8.same.trans s11) ?_
        unfold readD
        rw [readP_open hst (by rw [hfr]; have := hr0.len.2; simp only [List.length_cons]; omega)]
        exact .tup (SqT.of upd_same) (.cons (.int _) (.cons .non .nil))
end
end MH
end
section
set_option Elab.async false
set_option linter.all false
set_option maxRecDepth 100000
set_option maxHeartbeats 4000000
/-! engine: the draws -/
namespace MH
open PySem PySem.Spec PyProof.Rows L2
def rDGet : R2 := fun x y H Q => ∃ a v, x = .ref a ∧ DGet H a y (some v) ∧ Q v H
def rDPut (x y v : V) (H : Hp) (N : Hp → Prop) : Prop := ∃ a H4, x = .ref a ∧ DPut H a y v H4 ∧ N H4
theorem i_dputN {td ty tv : TE} {D : Ends} {σ : L2.St} {H : Hp} (h : tv σ H fun v H1 => td σ H1 fun x H2 => ty σ H2 fun y H3 => rDPut x y v H3 (fun H4 => D.nx σ H4)) : sDPut td ty tv D σ H := h
theorem i_dget {td ty : TE} {σ : L2.St} {H : Hp} {Q : VK} (h : td σ H fun x H1 => ty σ H1 fun y H2 => rDGet x y H2 Q) : tDGet td ty σ H Q := h
theorem i_rng1 {ta : TA} {σ : L2.St} {H : Hp} {R : It → Hp → Prop} (h : ta σ H fun vs H1 => ∃ j : Int, vs = [.int j] ∧ -(2 ^ 62) ≤ j ∧ j < 2 ^ 62 ∧ R (Itr 0 j.toNat) H1) : iRng1 ta σ H R := h
/-- where the draws stand -/
structure DA where
  d : Addr
  la : Addr
  cs : Addr
def drwK (la cs : Addr) (r t : Int) : List (Key × V) := [(.inr "large", .ref la), (.inr "cells", .ref cs), (.inr "rest", .int r), (.inr "turn", .int t)]
structure Drw (A : DA) (H : Hp) : Prop where
  dict : ∃ r t : Int, H A.d = some (.dK (drwK A.la A.cs r t))
  large : ∃ L : List Int, H A.la = some (.lst (L.map V.int))
  cells : ∃ C : List Int, H A.cs = some (.lst (C.map V.int))
  ne : A.la ≠ A.cs
/-- a list no draw turns -/
theorem Drw.away {A : DA} {H : Hp} (h : Drw A H) {a : Addr} {xs : List V} (e : H a = some (.lst xs)) : a ≠ A.d := fun z => by
  obtain ⟨r, t, q⟩ := h.dict
  rw [z, q] at e
  cases e
structure Dn (K : Fg) (A : DA) (H H' : Hp) : Prop where
  pre : Drw A H
  keep : ∀ a o, a ≠ A.d → a ≠ A.la → H a = some o → H' a = some o
  st : StT K H H'
  drw : Drw A H'
section
variable {K : Fg} {A : DA} {H H' H2 : Hp}
theorem Dn.refl (h : Drw A H) : Dn K A H H := ⟨h, fun _ _ _ _ q => q, StT.refl, h⟩
theorem Dn.trans (a : Dn K A H H') (b : Dn K A H' H2) : Dn K A H H2 := ⟨a.pre, fun x o h1 h2 q => b.keep x o h1 h2 (a.keep x o h1 h2 q), a.st.trans b.st, b.drw⟩
theorem Drw.same (h : Drw A H) (s : Same H H') : Drw A H' := by
  obtain ⟨r, t, q⟩ := h.dict
  obtain ⟨L, ql⟩ := h.large
  obtain ⟨C, qc⟩ := h.cells
  exact ⟨⟨r, t, s _ _ q⟩, ⟨L, s _ _ ql⟩, ⟨C, s _ _ qc⟩, h.ne⟩
theorem Dn.same (h : Drw A H) (s : Same H H') : Dn K A H H' := ⟨h, fun _ _ _ _ q => s _ _ q, StT.same s, h.same s⟩
theorem Dn.lst (h : Dn K A H H') {a : Addr} {xs : List V} (e : H a = some (.lst xs)) (n : a ≠ A.la) : H' a = some (.lst xs) := h.keep a _ (h.pre.away e) n e
/-- what is put to the dict -/
theorem Dn.setD (h : Drw A H) {r t : Int} (e : ∃ r0 t0 : Int, H A.d = some (.dK (drwK A.la A.cs r0 t0))) : Dn K A H (upd H A.d (.dK (drwK A.la A.cs r t))) := by
  obtain ⟨r0, t0, q⟩ := e
  obtain ⟨L, ql⟩ := h.large
  obtain ⟨C, qc⟩ := h.cells
  have n1 : A.la ≠ A.d := h.away ql
  have n2 : A.cs ≠ A.d := h.away qc
  refine ⟨h, fun a o h1 h2 qa => by rw [upd_ne h1]; exact qa, StT.put (by rw [q]; trivial) (fun xs qx => by rw [q] at qx; cases qx), ⟨⟨r, t, upd_same⟩, ⟨L, by rw [upd_ne n1]; exact ql⟩, ⟨C, by rw [upd_ne n2]; exact qc⟩, h.ne⟩⟩
theorem Dn.setL (h : Drw A H) (L' : List Int) : Dn K A H (upd H A.la (.lst (L'.map V.int))) := by
  obtain ⟨r, t, q⟩ := h.dict
  obtain ⟨L, ql⟩ := h.large
  obtain ⟨C, qc⟩ := h.cells
  have n1 : A.d ≠ A.la := (h.away ql).symm
  refine ⟨h, fun a o h1 h2 qa => by rw [upd_ne h2]; exact qa, StT.lst ql, ⟨⟨r, t, by rw [upd_ne n1]; exact q⟩, ⟨L', upd_same⟩, ⟨C, by rw [upd_ne h.ne.symm]; exact qc⟩, h.ne⟩⟩
theorem put_rest (la cs : Addr) (r t r' : Int) : putK (drwK la cs r t) (.inr "rest") (.int r') = drwK la cs r' t := by rfl
theorem put_turn (la cs : Addr) (r t t' : Int) : putK (drwK la cs r t) (.inr "turn") (.int t') = drwK la cs r t' := by rfl
theorem get_rest (la cs : Addr) (r t : Int) : valV (drwK la cs r t) (.inr "rest") = some (.int r) := by rfl
theorem get_turn (la cs : Addr) (r t : Int) : valV (drwK la cs r t) (.inr "turn") = some (.int t) := by rfl
theorem get_large (la cs : Addr) (r t : Int) : valV (drwK la cs r t) (.inr "large") = some (.ref la) := by rfl
theorem get_cells (la cs : Addr) (r t : Int) : valV (drwK la cs r t) (.inr "cells") = some (.ref cs) := by rfl
theorem rd_rest {r t : Int} {Q : VK} (h : H A.d = some (.dK (drwK A.la A.cs r t))) (q : Q (.int r) H) : rDGet (.ref A.d) (.str "rest") H Q := ⟨A.d, _, rfl, by have := DGet.k (k := .inr "rest") h; rw [get_rest] at this; exact this, q⟩
theorem rd_turn {r t : Int} {Q : VK} (h : H A.d = some (.dK (drwK A.la A.cs r t))) (q : Q (.int t) H) : rDGet (.ref A.d) (.str "turn") H Q := ⟨A.d, _, rfl, by have := DGet.k (k := .inr "turn") h; rw [get_turn] at this; exact this, q⟩
theorem rd_large {r t : Int} {Q : VK} (h : H A.d = some (.dK (drwK A.la A.cs r t))) (q : Q (.ref A.la) H) : rDGet (.ref A.d) (.str "large") H Q := ⟨A.d, _, rfl, by have := DGet.k (k := .inr "large") h; rw [get_large] at this; exact this, q⟩
theorem rd_cells {r t : Int} {Q : VK} (h : H A.d = some (.dK (drwK A.la A.cs r t))) (q : Q (.ref A.cs) H) : rDGet (.ref A.d) (.str "cells") H Q := ⟨A.d, _, rfl, by have := DGet.k (k := .inr "cells") h; rw [get_cells] at this; exact this, q⟩
theorem rd_putRest {r t r' : Int} {N : Hp → Prop} (h : H A.d = some (.dK (drwK A.la A.cs r t))) (q : N (upd H A.d (.dK (drwK A.la A.cs r' t)))) : rDPut (.ref A.d) (.str "rest") (.int r') H N := ⟨A.d, _, rfl, by have := DPut.k (k := .inr "rest") (v := .int r') h (show 4 < sizeLine by decide); rw [put_rest] at this; exact this, q⟩
theorem rd_putTurn {r t t' : Int} {N : Hp → Prop} (h : H A.d = some (.dK (drwK A.la A.cs r t))) (q : N (upd H A.d (.dK (drwK A.la A.cs r t')))) : rDPut (.ref A.d) (.str "turn") (.int t') H N := ⟨A.d, _, rfl, by have := DPut.k (k := .inr "turn") (v := .int t') h (show 4 < sizeLine by decide); rw [put_turn] at this; exact this, q⟩
end
/-- a list made since -/
theorem Dn.put {K : Fg} {A : DA} {H H1 : Hp} (s : Dn K A H H1) {a : Addr} {xs ys : List V} (ha : H a = none) (h1 : H1 a = some (.lst xs)) : Dn K A H (upd H1 a (.lst ys)) := by
  obtain ⟨r, t, qd⟩ := s.drw.dict
  obtain ⟨L, ql⟩ := s.drw.large
  obtain ⟨C, qc⟩ := s.drw.cells
  have n1 : A.d ≠ a := fun z => by
    obtain ⟨r0, t0, q⟩ := s.pre.dict
    rw [z, ha] at q
    cases q
  have n2 : A.la ≠ a := fun z => by
    obtain ⟨L0, q⟩ := s.pre.large
    rw [z, ha] at q
    cases q
  have n3 : A.cs ≠ a := fun z => by
    obtain ⟨C0, q⟩ := s.pre.cells
    rw [z, ha] at q
    cases q
  exact ⟨s.pre, fun b o h1 h2 q => by rw [upd_ne (fun z => by subst z; rw [ha] at q; cases q)]; exact s.keep b o h1 h2 q, s.st.trans (StT.lst h1), ⟨⟨r, t, by rw [upd_ne n1]; exact qd⟩, ⟨L, by rw [upd_ne n2]; exact ql⟩, ⟨C, by rw [upd_ne n3]; exact qc⟩, s.drw.ne⟩⟩
theorem Dn.none {K : Fg} {A : DA} {H H' : Hp} (s : Dn K A H H') {a : Addr} (h : H' a = none) : H a = none := by
  cases e : H a with
  | none => rfl
  | some o =>
    exfalso
    by_cases h1 : a = A.d
    · obtain ⟨r, t, q⟩ := s.drw.dict
      rw [← h1, h] at q
      cases q
    · by_cases h2 : a = A.la
      · obtain ⟨L, q⟩ := s.drw.large
        rw [← h2, h] at q
        cases q
      · have := s.keep a o h1 h2 e
        rw [h] at this
        cases this
theorem rd_setN {H : Hp} {p : Addr} {xs : List V} {k : Nat} {v : V} {N : Hp → Prop} (h : H p = some (.lst xs)) (hk : k < xs.length) (q : N (upd H p (.lst (xs.set k v)))) : rSetL (.ref p) (.int (k : Nat)) v H N := by
  refine ⟨p, _, k, k, rfl, rfl, h, ?_, q⟩
  unfold ixN
  simp
  omega
theorem Drw.fresh {A : DA} {H : Hp} (h : Drw A H) {a : Addr} (ha : H a = none) : a ≠ A.la := fun z => by
  obtain ⟨L0, q⟩ := h.large
  rw [← z, ha] at q
  cases q
theorem seqIndex_nat {k n : Nat} (h : k < n) : seqIndex? (k : Int) n = some k := by
  unfold seqIndex?
  have h0 : ¬ ((k : Int) < 0) := by omega
  simp [h0, h]
theorem rd_popAt {l : Addr} {xs : List V} {k : Nat} {y : V} {H : Hp} {Q : VK} (h : H l = some (.lst xs)) (hn : xs.length < 1000000) (e : xs[k]? = some y) (q : Q y (upd H l (.lst (xs.eraseIdx k)))) : rPopAt (.ref l) [.int (k : Nat)] H Q := by
  have hk : k < xs.length := by
    rcases Nat.lt_or_ge k xs.length with h | h
    · exact h
    · rw [List.getElem?_eq_none h] at e; cases e
  exact ⟨l, xs, _, k, y, rfl, rfl, h, by omega, by omega, seqIndex_nat hk, e, q⟩
theorem eraseIdx_mapL {α β : Type} (f : α → β) : ∀ (xs : List α) (k : Nat), (xs.map f).eraseIdx k = (xs.eraseIdx k).map f
  | [], _ => rfl
  | _ :: _, 0 => rfl
  | _ :: xs, k + 1 => congrArg (_ :: ·) (eraseIdx_mapL f xs k)
theorem erase_perm {α : Type} : ∀ (xs : List α) (k : Nat) (h : k < xs.length), ([xs[k]] ++ xs.eraseIdx k).Perm xs
  | _ :: _, 0, _ => List.Perm.refl _
  | x :: xs, k + 1, h => (List.Perm.swap x _ _).trans ((erase_perm xs k (Nat.lt_of_succ_lt_succ h)).cons x)
/-- a loop over a list held in the heap -/
theorem forb_lst {K : Fg} {a : Addr} {xs : List V} {g : TG} {tb : TS} {D : Ends} {σ : L2.St} {H1 : Hp} (Pv : Nat → L2.St → Hp → Prop) (h0 : Pv 0 σ H1) (hl : ∀ i σ H, i ≤ xs.length → Pv i σ H → H a = some (.lst xs))
    (hb : ∀ i x σ H, xs[i]? = some x → Pv i σ H → g x σ H fun σ2 H2 => tb { D with nx := Pv (i + 1), ct := Pv (i + 1), bk := D.nx } σ2 H2)
    (hq : ∀ σ H, Pv xs.length σ H → D.nx σ H) : ForB (Itl K a) H1 g tb D σ := by
  refine ⟨fun i m σ H => i + m = xs.length ∧ Pv i σ H, ⟨xs.length, by omega, h0⟩, fun i m σ H hW => ?_⟩
  obtain ⟨e, p⟩ := hW
  have S := still_lst (K := K) (SqL.of (hl i σ H (by omega) p))
  cases m with
  | zero =>
    have ei : i = xs.length := by omega
    subst ei
    exact .inl ⟨S.stop, hq σ H p⟩
  | succ m =>
    have hi : i < xs.length := by omega
    refine .inr ⟨S.go i hi, Pv (i + 1), fun σ' H' h => ⟨m, by omega, by omega, h⟩, fun x H' hy => ?_⟩
    obtain ⟨e1, e2⟩ := S.yld i x H' hi hy
    subst e1
    have e3 : x = xs[i] := by
      rw [e2]
      show xs.getD i .non = xs[i]
      rw [List.getD_eq_getElem?_getD, List.getElem?_eq_getElem hi]
      rfl
    exact hb i x σ H' (by rw [List.getElem?_eq_getElem hi, e3]) p
/-- a loop over a range -/
theorem forb_rng {n : Nat} {g : TG} {tb : TS} {D : Ends} {σ : L2.St} {H1 : Hp} (Pv : Nat → L2.St → Hp → Prop) (h0 : Pv 0 σ H1)
    (hb : ∀ i σ H, i < n → Pv i σ H → g (.int (i : Nat)) σ H fun σ2 H2 => tb { D with nx := Pv (i + 1), ct := Pv (i + 1), bk := D.nx } σ2 H2)
    (hq : ∀ σ H, Pv n σ H → D.nx σ H) : ForB (Itr 0 n) H1 g tb D σ := by
  refine ⟨fun i m σ H => i + m = n ∧ Pv i σ H, ⟨n, by omega, h0⟩, fun i m σ H hW => ?_⟩
  obtain ⟨e, p⟩ := hW
  have S := still_rng (H := H) 0 n
  cases m with
  | zero =>
    have ei : i = n := by omega
    subst ei
    exact .inl ⟨S.stop, hq σ H p⟩
  | succ m =>
    have hi : i < n := by omega
    refine .inr ⟨S.go i hi, Pv (i + 1), fun σ' H' h => ⟨m, by omega, by omega, h⟩, fun x H' hy => ?_⟩
    obtain ⟨e1, e2⟩ := S.yld i x H' hi hy
    subst e1
    rw [e2, Int.zero_add]
    exact hb i σ H' hi p
/-- [drawn for _ in range(n)] -/
theorem lcb_drw {K : Fg} {A : DA} {n : Nat} {H1 : Hp} {Y : V → Prop} {σ : L2.St} {vs : List Nat} {j : Nat} {te : TE} {Q : VK} (hd : Drw A H1) (hn : n ≤ sizeLine)
    (hw : ∀ x : V, wipe ((wipe σ vs).set j (some x)) vs = wipe σ vs)
    (he : ∀ (x : V) H3 (R : VK), Dn K A H1 H3 → (∀ y H4, Y y → Dn K A H3 H4 → R y H4) → te ((wipe σ vs).set j (some x)) H3 R)
    (hq : ∀ D H' ys, H1 D = none → Dn K A H1 H' → ys.length = n → (∀ y ∈ ys, Y y) → H' D = some (.lst ys) → Q (.ref D) H') : LcB (Itr 0 n) H1 (gName j) tYes te vs σ Q := by
  intro D hD
  have n1 : D ≠ A.d := fun z => by
    obtain ⟨r, t, q⟩ := hd.dict
    rw [← z, hD] at q
    cases q
  have n2 : D ≠ A.la := fun z => by
    obtain ⟨L, q⟩ := hd.large
    rw [← z, hD] at q
    cases q
  refine ⟨fun i m H => i + m = n ∧ Dn K A H1 H ∧ ∃ ys, ys.length = i ∧ (∀ y ∈ ys, Y y) ∧ H D = some (.lst ys), ⟨n, by omega, Dn.same hd (sameNew hD), [], rfl, (fun y h => by cases h), upd_same⟩, fun i m H hW => ?_⟩
  obtain ⟨e, s, ys, l1, l2, l3⟩ := hW
  have S := still_rng (H := H) 0 n
  cases m with
  | zero =>
    have ei : i = n := by omega
    exact .inl ⟨ei ▸ S.stop, hq D H ys hD s (by omega) l2 l3⟩
  | succ m =>
    have hi : i < n := by omega
    refine .inr ⟨S.go i hi, fun H' => Dn K A H1 H' ∧ ∃ ys, ys.length = i + 1 ∧ (∀ y ∈ ys, Y y) ∧ H' D = some (.lst ys), fun H' h => ⟨m, by omega, by omega, h⟩, fun x H' hy => ?_⟩
    obtain ⟨e1, e2⟩ := S.yld i x H' hi hy
    subst e1
    refine ⟨hw _, ?_⟩
    refine i_yes ?_
    refine iteT ?_
    refine he x H' _ s fun y H4 hY s4 => ?_
    have l4 := s4.lst l3 n2
    refine ⟨_, l4, by omega, ?_, ys ++ [y], by rw [List.length_append, l1]; rfl, fun z hz => ?_, upd_same⟩
    · have s5 := s.trans s4
      obtain ⟨r, t, qd⟩ := s5.drw.dict
      obtain ⟨L, ql⟩ := s5.drw.large
      obtain ⟨C, qc⟩ := s5.drw.cells
      have n3 : A.cs ≠ D := fun z => by
        obtain ⟨C0, q⟩ := hd.cells
        rw [z, hD] at q
        cases q
      exact ⟨hd, fun a o h1 h2 q => by rw [upd_ne (fun z => by subst z; rw [hD] at q; cases q)]; exact s5.keep a o h1 h2 q, s5.st.trans (StT.lst l4), ⟨⟨r, t, by rw [upd_ne n1.symm]; exact qd⟩, ⟨L, by rw [upd_ne n2.symm]; exact ql⟩, ⟨C, by rw [upd_ne n3]; exact qc⟩, hd.ne⟩⟩
    · rcases List.mem_append.mp hz with hz | hz
      · exact l2 z hz
      · rw [List.mem_singleton.mp hz]; exact hY
end MH
end
section
set_option Elab.async false
set_option linter.all false
set_option maxRecDepth 100000
set_option maxHeartbeats 8000000
set_option pp.maxSteps 1500
namespace MH
open PySem PySem.Spec PyProof.Rows L2
local macro_rules | `(tactic| walk_at "go") => `(tactic| repeat (first
  | with_reducible refine i_seq ?_ | with_reducible refine i_ifS ?_ | with_reducible refine i_ret ?_ | with_reducible refine i_drop ?_ | with_reducible refine i_asg ?_ | with_reducible refine i_name ?_
  | with_reducible refine i_next ?_ | with_reducible refine i_var (by with_unfolding_all exact rfl) ?_ | with_reducible refine i_c ?_ | with_reducible refine i_cons ?_ | with_reducible refine i_nil ?_ | with_reducible refine i_cb ?_
  | with_reducible refine i_op ?_ | with_reducible refine i_un ?_ | with_reducible refine i_call ?_ | with_reducible refine i_test ?_ | with_reducible refine i_b ?_ | with_reducible refine i_bl ?_ | with_reducible refine i_and ?_ | with_reducible refine i_or ?_
  | with_reducible refine i_not ?_ | with_reducible refine i_andV ?_ | with_reducible refine i_orV ?_ | with_reducible refine i_notV ?_ | with_reducible refine i_if ?_ | with_reducible refine i_chain ?_ | with_reducible refine i_tup ?_ | with_reducible refine i_lst ?_
  | with_reducible refine i_sl ?_ | with_reducible refine i_part ?_ | with_reducible refine i_nopart ?_ | with_reducible refine i_int ?_ | with_reducible refine i_bm ?_ | with_reducible refine i_bm0 ?_ | with_reducible refine i_I0 ?_ | with_reducible refine i_lc ?_ | with_reducible refine i_disp ?_ | with_reducible refine i_pairsC ?_ | with_reducible refine i_pairsN ?_ | with_reducible refine i_dget2 ?_ | with_reducible refine i_gsub ?_ | with_reducible refine i_raiseB ?_ | with_reducible refine i_make ?_ | with_reducible refine i_gcons ?_ | with_reducible refine i_gnil ?_ | with_reducible refine i_enum ?_ | with_reducible refine i_isN ?_ | with_reducible refine i_notN ?_ | with_reducible refine i_fld ?_ | with_reducible refine i_sfld ?_ | with_reducible refine i_meth ?_ | with_reducible refine i_rU ?_ | with_reducible refine i_dputN ?_ | with_reducible refine i_dput ?_ | with_reducible refine i_dget ?_ | with_reducible refine i_rng1 ?_ | with_reducible refine i_dinP ?_ | with_reducible refine i_raiseA ?_ | with_reducible refine i_lenSetS ?_ | with_reducible refine i_for ?_ | with_reducible refine i_yes ?_ | with_reducible refine i_eqS ?_ | with_reducible refine i_neS ?_ | with_reducible refine i_eqI ?_ | with_reducible refine i_neI ?_
  | with_reducible refine i_retN ?_ | with_reducible refine i_brk ?_ | with_reducible refine i_cont ?_ | with_reducible refine i_par ?_ | with_reducible refine i_par3 ?_ | with_reducible refine i_two ?_ | with_reducible refine i_three ?_
  | with_reducible refine i_itup ?_ | with_reducible refine i_ilist ?_ | with_reducible refine i_istr ?_ | with_reducible refine i_str ?_ | with_reducible refine i_m1 ?_ | with_reducible refine i_anystr ?_
  | with_reducible refine iteT ?_ | with_reducible refine iteF ?_))
section
variable {P : Program} {w : World} {K : Fg} {mg : Str → Option Value} {base : Heap}
def spMixed : Sp := fun vs H Q _ => ∃ A : DA, vs = [.ref A.d] ∧ Drw A H ∧ ∀ (i : Int) H', Dn K A H H' → Q (.int i) H'
theorem k__law_mixed (T : Tx K mg) : Keeps P w K mg base CX0 1 "_law_mixed" ["draw"] (spMixed (K := K)) := T.kp__law_mixed fun fd F => by
  refine F.ok sc__law_mixed (fun vs H Q E h => ?_) (fun cdv A outer s H vs Q E hr h => ?_)
  · obtain ⟨l, rfl, _⟩ := h
    rfl
  · obtain ⟨D, rfl, hd, q⟩ := h
    refine ⟨_, PSs.nox (pss_cons (ps_par (i := 1) (j := 2) (by rfl) sc__law_mixed.nd rfl rfl (by decide) rfl rfl (pa_cons (pe_op op_add (pe_dget (hu_of hr) (pv 0) pe_str (fun _ _ => rfl)) pe_int) (pa_cons pe_int pa_nil)) (by rfl))
      (pss_cons (ps_dput (hu_of hr) (pv 0) pe_str (pv 1) rfl)
      (pss_cons (ps_for PassesOwn.never rfl (pi_list (pe_lst (pa_cons pe_int (pa_cons pe_int (pa_cons pe_int (pa_cons pe_int pa_nil)))))) (pg_name (i := 3) sc__law_mixed.nd rfl (by first | exact Or.inl rfl | exact Or.inr rfl)) (pss_cons (ps_set (i := 4) sc__law_mixed.nd rfl (by first | exact Or.inl rfl | exact Or.inr rfl) (pe_op op_add (pe_op op_mul pe_int (pv 1)) (pe_op op_fdiv (pv 3) pe_int)))
      (pss_cons (ps_for PassesOwn.never rfl (pi_list (pe_dget (hu_of hr) (pv 0) pe_str (fun _ _ => rfl))) (pg_name (i := 5) sc__law_mixed.nd rfl (by first | exact Or.inl rfl | exact Or.inr rfl)) (pss_one (ps_set (i := 4) sc__law_mixed.nd rfl (by first | exact Or.inl rfl | exact Or.inr rfl) (pe_op op_mod (pe_callTy (T := "int") call_int1 (by rfl) T.b_int (by decide +kernel) (pa_cons (pe_op op_add (pe_op op_add (pe_op op_mul (pv 4) pe_int) (pv 5)) (pv 1)) pa_nil)) (pv 3)))))
      (pss_one (ps_set (i := 2) sc__law_mixed.nd rfl (by first | exact Or.inl rfl | exact Or.inr rfl) (pe_op op_add (pe_op op_mul (pv 2) pe_int) (pv 4)))))))
      (pss_one (ps_ret (pv 2)))))), ?_⟩
    obtain ⟨r, t, hdd⟩ := hd.dict
    walk_at "go"
    refine rd_turn hdd ?_
    walk_at "go"
    refine rd_putTurn hdd ?_
    have s1 : Dn K D H (upd H D.d (.dK (drwK D.la D.cs r (t + 1)))) := Dn.setD hd ⟨_, _, hdd⟩
    generalize upd H D.d (.dK (drwK D.la D.cs r (t + 1))) = H1 at s1 ⊢
    walk_at "go"
    refine ⟨by show 4 ≤ sizeLine; decide, fun pl hpl => ?_⟩
    have s2 := s1.trans (Dn.same s1.drw (sameNew (o := .lst [.int 2147483647, .int 2147483629, .int 2147483587, .int 2147483579]) hpl))
    have hp2 := upd_same (H := H1) (a := pl) (o := .lst [.int 2147483647, .int 2147483629, .int 2147483587, .int 2147483579])
    generalize upd H1 pl (.lst [.int 2147483647, .int 2147483629, .int 2147483587, .int 2147483579]) = H2 at s2 hp2 ⊢
    refine ⟨pl, rfl, ⟨_, SqL.of hp2⟩, ?_⟩
    refine forb_lst (fun i σ H3 => ∃ f : Int, ∃ y3 y4 y5, σ = [some (.ref D.d), some (.int (t + 1)), some (.int f), y3, y4, y5] ∧ H2 = H3) ⟨_, _, _, _, rfl, rfl⟩ (fun i σ H _ h => by obtain ⟨f, y3, y4, y5, rfl, rfl⟩ := h; exact hp2) (fun i x σ H3 ex h => ?_) (fun σ H3 h => ?_)
    · obtain ⟨f, y3, y4, y5, rfl, rfl⟩ := h
      obtain ⟨p, rfl, hp⟩ : ∃ p : Int, x = .int p ∧ 0 < p := by
        match i, ex with
        | 0, ex => cases ex; exact ⟨_, rfl, by decide⟩
        | 1, ex => cases ex; exact ⟨_, rfl, by decide⟩
        | 2, ex => cases ex; exact ⟨_, rfl, by decide⟩
        | 3, ex => cases ex; exact ⟨_, rfl, by decide⟩
        | n + 4, ex => cases ex
      walk_at "go"
      refine ⟨_, _, rfl, rfl, .inl ⟨by decide, by decide⟩, ?_⟩
      walk_at "go"
      refine ⟨_, _, rfl, rfl, ⟨by decide, by decide⟩, ?_⟩
      walk_at "go"
      obtain ⟨r3, t3, hd3⟩ := s2.drw.dict
      obtain ⟨C, hc3⟩ := s2.drw.cells
      refine rd_cells hd3 ?_
      refine ⟨D.cs, rfl, ⟨_, SqL.of hc3⟩, ?_⟩
      refine forb_lst (fun i σ H3 => ∃ b : Int, ∃ y5, σ = [some (.ref D.d), some (.int (t + 1)), some (.int f), some (.int p), some (.int b), y5] ∧ H2 = H3) ⟨_, _, rfl, rfl⟩ (fun i σ H _ h => by obtain ⟨f, y5, rfl, rfl⟩ := h; exact hc3) (fun i x σ H3 ex h => ?_) (fun σ H3 h => ?_)
      · obtain ⟨b, y5, rfl, rfl⟩ := h
        obtain ⟨c, rfl⟩ : ∃ c : Int, x = .int c := by
          rw [List.getElem?_map] at ex
          cases hC : C[i]? with
          | none => rw [hC] at ex; cases ex
          | some c => rw [hC] at ex; cases ex; exact ⟨c, rfl⟩
        walk_at "go"
        refine ⟨_, _, rfl, rfl, .inr ⟨by decide, by decide⟩, ?_⟩
        walk_at "go"
        refine .inl ⟨_, rfl, ?_⟩
        walk_at "go"
        refine ⟨_, _, rfl, rfl, hp, ?_⟩
        walk_at "go"
        exact ⟨_, _, rfl, rfl⟩
      · obtain ⟨b, y5, rfl, rfl⟩ := h
        walk_at "go"
        refine ⟨_, _, rfl, rfl, .inr ⟨by decide, by decide⟩, ?_⟩
        walk_at "go"
        exact ⟨_, _, _, _, rfl, rfl⟩
    · obtain ⟨f, y3, y4, y5, rfl, rfl⟩ := h
      walk_at "go"
      exact q _ _ s2
def spTake : Sp := fun vs H Q _ => ∃ (A : DA) (m : Nat), vs = [.ref A.d, .int (m : Nat)] ∧ 0 < m ∧ m < 1000000 ∧ Drw A H ∧ ∀ (k : Nat) H', k < m → Dn K A H H' → Q (.int (k : Nat)) H'
theorem k__law_take (T : Tx K mg) : Keeps P w K mg base CX0 2 "_law_take" ["draw", "many"] (spTake (K := K)) := T.kp__law_take fun fd F => by
  refine F.ok sc__law_take (fun vs H Q E h => ?_) (fun cdv A outer s H vs Q E hr h => ?_)
  · obtain ⟨l, m, rfl, _⟩ := h
    rfl
  · obtain ⟨D, m, rfl, hm, hm2, hd, q⟩ := h
    refine ⟨_, PSs.nox (pss_cons (ps_if (pt_cmpR op_eq (pe_dget (hu_of hr) (pv 0) pe_str (fun _ _ => rfl)) pe_int (nomark _)) (pss_one (ps_dput (hu_of hr) (pv 0) pe_str (pe_ifExp (pt_cmpR (op_neL0 hr.units) (pe_dget (hu_of hr) (pv 0) pe_str (fun _ _ => rfl)) (pe_lst pa_nil) (nomark _)) (pe_bm PySem.F.plainAttrs_list PySem.F.slot_list_pop PySem.F.type_list_pop mt_popAt (pe_dget (hu_of hr) (pv 0) pe_str (fun _ _ => rfl)) (pa_cons pe_int pa_nil)) (pe_k (k__law_mixed T) (hr.mono (by omega)) pass0 (pa_cons (pv 0) pa_nil))) rfl)) pss_nil)
      (pss_cons (ps_set (i := 2) sc__law_take.nd rfl (by first | exact Or.inl rfl | exact Or.inr rfl) (pe_op op_mod (pe_callTy (T := "int") call_int1 (by rfl) T.b_int (by decide +kernel) (pa_cons (pe_dget (hu_of hr) (pv 0) pe_str (fun _ _ => rfl)) pa_nil)) (pv 1)))
      (pss_cons (ps_dput (hu_of hr) (pv 0) pe_str (pe_op op_fdiv (pe_callTy (T := "int") call_int1 (by rfl) T.b_int (by decide +kernel) (pa_cons (pe_dget (hu_of hr) (pv 0) pe_str (fun _ _ => rfl)) pa_nil)) (pv 1)) rfl)
      (pss_one (ps_ret (pv 2)))))), ?_⟩
    obtain ⟨r, t, hdd⟩ := hd.dict
    with_reducible refine seq_at (fun σ' H' => σ' = [some (.ref D.d), some (.int (m : Nat)), none] ∧ Dn K D H H') (fun N hN => ?_) (fun σ' H' hc => ?_)
    · walk_at "go"
      refine rd_rest hdd ?_
      walk_at "go"
      refine ifb (fun k1 => ?_) (fun k1 => ?_)
      · walk_at "go"
        refine rd_large hdd ?_
        walk_at "go"
        refine ⟨by decide, fun pe hpe => ?_⟩
        have sE := sameNew (o := .lst []) hpe
        have s1 : Dn K D H (upd H pe (.lst [])) := Dn.same hd sE
        have he := upd_same (H := H) (a := pe) (o := .lst [])
        generalize upd H pe (.lst []) = H1 at s1 he ⊢
        obtain ⟨L, hL⟩ := s1.drw.large
        obtain ⟨r1, t1, hd1⟩ := s1.drw.dict
        refine rd_neL0 hL he ?_
        walk_at "go"
        cases L with
        | nil =>
          refine ife rfl ?_
          walk_at "go"
          refine ⟨D, rfl, s1.drw, fun i H2 s2 => ?_⟩
          obtain ⟨r2, t2, hd2⟩ := s2.drw.dict
          walk_at "go"
          refine rd_putRest hd2 ?_
          exact hN _ _ ⟨rfl, (s1.trans s2).trans (Dn.setD s2.drw ⟨_, _, hd2⟩)⟩
        | cons g L =>
          refine ift rfl ?_
          walk_at "go"
          refine rd_large hd1 ?_
          refine ⟨.inl ⟨rfl, _, SqL.of hL⟩, ?_⟩
          walk_at "go"
          refine ⟨_, _, 0, 0, _, rfl, rfl, hL, by decide, by decide, ?_, rfl, ?_⟩
          · unfold seqIndex?
            simp
          have s2 := s1.trans (Dn.setL s1.drw L)
          obtain ⟨r2, t2, hd2⟩ := s2.drw.dict
          walk_at "go"
          refine rd_putRest hd2 ?_
          exact hN _ _ ⟨rfl, s2.trans (Dn.setD s2.drw ⟨_, _, hd2⟩)⟩
      · walk_at "go"
        exact hN _ _ ⟨rfl, Dn.refl hd⟩
    · obtain ⟨rfl, s1⟩ := hc
      obtain ⟨r1, t1, hd1⟩ := s1.drw.dict
      walk_at "go"
      refine rd_rest hd1 ?_
      walk_at "go"
      refine .inl ⟨_, rfl, ?_⟩
      walk_at "go"
      have hm0 : (0 : Int) < (m : Nat) := by omega
      refine ⟨_, _, rfl, rfl, hm0, ?_⟩
      walk_at "go"
      refine rd_rest hd1 ?_
      walk_at "go"
      refine .inl ⟨_, rfl, ?_⟩
      walk_at "go"
      refine ⟨_, _, rfl, rfl, ⟨hm0, by omega⟩, ?_⟩
      walk_at "go"
      refine rd_putRest hd1 ?_
      walk_at "go"
      have h1 := Int.emod_nonneg r1 (Int.ne_of_gt hm0)
      have h2 := Int.emod_lt_of_pos r1 hm0
      have := q (r1 % (m : Nat)).toNat _ (by omega) (s1.trans (Dn.setD (r := r1 / (m : Nat)) (t := t1) s1.drw ⟨_, _, hd1⟩))
      rw [Int.toNat_of_nonneg h1] at this
      exact this
end
end MH
end
section
set_option Elab.async false
set_option linter.all false
set_option maxRecDepth 100000
set_option maxHeartbeats 8000000
set_option pp.maxSteps 1500
namespace MH
open PySem PySem.Spec PyProof.Rows L2
local macro_rules | `(tactic| walk_at "go") => `(tactic| repeat (first
  | with_reducible refine i_seq ?_ | with_reducible refine i_ifS ?_ | with_reducible refine i_ret ?_ | with_reducible refine i_drop ?_ | with_reducible refine i_asg ?_ | with_reducible refine i_name ?_
  | with_reducible refine i_next ?_ | with_reducible refine i_var (by with_unfolding_all exact rfl) ?_ | with_reducible refine i_c ?_ | with_reducible refine i_cons ?_ | with_reducible refine i_nil ?_ | with_reducible refine i_cb ?_
  | with_reducible refine i_op ?_ | with_reducible refine i_un ?_ | with_reducible refine i_call ?_ | with_reducible refine i_test ?_ | with_reducible refine i_b ?_ | with_reducible refine i_bl ?_ | with_reducible refine i_and ?_ | with_reducible refine i_or ?_
  | with_reducible refine i_not ?_ | with_reducible refine i_andV ?_ | with_reducible refine i_orV ?_ | with_reducible refine i_notV ?_ | with_reducible refine i_if ?_ | with_reducible refine i_chain ?_ | with_reducible refine i_tup ?_ | with_reducible refine i_lst ?_
  | with_reducible refine i_sl ?_ | with_reducible refine i_part ?_ | with_reducible refine i_nopart ?_ | with_reducible refine i_int ?_ | with_reducible refine i_bm ?_ | with_reducible refine i_bm0 ?_ | with_reducible refine i_I0 ?_ | with_reducible refine i_lc ?_ | with_reducible refine i_disp ?_ | with_reducible refine i_pairsC ?_ | with_reducible refine i_pairsN ?_ | with_reducible refine i_dget2 ?_ | with_reducible refine i_gsub ?_ | with_reducible refine i_raiseB ?_ | with_reducible refine i_make ?_ | with_reducible refine i_gcons ?_ | with_reducible refine i_gnil ?_ | with_reducible refine i_enum ?_ | with_reducible refine i_isN ?_ | with_reducible refine i_notN ?_ | with_reducible refine i_fld ?_ | with_reducible refine i_sfld ?_ | with_reducible refine i_meth ?_ | with_reducible refine i_rU ?_ | with_reducible refine i_dputN ?_ | with_reducible refine i_dput ?_ | with_reducible refine i_dget ?_ | with_reducible refine i_rng1 ?_ | with_reducible refine i_dinP ?_ | with_reducible refine i_raiseA ?_ | with_reducible refine i_lenSetS ?_ | with_reducible refine i_for ?_ | with_reducible refine i_yes ?_ | with_reducible refine i_eqS ?_ | with_reducible refine i_neS ?_ | with_reducible refine i_eqI ?_ | with_reducible refine i_neI ?_
  | with_reducible refine i_retN ?_ | with_reducible refine i_brk ?_ | with_reducible refine i_cont ?_ | with_reducible refine i_par ?_ | with_reducible refine i_par3 ?_ | with_reducible refine i_two ?_ | with_reducible refine i_three ?_
  | with_reducible refine i_itup ?_ | with_reducible refine i_ilist ?_ | with_reducible refine i_istr ?_ | with_reducible refine i_str ?_ | with_reducible refine i_m1 ?_ | with_reducible refine i_anystr ?_
  | with_reducible refine iteT ?_ | with_reducible refine iteF ?_))
section
variable {P : Program} {w : World} {K : Fg} {mg : Str → Option Value} {base : Heap}
def spPick : Sp := fun vs H Q _ => ∃ (A : DA) (s : Addr) (xs : List V), vs = [.ref A.d, .ref s] ∧ H s = some (.lst xs) ∧ xs ≠ [] ∧ xs.length < 1000000 ∧ s ≠ A.la ∧ Drw A H ∧ ∀ x H', x ∈ xs → Dn K A H H' → Q x H'
theorem k__law_pick (T : Tx K mg) : Keeps P w K mg base CX0 3 "_law_pick" ["draw", "some"] (spPick (K := K)) := T.kp__law_pick fun fd F => by
  refine F.ok sc__law_pick (fun vs H Q E h => ?_) (fun cdv A outer s H vs Q E hr h => ?_)
  · obtain ⟨l, m, xs, rfl, _⟩ := h
    rfl
  · obtain ⟨D, p, xs, rfl, hp, hx, hn, hl, hd, q⟩ := h
    refine ⟨_, PSs.nox (pss_one (ps_ret (pe_ix ix_list (pv 1) (pe_k (k__law_take T) (hr.mono (by omega)) pass0 (pa_cons (pv 0) (pa_cons (pe_callB call_lenS (by rfl) T.b_len (by decide +kernel) (pa_cons (pv 1) pa_nil)) pa_nil))) (fun _ _ => rfl)))), ?_⟩
    have hpos := List.length_pos_iff.mpr hx
    walk_at "go"
    refine rd_lenL hp ?_
    walk_at "go"
    refine ⟨D, xs.length, rfl, hpos, hn, hd, fun k H1 hk s1 => ?_⟩
    walk_at "go"
    refine rd_ixL (s1.lst hp hl) (atI_nat (List.getElem?_eq_getElem hk)) ?_
    exact q _ _ (List.getElem_mem hk) s1
def spShuffled : Sp := fun vs H Q _ => ∃ (A : DA) (s : Addr) (xs : List Str), vs = [.ref A.d, .ref s] ∧ H s = some (.lst (xs.map V.str)) ∧ xs.length < 1000 ∧ Drw A H ∧ ∀ l (ys : List Str) H', H l = none → Dn K A H H' → H' l = some (.lst (ys.map V.str)) → ys.Perm xs → Q (.ref l) H'
theorem k__law_shuffled (T : Tx K mg) : Keeps P w K mg base CX0 3 "_law_shuffled" ["draw", "some"] (spShuffled (K := K)) := T.kp__law_shuffled fun fd F => by
  refine F.ok sc__law_shuffled (fun vs H Q E h => ?_) (fun cdv A outer s H vs Q E hr h => ?_)
  · obtain ⟨l, m, xs, rfl, _⟩ := h
    rfl
  · obtain ⟨D, p, xs, rfl, hp, hn, hd, q⟩ := h
    refine ⟨_, PSs.nox (pss_cons (ps_par (i := 2) (j := 3) (by rfl) sc__law_shuffled.nd rfl rfl (by decide) rfl rfl (pa_cons (pe_callTy (T := "list") (call_lstK (K := K) rfl) (by rfl) T.b_list (by decide +kernel) (pa_cons (pv 1) pa_nil)) (pa_cons (pe_lst pa_nil) pa_nil)) (by rfl))
      (pss_cons (ps_while PassesOwn.never (pt_cmpR (op_neL0 hr.units) (pv 2) (pe_lst pa_nil) (nomark _)) (pss_one (ps_expr (pe_bm PySem.F.plainAttrs_list PySem.F.slot_list_append PySem.F.type_list_append mt_append (pv 3) (pa_cons (pe_bm PySem.F.plainAttrs_list PySem.F.slot_list_pop PySem.F.type_list_pop mt_popAt (pv 2) (pa_cons (pe_k (k__law_take T) (hr.mono (by omega)) pass0 (pa_cons (pv 0) (pa_cons (pe_callB call_lenS (by rfl) T.b_len (by decide +kernel) (pa_cons (pv 2) pa_nil)) pa_nil))) pa_nil)) pa_nil)))))
      (pss_one (ps_ret (pv 3))))), ?_⟩
    walk_at "go"
    refine ⟨p, _, rfl, .inl (SqL.of hp), fun ll hll => ?_⟩
    walk_at "go"
    refine ⟨by decide, fun fl hfl => ?_⟩
    walk_at "go"
    have sl := sameNew (o := .lst (xs.map V.str)) hll
    have sf := sameNew (o := .lst []) hfl
    have nlf : ll ≠ fl := ne_of_none upd_same hfl
    have hfl0 := none_of sl hfl
    obtain ⟨W, hW⟩ : ∃ W : Nat → L2.St → Hp → Prop, W = fun m σ H' => ∃ (ls fs : List Str), σ = [some (.ref D.d), some (.ref p), some (.ref ll), some (.ref fl)] ∧ Dn K D H H' ∧ H' ll = some (.lst (ls.map V.str)) ∧ H' fl = some (.lst (fs.map V.str)) ∧ (fs ++ ls).Perm xs ∧ m = ls.length := ⟨_, rfl⟩
    refine ⟨W, ⟨xs.length, by rw [hW]; exact ⟨xs, [], rfl, Dn.same hd (sl.trans sf), sf _ _ upd_same, upd_same, List.Perm.refl _, rfl⟩⟩, ?_⟩
    intro m σ H1 h
    rw [hW] at h
    obtain ⟨ls, fs, rfl, s1, h1, h2, hp, rfl⟩ := h
    walk_at "go"
    refine ⟨by decide, fun pe hpe => ?_⟩
    have sE := sameNew (o := .lst []) hpe
    have s2 := s1.trans (Dn.same s1.drw sE)
    have h1 := sE _ _ h1
    have h2 := sE _ _ h2
    have he := upd_same (H := H1) (a := pe) (o := .lst [])
    generalize upd H1 pe (.lst []) = H2 at s2 h1 h2 he ⊢
    refine rd_neL0 h1 he ?_
    walk_at "go"
    have hlen := hp.length_eq
    rw [List.length_append] at hlen
    have sz : sizeLine > 1000000 := by decide
    cases ls with
    | nil =>
      refine ife rfl ?_
      walk_at "go"
      rw [List.append_nil] at hp
      exact q fl fs _ hfl0 s2 h2 hp
    | cons x ls =>
      refine ift rfl ?_
      refine ⟨fun σ' H' => ∃ m', m' < (x :: ls).length ∧ W m' σ' H', fun _ _ h => h, ?_⟩
      walk_at "go"
      refine ⟨.inl ⟨rfl, _, SqL.of h2⟩, ?_⟩
      walk_at "go"
      refine ⟨.inl ⟨rfl, _, SqL.of h1⟩, ?_⟩
      walk_at "go"
      refine rd_lenL h1 ?_
      walk_at "go"
      rw [List.length_map]
      refine ⟨D, (x :: ls).length, rfl, by simp, by omega, s2.drw, fun k H3 hk s3 => ?_⟩
      have s23 := s2.trans s3
      have h1 := s3.lst h1 (s1.pre.fresh hll)
      have h2 := s3.lst h2 (s1.pre.fresh hfl0)
      walk_at "go"
      refine rd_popAt h1 (by rw [List.length_map]; omega) (y := .str (x :: ls)[k]) (by rw [List.getElem?_map, List.getElem?_eq_getElem hk]; rfl) ?_
      walk_at "go"
      refine ⟨fl, _, _, rfl, rfl, by rw [upd_ne nlf.symm]; exact h2, by rw [List.length_map]; omega, ?_⟩
      have s4 := s23.put hll h1 (ys := ((x :: ls).map V.str).eraseIdx k)
      have h2' : upd H3 ll (.lst (((x :: ls).map V.str).eraseIdx k)) fl = some (.lst (fs.map V.str)) := by rw [upd_ne nlf.symm]; exact h2
      have s5 := s4.put hfl0 h2' (ys := fs.map V.str ++ [.str (x :: ls)[k]])
      walk_at "go"
      refine ⟨ls.length, Nat.lt_succ_self _, ?_⟩
      rw [hW]
      refine ⟨(x :: ls).eraseIdx k, fs ++ [(x :: ls)[k]], rfl, s5, ?_, ?_, ?_, ?_⟩
      · rw [upd_ne nlf, upd_same]
        congr 2
        rw [eraseIdx_mapL]
      · rw [upd_same]
        simp
      · rw [List.append_assoc]
        refine List.Perm.trans ?_ hp
        refine List.Perm.append_left fs ?_
        exact erase_perm _ k hk
      · rw [List.length_eraseIdx_of_lt hk]
        rfl
def spStep : Sp := fun vs H Q _ => ∃ (A : DA) (st : Str) (nl : Addr) (ns : List Str), vs = [.ref A.d, .str st, .ref nl] ∧ st.length ≤ sizeLine ∧ H nl = some (.lst (ns.map V.str)) ∧ ns ≠ [] ∧ ns.length < 1000 ∧ (∀ x ∈ ns, x.length ≤ sizeLine) ∧ nl ≠ A.la ∧ Drw A H ∧
  ∀ v x (as : List Str) H', x ∈ ns → (∀ a ∈ as, a ∈ ns) → as.length ≤ 2 → Dn K A H H' → Dt K H' v (.tuple [.str "do", .str st, .str x, .tuple (as.map .str)]) → Q v H'
theorem k__law_step (T : Tx K mg) : Keeps P w K mg base CX0 4 "_law_step" ["draw", "site", "names"] (spStep (K := K)) := T.kp__law_step fun fd F => by
  refine F.ok sc__law_step (fun vs H Q E h => ?_) (fun cdv A outer s H vs Q E hr h => ?_)
  · obtain ⟨l, m, xs, ns, rfl, _⟩ := h
    rfl
  · obtain ⟨D, st, nl, ns, rfl, hst, hnl, hne, hn, hns, hla, hd, q⟩ := h
    refine ⟨_, PSs.nox (pss_one (ps_ret (pe_tup (pa_cons pe_str (pa_cons (pv 1) (pa_cons (pe_k (k__law_pick T) (hr.mono (by omega)) pass0 (pa_cons (pv 0) (pa_cons (pv 2) pa_nil))) (pa_cons (pe_callTy (T := "tuple") (call_tupK (K := K) rfl) (by rfl) T.b_tuple (by decide +kernel) (pa_cons (pe_lc (own := [("k", 3)]) (g := gName 3) (tt := tYes) rfl sc__law_step.nd (pi_range1 (by rfl) T.b_range (pa_cons (pe_k (k__law_take T) (hr.mono (by omega)) pass0 (pa_cons (pv 0) (pa_cons pe_int pa_nil))) pa_nil)) (blkOk_by (N := n__law_step) (sc := defScope s__law_step) (by decide +kernel)) (fun _ _ _ _ _ => (pg_name (i := 3) sc__law_step.nd rfl (by first | exact Or.inl rfl | exact Or.inr rfl))) (fun _ _ _ _ _ => pts_nil) (fun _ _ _ _ _ => (pe_k (k__law_pick T) (hr.mono (by omega)) pass0 (pa_cons (pv 0) (pa_cons (pv 2) pa_nil))))) pa_nil)) pa_nil))))))), ?_⟩
    walk_at "go"
    refine ⟨D, nl, _, rfl, hnl, by simpa using hne, by rw [List.length_map]; omega, hla, hd, fun x H1 hx s1 => ?_⟩
    obtain ⟨x, hxn, rfl⟩ := List.mem_map.mp hx
    walk_at "go"
    refine ⟨D, 3, rfl, by decide, by decide, s1.drw, fun k H2 hk s2 => ?_⟩
    walk_at "go"
    refine ⟨_, rfl, by omega, by omega, ?_⟩
    have s12 := s1.trans s2
    have hk3 : (k : Int).toNat ≤ sizeLine := by unfold sizeLine; omega
    refine lcb_drw (K := K) (A := D) (Y := fun y => ∃ a : Str, y = .str a ∧ a ∈ ns) s12.drw hk3 (fun _ => rfl) (fun x H3 R s3 he => ?_) (fun L H3 ys hL s3 hlen hY l => ?_)
    · walk_at "go"
      refine ⟨D, nl, _, rfl, (s12.trans s3).lst hnl hla, by simpa using hne, by rw [List.length_map]; omega, hla, s3.drw, fun y H4 hy s4 => ?_⟩
      obtain ⟨y, hyn, rfl⟩ := List.mem_map.mp hy
      exact he _ _ ⟨y, rfl, hyn⟩ s4
    · walk_at "go"
      refine rd_tupL l (fun t ht => ?_)
      obtain ⟨as, rfl, has⟩ : ∃ as : List Str, ys = as.map V.str ∧ ∀ a ∈ as, a ∈ ns := by
        clear hlen l
        induction ys with
        | nil => exact ⟨[], rfl, fun a h => by cases h⟩
        | cons y ys ih =>
          obtain ⟨as, rfl, h⟩ := ih (fun z hz => hY z (List.mem_cons_of_mem _ hz))
          obtain ⟨a, rfl, ha⟩ := hY y List.mem_cons_self
          exact ⟨a :: as, rfl, fun b hb => by
            rcases List.mem_cons.mp hb with rfl | hb
            · exact ha
            · exact h b hb⟩
      walk_at "go"
      refine ⟨by show 4 ≤ sizeLine; decide, fun t2 ht2 => ?_⟩
      have s4 := sameNew (o := .tup (as.map V.str)) ht
      have s5 := sameNew (o := .tup [.str "do", .str st, .str x, .ref t]) ht2
      have s6 := (s12.trans s3).trans (Dn.same s3.drw (s4.trans s5))
      refine q _ x as _ hxn has (by rw [List.length_map] at hlen; omega) s6 ?_
      exact .tup (SqT.of upd_same) (.cons (.str _ (by decide)) (.cons (.str _ hst) (.cons (.str _ (hns x hxn)) (.cons ((Dt.tup (SqT.of upd_same) (DtAll.strs fun a ha => hns a (has a ha))).same s5) .nil))))
end
end MH
end
section
set_option linter.all false
set_option maxRecDepth 100000
/-! the mathematics: depth of bodies, what a drawn body is -/
namespace MH
open PySem
theorem isBodyD_mono : ∀ {n : Nat} {d : PD}, isBodyD n d = true → isBodyD (n + 1) d = true
  | 0, d, h => by
    obtain ⟨ds, rfl, h1, h2, _⟩ := isBodyD_tup h
    obtain rfl := h2 rfl
    rw [isBodyD_succ 0 [] (by decide)]
    rfl
  | n + 1, d, h => by
    obtain ⟨ds, rfl, h1, _, h3⟩ := isBodyD_tup h
    have h3 := h3 n rfl
    rw [isBodyD_succ _ ds (by omega)]
    refine List.all_eq_true.mpr fun it hit => ?_
    have h4 := List.all_eq_true.mp h3 it hit
    unfold okIt at h4 ⊢
    rw [Bool.and_eq_true] at h4 ⊢
    exact ⟨h4.1, List.all_eq_true.mpr fun b hb => isBodyD_mono (List.all_eq_true.mp h4.2 b hb)⟩
theorem sitesD_mono : ∀ {n : Nat} {d : PD}, isBodyD n d = true → sitesD (n + 2) d = sitesD (n + 1) d
  | 0, d, h => by
    obtain ⟨ds, rfl, h1, h2, _⟩ := isBodyD_tup h
    obtain rfl := h2 rfl
    rfl
  | n + 1, d, h => by
    obtain ⟨ds, rfl, h1, h2, h3⟩ := isBodyD_tup h
    replace h3 := h3 n rfl
    rw [sitesD_succ, sitesD_succ]
    have e : ∀ it ∈ ds, itSites (n + 2) it = itSites (n + 1) it := fun it hit => by
      have h4 := okIt_item (List.all_eq_true.mp h3 it hit)
      unfold itSites
      congr 1
      have : ∀ bs : List PD, (∀ b ∈ bs, isBodyD n b = true) → bs.flatMap (sitesD (n + 2)) = bs.flatMap (sitesD (n + 1)) := fun bs hb => by
        induction bs with
        | nil => rfl
        | cons b bs ih => rw [List.flatMap_cons, List.flatMap_cons, sitesD_mono (hb b List.mem_cons_self), ih fun c hc => hb c (List.mem_cons_of_mem _ hc)]
      exact this _ h4.2
    clear h h1 h2 h3
    induction ds with
    | nil => rfl
    | cons d ds ih => rw [List.flatMap_cons, List.flatMap_cons, e d List.mem_cons_self, ih fun c hc => e c (List.mem_cons_of_mem _ hc)]
theorem if_do : ¬ (Str.ofString "if" = Str.ofString "do") := by decide
theorem while_do : ¬ (Str.ofString "while" = Str.ofString "do") := by decide
theorem while_if : ¬ (Str.ofString "while" = Str.ofString "if") := by decide
theorem names_all {as : List Str} (h : ∀ a ∈ as, isName a = true) : (as.map PyData.str).all isNameD = true := by
  rw [List.all_map]
  exact List.all_eq_true.mpr h
theorem args_ok {as : List Str} (hl : as.length ≤ 3) (h : ∀ a ∈ as, isName a = true) : argsD (.tuple (as.map .str)) = true := by
  unfold argsD
  rw [show tupD (.tuple (as.map PyData.str)) = as.map PyData.str from rfl, names_all h, Bool.and_true]
  unfold isRowD
  simp
  omega
theorem okIt_do {m : Nat} {s x : Str} {as : List Str} (hs : isName s = true) (hx : isName x = true) (hl : as.length ≤ 3) (h : ∀ a ∈ as, isName a = true) : okIt m (.tuple [.str "do", .str s, .str x, .tuple (as.map .str)]) = true := by
  unfold okIt
  rw [bodies_d]
  have h1 := args_ok hl h
  simp [isItemD, headD, isNameD, strD, hs, hx, h1]
theorem okIt_if {m : Nat} {s : Str} {as : List Str} {a b : PD} (hs : isName s = true) (hl : as.length ≤ 3) (h : ∀ a ∈ as, isName a = true) (ha : isBodyD m a = true) (hb : isBodyD m b = true) : okIt m (.tuple [.str "if", .str s, .tuple (as.map .str), a, b]) = true := by
  unfold okIt
  rw [bodies_i]
  have h1 := args_ok hl h
  simp [isItemD, headD, isNameD, strD, hs, h1, ha, hb, if_do]
theorem okIt_while {m : Nat} {s : Str} {as : List Str} {a : PD} (hs : isName s = true) (hl : as.length ≤ 3) (h : ∀ a ∈ as, isName a = true) (ha : isBodyD m a = true) : okIt m (.tuple [.str "while", .str s, .tuple (as.map .str), a]) = true := by
  unfold okIt
  rw [bodies_w]
  have h1 := args_ok hl h
  simp [isItemD, headD, isNameD, strD, hs, h1, ha, while_do, while_if]
theorem itSites_d (n : Nat) (s x : Str) (as : List PD) : itSites n (.tuple [.str "do", .str s, .str x, .tuple as]) = [s] := by
  unfold itSites
  rw [bodies_d]
  rfl
theorem itSites_i (n : Nat) (s : Str) (as : List PD) (a b : PD) : itSites n (.tuple [.str "if", .str s, .tuple as, a, b]) = s :: (sitesD n a ++ sitesD n b) := by
  unfold itSites
  rw [bodies_i]
  simp [siteD, tupD, strD]
theorem itSites_w (n : Nat) (s : Str) (as : List PD) (a : PD) : itSites n (.tuple [.str "while", .str s, .tuple as, a]) = s :: sitesD n a := by
  unfold itSites
  rw [bodies_w]
  simp [siteD, tupD, strD]
end MH
end
section
set_option Elab.async false
set_option linter.all false
set_option maxRecDepth 100000
set_option maxHeartbeats 8000000
set_option pp.maxSteps 1500
namespace MH
open PySem PySem.Spec PyProof.Rows L2
local macro_rules | `(tactic| walk_at "go") => `(tactic| repeat (first
  | with_reducible refine i_seq ?_ | with_reducible refine i_ifS ?_ | with_reducible refine i_ret ?_ | with_reducible refine i_drop ?_ | with_reducible refine i_asg ?_ | with_reducible refine i_name ?_
  | with_reducible refine i_next ?_ | with_reducible refine i_var (by with_unfolding_all exact rfl) ?_ | with_reducible refine i_c ?_ | with_reducible refine i_cons ?_ | with_reducible refine i_nil ?_ | with_reducible refine i_cb ?_
  | with_reducible refine i_op ?_ | with_reducible refine i_un ?_ | with_reducible refine i_call ?_ | with_reducible refine i_test ?_ | with_reducible refine i_b ?_ | with_reducible refine i_bl ?_ | with_reducible refine i_and ?_ | with_reducible refine i_or ?_
  | with_reducible refine i_not ?_ | with_reducible refine i_andV ?_ | with_reducible refine i_orV ?_ | with_reducible refine i_notV ?_ | with_reducible refine i_if ?_ | with_reducible refine i_chain ?_ | with_reducible refine i_tup ?_ | with_reducible refine i_lst ?_
  | with_reducible refine i_sl ?_ | with_reducible refine i_part ?_ | with_reducible refine i_nopart ?_ | with_reducible refine i_int ?_ | with_reducible refine i_bm ?_ | with_reducible refine i_bm0 ?_ | with_reducible refine i_I0 ?_ | with_reducible refine i_lc ?_ | with_reducible refine i_disp ?_ | with_reducible refine i_pairsC ?_ | with_reducible refine i_pairsN ?_ | with_reducible refine i_dget2 ?_ | with_reducible refine i_gsub ?_ | with_reducible refine i_raiseB ?_ | with_reducible refine i_make ?_ | with_reducible refine i_gcons ?_ | with_reducible refine i_gnil ?_ | with_reducible refine i_enum ?_ | with_reducible refine i_isN ?_ | with_reducible refine i_notN ?_ | with_reducible refine i_fld ?_ | with_reducible refine i_sfld ?_ | with_reducible refine i_meth ?_ | with_reducible refine i_rU ?_ | with_reducible refine i_dputN ?_ | with_reducible refine i_dput ?_ | with_reducible refine i_dget ?_ | with_reducible refine i_rng1 ?_ | with_reducible refine i_dinP ?_ | with_reducible refine i_raiseA ?_ | with_reducible refine i_lenSetS ?_ | with_reducible refine i_for ?_ | with_reducible refine i_yes ?_ | with_reducible refine i_eqS ?_ | with_reducible refine i_neS ?_ | with_reducible refine i_eqI ?_ | with_reducible refine i_neI ?_
  | with_reducible refine i_retN ?_ | with_reducible refine i_brk ?_ | with_reducible refine i_cont ?_ | with_reducible refine i_par ?_ | with_reducible refine i_par3 ?_ | with_reducible refine i_two ?_ | with_reducible refine i_three ?_
  | with_reducible refine i_itup ?_ | with_reducible refine i_ilist ?_ | with_reducible refine i_istr ?_ | with_reducible refine i_str ?_ | with_reducible refine i_m1 ?_ | with_reducible refine i_anystr ?_
  | with_reducible refine iteT ?_ | with_reducible refine iteF ?_))
section
variable {P : Program} {w : World} {K : Fg} {mg : Str → Option Value} {base : Heap}
theorem int_at (xs : List Int) (i : Nat) (h : i < xs.length) : (xs.map V.int).getD i .non = .int (xs.getD i 0) := by
  rw [List.getD_eq_getElem?_getD, List.getElem?_map, List.getD_eq_getElem?_getD, List.getElem?_eq_getElem h]
  rfl
theorem sqSame {H H' : Hp} {a : Addr} {xs : List V} (s : Same H H') (h : SqL K H a xs) : SqL K H' a xs := by
  rcases h with (h | ⟨o, h⟩) | h
  · exact .inl (.inl (s _ _ h))
  · exact .inl (.inr ⟨o, s _ _ h⟩)
  · exact .inr h
def spBegun : Sp := fun vs H Q _ => ∃ (s : Addr) (xs : List Int), vs = [.ref s] ∧ SqL K H s (xs.map V.int) ∧ xs.length < 1000000 ∧ ∀ (A : DA) H', H A.d = none → H A.la = none → Same H H' → Drw A H' → Q (.ref A.d) H'
theorem k__law_begun (T : Tx K mg) : Keeps P w K mg base CX0 1 "_law_begun" ["script"] (spBegun (K := K)) := T.kp__law_begun fun fd F => by
  refine F.ok sc__law_begun (fun vs H Q E h => ?_) (fun cdv A outer s H vs Q E hr h => ?_)
  · obtain ⟨l, xs, rfl, _⟩ := h
    rfl
  · obtain ⟨p, xs, rfl, hp, hn, q⟩ := h
    refine ⟨_, PSs.nox (pss_cons (ps_setLc (i := 1) (own := [("grain", 2)]) (g := gName 2)  rfl sc__law_begun.nd rfl rfl (sw_true rfl rfl rfl (by decide +kernel)) (pi_list (pv 0)) (blkOk_by (N := n__law_begun) (sc := defScope s__law_begun) (by decide +kernel)) (fun _ _ _ _ _ => (pg_name (i := 2) sc__law_begun.nd rfl (by first | exact Or.inl rfl | exact Or.inr rfl))) (fun _ _ _ _ _ => (pts_one (pt_cmpR op_ge (pe_callB call_abs (by rfl) T.b_abs (by decide +kernel) (pa_cons (pv 2) pa_nil)) (pe_op op_pow pe_int pe_int) (nomark _)))) (fun _ _ _ _ _ => (pe_op op_sub (pe_callB call_abs (by rfl) T.b_abs (by decide +kernel) (pa_cons (pv 2) pa_nil)) (pe_op op_pow pe_int pe_int))))
      (pss_one (ps_ret (pe_disp (pps_cons pe_str (pv 1) (pps_cons pe_str (pe_lc (own := [("grain", 2)]) (g := gName 2) (tt := tYes) rfl sc__law_begun.nd (pi_list (pv 0)) (blkOk_by (N := n__law_begun) (sc := defScope s__law_begun) (by decide +kernel)) (fun _ _ _ _ _ => (pg_name (i := 2) sc__law_begun.nd rfl (by first | exact Or.inl rfl | exact Or.inr rfl))) (fun _ _ _ _ _ => pts_nil) (fun _ _ _ _ _ => (pe_op op_mod (pe_callTy (T := "int") call_int1 (by rfl) T.b_int (by decide +kernel) (pa_cons (pe_callB call_abs (by rfl) T.b_abs (by decide +kernel) (pa_cons (pv 2) pa_nil)) pa_nil)) pe_int))) (pps_cons pe_str pe_int (pps_cons pe_str pe_int pps_nil)))) rfl rfl (by simp) (by decide))))), ?_⟩
    have sz : sizeLine > 1000000 := by decide
    walk_at "go"
    refine ⟨_, rfl, ⟨_, hp⟩, ?_⟩
    refine lcb_filt (H1 := H) (n := xs.length) (it := fun i => (xs.map V.int).getD i .non) (y := fun i => .int ((if xs.getD i 0 < 0 then -xs.getD i 0 else xs.getD i 0) - 10 ^ 18)) (keep := fun i => decide ((if xs.getD i 0 < 0 then -xs.getD i 0 else xs.getD i 0) ≥ 10 ^ 18)) (by omega) (fun H3 s => by rw [← List.length_map (f := V.int)]; exact still_lst (sqSame s hp)) (fun _ => rfl) (fun i H3 R hi s k => ?_) (fun i H3 R hi _ s k => ?_) (fun D H' hD s l => ?_)
    · show _
      rw [int_at xs i hi]
      walk_at "go"
      refine ⟨_, rfl, ?_⟩
      walk_at "go"
      refine ⟨_, _, rfl, rfl, ⟨by decide, by decide, by decide⟩, ?_⟩
      walk_at "go"
      exact k _ (Same.refl _)
    · show _
      rw [int_at xs i hi]
      walk_at "go"
      refine ⟨_, rfl, ?_⟩
      walk_at "go"
      refine ⟨_, _, rfl, rfl, ⟨by decide, by decide, by decide⟩, ?_⟩
      walk_at "go"
      exact k _ (Same.refl _)
    · walk_at "go"
      intro dd hdd
      have s2 := sameNew (o := .dK []) hdd
      walk_at "go"
      refine ⟨_, rfl, ⟨_, sqSame s2 (sqSame s hp)⟩, ?_⟩
      refine lcb_pure (n := xs.length) (it := fun i => (xs.map V.int).getD i .non) (y := fun i => .int ((if xs.getD i 0 < 0 then -xs.getD i 0 else xs.getD i 0) % 2147483629)) (by omega) (fun H3 s' => by rw [← List.length_map (f := V.int)]; exact still_lst (sqSame s' (sqSame s2 (sqSame s hp)))) (fun _ => rfl) (fun i H3 R hi s k => ?_) (fun C H'' hC s' l' => ?_)
      · show _
        rw [int_at xs i hi]
        walk_at "go"
        refine ⟨_, rfl, ?_⟩
        walk_at "go"
        refine .inl ⟨_, rfl, ?_⟩
        walk_at "go"
        refine ⟨_, _, rfl, rfl, (show (0 : Int) < 2147483629 by decide), ?_⟩
        exact k _ (Same.refl _)
      · walk_at "go"
        have hdd'' := s' _ _ (upd_same (H := H') (a := dd) (o := .dK []))
        refine ⟨hdd'', [(.inr "large", .ref D), (.inr "cells", .ref C), (.inr "rest", .int 0), (.inr "turn", .int 0)], rfl, (show 4 ≤ 15 by decide), ?_⟩
        have l2 := s' _ _ (s2 _ _ l)
        have nDd : D ≠ dd := ne_of_none l hdd
        have nCd : C ≠ dd := (ne_of_none upd_same hC).symm
        have nDC : D ≠ C := ne_of_none (s2 _ _ l) hC
        have hdH : H dd = none := none_of s hdd
        refine q ⟨dd, D, C⟩ _ hdH hD (samePut ((s.trans s2).trans s') hdH) ⟨⟨0, 0, upd_same⟩, ⟨((List.range xs.length).filter fun i => decide ((if xs.getD i 0 < 0 then -xs.getD i 0 else xs.getD i 0) ≥ 10 ^ 18)).map fun i => (if xs.getD i 0 < 0 then -xs.getD i 0 else xs.getD i 0) - 10 ^ 18, ?_⟩, ⟨(List.range xs.length).map fun i => (if xs.getD i 0 < 0 then -xs.getD i 0 else xs.getD i 0) % 2147483629, ?_⟩, nDC⟩
        · show upd H'' dd _ D = _
          rw [upd_ne nDd, l2, List.map_map]
          rfl
        · show upd H'' dd _ C = _
          rw [upd_ne nCd, l', List.map_map]
          rfl
end
end MH
end
section
set_option Elab.async false
set_option linter.all false
set_option maxRecDepth 100000
set_option maxHeartbeats 8000000
set_option pp.maxSteps 1500
namespace MH
open PySem PySem.Spec PyProof.Rows L2
local macro_rules | `(tactic| walk_at "go") => `(tactic| repeat (first
  | with_reducible refine i_seq ?_ | with_reducible refine i_ifS ?_ | with_reducible refine i_ret ?_ | with_reducible refine i_drop ?_ | with_reducible refine i_asg ?_ | with_reducible refine i_name ?_
  | with_reducible refine i_next ?_ | with_reducible refine i_var (by with_unfolding_all exact rfl) ?_ | with_reducible refine i_c ?_ | with_reducible refine i_cons ?_ | with_reducible refine i_nil ?_ | with_reducible refine i_cb ?_
  | with_reducible refine i_op ?_ | with_reducible refine i_un ?_ | with_reducible refine i_call ?_ | with_reducible refine i_test ?_ | with_reducible refine i_b ?_ | with_reducible refine i_bl ?_ | with_reducible refine i_and ?_ | with_reducible refine i_or ?_
  | with_reducible refine i_not ?_ | with_reducible refine i_andV ?_ | with_reducible refine i_orV ?_ | with_reducible refine i_notV ?_ | with_reducible refine i_if ?_ | with_reducible refine i_chain ?_ | with_reducible refine i_tup ?_ | with_reducible refine i_lst ?_
  | with_reducible refine i_sl ?_ | with_reducible refine i_part ?_ | with_reducible refine i_nopart ?_ | with_reducible refine i_int ?_ | with_reducible refine i_bm ?_ | with_reducible refine i_bm0 ?_ | with_reducible refine i_I0 ?_ | with_reducible refine i_lc ?_ | with_reducible refine i_disp ?_ | with_reducible refine i_pairsC ?_ | with_reducible refine i_pairsN ?_ | with_reducible refine i_dget2 ?_ | with_reducible refine i_gsub ?_ | with_reducible refine i_raiseB ?_ | with_reducible refine i_make ?_ | with_reducible refine i_gcons ?_ | with_reducible refine i_gnil ?_ | with_reducible refine i_enum ?_ | with_reducible refine i_isN ?_ | with_reducible refine i_notN ?_ | with_reducible refine i_fld ?_ | with_reducible refine i_sfld ?_ | with_reducible refine i_meth ?_ | with_reducible refine i_rU ?_ | with_reducible refine i_dputN ?_ | with_reducible refine i_dput ?_ | with_reducible refine i_dget ?_ | with_reducible refine i_rng1 ?_ | with_reducible refine i_dinP ?_ | with_reducible refine i_raiseA ?_ | with_reducible refine i_lenSetS ?_ | with_reducible refine i_for ?_ | with_reducible refine i_yes ?_ | with_reducible refine i_eqS ?_ | with_reducible refine i_neS ?_ | with_reducible refine i_eqI ?_ | with_reducible refine i_neI ?_
  | with_reducible refine i_retN ?_ | with_reducible refine i_brk ?_ | with_reducible refine i_cont ?_ | with_reducible refine i_par ?_ | with_reducible refine i_par3 ?_ | with_reducible refine i_two ?_ | with_reducible refine i_three ?_
  | with_reducible refine i_itup ?_ | with_reducible refine i_ilist ?_ | with_reducible refine i_istr ?_ | with_reducible refine i_str ?_ | with_reducible refine i_m1 ?_ | with_reducible refine i_anystr ?_
  | with_reducible refine iteT ?_ | with_reducible refine iteF ?_))
section
variable {P : Program} {w : World} {K : Fg} {mg : Str → Option Value} {base : Heap}
/-- the draws, and the list l too -/
structure Dl (K : Fg) (A : DA) (l : Addr) (H H' : Hp) : Prop where
  pre : Drw A H
  keep : ∀ a o, a ≠ A.d → a ≠ A.la → a ≠ l → H a = some o → H' a = some o
  st : StT K H H'
  drw : Drw A H'
theorem Dn.dl {A : DA} {H H' : Hp} (s : Dn K A H H') (l : Addr) : Dl K A l H H' := ⟨s.pre, fun a o h1 h2 _ q => s.keep a o h1 h2 q, s.st, s.drw⟩
theorem Dl.trans {A : DA} {l : Addr} {H H' H2 : Hp} (a : Dl K A l H H') (b : Dl K A l H' H2) : Dl K A l H H2 := ⟨a.pre, fun x o h1 h2 h3 q => b.keep x o h1 h2 h3 (a.keep x o h1 h2 h3 q), a.st.trans b.st, b.drw⟩
theorem Dl.lst {A : DA} {l : Addr} {H H' : Hp} (h : Dl K A l H H') {a : Addr} {xs : List V} (e : H a = some (.lst xs)) (n : a ≠ A.la) (n2 : a ≠ l) : H' a = some (.lst xs) := h.keep a _ (h.pre.away e) n n2 e
theorem Dl.put {A : DA} {l : Addr} {H H1 : Hp} (s : Dl K A l H H1) {a : Addr} {xs ys : List V} (ha : a = l ∨ H a = none) (h1 : H1 a = some (.lst xs)) (hl : l ≠ A.la) (hc : l ≠ A.cs) (he : ∃ zs, H l = some (.lst zs)) : Dl K A l H (upd H1 a (.lst ys)) := by
  obtain ⟨r, t, qd⟩ := s.drw.dict
  obtain ⟨L, ql⟩ := s.drw.large
  obtain ⟨C, qc⟩ := s.drw.cells
  obtain ⟨zs, he⟩ := he
  have hnd : a ≠ A.d := s.drw.away h1
  have n2 : a ≠ A.la := ha.elim (fun z => z ▸ hl) (fun z => s.pre.fresh z)
  have n3 : a ≠ A.cs := ha.elim (fun z => z ▸ hc) (fun z z2 => by
    obtain ⟨C0, q⟩ := s.pre.cells
    rw [← z2, z] at q
    cases q)
  exact ⟨s.pre, fun b o h1 h2 h3 q => by
    rw [upd_ne (fun z => by
      subst z
      rcases ha with z | z
      · exact h3 z
      · rw [z] at q; cases q)]
    exact s.keep b o h1 h2 h3 q, s.st.trans (StT.lst h1), ⟨⟨r, t, by rw [upd_ne hnd.symm]; exact qd⟩, ⟨L, by rw [upd_ne n2.symm]; exact ql⟩, ⟨C, by rw [upd_ne n3.symm]; exact qc⟩, s.drw.ne⟩⟩
def spDBody (n : Nat) : Sp := fun vs H Q _ => ∃ (A : DA) (l nl : Addr) (ls ns : List Str) (m : Nat), vs = [.ref A.d, .ref l, .ref nl, .int (n : Nat), .int (m : Nat)] ∧ 1 ≤ n ∧ n ≤ 4 ∧ m ≤ 11 ∧ Drw A H ∧ H l = some (.lst (ls.map V.str)) ∧ l ≠ A.la ∧ l ≠ A.cs ∧ H nl = some (.lst (ns.map V.str)) ∧ nl ≠ A.la ∧ nl ≠ l ∧ ns ≠ [] ∧ ns.length < 1000 ∧ ls.length < 1000 ∧ (∀ x ∈ ns, isName x = true) ∧ (∀ x ∈ ls, isName x = true) ∧
  ∀ v b rest H', Dl K A l H H' → H' l = some (.lst (rest.map V.str)) → ls = rest ++ (sitesD (n + 1) b).reverse → isBodyD n b = true → Dt K H' v b → Q v H'
def spDBodyP : Nat → Sp
  | 0 => spNo
  | n + 1 => spDBody (K := K) n
theorem k__law_body_step (T : Tx K mg) (n : Nat) (KB : Keeps P w K mg base CX0 (n + 5) "_law_body" ["draw", "left", "names", "deep", "most"] (spDBodyP (K := K) n)) : Keeps P w K mg base CX0 (n + 6) "_law_body" ["draw", "left", "names", "deep", "most"] (spDBody (K := K) n) := T.kp__law_body fun fd F => by
  refine F.ok sc__law_body (fun vs H Q E h => ?_) (fun cdv A outer s H vs Q E hr h => ?_)
  · obtain ⟨A, l, nl, ls, ns, m, rfl, _⟩ := h
    rfl
  · obtain ⟨D, l, nl, ls, ns, m, rfl, hn1, hn4, hm, hd, hl, hla, hlc, hnl, hna, hnn, hne, hnlen, hllen, hns, hls, q⟩ := h
    refine ⟨_, PSs.nox (pss_cons (ps_set (i := 5) sc__law_body.nd rfl (by first | exact Or.inl rfl | exact Or.inr rfl) (pe_lst pa_nil))
      (pss_cons (ps_for PassesOwn.never rfl (pi_range1 (by rfl) T.b_range (pa_cons (pe_k (k__law_take T) (hr.mono (by omega)) pass0 (pa_cons (pv 0) (pa_cons (pe_op op_add (pv 4) pe_int) pa_nil))) pa_nil)) (pg_name (i := 6) sc__law_body.nd rfl (by first | exact Or.inl rfl | exact Or.inr rfl)) (pss_cons (ps_if (pt_cmpR (op_eqL0 hr.units) (pv 1) (pe_lst pa_nil) (nomark _)) (pss_one (ps_ret (pe_callTy (T := "tuple") (call_tupK (K := K) rfl) (by rfl) T.b_tuple (by decide +kernel) (pa_cons (pv 5) pa_nil)))) pss_nil)
      (pss_cons (ps_par (i := 7) (j := 8) (by rfl) sc__law_body.nd rfl rfl (by decide) rfl rfl (pa_cons (pe_bm0 PySem.F.plainAttrs_list PySem.F.slot_list_pop PySem.F.type_list_pop mt_pop (pv 1)) (pa_cons (pe_k (k__law_take T) (hr.mono (by omega)) pass0 (pa_cons (pv 0) (pa_cons pe_int pa_nil))) pa_nil)) (by rfl))
      (pss_cons (ps_set (i := 9) sc__law_body.nd rfl (by first | exact Or.inl rfl | exact Or.inr rfl) (pe_callTy (T := "tuple") (call_tupK (K := K) rfl) (by rfl) T.b_tuple (by decide +kernel) (pa_cons (pe_lc (own := [("k", 10)]) (g := gName 10) (tt := tYes) rfl sc__law_body.nd (pi_range1 (by rfl) T.b_range (pa_cons (pe_k (k__law_take T) (hr.mono (by omega)) pass0 (pa_cons (pv 0) (pa_cons pe_int pa_nil))) pa_nil)) (blkOk_by (N := n__law_body) (sc := defScope s__law_body) (by decide +kernel)) (fun _ _ _ _ _ => (pg_name (i := 10) sc__law_body.nd rfl (by first | exact Or.inl rfl | exact Or.inr rfl))) (fun _ _ _ _ _ => pts_nil) (fun _ _ _ _ _ => (pe_k (k__law_pick T) (hr.mono (by omega)) pass0 (pa_cons (pv 0) (pa_cons (pv 2) pa_nil))))) pa_nil)))
      (pss_one (ps_if (PW.pt (pw_or (pt_cmpR op_lt (pv 8) pe_int (nomark _)) (pw_or1 (pt_cmpR op_lt (pv 3) pe_int (nomark _))))) (pss_one (ps_expr (pe_bm PySem.F.plainAttrs_list PySem.F.slot_list_append PySem.F.type_list_append mt_append (pv 5) (pa_cons (pe_k (k__law_step T) (hr.mono (by omega)) pass0 (pa_cons (pv 0) (pa_cons (pv 7) (pa_cons (pv 2) pa_nil)))) pa_nil)))) (pss_one (ps_if (pt_cmpR op_lt (pv 8) pe_int (nomark _)) (pss_one (ps_expr (pe_bm PySem.F.plainAttrs_list PySem.F.slot_list_append PySem.F.type_list_append mt_append (pv 5) (pa_cons (pe_tup (pa_cons pe_str (pa_cons (pv 7) (pa_cons (pv 9) (pa_cons (pe_k KB (hr.mono (by omega)) pass0 (pa_cons (pv 0) (pa_cons (pv 1) (pa_cons (pv 2) (pa_cons (pe_op op_sub (pv 3) pe_int) (pa_cons pe_int pa_nil)))))) (pa_cons (pe_k KB (hr.mono (by omega)) pass0 (pa_cons (pv 0) (pa_cons (pv 1) (pa_cons (pv 2) (pa_cons (pe_op op_sub (pv 3) pe_int) (pa_cons pe_int pa_nil)))))) pa_nil)))))) pa_nil)))) (pss_one (ps_expr (pe_bm PySem.F.plainAttrs_list PySem.F.slot_list_append PySem.F.type_list_append mt_append (pv 5) (pa_cons (pe_tup (pa_cons pe_str (pa_cons (pv 7) (pa_cons (pv 9) (pa_cons (pe_k KB (hr.mono (by omega)) pass0 (pa_cons (pv 0) (pa_cons (pv 1) (pa_cons (pv 2) (pa_cons (pe_op op_sub (pv 3) pe_int) (pa_cons pe_int pa_nil)))))) pa_nil))))) pa_nil))))))))))))
      (pss_one (ps_ret (pe_callTy (T := "tuple") (call_tupK (K := K) rfl) (by rfl) T.b_tuple (by decide +kernel) (pa_cons (pv 5) pa_nil)))))), ?_⟩
    have sz : sizeLine > 1000000 := by decide
    walk_at "go"
    refine ⟨by decide, fun fl hfl => ?_⟩
    walk_at "go"
    have sf := sameNew (o := .lst []) hfl
    have s0 : Dl K D l H (upd H fl (.lst [])) := (Dn.same hd sf).dl l
    have hf0 := upd_same (H := H) (a := fl) (o := .lst [])
    have hl0 := sf _ _ hl
    have nfl : fl ≠ l := (ne_of_none hl hfl).symm
    have nfn : fl ≠ nl := (ne_of_none hnl hfl).symm
    generalize upd H fl (.lst []) = H0 at s0 hf0 hl0 ⊢
    refine ⟨D, m + 1, by simp, by omega, by omega, s0.drw, fun k H1 hk s1 => ?_⟩
    walk_at "go"
    refine ⟨_, rfl, by omega, by omega, ?_⟩
    have hf1 := s1.lst hf0 (s0.pre.fresh hfl)
    have hl1 := s1.lst hl0 hla
    have s01 := s0.trans (s1.dl l)
    have ek : (k : Int).toNat = k := Int.toNat_natCast k
    rw [ek]
    obtain ⟨Pv, hPv⟩ : ∃ Pv : Nat → L2.St → Hp → Prop, Pv = fun i σ H' => ∃ y6 y7 y8 y9 y10, ∃ (vs : List V) (ds : List PD) (rest : List Str), σ = [some (.ref D.d), some (.ref l), some (.ref nl), some (.int (n : Nat)), some (.int (m : Nat)), some (.ref fl), y6, y7, y8, y9, y10] ∧ Dl K D l H H' ∧ H' l = some (.lst (rest.map V.str)) ∧ H' fl = some (.lst vs) ∧ DtAll K H' vs ds ∧ ds.length ≤ i ∧ ds.all (okIt (n - 1)) = true ∧ ls = rest ++ (ds.flatMap (itSites n)).reverse := ⟨_, rfl⟩
    have fin : ∀ H' (vs : List V) (ds : List PD) (rest : List Str) t, Dl K D l H H' → H' l = some (.lst (rest.map V.str)) → DtAll K H' vs ds → ds.length ≤ 12 → ds.all (okIt (n - 1)) = true → ls = rest ++ (ds.flatMap (itSites n)).reverse → H' t = none → Q (.ref t) (upd H' t (.tup vs)) := fun H' vs ds rest t s' hl' hds' hlen' hok' hsi' ht => by
      have st := sameNew (o := .tup vs) ht
      refine q _ (.tuple ds) rest _ (s'.trans ((Dn.same s'.drw st).dl l)) (st _ _ hl') hsi' ?_ (.tup (SqT.of upd_same) (hds'.mono (StT.same st)))
      obtain ⟨n', rfl⟩ : ∃ n', n = n' + 1 := ⟨n - 1, by omega⟩
      rw [isBodyD_succ _ _ (by omega)]
      exact hok'
    refine forb_rng Pv (by rw [hPv]; exact ⟨_, _, _, _, _, [], [], ls, rfl, s01, hl1, hf1, .nil, Nat.le_refl _, rfl, by simp⟩) (fun i σ H2 hi h => ?_) (fun σ H2 h => ?_)
    · rw [hPv] at h
      obtain ⟨y6, y7, y8, y9, y10, vs, ds, rest, rfl, s2, hl2, hf2, hds, hlen, hok, hsi⟩ := h
      walk_at "go"
      refine ⟨by decide, fun pe hpe => ?_⟩
      have sE := sameNew (o := .lst []) hpe
      have s3 := s2.trans ((Dn.same s2.drw sE).dl l)
      have hl3 := sE _ _ hl2
      have hf3 := sE _ _ hf2
      have hds3 := hds.mono (StT.same sE)
      have he := upd_same (H := H2) (a := pe) (o := .lst [])
      generalize upd H2 pe (.lst []) = H3 at s3 hl3 hf3 hds3 he ⊢
      refine rd_eqL0 hl3 he ?_
      walk_at "go"
      rcases List.eq_nil_or_concat rest with rfl | ⟨rr, site, e0⟩
      · refine ift rfl ?_
        walk_at "go"
        refine rd_tupL hf3 (fun t ht => ?_)
        exact fin _ _ ds [] t s3 hl3 hds3 (by omega) hok hsi ht
      · rw [List.concat_eq_append] at e0
        subst e0
        refine ife (by simp) ?_
        walk_at "go"
        rw [List.map_append] at hl3
        refine ⟨.inl ⟨rfl, _, SqL.of hl3⟩, ?_⟩
        refine ⟨l, _, .str site, rfl, rfl, hl3, by simp, ?_⟩
        rw [show (rr.map V.str ++ [site].map V.str).dropLast = rr.map V.str from List.dropLast_concat]
        have s4 := s3.put (.inl rfl) hl3 hla hlc ⟨_, hl⟩ (ys := rr.map V.str)
        have hl4 := upd_same (H := H3) (a := l) (o := .lst (rr.map V.str))
        have hf4 : upd H3 l (.lst (rr.map V.str)) fl = some (.lst vs) := by rw [upd_ne nfl]; exact hf3
        have hds4 := hds3.mono (StT.lst hl3 (ys := rr.map V.str))
        generalize upd H3 l (.lst (rr.map V.str)) = H4 at s4 hl4 hf4 hds4 ⊢
        walk_at "go"
        refine ⟨D, 6, rfl, by decide, by decide, s4.drw, fun way H5 hway s5 => ?_⟩
        walk_at "go"
        refine ⟨D, 2, rfl, by decide, by decide, s5.drw, fun k2 H6 hk2 s6 => ?_⟩
        walk_at "go"
        refine ⟨_, rfl, by omega, by omega, ?_⟩
        have s46 := s4.trans ((s5.trans s6).dl l)
        have hk3 : (k2 : Int).toNat ≤ sizeLine := by omega
        have hnl6 : ∀ H7, Dn K D H6 H7 → H7 nl = some (.lst (ns.map V.str)) := fun H7 s7 => (s46.trans (s7.dl l)).lst hnl hna hnn
        refine lcb_drw (K := K) (A := D) (Y := fun y => ∃ a : Str, y = .str a ∧ a ∈ ns) s6.drw hk3 (fun _ => rfl) (fun x H7 R s7 he => ?_) (fun L H7 ys hL s7 hlen7 hY l7 => ?_)
        · walk_at "go"
          refine ⟨D, nl, _, rfl, hnl6 _ s7, by simpa using hne, by rw [List.length_map]; omega, hna, s7.drw, fun y H8 hy s8 => ?_⟩
          obtain ⟨y, hyn, rfl⟩ := List.mem_map.mp hy
          exact he _ _ ⟨y, rfl, hyn⟩ s8
        · walk_at "go"
          refine rd_tupL l7 (fun t ht => ?_)
          obtain ⟨as, rfl, has⟩ : ∃ as : List Str, ys = as.map V.str ∧ ∀ a ∈ as, a ∈ ns := by
            clear hlen7 l7
            induction ys with
            | nil => exact ⟨[], rfl, fun a h => by cases h⟩
            | cons y ys ih =>
              obtain ⟨as, rfl, h⟩ := ih (fun z hz => hY z (List.mem_cons_of_mem _ hz))
              obtain ⟨a, rfl, ha⟩ := hY y List.mem_cons_self
              exact ⟨a :: as, rfl, fun b hb => by
                rcases List.mem_cons.mp hb with rfl | hb
                · exact ha
                · exact h b hb⟩
          rw [List.length_map] at hlen7
          have st := sameNew (o := .tup (as.map V.str)) ht
          have s58 : Dn K D H4 (upd H7 t (.tup (as.map V.str))) := (s5.trans s6).trans (s7.trans (Dn.same s7.drw st))
          have hl8 := s58.lst hl4 hla
          have hf8 := s58.lst hf4 (s0.pre.fresh hfl)
          have hds8 := hds4.mono s58.st
          have s8 := s4.trans (s58.dl l)
          have nms : ∀ x ∈ ns, x.length ≤ sizeLine := fun x hx => Nat.le_trans (isName_len (hns x hx)).2 (by decide)
          have hat : Dt K (upd H7 t (.tup (as.map V.str))) (.ref t) (.tuple (as.map PyData.str)) := .tup (SqT.of upd_same) (DtAll.strs fun a ha => nms a (has a ha))
          generalize upd H7 t (.tup (as.map V.str)) = H8 at s8 hl8 hf8 hds8 hat ⊢
          have hnl8 := s8.lst hnl hna hnn
          have hsin : isName site = true := hls site (by rw [hsi]; simp)
          have hsil : site.length ≤ sizeLine := Nat.le_trans (isName_len hsin).2 (by decide)
          have hrrn : ∀ x ∈ rr, isName x = true := fun x hx => hls x (by rw [hsi]; simp [hx])
          have hrrl : rr.length < 1000 := by rw [hsi] at hllen; simp at hllen; omega
          have hasn : ∀ a ∈ as, isName a = true := fun a ha => hns a (has a ha)
          have nxt : ∀ H9 v it (rest' : List Str) σ', Dl K D l H H9 → H9 l = some (.lst (rest'.map V.str)) → H9 fl = some (.lst vs) → DtAll K H9 vs ds → Dt K H9 v it → okIt (n - 1) it = true → rr ++ [site] = rest' ++ (itSites n it).reverse → (∃ y6 y7 y8 y9 y10, σ' = [some (.ref D.d), some (.ref l), some (.ref nl), some (.int (n : Nat)), some (.int (m : Nat)), some (.ref fl), y6, y7, y8, y9, y10]) → Pv (i + 1) σ' (upd H9 fl (.lst (vs ++ [v]))) := fun H9 v it rest' σ' s9 hl9 hf9 hd9 hv9 hok9 hsi9 ⟨y6, y7, y8, y9, y10, hσ⟩ => by
            rw [hPv]
            refine ⟨y6, y7, y8, y9, y10, vs ++ [v], ds ++ [it], rest', hσ, s9.put (.inr hfl) hf9 hla hlc ⟨_, hl⟩, by rw [upd_ne nfl.symm]; exact hl9, upd_same, (hd9.append (.cons hv9 .nil)).mono (StT.lst hf9), by rw [List.length_append]; simp; omega, by rw [List.all_append, hok]; simp [hok9], ?_⟩
            rw [hsi, hsi9, List.flatMap_append, List.reverse_append, ← List.append_assoc]
            simp
          have hvl : vs.length < sizeLine := by rw [hds8.length]; omega
          walk_at "go"
          by_cases k1 : way < 3
          · refine ift (decide_eq_true (by omega)) ?_
            refine ift rfl ?_
            walk_at "go"
            refine ⟨.inl ⟨rfl, _, SqL.of hf8⟩, ?_⟩
            walk_at "go"
            refine ⟨D, site, nl, ns, rfl, hsil, hnl8, hne, hnlen, nms, hna, s8.drw, fun v x as2 H9 hx has2 hl2 s9 hv => ?_⟩
            have s89 := s8.trans (s9.dl l)
            walk_at "go"
            refine ⟨fl, vs, v, rfl, rfl, s9.lst hf8 (s0.pre.fresh hfl), hvl, ?_⟩
            walk_at "go"
            exact nxt _ _ _ rr _ s89 (s9.lst hl8 hla) (s9.lst hf8 (s0.pre.fresh hfl)) (hds8.mono s9.st) hv (okIt_do hsin (hns x hx) (by omega) (fun a ha => hns a (has2 a ha))) (by rw [itSites_d]; rfl) ⟨_, _, _, _, _, rfl⟩
          · refine ife (decide_eq_false (by omega)) ?_
            walk_at "go"
            by_cases k2 : n < 2
            · refine ift (decide_eq_true (by omega)) ?_
              walk_at "go"
              refine ⟨.inl ⟨rfl, _, SqL.of hf8⟩, ?_⟩
              walk_at "go"
              refine ⟨D, site, nl, ns, rfl, hsil, hnl8, hne, hnlen, nms, hna, s8.drw, fun v x as2 H9 hx has2 hl2 s9 hv => ?_⟩
              have s89 := s8.trans (s9.dl l)
              walk_at "go"
              refine ⟨fl, vs, v, rfl, rfl, s9.lst hf8 (s0.pre.fresh hfl), hvl, ?_⟩
              walk_at "go"
              exact nxt _ _ _ rr _ s89 (s9.lst hl8 hla) (s9.lst hf8 (s0.pre.fresh hfl)) (hds8.mono s9.st) hv (okIt_do hsin (hns x hx) (by omega) (fun a ha => hns a (has2 a ha))) (by rw [itSites_d]; rfl) ⟨_, _, _, _, _, rfl⟩
            · refine ife (decide_eq_false (by omega)) ?_
              obtain ⟨n1, rfl⟩ : ∃ n1, n = n1 + 1 := ⟨n - 1, by omega⟩
              have hn1' : n1 + 1 - 1 = n1 := rfl
              rw [hn1'] at nxt
              have en : ((n1 + 1 : Nat) : Int) - 1 = (n1 : Nat) := by omega
              walk_at "go"
              refine ifb (fun k3 => ?_) (fun k3 => ?_)
              · walk_at "go"
                refine ⟨.inl ⟨rfl, _, SqL.of hf8⟩, ?_⟩
                walk_at "go"
                rw [en]
                refine ⟨D, l, nl, rr, ns, 2, rfl, by omega, by omega, by decide, s8.drw, hl8, hla, hlc, hnl8, hna, hnn, hne, hnlen, hrrl, hns, hrrn, fun v1 b1 r1 H9 s9 hl9 hr9 hb9 hv9 => ?_⟩
                walk_at "go"
                rw [en]
                have s89 := s8.trans s9
                have hr1n : ∀ x ∈ r1, isName x = true := fun x hx => hrrn x (by rw [hr9]; simp [hx])
                have hr1l : r1.length < 1000 := by rw [hr9] at hrrl; simp at hrrl; omega
                refine ⟨D, l, nl, r1, ns, 2, rfl, by omega, by omega, by decide, s89.drw, hl9, hla, hlc, s89.lst hnl hna hnn, hna, hnn, hne, hnlen, hr1l, hns, hr1n, fun v2 b2 r2 H10 s10 hl10 hr10 hb10 hv10 => ?_⟩
                have s810 := s9.trans s10
                walk_at "go"
                refine ⟨by show 5 ≤ sizeLine; omega, fun t5 ht5 => ?_⟩
                have s11 := sameNew (o := .tup [.str "if", .str site, .ref t, v1, v2]) ht5
                have s811 := s810.trans ((Dn.same s810.drw s11).dl l)
                have hf11 := s811.lst hf8 (s0.pre.fresh hfl) nfl
                refine ⟨fl, vs, .ref t5, rfl, rfl, hf11, hvl, ?_⟩
                walk_at "go"
                refine nxt _ _ (.tuple [.str "if", .str site, .tuple (as.map .str), b1, b2]) r2 _ (s8.trans s811) (s11 _ _ hl10) hf11 (hds8.mono s811.st) ?_ (okIt_if hsin (by omega) hasn hb9 hb10) ?_ ⟨_, _, _, _, _, rfl⟩
                · exact .tup (SqT.of upd_same) (.cons (.str _ (by decide)) (.cons (.str _ hsil) (.cons (hat.mono s811.st) (.cons ((hv9.mono s10.st).same s11) (.cons (hv10.same s11) .nil)))))
                · rw [itSites_i, hr9, hr10]
                  simp
              · walk_at "go"
                refine ⟨.inl ⟨rfl, _, SqL.of hf8⟩, ?_⟩
                walk_at "go"
                rw [en]
                refine ⟨D, l, nl, rr, ns, 3, rfl, by omega, by omega, by decide, s8.drw, hl8, hla, hlc, hnl8, hna, hnn, hne, hnlen, hrrl, hns, hrrn, fun v1 b1 r1 H9 s9 hl9 hr9 hb9 hv9 => ?_⟩
                walk_at "go"
                refine ⟨by show 4 ≤ sizeLine; omega, fun t5 ht5 => ?_⟩
                have s11 := sameNew (o := .tup [.str "while", .str site, .ref t, v1]) ht5
                have s811 := s9.trans ((Dn.same s9.drw s11).dl l)
                have hf11 := s811.lst hf8 (s0.pre.fresh hfl) nfl
                refine ⟨fl, vs, .ref t5, rfl, rfl, hf11, hvl, ?_⟩
                walk_at "go"
                refine nxt _ _ (.tuple [.str "while", .str site, .tuple (as.map .str), b1]) r1 _ (s8.trans s811) (s11 _ _ hl9) hf11 (hds8.mono s811.st) ?_ (okIt_while hsin (by omega) hasn hb9) ?_ ⟨_, _, _, _, _, rfl⟩
                · exact .tup (SqT.of upd_same) (.cons (.str _ (by decide)) (.cons (.str _ hsil) (.cons (hat.mono s811.st) (.cons (hv9.same s11) .nil))))
                · rw [itSites_w, hr9]
                  simp
    · rw [hPv] at h
      obtain ⟨y6, y7, y8, y9, y10, vs, ds, rest, rfl, s2, hl2, hf2, hds, hlen, hok, hsi⟩ := h
      walk_at "go"
      refine rd_tupL hf2 (fun t ht => ?_)
      exact fin _ _ ds rest t s2 hl2 hds (by omega) hok hsi ht
end
end MH
end
section
set_option Elab.async false
set_option linter.all false
set_option maxRecDepth 100000
set_option maxHeartbeats 8000000
set_option pp.maxSteps 1500
namespace MH
open PySem PySem.Spec PyProof.Rows L2
local macro_rules | `(tactic| walk_at "go") => `(tactic| repeat (first
  | with_reducible refine i_seq ?_ | with_reducible refine i_ifS ?_ | with_reducible refine i_ret ?_ | with_reducible refine i_drop ?_ | with_reducible refine i_asg ?_ | with_reducible refine i_name ?_
  | with_reducible refine i_next ?_ | with_reducible refine i_var (by with_unfolding_all exact rfl) ?_ | with_reducible refine i_c ?_ | with_reducible refine i_cons ?_ | with_reducible refine i_nil ?_ | with_reducible refine i_cb ?_
  | with_reducible refine i_op ?_ | with_reducible refine i_un ?_ | with_reducible refine i_call ?_ | with_reducible refine i_test ?_ | with_reducible refine i_b ?_ | with_reducible refine i_bl ?_ | with_reducible refine i_and ?_ | with_reducible refine i_or ?_
  | with_reducible refine i_not ?_ | with_reducible refine i_andV ?_ | with_reducible refine i_orV ?_ | with_reducible refine i_notV ?_ | with_reducible refine i_if ?_ | with_reducible refine i_chain ?_ | with_reducible refine i_tup ?_ | with_reducible refine i_lst ?_
  | with_reducible refine i_sl ?_ | with_reducible refine i_part ?_ | with_reducible refine i_nopart ?_ | with_reducible refine i_int ?_ | with_reducible refine i_bm ?_ | with_reducible refine i_bm0 ?_ | with_reducible refine i_I0 ?_ | with_reducible refine i_lc ?_ | with_reducible refine i_disp ?_ | with_reducible refine i_pairsC ?_ | with_reducible refine i_pairsN ?_ | with_reducible refine i_dget2 ?_ | with_reducible refine i_gsub ?_ | with_reducible refine i_raiseB ?_ | with_reducible refine i_make ?_ | with_reducible refine i_gcons ?_ | with_reducible refine i_gnil ?_ | with_reducible refine i_enum ?_ | with_reducible refine i_isN ?_ | with_reducible refine i_notN ?_ | with_reducible refine i_fld ?_ | with_reducible refine i_sfld ?_ | with_reducible refine i_meth ?_ | with_reducible refine i_rU ?_ | with_reducible refine i_dputN ?_ | with_reducible refine i_dput ?_ | with_reducible refine i_dget ?_ | with_reducible refine i_rng1 ?_ | with_reducible refine i_dinP ?_ | with_reducible refine i_raiseA ?_ | with_reducible refine i_lenSetS ?_ | with_reducible refine i_for ?_ | with_reducible refine i_yes ?_ | with_reducible refine i_eqS ?_ | with_reducible refine i_neS ?_ | with_reducible refine i_eqI ?_ | with_reducible refine i_neI ?_
  | with_reducible refine i_retN ?_ | with_reducible refine i_brk ?_ | with_reducible refine i_cont ?_ | with_reducible refine i_par ?_ | with_reducible refine i_par3 ?_ | with_reducible refine i_two ?_ | with_reducible refine i_three ?_
  | with_reducible refine i_itup ?_ | with_reducible refine i_ilist ?_ | with_reducible refine i_istr ?_ | with_reducible refine i_str ?_ | with_reducible refine i_m1 ?_ | with_reducible refine i_anystr ?_
  | with_reducible refine iteT ?_ | with_reducible refine iteF ?_))
section
variable {P : Program} {w : World} {K : Fg} {mg : Str → Option Value} {base : Heap}
theorem k__law_body_no (T : Tx K mg) : Keeps P w K mg base CX0 5 "_law_body" ["draw", "left", "names", "deep", "most"] spNo := T.kp__law_body fun fd F => F.ok sc__law_body (fun vs H Q E h => h.elim) (fun cdv A outer s H vs Q E hr h => h.elim)
theorem k__law_body (T : Tx K mg) : ∀ n, Keeps P w K mg base CX0 (n + 6) "_law_body" ["draw", "left", "names", "deep", "most"] (spDBody (K := K) n)
  | 0 => k__law_body_step T 0 (k__law_body_no T)
  | n + 1 => k__law_body_step T (n + 1) (k__law_body T n)
def sitesL : List Str := ["fa", "ga", "ha", "ka", "la", "ma", "ra", "sa", "ta", "wa"]
def namesL : List Str := ["p", "q", "u", "v"]
def spDProg : Sp := fun vs H Q _ => ∃ A : DA, vs = [.ref A.d, .int 9, .int 5] ∧ Drw A H ∧ ∀ v p H', Dn K A H H' → (isProgD p = true ∧ (sitesD 5 ((tupD p).getD 1 .none)).length ≤ 10) → Dt K H' v p → Q v H'
theorem k__law_program (T : Tx K mg) : Keeps P w K mg base CX0 10 "_law_program" ["draw", "many", "most"] (spDProg (K := K)) := T.kp__law_program fun fd F => by
  refine F.ok sc__law_program (fun vs H Q E h => ?_) (fun cdv A outer s H vs Q E hr h => ?_)
  · obtain ⟨A, rfl, _⟩ := h
    rfl
  · obtain ⟨D, rfl, hd, q⟩ := h
    refine ⟨_, PSs.nox (pss_cons (ps_set (i := 3) sc__law_program.nd rfl (by first | exact Or.inl rfl | exact Or.inr rfl) (pe_slice sl_list (pe_k (k__law_shuffled T) (hr.mono (by omega)) pass0 (pa_cons (pv 0) (pa_cons (pe_lst (pa_cons pe_str (pa_cons pe_str (pa_cons pe_str (pa_cons pe_str (pa_cons pe_str (pa_cons pe_str (pa_cons pe_str (pa_cons pe_str (pa_cons pe_str (pa_cons pe_str pa_nil))))))))))) pa_nil))) po_none (po_some (pe_op op_add pe_int (pe_k (k__law_take T) (hr.mono (by omega)) pass0 (pa_cons (pv 0) (pa_cons (pv 1) pa_nil)))))))
      (pss_cons (ps_set (i := 4) sc__law_program.nd rfl (by first | exact Or.inl rfl | exact Or.inr rfl) (pe_slice sl_list (pe_lst (pa_cons pe_str (pa_cons pe_str (pa_cons pe_str (pa_cons pe_str pa_nil))))) po_none (po_some (pe_op op_add pe_int (pe_k (k__law_take T) (hr.mono (by omega)) pass0 (pa_cons (pv 0) (pa_cons pe_int pa_nil)))))))
      (pss_one (ps_ret (pe_tup (pa_cons pe_str (pa_cons (pe_k (k__law_body T 3) (hr.mono (by omega)) pass0 (pa_cons (pv 0) (pa_cons (pv 3) (pa_cons (pv 4) (pa_cons pe_int (pa_cons (pv 2) pa_nil)))))) pa_nil))))))), ?_⟩
    have sz : sizeLine > 1000000 := by decide
    walk_at "go"
    refine ⟨by show 10 ≤ sizeLine; omega, fun pl hpl => ?_⟩
    have s1 := Dn.same (K := K) hd (sameNew (o := .lst (sitesL.map V.str)) hpl)
    walk_at "go"
    refine ⟨D, pl, sitesL, rfl, upd_same, by decide, s1.drw, fun l1 ys H2 hl1 s2 e2 hp2 => ?_⟩
    have s02 := s1.trans s2
    walk_at "go"
    refine ⟨D, 9, rfl, by decide, by decide, s2.drw, fun k H3 hk s3 => ?_⟩
    have s03 := s02.trans s3
    have e3 := s3.lst e2 (s1.drw.fresh hl1)
    walk_at "go"
    rw [show (1 : Int) + (k : Nat) = ((1 + k : Nat) : Int) by omega]
    refine rd_slL e3 (fun l2 hl2 => ?_)
    rw [cutV_take, ← List.map_take]
    have n1 : l2 ≠ D.la := s3.drw.fresh hl2
    have n2 : l2 ≠ D.cs := fun z => by
      obtain ⟨C, qc⟩ := s3.drw.cells
      rw [← z, hl2] at qc
      cases qc
    have s4 := sameNew (o := .lst ((ys.take (1 + k)).map V.str)) hl2
    have s04 := s03.trans (Dn.same s3.drw s4)
    have l4 := upd_same (H := H3) (a := l2) (o := .lst ((ys.take (1 + k)).map V.str))
    generalize upd H3 l2 (.lst ((ys.take (1 + k)).map V.str)) = H4 at s04 l4 ⊢
    walk_at "go"
    refine ⟨by show 4 ≤ sizeLine; omega, fun pn hpn => ?_⟩
    have s5 := sameNew (o := .lst (namesL.map V.str)) hpn
    have s05 := s04.trans (Dn.same s04.drw s5)
    have l5 := s5 _ _ l4
    have p5 := upd_same (H := H4) (a := pn) (o := .lst (namesL.map V.str))
    walk_at "go"
    refine ⟨D, 3, rfl, by decide, by decide, s05.drw, fun k2 H6 hk2 s6 => ?_⟩
    have s06 := s05.trans s6
    walk_at "go"
    rw [show (2 : Int) + (k2 : Nat) = ((2 + k2 : Nat) : Int) by omega]
    have hpnla := s04.drw.fresh hpn
    have p6 := s6.lst p5 hpnla
    have l6 := s6.lst l5 n1
    refine rd_slL p6 (fun nl hnl => ?_)
    rw [cutV_take, ← List.map_take]
    have s7 := sameNew (o := .lst ((namesL.take (2 + k2)).map V.str)) hnl
    have s07 := s06.trans (Dn.same s6.drw s7)
    have l7 := s7 _ _ l6
    have n7 := upd_same (H := H6) (a := nl) (o := .lst ((namesL.take (2 + k2)).map V.str))
    have nnl : nl ≠ l2 := (ne_of_none l6 hnl).symm
    generalize upd H6 nl (.lst ((namesL.take (2 + k2)).map V.str)) = H7 at s07 l7 n7 ⊢
    have hys : ∀ x ∈ ys.take (1 + k), isName x = true := fun x hx => (show ∀ x ∈ sitesL, isName x = true by decide) x (hp2.subset (List.mem_of_mem_take hx))
    have hns : ∀ x ∈ namesL.take (2 + k2), isName x = true := fun x hx => (show ∀ x ∈ namesL, isName x = true by decide) x (List.mem_of_mem_take hx)
    have hyl : ys.length = 10 := hp2.length_eq
    have hynd : ys.Nodup := hp2.nodup_iff.mpr (by decide)
    walk_at "go"
    refine ⟨D, l2, nl, ys.take (1 + k), namesL.take (2 + k2), 5, rfl, by decide, by decide, by decide, s07.drw, l7, n1, n2, n7, s6.drw.fresh hnl, nnl, ?_, ?_, ?_, hns, hys, fun v b rest H8 s8 hl8 hls hb hv => ?_⟩
    · rw [show 2 + k2 = (1 + k2) + 1 by omega]
      exact List.cons_ne_nil _ _
    · have := List.length_take_le (2 + k2) namesL
      have e : namesL.length = 4 := rfl
      have := List.length_take_le' (2 + k2) namesL
      omega
    · have := List.length_take_le' (1 + k) ys
      omega
    · walk_at "go"
      refine ⟨by show 2 ≤ sizeLine; omega, fun t ht => ?_⟩
      have s9 := sameNew (o := .tup [.str "program", v]) ht
      have hnew : H l2 = none := by
        cases h : H l2 with
        | none => rfl
        | some o => 
          have := s03.keep l2 o (fun z => by
            obtain ⟨r, t, qd⟩ := s3.drw.dict
            rw [← z, hl2] at qd
            cases qd) n1 h
          rw [hl2] at this
          cases this
      refine q _ (.tuple [.str "program", b]) _ ⟨hd, fun a o h1 h2 h3 => s9 _ _ (s8.keep a o h1 h2 (fun z => by rw [z, hnew] at h3; cases h3) (s07.keep a o h1 h2 h3)), (s07.st.trans s8.st).trans (StT.same s9), s8.drw.same s9⟩ ?_ (.tup (SqT.of upd_same) (.cons (.str _ (by decide)) (.cons (hv.same s9) .nil)))
      have hb4 : isBodyD 4 b = true := isBodyD_mono hb
      have hs4 : sitesD 5 b = sitesD 4 b := sitesD_mono hb
      have hls : ys.take (1 + k) = rest ++ (sitesD 4 b).reverse := hls
      have hlen : (sitesD 5 b).length ≤ 10 := by
        have := List.length_take_le' (1 + k) ys
        rw [hls] at this
        simp at this
        rw [hs4]
        omega
      have hnd : (sitesD 5 b).Nodup := by
        have h1 : (ys.take (1 + k)).Nodup := hynd.sublist (List.take_sublist _ _)
        rw [hls] at h1
        rw [hs4]
        exact ((List.reverse_perm _).nodup_iff).mp ((List.nodup_append.mp h1).2.1)
      refine ⟨?_, hlen⟩
      show (decide (Str.ofString "program" = Str.ofString "program") && (isBodyD 4 b && (decide ((sitesD 5 b).length ≤ 40) && decide (sitesD 5 b).Nodup))) = true
      rw [hb4, decide_eq_true (show (sitesD 5 b).length ≤ 40 by omega), decide_eq_true hnd]
      rfl
end
end MH
end
section
set_option linter.all false
set_option maxRecDepth 100000
/-! the mathematics: how long joined words are -/
namespace MH
open PySem
def wq (ws : List Str) : Nat := (ws.map (·.length)).sum + ws.length
theorem wq_cons (w : Str) (ws : List Str) : wq (w :: ws) = w.length + 1 + wq ws := by
  unfold wq
  rw [List.map_cons, List.sum_cons, List.length_cons]
  omega
theorem wq_app : ∀ (a b : List Str), wq (a ++ b) = wq a + wq b
  | [], b => by simp [wq]
  | w :: a, b => by rw [List.cons_append, wq_cons, wq_cons, wq_app a b]; omega
theorem wq_one (w : Str) : wq [w] = w.length + 1 := by rw [wq_cons]; rfl
theorem wq_cut (ws : List Str) (i j : Nat) (h : i ≤ j) : wq (ws.take i ++ ws.drop j) ≤ wq ws := by
  have e : ws = ws.take i ++ (ws.drop i) := (List.take_append_drop i ws).symm
  have e2 : ws.drop i = (ws.drop i).take (j - i) ++ ws.drop j := by
    have := (List.take_append_drop (j - i) (ws.drop i)).symm
    rw [List.drop_drop] at this
    rw [show i + (j - i) = j by omega] at this
    exact this
  have h1 : wq ws = wq (ws.take i) + wq (ws.drop i) := by rw [← wq_app, ← e]
  have h2 : wq (ws.drop i) = wq ((ws.drop i).take (j - i)) + wq (ws.drop j) := by rw [← wq_app, ← e2]
  rw [wq_app]
  omega
theorem wq_set : ∀ (ws : List Str) (k : Nat) (y : Str), wq (ws.set k y) ≤ wq ws + y.length
  | [], _, _ => by simp [wq]
  | w :: ws, 0, y => by rw [List.set_cons_zero, wq_cons, wq_cons]; omega
  | w :: ws, k + 1, y => by
    rw [List.set_cons_succ, wq_cons, wq_cons]
    have := wq_set ws k y
    omega
theorem join_wq (ws : List Str) : (Txt.join " " ws).length ≤ wq ws := by
  rw [TL.join_eq]
  have h1 := StrLaws.join_length_le " " ws
  have h3 : (Str.ofString " ").length = 1 := by decide
  rw [h3] at h1
  unfold wq
  omega
theorem split_wq (x : Str) : wq (Txt.split x " ") ≤ x.length + 1 := by
  rw [sp_eq]
  exact split_sum x 32
theorem wq_mem {ws : List Str} {y : Str} (h : y ∈ ws) : y.length + 1 ≤ wq ws := by
  have := mem_sum h
  have h3 : 1 ≤ ws.length := List.length_pos_of_mem h
  unfold wq
  omega
theorem wq_len (ws : List Str) : ws.length ≤ wq ws := by
  unfold wq
  omega
end MH
end
section
set_option Elab.async false
set_option linter.all false
set_option maxRecDepth 100000
set_option maxHeartbeats 8000000
set_option pp.maxSteps 1500
namespace MH
open PySem PySem.Spec PyProof.Rows L2
local macro_rules | `(tactic| walk_at "go") => `(tactic| repeat (first
  | with_reducible refine i_seq ?_ | with_reducible refine i_ifS ?_ | with_reducible refine i_ret ?_ | with_reducible refine i_drop ?_ | with_reducible refine i_asg ?_ | with_reducible refine i_name ?_
  | with_reducible refine i_next ?_ | with_reducible refine i_var (by with_unfolding_all exact rfl) ?_ | with_reducible refine i_c ?_ | with_reducible refine i_cons ?_ | with_reducible refine i_nil ?_ | with_reducible refine i_cb ?_
  | with_reducible refine i_op ?_ | with_reducible refine i_un ?_ | with_reducible refine i_call ?_ | with_reducible refine i_test ?_ | with_reducible refine i_b ?_ | with_reducible refine i_bl ?_ | with_reducible refine i_and ?_ | with_reducible refine i_or ?_
  | with_reducible refine i_not ?_ | with_reducible refine i_andV ?_ | with_reducible refine i_orV ?_ | with_reducible refine i_notV ?_ | with_reducible refine i_if ?_ | with_reducible refine i_chain ?_ | with_reducible refine i_tup ?_ | with_reducible refine i_lst ?_
  | with_reducible refine i_sl ?_ | with_reducible refine i_part ?_ | with_reducible refine i_nopart ?_ | with_reducible refine i_int ?_ | with_reducible refine i_bm ?_ | with_reducible refine i_bm0 ?_ | with_reducible refine i_I0 ?_ | with_reducible refine i_lc ?_ | with_reducible refine i_disp ?_ | with_reducible refine i_pairsC ?_ | with_reducible refine i_pairsN ?_ | with_reducible refine i_dget2 ?_ | with_reducible refine i_gsub ?_ | with_reducible refine i_raiseB ?_ | with_reducible refine i_make ?_ | with_reducible refine i_gcons ?_ | with_reducible refine i_gnil ?_ | with_reducible refine i_enum ?_ | with_reducible refine i_isN ?_ | with_reducible refine i_notN ?_ | with_reducible refine i_fld ?_ | with_reducible refine i_sfld ?_ | with_reducible refine i_meth ?_ | with_reducible refine i_rU ?_ | with_reducible refine i_dputN ?_ | with_reducible refine i_dput ?_ | with_reducible refine i_dget ?_ | with_reducible refine i_rng1 ?_ | with_reducible refine i_dinP ?_ | with_reducible refine i_raiseA ?_ | with_reducible refine i_lenSetS ?_ | with_reducible refine i_for ?_ | with_reducible refine i_yes ?_ | with_reducible refine i_eqS ?_ | with_reducible refine i_neS ?_ | with_reducible refine i_eqI ?_ | with_reducible refine i_neI ?_
  | with_reducible refine i_retN ?_ | with_reducible refine i_brk ?_ | with_reducible refine i_cont ?_ | with_reducible refine i_par ?_ | with_reducible refine i_par3 ?_ | with_reducible refine i_two ?_ | with_reducible refine i_three ?_
  | with_reducible refine i_itup ?_ | with_reducible refine i_ilist ?_ | with_reducible refine i_istr ?_ | with_reducible refine i_str ?_ | with_reducible refine i_m1 ?_ | with_reducible refine i_anystr ?_
  | with_reducible refine iteT ?_ | with_reducible refine iteF ?_))
section
variable {P : Program} {w : World} {K : Fg} {mg : Str → Option Value} {base : Heap}
def pk0 : List Str := ["end", "else", "", " ", "do fa p", "if ta", "while wa p q", "do", "end end", "else ", "if", "do na p q q q q"]
def pk1 : List Str := ["", "end", "else", "do f a", "if t", "x"]
def pk4 : List Str := ["end", "no", "zz", "", "Ab", "abcdefgh", "abcdefghi", "do", "if", "while", "p1", "first"]
def pk6 : List Str := ["p", "zz", "end", ""]
def pk8 : List Str := [" ", "x", "\n", "\t", "A", "-"]
theorem cutV_mid (xs : List V) (a b : Nat) (ha : a ≤ xs.length) (hb : b ≤ xs.length) : cutV xs (some (a : Int)) (some (b : Int)) = (xs.drop a).take (b - a) := by
  unfold cutV
  rw [HT.sIx_nat, HT.sIx_nat, Nat.min_eq_left ha, Nat.min_eq_left hb]
theorem cutS_two (z : Str) (k : Nat) : (cutS z none (some (k : Int))).length + (cutS z (some (k : Int)) none).length ≤ z.length := by
  have h : z.cps.toList.length = z.length := by simp [Str.length]
  unfold cutS
  simp only [HT.sIx_nat, HT.sIx_none, Str.length, List.size_toArray, List.length_take, List.length_drop]
  have h2 : z.cps.toList.length = z.cps.size := by simp
  omega
/-- one of some texts is picked -/
theorem pick_of {A : DA} {pk : List Str} {H : Hp} {p : Addr} {B : Nat} {Q : VK} (hd : Drw A H) (hp : H p = none) (h0 : pk ≠ []) (hl : pk.length < 1000) (hB : ∀ x ∈ pk, x.length ≤ B) (q : ∀ y H', y.length ≤ B → Dn K A H H' → Q (.str y) H') : spPick (K := K) [.ref A.d, .ref p] (upd H p (.lst (pk.map V.str))) Q E0 := by
  have s1 := Dn.same (K := K) hd (sameNew (o := .lst (pk.map V.str)) hp)
  refine ⟨A, p, pk.map V.str, rfl, upd_same, by simpa using h0, by rw [List.length_map]; omega, hd.fresh hp, s1.drw, fun x H' hx s2 => ?_⟩
  obtain ⟨y, hy, rfl⟩ := List.mem_map.mp hx
  exact q y H' (hB y hy) (s1.trans s2)
def spBent : Sp := fun vs H Q _ => ∃ (A : DA) (l : Addr) (ls : List Str) (mx : Nat), vs = [.ref A.d, .ref l] ∧ Drw A H ∧ H l = some (.lst (ls.map V.str)) ∧ l ≠ A.la ∧ ls.length ≤ 1000 ∧ mx ≤ 1000 ∧ (∀ x ∈ ls, x.length ≤ mx) ∧
  ∀ a (fs : List Str) H', Dn K A H H' → H a = none → H' a = some (.lst (fs.map V.str)) → fs.length ≤ ls.length + 1 → (∀ x ∈ fs, x.length ≤ mx + 16) → Q (.ref a) H'
theorem k__law_bent_lines (T : Tx K mg) : Keeps P w K mg base CX0 4 "_law_bent_lines" ["draw", "lines"] (spBent (K := K)) := T.kp__law_bent_lines fun fd F => by
  refine F.ok sc__law_bent_lines (fun vs H Q E h => ?_) (fun cdv A outer s H vs Q E hr h => ?_)
  · obtain ⟨A, l, ls, mx, rfl, _⟩ := h
    rfl
  · obtain ⟨D, l, ls, mx, rfl, hd, hl, hla, hn, hmx, hx, q⟩ := h
    refine ⟨_, PSs.nox (pss_cons (ps_par3 (i := 2) (j := 3) (l := 4) (by rfl) sc__law_bent_lines.nd rfl rfl rfl (by decide) (by decide) (by decide) rfl rfl rfl (pa_cons (pe_k (k__law_take T) (hr.mono (by omega)) pass0 (pa_cons (pv 0) (pa_cons (pe_op op_add (pe_callB call_lenS (by rfl) T.b_len (by decide +kernel) (pa_cons (pv 1) pa_nil)) pe_int) pa_nil))) (pa_cons (pe_k (k__law_take T) (hr.mono (by omega)) pass0 (pa_cons (pv 0) (pa_cons pe_int pa_nil))) (pa_cons (pe_callTy (T := "list") (call_lstK (K := K) rfl) (by rfl) T.b_list (by decide +kernel) (pa_cons (pv 1) pa_nil)) pa_nil))) (by rfl))
      (pss_cons (ps_if (pt_cmpR op_eq (pv 3) pe_int (nomark _)) (pss_one (ps_ret (pe_op op_cat (pe_op op_cat (pe_slice sl_list (pv 4) po_none (po_some (pv 2))) (pe_lst (pa_cons (pe_k (k__law_pick T) (hr.mono (by omega)) pass0 (pa_cons (pv 0) (pa_cons (pe_lst (pa_cons pe_str (pa_cons pe_str (pa_cons pe_str (pa_cons pe_str (pa_cons pe_str (pa_cons pe_str (pa_cons pe_str (pa_cons pe_str (pa_cons pe_str (pa_cons pe_str (pa_cons pe_str (pa_cons pe_str pa_nil))))))))))))) pa_nil))) pa_nil))) (pe_slice sl_list (pv 4) (po_some (pv 2)) po_none)))) pss_nil)
      (pss_cons (ps_if (pt_cmpR (op_eqL0 hr.units) (pv 1) (pe_lst pa_nil) (nomark _)) (pss_one (ps_ret (pe_lst (pa_cons (pe_k (k__law_pick T) (hr.mono (by omega)) pass0 (pa_cons (pv 0) (pa_cons (pe_lst (pa_cons pe_str (pa_cons pe_str (pa_cons pe_str (pa_cons pe_str (pa_cons pe_str (pa_cons pe_str pa_nil))))))) pa_nil))) pa_nil)))) pss_nil)
      (pss_cons (ps_set (i := 2) sc__law_bent_lines.nd rfl (by first | exact Or.inl rfl | exact Or.inr rfl) (pe_k (k__law_take T) (hr.mono (by omega)) pass0 (pa_cons (pv 0) (pa_cons (pe_callB call_lenS (by rfl) T.b_len (by decide +kernel) (pa_cons (pv 1) pa_nil)) pa_nil))))
      (pss_cons (ps_if (pt_cmpR op_eq (pv 3) pe_int (nomark _)) (pss_one (ps_ret (pe_op op_cat (pe_slice sl_list (pv 4) po_none (po_some (pv 2))) (pe_slice sl_list (pv 4) (po_some (pe_op op_add (pv 2) pe_int)) po_none)))) pss_nil)
      (pss_cons (ps_if (pt_cmpR op_eq (pv 3) pe_int (nomark _)) (pss_one (ps_ret (pe_op op_cat (pe_op op_cat (pe_slice sl_list (pv 4) po_none (po_some (pv 2))) (pe_slice sl_list (pv 4) (po_some (pv 2)) (po_some (pe_op op_add (pv 2) pe_int)))) (pe_slice sl_list (pv 4) (po_some (pv 2)) po_none)))) pss_nil)
      (pss_cons (ps_if (pt_cmpR op_eq (pv 3) pe_int (nomark _)) (pss_cons (ps_set (i := 5) sc__law_bent_lines.nd rfl (by first | exact Or.inl rfl | exact Or.inr rfl) (pe_k (k__law_take T) (hr.mono (by omega)) pass0 (pa_cons (pv 0) (pa_cons (pe_callB call_lenS (by rfl) T.b_len (by decide +kernel) (pa_cons (pv 1) pa_nil)) pa_nil))))
      (pss_cons (ps_asg (pe_tup (pa_cons (pe_ix ix_list (pv 4) (pv 5) (fun _ _ => rfl)) (pa_cons (pe_ix ix_list (pv 4) (pv 2) (fun _ _ => rfl)) pa_nil))) (pg_tup rfl (pgs_cons (pg_sub (pv 4) (pv 2) set_list) (pgs_cons (pg_sub (pv 4) (pv 5) set_list) pgs_nil))))
      (pss_one (ps_ret (pv 4))))) pss_nil)
      (pss_cons (ps_set (i := 6) sc__law_bent_lines.nd rfl (by first | exact Or.inl rfl | exact Or.inr rfl) (pe_split (pe_ix ix_list (pv 4) (pv 2) (fun _ _ => rfl)) pe_str))
      (pss_cons (ps_set (i := 7) sc__law_bent_lines.nd rfl (by first | exact Or.inl rfl | exact Or.inr rfl) (pe_k (k__law_take T) (hr.mono (by omega)) pass0 (pa_cons (pv 0) (pa_cons (pe_callB call_lenS (by rfl) T.b_len (by decide +kernel) (pa_cons (pv 6) pa_nil)) pa_nil))))
      (pss_cons (ps_if (pt_cmpR op_eq (pv 3) pe_int (nomark _)) (pss_one (ps_asg (pe_k (k__law_pick T) (hr.mono (by omega)) pass0 (pa_cons (pv 0) (pa_cons (pe_lst (pa_cons pe_str (pa_cons pe_str (pa_cons pe_str (pa_cons pe_str (pa_cons pe_str (pa_cons pe_str (pa_cons pe_str (pa_cons pe_str (pa_cons pe_str (pa_cons pe_str (pa_cons pe_str (pa_cons pe_str pa_nil))))))))))))) pa_nil))) (pg_sub (pv 6) (pv 7) set_list))) pss_nil)
      (pss_cons (ps_if (pt_cmpR op_eq (pv 3) pe_int (nomark _)) (pss_one (ps_set (i := 6) sc__law_bent_lines.nd rfl (by first | exact Or.inl rfl | exact Or.inr rfl) (pe_op op_cat (pe_slice sl_list (pv 6) po_none (po_some (pv 7))) (pe_slice sl_list (pv 6) (po_some (pe_op op_add (pv 7) pe_int)) po_none)))) pss_nil)
      (pss_cons (ps_if (pt_cmpR op_eq (pv 3) pe_int (nomark _)) (pss_one (ps_set (i := 6) sc__law_bent_lines.nd rfl (by first | exact Or.inl rfl | exact Or.inr rfl) (pe_op op_cat (pv 6) (pe_lst (pa_cons (pe_k (k__law_pick T) (hr.mono (by omega)) pass0 (pa_cons (pv 0) (pa_cons (pe_lst (pa_cons pe_str (pa_cons pe_str (pa_cons pe_str (pa_cons pe_str pa_nil))))) pa_nil))) pa_nil))))) pss_nil)
      (pss_cons (ps_asg (pe_join pe_str (pv 6)) (pg_sub (pv 4) (pv 2) set_list))
      (pss_cons (ps_if (pt_cmpR op_eq (pv 3) pe_int (nomark _)) (pss_one (ps_ret (pe_slice sl_list (pv 4) po_none (po_some (pv 2))))) pss_nil)
      (pss_cons (ps_if (pt_cmpR op_eq (pv 3) pe_int (nomark _)) (pss_cons (ps_set (i := 8) sc__law_bent_lines.nd rfl (by first | exact Or.inl rfl | exact Or.inr rfl) (pe_k (k__law_take T) (hr.mono (by omega)) pass0 (pa_cons (pv 0) (pa_cons (pe_op op_add (pe_callB call_len (by rfl) T.b_len (by decide +kernel) (pa_cons (pe_ix ix_list (pv 4) (pv 2) (fun _ _ => rfl)) pa_nil)) pe_int) pa_nil))))
      (pss_one (ps_asg (pe_op op_add_str (pe_op op_add_str (pe_slice sl_str (pe_ix ix_list (pv 4) (pv 2) (fun _ _ => rfl)) po_none (po_some (pv 8))) (pe_k (k__law_pick T) (hr.mono (by omega)) pass0 (pa_cons (pv 0) (pa_cons (pe_lst (pa_cons pe_str (pa_cons pe_str (pa_cons pe_str (pa_cons pe_str (pa_cons pe_str (pa_cons pe_str pa_nil))))))) pa_nil)))) (pe_slice sl_str (pe_ix ix_list (pv 4) (pv 2) (fun _ _ => rfl)) (po_some (pv 8)) po_none)) (pg_sub (pv 4) (pv 2) set_list)))) pss_nil)
      (pss_one (ps_ret (pv 4)))))))))))))))))), ?_⟩
    have sz : sizeLine > 1000000 := by decide
    walk_at "go"
    refine rd_lenL hl ?_
    walk_at "go"
    rw [List.length_map]
    refine ⟨D, ls.length + 1, rfl, by simp, by omega, hd, fun at0 H1 hat0 s1 => ?_⟩
    walk_at "go"
    refine ⟨D, 9, rfl, by decide, by decide, s1.drw, fun way H2 hway s2 => ?_⟩
    have s02 := s1.trans s2
    have hl2 := s02.lst hl hla
    walk_at "go"
    refine ⟨l, _, rfl, .inl (SqL.of hl2), fun fl hfl => ?_⟩
    have sf := sameNew (o := .lst (ls.map V.str)) hfl
    have s03 := s02.trans (Dn.same s2.drw sf)
    have hl3 := sf _ _ hl2
    have hf3 := upd_same (H := H2) (a := fl) (o := .lst (ls.map V.str))
    have hflH := s02.none hfl
    have hfla := s2.drw.fresh hfl
    generalize upd H2 fl (.lst (ls.map V.str)) = H3 at s03 hl3 hf3 ⊢
    walk_at "go"
    have hx16 : ∀ x ∈ ls, x.length ≤ mx + 16 := fun x h => Nat.le_trans (hx x h) (by omega)
    have tk : ∀ k, ∀ x ∈ ls.take k, x.length ≤ mx + 16 := fun k x h => hx16 x (List.mem_of_mem_take h)
    have dr : ∀ k, ∀ x ∈ ls.drop k, x.length ≤ mx + 16 := fun k x h => hx16 x (List.mem_of_mem_drop h)
    refine ifb (fun k1 => ?_) (fun k1 => ?_)
    · walk_at "go"
      refine rd_slL hf3 (fun a1 ha1 => ?_)
      rw [cutV_take, ← List.map_take]
      have s4 := s03.trans (Dn.same s03.drw (sameNew (o := .lst ((ls.take at0).map V.str)) ha1))
      have hf4 := sameNew (o := .lst ((ls.take at0).map V.str)) ha1 _ _ hf3
      have la4 := upd_same (H := H3) (a := a1) (o := .lst ((ls.take at0).map V.str))
      have na1 := s03.drw.fresh ha1
      generalize upd H3 a1 (.lst ((ls.take at0).map V.str)) = H4 at s4 hf4 la4 ⊢
      walk_at "go"
      refine ⟨by show 12 ≤ sizeLine; omega, fun p hp => ?_⟩
      refine pick_of (pk := pk0) (B := 15) s4.drw hp (by decide) (by decide) (by decide) (fun y H5 hy s5 => ?_)
      have s05 := s4.trans s5
      have la5 := s5.lst la4 na1
      have hf5 := s5.lst hf4 hfla
      walk_at "go"
      refine ⟨le1, fun p2 hp2 => ?_⟩
      have s6 := sameNew (o := .lst [.str y]) hp2
      refine rd_cat (s6 _ _ la5) upd_same (by rw [List.length_map, List.length_take]; show _ + 1 ≤ _; omega) (fun p3 hp3 => ?_)
      have s7 := sameNew (o := .lst ((ls.take at0).map V.str ++ [.str y])) hp3
      have hf7 := s7 _ _ (s6 _ _ hf5)
      have s67 := s6.trans s7
      have la7 := upd_same (H := upd H5 p2 (.lst [.str y])) (a := p3) (o := .lst ((ls.take at0).map V.str ++ [.str y]))
      have s07 := s05.trans (Dn.same s05.drw s67)
      generalize upd (upd H5 p2 (.lst [.str y])) p3 (.lst ((ls.take at0).map V.str ++ [.str y])) = H7 at s07 hf7 la7 ⊢
      walk_at "go"
      refine rd_slL hf7 (fun a8 ha8 => ?_)
      rw [cutV_drop, ← List.map_drop]
      have s8 := sameNew (o := .lst ((ls.drop at0).map V.str)) ha8
      refine rd_cat (s8 _ _ la7) upd_same (by rw [List.length_append, List.length_map, List.length_take, List.length_map, List.length_drop]; show _ + 1 + _ ≤ _; omega) (fun a9 ha9 => ?_)
      have s9 := sameNew (o := .lst ((ls.take at0).map V.str ++ [.str y] ++ (ls.drop at0).map V.str)) ha9
      refine q a9 (ls.take at0 ++ [y] ++ ls.drop at0) _ (s07.trans (Dn.same s07.drw (s8.trans s9))) ((s07.trans (Dn.same s07.drw s8)).none ha9) (by rw [upd_same, List.map_append, List.map_append]; rfl) ?_ ?_
      · simp only [List.length_append, List.length_take, List.length_drop, List.length_cons, List.length_nil]
        omega
      · intro x hx1
        simp only [List.mem_append, List.mem_singleton] at hx1
        rcases hx1 with (h | rfl) | h
        · exact tk _ x h
        · omega
        · exact dr _ x h
    · walk_at "go"
      refine ⟨by decide, fun pe hpe => ?_⟩
      have sE := sameNew (o := .lst []) hpe
      have s04 := s03.trans (Dn.same s03.drw sE)
      have hl4 := sE _ _ hl3
      have hf4 := sE _ _ hf3
      have he := upd_same (H := H3) (a := pe) (o := .lst [])
      generalize upd H3 pe (.lst []) = H4 at s04 hl4 hf4 he ⊢
      refine rd_eqL0 hl4 he ?_
      walk_at "go"
      cases ls with
      | nil =>
        refine ift rfl ?_
        walk_at "go"
        refine ⟨by show 6 ≤ sizeLine; omega, fun p hp => ?_⟩
        refine pick_of (pk := pk1) (B := 15) s04.drw hp (by decide) (by decide) (by decide) (fun y H5 hy s5 => ?_)
        walk_at "go"
        refine ⟨le1, fun p2 hp2 => ?_⟩
        have s05 := s04.trans s5
        refine q p2 [y] _ (s05.trans (Dn.same s05.drw (sameNew hp2))) (s05.none hp2) upd_same (by simp) (fun x h => by rw [List.mem_singleton.mp h]; omega)
      | cons l0 lr =>
        refine ife rfl ?_
        generalize els : l0 :: lr = ls at *
        have hpos : 0 < ls.length := by rw [← els]; simp
        walk_at "go"
        refine rd_lenL hl4 ?_
        walk_at "go"
        rw [List.length_map]
        refine ⟨D, ls.length, rfl, hpos, by omega, s04.drw, fun at1 H5 hat1 s5 => ?_⟩
        have s05 := s04.trans s5
        have hf5 := s5.lst hf4 hfla
        have hl5 := s5.lst hl4 hla
        clear hf3 hl3 hf4 hl4 he
        walk_at "go"
        refine ifb (fun k2 => ?_) (fun k2 => ?_)
        · walk_at "go"
          refine rd_slL hf5 (fun a1 ha1 => ?_)
          rw [cutV_take, ← List.map_take]
          have s6 := sameNew (o := .lst ((ls.take at1).map V.str)) ha1
          have la6 := upd_same (H := H5) (a := a1) (o := .lst ((ls.take at1).map V.str))
          walk_at "go"
          refine rd_slL (s6 _ _ hf5) (fun a2 ha2 => ?_)
          rw [show ((at1 : Nat) : Int) + 1 = ((at1 + 1 : Nat) : Int) by omega, cutV_drop, ← List.map_drop]
          have s7 := sameNew (o := .lst ((ls.drop (at1 + 1)).map V.str)) ha2
          refine rd_cat (s7 _ _ la6) upd_same (by rw [List.length_map, List.length_take, List.length_map, List.length_drop]; omega) (fun a3 ha3 => ?_)
          have s8 := sameNew (o := .lst ((ls.take at1).map V.str ++ (ls.drop (at1 + 1)).map V.str)) ha3
          refine q a3 (ls.take at1 ++ ls.drop (at1 + 1)) _ (s05.trans (Dn.same s05.drw ((s6.trans s7).trans s8))) ((s05.trans (Dn.same s05.drw (s6.trans s7))).none ha3) (by rw [upd_same, List.map_append]) ?_ ?_
          · simp only [List.length_append, List.length_take, List.length_drop]
            omega
          · intro x hx1
            rcases List.mem_append.mp hx1 with h | h
            · exact tk _ x h
            · exact dr _ x h
        · walk_at "go"
          refine ifb (fun k3 => ?_) (fun k3 => ?_)
          · walk_at "go"
            refine rd_slL hf5 (fun a1 ha1 => ?_)
            rw [cutV_take, ← List.map_take]
            have s6 := sameNew (o := .lst ((ls.take at1).map V.str)) ha1
            have la6 := upd_same (H := H5) (a := a1) (o := .lst ((ls.take at1).map V.str))
            have hf6 := s6 _ _ hf5
            generalize upd H5 a1 (.lst ((ls.take at1).map V.str)) = H6 at s6 la6 hf6 ⊢
            walk_at "go"
            refine rd_slL hf6 (fun a2 ha2 => ?_)
            rw [show ((at1 : Nat) : Int) + 1 = ((at1 + 1 : Nat) : Int) by omega]
            rw [cutV_mid _ _ _ (by rw [List.length_map]; omega) (by rw [List.length_map]; omega), ← List.map_drop, ← List.map_take]
            rw [show at1 + 1 - at1 = 1 by omega]
            have s7 := sameNew (o := .lst (((ls.drop at1).take 1).map V.str)) ha2
            refine rd_cat (s7 _ _ la6) upd_same (by rw [List.length_map, List.length_take, List.length_map, List.length_take]; omega) (fun a3 ha3 => ?_)
            have s8 := sameNew (o := .lst ((ls.take at1).map V.str ++ ((ls.drop at1).take 1).map V.str)) ha3
            have hf8 := s8 _ _ (s7 _ _ hf6)
            have la8 := upd_same (H := upd H6 a2 (.lst (((ls.drop at1).take 1).map V.str))) (a := a3) (o := .lst ((ls.take at1).map V.str ++ ((ls.drop at1).take 1).map V.str))
            have s58 := (s6.trans s7).trans s8
            generalize upd (upd H6 a2 (.lst (((ls.drop at1).take 1).map V.str))) a3 (.lst ((ls.take at1).map V.str ++ ((ls.drop at1).take 1).map V.str)) = H8 at hf8 la8 s58 ⊢
            walk_at "go"
            refine rd_slL hf8 (fun a4 ha4 => ?_)
            rw [cutV_drop, ← List.map_drop]
            have s9 := sameNew (o := .lst ((ls.drop at1).map V.str)) ha4
            refine rd_cat (s9 _ _ la8) upd_same (by simp only [List.length_append, List.length_map, List.length_take, List.length_drop]; omega) (fun a5 ha5 => ?_)
            have s10 := sameNew (o := .lst ((ls.take at1).map V.str ++ ((ls.drop at1).take 1).map V.str ++ (ls.drop at1).map V.str)) ha5
            refine q a5 (ls.take at1 ++ (ls.drop at1).take 1 ++ ls.drop at1) _ (s05.trans (Dn.same s05.drw ((s58.trans s9).trans s10))) ((s05.trans (Dn.same s05.drw (s58.trans s9))).none ha5) (by rw [upd_same, List.map_append, List.map_append]) ?_ ?_
            · simp only [List.length_append, List.length_take, List.length_drop]
              omega
            · intro x hx1
              simp only [List.mem_append] at hx1
              rcases hx1 with (h | h) | h
              · exact tk _ x h
              · exact dr _ x (List.mem_of_mem_take h)
              · exact dr _ x h
          · walk_at "go"
            have at_ : ∀ k (hk : k < ls.length), (ls.map V.str)[k]? = some (.str ls[k]) := fun k hk => by rw [List.getElem?_map, List.getElem?_eq_getElem hk]; rfl
            refine ifb (fun k4 => ?_) (fun k4 => ?_)
            · walk_at "go"
              refine rd_lenL hl5 ?_
              walk_at "go"
              rw [List.length_map]
              refine ⟨D, ls.length, rfl, hpos, by omega, s05.drw, fun at2 H6 hat2 s6 => ?_⟩
              have s06 := s05.trans s6
              have hf6 := s6.lst hf5 hfla
              walk_at "go"
              refine rd_ixL hf6 (atI_nat (at_ _ hat2)) ?_
              walk_at "go"
              refine rd_ixL hf6 (atI_nat (at_ _ hat1)) ?_
              walk_at "go"
              refine ⟨by show 2 ≤ sizeLine; omega, fun t7 ht7 => ?_⟩
              have s7 := sameNew (o := .tup [.str ls[at2], .str ls[at1]]) ht7
              have hf7 := s7 _ _ hf6
              have s07 := s06.trans (Dn.same s06.drw s7)
              refine rd_gtup upd_same rfl ?_
              walk_at "go"
              refine rd_setN hf7 (by rw [List.length_map]; exact hat1) ?_
              walk_at "go"
              have s08 := s07.put hflH hf7 (ys := (ls.map V.str).set at1 (.str ls[at2]))
              refine rd_setN upd_same (by rw [List.length_set, List.length_map]; exact hat2) ?_
              have s09 := s08.put hflH upd_same (ys := ((ls.map V.str).set at1 (.str ls[at2])).set at2 (.str ls[at1]))
              walk_at "go"
              refine q fl ((ls.set at1 ls[at2]).set at2 ls[at1]) _ s09 hflH (by rw [upd_same, List.map_set, List.map_set]) (by simp) (fun x hx1 => ?_)
              rcases List.mem_or_eq_of_mem_set hx1 with h | rfl
              · rcases List.mem_or_eq_of_mem_set h with h | rfl
                · exact hx16 x h
                · exact hx16 _ (List.getElem_mem hat2)
              · exact hx16 _ (List.getElem_mem hat1)
            · walk_at "go"
              refine rd_ixL hf5 (atI_nat (at_ _ hat1)) ?_
              walk_at "go"
              have hline := hx _ (List.getElem_mem hat1)
              refine ⟨_, _, rfl, rfl, by decide, by omega, fun lw hlw => ?_⟩
              have s6 := sameNew (o := .lst ((Txt.split ls[at1] " ").map V.str)) hlw
              have s06 := s05.trans (Dn.same s05.drw s6)
              have hf6 := s6 _ _ hf5
              have hlwH := s05.none hlw
              have hlwa := s05.drw.fresh hlw
              have nfw : fl ≠ lw := ne_of_none hf5 hlw
              have hw6 := upd_same (H := H5) (a := lw) (o := .lst ((Txt.split ls[at1] " ").map V.str))
              have hwq := split_wq ls[at1]
              have hwne : 0 < (Txt.split ls[at1] " ").length := by
                rw [sp_eq]
                exact List.length_pos_iff.mpr (split_ne _ _)
              generalize Txt.split ls[at1] " " = ws at hwq hwne hw6 hf6 s06 s6 ⊢
              have hwl := wq_len ws
              generalize upd H5 lw (.lst (ws.map V.str)) = H6 at s06 hf6 hw6 ⊢
              walk_at "go"
              refine rd_lenL hw6 ?_
              walk_at "go"
              rw [List.length_map]
              refine ⟨D, ws.length, rfl, hwne, by omega, s06.drw, fun sp H7 hsp s7 => ?_⟩
              have s07 := s06.trans s7
              have hf7 := s7.lst hf6 hfla
              have hw7 := s7.lst hw6 hlwa
              clear hf6 hw6
              refine i_name ?_
              refine i_next ?_
              with_reducible refine seq_at (fun σ' H' => ∃ (ws' : List Str), σ' = [some (.ref D.d), some (.ref l), some (.int (at1 : Nat)), some (.int (way : Nat)), some (.ref fl), none, some (.ref lw), some (.int (sp : Nat)), none] ∧ Dn K D H H' ∧ H' fl = some (.lst (ls.map V.str)) ∧ H' lw = some (.lst (ws'.map V.str)) ∧ wq ws' ≤ mx + 10) (fun N hN => ?_) (fun σ' H' hc => ?_)
              · walk_at "go"
                refine ifb (fun k5 => ?_) (fun k5 => ?_)
                · walk_at "go"
                  refine ⟨by show 12 ≤ sizeLine; omega, fun p hp => ?_⟩
                  refine pick_of (pk := pk4) (B := 9) s07.drw hp (by decide) (by decide) (by decide) (fun y H8 hy s8 => ?_)
                  have s08 := s07.trans s8
                  have hf8 := s8.lst hf7 hfla
                  have hw8 := s8.lst hw7 hlwa
                  walk_at "go"
                  refine rd_setN hw8 (by rw [List.length_map]; exact hsp) ?_
                  refine hN _ _ ⟨ws.set sp y, rfl, s08.put hlwH hw8, by rw [upd_ne nfw]; exact hf8, by rw [upd_same, List.map_set], ?_⟩
                  have := wq_set ws sp y
                  omega
                · walk_at "go"
                  exact hN _ _ ⟨ws, rfl, s07, hf7, hw7, by omega⟩
              · obtain ⟨ws1, rfl, s08, hf8, hw8, hq8⟩ := hc
                clear hf7 hw7 hwq hwne hwl hsp
                with_reducible refine seq_at (fun σ' H' => ∃ (lw' : Addr) (ws' : List Str), lw' ≠ D.la ∧ σ' = [some (.ref D.d), some (.ref l), some (.int (at1 : Nat)), some (.int (way : Nat)), some (.ref fl), none, some (.ref lw'), some (.int (sp : Nat)), none] ∧ Dn K D H H' ∧ H' fl = some (.lst (ls.map V.str)) ∧ H' lw' = some (.lst (ws'.map V.str)) ∧ wq ws' ≤ mx + 10) (fun N hN => ?_) (fun σ' H2' hc => ?_)
                · walk_at "go"
                  have hl1 := wq_len ws1
                  refine ifb (fun k5 => ?_) (fun k5 => ?_)
                  · walk_at "go"
                    refine rd_slL hw8 (fun a1 ha1 => ?_)
                    rw [cutV_take, ← List.map_take]
                    have s9 := sameNew (o := .lst ((ws1.take sp).map V.str)) ha1
                    walk_at "go"
                    refine rd_slL (s9 _ _ hw8) (fun a2 ha2 => ?_)
                    rw [show ((sp : Nat) : Int) + 1 = ((sp + 1 : Nat) : Int) by omega, cutV_drop, ← List.map_drop]
                    have s10 := sameNew (o := .lst ((ws1.drop (sp + 1)).map V.str)) ha2
                    refine rd_cat (s10 _ _ upd_same) upd_same (by simp only [List.length_map, List.length_take, List.length_drop]; omega) (fun a3 ha3 => ?_)
                    have s11 := sameNew (o := .lst ((ws1.take sp).map V.str ++ (ws1.drop (sp + 1)).map V.str)) ha3
                    have s911 := (s9.trans s10).trans s11
                    walk_at "go"
                    refine hN _ _ ⟨a3, ws1.take sp ++ ws1.drop (sp + 1), (s08.drw.same (s9.trans s10)).fresh ha3, rfl, s08.trans (Dn.same s08.drw s911), s911 _ _ hf8, by rw [upd_same, List.map_append], ?_⟩
                    have := wq_cut ws1 sp (sp + 1) (by omega)
                    omega
                  · walk_at "go"
                    exact hN _ _ ⟨lw, ws1, hlwa, rfl, s08, hf8, hw8, hq8⟩
                · obtain ⟨lw2, ws2, nl2, rfl, s09, hf9, hw9, hq9⟩ := hc
                  clear hf8 hw8 s08 hq8
                  with_reducible refine seq_at (fun σ' H' => ∃ (lw' : Addr) (ws' : List Str), lw' ≠ D.la ∧ σ' = [some (.ref D.d), some (.ref l), some (.int (at1 : Nat)), some (.int (way : Nat)), some (.ref fl), none, some (.ref lw'), some (.int (sp : Nat)), none] ∧ Dn K D H H' ∧ H' fl = some (.lst (ls.map V.str)) ∧ H' lw' = some (.lst (ws'.map V.str)) ∧ wq ws' ≤ mx + 15) (fun N hN => ?_) (fun σ' H3' hc => ?_)
                  · walk_at "go"
                    have hl1 := wq_len ws2
                    refine ifb (fun k5 => ?_) (fun k5 => ?_)
                    · walk_at "go"
                      refine ⟨by show 4 ≤ sizeLine; omega, fun p hp => ?_⟩
                      refine pick_of (pk := pk6) (B := 4) s09.drw hp (by decide) (by decide) (by decide) (fun y H8 hy s8 => ?_)
                      have s10 := s09.trans s8
                      have hf10 := s8.lst hf9 hfla
                      have hw10 : H8 lw2 = some (.lst (ws2.map V.str)) := s8.lst hw9 nl2
                      walk_at "go"
                      refine ⟨le1, fun p2 hp2 => ?_⟩
                      have s11 := sameNew (o := .lst [.str y]) hp2
                      refine rd_cat (s11 _ _ hw10) upd_same (by rw [List.length_map]; show _ + 1 ≤ _; omega) (fun a3 ha3 => ?_)
                      have s12 := sameNew (o := .lst (ws2.map V.str ++ [.str y])) ha3
                      have s13 := s11.trans s12
                      walk_at "go"
                      refine hN _ _ ⟨a3, ws2 ++ [y], (s10.drw.same s11).fresh ha3, rfl, s10.trans (Dn.same s10.drw s13), s13 _ _ hf10, by rw [upd_same, List.map_append]; rfl, ?_⟩
                      rw [wq_app, wq_one]
                      omega
                    · walk_at "go"
                      exact hN _ _ ⟨lw2, ws2, nl2, rfl, s09, hf9, hw9, by omega⟩
                  · obtain ⟨lw3, ws3, nl3, rfl, s10, hf10, hw10, hq10⟩ := hc
                    clear hf9 hw9 s09 hq9
                    walk_at "go"
                    refine ⟨_, lw3, ws3, rfl, rfl, .inl (SqL.of hw10), ?_, ?_⟩
                    · have h3 : (Str.ofString " ").length = 1 := by decide
                      rw [h3]
                      unfold wq at hq10
                      omega
                    · have hj := join_wq ws3
                      generalize Txt.join " " ws3 = ln at hj
                      walk_at "go"
                      refine rd_setN hf10 (by rw [List.length_map]; exact hat1) ?_
                      have s11 := s10.put hflH hf10 (ys := (ls.map V.str).set at1 (.str ln))
                      have hf11 := upd_same (H := H3') (a := fl) (o := .lst ((ls.map V.str).set at1 (.str ln)))
                      rw [← List.map_set] at s11 hf11 ⊢
                      generalize upd H3' fl (.lst ((ls.set at1 ln).map V.str)) = H11 at s11 hf11 ⊢
                      have hfx : ∀ x ∈ ls.set at1 ln, x.length ≤ mx + 15 := fun x h => by
                        rcases List.mem_or_eq_of_mem_set h with h | rfl
                        · have := hx x h; omega
                        · omega
                      have hfl2 : (ls.set at1 ln).length = ls.length := List.length_set
                      have hat2 : at1 < (ls.set at1 ln).length := by omega
                      generalize ls.set at1 ln = fs at s11 hf11 hfx hfl2 hat2 ⊢
                      walk_at "go"
                      refine ifb (fun k5 => ?_) (fun k5 => ?_)
                      · walk_at "go"
                        refine rd_slL hf11 (fun a1 ha1 => ?_)
                        rw [cutV_take, ← List.map_take]
                        refine q a1 (fs.take at1) _ (s11.trans (Dn.same s11.drw (sameNew ha1))) (s11.none ha1) upd_same ?_ ?_
                        · rw [List.length_take]; omega
                        · intro x h
                          have := hfx x (List.mem_of_mem_take h)
                          omega
                      · walk_at "go"
                        have e1 : (fs.map V.str)[at1]? = some (.str fs[at1]) := by rw [List.getElem?_map, List.getElem?_eq_getElem hat2]; rfl
                        have hl1 := hfx _ (List.getElem_mem hat2)
                        refine ifb (fun k6 => ?_) (fun k6 => ?_)
                        · walk_at "go"
                          refine rd_ixL hf11 (atI_nat e1) ?_
                          walk_at "go"
                          refine ⟨_, _, rfl, ⟨by omega, rfl⟩, ?_⟩
                          walk_at "go"
                          refine ⟨D, fs[at1].length + 1, rfl, by simp, by omega, s11.drw, fun sg H12 hsg s12 => ?_⟩
                          have s012 := s11.trans s12
                          have hf12 := s12.lst hf11 hfla
                          walk_at "go"
                          refine rd_ixL hf12 (atI_nat e1) ?_
                          walk_at "go"
                          refine ⟨_, rfl, by omega, ?_⟩
                          walk_at "go"
                          refine ⟨by show 6 ≤ sizeLine; omega, fun p hp => ?_⟩
                          refine pick_of (pk := pk8) (B := 1) s012.drw hp (by decide) (by decide) (by decide) (fun y H13 hy s13 => ?_)
                          have s013 := s012.trans s13
                          have hf13 := s13.lst hf12 hfla
                          have h2 := cutS_two fs[at1] sg
                          walk_at "go"
                          refine ⟨_, _, rfl, rfl, by omega, ?_⟩
                          walk_at "go"
                          refine rd_ixL hf13 (atI_nat e1) ?_
                          walk_at "go"
                          refine ⟨_, rfl, by omega, ?_⟩
                          have h3 := Str.length_append (cutS fs[at1] none (some (sg : Int))) y
                          refine ⟨_, _, rfl, rfl, by omega, ?_⟩
                          have h4 := Str.length_append (cutS fs[at1] none (some (sg : Int)) ++ y) (cutS fs[at1] (some (sg : Int)) none)
                          generalize cutS fs[at1] none (some (sg : Int)) ++ y ++ cutS fs[at1] (some (sg : Int)) none = zz at h4
                          walk_at "go"
                          refine rd_setN hf13 (by rw [List.length_map]; exact hat2) ?_
                          have s14 := s013.put hflH hf13 (ys := (fs.map V.str).set at1 (.str zz))
                          walk_at "go"
                          refine q fl (fs.set at1 zz) _ s14 hflH (by rw [upd_same, List.map_set]) (by rw [List.length_set]; omega) (fun x h => ?_)
                          rcases List.mem_or_eq_of_mem_set h with h | rfl
                          · have := hfx x h
                            omega
                          · omega
                        · walk_at "go"
                          refine q fl fs _ s11 hflH hf11 (by omega) (fun x h => ?_)
                          have := hfx x h
                          omega
end
end MH
end
section
set_option linter.all false
set_option maxRecDepth 100000
/-! the mathematics: what is read is a program, and its text is what was read -/
namespace MH
open PySem
def hdD (k s : Str) (as : List Str) : PD := .tuple [.str k, .str s, .tuple (as.map .str)]
/-- the lines, the sites of an open test behind its head -/
def inL (L : PD → List Str) (f : PF) : List Str := match f.fst with
  | none => L (.tuple f.top)
  | some a => L (.tuple a) ++ ("else" : Str) :: L (.tuple f.top)
def inS (L : PD → List Str) (f : PF) : List Str := match f.fst with
  | none => L (.tuple f.top)
  | some a => L (.tuple a) ++ L (.tuple f.top)
/-- open tests, the inmost one with bodies n deep; the lines that led there, and the sites -/
inductive FOk : Nat → List PF → List Str → List Str → Prop
  | base {f : PF} : f.head = .none → f.fst = none → isBodyD 4 (.tuple f.top) = true → FOk 4 [f] (linesD 5 (.tuple f.top)) (sitesD 5 (.tuple f.top))
  | cons {n : Nat} {f g : PF} {r : List PF} {ls ss : List Str} {k s : Str} {as : List Str} : FOk (n + 1) (g :: r) ls ss → g.top.length < 12 → f.head = hdD k s as → (k = "if" ∨ k = "while") → isName s = true → as.length ≤ 3 → (∀ a ∈ as, isName a = true) →
      (∀ a, f.fst = some a → k = "if" ∧ isBodyD n (.tuple a) = true) → isBodyD n (.tuple f.top) = true → FOk n (f :: g :: r) (ls ++ spc (k :: s :: as) :: inL (linesD (n + 1)) f) (ss ++ s :: inS (sitesD (n + 1)) f)
theorem FOk.len {n : Nat} {fs : List PF} {ls ss : List Str} (h : FOk n fs ls ss) : fs.length + n = 5 := by
  induction h with
  | base => rfl
  | cons _ _ _ _ _ _ _ _ _ ih =>
    simp only [List.length_cons] at ih ⊢
    omega
theorem body_app {n : Nat} {ds : List PD} {it : PD} (h : isBodyD (n + 1) (.tuple ds) = true) (hl : ds.length < 12) (hi : okIt n it = true) : isBodyD (n + 1) (.tuple (ds ++ [it])) = true := by
  rw [isBodyD_succ _ _ (by omega)] at h
  rw [isBodyD_succ _ _ (by rw [List.length_append]; simp; omega), List.all_append, h]
  simp [hi]
theorem lines_app (n : Nat) (ds : List PD) (it : PD) : linesD (n + 1) (.tuple (ds ++ [it])) = linesD (n + 1) (.tuple ds) ++ itLines (linesD n) it := by
  rw [linesD_succ, linesD_succ, List.flatMap_append]
  simp
theorem sites_app (n : Nat) (ds : List PD) (it : PD) : sitesD (n + 1) (.tuple (ds ++ [it])) = sitesD (n + 1) (.tuple ds) ++ itSites n it := by
  rw [sitesD_succ, sitesD_succ, List.flatMap_append]
  simp
theorem inL_app (n : Nat) (f : PF) (it : PD) : inL (linesD (n + 1)) { f with top := f.top ++ [it] } = inL (linesD (n + 1)) f ++ itLines (linesD n) it := by
  unfold inL
  cases f.fst with
  | none => exact lines_app n _ it
  | some a => simp [lines_app]
theorem inS_app (n : Nat) (f : PF) (it : PD) : inS (sitesD (n + 1)) { f with top := f.top ++ [it] } = inS (sitesD (n + 1)) f ++ itSites n it := by
  unfold inS
  cases f.fst with
  | none => exact sites_app n _ it
  | some a => simp [sites_app]
/-- an item more in the inmost body -/
theorem FOk.app {n : Nat} {f : PF} {r : List PF} {ls ss : List Str} {it : PD} (h : FOk (n + 1) (f :: r) ls ss) (hl : f.top.length < 12) (hi : okIt n it = true) : FOk (n + 1) ({ f with top := f.top ++ [it] } :: r) (ls ++ itLines (linesD (n + 1)) it) (ss ++ itSites (n + 1) it) := by
  generalize hm : n + 1 = m at h
  generalize hfr : f :: r = frs at h
  cases h with
  | base h1 h2 h3 =>
    cases hfr
    obtain rfl : n = 3 := by omega
    have := FOk.base (f := { f with top := f.top ++ [it] }) h1 h2 (body_app h3 hl hi)
    rw [lines_app, sites_app] at this
    exact this
  | cons h0 h1 h2 h3 h4 h5 h6 h7 h8 =>
    cases hfr
    subst hm
    have := FOk.cons (f := { f with top := f.top ++ [it] }) h0 h1 h2 h3 h4 h5 h6 h7 (body_app h8 hl hi)
    rw [inL_app, inS_app] at this
    rw [List.append_assoc, List.append_assoc]
    exact this
theorem words_of {ws : List Str} (h : wordsOk ws = true) : ∃ k s as, ws = k :: s :: as ∧ isName s = true ∧ (∀ a ∈ as, isName a = true) ∧ ((k = "do" ∧ ∃ x bs, as = x :: bs ∧ bs.length ≤ 3) ∨ ((k = "if" ∨ k = "while") ∧ as.length ≤ 3)) := by
  unfold wordsOk at h
  simp only [Bool.and_eq_true, decide_eq_true_eq] at h
  obtain ⟨h1, h2, h3, h4⟩ := h
  match ws, h1, h2, h3, h4 with
  | [], h1, _, _, _ => exact absurd h1 (by decide)
  | [k], h1, _, h3, _ =>
    exfalso
    have h3 : leastOf k ≤ 1 := h3
    unfold leastOf at h3
    split at h3 <;> omega
  | k :: s :: as, h1, h2, h3, h4 =>
    have h1 : k = "do" ∨ k = "if" ∨ k = "while" := h1
    have h2 : (s :: as).all isName = true := h2
    rw [List.all_cons, Bool.and_eq_true] at h2
    have h3 : leastOf k ≤ as.length + 2 := h3
    have h4 : as.length + 2 ≤ leastOf k + 3 := h4
    refine ⟨k, s, as, rfl, h2.1, List.all_eq_true.mp h2.2, ?_⟩
    rcases h1 with rfl | h1
    · rw [show leastOf "do" = 3 from if_pos rfl] at h3 h4
      match as, h3, h4 with
      | [], h3, _ => simp at h3
      | x :: bs, _, h4 => exact .inl ⟨rfl, x, bs, rfl, by simp only [List.length_cons] at h4; omega⟩
    · have : leastOf k = 2 := if_neg (by rcases h1 with rfl | rfl <;> decide)
      exact .inr ⟨h1, by omega⟩
/-- how a reader stands behind some lines -/
structure RInv (S : PR) (ls : List Str) : Prop where
  ok : ∃ n, FOk n S.frames ls S.sites
  els : ∀ f r, S.frames = f :: r → S.fresh = false → f.fst.isSome = true → f.top ≠ []
  nd : S.sites.Nodup
  le : S.sites.length ≤ 40
theorem rinv_start : RInv startP [] := ⟨⟨4, .base rfl rfl rfl⟩, (fun f r e _ h => by cases e; cases h), List.nodup_nil, Nat.zero_le _⟩
theorem stepP_inv {S S' : PR} {ls : List Str} {line : Str} (h : RInv S ls) (e : stepP S line = some S') : RInv S' (ls ++ [line]) := by
  have hle := stepP_sites h.le e
  obtain ⟨n, ho⟩ := h.ok
  unfold stepP at e
  split at e
  · cases e
  · rename_i f r hS
    rw [hS] at ho
    split at e
    · rename_i hline
      unfold stepElse at e
      split at e
      · rename_i hok
        cases e
        unfold elseOk at hok
        simp only [Bool.and_eq_true, decide_eq_true_eq] at hok
        obtain ⟨hk, hf, hlen, _⟩ := hok
        refine ⟨⟨n, ?_⟩, (fun f' r' e' hfr => by cases hfr), h.nd, hle⟩
        show FOk n ({ f with fst := some f.top, top := [] } :: r) (ls ++ [line]) S.sites
        generalize hfs : f :: r = fs at ho
        generalize hss : S.sites = ss at ho
        cases ho with
        | base h1 h2 h3 =>
          cases hfs
          rw [h1] at hk
          exact absurd hk (by decide)
        | @cons n f0 g r0 ls0 ss0 k s as h0 h1 h2 h3 h4 h5 h6 h7 h8 =>
          cases hfs
          rw [h2] at hk
          have hk : k = "if" := hk
          have hf : f.fst = none := by
            cases hh : f.fst with
            | none => rfl
            | some a => rw [hh] at hf; cases hf
          have := FOk.cons (f := { f with fst := some f.top, top := [] }) h0 h1 h2 h3 h4 h5 h6 (fun a ha => by cases ha; exact ⟨hk, h8⟩) (by cases n <;> rfl)
          have e1 : inL (linesD (n + 1)) { f with fst := some f.top, top := [] } = inL (linesD (n + 1)) f ++ [line] := by
            unfold inL
            rw [hf, hline]
            rfl
          have e2 : inS (sitesD (n + 1)) { f with fst := some f.top, top := [] } = inS (sitesD (n + 1)) f := by
            unfold inS
            rw [hf]
            show sitesD (n + 1) (.tuple f.top) ++ [] = _
            rw [List.append_nil]
          rw [e1, e2] at this
          rw [List.append_assoc]
          exact this
      · cases e
    · split at e
      · rename_i hline
        unfold stepEnd at e
        rw [hS] at e
        cases r with
        | nil => cases e
        | cons g r =>
          have e : (if S.fresh = true then none else some (⟨{ g with top := g.top ++ [closeF f] } :: r, S.sites, S.fresh⟩ : PR)) = some S' := e
          split at e
          · cases e
          · rename_i hfr
            cases e
            have hne := h.els f (g :: r) hS (Bool.eq_false_iff.mpr hfr)
            refine ⟨?_, (fun f' r' e' _ _ => by cases e'; simp), h.nd, hle⟩
            show ∃ n, FOk n ({ g with top := g.top ++ [closeF f] } :: r) (ls ++ [line]) S.sites
            generalize hfs : f :: g :: r = fs at ho
            generalize hss : S.sites = ss at ho
            cases ho with
            | base h1 h2 h3 => cases hfs
            | @cons n f0 g0 r0 ls0 ss0 k s as h0 h1 h2 h3 h4 h5 h6 h7 h8 =>
              cases hfs
              refine ⟨n + 1, ?_⟩
              have hh : tupD f.head = [.str k, .str s, .tuple (as.map .str)] := by rw [h2]; rfl
              have hk : kindOf f.head = k := by rw [h2]; rfl
              have hb0 : isBodyD n (.tuple []) = true := by cases n <;> rfl
              cases hfst : f.fst with
              | some a =>
                obtain ⟨rfl, ha⟩ := h7 a hfst
                have hcl : closeF f = .tuple [.str "if", .str s, .tuple (as.map .str), .tuple a, .tuple f.top] := by
                  unfold closeF
                  rw [hfst, hh]
                  rfl
                have := FOk.app h0 h1 (okIt_if (m := n) h4 h5 h6 ha h8)
                rw [← hcl] at this
                have e1 : itLines (linesD (n + 1)) (closeF f) = spc (("if" : Str) :: s :: as) :: inL (linesD (n + 1)) f ++ [line] := by
                  rw [hcl, lines_i]
                  have : isE (.tuple f.top) = false := by
                    show f.top.isEmpty = false
                    cases h : f.top with
                    | nil => exact absurd h (hne (by rw [hfst]; rfl))
                    | cons x y => rfl
                  rw [if_pos this]
                  unfold inL
                  rw [hfst, hline]
                  simp
                have e2 : itSites (n + 1) (closeF f) = s :: inS (sitesD (n + 1)) f := by
                  rw [hcl, itSites_i]
                  unfold inS
                  rw [hfst]
                rw [e1, e2] at this
                simpa using this
              | none =>
                rcases h3 with rfl | rfl
                · have hcl : closeF f = .tuple [.str "if", .str s, .tuple (as.map .str), .tuple f.top, .tuple []] := by
                    unfold closeF
                    rw [hfst, hh, if_pos hk]
                    rfl
                  have := FOk.app h0 h1 (okIt_if (m := n) h4 h5 h6 h8 hb0)
                  rw [← hcl] at this
                  have e1 : itLines (linesD (n + 1)) (closeF f) = spc (("if" : Str) :: s :: as) :: inL (linesD (n + 1)) f ++ [line] := by
                    rw [hcl, lines_i, if_neg (by decide)]
                    unfold inL
                    rw [hfst, hline]
                    simp
                  have e2 : itSites (n + 1) (closeF f) = s :: inS (sitesD (n + 1)) f := by
                    rw [hcl, itSites_i]
                    unfold inS
                    rw [hfst]
                    show s :: (_ ++ []) = _
                    rw [List.append_nil]
                  rw [e1, e2] at this
                  simpa using this
                · have hcl : closeF f = .tuple [.str "while", .str s, .tuple (as.map .str), .tuple f.top] := by
                    unfold closeF
                    rw [hfst, hh, if_neg (by rw [hk]; decide)]
                    rfl
                  have := FOk.app h0 h1 (okIt_while (m := n) h4 h5 h6 h8)
                  rw [← hcl] at this
                  have e1 : itLines (linesD (n + 1)) (closeF f) = spc (("while" : Str) :: s :: as) :: inL (linesD (n + 1)) f ++ [line] := by
                    rw [hcl, lines_w]
                    unfold inL
                    rw [hfst, hline]
                    simp
                  have e2 : itSites (n + 1) (closeF f) = s :: inS (sitesD (n + 1)) f := by
                    rw [hcl, itSites_w]
                    unfold inS
                    rw [hfst]
                  rw [e1, e2] at this
                  simpa using this
      · have hspc : spc (Txt.split line " ") = line := by
          unfold spc
          rw [TL.join_eq]
          exact StrLaws.join_split line " "
        generalize Txt.split line " " = ws at e hspc
        unfold stepHead at e
        split at e
        · rename_i hok
          rw [Bool.and_eq_true] at hok
          obtain ⟨hw, hr⟩ := hok
          unfold roomFor at hr
          simp only [Bool.and_eq_true, decide_eq_true_eq] at hr
          obtain ⟨hns, hs40, htop, hfl⟩ := hr
          rw [hS] at hfl
          have hlen := ho.len
          obtain ⟨k, s, as, rfl, hs, has, hk⟩ := words_of hw
          have hns : s ∉ S.sites := hns
          have hnd : (S.sites ++ [s]).Nodup := by
            rw [List.nodup_append]
            exact ⟨h.nd, by simp, fun a ha b hb => by rw [List.mem_singleton.mp hb]; exact fun z => hns (z ▸ ha)⟩
          obtain ⟨m, rfl⟩ : ∃ m, n = m + 1 := ⟨n - 1, by omega⟩
          have e : some (⟨if k = "do" then { f with top := f.top ++ [itemOf (k :: s :: as)] } :: r else ⟨headOf (k :: s :: as), none, []⟩ :: f :: r, S.sites ++ [s], false⟩ : PR) = some S' := e
          cases e
          rcases hk with ⟨rfl, x, bs, rfl, hbs⟩ | ⟨hk, hal⟩
          · rw [if_pos rfl] at hle ⊢
            refine ⟨⟨m + 1, ?_⟩, (fun f' r' e' _ _ => by cases e'; simp), hnd, hle⟩
            have := FOk.app ho htop (okIt_do (m := m) hs (has x List.mem_cons_self) hbs (fun a ha => has a (List.mem_cons_of_mem _ ha)))
            rw [lines_d, itSites_d, hspc] at this
            exact this
          · have hkd : ¬ k = "do" := by rcases hk with rfl | rfl <;> decide
            rw [if_neg hkd] at hle ⊢
            refine ⟨⟨m, ?_⟩, (fun f' r' e' _ hs => by cases e'; cases hs), hnd, hle⟩
            have := FOk.cons (f := ⟨headOf (k :: s :: as), none, []⟩) (k := k) (s := s) (as := as) ho htop rfl hk hs hal has (fun a ha => by cases ha) (by cases m <;> rfl)
            rw [hspc] at this
            exact this
        · cases e
theorem stepsP_inv : ∀ (ls : List Str) {S S' : PR} {l0 : List Str}, RInv S l0 → stepsP S ls = some S' → RInv S' (l0 ++ ls)
  | [], S, S', l0, h, e => by cases e; rw [List.append_nil]; exact h
  | l :: r, S, S', l0, h, e => by
    have e : (match stepP S l with | none => none | some S1 => stepsP S1 r) = some S' := e
    cases h1 : stepP S l with
    | none => rw [h1] at e; cases e
    | some S1 =>
      rw [h1] at e
      have := stepsP_inv r (stepP_inv h h1) e
      rw [List.append_assoc] at this
      exact this
end MH
end
section
set_option linter.all false
set_option maxRecDepth 100000
/-! the mathematics: what is read is a program, and its text is what was read -/
namespace MH
open PySem
def bodyOf (p : PD) : PD := (tupD p).getD 1 .none
theorem stepsP_of_run : ∀ (ls : List Str) (S : PR), (runP S ls).2.frames ≠ [] → ∃ S', stepsP S ls = some S'
  | [], S, _ => ⟨S, rfl⟩
  | l :: r, S, h => by
    have h : (match stepP S l with | none => (0, ⟨[], [], false⟩) | some S1 => ((runP S1 r).1 + 1, (runP S1 r).2) : Nat × PR).2.frames ≠ [] := h
    show ∃ S', (match stepP S l with | none => none | some S1 => stepsP S1 r) = some S'
    cases hs : stepP S l with
    | none => rw [hs] at h; exact absurd rfl h
    | some S1 =>
      rw [hs] at h
      exact stepsP_of_run r S1 h
theorem readP_some {ls : List Str} {p : PD} (h : (readP ls).2 = some p) : isProgD p = true ∧ linesD 5 (bodyOf p) = ls ∧ (readP ls).1 = ls.length := by
  obtain ⟨S, f, hst, hf⟩ : ∃ S f, stepsP startP ls = some S ∧ S.frames = [f] := by
    unfold readP at h
    split at h
    · rename_i f hfr
      obtain ⟨S, hS⟩ := stepsP_of_run ls startP (by rw [hfr]; simp)
      rw [runP_all ls startP S hS] at hfr
      exact ⟨S, f, hS, hfr⟩
    · cases h
  have hr := readP_all hst hf
  rw [hr] at h ⊢
  cases h
  have inv := stepsP_inv ls rinv_start hst
  rw [List.nil_append] at inv
  obtain ⟨n, ho⟩ := inv.ok
  rw [hf] at ho
  have hnd := inv.nd
  have hle := inv.le
  generalize S.sites = ss at ho hnd hle
  cases ho with
  | base h1 h2 h3 =>
    refine ⟨?_, rfl, rfl⟩
    show (decide (Str.ofString "program" = Str.ofString "program") && (isBodyD 4 (.tuple f.top) && (decide ((sitesD 5 (.tuple f.top)).length ≤ 40) && decide (sitesD 5 (.tuple f.top)).Nodup))) = true
    rw [h3, decide_eq_true hle, decide_eq_true hnd]
    rfl
end MH
end
section
set_option linter.all false
set_option maxRecDepth 100000
/-! the mathematics: the lines of a program are read back -/
namespace MH
open PySem
theorem stepsP_app : ∀ (a b : List Str) (S S' : PR), stepsP S a = some S' → stepsP S (a ++ b) = stepsP S' b
  | [], b, S, S', e => by cases e; rfl
  | l :: r, b, S, S', e => by
    have e : (match stepP S l with | none => none | some S1 => stepsP S1 r) = some S' := e
    show (match stepP S l with | none => none | some S1 => stepsP S1 (r ++ b)) = _
    cases h : stepP S l with
    | none => rw [h] at e; cases e
    | some S1 =>
      rw [h] at e
      exact stepsP_app r b S1 S' e
theorem stepsP_cons {S S1 : PR} {l : Str} (r : List Str) (h : stepP S l = some S1) : stepsP S (l :: r) = stepsP S1 r := by
  show (match stepP S l with | none => none | some S1 => stepsP S1 r) = _
  rw [h]
/-- no blank within -/
def noSp (x : Str) : Prop := (32 : Nat) ∉ x.cps.toList
instance (x : Str) : Decidable (noSp x) := inferInstanceAs (Decidable ((32 : Nat) ∉ x.cps.toList))
theorem name_noSp {x : Str} (h : isName x = true) : noSp x := fun z => by
  have := isName_letters h 32 z
  exact absurd this (by decide)
theorem split_spc {ws : List Str} (hne : ws ≠ []) (h : ∀ x ∈ ws, noSp x) : Txt.split (spc ws) " " = ws := by
  unfold spc
  exact TL.split_join (y := " ") (s := 32) (S := []) (by rfl) (by rw [sp_eq]; simp) hne h
theorem step_head {S : PR} {f : PF} {r : List PF} {k s : Str} {as : List Str} (hS : S.frames = f :: r) (hk : k = "do" ∨ k = "if" ∨ k = "while") (hs : isName s = true) (has : ∀ a ∈ as, isName a = true) (hw : wordsOk (k :: s :: as) = true) (h1 : s ∉ S.sites) (h2 : S.sites.length < 40) (h3 : f.top.length < 12) (h4 : (f :: r).length ≤ 4) :
    stepP S (spc (k :: s :: as)) = some ⟨if k = "do" then { f with top := f.top ++ [itemOf (k :: s :: as)] } :: r else ⟨headOf (k :: s :: as), none, []⟩ :: f :: r, S.sites ++ [s], false⟩ := by
  have hkn : noSp k := by rcases hk with rfl | rfl | rfl <;> decide
  have hsp : Txt.split (spc (k :: s :: as)) " " = k :: s :: as := split_spc (List.cons_ne_nil _ _) (fun x hx => by
    rcases List.mem_cons.mp hx with rfl | hx
    · exact hkn
    · rcases List.mem_cons.mp hx with rfl | hx
      · exact name_noSp hs
      · exact name_noSp (has x hx))
  have one : ∀ z : Str, noSp z → ¬ spc (k :: s :: as) = z := fun z hz e => by
    have h : Txt.split (spc [z]) " " = [z] := split_spc (List.cons_ne_nil _ _) (fun x hx => by rw [List.mem_singleton.mp hx]; exact hz)
    have hz1 : spc [z] = z := by
      unfold spc
      rw [TL.join_eq]
      rfl
    rw [hz1, ← e, hsp] at h
    have := congrArg List.length h
    simp at this
  unfold stepP
  rw [hS]
  show (if spc (k :: s :: as) = "else" then _ else if spc (k :: s :: as) = "end" then _ else _) = _
  rw [if_neg (one _ (by decide)), if_neg (one _ (by decide)), hsp]
  unfold stepHead
  have hr : roomFor S f (k :: s :: as) = true := by
    show (decide (s ∉ S.sites) && (decide (S.sites.length < 40) && (decide (f.top.length < 12) && decide (S.frames.length ≤ 4)))) = true
    rw [hS, decide_eq_true h1, decide_eq_true h2, decide_eq_true h3, decide_eq_true h4]
    rfl
  rw [if_pos (by rw [hw, hr]; rfl)]
  rfl
theorem step_else {S : PR} {f : PF} {r : List PF} (hS : S.frames = f :: r) (hk : kindOf f.head = "if") (hf : f.fst = none) (h : S.frames.length ≤ 4) (h2 : S.sites.length < 40) : stepP S "else" = some ⟨{ f with fst := some f.top, top := [] } :: r, S.sites, true⟩ := by
  unfold stepP
  rw [hS]
  show (if ("else" : Str) = "else" then _ else _) = _
  rw [if_pos rfl]
  unfold stepElse
  rw [if_pos]
  unfold elseOk
  rw [hk, hf, decide_eq_true (show S.frames.length ≤ 4 ∧ S.sites.length < 40 from ⟨h, h2⟩)]
  rfl
theorem step_end {S : PR} {f g : PF} {r : List PF} (hS : S.frames = f :: g :: r) (hf : S.fresh = false) : stepP S "end" = some ⟨{ g with top := g.top ++ [closeF f] } :: r, S.sites, false⟩ := by
  unfold stepP
  rw [hS]
  show (if ("end" : Str) = "else" then _ else if ("end" : Str) = "end" then _ else _) = _
  rw [if_neg (by decide), if_pos rfl]
  unfold stepEnd
  rw [hS]
  show (if S.fresh = true then none else some _) = _
  rw [if_neg (by rw [hf]; exact Bool.false_ne_true), hf]
end MH
end
section
set_option linter.all false
set_option maxRecDepth 100000
/-! the mathematics: the lines of a program are read back -/
namespace MH
open PySem
theorem okIt_w {m : Nat} {it : PD} (h : okIt m it = true) : ItemW it ∧ ∀ b ∈ bodiesD it, isBodyD m b = true := ⟨item_w (okIt_item h).1, (okIt_item h).2⟩
theorem wordsOk_do {s x : Str} {as : List Str} (hs : isName s = true) (hx : isName x = true) (hl : as.length ≤ 3) (h : ∀ a ∈ as, isName a = true) : wordsOk (("do" : Str) :: s :: x :: as) = true := by
  unfold wordsOk
  have h1 : (s :: x :: as).all isName = true := by
    rw [List.all_cons, List.all_cons, hs, hx]
    simpa using h
  show (decide (("do" : Str) = "do" ∨ ("do" : Str) = "if" ∨ ("do" : Str) = "while") && ((s :: x :: as).all isName && decide (leastOf "do" ≤ as.length + 3 ∧ as.length + 3 ≤ leastOf "do" + 3))) = true
  rw [h1, show leastOf "do" = 3 from if_pos rfl, decide_eq_true (show 3 ≤ as.length + 3 ∧ as.length + 3 ≤ 3 + 3 by omega)]
  simp
theorem wordsOk_if {k s : Str} {as : List Str} (hk : k = "if" ∨ k = "while") (hs : isName s = true) (hl : as.length ≤ 3) (h : ∀ a ∈ as, isName a = true) : wordsOk (k :: s :: as) = true := by
  unfold wordsOk
  have h1 : (s :: as).all isName = true := by
    rw [List.all_cons, hs]
    simpa using h
  show (decide (k = "do" ∨ k = "if" ∨ k = "while") && ((s :: as).all isName && decide (leastOf k ≤ as.length + 2 ∧ as.length + 2 ≤ leastOf k + 3))) = true
  rw [h1, show leastOf k = 2 from if_neg (by rcases hk with rfl | rfl <;> decide), decide_eq_true (show 2 ≤ as.length + 2 ∧ as.length + 2 ≤ 2 + 3 by omega), decide_eq_true (show k = "do" ∨ k = "if" ∨ k = "while" from .inr hk)]
  rfl
/-- what a body does to a reader -/
def Reads (n : Nat) (ds : List PD) : Prop := ∀ (S : PR) (f : PF) (r : List PF), S.frames = f :: r → (f :: r).length + n = 5 → f.top.length + ds.length ≤ 12 → (S.sites ++ sitesD (n + 1) (.tuple ds)).Nodup → (S.sites ++ sitesD (n + 1) (.tuple ds)).length ≤ 40 →
  ∃ fr, stepsP S (linesD (n + 1) (.tuple ds)) = some ⟨{ f with top := f.top ++ ds } :: r, S.sites ++ sitesD (n + 1) (.tuple ds), fr⟩ ∧ (ds ≠ [] → fr = false) ∧ (ds = [] → fr = S.fresh)
theorem reads_nil (n : Nat) : Reads n [] := fun S f r hS _ _ _ _ => ⟨S.fresh, by
  show some S = some _
  have e : sitesD (n + 1) (.tuple []) = [] := rfl
  rw [e, List.append_nil, List.append_nil]
  cases S
  cases hS
  rfl, fun h => absurd rfl h, fun _ => rfl⟩
theorem nodup_mid {a : List Str} {s : Str} {b : List Str} (h : (a ++ s :: b).Nodup) : s ∉ a := fun z => by
  have := (List.nodup_append.mp h).2.2 s z s List.mem_cons_self
  exact this rfl
theorem item_reads {m : Nat} {it : PD} (IH : ∀ bs, isBodyD m (.tuple bs) = true → Reads m bs) (hi : okIt m it = true) {S : PR} {f : PF} {r : List PF} (hS : S.frames = f :: r) (hl : (f :: r).length + (m + 1) = 5) (ht : f.top.length < 12) (hnd : (S.sites ++ itSites (m + 1) it).Nodup) (h40 : (S.sites ++ itSites (m + 1) it).length ≤ 40) :
    stepsP S (itLines (linesD (m + 1)) it) = some ⟨{ f with top := f.top ++ [it] } :: r, S.sites ++ itSites (m + 1) it, false⟩ := by
  obtain ⟨hw, hb⟩ := okIt_w hi
  cases hw with
  | d s x as h1 h2 h3 h4 =>
    rw [lines_d]
    rw [itSites_d] at hnd h40 ⊢
    rw [List.length_append] at h40
    have h40 : S.sites.length + 1 ≤ 40 := h40
    have := step_head (S := S) (k := "do") (s := s) (as := x :: as) hS (.inl rfl) h1 (fun a ha => by
      rcases List.mem_cons.mp ha with rfl | ha
      · exact h2
      · exact h4 a ha) (wordsOk_do h1 h2 h3 h4) (nodup_mid hnd) (by omega) ht (by omega)
    rw [stepsP_cons _ this]
    rfl
  | i s as a b h1 h3 h4 =>
    rw [bodies_i] at hb
    have ha := hb a (by simp)
    have hbb := hb b (by simp)
    obtain ⟨da, rfl, hda, _⟩ := isBodyD_tup ha
    obtain ⟨db, rfl, hdb, hdb0, _⟩ := isBodyD_tup hbb
    rw [lines_i]
    rw [itSites_i] at hnd h40 ⊢
    have h41 := h40
    rw [List.length_append, List.length_cons, List.length_append] at h41
    have st := step_head (S := S) (k := "if") (s := s) (as := as) hS (.inr (.inl rfl)) h1 h4 (wordsOk_if (.inl rfl) h1 h3 h4) (nodup_mid hnd) (by omega) ht (by omega)
    rw [if_neg (by decide)] at st
    rw [stepsP_cons _ st]
    have e1 : S.sites ++ s :: (sitesD (m + 1) (.tuple da) ++ sitesD (m + 1) (.tuple db)) = (S.sites ++ [s] ++ sitesD (m + 1) (.tuple da)) ++ sitesD (m + 1) (.tuple db) := by simp
    rw [e1] at hnd h40 ⊢
    have hnd1 := (List.nodup_append.mp hnd).1
    obtain ⟨fr, h5, h6, h7⟩ := IH da ha ⟨⟨headOf ("if" :: s :: as), none, []⟩ :: f :: r, S.sites ++ [s], false⟩ _ _ rfl (by simp only [List.length_cons] at hl ⊢; omega) (by show 0 + da.length ≤ 12; omega) hnd1 (by show (S.sites ++ [s] ++ sitesD (m + 1) (.tuple da)).length ≤ 40; rw [List.length_append] at h40; omega)
    rw [stepsP_app _ _ _ _ h5]
    have hfr : fr = false := by
      cases da with
      | nil => exact h7 rfl
      | cons x y => exact h6 (List.cons_ne_nil _ _)
    subst hfr
    cases db with
    | nil =>
      rw [if_neg (by decide)]
      show stepsP _ (("end" : Str) :: []) = _
      rw [stepsP_cons _ (step_end rfl rfl)]
      have e2 : sitesD (m + 1) (.tuple []) = [] := rfl
      rw [e2, List.append_nil]
      show some _ = some _
      congr 4
    | cons x y =>
      rw [if_pos (by rfl)]
      have hm : m ≠ 0 := fun z => by
        have := hdb0 z
        cases this
      have hs1 : 1 ≤ (sitesD (m + 1) (.tuple (x :: y))).length := by
        rw [sitesD_succ, List.flatMap_cons]
        unfold itSites
        rw [List.cons_append, List.length_cons]
        omega
      have h42 := h40
      rw [List.length_append] at h42
      rw [List.cons_append, stepsP_cons _ (step_else rfl rfl rfl (by simp only [List.length_cons] at hl ⊢; omega) (by show (S.sites ++ [s] ++ sitesD (m + 1) (.tuple da)).length < 40; omega))]
      obtain ⟨fr2, h8, h9, _⟩ := IH (x :: y) hbb ⟨⟨headOf ("if" :: s :: as), some ([] ++ da), []⟩ :: f :: r, S.sites ++ [s] ++ sitesD (m + 1) (.tuple da), true⟩ _ _ rfl (by simp only [List.length_cons] at hl ⊢; omega) (by show 0 + (x :: y).length ≤ 12; omega) hnd h40
      obtain rfl := h9 (List.cons_ne_nil _ _)
      rw [stepsP_app _ _ _ _ h8, stepsP_cons _ (step_end rfl rfl)]
      show some _ = some _
      congr 4
  | w s as a h1 h3 h4 =>
    rw [bodies_w] at hb
    have ha := hb a (by simp)
    obtain ⟨da, rfl, hda, _⟩ := isBodyD_tup ha
    rw [lines_w]
    rw [itSites_w] at hnd h40 ⊢
    have h41 := h40
    rw [List.length_append, List.length_cons] at h41
    have st := step_head (S := S) (k := "while") (s := s) (as := as) hS (.inr (.inr rfl)) h1 h4 (wordsOk_if (.inr rfl) h1 h3 h4) (nodup_mid hnd) (by omega) ht (by omega)
    rw [if_neg (by decide)] at st
    rw [stepsP_cons _ st]
    have e1 : S.sites ++ s :: sitesD (m + 1) (.tuple da) = S.sites ++ [s] ++ sitesD (m + 1) (.tuple da) := by simp
    rw [e1] at hnd h40 ⊢
    obtain ⟨fr, h5, h6, h7⟩ := IH da ha ⟨⟨headOf ("while" :: s :: as), none, []⟩ :: f :: r, S.sites ++ [s], false⟩ _ _ rfl (by simp only [List.length_cons] at hl ⊢; omega) (by show 0 + da.length ≤ 12; omega) hnd h40
    rw [stepsP_app _ _ _ _ h5]
    have hfr : fr = false := by
      cases da with
      | nil => exact h7 rfl
      | cons x y => exact h6 (List.cons_ne_nil _ _)
    subst hfr
    rw [stepsP_cons _ (step_end rfl rfl)]
    show some _ = some _
    congr 4
theorem items_read {m : Nat} (IH : ∀ bs, isBodyD m (.tuple bs) = true → Reads m bs) : ∀ (ds : List PD), ds.all (okIt m) = true → Reads (m + 1) ds
  | [], _ => reads_nil _
  | it :: q, h => by
    rw [List.all_cons, Bool.and_eq_true] at h
    intro S f r hS hl ht hnd h40
    have e1 : sitesD (m + 1 + 1) (.tuple (it :: q)) = itSites (m + 1) it ++ sitesD (m + 1 + 1) (.tuple q) := by
      rw [sitesD_succ, sitesD_succ, List.flatMap_cons]
    have e2 : linesD (m + 1 + 1) (.tuple (it :: q)) = itLines (linesD (m + 1)) it ++ linesD (m + 1 + 1) (.tuple q) := by
      rw [linesD_succ, linesD_succ, List.flatMap_cons]
    rw [e1, ← List.append_assoc] at hnd h40
    rw [e1, e2]
    rw [List.length_cons] at ht
    have hnd1 := (List.nodup_append.mp hnd).1
    have h41 := h40
    rw [List.length_append] at h41
    have st := item_reads IH h.1 hS hl (by omega) hnd1 (by omega)
    rw [stepsP_app _ _ _ _ st]
    obtain ⟨fr, h5, h6, h7⟩ := items_read IH q h.2 ⟨{ f with top := f.top ++ [it] } :: r, S.sites ++ itSites (m + 1) it, false⟩ _ _ rfl hl (by show (f.top ++ [it]).length + q.length ≤ 12; rw [List.length_append]; simp; omega) hnd h40
    have hfr : fr = false := by
      cases q with
      | nil => exact h7 rfl
      | cons x y => exact h6 (List.cons_ne_nil _ _)
    subst hfr
    refine ⟨false, ?_, fun _ => rfl, fun z => by cases z⟩
    rw [h5]
    simp
theorem reads_all : ∀ (n : Nat) (ds : List PD), isBodyD n (.tuple ds) = true → Reads n ds
  | 0, ds, h => by
    obtain ⟨_, e, _, h0, _⟩ := isBodyD_tup h
    cases e
    rw [h0 rfl]
    exact reads_nil 0
  | m + 1, ds, h => by
    obtain ⟨_, e, _, _, h1⟩ := isBodyD_tup h
    cases e
    exact items_read (reads_all m) ds (h1 m rfl)
/-- the lines of a program are read back -/
theorem readP_lines {b : PD} (hb : isBodyD 4 b = true) (hs : (sitesD 5 b).length ≤ 40) (hnd : (sitesD 5 b).Nodup) : readP (linesD 5 b) = ((linesD 5 b).length, some (.tuple [.str "program", b])) := by
  obtain ⟨ds, rfl, hl, _, _⟩ := isBodyD_tup hb
  obtain ⟨fr, h, _, _⟩ := reads_all 4 ds hb startP ⟨.none, none, []⟩ [] rfl rfl (by show 0 + ds.length ≤ 12; omega) (by show ([] ++ sitesD 5 (.tuple ds)).Nodup; rw [List.nil_append]; exact hnd) (by show ([] ++ sitesD 5 (.tuple ds)).length ≤ 40; rw [List.nil_append]; exact hs)
  have := readP_all h rfl
  rw [this]
  rfl
end MH
end
section
set_option linter.all false
set_option maxRecDepth 100000
/-! the mathematics: programs are small -/
namespace MH
open PySem
theorem wts_strs : ∀ as : List Str, wts (as.map PyData.str) = as.length
  | [] => rfl
  | a :: r => by
    rw [List.map_cons, wts_cons, wts_strs r, List.length_cons]
    have : wt (.str a) = 1 := by simp [wt]
    omega
theorem wt_tup (ds : List PyData) : wt (.tuple ds) = 1 + wts ds := by simp [wt]
theorem wt_str (x : Str) : wt (.str x) = 1 := by simp [wt]
theorem wts_nil : wts [] = 0 := by simp [wts]
theorem wt_body : ∀ (n : Nat) {d : PyData}, isBodyD n d = true → wt d ≤ 1 + 10 * (sitesD (n + 1) d).length
  | 0, d, h => by
    obtain ⟨ds, rfl, _, h0, _⟩ := isBodyD_tup h
    rw [h0 rfl, wt_tup, wts_nil]
    omega
  | n + 1, d, h => by
    obtain ⟨ds, rfl, hl0, h00, h1'⟩ := isBodyD_tup h
    have h1 := h1' n rfl
    clear h hl0 h00 h1'
    rw [sitesD_succ, wt_tup]
    induction ds with
    | nil => rw [wts_nil]; omega
    | cons it r ih =>
      rw [List.all_cons, Bool.and_eq_true] at h1
      have ih := ih h1.2
      rw [wts_cons, List.flatMap_cons, List.length_append]
      have : wt it ≤ 10 * (itSites (n + 1) it).length := by
        obtain ⟨hw, hb⟩ := okIt_w h1.1
        cases hw with
        | d s x as h1 h2 h3 h4 =>
          rw [itSites_d, wt_tup]
          simp only [wts_cons, wts_nil, wt_str, wt_tup, wts_strs, List.length_cons, List.length_nil]
          omega
        | i s as a b h1 h3 h4 =>
          rw [bodies_i] at hb
          have ha := wt_body n (hb a (by simp))
          have hb := wt_body n (hb b (by simp))
          rw [itSites_i, wt_tup]
          simp only [wts_cons, wts_nil, wt_str, wt_tup, wts_strs, List.length_cons, List.length_append]
          omega
        | w s as a h1 h3 h4 =>
          rw [bodies_w] at hb
          have ha := wt_body n (hb a (by simp))
          rw [itSites_w, wt_tup]
          simp only [wts_cons, wts_nil, wt_str, wt_tup, wts_strs, List.length_cons]
          omega
      omega
theorem depth_all {c : Nat} : ∀ {ds : List PyData}, (∀ d ∈ ds, d.depth ≤ c) → PyData.depthAll ds ≤ c
  | [], _ => by simp [PyData.depthAll]
  | d :: r, h => by
    have h1 := h d List.mem_cons_self
    have h2 := depth_all (ds := r) fun e he => h e (List.mem_cons_of_mem _ he)
    unfold PyData.depthAll
    omega
theorem depth_tup (ds : List PyData) : (PyData.tuple ds).depth = PyData.depthAll ds + 1 := by simp only [PyData.depth] <;> omega
theorem depth_str (x : Str) : (PyData.str x).depth ≤ 1 := by simp [PyData.depth]
theorem depth_body : ∀ (n : Nat) {d : PyData}, isBodyD n d = true → d.depth ≤ 2 * n + 2
  | 0, d, h => by
    obtain ⟨ds, rfl, _, h0, _⟩ := isBodyD_tup h
    rw [h0 rfl, depth_tup]
    simp [PyData.depthAll]
  | n + 1, d, h => by
    obtain ⟨ds, rfl, _, _, h1⟩ := isBodyD_tup h
    have h1 := h1 n rfl
    rw [depth_tup]
    have : PyData.depthAll ds ≤ 2 * n + 3 := depth_all fun it hi => by
      obtain ⟨hw, hb⟩ := okIt_w (List.all_eq_true.mp h1 it hi)
      have hs : ∀ as : List Str, (PyData.tuple (as.map PyData.str)).depth ≤ 2 := fun as => by
        rw [depth_tup]
        have := depth_strs as
        omega
      cases hw with
      | d s x as h1 h2 h3 h4 =>
        rw [depth_tup]
        have : PyData.depthAll [.str "do", .str s, .str x, .tuple (as.map .str)] ≤ 2 * n + 2 := depth_all fun d hd => by
          have h1 := hs as
          have h2 := depth_str
          simp only [List.mem_cons, List.not_mem_nil, or_false] at hd
          rcases hd with rfl | rfl | rfl | rfl
          · exact Nat.le_trans (h2 _) (by omega)
          · exact Nat.le_trans (h2 _) (by omega)
          · exact Nat.le_trans (h2 _) (by omega)
          · omega
        omega
      | i s as a b h1 h3 h4 =>
        rw [bodies_i] at hb
        have ha := depth_body n (hb a (by simp))
        have hb := depth_body n (hb b (by simp))
        rw [depth_tup]
        have : PyData.depthAll [.str "if", .str s, .tuple (as.map .str), a, b] ≤ 2 * n + 2 := depth_all fun d hd => by
          have h1 := hs as
          have h2 := depth_str
          simp only [List.mem_cons, List.not_mem_nil, or_false] at hd
          rcases hd with rfl | rfl | rfl | rfl | rfl
          · exact Nat.le_trans (h2 _) (by omega)
          · exact Nat.le_trans (h2 _) (by omega)
          · omega
          · exact ha
          · exact hb
        omega
      | w s as a h1 h3 h4 =>
        rw [bodies_w] at hb
        have ha := depth_body n (hb a (by simp))
        rw [depth_tup]
        have : PyData.depthAll [.str "while", .str s, .tuple (as.map .str), a] ≤ 2 * n + 2 := depth_all fun d hd => by
          have h1 := hs as
          have h2 := depth_str
          simp only [List.mem_cons, List.not_mem_nil, or_false] at hd
          rcases hd with rfl | rfl | rfl | rfl
          · exact Nat.le_trans (h2 _) (by omega)
          · exact Nat.le_trans (h2 _) (by omega)
          · omega
          · exact ha
        omega
    omega
/-- what is known of a program's data -/
theorem prog_small {p : PyData} (h : isProgD p = true) : noL p = true ∧ okL p ∧ wt p ≤ 1000 ∧ p.depth ≤ 20 := by
  obtain ⟨b, rfl, hb, hs, _⟩ := prog_is h
  have h1 := noL_body 4 hb
  have h2 := wt_body 4 hb
  have h3 := depth_body 4 hb
  have h2 : wt b ≤ 1 + 10 * (sitesD 5 b).length := h2
  refine ⟨noL_tup (noLs_all fun d hd => ?_), fun d hd => ?_, ?_, ?_⟩
  · simp only [List.mem_cons, List.not_mem_nil, or_false] at hd
    rcases hd with rfl | rfl
    · rfl
    · exact h1
  · simp only [List.mem_cons, List.not_mem_nil, or_false] at hd
    rcases hd with rfl | rfl
    · exact .inl rfl
    · exact .inl h1
  · rw [wt_tup, wts_cons, wts_cons, wts_nil, wt_str]
    omega
  · rw [depth_tup]
    have : PyData.depthAll [.str "program", b] ≤ 10 := depth_all fun d hd => by
      simp only [List.mem_cons, List.not_mem_nil, or_false] at hd
      rcases hd with rfl | rfl
      · exact Nat.le_trans (depth_str _) (by omega)
      · omega
    omega
/-- texts: the lines of a text, joined, are it -/
theorem join_lines (x : Str) : Txt.join "\n" (linesOf x) = x := by
  unfold linesOf
  split
  · rename_i e
    subst e
    rw [TL.join_eq]
    rfl
  · rw [TL.join_eq]
    exact StrLaws.join_split x "\n"
/-- what is read of a text has the text -/
theorem text_back {x : Str} {p : PyData} (h : (readP (linesOf x)).2 = some p) : isProgD p = true ∧ textD p = x := by
  obtain ⟨h1, h2, _⟩ := readP_some h
  refine ⟨h1, ?_⟩
  have h2 : linesD 5 ((tupD p).getD 1 .none) = linesOf x := h2
  unfold textD
  rw [h2, join_lines]
/-! ### lines of a joined text -/
theorem spl_two {s : Nat} : ∀ (n : Nat) (t rest acc : List Nat), t.length ≤ n → TL.spl [s] 0 acc (t ++ s :: rest) = TL.spl [s] 0 acc t ++ TL.spl [s] 0 [] rest := by
  intro n
  induction n with
  | zero =>
    intro t rest acc h
    have h : t = [] := List.length_eq_zero_iff.mp (by omega)
    subst h
    have h1 := TL.spl_part1 (s := s) (S := []) (p := []) (rest := rest) (acc := acc) (by simp)
    have h2 := TL.spl_last1 (s := s) (S := []) (p := []) (acc := acc) (by simp)
    rw [h2]
    exact h1
  | succ n ih =>
    intro t rest acc h
    by_cases hs : s ∈ t
    · obtain ⟨p, q, rfl, hp⟩ := List.eq_append_cons_of_mem hs
      have h1 := TL.spl_part1 (s := s) (S := []) (p := p) (rest := q ++ s :: rest) (acc := acc) hp
      have h2 := TL.spl_part1 (s := s) (S := []) (p := p) (rest := q) (acc := acc) hp
      have h3 := ih q rest [] (by simp only [List.length_append, List.length_cons] at h; omega)
      have e : p ++ s :: q ++ s :: rest = p ++ ([s] ++ (q ++ s :: rest)) := by simp
      rw [e, h1, h3]
      have h2 : TL.spl [s] 0 acc (p ++ s :: q) = _ := h2
      rw [h2]
      rfl
    · have h1 := TL.spl_part1 (s := s) (S := []) (p := t) (rest := rest) (acc := acc) hs
      have h2 := TL.spl_last1 (s := s) (S := []) (p := t) (acc := acc) hs
      rw [h2]
      exact h1
theorem nl_tl : TL.tl ("\n" : Str) = [10] := by rfl
theorem nl_256 : ("\n" : Str).cps.all (· < 256) = true := by
  rw [nl_eq]
  simp
theorem split_nl (x : Str) : (Txt.split x "\n").map TL.tl = TL.spl [10] 0 [] (TL.tl x) := TL.split_spl x "\n" (by rw [nl_tl]; simp) (TL.kind_ok nl_256)
theorem split_two (a b : Str) : Txt.split (a ++ "\n" ++ b) "\n" = Txt.split a "\n" ++ Txt.split b "\n" := by
  refine TL.map_tl_inj ?_
  rw [List.map_append, split_nl, split_nl, split_nl, TL.tl_append, TL.tl_append, nl_tl, List.append_assoc]
  exact spl_two _ _ _ _ (Nat.le_refl _)
theorem split_pieces {m : Nat} : ∀ (fs : List Str), (∀ f ∈ fs, f.length ≤ m) → ∀ y ∈ Txt.split (Txt.join "\n" fs) "\n", y.length ≤ m
  | [], _, y, hy => by
    rw [TL.join_eq, nl_eq] at hy
    have := split_part hy
    have e : (Str.join ⟨#[10]⟩ []).length = 0 := by rfl
    omega
  | [f], h, y, hy => by
    rw [TL.join_eq, nl_eq] at hy
    have := split_part hy
    have e : Str.join ⟨#[10]⟩ [f] = f := rfl
    rw [e] at this
    exact Nat.le_trans this (h f (by simp))
  | f :: g :: r, h, y, hy => by
    rw [TL.join_eq, PyProof.Rows.join_cons_cons, split_two, ← TL.join_eq] at hy
    rcases List.mem_append.mp hy with hy | hy
    · rw [nl_eq] at hy
      exact Nat.le_trans (split_part hy) (h f (by simp))
    · exact split_pieces (g :: r) (fun z hz => h z (List.mem_cons_of_mem _ hz)) y hy
theorem pieces {m : Nat} {fs : List Str} (h : ∀ f ∈ fs, f.length ≤ m) : ∀ y ∈ linesOf (Txt.join "\n" fs), y.length ≤ m := by
  unfold linesOf
  split
  · intro y hy
    cases hy
  · exact split_pieces fs h
theorem text_len {m : Nat} {fs : List Str} (h : ∀ f ∈ fs, f.length ≤ m) : (Txt.join "\n" fs).length ≤ fs.length * (m + 1) := by
  rw [TL.join_eq]
  have h1 := StrLaws.join_length_le "\n" fs
  have h2 := sum_le h
  have h3 : (Str.ofString "\n").length = 1 := by decide
  rw [h3] at h1
  rw [Nat.mul_add]
  omega
/-- no line feed within -/
def noNl (x : Str) : Prop := (10 : Nat) ∉ x.cps.toList
instance (x : Str) : Decidable (noNl x) := inferInstanceAs (Decidable ((10 : Nat) ∉ x.cps.toList))
theorem name_noNl {x : Str} (h : isName x = true) : noNl x := fun z => by
  have := isName_letters h 10 z
  exact absurd this (by decide)
theorem spc_noNl {ws : List Str} (h : ∀ x ∈ ws, noNl x) : noNl (spc ws) := fun z => by
  unfold spc at z
  rw [TL.join_eq] at z
  rcases (PyProof.Rows.mem_join _ _ _).mp z with ⟨t, ht, hc⟩ | ⟨_, hc⟩
  · exact h t ht hc
  · exact absurd hc (by decide)
theorem words_noNl {it : PD} (h : isItemD it = true) : ∀ y ∈ wordsD it, noNl y := by
  have := item_w h
  cases this with
  | d s x as h1 h2 h3 h4 =>
    rw [words_d]
    intro y hy
    simp only [List.mem_cons] at hy
    rcases hy with rfl | rfl | rfl | hy
    · decide
    · exact name_noNl h1
    · exact name_noNl h2
    · exact name_noNl (h4 y hy)
  | i s as a b h1 h3 h4 =>
    rw [words_i]
    intro y hy
    simp only [List.mem_cons] at hy
    rcases hy with rfl | rfl | hy
    · decide
    · exact name_noNl h1
    · exact name_noNl (h4 y hy)
  | w s as a h1 h3 h4 =>
    rw [words_w]
    intro y hy
    simp only [List.mem_cons] at hy
    rcases hy with rfl | rfl | hy
    · decide
    · exact name_noNl h1
    · exact name_noNl (h4 y hy)
theorem spc_ne {a b : Str} {r : List Str} (h : ∀ x ∈ a :: b :: r, noSp x) : spc (a :: b :: r) ≠ Str.empty := fun z => by
  have h1 : Txt.split (spc (a :: b :: r)) " " = a :: b :: r := split_spc (List.cons_ne_nil _ _) h
  have h2 : Txt.split (spc [Str.empty]) " " = [Str.empty] := split_spc (List.cons_ne_nil _ _) (fun x hx => by rw [List.mem_singleton.mp hx]; decide)
  have h3 : spc [Str.empty] = Str.empty := by
    unfold spc
    rw [TL.join_eq]
    rfl
  rw [z, ← h3, h2] at h1
  cases h1
theorem lines_clean : ∀ (n : Nat) {d : PyData}, isBodyD n d = true → ∀ y ∈ linesD (n + 1) d, noNl y ∧ y ≠ Str.empty
  | 0, d, h => by
    obtain ⟨ds, rfl, _, h0, _⟩ := isBodyD_tup h
    rw [h0 rfl]
    intro y hy
    cases hy
  | n + 1, d, h => by
    obtain ⟨ds, rfl, hl, _, h1⟩ := isBodyD_tup h
    rw [linesD_succ]
    intro y hy
    obtain ⟨e, he, hy⟩ := List.mem_flatMap.mp hy
    obtain ⟨hi, hbs⟩ := okIt_item (List.all_eq_true.mp (h1 n rfl) e he)
    have hsp := spc_noNl (words_noNl hi)
    have hel : noNl "else" ∧ ("else" : Str) ≠ Str.empty := by decide
    have hen : noNl "end" ∧ ("end" : Str) ≠ Str.empty := by decide
    have := item_w hi
    cases this with
    | d s x as h1 h2 h3 h4 =>
      rw [lines_d] at hy
      rw [words_d] at hsp
      rw [List.mem_singleton.mp hy]
      refine ⟨hsp, spc_ne fun z hz => ?_⟩
      simp only [List.mem_cons] at hz
      rcases hz with rfl | rfl | rfl | hz
      · decide
      · exact name_noSp h1
      · exact name_noSp h2
      · exact name_noSp (h4 z hz)
    | i s as a b h1 h3 h4 =>
      rw [bodies_i] at hbs
      rw [lines_i] at hy
      rw [words_i] at hsp
      rcases List.mem_cons.mp hy with rfl | hy
      · refine ⟨hsp, spc_ne fun z hz => ?_⟩
        simp only [List.mem_cons] at hz
        rcases hz with rfl | rfl | hz
        · decide
        · exact name_noSp h1
        · exact name_noSp (h4 z hz)
      rcases List.mem_append.mp hy with hy | hy
      · exact lines_clean n (hbs a (by simp)) y hy
      rcases List.mem_append.mp hy with hy | hy
      · split at hy
        · rcases List.mem_cons.mp hy with rfl | hy
          · exact hel
          · exact lines_clean n (hbs b (by simp)) y hy
        · cases hy
      · rw [List.mem_singleton.mp hy]; exact hen
    | w s as a h1 h3 h4 =>
      rw [bodies_w] at hbs
      rw [lines_w] at hy
      rw [words_w] at hsp
      rcases List.mem_cons.mp hy with rfl | hy
      · refine ⟨hsp, spc_ne fun z hz => ?_⟩
        simp only [List.mem_cons] at hz
        rcases hz with rfl | rfl | hz
        · decide
        · exact name_noSp h1
        · exact name_noSp (h4 z hz)
      rcases List.mem_append.mp hy with hy | hy
      · exact lines_clean n (hbs a (by simp)) y hy
      · rw [List.mem_singleton.mp hy]; exact hen
theorem linesOf_join {ls : List Str} (h : ∀ y ∈ ls, noNl y ∧ y ≠ Str.empty) : linesOf (Txt.join "\n" ls) = ls := by
  cases hne : ls with
  | nil => rfl
  | cons a r =>
    rw [← hne]
    have h1 : Txt.split (Txt.join "\n" ls) "\n" = ls := TL.split_join (y := "\n") (s := 10) (S := []) nl_tl nl_256 (by rw [hne]; exact List.cons_ne_nil _ _) (fun p hp => (h p hp).1)
    unfold linesOf
    rw [if_neg, h1]
    intro z
    have h2 : Txt.split (Txt.join "\n" [Str.empty]) "\n" = [Str.empty] := TL.split_join (y := "\n") (s := 10) (S := []) nl_tl nl_256 (List.cons_ne_nil _ _) (fun p hp => by rw [List.mem_singleton.mp hp]; decide)
    have h3 : Txt.join "\n" [Str.empty] = ("" : Str) := by
      rw [TL.join_eq]
      rfl
    rw [z, ← h3, h2] at h1
    have := (h Str.empty (by rw [← h1]; simp)).2
    exact this rfl
/-- a program's text is read back -/
theorem read_text {p : PyData} (h : isProgD p = true) : readP (linesOf (textD p)) = ((linesD 5 ((tupD p).getD 1 .none)).length, some p) := by
  obtain ⟨b, rfl, hb, hs, hnd⟩ := prog_is h
  show readP (linesOf (Txt.join "\n" (linesD (4 + 1) b))) = _
  rw [linesOf_join (lines_clean 4 hb)]
  exact readP_lines hb hs hnd
end MH
end
section
set_option Elab.async false
set_option linter.all false
set_option maxRecDepth 100000
set_option maxHeartbeats 4000000
/-! engine: exceptions that are caught and kept -/
namespace MH
open PySem PySem.Spec PyProof.Rows L2
/-- a caught exception at a: its class, its dict -/
def CaE (cls : Value) (d : Option Addr) (a : Addr) : HO := .ext fun h => ∃ (oe : Obj) (vs : Array Value), h.get? a = some oe ∧ Zc cls d oe ∧ oe.data = .fields vs
theorem caE_ok {P : Program} {w : World} {H : Hp} {h : Heap} {a : Addr} {cls : Value} {d : Option Addr} {oe : Obj} {vs : Array Value} (e : h.get? a = some oe) (z : Zc cls d oe) (hd : oe.data = .fields vs) : ObjOk P w H h a (CaE cls d a) :=
  ⟨⟨oe, vs, e, z, hd⟩, ⟨oe, e⟩, fun _ _ ⟨o, v, q, r⟩ k => ⟨o, v, k o q, r⟩⟩
section
variable {X : Cx} {pins : List (Addr × Obj)} {σ : L2.St} {H : Hp} {s : Shared}
/-- an object that came since is told from now on -/
theorem inv_tell {a : Addr} {o : HO} (I : Inv X pins σ H s) (hn : H a = none) (n0 : X.s_0.heap.get? a = none) (nL : a ≠ X.env.locals) (nC : ∀ x c, X.env.cells.lookup x = some c → c ≠ a) (nP : ∀ p ∈ X.pn ++ pins, p.1 ≠ a)
    (new : ObjOk X.prog X.w (upd H a o) s.heap a o) : Inv X pins σ (upd H a o) s := by
  have ne0 : ∀ b u, X.s_0.heap.get? b = some u → b ≠ a := fun b u e z => by
    rw [z, n0] at e
    cases e
  refine ⟨I.ok, I.os, I.bare, ⟨I.base.keep, I.base.slot, fun b u e n hx => ?_, I.base.there, fun b xs q => ?_, fun b u xs q => ?_, fun b ps q => ?_⟩, I.loc, I.cell, ?_, fun x c e => ?_, fun p hp => ?_, I.hok.laidN (fun _ _ e => e) hn new, I.len⟩
  · rw [upd_ne (ne0 b u e)]
    exact I.base.free b u e n hx
  · have q2 := I.base.tups b xs q
    rw [upd_ne (ne_of_none q2 hn)]
    exact q2
  · have q2 := I.base.frzs b u xs q
    rw [upd_ne (ne_of_none q2 hn)]
    exact q2
  · obtain ⟨m, q2⟩ := I.base.tbls b ps q
    exact ⟨m, by rw [upd_ne (ne_of_none q2 hn)]; exact q2⟩
  · rw [upd_ne nL.symm]
    exact I.free
  · rw [upd_ne (nC x c e)]
    exact I.freeC x c e
  · obtain ⟨h1, h2, h3, h4, h5⟩ := I.pin p hp
    exact ⟨h1, by rw [upd_ne (nP p hp)]; exact h2, h3, h4, h5⟩
theorem inv_suite0 (I : Inv X pins σ H s) (a : Addr) : Inv (X.suite a (X.pn ++ pins)) [] σ H s :=
  ⟨I.ok.suite _ _, I.os, I.bare, I.base, I.loc, I.cell, I.free, I.freeC, fun p hp => I.pin p (by rw [List.append_nil] at hp; exact hp), I.hok, I.len⟩
theorem inv_unsuite0 {a : Addr} {pn' : List (Addr × Obj)} (I : Inv (X.suite a (X.pn ++ pins)) pn' σ H s) (ok : X.Ok) : Inv X pins σ H s :=
  ⟨ok, I.os, I.bare, I.base, I.loc, I.cell, I.free, I.freeC, fun p hp => I.pin p (List.mem_append_left _ hp), I.hok, I.len⟩
end
/-- what 'except c as n' wishes of an exception of the body: slot i is n's; the exception is told -/
def wAsK (K : PySem.W.Frag) (m : Nat) (c : Value) (i : Nat) (ts : Addr → TS) (Wout : WX) (D : Ends) : WX := fun cls d σ H => σ.length = m →
  ∃ b, PySem.W.exmOne K cls c = some b ∧ (b = true → ∀ a, H a = none → ts a { nx := fun σ' H' => D.nx (σ'.set i none) H', rt := D.rt, bk := fun σ' H' => D.bk (σ'.set i none) H', ct := fun σ' H' => D.ct (σ'.set i none) H' } (σ.set i (some (.ref a))) (upd H a (CaE cls d a))) ∧
    (b = false → Wout cls d σ H)
section
variable {X : Cx} {x n : Str} {c : Value} {i : Nat} {body suite : List Stmt} {b₀ : Stmt} {np pos pos' : Pos} {tb : WX → TS} {ts : Addr → TS} {Wout : WX}
theorem ps_try_asK (hs : X.stack = X.env :: X.outer) (hf : X.env.frame = some X.env.locals) (hex : X.ex = []) (hN : X.N.Nodup) (hi : X.N[i]? = some n) (hln : X.env.kindOf n = some .local) (hc : Names X x c) (tk : Takes X Wout)
    (hb : ∀ (W : WX) (pn : List (Addr × Obj)) (xe : Value → Shared → Prop), Takes (X.tr pn xe) W → PassesOwn (model X.prog X.w) X.A X.env xe → PSs (X.tr pn xe) body (tb W))
    (hsu : ∀ (a : Addr) (pn : List (Addr × Obj)), PSs (X.suite a pn) (b₀ :: suite) (ts a)) :
    PS X (.Try body [.ExceptHandler (some (.Name x np)) (some n) (b₀ :: suite) pos'] [] [] pos) (fun D σ H => tb (wAsK X.K X.N.length c i ts Wout D) D σ H) := by
  refine ⟨fun pins s σ H D I h => ?_⟩
  have ok := I.ok
  have hfr : X.A.frames = some (X.env :: X.outer) := by rw [ok.frames, hs]
  have hloc : Loc X.env.scope n := .inl hln
  refine wpAny_Try_except ?_
  refine wpAny_mono ((hb (wAsK X.K X.N.length c i ts Wout D) (X.pn ++ pins) (fun e s₁ => wpAny (model X.prog X.w) X.A (noteFrame e X.env) (fun _ s₂ => wpAny (model X.prog X.w) X.A (setFlight e none) (fun _ s₃ =>
    wpAny (model X.prog X.w) X.A (handleBy e X.env [.ExceptHandler (some (.Name x np)) (some n) (b₀ :: suite) pos']) (SP X pins D) X.xe s₃) X.xe s₂) X.xe s₁) (fun u s' xx => ?_) PassesOwn.looking).run [] s σ H D (I.toTry _) h) (fun f s1 hsp => ?_) (fun e s1 he => he)
  · -- the catch
    obtain ⟨a, B, sI, pins', σ', H', cls, d, rfl, J', nb, up, sky, na, os, ag, hw⟩ := xx
    obtain ⟨b, hb1, hyes, hno⟩ := hw J'.len
    have J : Inv X pins σ' H' sI := J'.ofTry ok
    have sky' : Sky B (X.env :: X.outer) a (Zc cls d) X.env.locals s'.heap := by rw [← hs]; exact sky
    show wpAny (model X.prog X.w) X.A (noteFrame (.ref a) X.env) _ _ _
    refine Sky.land Zc.steady hfr hf sky' fun h3 fl3 up3 => ?_
    have J3 : Inv X pins σ' H' { s' with heap := h3 } := J.landed nb fl3.1 (up.trans up3) os ag
    obtain ⟨oe3, vs3, he3, hz3, hd3⟩ := fl3.there
    have notFr : ∀ {h : Heap} {o : Obj} {vs : Array Value}, h.FunFrames B (X.env :: X.outer) → h.get? a = some o → o.data = .fields vs → a ∉ frs (X.env :: X.outer) := fun {h o vs} ff e dd hm => by
      obtain ⟨_, o', e', hnf⟩ := ff.mem hm
      rw [e] at e'; cases e'
      exact hnf _ dd
    have nfr := notFr fl3.2.2.1 he3 hd3
    have nL : a ≠ X.env.locals := fun z => nfr (List.mem_filterMap.mpr ⟨X.env, List.mem_cons_self, by rw [hf, z]⟩)
    have nF : a ∉ X.fs := fun hm => by
      obtain ⟨e, he, q⟩ := List.mem_filterMap.mp hm
      exact nfr (List.mem_filterMap.mpr ⟨e, List.mem_cons_of_mem _ he, q⟩)
    have nI : sI.heap.get? a = none := by
      cases e : sI.heap.get? a with
      | none => rfl
      | some o =>
        have z := nb a o e (by rw [hs]; exact nfr)
        have z2 : B.get? a = none := fl3.2.1
        rw [z2] at z
        cases z
    have n0 : X.s_0.heap.get? a = none := by
      cases e : X.s_0.heap.get? a with
      | none => rfl
      | some o =>
        obtain ⟨o', q⟩ := J.base.there a o e (by rw [hex]; exact fun z => nomatch z)
        rw [nI] at q
        cases q
    have nP : ∀ p ∈ X.pn ++ pins, p.1 ≠ a := fun p hp z => by
      have q := (J.pin p hp).1
      rw [z, nI] at q
      cases q
    have S3 := J3.suite he3 hd3 na nL nF
    refine wpAny_handleBy_cons (codeAny_handlers_test ?_) (by intro q; cases q)
    have LT : PySem.W.Looks (model X.prog X.w) h3 (typeOf (.ref a)) cls := fun A Q E s k q => wpAny_typeOf_ref (k _ _ he3) (by rw [hz3.1]; exact q)
    have LM := PySem.W.exm_one (M := model X.prog X.w) (J3.kIn) LT hb1
    have test : ∀ {Q : Value → Shared → Prop} {E : Value → Shared → Prop}, Q c { s' with heap := h3 } → wpAny (model X.prog X.w) (X.A.mark (some (.ref a))) (eval (.Name x np) X.env) Q E { s' with heap := h3 } := fun {Q E} q => by
      obtain ⟨hg, hdbg, hm | ⟨hm, hv, hnn⟩⟩ := hc
      · exact ld_glob (X := X.suite a ((a, oe3) :: (X.pn ++ pins))) S3 hg hm q hdbg
      · exact ld_blt (X := X.suite a ((a, oe3) :: (X.pn ++ pins))) S3 hg hm hv q hnn hdbg
    refine test (LM.here ?_)
    cases b with
    | true =>
      refine codeAny_handlers_suite_as ?_
      refine HandSPX.lands_againZ fl3 fun h4 fl4 up4 => ?_
      have J4 : Inv X pins σ' H' { s' with heap := h4 } := J.landed nb fl4.1 ((up.trans up3).trans up4) os ag
      obtain ⟨oe4, vs4, he4, hz4, hd4⟩ := fl4.there
      have nC : ∀ x c, X.env.cells.lookup x = some c → c ≠ a := fun x c e z => by
        obtain ⟨v, o, ho, hd⟩ := J4.cell x c e
        have ho : h4.get? c = some o := ho
        rw [z, he4] at ho
        cases ho
        rw [hd4] at hd
        cases hd
      have T4 := inv_tell J4 na n0 nL nC nP (caE_ok he4 hz4 hd4)
      have S4 := inv_suite0 T4 a
      refine store_ok (X := X.suite a (X.pn ++ pins)) (v := .ref a) S4 hN hi hloc rfl (fun s5 S5 => ?_) (.inr hln)
      refine wpAny_mono ((hsu a (X.pn ++ pins)).run [] s5 _ _ _ S5 (hyes rfl a na)) (fun f s6 hsp => ?_) (fun _ _ z => False.elim z)
      have end_ : ∀ {σ6 : L2.St} {H6 : Hp} {Q : Shared → Prop}, Inv (X.suite a (X.pn ++ pins)) [] σ6 H6 s6 → (∀ s7, Inv X pins (σ6.set i none) H6 s7 → Q s7) →
          wpAny (model X.prog X.w) X.A (do bindName X.env n .none; unbindBehindTheSuite X.env n pos') (fun _ s7 => Q s7) X.xe s6 := fun {σ6 H6 Q} S6 hq => gone_ok (inv_unsuite0 S6 ok) hN hi hln hq
      cases f with
      | next =>
        obtain ⟨σ6, H6, S6, q6⟩ := hsp
        exact end_ S6 fun s7 J7 => ⟨_, _, J7, q6⟩
      | brk =>
        obtain ⟨σ6, H6, S6, q6⟩ := hsp
        exact end_ S6 fun s7 J7 => ⟨_, _, J7, q6⟩
      | cont =>
        obtain ⟨σ6, H6, S6, q6⟩ := hsp
        exact end_ S6 fun s7 J7 => ⟨_, _, J7, q6⟩
      | ret u =>
        obtain ⟨v6, σ6, H6, S6, r6, q6⟩ := hsp
        exact end_ S6 fun s7 J7 => ⟨_, _, _, J7, r6, q6⟩
    | false =>
      show wpAny _ X.A (handleBy (.ref a) X.env []) _ _ _
      refine wpAny_handleBy_nil ?_
      obtain ⟨k1, k2, k3, oe, vs, T, oT, ts', he, hz, hd, h1, hr⟩ := id fl3
      unfold PySem.passOn
      refine wpAny_bind (wpAny_field he hd h1 ?_)
      rw [if_neg (show ¬ ((Value.ref T == Value.none) = true) from by simp)]
      have fin : wpAny (model X.prog X.w) X.A (setFlight (.ref a) X.env.frame) (fun _ s4 => wpAny (model X.prog X.w) X.A (throw (.ref a) : Sem Flow) (SP X pins D) X.xe s4) X.xe { s' with heap := h3 } := by
        rw [hf]
        refine HandSPX.setFlight_upZ fl3 fun h4 hh4 up4 => wpAny_throw (tk _ _ ?_)
        exact ⟨a, B, sI, pins, σ', H', cls, d, rfl, J, nb, (up.trans up3).trans up4, .inr (.inr (by rw [hs]; exact hh4)), na, os, ag, hno rfl⟩
      first
        | exact wpAny_bind (wpAny_pure (wpAny_bind fin))
        | exact wpAny_bind fin
  · cases f with
    | next =>
      obtain ⟨σ', H', J', q⟩ := hsp
      exact wpAny_execs_nil ⟨σ', H', J'.ofTry ok, q⟩
    | brk =>
      obtain ⟨σ', H', J', q⟩ := hsp
      exact ⟨σ', H', J'.ofTry ok, q⟩
    | cont =>
      obtain ⟨σ', H', J', q⟩ := hsp
      exact ⟨σ', H', J'.ofTry ok, q⟩
    | ret u =>
      obtain ⟨v, σ', H', J', r, q⟩ := hsp
      exact ⟨v, σ', H', J'.ofTry ok, r, q⟩
end
/-! ### what is asked of a caught exception -/
structure XcC (K : Fg) (C : Addr) : Prop where
  cl : (PySem.W.clsIn K C).isSome = true
  hga : PySem.W.findIn K (.ref C) "__getattribute__" = some (some (.builtin "BaseException.__getattribute__"))
  hgt : PySem.W.findIn K (.ref C) "__getattr__" = some none
  hsub : PySem.W.subIn K (.ref C) (.type "BaseException") = some true
  ha : PySem.W.findIn K (.ref C) "__class__" = some (some (.builtin "object.__class__"))
  hn : PySem.W.specialIn K (.builtin "object.__class__") "__get__" = some (some (.builtin "getset_descriptor.__get__"))
  ht : PySem.W.takesIn K (.builtin "object.__class__") = some true
  hm : PySem.W.mroIn K C (.type "object") = some true
  hd : PySem.W.hasDictIn K C = true
section
variable {X : Cx}
/-- isinstance(error, its own class) -/
def rIsX (K : Fg) : List V → Hp → VK → Prop := fun xs H Q => ∃ (a C : Addr) (d : Option Addr), xs = [.ref a, .ref C] ∧ XcC K C ∧ H a = some (CaE (.ref C) d a) ∧ (∀ dd, d = some dd → ∃ fs, H dd = some (.xd fs)) ∧ Q (.bl true) H
theorem inst_at {pins : List (Addr × Obj)} {σ : L2.St} {H : Hp} {s : Shared} {a C : Addr} {d : Option Addr} (I : Inv X pins σ H s) (ha : H a = some (CaE (.ref C) d a)) (hd : ∀ dd, d = some dd → ∃ fs, H dd = some (.xd fs)) : ∃ oe od, PySem.W.InstAt s.heap a oe C od := by
  obtain ⟨⟨oe, vs, e, z, hv⟩, _, _⟩ := I.hok a _ ha
  have nc : PySem.W.notCls oe = true := by
    unfold PySem.W.notCls
    rw [hv] <;> rfl
  cases d with
  | none => exact ⟨oe, none, e, z.1, nc, by rw [z.2]; trivial⟩
  | some dd =>
    obtain ⟨fs, hx⟩ := hd dd rfl
    have hx : ObjOk X.prog X.w H s.heap dd (.xd fs) := I.hok dd _ hx
    obtain ⟨mA, hns, hr⟩ := hx
    obtain ⟨od, ho, hl⟩ := lookIn_ns hns
    exact ⟨oe, some od, e, z.1, nc, by rw [z.2]; exact ho⟩
theorem call_isX : CallR X (.builtin "isinstance") (rIsX X.K) := by
  intro pins s σ H xs us Q I r h
  obtain ⟨a, C, d, rfl, T, ha, hd, q⟩ := h
  obtain ⟨u1, u2, rfl, r1, r2⟩ := vals2 r
  cases (show u1 = Value.ref a from r1)
  cases (show u2 = Value.ref C from r2)
  obtain ⟨oe, od, J⟩ := inst_at I ha hd
  have own : PySem.W.kitOne X.K (.ref C) (.ref C) = some true := if_pos (beq_self_eq_true _)
  exact PySem.W.kia_one (PySem.W.kitx_exc T.cl T.hga T.hgt T.hsub T.ha T.hn T.ht T.hm) I.kIn J own (fun z => nomatch z) fun tk => ⟨.bl true, H, I.tok tk, rfl, q⟩
/-- error.f -/
def rXa (K : Fg) (f : Str) (x : V) (H : Hp) (Q : VK) : Prop := ∃ (a C dd : Addr) (fs : List (Str × V)) (v : V), x = .ref a ∧ XcC K C ∧ PySem.W.findIn K (.ref C) f = some none ∧ H a = some (CaE (.ref C) (some dd) a) ∧ H dd = some (.xd fs) ∧ fs.lookup f = some v ∧ Q v H
def tXa (K : Fg) (f : Str) (te : TE) : TE := fun σ H Q => te σ H fun x H1 => rXa K f x H1 Q
theorem i_xa {K : Fg} {f : Str} {te : TE} {σ : L2.St} {H : Hp} {Q : VK} (h : te σ H fun x H1 => rXa K f x H1 Q) : tXa K f te σ H Q := h
theorem pe_xa {e : Expr} {te : TE} {pos : Pos} {n : Str} (he : PE X e te) (hb : attributeBase e n X.env (eval e X.env) = eval e X.env := by rfl) : PE X (.Attribute e n pos) (tXa X.K n te) := by
  refine ⟨fun pins s σ H Q I h => ?_⟩
  refine attr_of hb (thn (he.run pins s σ H _ I h) fun u s1 hh => ?_)
  obtain ⟨x, H1, I1, rx, a, C, dd, fs, v, ex, T, hno, ha, hdd, l, q⟩ := hh
  subst ex
  obtain rfl : u = Value.ref a := rx
  obtain ⟨⟨oe, vs, e, z, hv⟩, _, _⟩ := I1.hok a _ ha
  have hx : ObjOk X.prog X.w H1 s1.heap dd (.xd fs) := I1.hok dd _ hdd
  obtain ⟨mA, hns, hr⟩ := hx
  obtain ⟨od, ho, hl⟩ := lookIn_ns hns
  obtain ⟨u, hu, ru⟩ := RelO.some_of (v := v) (o := mA n) (by rw [← l]; exact hr n)
  have J : PySem.W.InstAt s1.heap a oe C (some od) := ⟨e, z.1, by unfold PySem.W.notCls; rw [hv] <;> rfl, by rw [z.2]; exact ho⟩
  exact HandSPX.exc_get I1.kIn J T.hga T.hgt T.hsub (PySem.W.findObj_own T.hd hno rfl (by rw [hl, hu])) (handed_of ru) ⟨v, H1, I1.tok _, ru, q⟩
end
/-! ### a def whose code object is known -/
theorem funD_okC {P : Program} {w : World} {K : Fg} {mg : Str → Option Value} {base : Heap} {x qual : Str} {params : Arguments} {body : List Stmt} {scope : Scope} {dvs : List V} {kws : List (Str × V)} {p : Str × Option Str} {fd : FuncData}
    {CX : CXT} {N ps : List Str} {k : Nat} {sp : Sp} (F : FunD K x qual params body scope dvs kws (He.fAd K p) fd) (S : FnScope N ps scope) (len : ∀ vs H Q E, sp vs H Q E → vs.length = ps.length)
    (hbody : ∀ (A : Around) (outer : List Env) (s : Shared) (H : Hp) (vs : List V) (Q : VK) (E : XK), Room k (A.deeper (envOfC qual scope s.heap.objs.size (He.fAd K p) (.ref (He.codeOf K p)))) → sp vs H Q E →
      ∃ t, PSs (cxOf CX P w K mg base N qual scope (He.fAd K p) (.ref (He.codeOf K p)) A outer s H E) body t ∧ t { nx := fun _ H' => Q .non H', rt := Q } (L2.start N vs) H) : FnOk P w K mg base CX (k + 1) (He.fAd K p) fd ps sp := by
  obtain ⟨oc, od, dV, kV, doc, pm, an, cdv, ct, osl, rfl, lk, hcd, _, _⟩ := F.ex
  obtain ⟨c, rfl⟩ := He.codeIn_ref hcd
  have e := He.codeOf_eq lk rfl
  exact fn_of lk hcd S len fun A outer s H vs Q E hr hsp => by
    have := hbody A outer s H vs Q E
    rw [e] at this
    exact this hr hsp
/-! ### f(k = v) -/
structure KeepsK (P : Program) (w : World) (K : PySem.W.Frag) (mg : Str → Option Value) (base : Heap) (CX : CXT) (k : Nat) (x : Str) (p : Str) (sp : Sp) : Prop where
  ex : ∃ f fd, FnOk P w K mg base CX k f fd [p] sp ∧ (∀ u : Value, bindArgs fd ⟨[], [(p, u)]⟩ = pure [(p, u)]) ∧ PySem.W.keepIn K (.ref f) = true ∧ mg x = some (.ref f)
section
variable {X : Cx} {CX : CXT} {k : Nat} {sp : Sp} {E : XK} {x n : Str} {p pos kpos : Pos} {e : Expr} {te : TE}
theorem pe_kw1 (F : KeepsK X.prog X.w X.K X.mg X.base CX k x n sp) (hr : Room k X.A) (hx : Passes CX X E) (he : PE X e te) (hg : Gl X x := by rfl)
    (hall : (backToKw pos (keywordEach [⟨some n, e, kpos⟩] X.env)).all (·.1.isSome) = true := by rfl) (hks : (backToKw pos (keywordEach [⟨some n, e, kpos⟩] X.env)).filterMap (·.1) = [n] := by rfl) (hdb : (x == ("__debug__" : Str)) = false := by decide)
    (hpl : ((backTo pos (starEach [] X.env)).any (·.1) || (backToKw pos (keywordEach [⟨some n, e, kpos⟩] X.env)).any (·.1.isNone)) = false := by rfl) :
    PE X (.Call (.Name x p) [] [⟨some n, e, kpos⟩] pos) (tCall sp [] E (tCons te tNil)) := by
  obtain ⟨f, fd, h1, h2, h3, h4⟩ := F.ex
  refine ⟨fun pins s σ H Q I h => ?_⟩
  refine wpAny_Call_Name_kw (ld_glob I hg h4 ?_ hdb)
  refine PySem.W.callWith_KW0 (h₀ := X.base) I.ok.mod.kin h3 hall ?_ hpl
  have hkw : PK X [⟨some n, e, kpos⟩] (tCons te tNil) := pk_cons he pk_nil
  refine thn (hkw.run pos pins s σ H _ I h) fun ws s2 ⟨zs, H2, I2, rz, q2⟩ => ⟨I2.kIn, ?_⟩
  rw [hks]
  have q2 : sp (zs ++ []) H2 Q E := q2
  rw [List.append_nil] at q2
  have hl := h1.len _ _ _ _ q2
  refine wpAny_call (codeAny_mono (h1.run X.A X.stack s2 H2 ⟨[], [n].zip ws⟩ ws zs Q E hr I2.env0 ?_ rz q2) fun r s' hq => ?_)
  · have hlw : ws.length = 1 := by rw [← rz.length]; exact hl
    match ws, hlw with
    | [u], _ =>
      refine BindsTo.of_looks fun M => ?_
      show PySem.W.Looks M _ (bindArgs fd ⟨[], [(n, u)]⟩) _
      rw [h2 u]
      exact .now
  · cases r with
    | error e => exact hx pins σ H2 s2 e s' I2 hq
    | ok fl =>
      cases fl with
      | ret u => exact I2.after hq
      | next => exact False.elim hq
      | brk => exact False.elim hq
      | cont => exact False.elim hq
end
end MH
end
section
set_option Elab.async false
set_option linter.all false
set_option maxRecDepth 100000
set_option maxHeartbeats 4000000
/-! engine: _law_caught(lambda: ..) -/
namespace MH
open PySem PySem.Spec PyProof.Rows L2
/-- caught = None; try: work() except VersionError as error: caught = error -/
def TTc (K : Fg) (CS : Addr) : (XK → Hp → VK → Prop) → Hp → VK → Prop := fun tl H Q =>
  tl (fun cls d H' => ∃ b, PySem.W.exmOne K cls (.ref CS) = some b ∧ (b = true → ∀ a, H' a = none → Q (.ref a) (upd H' a (CaE cls d a))) ∧ (b = false → False)) H (fun _ H' => Q .non H')
theorem caught_gives {X : Cx} (T : Tx X.K X.mg) {q : Str} {g : Addr} {cdg : Value} : LamX.GivesTo X n__law_caught "_law_caught" (defScope s__law_caught) g cdg (defBody s__law_caught) "work" q (TTc X.K (He.ga X.K "VersionError")) := by
  intro f c' s H Q tl act hc h
  refine ⟨_, pss_cons (ps_set (i := 1) sc__law_caught.nd rfl (Or.inl rfl) pe_non) (pss_cons (ps_try_asK (i := 2) (c := .ref (He.ga X.K "VersionError")) (Wout := fun _ _ _ _ => False)
      (tb := fun W D σ H => ∃ Ech : XK, (∀ cls d σ' H', Ech cls d H' → W cls d σ' H') ∧ σ[0]? = some (some (.ref f)) ∧ H c' = some (LamX.CodeO c' q) ∧ tl Ech H (fun _ H' => D.nx σ H'))
      rfl rfl rfl sc__law_caught.nd rfl rfl ⟨rfl, by decide, .inl T.g_VersionError⟩ LamX.takes0 (fun W pn xe tk _ => ?_) (fun a pn => pss_one (ps_set (i := 1) sc__law_caught.nd rfl (Or.inl rfl) (pv 2)))) (pss_one (ps_ret (pv 1)))), ?_⟩
  · refine ⟨fun pins s' σ H' D I h' => ?_⟩
    obtain ⟨Ech, hW, h1, h2, h3⟩ := h'
    exact (pss_one (ps_expr (act W pn xe Ech _ _ tk hW))).run pins s' σ H' D I ⟨h1, h2, h3⟩
  · refine i_seq (i_asg (i_c (i_name ?_)))
    refine i_seq ?_
    refine ⟨fun cls d H' => ∃ b, PySem.W.exmOne X.K cls (.ref (He.ga X.K "VersionError")) = some b ∧ (b = true → ∀ a, H' a = none → Q (.ref a) (upd H' a (CaE cls d a))) ∧ (b = false → False), fun cls d σ' H' ⟨b, e1, e2, e3⟩ hlen => ⟨b, e1, fun hb a ha => ?_, fun hb => e3 hb⟩, rfl, hc, ?_⟩
    · match σ', hlen with
      | [x, y, z], _ =>
        refine i_asg (i_var rfl (i_name ?_))
        exact i_ret (i_var rfl (e2 hb a ha))
    · have e : (fun (_ : V) (H' : Hp) => ∃ v, ((L2.start n__law_caught [V.ref f]).set 1 (some V.non))[1]? = some (some v) ∧ Q v H') = fun _ H' => Q .non H' := by
        funext _ H'
        exact propext ⟨fun ⟨v, e, q⟩ => by cases e; exact q, fun q => ⟨_, rfl, q⟩⟩
      show tl _ H (fun (_ : V) (H' : Hp) => ∃ v, ((L2.start n__law_caught [V.ref f]).set 1 (some V.non))[1]? = some (some v) ∧ Q v H')
      rw [e]
      exact h
/-! ### the tables of code objects -/
def pT : Str × Option Str := ("_law_text_right", none)
def pO : Str × Option Str := ("_law_odd_right", none)
def Ts (K : Fg) : List (Addr × Str) := [((He.cT K pT).2, "_law_text_right.<locals>.<lambda>"), ((He.cT K pO).2, "_law_odd_right.<locals>.<lambda>")]
structure TbF (K : Fg) (mg : Str → Option Value) (base : Heap) : Prop where
  t : LamX.TabB base mg (He.cT K pT).1 (He.cT K pT).2
  o : LamX.TabB base mg (He.cT K pO).1 (He.cT K pO).2
  ne : (He.cT K pT).2 ≠ (He.cT K pO).2
theorem pe_caught {X : Cx} (T : Tx X.K X.mg) {k : Nat} {c P : Addr} {params : Arguments} {body : Expr} {scope : Scope} {t : XK → TE} {p lpos pos : Pos}
    (TB : LamX.TabB X.base X.mg c P) (hcode : X.env.code = .ref c) (hmT : (P, X.env.qual ++ "<lambda>") ∈ Ts X.K) (hu : ∀ p ∈ Ts X.K, p.1 = P → p.2 = X.env.qual ++ "<lambda>") (hr : Room (k + 2) X.A) (L : LamX.LamS X.env.scope scope)
    (hbody : ∀ (A : Around) (outer : List Env) (s : Shared) (H : Hp) (E : XK) (f c' : Addr), Room k (A.deeper (LamX.lamEnv X scope s.heap.objs.size f c')) → PE (LamX.lamCx X A outer s H E scope f c') body (t E))
    (hg : Gl X "_law_caught" := by rfl) (hdef : defaultsOf params X.env = ([], []) := by rfl)
    (hbind : ∀ (q : Str) (cl : List (Str × Addr)) (pm cv ctv : Value), bindArgs (PySem.W.kla_fn "<lambda>" q params body scope cl pm cv ctv) ⟨[], []⟩ = pure [] := by intros; rfl) :
    PE X (.Call (.Name "_law_caught" p) [.Lambda params body scope lpos] [] pos) (LamX.tLam (Ts X.K) (TTc X.K (He.ga X.K "VersionError")) t) := by
  obtain ⟨fd, F⟩ := T.f__law_caught
  have hb := Tx.bd__law_caught F
  have hk := F.kp
  obtain ⟨oc, od, dV, kV, doc, pm, an, cdv, ct, osl, rfl, lk, hcd, _, _⟩ := F.ex
  exact LamX.pe_lamcall hg T.g__law_caught hk lk hcd hb sc__law_caught rfl (Or.inl rfl) (caught_gives T) TB hcode hmT hu hr L hdef hbind hbody
end MH
end
section
set_option Elab.async false
set_option linter.all false
set_option maxRecDepth 100000
set_option maxHeartbeats 8000000
set_option pp.maxSteps 2500
namespace MH
open PySem PySem.Spec PyProof.Rows L2
local macro_rules | `(tactic| walk_at "go") => `(tactic| repeat (first
  | with_reducible refine i_seq ?_ | with_reducible refine i_ifS ?_ | with_reducible refine i_ret ?_ | with_reducible refine i_drop ?_ | with_reducible refine i_asg ?_ | with_reducible refine i_name ?_
  | with_reducible refine i_next ?_ | with_reducible refine i_var (by with_unfolding_all exact rfl) ?_ | with_reducible refine i_c ?_ | with_reducible refine i_cons ?_ | with_reducible refine i_nil ?_ | with_reducible refine i_cb ?_
  | with_reducible refine i_op ?_ | with_reducible refine i_un ?_ | with_reducible refine i_call ?_ | with_reducible refine i_test ?_ | with_reducible refine i_b ?_ | with_reducible refine i_bl ?_ | with_reducible refine i_and ?_ | with_reducible refine i_or ?_
  | with_reducible refine i_not ?_ | with_reducible refine i_andV ?_ | with_reducible refine i_orV ?_ | with_reducible refine i_notV ?_ | with_reducible refine i_if ?_ | with_reducible refine i_chain ?_ | with_reducible refine i_tup ?_ | with_reducible refine i_lst ?_
  | with_reducible refine i_sl ?_ | with_reducible refine i_part ?_ | with_reducible refine i_nopart ?_ | with_reducible refine i_int ?_ | with_reducible refine i_bm ?_ | with_reducible refine i_bm0 ?_ | with_reducible refine i_I0 ?_ | with_reducible refine i_lc ?_ | with_reducible refine i_disp ?_ | with_reducible refine i_pairsC ?_ | with_reducible refine i_pairsN ?_ | with_reducible refine i_dget2 ?_ | with_reducible refine i_gsub ?_ | with_reducible refine i_raiseB ?_ | with_reducible refine i_make ?_ | with_reducible refine i_gcons ?_ | with_reducible refine i_gnil ?_ | with_reducible refine i_enum ?_ | with_reducible refine i_isN ?_ | with_reducible refine i_notN ?_ | with_reducible refine i_fld ?_ | with_reducible refine i_sfld ?_ | with_reducible refine i_meth ?_ | with_reducible refine i_rU ?_ | with_reducible refine i_dputN ?_ | with_reducible refine i_dput ?_ | with_reducible refine i_dget ?_ | with_reducible refine i_rng1 ?_ | with_reducible refine i_dinP ?_ | with_reducible refine i_raiseA ?_ | with_reducible refine i_lenSetS ?_ | with_reducible refine i_for ?_ | with_reducible refine i_yes ?_ | with_reducible refine i_eqS ?_ | with_reducible refine i_neS ?_ | with_reducible refine i_eqI ?_ | with_reducible refine i_neI ?_
  | with_reducible refine i_retN ?_ | with_reducible refine i_brk ?_ | with_reducible refine i_cont ?_ | with_reducible refine i_par ?_ | with_reducible refine i_par3 ?_ | with_reducible refine i_two ?_ | with_reducible refine i_three ?_
  | with_reducible refine i_itup ?_ | with_reducible refine i_ilist ?_ | with_reducible refine i_istr ?_ | with_reducible refine i_str ?_ | with_reducible refine i_m1 ?_ | with_reducible refine i_anystr ?_
  | with_reducible refine iteT ?_ | with_reducible refine iteF ?_))
section
variable {P : Program} {w : World} {K : Fg} {mg : Str → Option Value} {base : Heap}
theorem kk_read_program (T : Tx K mg) (BC : BadC P K) : KeepsK P w K mg base (L2.CX P w) 5 "read_program" "text" (spReadProg (K := K)) := by
  obtain ⟨fd, F⟩ := T.f_read_program
  refine ⟨_, fd, ok_read_program T BC F, ?_, F.kp, T.g_read_program⟩
  obtain ⟨oc, od, dV, kV, doc, pm, an, cdv, ct, osl, rfl, lk, hcd, hD, hK⟩ := F.ex
  rcases hD with ⟨_, rfl⟩ | ⟨e, _⟩
  · intro u
    rfl
  · exact absurd rfl e
theorem kk_program_text (T : Tx K mg) : KeepsK P w K mg base (L2.CX P w) 12 "program_text" "program" (spText (K := K)) := by
  obtain ⟨fd, F⟩ := T.f_program_text
  refine ⟨_, fd, ok_program_text T F, ?_, F.kp, T.g_program_text⟩
  obtain ⟨oc, od, dV, kV, doc, pm, an, cdv, ct, osl, rfl, lk, hcd, hD, hK⟩ := F.ex
  rcases hD with ⟨_, rfl⟩ | ⟨e, _⟩
  · intro u
    rfl
  · exact absurd rfl e
theorem ts_t (h : (He.cT K pT).2 ≠ (He.cT K pO).2) : ((He.cT K pT).2, ("_law_text_right.<locals>." : Str) ++ "<lambda>") ∈ Ts K ∧ ∀ p ∈ Ts K, p.1 = (He.cT K pT).2 → p.2 = ("_law_text_right.<locals>." : Str) ++ "<lambda>" := by
  have e : ("_law_text_right.<locals>." : Str) ++ "<lambda>" = "_law_text_right.<locals>.<lambda>" := by decide +kernel
  rw [e]
  refine ⟨by simp [Ts], fun p hp e1 => ?_⟩
  simp only [Ts, List.mem_cons, List.not_mem_nil, or_false] at hp
  rcases hp with rfl | rfl
  · rfl
  · exact absurd e1.symm h
theorem ts_o (h : (He.cT K pT).2 ≠ (He.cT K pO).2) : ((He.cT K pO).2, ("_law_odd_right.<locals>." : Str) ++ "<lambda>") ∈ Ts K ∧ ∀ p ∈ Ts K, p.1 = (He.cT K pO).2 → p.2 = ("_law_odd_right.<locals>." : Str) ++ "<lambda>" := by
  have e : ("_law_odd_right.<locals>." : Str) ++ "<lambda>" = "_law_odd_right.<locals>.<lambda>" := by decide +kernel
  rw [e]
  refine ⟨by simp [Ts], fun p hp e1 => ?_⟩
  simp only [Ts, List.mem_cons, List.not_mem_nil, or_false] at hp
  rcases hp with rfl | rfl
  · exact absurd e1 h
  · rfl
theorem i_lam {CS : Addr} {t : XK → TE} {σ : L2.St} {H : Hp} {Q : VK} (hT : LamX.Tabs (Ts K) H) (h : ∀ H1, LamX.ExtN H H1 → LamX.Tabs (Ts K) H1 → t (fun cls d H' => ∃ b, PySem.W.exmOne K cls (.ref CS) = some b ∧ (b = true → ∀ a, H' a = none → Q (.ref a) (upd H' a (CaE cls d a))) ∧ (b = false → False)) σ H1 (fun _ H' => Q .non H')) :
    LamX.tLam (Ts K) (TTc K CS) t σ H Q := ⟨hT, fun H1 e1 T1 => h H1 e1 T1⟩
theorem extN_st {H H' : Hp} (e : LamX.ExtN H H') : StT K H H' := ⟨fun a xs h => by
  rcases h with (h | ⟨o, h⟩) | h
  · exact .inl (.inl (e _ _ h (fun ps z => by cases z)))
  · exact .inl (.inr ⟨o, e _ _ h (fun ps z => by cases z)⟩)
  · exact .inr h, fun a xs h => ⟨xs, e _ _ h (fun ps z => by cases z)⟩⟩
theorem tabs_put {T : List (Addr × Str)} {H : Hp} {f : Addr} {o o' : HO} (t : LamX.Tabs T H) (h : H f = some o) (n1 : ∀ ps, o ≠ .tbl ps) (n2 : ∀ φ, o ≠ .ext φ) : LamX.Tabs T (upd H f o') := fun p hp => by
  obtain ⟨ps, h1, h2, h3⟩ := t p hp
  refine ⟨ps, by rw [upd_ne (fun z => by rw [z, h] at h1; exact n1 ps (Option.some.inj h1))]; exact h1, h2, fun pos cv hc => ?_⟩
  obtain ⟨c, e1, e2⟩ := h3 pos cv hc
  exact ⟨c, e1, by rw [upd_ne (fun z => by rw [z, h] at e2; exact n2 _ (Option.some.inj e2))]; exact e2⟩
/-- a text that is read: within bounds, all is right -/
def spTextR : Sp := fun vs H Q _ => ∃ x, vs = [.str x] ∧ x.length ≤ 8000 ∧ (∀ y ∈ linesOf x, y.length ≤ 97) ∧ LamX.Tabs (Ts K) H ∧ ∀ H', LamX.ExtN H H' → LamX.Tabs (Ts K) H' → Q (.bl true) H'
theorem k__law_text_right (T : Tx K mg) (BC : BadC P K) (XB : XcC K (cB K)) (TB : TbF K mg base) : Keeps P w K mg base (L2.CX P w) 14 "_law_text_right" ["text"] (spTextR (K := K)) := T.kp__law_text_right fun fd F => by
  refine funD_okC F sc__law_text_right (fun vs H Q E h => ?_) (fun A outer s H vs Q E hr h => ?_)
  · obtain ⟨x, rfl, _⟩ := h
    rfl
  · obtain ⟨x, rfl, hx8, hx97, hT, q⟩ := h
    refine ⟨_, (pss_cons (ps_asg (pe_tup (pa_cons (pe_ifExp (pt_cmpR op_ne (pv 0) pe_str (nomark _)) (pe_split (pv 0) pe_str) (pe_lst pa_nil)) (pa_cons (pe_lst pa_nil) pa_nil))) (pg_tup rfl (pgs_cons (pg_name (i := 1) sc__law_text_right.nd rfl (by first | exact Or.inl rfl | exact Or.inr rfl)) (pgs_cons (pg_name (i := 2) sc__law_text_right.nd rfl (by first | exact Or.inl rfl | exact Or.inr rfl)) pgs_nil))))
      (pss_cons (ps_asg (pe_k (k__law_first_wrong T) (hr.mono (by omega)) pass0 (pa_cons (pv 1) pa_nil)) (pg_tup rfl (pgs_cons (pg_name (i := 3) sc__law_text_right.nd rfl (by first | exact Or.inl rfl | exact Or.inr rfl)) (pgs_cons (pg_name (i := 4) sc__law_text_right.nd rfl (by first | exact Or.inl rfl | exact Or.inr rfl)) pgs_nil))))
      (pss_cons (ps_set (i := 5) sc__law_text_right.nd rfl (by first | exact Or.inl rfl | exact Or.inr rfl) (pe_caught (k := 6) (t := fun E => tBM K "list" rAppend (tVar 2) (tCons (tCall (spReadProg (K := K)) [] E (tCons (tVar 0) tNil)) tNil)) T TB.t rfl (ts_t TB.ne).1 (ts_t TB.ne).2 (hr.mono (by omega)) (show LamX.LamS (defScope s__law_text_right) _ from LamX.lamS_by (by decide +kernel)) (fun A outer s H E f c' hr2 => pe_bm PySem.F.plainAttrs_list PySem.F.slot_list_append PySem.F.type_list_append mt_append (pv 2) (pa_cons (pe_kw1 (kk_read_program T BC) (hr2.mono (by omega)) (passes_call (takes_of rfl rfl rfl rfl) (fun _ _ _ _ h => h)) (pv 0)) pa_nil))))
      (pss_cons (ps_if (pt_cmp (pc_isN (pv 4)) rfl) (pss_one (ps_ret (pe_and (pe_callB call_isX (by rfl) T.b_isinstance (by decide +kernel) (pa_cons (pv 5) (pa_cons (pe_gr T.g_BadText) pa_nil))) (pe_one (pe_k (k__law_says T) (hr.mono (by omega)) pass0 (pa_cons (pe_xa (pv 5)) (pa_cons (pv 3) pa_nil))))))) pss_nil)
      (pss_one (ps_ret (pe_and (pe_cmp (pc_isN (pv 5)) rfl) (pe_and (pe_k (k__law_says T) (hr.mono (by omega)) pass0 (pa_cons (pe_ix ix_list (pv 2) pe_int (fun _ _ => rfl)) (pa_cons (pv 4) pa_nil))) (pe_and (pe_cmpR op_eq (pe_k (k_program_text T) (hr.mono (by omega)) (passes_call (takes_of rfl rfl rfl rfl) (fun _ _ _ _ h => h)) (pa_cons (pe_ix ix_list (pv 2) pe_int (fun _ _ => rfl)) pa_nil)) (pv 0) (nomark _)) (pe_one (pe_cmpR op_isBl (pe_k (k_is_program T) (hr.mono (by omega)) pass0 (pa_cons (pe_ix ix_list (pv 2) pe_int (fun _ _ => rfl)) pa_nil)) pe_bl (nomark _)))))))))))), ?_⟩
    have sz : sizeLine > 1000000 := by decide
    have hln := linesOf_len x
    with_reducible refine seq_at (fun σ H1 => ∃ l f, σ = [some (.str x), some (.ref l), some (.ref f), none, none, none] ∧ Same H H1 ∧ H1 l = some (.lst ((linesOf x).map V.str)) ∧ H1 f = some (.lst []) ∧ H f = none) (fun N hN => ?_) (fun σ1 H1 hc => ?_)
    · walk_at "go"
      refine ifn (fun k1 => ?_) (fun k1 => ?_)
      all_goals
        walk_at "go"
        first
          | (refine ⟨_, _, rfl, rfl, by decide, by omega, fun l hl => ?_⟩; have el : linesOf x = Txt.split x "\n" := if_neg (of_decide_eq_false k1))
          | (refine ⟨by decide, fun l hl => ?_⟩; have el : linesOf x = [] := if_pos (of_decide_eq_true k1))
        have s1 : ∀ o, Same H (upd H l o) := fun o => sameNew hl
        walk_at "go"
        refine ⟨by decide, fun f hf => ?_⟩
        walk_at "go"
        refine ⟨by show 2 ≤ sizeLine; decide, fun p hp => ?_⟩
        refine rd_gtup upd_same rfl ?_
        walk_at "go"
        have s2 := sameNew (o := .lst []) hf
        have s3 := sameNew (o := .tup [.ref l, .ref f]) hp
        refine hN _ _ ⟨l, f, rfl, ((s1 _).trans s2).trans s3, s3 _ _ (s2 _ _ ?_), s3 _ _ upd_same, none_of (s1 _) hf⟩
        first
          | (rw [upd_same, el]; done)
          | (rw [upd_same, el]; rfl)
    · obtain ⟨l, f, rfl, s1, hl1, hf1, hf0⟩ := hc
      walk_at "go"
      refine ⟨l, linesOf x, rfl, hl1, by omega, hx97, fun u2 H2 s2 hu2 => ?_⟩
      have s02 := s1.trans s2
      have hf2 := s2 _ _ hf1
      obtain ⟨ua, uxs, rfl, _, _⟩ := hu2.ref
      refine rd_gtupD hu2 rfl (fun xs hxs => ?_)
      cases hxs with
      | cons hx1 hxs => cases hxs with
        | cons hx2 hxs =>
          cases hxs
          cases hx1
          walk_at "go"
          refine i_lam (hT.ext s02) (fun H3 e3 T3 => ?_)
          have hf3 := e3 _ _ hf2 (fun ps z => by cases z)
          have e03 := (LamX.ExtN.of s02).trans e3
          walk_at "go"
          refine ⟨.inl ⟨rfl, _, SqL.of hf3⟩, ?_⟩
          walk_at "go"
          cases hrd : (readP (linesOf x)).2 with
          | none =>
            rw [hrd] at hx2
            refine ⟨.str x, .str x, rfl, .str x (by omega), (fun z => by cases z), fun x' e => ?_⟩
            cases e
            refine ⟨hx8, fun _ H4 s4 d hd => ?_, fun p hp => by rw [hrd] at hp; cases hp⟩
            refine ⟨true, T.e_BadText, fun _ a ha => ?_, fun z => by cases z⟩
            have nda : d ≠ a := ne_of_none upd_same ha
            have s5 := s4.trans ((sameNew (o := .xd [("at", .int ((readP (linesOf x)).1 : Nat))]) hd).trans (sameNew (o := CaE (.ref (cB K)) (some d) a) ha))
            have hd5 : upd (upd H4 d (.xd [("at", .int ((readP (linesOf x)).1 : Nat))])) a (CaE (.ref (cB K)) (some d) a) d = some (.xd [("at", .int ((readP (linesOf x)).1 : Nat))]) := by rw [upd_ne nda, upd_same]
            have ha5 : upd (upd H4 d (.xd [("at", .int ((readP (linesOf x)).1 : Nat))])) a (CaE (.ref (cB K)) (some d) a) a = some (CaE (.ref (cB K)) (some d) a) := upd_same
            generalize upd (upd H4 d (.xd [("at", .int ((readP (linesOf x)).1 : Nat))])) a (CaE (.ref (cB K)) (some d) a) = H5 at s5 hd5 ha5 ⊢
            walk_at "go"
            rw [hx2.isNon]
            refine ift rfl ?_
            walk_at "go"
            refine ⟨a, cB K, some d, rfl, XB, ha5, (fun dd e => by cases e; exact ⟨_, hd5⟩), ?_⟩
            walk_at "go"
            refine i_xa ?_
            walk_at "go"
            refine ⟨a, cB K, d, [("at", .int ((readP (linesOf x)).1 : Nat))], .int ((readP (linesOf x)).1 : Nat), rfl, XB, BC.noat, ha5, hd5, rfl, ?_⟩
            walk_at "go"
            refine ⟨_, _, .int ((readP (linesOf x)).1 : Nat), rfl, .int _, .int _, by simp [wt], by simp [PyData.depth], fun H6 s6 => ?_⟩
            exact q H6 (e03.trans (LamX.ExtN.of (s5.trans s6))) (T3.ext (s5.trans s6))
          | some p =>
            rw [hrd] at hx2
            have hx2 : Dt K H2 _ p := hx2
            obtain ⟨hprog, htext⟩ := text_back hrd
            obtain ⟨hnl, hokl, hw, hdp⟩ := prog_small hprog
            refine ⟨.str x, .str x, rfl, .str x (by omega), (fun z => by cases z), fun x' e => ?_⟩
            cases e
            refine ⟨hx8, (fun z => by rw [hrd] at z; cases z), fun p' hp u H4 s4 hu => ?_⟩
            cases (hrd.symm.trans hp)
            have hf4 := s4 _ _ hf3
            refine ⟨f, [], u, rfl, rfl, hf4, by decide, ?_⟩
            have st5 : StT K H4 (upd H4 f (.lst ([] ++ [u]))) := StT.lst hf4
            have hu5 := hu.mono st5
            have hx5 := hx2.mono (((extN_st e3).trans (StT.same s4)).trans st5)
            have hf5 : upd H4 f (.lst ([] ++ [u])) f = some (.lst [u]) := upd_same
            have e05 : LamX.ExtN H (upd H4 f (.lst ([] ++ [u]))) := fun b o hb n => by
              rw [upd_ne (ne_of_none hb hf0)]
              exact s4 _ _ (e03 b o hb n)
            have T5 : LamX.Tabs (Ts K) (upd H4 f (.lst ([] ++ [u]))) := tabs_put (T3.ext s4) hf4 (fun ps z => by cases z) (fun φ z => by cases z)
            generalize upd H4 f (.lst ([] ++ [u])) = H5 at st5 hu5 hx5 hf5 e05 T5 ⊢
            walk_at "go"
            rw [hx5.isNon]
            refine ife (by have := readP_non _ _ hrd; cases p <;> first | rfl | exact absurd rfl this) ?_
            walk_at "go"
            refine iteT ?_
            walk_at "go"
            refine rd_ixL hf5 (atI_nat rfl) ?_
            walk_at "go"
            refine ⟨_, _, p, rfl, hu5.dp hnl, hx5.dp hnl, by omega, by omega, fun H6 s6 => ?_⟩
            walk_at "go"
            refine rd_ixL (s6 _ _ hf5) (atI_nat rfl) ?_
            walk_at "go"
            refine ⟨u, p, rfl, hu5.same s6, hokl, fun _ H7 s7 => ?_, fun z => by rw [hprog] at z; cases z⟩
            walk_at "go"
            rw [htext]
            walk_at "go"
            refine ift (by simp) ?_
            walk_at "go"
            refine rd_ixL (s7 _ _ (s6 _ _ hf5)) (atI_nat rfl) ?_
            walk_at "go"
            refine ⟨u, p, rfl, hu5.same (s6.trans s7), hokl, fun H8 s8 => ?_⟩
            walk_at "go"
            refine ⟨_, _, rfl, rfl, ?_⟩
            rw [hprog]
            exact q H8 (e05.trans (LamX.ExtN.of ((s6.trans s7).trans s8))) (T5.ext ((s6.trans s7).trans s8))
end
end MH
end
section
set_option Elab.async false
set_option linter.all false
set_option maxRecDepth 100000
set_option maxHeartbeats 8000000
set_option pp.maxSteps 2500
namespace MH
open PySem PySem.Spec PyProof.Rows L2
local macro_rules | `(tactic| walk_at "go") => `(tactic| repeat (first
  | with_reducible refine i_seq ?_ | with_reducible refine i_ifS ?_ | with_reducible refine i_ret ?_ | with_reducible refine i_drop ?_ | with_reducible refine i_asg ?_ | with_reducible refine i_name ?_
  | with_reducible refine i_next ?_ | with_reducible refine i_var (by with_unfolding_all exact rfl) ?_ | with_reducible refine i_c ?_ | with_reducible refine i_cons ?_ | with_reducible refine i_nil ?_ | with_reducible refine i_cb ?_
  | with_reducible refine i_op ?_ | with_reducible refine i_un ?_ | with_reducible refine i_call ?_ | with_reducible refine i_test ?_ | with_reducible refine i_b ?_ | with_reducible refine i_bl ?_ | with_reducible refine i_and ?_ | with_reducible refine i_or ?_
  | with_reducible refine i_not ?_ | with_reducible refine i_andV ?_ | with_reducible refine i_orV ?_ | with_reducible refine i_notV ?_ | with_reducible refine i_if ?_ | with_reducible refine i_chain ?_ | with_reducible refine i_tup ?_ | with_reducible refine i_lst ?_
  | with_reducible refine i_sl ?_ | with_reducible refine i_part ?_ | with_reducible refine i_nopart ?_ | with_reducible refine i_int ?_ | with_reducible refine i_bm ?_ | with_reducible refine i_bm0 ?_ | with_reducible refine i_I0 ?_ | with_reducible refine i_lc ?_ | with_reducible refine i_disp ?_ | with_reducible refine i_pairsC ?_ | with_reducible refine i_pairsN ?_ | with_reducible refine i_dget2 ?_ | with_reducible refine i_gsub ?_ | with_reducible refine i_raiseB ?_ | with_reducible refine i_make ?_ | with_reducible refine i_gcons ?_ | with_reducible refine i_gnil ?_ | with_reducible refine i_enum ?_ | with_reducible refine i_isN ?_ | with_reducible refine i_notN ?_ | with_reducible refine i_fld ?_ | with_reducible refine i_sfld ?_ | with_reducible refine i_meth ?_ | with_reducible refine i_rU ?_ | with_reducible refine i_dputN ?_ | with_reducible refine i_dput ?_ | with_reducible refine i_dget ?_ | with_reducible refine i_rng1 ?_ | with_reducible refine i_dinP ?_ | with_reducible refine i_raiseA ?_ | with_reducible refine i_lenSetS ?_ | with_reducible refine i_for ?_ | with_reducible refine i_yes ?_ | with_reducible refine i_eqS ?_ | with_reducible refine i_neS ?_ | with_reducible refine i_eqI ?_ | with_reducible refine i_neI ?_
  | with_reducible refine i_retN ?_ | with_reducible refine i_brk ?_ | with_reducible refine i_cont ?_ | with_reducible refine i_par ?_ | with_reducible refine i_par3 ?_ | with_reducible refine i_two ?_ | with_reducible refine i_three ?_
  | with_reducible refine i_itup ?_ | with_reducible refine i_ilist ?_ | with_reducible refine i_istr ?_ | with_reducible refine i_str ?_ | with_reducible refine i_m1 ?_ | with_reducible refine i_anystr ?_
  | with_reducible refine iteT ?_ | with_reducible refine iteF ?_))
theorem drw_ext {A : DA} {H H' : Hp} (h : Drw A H) (e : LamX.ExtN H H') : Drw A H' := by
  obtain ⟨r, t, q⟩ := h.dict
  obtain ⟨L, ql⟩ := h.large
  obtain ⟨C, qc⟩ := h.cells
  exact ⟨⟨r, t, e _ _ q (fun ps z => by cases z)⟩, ⟨L, e _ _ ql (fun ps z => by cases z)⟩, ⟨C, e _ _ qc (fun ps z => by cases z)⟩, h.ne⟩
theorem Dn.tabs {K : Fg} {A : DA} {H H' : Hp} {T : List (Addr × Str)} (s : Dn K A H H') (t : LamX.Tabs T H) : LamX.Tabs T H' := fun p hp => by
  obtain ⟨r, tt, qd⟩ := s.pre.dict
  obtain ⟨L, ql⟩ := s.pre.large
  obtain ⟨ps, h1, h2, h3⟩ := t p hp
  refine ⟨ps, s.keep _ _ (fun z => by rw [z, qd] at h1; cases h1) (fun z => by rw [z, ql] at h1; cases h1) h1, h2, fun pos cv hc => ?_⟩
  obtain ⟨c, e1, e2⟩ := h3 pos cv hc
  exact ⟨c, e1, s.keep _ _ (fun z => by rw [z, qd] at e2; cases (Option.some.inj e2)) (fun z => by rw [z, ql] at e2; cases (Option.some.inj e2)) e2⟩
section
variable {P : Program} {w : World} {K : Fg} {mg : Str → Option Value} {base : Heap}
/-- what a part of the law keeps -/
def spPart : Sp := fun vs H Q _ => ∃ A : DA, vs = [.ref A.d] ∧ Drw A H ∧ LamX.Tabs (Ts K) H ∧ ∀ H', Drw A H' → LamX.Tabs (Ts K) H' → Q (.bl true) H'
/-- lines, each at most m signs long, joined: what _law_text_right asks -/
theorem texts_ok {fs : List Str} {m n : Nat} (h : ∀ f ∈ fs, f.length ≤ m) (hn : fs.length ≤ n) (hm : m ≤ 97) (hz : n * (m + 1) ≤ 8000) : (Txt.join "\n" fs).length ≤ 8000 ∧ (∀ y ∈ linesOf (Txt.join "\n" fs), y.length ≤ 97) ∧ (fs.map (·.length)).sum + fs.length * (Str.ofString "\n").length ≤ 16777216 := by
  have h1 := text_len h
  have h2 := sum_le h
  have h3 : (Str.ofString "\n").length = 1 := by decide
  have h4 : fs.length * (m + 1) ≤ n * (m + 1) := Nat.mul_le_mul_right _ hn
  refine ⟨by omega, fun y hy => Nat.le_trans (pieces h y hy) hm, ?_⟩
  rw [h3]
  rw [Nat.mul_add] at h4
  omega
theorem k__law_right (T : Tx K mg) (BC : BadC P K) (XB : XcC K (cB K)) (TB : TbF K mg base) : Keeps P w K mg base (L2.CX P w) 16 "_law_right" ["draw"] (spPart (K := K)) := T.kp__law_right fun fd F => by
  refine F.ok sc__law_right (fun vs H Q E h => ?_) (fun cdv A outer s H vs Q E hr h => ?_)
  · obtain ⟨D, rfl, _⟩ := h
    rfl
  · obtain ⟨D, rfl, hd, hT, q⟩ := h
    refine ⟨_, (pss_cons (ps_set (i := 1) sc__law_right.nd rfl (by first | exact Or.inl rfl | exact Or.inr rfl) (pe_k (k__law_program T) (hr.mono (by omega)) pass0 (pa_cons (pv 0) (pa_cons pe_int (pa_cons pe_int pa_nil)))))
      (pss_cons (ps_set (i := 2) sc__law_right.nd rfl (by first | exact Or.inl rfl | exact Or.inr rfl) (pe_k (k__law_text_lines T 4) (hr.mono (by omega)) pass0 (pa_cons (pe_ix ix_tup (pv 1) pe_int (fun _ _ => rfl)) pa_nil)))
      (pss_cons (ps_set (i := 3) sc__law_right.nd rfl (by first | exact Or.inl rfl | exact Or.inr rfl) (pe_join pe_str (pv 2)))
      (pss_cons (ps_if (pt_not (pt_val (pe_k (k__law_says T) (hr.mono (by omega)) pass0 (pa_cons (pe_lst (pa_cons (pe_k (k_program_text T) (hr.mono (by omega)) (passes_call (takes_of rfl rfl rfl rfl) (fun _ _ _ _ h => h)) (pa_cons (pv 1) pa_nil)) (pa_cons (pe_k (k_read_program T BC) (hr.mono (by omega)) (passes_call (takes_of rfl rfl rfl rfl) (fun _ _ _ _ h => h)) (pa_cons (pe_kw1 (kk_program_text T) (hr.mono (by omega)) (passes_call (takes_of rfl rfl rfl rfl) (fun _ _ _ _ h => h)) (pv 1)) pa_nil)) pa_nil))) (pa_cons (pe_lst (pa_cons (pv 3) (pa_cons (pv 1) pa_nil))) pa_nil))))) (pss_one (ps_ret pe_bl)) pss_nil)
      (pss_cons (ps_for (passes_of rfl) rfl (pi_range1 (by rfl) T.b_range (pa_cons pe_int pa_nil)) (pg_name (i := 4) sc__law_right.nd rfl (by first | exact Or.inl rfl | exact Or.inr rfl)) (pss_cons (ps_set (i := 5) sc__law_right.nd rfl (by first | exact Or.inl rfl | exact Or.inr rfl) (pe_k (k__law_bent_lines T) (hr.mono (by omega)) pass0 (pa_cons (pv 0) (pa_cons (pv 2) pa_nil))))
      (pss_one (ps_if (PW.pt (pw_or (pt_not (pt_val (pe_k (k__law_text_right T BC XB TB) (hr.mono (by omega)) (passes_call (takes_of rfl rfl rfl rfl) (fun _ _ _ _ h => h)) (pa_cons (pe_join pe_str (pv 5)) pa_nil)))) (pw_or1 (pt_not (pt_val (pe_k (k__law_text_right T BC XB TB) (hr.mono (by omega)) (passes_call (takes_of rfl rfl rfl rfl) (fun _ _ _ _ h => h)) (pa_cons (pe_join pe_str (pe_k (k__law_bent_lines T) (hr.mono (by omega)) pass0 (pa_cons (pv 0) (pa_cons (pv 5) pa_nil)))) pa_nil))))))) (pss_one (ps_ret pe_bl)) pss_nil))))
      (pss_one (ps_ret pe_bl))))))), ?_⟩
    have sz : sizeLine > 1000000 := by decide
    walk_at "go"
    refine ⟨D, rfl, hd, fun v p H1 s1 hp hv => ?_⟩
    obtain ⟨hp, hs10⟩ := hp
    obtain ⟨hnl, hokl, hw, hdp⟩ := prog_small hp
    have hrt := read_text hp
    obtain ⟨b, rfl, hb, hs40, hnd⟩ := prog_is hp
    have hs10 : (sitesD 5 b).length ≤ 10 := hs10
    have hll : (linesD 5 b).length ≤ 3 * (sitesD 5 b).length := linesD_le 4 hb
    have hlen : ∀ y ∈ linesD 5 b, y.length ≤ 54 := linesD_len 4 hb
    obtain ⟨ht1, ht2, ht3⟩ := texts_ok (n := 30) hlen (by omega) (by decide) (by decide)
    have htx : textD (.tuple [.str "program", b]) = Txt.join "\n" (linesD 5 b) := rfl
    have T1 := s1.tabs hT
    walk_at "go"
    refine rd_ix hv (n := 1) rfl rfl (fun u hu => ?_)
    walk_at "go"
    refine ⟨u, b, rfl, hu, hb, by decide, fun l H2 hl s2 hl2 => ?_⟩
    have T2 := T1.ext s2
    have d2 := s1.drw.same s2
    have hv2 := hv.same s2
    have hlla := s1.drw.fresh hl
    walk_at "go"
    refine ⟨_, l, _, rfl, rfl, .inl (SqL.of hl2), ht3, ?_⟩
    walk_at "go"
    refine ⟨v, _, rfl, hv2, hokl, fun _ H3 s3 => ?_, fun z => by rw [hp] at z; cases z⟩
    rw [htx]
    walk_at "go"
    refine ⟨v, _, rfl, hv2.same s3, hokl, fun _ H4 s4 => ?_, fun z => by rw [hp] at z; cases z⟩
    rw [htx] at hrt ⊢
    walk_at "go"
    refine ⟨_, .str (Txt.join "\n" (linesD 5 b)), rfl, .str _ (by omega), (fun z => by cases z), fun x' e => ?_⟩
    cases e
    refine ⟨ht1, (fun z => by rw [hrt] at z; cases z), fun p' hp' u5 H5 s5 hu5 => ?_⟩
    rw [hrt] at hp'
    cases hp'
    walk_at "go"
    refine ⟨by show 2 ≤ sizeLine; decide, fun t6 ht6 => ?_⟩
    walk_at "go"
    refine ⟨by show 2 ≤ sizeLine; decide, fun t7 ht7 => ?_⟩
    have s6 := sameNew (o := .lst [.str (Txt.join "\n" (linesD 5 b)), u5]) ht6
    have s7 := sameNew (o := .lst [.str (Txt.join "\n" (linesD 5 b)), v]) ht7
    have s25 := (s3.trans s4).trans s5
    have s67 := s6.trans s7
    have hl7 := s67 _ _ (s25 _ _ hl2)
    have d7 := d2.same (s25.trans s67)
    have T7 := T2.ext (s25.trans s67)
    have hv7 := (hv2.same (s25.trans s67)).dp hnl
    have hu7 := (hu5.same s67).dp hnl
    have h67 := s7 _ _ (upd_same (H := H5) (a := t6) (o := .lst [.str (Txt.join "\n" (linesD 5 b)), u5]))
    have h77 := upd_same (H := upd H5 t6 (.lst [.str (Txt.join "\n" (linesD 5 b)), u5])) (a := t7) (o := .lst [.str (Txt.join "\n" (linesD 5 b)), v])
    generalize upd (upd H5 t6 (.lst [.str (Txt.join "\n" (linesD 5 b)), u5])) t7 (.lst [.str (Txt.join "\n" (linesD 5 b)), v]) = H7 at hl7 d7 T7 hv7 hu7 h67 h77 ⊢
    walk_at "go"
    refine ⟨.ref t6, .ref t7, .list [.str (Txt.join "\n" (linesD 5 b)), .tuple [.str "program", b]], rfl, .lst (SqL.of h67) (.cons (.str _) (.cons hu7 .nil)), .lst (SqL.of h77) (.cons (.str _) (.cons hv7 .nil)), ?_, ?_, fun H8 s8 => ?_⟩
    · have e : wt (.list [.str (Txt.join "\n" (linesD 5 b)), .tuple [.str "program", b]]) = 2 + wt (.tuple [.str "program", b]) := by
        generalize PyData.tuple [.str "program", b] = z
        simp only [wt, wts]
        omega
      omega
    · have e : (PyData.list [.str (Txt.join "\n" (linesD 5 b)), .tuple [.str "program", b]]).depth ≤ 1 + max 1 (PyData.tuple [.str "program", b]).depth := by
        generalize PyData.tuple [.str "program", b] = z
        simp only [PyData.depth, PyData.depthAll]
        omega
      omega
    · walk_at "go"
      have hl8 := s8 _ _ hl7
      have d8 := d7.same s8
      have T8 := T7.ext s8
      refine ⟨_, rfl, by decide, by decide, ?_⟩
      refine forb_rng (fun i σ H' => ∃ y z, σ = [some (.ref D.d), some v, some (.ref l), some (.str (Txt.join "\n" (linesD 5 b))), y, z] ∧ Drw D H' ∧ LamX.Tabs (Ts K) H' ∧ H' l = some (.lst ((linesD 5 b).map V.str))) ⟨_, _, rfl, d8, T8, hl8⟩ (fun i σ Hi hi h => ?_) (fun σ Hi h => ?_)
      · obtain ⟨y, z, rfl, di, Ti, hli⟩ := h
        walk_at "go"
        refine ⟨D, l, linesD 5 b, 54, rfl, di, hli, hlla, by omega, by decide, hlen, fun a fs Ha sa hna hfa hfn hfx => ?_⟩
        have Ta := sa.tabs Ti
        have hla := sa.lst hli hlla
        have naa := di.fresh hna
        obtain ⟨hb1, hb2, hb3⟩ := texts_ok (n := 31) hfx (by omega) (by decide) (by decide)
        walk_at "go"
        refine ⟨_, a, _, rfl, rfl, .inl (SqL.of hfa), hb3, ?_⟩
        walk_at "go"
        refine ⟨_, rfl, hb1, hb2, Ta, fun Hb eb Tb => ?_⟩
        have db := drw_ext sa.drw eb
        have hfb := eb _ _ hfa (fun ps z => by cases z)
        have hlb := eb _ _ hla (fun ps z => by cases z)
        walk_at "go"
        refine ⟨⟨_, rfl⟩, ?_⟩
        walk_at "go"
        refine ⟨D, a, fs, 70, rfl, db, hfb, naa, by omega, by decide, hfx, fun a2 fs2 Hc sc hnc hfc hfn2 hfx2 => ?_⟩
        obtain ⟨hc1, hc2, hc3⟩ := texts_ok (n := 32) hfx2 (by omega) (by decide) (by decide)
        walk_at "go"
        refine ⟨_, a2, _, rfl, rfl, .inl (SqL.of hfc), hc3, ?_⟩
        walk_at "go"
        refine ⟨_, rfl, hc1, hc2, sc.tabs Tb, fun Hd ed Td => ?_⟩
        walk_at "go"
        exact ⟨_, _, rfl, drw_ext sc.drw ed, Td, ed _ _ (sc.lst hlb hlla) (fun ps z => by cases z)⟩
      · obtain ⟨y, z, rfl, di, Ti, hli⟩ := h
        walk_at "go"
        exact q Hi di Ti
end
end MH
end
section
set_option Elab.async false
set_option linter.all false
set_option maxRecDepth 100000
set_option maxHeartbeats 4000000
/-! engine: sum(lists, []) -/
namespace MH
open PySem PySem.Spec PyProof.Rows L2
abbrev lob (xs : Array Value) (c : Nat) : Obj := { cls := .type "list", data := .seq xs c }
section
variable {prog : Program} {w : World} {A : Around} {R : Result → Shared → Prop} {I : Addr} {fp wr : List Addr} {n : Nat} {P : Nat → Value → Prop} {St : Nat → Heap → Prop}
theorem codeAny_sumL (W : Walks prog w A.in1 I fp wr n P St) (xs tot : Nat → Array Value) (htot : ∀ i, tot (i + 1) = tot i ++ xs i) (hz : ∀ i, i ≤ n → (tot i).size ≤ sizeLine) (S : Addr) (hSf : S ∉ fp) (hex : ∀ i h, St i h → ∀ b ∈ fp, ∃ o, h.get? b = some o) :
    ∀ (k i : Nat) (s : Shared) (t : Addr) (c ct : Nat), n - i = k → i ≤ n → St i s.heap → s.heap.get? S = some (lob #[.ref t] c) → s.heap.get? t = some (lob (tot i) ct) → t ≠ S → t ∉ fp →
    (∀ j v, i ≤ j → j < n → P j v → ∃ b cb, v = .ref b ∧ b ∉ wr ∧ b ≠ S ∧ s.heap.get? b = some (lob (xs j) cb)) →
    (∀ h' tk t' c', (∀ b o, b ∉ wr → b ≠ S → s.heap.get? b = some o → h'.get? b = some o) → h'.get? t' = some (lob (tot n) c') → (s.heap.get? t' = none ∨ (t' = t ∧ i = n)) → R (.ok (.ret (.ref t'))) { s with heap := h', toks := tk }) →
    codeAny (model prog w) A (.builtin "sum.loop" ⟨[.ref I, .ref S, rawInt 2, rawInt 0], []⟩) R s := by
  have hSw : S ∉ wr := fun h => hSf (W.sub _ h)
  intro k
  induction k with
  | zero =>
    intro i s t c ct hk hi hst hS ht htS htf hxs hR
    have hin : i = n := by omega
    subst hin
    refine codeAny_builtin PySem.F.entry_sum_loop ?_
    rw [Around.under_plainId PySem.F.plain_sum_loop _]
    show wpAny _ A.in1 (seqItems? (.ref S) >>= _) _ _ s
    refine wpAny_bind (wpAny_seqItems hS rfl ?_)
    show wpAny _ A.in1 (tryCatch (pyNext (.ref I)) _ >>= _) _ _ s
    refine wpAny_bind (wpAny_tryCatch (W.done s _ _ hst fun h' tk hk' => ?_))
    exact wpAny_pure (hR h' tk t ct (fun b o hbw _ e => hk' b o hbw e) (hk' _ _ (fun h => htf (W.sub _ h)) ht) (.inr ⟨rfl, rfl⟩))
  | succ k ih =>
    intro i s t c ct hk hi hst hS ht htS htf hxs hR
    have hlt : i < n := by omega
    refine codeAny_builtin PySem.F.entry_sum_loop ?_
    rw [Around.under_plainId PySem.F.plain_sum_loop _]
    show wpAny _ A.in1 (seqItems? (.ref S) >>= _) _ _ s
    refine wpAny_bind (wpAny_seqItems hS rfl ?_)
    show wpAny _ A.in1 (tryCatch (pyNext (.ref I)) _ >>= _) _ _ s
    refine wpAny_bind (wpAny_tryCatch (W.item i s _ _ hlt hst fun v h' tk hP hst' hk' => ?_))
    obtain ⟨b, cb, rfl, hbw, hbS, hb⟩ := hxs i v (Nat.le_refl _) hlt hP
    have hS' := hk' S _ hSw hS
    have ht' := hk' t _ (fun h => htf (W.sub _ h)) ht
    have hb' := hk' b _ hbw hb
    have hsz := hz (i + 1) hlt
    rw [htot, Array.size_append] at hsz
    show wpAny _ A.in1 ((holding [Value.ref b] (binaryOp .Add (.ref t) (.ref b))).attempt >>= _) _ _ _
    refine wpAny_bind (wpAny_attempt (wpAny_holding (PySem.P.add_list ht' hb' ?_ hsz)))
    obtain ⟨N, hN⟩ : ∃ N, N = h'.objs.size := ⟨_, rfl⟩
    show wpAny _ A.in1 (updateSeq S (fun _ => #[.ref h'.objs.size]) >>= _) _ _ _
    have kp : ∀ b o, h'.get? b = some o → (h'.push { cls := .type "list", data := .seq (tot i ++ xs i) }).get? b = some o := fun b o e => Heap.get?_push_of_some _ e
    have hnew : (h'.push { cls := .type "list", data := .seq (tot i ++ xs i) }).get? h'.objs.size = some (lob (tot i ++ xs i) 0) := Heap.get?_push_size _ rfl
    have ltS : S < h'.objs.size := Heap.lt_size hS'
    have hS1 := kp _ _ hS'
    refine wpAny_bind ?_
    refine wpAny_updateSeq hS1 rfl ?_
    have hS2 := Heap.get?_update_self (Obj.mapSeq fun _ => #[Value.ref h'.objs.size]) hS1 rfl
    refine wpAny_bind (wpAny_letGo ?_)
    refine wpAny_bind ?_
    have ne : ∀ b, b ≠ S → ∀ h1 : Heap, (h1.update S (Obj.mapSeq fun _ => #[Value.ref h'.objs.size])).get? b = h1.get? b := fun b hb h1 => Heap.get?_update_other _ _ (fun e => hb e.symm)
    have nS : h'.objs.size ≠ S := Nat.ne_of_gt ltS
    have nfp : h'.objs.size ∉ fp := fun hm => by
      obtain ⟨o, e⟩ := hex _ _ hst' _ hm
      exact Nat.lt_irrefl _ (Heap.lt_size e)
    have fresh : ∀ b, b ∉ fp → b ≠ S → h'.get? b = none → s.heap.get? b = none := fun b h1 h2 e => by
      cases q : s.heap.get? b with
      | none => rfl
      | some o =>
        have z := hk' b o (fun h => h1 (W.sub _ h)) q
        rw [e] at z
        cases z
    have old : ∀ b o, b ∉ wr → b ≠ S → s.heap.get? b = some o → (((h'.push { cls := .type "list", data := .seq (tot i ++ xs i) }).update S (Obj.mapSeq fun _ => #[Value.ref h'.objs.size])).update S (Obj.mapSeq fun _ => #[Value.ref h'.objs.size])).get? b = some o := fun b o h1 h2 e => by
      rw [ne b h2, ne b h2]
      exact kp _ _ (hk' b o h1 e)
    refine wpAny_updateSeq hS2 rfl (wpAny_pure ⟨plainId_quiet PySem.F.plain_sum_loop _, ih (i + 1) _ h'.objs.size _ 0 (by omega) hlt (W.frame _ _ _ hst' fun b hb o e => ?_) (Heap.get?_update_self _ hS2 rfl) ?_ nS ?_ (fun j v hj hjn hPj => ?_) fun h'' tk'' t'' c'' hk'' hh'' hor => ?_⟩)
    · have hbS : b ≠ S := fun h => hSf (by rw [← h]; exact hb)
      rw [ne b hbS, ne b hbS]
      exact kp _ _ e
    · rw [ne _ nS, ne _ nS, htot]
      exact hnew
    · exact nfp
    · obtain ⟨b2, cb2, rfl, h1, h2, h3⟩ := hxs j v (by omega) hjn hPj
      exact ⟨b2, cb2, rfl, h1, h2, old b2 _ h1 h2 h3⟩
    · refine hR h'' tk'' t'' c'' (fun b o h1 h2 e => hk'' b o h1 h2 (old b o h1 h2 e)) hh'' (.inl ?_)
      rcases hor with hn | ⟨rfl, _⟩
      · have h2 : t'' ≠ S := fun e => by
          rw [e, Heap.get?_update_self _ hS2 rfl] at hn
          cases hn
        rw [ne _ h2, ne _ h2] at hn
        have h3 : h'.get? t'' = none := by
          cases q : h'.get? t'' with
          | none => rfl
          | some o =>
            rw [kp _ _ q] at hn
            cases hn
        refine fresh _ (fun hm => ?_) h2 h3
        obtain ⟨o, e⟩ := hex _ _ hst' _ hm
        rw [h3] at e
        cases e
      · exact fresh _ nfp nS (by
          cases q : h'.get? h'.objs.size with
          | none => rfl
          | some o => exact absurd (Heap.lt_size q) (Nat.lt_irrefl _))
end
section
variable {prog : Program} {w : World} {A : Around} {E : Value → Shared → Prop} {s : Shared}
theorem args_sum2 (a b : Value) : argsOk "sum" ⟨[a, b], []⟩ := by unfold argsOk; kernel_rfl
theorem call_sumL {l e : Addr} {items : Array Value} {ce : Nat} {xs tot : Nat → Array Value} {Q : Value → Shared → Prop} (hh : A.handled = none) (hl : s.heap.IsList l items) (he : s.heap.get? e = some (lob (tot 0) ce)) (nel : e ≠ l) (hpos : 0 < items.size)
    (htot : ∀ i, tot (i + 1) = tot i ++ xs i) (hz : ∀ i, i ≤ items.size → (tot i).size ≤ sizeLine) (hxs : ∀ j v, j < items.size → items[j]? = some v → ∃ b cb, v = .ref b ∧ s.heap.get? b = some (lob (xs j) cb))
    (hQ : ∀ h' tk t' c', (∀ b o, s.heap.get? b = some o → h'.get? b = some o) → h'.get? t' = some (lob (tot items.size) c') → s.heap.get? t' = none → Q (.ref t') { s with heap := h', toks := tk }) :
    wpAny (model prog w) A (call (.builtin "sum") [.ref l, .ref e]) Q E s := by
  refine call_function_tree PySem.F.kind_sum PySem.F.plain_sum PySem.F.entry_sum (args_sum2 _ _) ?_
  unfold Builtin.«sum»
  simp only [List.length_cons, List.length_nil]
  rw [if_neg (by decide)]
  refine wpAny_bind (wpAny_of_eq (show Builtin.Builtins.bindParams "sum" ["start"] 0 ⟨[.ref e], []⟩ = pure [some (.ref e)] from rfl) ?_)
  have hlt : l < s.heap.objs.size := by obtain ⟨_, q, _⟩ := hl; exact Heap.lt_size q
  refine wpAny_bind (wpAny_pyIter_list hl ?_)
  refine wpAny_bind (wpAny_pure ?_)
  have k1 : ∀ b o, s.heap.get? b = some o → (s.heap.push { cls := .type "list_iterator", data := .fields #[.ref l, .int 0 0] }).get? b = some o := fun b o q => Heap.get?_push_of_some _ q
  have tyE : ∀ t, Shared.TypeIs { s with heap := s.heap.push { cls := .type "list_iterator", data := .fields #[.ref l, .int 0 0] }, toks := t } (.ref e) "list" := fun t => ⟨_, k1 _ _ he, rfl⟩
  simp only [List.forIn_cons, List.forIn_nil]
  refine wpAny_bind (wpAny_bind (wpAny_bind (wpAny_isInstance (T := "list") (b := false) (tyE _) PySem.F.sub_list_str ?_)))
  simp only [Bool.false_eq_true, if_false]
  refine wpAny_pure (wpAny_bind (wpAny_bind (wpAny_isInstance (T := "list") (b := false) (tyE _) PySem.F.sub_list_bytes ?_)))
  simp only [Bool.false_eq_true, if_false]
  refine wpAny_pure (wpAny_bind (wpAny_bind (wpAny_isInstance (T := "list") (b := false) (tyE _) PySem.F.sub_list_bytearray ?_)))
  simp only [Bool.false_eq_true, if_false]
  refine wpAny_pure (wpAny_pure ?_)
  refine wpAny_bind (wpAny_newObj_type ?_)
  have hh1 : A.in1.handled = none := hh
  have sz1 : (s.heap.push { cls := .type "list_iterator", data := .fields #[.ref l, .int 0 0] }).objs.size = s.heap.objs.size + 1 := Heap.size_push ..
  have k2 : ∀ b o, (s.heap.push { cls := .type "list_iterator", data := .fields #[.ref l, .int 0 0] }).get? b = some o → ((s.heap.push { cls := .type "list_iterator", data := .fields #[.ref l, .int 0 0] }).push { cls := .type "list", data := .seq #[.ref e] }).get? b = some o := fun b o q => Heap.get?_push_of_some _ q
  have k12 : ∀ b o, s.heap.get? b = some o → ((s.heap.push { cls := .type "list_iterator", data := .fields #[.ref l, .int 0 0] }).push { cls := .type "list", data := .seq #[.ref e] }).get? b = some o := fun b o q => k2 _ _ (k1 _ _ q)
  have elt : e < s.heap.objs.size := Heap.lt_size he
  have old : ∀ b, b < s.heap.objs.size → b ∉ [s.heap.objs.size] ∧ b ≠ (s.heap.push { cls := .type "list_iterator", data := .fields #[.ref l, .int 0 0] }).objs.size := fun b h => ⟨fun z => by rw [List.mem_singleton.mp z] at h; exact Nat.lt_irrefl _ h, by rw [sz1]; omega⟩
  refine wpAny_pure ⟨plainId_quiet PySem.F.plain_sum_loop _, codeAny_sumL (Walks.list (A := A.in1) hh1 s.heap.objs.size l (Nat.ne_of_lt hlt) items) xs tot htot hz _ (fun hm => ?_) (fun i h st b hb => ?_) items.size 0 _ e 0 ce rfl (Nat.zero_le _) ⟨⟨_, k2 _ _ (Heap.get?_push_size _ rfl), rfl, rfl⟩, (hl.push _).push _⟩ (Heap.get?_push_size _ rfl) (k12 _ _ he) (old e elt).2 (fun hm => ?_) (fun j v _ hj hv => ?_) fun h' tk t' c' hk hc hor => ?_⟩
  · rw [sz1] at hm
    rcases List.mem_cons.mp hm with z | z
    · exact absurd z (Nat.succ_ne_self _)
    · exact absurd (List.mem_singleton.mp z) (Nat.ne_of_gt (Nat.lt_succ_of_lt hlt))
  · rcases List.mem_cons.mp hb with rfl | hb
    · obtain ⟨o, ho, _⟩ := st.1
      exact ⟨o, ho⟩
    · rw [List.mem_singleton.mp hb]
      obtain ⟨o, ho, _⟩ := st.2
      exact ⟨o, ho⟩
  · rcases List.mem_cons.mp hm with z | z
    · exact Nat.lt_irrefl _ (by rw [z] at elt; exact elt)
    · exact nel (List.mem_singleton.mp z)
  · obtain ⟨b, cb, rfl, hb⟩ := hxs j v hj hv
    have := old b (Heap.lt_size hb)
    exact ⟨b, cb, rfl, this.1, this.2, k12 _ _ hb⟩
  · rcases hor with hn | ⟨_, z⟩
    · refine hQ h' tk t' c' (fun b o q => ?_) hc ?_
      · have := old b (Heap.lt_size q)
        exact hk b o this.1 this.2 (k12 _ _ q)
      · cases q : s.heap.get? t' with
        | none => rfl
        | some o =>
          have hn : ((s.heap.push { cls := .type "list_iterator", data := .fields #[.ref l, .int 0 0] }).push { cls := .type "list", data := .seq #[.ref e] }).get? t' = none := hn
          rw [k12 _ _ q] at hn
          cases hn
    · omega
end
/-- sum(lists, []) -/
def rSumL : List V → Hp → VK → Prop := fun vs H Q => ∃ (l e : Addr) (bs : List Addr) (xss : List (List V)), vs = [.ref l, .ref e] ∧ e ≠ l ∧ bs ≠ [] ∧ H l = some (.lst (bs.map V.ref)) ∧ H e = some (.lst []) ∧ bs.length = xss.length ∧ (∀ (j : Nat) (b : Addr) (xs : List V), bs[j]? = some b → xss[j]? = some xs → H b = some (.lst xs)) ∧ xss.flatten.length ≤ sizeLine ∧
  ∀ p, H p = none → Q (.ref p) (upd H p (.lst xss.flatten))
theorem itemsL {X : Cx} {pins : List (Addr × Obj)} {σ : L2.St} {H : Hp} {s : Shared} (I : Inv X pins σ H s) : ∀ (bs : List Addr) (xss : List (List V)), bs.length = xss.length → (∀ (j : Nat) (b : Addr) (xs : List V), bs[j]? = some b → xss[j]? = some xs → H b = some (.lst xs)) →
    ∃ iss : List (List Value), iss.length = bs.length ∧ Vals xss.flatten iss.flatten ∧ ∀ (j : Nat) (b : Addr), bs[j]? = some b → ∃ cb, s.heap.get? b = some (lob (iss.getD j []).toArray cb)
  | [], [], _, _ => ⟨[], rfl, .nil, fun j b e => by simp at e⟩
  | b :: bs, xs :: xss, hl, h => by
    obtain ⟨z, its, n, r, _, e⟩ := I.lstM (h 0 b xs rfl rfl)
    obtain ⟨iss, h1, h2, h3⟩ := itemsL I bs xss (by simpa using hl) fun j b' xs' e1 e2 => h (j + 1) b' xs' (by simpa using e1) (by simpa using e2)
    refine ⟨its :: iss, by simp [h1], ?_, fun j b' e1 => ?_⟩
    · rw [List.flatten_cons, List.flatten_cons]
      exact r.append h2
    · cases j with
      | zero =>
        cases (show some b = some b' from e1)
        exact ⟨n, e⟩
      | succ j => exact h3 j b' (by simpa using e1)
theorem cr_sumL {X : Cx} (hc : X.calm = true) : CallR X (.builtin "sum") rSumL := by
  intro pins s σ H vs us Q I r h
  obtain ⟨l, e, bs, xss, rfl, nel, hne, hl, he, hlen, hb, hz, q⟩ := h
  obtain ⟨u1, u2, rfl, r1, r2⟩ := vals2 r
  cases (show u1 = Value.ref l from r1)
  cases (show u2 = Value.ref e from r2)
  obtain ⟨_, its, n, rv, _, el⟩ := I.lstM hl
  obtain ⟨_, ite, ne, rve, hle, ee⟩ := I.lstM he
  have : ite = [] := List.length_eq_zero_iff.mp hle.symm
  subst this
  obtain ⟨iss, hi1, hi2, hi3⟩ := itemsL I bs xss hlen hb
  have hil : its.length = bs.length := by rw [← rv.length, List.length_map]
  have hpos : 0 < bs.length := List.length_pos_iff.mpr hne
  have tk : ∀ i, i ≤ iss.length → (iss.take i).flatten.length ≤ sizeLine := fun i _ => by
    have h1 : iss.flatten.length ≤ sizeLine := by rw [← hi2.length]; exact hz
    have h2 : iss.flatten = (iss.take i).flatten ++ (iss.drop i).flatten := by rw [← List.flatten_append, List.take_append_drop]
    rw [h2, List.length_append] at h1
    omega
  refine call_sumL (l := l) (e := e) (items := its.toArray) (xs := fun i => (iss.getD i []).toArray) (tot := fun i => ((iss.take i).flatten).toArray) (I.ok.hd hc) ⟨_, el, rfl, _, rfl⟩ ee nel (by rw [List.size_toArray, hil]; exact hpos) (fun i => ?_) (fun i hi => ?_) (fun j v hj hv => ?_) fun h' tk' t' c' hk ht' hn => ?_
  · show ((iss.take (i + 1)).flatten).toArray = ((iss.take i).flatten).toArray ++ (iss.getD i []).toArray
    rw [List.append_toArray]
    congr 1
    rw [List.take_add_one, List.flatten_append]
    congr 1
    rw [List.getD_eq_getElem?_getD]
    cases iss[i]? <;> simp
  · rw [List.size_toArray] at hi ⊢
    exact tk i (by omega)
  · rw [List.size_toArray] at hj
    have hjb : j < bs.length := by omega
    obtain ⟨cb, q⟩ := hi3 j bs[j] (List.getElem?_eq_getElem hjb)
    have h1 : (bs.map V.ref)[j]? = some (.ref bs[j]) := by rw [List.getElem?_map, List.getElem?_eq_getElem hjb]; rfl
    obtain ⟨u, hu, ru⟩ := rv.get h1
    have hv : its[j]? = some v := by simpa using hv
    rw [hu] at hv
    cases hv
    exact ⟨bs[j], cb, ru, q⟩
  · have hsz : its.toArray.size = iss.length := by rw [List.size_toArray]; omega
    rw [hsz, List.take_of_length_le (Nat.le_refl _)] at ht'
    have hn0 : H t' = none := I.hok.gone hn
    have hob : ObjOk X.prog X.w (upd H t' (.lst xss.flatten)) h' t' (.lst xss.flatten) := ⟨hz, _, _, hi2, ht'⟩
    exact ⟨.ref t', upd H t' (.lst xss.flatten), I.laidN (t' := tk') hk hn hn0 hob, rfl, q t' hn0⟩
end MH
end
section
set_option Elab.async false
set_option linter.all false
set_option maxRecDepth 100000
set_option maxHeartbeats 4000000
/-! engine: text * int -/
namespace MH
open PySem PySem.Spec PyProof.Rows L2
def rMulSt : R2 := fun x y H Q => ∃ (z : Str) (k : Nat), x = .str z ∧ y = .int (k : Nat) ∧ 2 ≤ k ∧ k ≤ 1000 ∧ 1 ≤ z.length ∧ z.length ≤ 1000 ∧ ∀ w : Str, w.length = z.length * k → Q (.str w) H
theorem fold_len (x : Array Nat) : ∀ (k : Nat) (a : Array Nat), ((List.replicate k x).foldl (· ++ ·) a).size = a.size + x.size * k
  | 0, a => by simp
  | k + 1, a => by
    rw [List.replicate_succ, List.foldl_cons, fold_len x k, Array.size_append, Nat.mul_succ]
    omega
theorem op_mulSt {X : Cx} : OpR X (binaryOp .Mult) rMulSt := by
  intro pins s σ H x y v u Q I rx ry h
  obtain ⟨z, k, rfl, rfl, h1, h2, h3, h4, q⟩ := h
  obtain ⟨t, rfl⟩ := rx
  obtain ⟨t', rfl⟩ := ry
  have e1 : ¬ ((k : Nat) : Int) < 1 := by omega
  have e2 : (((k : Nat) : Int) == 1 || z.length == 0) = false := by
    rw [Bool.or_eq_false_iff]
    exact ⟨beq_eq_false_iff_ne.mpr (by omega), beq_eq_false_iff_ne.mpr (by omega)⟩
  have hm : z.length * k ≤ 1000000 := Nat.le_trans (Nat.mul_le_mul h4 h2) (by decide)
  refine PySem.P.mul_str ?_ (fun _ _ => ?_) (fun _ _ => ?_) ?_
  · rw [decide_eq_false (show ¬ ((k : Nat) : Int) < -(2 ^ 63 : Int) by omega), decide_eq_false (show ¬ ((k : Nat) : Int) ≥ 2 ^ 63 by omega)]
    rfl
  · have : (9007199254740991 : Int) ≤ (2 ^ 63 - 1) / ((k : Nat) : Int) := (Int.le_ediv_iff_mul_le (by omega)).mpr (by omega)
    omega
  · show decide (z.length * (((k : Nat) : Int)).toNat > sizeLine) = false
    rw [Int.toNat_natCast]
    exact decide_eq_false (by have : sizeLine > 1000000 := by decide
                              omega)
  · rw [if_neg e1, if_neg (by rw [e2]; exact Bool.false_ne_true), Int.toNat_natCast]
    have hw : (⟨(List.replicate k z.cps).foldl (· ++ ·) #[]⟩ : Str).length = z.length * k := by
      show ((List.replicate k z.cps).foldl (· ++ ·) #[]).size = _
      rw [fold_len]
      simp [Str.length]
    generalize (⟨(List.replicate k z.cps).foldl (· ++ ·) #[]⟩ : Str) = w at hw ⊢
    refine ⟨?_, ⟨.str w, H, I.tok _, ⟨_, rfl⟩, q w hw⟩⟩
    have : sizeLine > 1000000 := by decide
    omega
end MH
end
section
set_option Elab.async false
set_option linter.all false
set_option maxRecDepth 100000
set_option maxHeartbeats 4000000
/-! engine: lists of short texts -/
namespace MH
open PySem PySem.Spec PyProof.Rows L2
/-- at a: at most n texts, each at most m signs long -/
def LT (m : Nat) (H : Hp) (a : Addr) (n : Nat) : Prop := ∃ fs : List Str, H a = some (.lst (fs.map V.str)) ∧ fs.length ≤ n ∧ ∀ f ∈ fs, f.length ≤ m
theorem LT.same {H H' : Hp} {a : Addr} {n c : Nat} (h : LT c H a n) (s : Same H H') : LT c H' a n := by
  obtain ⟨fs, h1, h2, h3⟩ := h
  exact ⟨fs, s _ _ h1, h2, h3⟩
theorem LT.ext {H H' : Hp} {a : Addr} {n c : Nat} (h : LT c H a n) (e : LamX.ExtN H H') : LT c H' a n := by
  obtain ⟨fs, h1, h2, h3⟩ := h
  exact ⟨fs, e _ _ h1 (fun ps z => by cases z), h2, h3⟩
theorem LT.mono {H : Hp} {a : Addr} {n m c d : Nat} (h : LT c H a n) (l : n ≤ m) (l2 : c ≤ d) : LT d H a m := by
  obtain ⟨fs, h1, h2, h3⟩ := h
  exact ⟨fs, h1, by omega, fun f hf => Nat.le_trans (h3 f hf) l2⟩
theorem LT.dn {K : Fg} {A : DA} {H H' : Hp} {a : Addr} {n c : Nat} (h : LT c H a n) (s : Dn K A H H') (ne : a ≠ A.la) : LT c H' a n := by
  obtain ⟨fs, h1, h2, h3⟩ := h
  exact ⟨fs, s.lst h1 ne, h2, h3⟩
/-- what makes a list of texts, wherever what stood stands -/
def MkT (c : Nat) (te : TE) (σ : L2.St) (H : Hp) (n : Nat) : Prop := ∀ H1, Same H H1 → ∀ Q : VK, (∀ p H', Same H1 H' → LT c H' p n → Q (.ref p) H') → te σ H1 Q
section
variable {K : Fg} {ta tb : TE} {σ : L2.St} {H : Hp} {n m c : Nat}
theorem sizeBig : sizeLine > 1000000 := by decide
theorem mkt_cat (ha : MkT c ta σ H n) (hb : MkT c tb σ H m) (hz : n + m ≤ 1000) : MkT c (tOp rCat ta tb) σ H (n + m) := fun H1 s1 Q q => by
  refine i_op (ha H1 s1 _ fun p H2 s2 hp => hb H2 (s1.trans s2) _ fun p2 H3 s3 hp2 => ?_)
  obtain ⟨fs, h1, h2, h3⟩ := hp.same s3
  obtain ⟨gs, k1, k2, k3⟩ := hp2
  have := sizeBig
  refine rd_cat h1 k1 (by rw [List.length_map, List.length_map]; omega) fun r hr => q r _ ((s2.trans s3).trans (sameNew hr)) ⟨fs ++ gs, by rw [upd_same, List.map_append], by rw [List.length_append]; omega, fun f hf => ?_⟩
  rcases List.mem_append.mp hf with hf | hf
  · exact h3 f hf
  · exact k3 f hf
def tStrs : List Str → TA
  | [] => tNil
  | x :: r => tCons (tC (.str x)) (tStrs r)
theorem strs_run : ∀ (ss : List Str) {Q : List V → Hp → Prop} {H : Hp}, Q (ss.map V.str) H → tStrs ss σ H Q
  | [], _, _, h => h
  | x :: r, Q, H, h => by
    refine i_cons (i_c ?_)
    exact strs_run r (Q := fun xs H2 => Q (V.str x :: xs) H2) h
theorem mkt_disp (ss : List Str) (hn : ss.length ≤ 1000) (hl : ∀ x ∈ ss, x.length ≤ c) : MkT c (tLst (tStrs ss)) σ H ss.length := fun H1 s1 Q q => by
  refine i_lst (strs_run ss ?_)
  have := sizeBig
  exact ⟨by rw [List.length_map]; omega, fun p hp => q p _ (sameNew hp) ⟨ss, upd_same, Nat.le_refl _, hl⟩⟩
theorem mkt_var {i : Nat} {a : Addr} (e : σ[i]? = some (some (.ref a))) (h : LT c H a n) : MkT c (tVar i) σ H n := fun H1 s1 Q q => i_var e (q a H1 (Same.refl _) (h.same s1))
theorem mkt_if {tt : TT} {b : Bool} (ht : ∀ H1 (R : Bool → Hp → Prop), Same H H1 → R b H1 → tt σ H1 R) (ha : MkT c ta σ H n) (hb : MkT c tb σ H n) : MkT c (tIf tt ta tb) σ H n := fun H1 s1 Q q => by
  refine i_if (ht H1 _ s1 ?_)
  cases b with
  | true => exact iteT (ha H1 s1 Q q)
  | false => exact iteF (hb H1 s1 Q q)
theorem mkt_rep {k : Nat} (ha : MkT c ta σ H n) (hk : n * k ≤ 1000) (hk2 : k ≤ 1000) : MkT c (tOp rRep ta (tC (.int (k : Nat)))) σ H (n * k) := fun H1 s1 Q q => by
  refine i_op (ha H1 s1 _ fun p H2 s2 hp => i_c ?_)
  obtain ⟨fs, h1, h2, h3⟩ := hp
  have := sizeBig
  have h4 : fs.length * k ≤ n * k := Nat.mul_le_mul_right _ h2
  refine ⟨p, _, _, rfl, rfl, h1, by omega, by omega, by rw [List.length_map, Int.toNat_natCast]; omega, fun r hr => q r _ (s2.trans (sameNew hr)) ⟨(List.replicate k fs).flatten, ?_, ?_, fun f hf => ?_⟩⟩
  · rw [upd_same, Int.toNat_natCast, List.map_flatten, List.map_replicate]
  · rw [List.length_flatten, List.map_replicate, List.sum_replicate_nat, Nat.mul_comm]
    exact h4
  · obtain ⟨l, hl, hf⟩ := List.mem_flatten.mp hf
    rw [List.eq_of_mem_replicate hl] at hf
    exact h3 f hf
theorem MkT.mono {te : TE} {d : Nat} (h : MkT c te σ H n) (l : n ≤ m) (l2 : c ≤ d) : MkT d te σ H m := fun H1 s1 Q q => h H1 s1 Q fun p H2 s2 hp => q p H2 s2 (hp.mono l l2)
theorem cutV_strs (fs : List Str) (lo hi : Option Int) : ∃ gs : List Str, cutV (fs.map V.str) lo hi = gs.map V.str ∧ gs.length ≤ fs.length ∧ ∀ g ∈ gs, g ∈ fs := by
  refine ⟨(fs.drop (HT.sIx (fs.map V.str).length 0 lo)).take (HT.sIx (fs.map V.str).length (fs.map V.str).length hi - HT.sIx (fs.map V.str).length 0 lo), ?_, ?_, fun g hg => List.mem_of_mem_drop (List.mem_of_mem_take hg)⟩
  · unfold cutV
    rw [← List.map_drop, ← List.map_take]
  · rw [List.length_take, List.length_drop]
    omega
theorem lt_cut {a p : Addr} {lo hi : Option Int} {H1 : Hp} (h : LT c H a n) (hl : ∀ xs, H a = some (.lst xs) → H1 p = some (.lst (cutV xs lo hi))) : LT c H1 p n := by
  obtain ⟨fs, h1, h2, h3⟩ := h
  obtain ⟨gs, e1, e2, e3⟩ := cutV_strs fs lo hi
  exact ⟨gs, by rw [hl _ h1, e1], by omega, fun g hg => h3 g (e3 g hg)⟩
theorem mkt_sl {te : TE} {tl th : TO} (h : MkT c te σ H n) (hl : ∀ H1 (R : Option Int → Hp → Prop), Same H H1 → (∀ i, R i H1) → tl σ H1 R) (hh : ∀ H1 (R : Option Int → Hp → Prop), Same H H1 → (∀ i, R i H1) → th σ H1 R) : MkT c (tSl (rSlL K) te tl th) σ H n := fun H1 s1 Q q => by
  refine i_sl (h H1 s1 _ fun p H2 s2 hp => hl H2 _ (s1.trans s2) fun i => hh H2 _ (s1.trans s2) fun j => ?_)
  obtain ⟨fs, h1, h2, h3⟩ := id hp
  exact rd_slL h1 fun r hr => q r _ (s2.trans (sameNew hr)) (lt_cut hp fun xs e => by rw [h1] at e; cases e; exact upd_same)
theorem to_none : ∀ H1 (R : Option Int → Hp → Prop), Same H H1 → (∀ i, R i H1) → tNoPart σ H1 R := fun H1 R _ h => i_nopart (h none)
theorem to_int {te : TE} (h : ∀ H1 (R : VK), Same H H1 → (∀ i, R (.int i) H1) → te σ H1 R) : ∀ H1 (R : Option Int → Hp → Prop), Same H H1 → (∀ i, R i H1) → tPart te σ H1 R := fun H1 R s q => i_part (h H1 _ s fun i => i_int (q (some i)))
/-- a list of lists of texts, from b on -/
def LL (c : Nat) (H : Hp) (a : Addr) (k n : Nat) : Prop := ∃ bs : List Addr, H a = some (.lst (bs.map V.ref)) ∧ bs.length = k ∧ ∀ b ∈ bs, LT c H b n
theorem LL.same {a : Addr} {k : Nat} {H' : Hp} (h : LL c H a k n) (s : Same H H') : LL c H' a k n := by
  obtain ⟨bs, h1, h2, h3⟩ := h
  exact ⟨bs, s _ _ h1, h2, fun b hb => (h3 b hb).same s⟩
theorem mkt_ix {i k j : Nat} {a : Addr} (e : σ[i]? = some (some (.ref a))) (h : LL c H a k n) (hj : j < k) : MkT c (tOp (rIxL K) (tVar i) (tC (.int (j : Nat)))) σ H n := fun H1 s1 Q q => by
  obtain ⟨bs, h1, h2, h3⟩ := h
  have hjb : j < bs.length := by omega
  exact i_op (i_var e (i_c (rd_ixL (s1 _ _ h1) (atI_nat (by rw [List.getElem?_map, List.getElem?_eq_getElem hjb]; rfl)) (q bs[j] H1 (Same.refl _) ((h3 _ (List.getElem_mem hjb)).same s1)))))
/-- .. a new list -/
def MkN (c : Nat) (te : TE) (σ : L2.St) (H : Hp) (n : Nat) : Prop := ∀ H1, Same H H1 → ∀ Q : VK, (∀ p H', H1 p = none → Same H1 H' → LT c H' p n → Q (.ref p) H') → te σ H1 Q
theorem MkN.t {te : TE} (h : MkN c te σ H n) : MkT c te σ H n := fun H1 s1 Q q => h H1 s1 Q fun p H' _ s l => q p H' s l
theorem strs_of {d : Nat} {ys : List V} {H' : Hp} (hy : ∀ (i : Nat) (v : V), ys[i]? = some v → ∃ y : Str, v = .str y ∧ y.length ≤ d) : ∃ gs : List Str, ys = gs.map V.str ∧ ∀ g ∈ gs, g.length ≤ d := by
  induction ys with
  | nil => exact ⟨[], rfl, fun g hg => by cases hg⟩
  | cons y r ih =>
    obtain ⟨x, rfl, hx⟩ := hy 0 y rfl
    obtain ⟨gs, rfl, hg⟩ := ih fun i v e => hy (i + 1) v (by simpa using e)
    exact ⟨x :: gs, rfl, fun g hg' => by
      rcases List.mem_cons.mp hg' with rfl | hg'
      · exact hx
      · exact hg g hg'⟩
/-- [text of x for x in texts] -/
theorem mkn_lc {te0 te : TE} {vs : List Nat} {j d : Nat} (h : MkT c te0 σ H n) (hn : n ≤ 1000)
    (hw : ∀ x : V, wipe ((wipe σ vs).set j (some x)) vs = wipe σ vs)
    (he : ∀ (x : Str) H3 (R : VK), x.length ≤ c → Same H H3 → (∀ y : Str, y.length ≤ d → R (.str y) H3) → te ((wipe σ vs).set j (some (.str x))) H3 R) : MkN d (tLc (iList K te0) (gName j) tYes te vs) σ H n := fun H1 s1 Q q => by
  refine i_lc (i_ilist (h H1 s1 _ fun p H2 s2 hp => ?_))
  obtain ⟨fs, h1, h2, h3⟩ := hp
  have := sizeBig
  refine ⟨p, rfl, ⟨_, SqL.of h1⟩, ?_⟩
  refine lcb_rel (K := K) (J := Itl K p) (n := (fs.map V.str).length) (it := fun i => (fs.map V.str).getD i .non) (fun _ v _ => ∃ y : Str, v = .str y ∧ y.length ≤ d) (fun _ _ _ _ _ h => h) (by rw [List.length_map]; omega) (fun H3 s3 => still_lst (SqL.of (s3 _ _ h1))) hw (fun i H3 R hi s3 k => ?_) fun D H' ys hD s' hl hlen hy => ?_
  · have hi' : i < fs.length := by rw [List.length_map] at hi; exact hi
    have e1 : (fs.map V.str).getD i .non = .str fs[i] := by
      rw [List.getD_eq_getElem?_getD, List.getElem?_map, List.getElem?_eq_getElem hi']
      rfl
    show te ((wipe σ vs).set j (some ((fs.map V.str).getD i .non))) H3 R
    rw [e1]
    exact he _ H3 R (h3 _ (List.getElem_mem hi')) ((s1.trans s2).trans s3) fun y hy => k _ H3 (Same.refl _) ⟨y, rfl, hy⟩
  · obtain ⟨gs, rfl, hg⟩ := strs_of (H' := H') hy
    exact q D H' (none_of s2 hD) (s2.trans s') ⟨gs, hl, by rw [List.length_map, List.length_map] at hlen; omega, hg⟩
/-- [text of x for x in text] -/
theorem mkn_lcs {z : Str} {te : TE} {vs : List Nat} {j d : Nat} (hn : z.length ≤ 1000)
    (hw : ∀ x : V, wipe ((wipe σ vs).set j (some x)) vs = wipe σ vs)
    (he : ∀ (x : Str) H3 (R : VK), x.length = 1 → Same H H3 → (∀ y : Str, y.length ≤ d → R (.str y) H3) → te ((wipe σ vs).set j (some (.str x))) H3 R) : MkN d (tLc (iStr (tC (.str z))) (gName j) tYes te vs) σ H z.length := fun H1 s1 Q q => by
  refine i_lc (i_istr (i_c ⟨z, rfl, ?_⟩))
  have := sizeBig
  refine lcb_rel (K := ([] : Fg)) (J := Its z) (n := z.length) (it := fun i => .str ⟨#[z.cps.toList.getD i 0]⟩) (fun _ v _ => ∃ y : Str, v = .str y ∧ y.length ≤ d) (fun _ _ _ _ _ h => h) (by omega) (fun H3 s3 => still_str z) hw (fun i H3 R hi s3 k => ?_) fun D H' ys hD s' hl hlen hy => ?_
  · exact he _ H3 R rfl (s1.trans s3) fun y hy => k _ H3 (Same.refl _) ⟨y, rfl, hy⟩
  · obtain ⟨gs, rfl, hg⟩ := strs_of (H' := H') hy
    exact q D H' hD s' ⟨gs, hl, by rw [List.length_map] at hlen; omega, hg⟩
/-- a comprehension whose items are new lists of texts -/
theorem lcb_lists {J : It} {H1 : Hp} {k : Nat} {it : Nat → V} {vs : List Nat} {j : Nat} {te : TE} {Q : VK} (hn : k ≤ 1000) (hJ : ∀ H3, Same H1 H3 → Still J H3 k it)
    (hw : ∀ x : V, wipe ((wipe σ vs).set j (some x)) vs = wipe σ vs)
    (he : ∀ i, i < k → MkN c te ((wipe σ vs).set j (some (it i))) H1 n)
    (hq : ∀ D H', H1 D = none → Same H1 H' → LL c H' D k n → (∀ _ : Unit, H' D ≠ none) → Q (.ref D) H') : LcB J H1 (gName j) tYes te vs σ Q := by
  intro D hD
  have := sizeBig
  refine ⟨fun i m H => i + m = k ∧ Same H1 H ∧ ∃ bs : List Addr, H D = some (.lst (bs.map V.ref)) ∧ bs.length = i ∧ ∀ b ∈ bs, b ≠ D ∧ LT c H b n, ⟨k, by omega, samePut (Same.refl _) hD, [], upd_same, rfl, fun b hb => by cases hb⟩, fun i m H hW => ?_⟩
  obtain ⟨e, s, bs, l, hl, hb⟩ := hW
  have S := hJ H s
  cases m with
  | zero =>
    have ei : i = k := by omega
    subst ei
    exact .inl ⟨S.stop, hq D H hD s ⟨bs, l, hl, fun b h => (hb b h).2⟩ (fun _ => by rw [l]; exact fun z => by cases z)⟩
  | succ m =>
    have hi : i < k := by omega
    refine .inr ⟨S.go i hi, fun H' => Same H1 H' ∧ ∃ bs : List Addr, H' D = some (.lst (bs.map V.ref)) ∧ bs.length = i + 1 ∧ ∀ b ∈ bs, b ≠ D ∧ LT c H' b n, fun H' h => ⟨m, by omega, by omega, h.1, h.2⟩, fun x H' hx => ?_⟩
    obtain ⟨e1, e2⟩ := S.yld i x H' hi hx
    subst e1 e2
    refine ⟨hw _, ?_⟩
    refine i_yes ?_
    refine iteT ?_
    refine he i hi H' s _ fun p H4 hp s4 hlt => ?_
    have hpD : p ≠ D := (ne_of_none l hp).symm
    have l4 := s4 _ _ l
    have put : ∀ b, b ≠ D → LT c H4 b n → LT c (upd H4 D (.lst (bs.map V.ref ++ [.ref p]))) b n := fun b h1 ⟨fs, q1, q2, q3⟩ => ⟨fs, by rw [upd_ne h1]; exact q1, q2, q3⟩
    refine ⟨_, l4, by rw [List.length_map]; omega, samePut (s.trans s4) hD, bs ++ [p], by rw [upd_same, List.map_append]; rfl, by rw [List.length_append, hl]; rfl, fun b hb' => ?_⟩
    rcases List.mem_append.mp hb' with h | h
    · exact ⟨(hb b h).1, put b (hb b h).1 ((hb b h).2.same s4)⟩
    · rw [List.mem_singleton.mp h]
      exact ⟨hpD, put p hpD hlt⟩
theorem ll_lists {H : Hp} : ∀ {bs : List Addr}, (∀ b ∈ bs, LT c H b n) → ∃ fss : List (List Str), fss.length = bs.length ∧ (∀ (j : Nat) (b : Addr) (fs : List Str), bs[j]? = some b → fss[j]? = some fs → H b = some (.lst (fs.map V.str))) ∧ fss.flatten.length ≤ bs.length * n ∧ ∀ f ∈ fss.flatten, f.length ≤ c
  | [], _ => ⟨[], rfl, (fun j b fs e => by simp at e), by simp, fun f hf => by simp at hf⟩
  | b :: r, h => by
    obtain ⟨fs, h1, h2, h3⟩ := h b List.mem_cons_self
    obtain ⟨fss, k1, k2, k3, k4⟩ := ll_lists (bs := r) fun b hb => h b (List.mem_cons_of_mem _ hb)
    refine ⟨fs :: fss, by simp [k1], fun j b' fs' e1 e2 => ?_, ?_, fun f hf => ?_⟩
    · cases j with
      | zero =>
        cases (show some b = some b' from e1)
        cases (show some fs = some fs' from e2)
        exact h1
      | succ j => exact k2 j b' fs' (by simpa using e1) (by simpa using e2)
    · rw [List.flatten_cons, List.length_append, List.length_cons, Nat.succ_mul]
      omega
    · rw [List.flatten_cons] at hf
      rcases List.mem_append.mp hf with hf | hf
      · exact h3 f hf
      · exact k4 f hf
theorem rd_sumLL {l e : Addr} {k : Nat} {Q : VK} (h : LL c H l k n) (hk : 0 < k) (he : H e = some (.lst [])) (ne : e ≠ l) (hz : k * n ≤ 1000) (q : ∀ p H', H p = none → Same H H' → LT c H' p (k * n) → Q (.ref p) H') : rSumL [.ref l, .ref e] H Q := by
  obtain ⟨bs, h1, h2, h3⟩ := h
  obtain ⟨fss, k1, k2, k3, k4⟩ := ll_lists h3
  have := sizeBig
  have e1 : (fss.map fun fs => fs.map V.str).flatten = fss.flatten.map V.str := by rw [List.map_flatten]
  rw [h2] at k3
  refine ⟨l, e, bs, fss.map fun fs => fs.map V.str, rfl, ne, (fun z => by rw [z] at h2; simp at h2; omega), h1, he, by rw [List.length_map, k1], fun j b xs hb hx => ?_, by rw [e1, List.length_map]; omega, fun p hp => ?_⟩
  · rw [List.getElem?_map] at hx
    cases hf : fss[j]? with
    | none => rw [hf] at hx; cases hx
    | some fs =>
      rw [hf] at hx
      cases hx
      exact k2 j b fs hb hf
  · rw [e1]
    exact q p _ hp (sameNew hp) ⟨fss.flatten, upd_same, k3, k4⟩
end
end MH
end
section
set_option Elab.async false
set_option linter.all false
set_option maxRecDepth 100000
set_option maxHeartbeats 16000000
set_option pp.maxSteps 2500
namespace MH
open PySem PySem.Spec PyProof.Rows L2
local macro_rules | `(tactic| walk_at "go") => `(tactic| repeat (first
  | with_reducible refine i_seq ?_ | with_reducible refine i_ifS ?_ | with_reducible refine i_ret ?_ | with_reducible refine i_drop ?_ | with_reducible refine i_asg ?_ | with_reducible refine i_name ?_
  | with_reducible refine i_next ?_ | with_reducible refine i_var (by with_unfolding_all exact rfl) ?_ | with_reducible refine i_c ?_ | with_reducible refine i_cons ?_ | with_reducible refine i_nil ?_ | with_reducible refine i_cb ?_
  | with_reducible refine i_op ?_ | with_reducible refine i_un ?_ | with_reducible refine i_call ?_ | with_reducible refine i_test ?_ | with_reducible refine i_b ?_ | with_reducible refine i_bl ?_ | with_reducible refine i_and ?_ | with_reducible refine i_or ?_
  | with_reducible refine i_not ?_ | with_reducible refine i_andV ?_ | with_reducible refine i_orV ?_ | with_reducible refine i_notV ?_ | with_reducible refine i_if ?_ | with_reducible refine i_chain ?_ | with_reducible refine i_tup ?_ | with_reducible refine i_lst ?_
  | with_reducible refine i_sl ?_ | with_reducible refine i_part ?_ | with_reducible refine i_nopart ?_ | with_reducible refine i_int ?_ | with_reducible refine i_bm ?_ | with_reducible refine i_bm0 ?_ | with_reducible refine i_I0 ?_ | with_reducible refine i_lc ?_ | with_reducible refine i_disp ?_ | with_reducible refine i_pairsC ?_ | with_reducible refine i_pairsN ?_ | with_reducible refine i_dget2 ?_ | with_reducible refine i_gsub ?_ | with_reducible refine i_raiseB ?_ | with_reducible refine i_make ?_ | with_reducible refine i_gcons ?_ | with_reducible refine i_gnil ?_ | with_reducible refine i_enum ?_ | with_reducible refine i_isN ?_ | with_reducible refine i_notN ?_ | with_reducible refine i_fld ?_ | with_reducible refine i_sfld ?_ | with_reducible refine i_meth ?_ | with_reducible refine i_rU ?_ | with_reducible refine i_dputN ?_ | with_reducible refine i_dput ?_ | with_reducible refine i_dget ?_ | with_reducible refine i_rng1 ?_ | with_reducible refine i_dinP ?_ | with_reducible refine i_raiseA ?_ | with_reducible refine i_lenSetS ?_ | with_reducible refine i_for ?_ | with_reducible refine i_yes ?_ | with_reducible refine i_eqS ?_ | with_reducible refine i_neS ?_ | with_reducible refine i_eqI ?_ | with_reducible refine i_neI ?_
  | with_reducible refine i_retN ?_ | with_reducible refine i_brk ?_ | with_reducible refine i_cont ?_ | with_reducible refine i_par ?_ | with_reducible refine i_par3 ?_ | with_reducible refine i_two ?_ | with_reducible refine i_three ?_
  | with_reducible refine i_itup ?_ | with_reducible refine i_ilist ?_ | with_reducible refine i_istr ?_ | with_reducible refine i_str ?_ | with_reducible refine i_m1 ?_ | with_reducible refine i_anystr ?_
  | with_reducible refine iteT ?_ | with_reducible refine iteF ?_))
def scF : Scope := { kind := .function, names := [(".0", .local), ("first", .cell)], isGenerator := false, isCoroutine := false }
def scBg : Scope := { kind := .function, names := [(".0", .local), ("begin", .local), ("names", .cell)], isGenerator := false, isCoroutine := false }
theorem pi_listK {X : Cx} {K : Fg} {tg e : Expr} {te : TE} (e0 : X.K = K) (he : PE X e te) : PI X tg e (iList K te) := by
  subst e0
  exact pi_list he
theorem sl_listK {X : Cx} {K : Fg} (e0 : X.K = K) : SlR X (rSlL K) := by
  subst e0
  exact sl_list
def scLs : Scope := { kind := .function, names := [(".0", .local), ("last", .local), ("first", .free)], isGenerator := false, isCoroutine := false }
def scNm : Scope := { kind := .function, names := [(".0", .local), ("name", .local)], isGenerator := false, isCoroutine := false }
theorem strAdd (a b : Str) : (a ++ b).length = a.length + b.length := by
  show (a.cps ++ b.cps).size = _
  exact Array.size_append
theorem rd_slLT {K : Fg} {H : Hp} {a : Addr} {n c : Nat} {lo hi : Option Int} {Q : VK} (h : LT c H a n) (q : ∀ p H', Same H H' → LT c H' p n → Q (.ref p) H') : rSlL K (.ref a) lo hi H Q := by
  obtain ⟨fs, h1, h2, h3⟩ := id h
  exact rd_slL h1 fun r hr => q r _ (sameNew hr) (lt_cut h fun xs e => by rw [h1] at e; cases e; exact upd_same)
/-- a loop over lists of texts: each is right -/
theorem lt_join {H : Hp} {a : Addr} {n : Nat} (h : LT 20 H a n) (hn : n ≤ 380) : ∃ fs : List Str, H a = some (.lst (fs.map V.str)) ∧ (Txt.join "\n" fs).length ≤ 8000 ∧ (∀ y ∈ linesOf (Txt.join "\n" fs), y.length ≤ 97) ∧ (fs.map (·.length)).sum + fs.length * (Str.ofString "\n").length ≤ 16777216 := by
  obtain ⟨fs, h1, h2, h3⟩ := h
  have := texts_ok (n := 380) (m := 20) h3 (by omega) (by decide) (by decide)
  exact ⟨fs, h1, this⟩
theorem el_do {σ : L2.St} {H3 : Hp} {R : VK} {j d : Nat} {x : Str} (e : σ[j]? = some (some (.str x))) (hx : x.length ≤ 2) (hd : 7 ≤ d) (k : ∀ y : Str, y.length ≤ d → R (.str y) H3) :
    tOp (fun x y H Q => ∃ i j, x = .str i ∧ y = .str j ∧ i.length + j.length ≤ sizeLine ∧ Q (.str (i ++ j)) H) (tOp (fun x y H Q => ∃ i j, x = .str i ∧ y = .str j ∧ i.length + j.length ≤ sizeLine ∧ Q (.str (i ++ j)) H) (tC (.str "do ")) (tVar j)) (tC (.str " p")) σ H3 R := by
  have sz : sizeLine > 1000000 := by decide
  have h1 : ("do " : Str).length = 3 := by decide
  have h2 : (" p" : Str).length = 2 := by decide
  refine i_op (i_op (i_c (i_var e ⟨_, _, rfl, rfl, ?_, i_c ⟨_, _, rfl, rfl, ?_, k _ ?_⟩⟩)))
  · omega
  · rw [strAdd]
    omega
  · rw [strAdd, strAdd]
    omega
section
variable {P : Program} {w : World} {K : Fg} {mg : Str → Option Value} {base : Heap}
theorem k__law_limits_right (T : Tx K mg) (BC : BadC P K) (XB : XcC K (cB K)) (TB : TbF K mg base) : Keeps P w K mg base (L2.CX P w) 16 "_law_limits_right" ["draw"] (spPart (K := K)) := T.kp__law_limits_right fun fd F => by
  refine F.ok sc__law_limits_right (fun vs H Q E h => ?_) (fun cdv A outer s H vs Q E hr h => ?_)
  · obtain ⟨D, rfl, _⟩ := h
    rfl
  · obtain ⟨D, rfl, hd, hT, q⟩ := h
    refine ⟨_, (pss_cons (ps_asg (pe_tup (pa_cons (pe_callB (cr_sumL rfl) (by rfl) T.b_sum (by decide +kernel) (pa_cons (pe_lc (own := [("first", 4)]) (g := gName 4) (tt := tYes) rfl sc__law_limits_right.nd (pi_str pe_str) (blkOk_by (N := n__law_limits_right) (sc := defScope s__law_limits_right) (by decide +kernel)) (fun _ _ _ _ _ => (pg_name (i := 4) sc__law_limits_right.nd rfl (by first | exact Or.inl rfl | exact Or.inr rfl))) (fun _ _ _ _ _ => pts_nil) (fun _ _ _ _ _ => (by exact (pe_lc (own := [("last", 3)]) (g := gName 3) (tt := tYes) rfl sc__law_limits_right.nd (pi_str pe_str) (by exact blkOk_by (N := n__law_limits_right) (sc := scF) (scope := scLs) (own := [("last", 3)]) (by decide +kernel)) (fun _ _ _ _ _ => (pg_name (i := 3) sc__law_limits_right.nd rfl (by first | exact Or.inl rfl | exact Or.inr rfl))) (fun _ _ _ _ _ => pts_nil) (fun _ _ _ _ _ => (pe_op op_add_str (pv 4) (pv 3))))))) (pa_cons (pe_lst pa_nil) pa_nil))) (pa_cons (pe_k (k__law_take T) (hr.mono (by omega)) pass0 (pa_cons (pv 0) (pa_cons pe_int pa_nil))) pa_nil))) (pg_tup rfl (pgs_cons (pg_name (i := 1) sc__law_limits_right.nd rfl (by first | exact Or.inl rfl | exact Or.inr rfl)) (pgs_cons (pg_name (i := 2) sc__law_limits_right.nd rfl (by first | exact Or.inl rfl | exact Or.inr rfl)) pgs_nil))))
      (pss_cons (ps_setLc (i := 5) (own := [("begin", 7)]) (g := gName 7) (tt := tYes) rfl sc__law_limits_right.nd rfl rfl (sw_true rfl rfl rfl (by decide +kernel)) (pi_list (pe_lst (pa_cons pe_int (pa_cons pe_int (pa_cons pe_int (pa_cons pe_int (pa_cons pe_int pa_nil))))))) (blkOk_by (N := n__law_limits_right) (sc := defScope s__law_limits_right) (by decide +kernel)) (fun _ _ _ _ _ => (pg_name (i := 7) sc__law_limits_right.nd rfl (by first | exact Or.inl rfl | exact Or.inr rfl))) (fun _ _ _ _ _ => pts_nil) (fun _ _ _ _ _ => (by exact (pe_lc (own := [("name", 6)]) (g := gName 6) (tt := tYes) rfl sc__law_limits_right.nd (pi_listK (K := K) rfl (pe_slice (sl_listK (K := K) rfl) (pv 1) (po_some (pv 7)) (po_some (pe_op op_add (pv 7) pe_int)))) (by exact blkOk_by (N := n__law_limits_right) (sc := scBg) (scope := scNm) (own := [("name", 6)]) (by decide +kernel)) (fun _ _ _ _ _ => (pg_name (i := 6) sc__law_limits_right.nd rfl (by first | exact Or.inl rfl | exact Or.inr rfl))) (fun _ _ _ _ _ => pts_nil) (fun _ _ _ _ _ => (pe_op op_add_str (pe_op op_add_str pe_str (pv 6)) pe_str))))))
      (pss_cons (ps_set (i := 8) sc__law_limits_right.nd rfl (by first | exact Or.inl rfl | exact Or.inr rfl) (pe_op op_cat (pe_op op_cat (pe_op op_cat (pe_op op_cat (pe_op op_cat (pe_op op_cat (pe_op op_cat (pe_op op_cat (pe_op op_cat (pe_op op_cat (pe_lst (pa_cons pe_str pa_nil)) (pe_ix ix_list (pv 5) pe_int (fun _ _ => rfl))) (pe_lst (pa_cons pe_str pa_nil))) (pe_ix ix_list (pv 5) pe_int (fun _ _ => rfl))) (pe_lst (pa_cons pe_str pa_nil))) (pe_lst (pa_cons pe_str pa_nil))) (pe_ix ix_list (pv 5) pe_int (fun _ _ => rfl))) (pe_lst (pa_cons pe_str (pa_cons pe_str pa_nil)))) (pe_slice sl_list (pe_ix ix_list (pv 5) pe_int (fun _ _ => rfl)) po_none (po_some pe_int))) (pe_slice sl_list (pe_ix ix_list (pv 5) pe_int (fun _ _ => rfl)) po_none (po_some (pv 2)))) (pe_lst (pa_cons pe_str pa_nil))))
      (pss_cons (ps_set (i := 9) sc__law_limits_right.nd rfl (by first | exact Or.inl rfl | exact Or.inr rfl) (pe_op op_cat (pe_op op_cat (pe_lst (pa_cons pe_str pa_nil)) (pe_lc (own := [("name", 6)]) (g := gName 6) (tt := tYes) rfl sc__law_limits_right.nd (pi_list (pe_slice sl_list (pv 1) po_none (po_some (pe_op op_add pe_int (pv 2))))) (blkOk_by (N := n__law_limits_right) (sc := defScope s__law_limits_right) (by decide +kernel)) (fun _ _ _ _ _ => (pg_name (i := 6) sc__law_limits_right.nd rfl (by first | exact Or.inl rfl | exact Or.inr rfl))) (fun _ _ _ _ _ => pts_nil) (fun _ _ _ _ _ => (pe_op op_add_str (pe_op op_add_str pe_str (pv 6)) pe_str)))) (pe_lst (pa_cons pe_str pa_nil))))
      (pss_cons (ps_set (i := 10) sc__law_limits_right.nd rfl (by first | exact Or.inl rfl | exact Or.inr rfl) (pe_op op_cat (pe_op op_cat (pe_lst (pa_cons pe_str (pa_cons pe_str (pa_cons pe_str pa_nil)))) (pe_ifExp (pt_cmpR op_eq (pv 2) pe_int (nomark _)) (pe_lst (pa_cons pe_str (pa_cons pe_str (pa_cons pe_str pa_nil)))) (pe_lst (pa_cons pe_str (pa_cons pe_str (pa_cons pe_str pa_nil)))))) (pe_op op_rep (pe_lst (pa_cons pe_str pa_nil)) pe_int)))
      (pss_cons (ps_set (i := 11) sc__law_limits_right.nd rfl (by first | exact Or.inl rfl | exact Or.inr rfl) (pe_lst (pa_cons (pe_op op_add_str pe_str (pe_op op_mulSt pe_str (pe_op op_add pe_int (pv 2)))) (pa_cons (pe_op op_add_str pe_str (pe_op op_mulSt pe_str pe_int)) (pa_cons pe_str pa_nil)))))
      (pss_cons (ps_set (i := 12) sc__law_limits_right.nd rfl (by first | exact Or.inl rfl | exact Or.inr rfl) (pe_lst (pa_cons pe_str (pa_cons pe_str (pa_cons pe_str (pa_cons pe_str (pa_cons pe_str (pa_cons pe_str (pa_cons pe_str (pa_cons pe_str (pa_cons pe_str pa_nil)))))))))))
      (pss_cons (ps_for (passes_of rfl) rfl (pi_list (pe_lst (pa_cons (pv 8) (pa_cons (pv 9) (pa_cons (pv 10) (pa_cons (pv 11) (pa_cons (pv 12) (pa_cons (pe_slice sl_list (pv 8) po_none (po_some (pe_un un_neg pe_int))) (pa_cons (pe_slice sl_list (pv 10) po_none (po_some (pe_un un_neg pe_int))) (pa_cons (pe_op op_cat (pe_ix ix_list (pv 5) pe_int (fun _ _ => rfl)) (pe_ix ix_list (pv 5) pe_int (fun _ _ => rfl))) pa_nil)))))))))) (pg_name (i := 13) sc__law_limits_right.nd rfl (by first | exact Or.inl rfl | exact Or.inr rfl)) (pss_one (ps_if (pt_not (pt_val (pe_k (k__law_text_right T BC XB TB) (hr.mono (by omega)) (passes_call (takes_of rfl rfl rfl rfl) (fun _ _ _ _ h => h)) (pa_cons (pe_join pe_str (pv 13)) pa_nil)))) (pss_one (ps_ret pe_bl)) pss_nil)))
      (pss_one (ps_ret pe_bl)))))))))), ?_⟩
    have sz : sizeLine > 1000000 := by decide
    have hL7 : ("abcdefg" : Str).length = 7 := by decide
    walk_at "go"
    refine lcb_lists (c := 2) (n := ("abcdefg" : Str).length) (k := ("abcdefg" : Str).length) (by decide) (fun H3 _ => still_str _) (fun _ => rfl) (fun i hi => mkn_lcs (d := 2) (by decide) (fun _ => rfl) (fun x H3 R hx s3 k => ?_)) (fun L0 H1 hL0 sL hLL _ => ?_)
    · refine i_op (i_var rfl (i_var rfl ⟨_, _, rfl, rfl, ?_, k _ ?_⟩))
      · rw [hx, one_sign]
        omega
      · rw [strAdd, hx, one_sign]
        omega
    · rw [hL7] at hLL
      walk_at "go"
      refine ⟨by decide, fun e he => ?_⟩
      walk_at "go"
      have sE := sameNew (o := .lst []) he
      have hLs : ∃ o, H1 L0 = some o := by
        obtain ⟨bs, h1, _⟩ := hLL
        exact ⟨_, h1⟩
      obtain ⟨oL, hoL⟩ := hLs
      refine rd_sumLL (hLL.same sE) (by decide) upd_same (ne_of_none hoL he).symm (by decide) (fun nm H3 hnm s3 hnames => ?_)
      have s03 := (sL.trans sE).trans s3
      have d3 := hd.same s03
      have T3 := hT.ext s03
      have nla := (hd.same (sL.trans sE)).fresh hnm
      walk_at "go"
      refine ⟨D, 2, rfl, by decide, by decide, d3, fun more H4 hmore s4 => ?_⟩
      have hn4 := hnames.dn s4 nla
      have T4 := s4.tabs T3
      have d4 := s4.drw
      walk_at "go"
      refine ⟨by show 2 ≤ sizeLine; omega, fun t ht => ?_⟩
      refine rd_gtup upd_same rfl ?_
      walk_at "go"
      have s5 := sameNew (o := .tup [.ref nm, .int (more : Nat)]) ht
      refine ⟨by show 5 ≤ sizeLine; omega, fun pb hpb => ?_⟩
      have s6 := sameNew (o := .lst [.int 0, .int 10, .int 20, .int 30, .int 37]) hpb
      have hn6 := (hn4.same s5).same s6
      have T6 := (T4.ext s5).ext s6
      have d6 := (d4.same s5).same s6
      have hb6 := upd_same (H := upd H4 t (.tup [.ref nm, .int (more : Nat)])) (a := pb) (o := .lst [.int 0, .int 10, .int 20, .int 30, .int 37])
      generalize upd (upd H4 t (.tup [.ref nm, .int (more : Nat)])) pb (.lst [.int 0, .int 10, .int 20, .int 30, .int 37]) = H6 at hn6 T6 d6 hb6 ⊢
      refine ⟨pb, rfl, ⟨_, SqL.of hb6⟩, ?_⟩
      refine lcb_lists (c := 7) (n := 49) (k := 5) (J := Itl K pb) (it := fun i => ([.int 0, .int 10, .int 20, .int 30, .int 37] : List V).getD i .non) (by decide) (fun H3 s3 => still_lst (SqL.of (s3 _ _ hb6))) (fun _ => rfl) (fun i hi => ?_) (fun rw_ H7 hrw s7 hrows _ => ?_)
      · obtain ⟨v, hv⟩ : ∃ v : Int, ([.int 0, .int 10, .int 20, .int 30, .int 37] : List V).getD i .non = .int v := by
          match i, hi with
          | 0, _ => exact ⟨_, rfl⟩
          | 1, _ => exact ⟨_, rfl⟩
          | 2, _ => exact ⟨_, rfl⟩
          | 3, _ => exact ⟨_, rfl⟩
          | 4, _ => exact ⟨_, rfl⟩
        show MkN 7 _ ((wipe _ _).set 7 (some (([.int 0, .int 10, .int 20, .int 30, .int 37] : List V).getD i .non))) H6 49
        rw [hv]
        refine mkn_lc (c := 2) (d := 7) (mkt_sl (mkt_var rfl hn6) (to_int fun H1 R s h => i_var rfl (h _)) (to_int fun H1 R s h => i_op (i_var rfl (i_c (i_I0 (h _)))))) (by decide) (fun _ => rfl) (fun x H3 R hx s3 k => ?_)
        exact el_do rfl hx (by decide) k
      · have hn7 := hn6.same s7
        have T7 := T6.ext s7
        have d7 := d6.same s7
        refine i_name ?_
        have row : ∀ {H' : Hp} {σ' : L2.St} {j : Nat}, σ'[5]? = some (some (.ref rw_)) → Same H7 H' → j < 5 → MkT 20 (tOp (rIxL K) (tVar 5) (tC (.int (j : Nat)))) σ' H' 49 := fun e s hj => (mkt_ix e (hrows.same s) hj).mono (Nat.le_refl _) (by decide)
        with_reducible refine i_seq ?_
        with_reducible refine i_asg ?_
        refine (mkt_cat (mkt_cat (mkt_cat (mkt_cat (mkt_cat (mkt_cat (mkt_cat (mkt_cat (mkt_cat (mkt_cat (mkt_disp ["if xa"] (by decide) (by decide)) (row (j := 0) rfl (Same.refl _) (by decide)) (by decide)) (mkt_disp ["else"] (by decide) (by decide)) (by decide)) (row (j := 1) rfl (Same.refl _) (by decide)) (by decide)) (mkt_disp ["end"] (by decide) (by decide)) (by decide)) (mkt_disp ["while xb p"] (by decide) (by decide)) (by decide)) (row (j := 2) rfl (Same.refl _) (by decide)) (by decide)) (mkt_disp ["end", "if xc"] (by decide) (by decide)) (by decide)) (mkt_sl (row (j := 3) rfl (Same.refl _) (by decide)) to_none (to_int fun H1 R s h => i_c (h _))) (by decide)) (mkt_sl (row (j := 4) rfl (Same.refl _) (by decide)) to_none (to_int fun H1 R s h => i_var rfl (h _))) (by decide)) (mkt_disp ["end"] (by decide) (by decide)) (by decide)) H7 (Same.refl _) _ (fun wh H8 s8 hwh => ?_)
        with_reducible refine i_name ?_
        with_reducible refine i_seq ?_
        with_reducible refine i_asg ?_
        have hn8 := hn7.same s8
        refine (mkt_cat (mkt_cat (mkt_disp ["while xa"] (by decide) (by decide)) (mkn_lc (c := 2) (d := 20) (mkt_sl (mkt_var rfl hn8) to_none (to_int fun H1 R s h => i_op (i_c (i_var rfl (i_I0 (h _)))))) (by decide) (fun _ => rfl) (fun x H3 R hx s3 k => el_do rfl hx (by decide) k)).t (by decide)) (mkt_disp ["end"] (by decide) (by decide)) (by decide)) H8 (Same.refl _) _ (fun wd H9 s9 hwd => ?_)
        with_reducible refine i_name ?_
        with_reducible refine i_seq ?_
        with_reducible refine i_asg ?_
        refine (mkt_cat (c := 20) (mkt_cat (mkt_disp ["if xa", "while xb", "if xc p"] (by decide) (by decide)) (mkt_if (n := 3) (b := decide (((more : Nat) : Int) = 1)) (fun H1 R s h => i_test (i_op (i_var rfl (i_c (i_eqI (i_bl h)))))) (mkt_disp ["while xd", "do xe p", "end"] (by decide) (by decide)) (mkt_disp ["do xd p", "else", "do xe p"] (by decide) (by decide))) (by decide)) (mkt_rep (k := 3) (mkt_disp ["end"] (by decide) (by decide)) (by decide) (by decide)) (by decide)) H9 (Same.refl _) _ (fun dp H10 s10 hdp => ?_)
        with_reducible refine i_name ?_
        walk_at "go"
        have q1 : (" q" : Str).length = 2 := by decide
        have q2 : ("do fa p" : Str).length = 7 := by decide
        have q3 : ("if ta" : Str).length = 5 := by decide
        rw [show (3 : Int) + (more : Nat) = ((3 + more : Nat) : Int) by omega]
        refine ⟨_, 3 + more, rfl, rfl, by omega, by omega, by omega, by omega, fun w1 hw1 => ⟨_, _, rfl, rfl, by rw [hw1, q1, q2]; omega, ?_⟩⟩
        walk_at "go"
        refine ⟨_, 3, rfl, rfl, by omega, by omega, by omega, by omega, fun w2 hw2 => ⟨_, _, rfl, rfl, by rw [hw2, q1, q3]; omega, ?_⟩⟩
        walk_at "go"
        refine ⟨by show 3 ≤ sizeLine; omega, fun pa hpa => ?_⟩
        have s11 := sameNew (o := .lst [.str ("do fa p" ++ w1), .str ("if ta" ++ w2), .str "end"]) hpa
        have hpaL : LT 20 (upd H10 pa (.lst [.str ("do fa p" ++ w1), .str ("if ta" ++ w2), .str "end"])) pa 3 := ⟨["do fa p" ++ w1, "if ta" ++ w2, "end"], upd_same, Nat.le_refl _, fun f hf => by
          simp only [List.mem_cons, List.not_mem_nil, or_false] at hf
          rcases hf with rfl | rfl | rfl
          · rw [strAdd, hw1, q1, q2]; omega
          · rw [strAdd, hw2, q1, q3]; omega
          · decide⟩
        generalize upd H10 pa (.lst [.str ("do fa p" ++ w1), .str ("if ta" ++ w2), .str "end"]) = H11 at s11 hpaL ⊢
        with_reducible refine i_name ?_
        with_reducible refine i_seq ?_
        with_reducible refine i_asg ?_
        refine mkt_disp (c := 20) ["if xa", "while xb", "if xc", "if xd", "else", "end", "end", "end", "end"] (by decide) (by decide) H11 (Same.refl _) _ (fun pl H12 s12 hpl => ?_)
        walk_at "go"
        have sA : Same H9 H12 := (s10.trans s11).trans s12
        have sB : Same H8 H12 := s9.trans sA
        have sC : Same H7 H12 := s8.trans sB
        refine rd_slLT (hwh.same sB) (fun p1 H13 s13 hp1 => ?_)
        walk_at "go"
        refine rd_slLT (hdp.same ((s11.trans s12).trans s13)) (fun p2 H14 s14 hp2 => ?_)
        with_reducible refine i_cons ?_
        refine mkt_cat (row (j := 0) rfl ((sC.trans s13).trans s14) (by decide)) (row (j := 1) rfl ((sC.trans s13).trans s14) (by decide)) (by decide) H14 (Same.refl _) _ (fun p3 H15 s15 hp3 => ?_)
        walk_at "go"
        refine ⟨by show 8 ≤ sizeLine; omega, fun L hL => ?_⟩
        have s16 := sameNew (o := .lst [.ref wh, .ref wd, .ref dp, .ref pa, .ref pl, .ref p1, .ref p2, .ref p3]) hL
        have sD : Same H12 (upd H15 L (.lst [.ref wh, .ref wd, .ref dp, .ref pa, .ref pl, .ref p1, .ref p2, .ref p3])) := ((s13.trans s14).trans s15).trans s16
        have hLL16 := upd_same (H := H15) (a := L) (o := .lst [.ref wh, .ref wd, .ref dp, .ref pa, .ref pl, .ref p1, .ref p2, .ref p3])
        have hall : ∀ x ∈ ([.ref wh, .ref wd, .ref dp, .ref pa, .ref pl, .ref p1, .ref p2, .ref p3] : List V), ∃ a, x = .ref a ∧ LT 20 (upd H15 L (.lst [.ref wh, .ref wd, .ref dp, .ref pa, .ref pl, .ref p1, .ref p2, .ref p3])) a 380 := fun x hx => by
          simp only [List.mem_cons, List.not_mem_nil, or_false] at hx
          rcases hx with rfl | rfl | rfl | rfl | rfl | rfl | rfl | rfl
          · exact ⟨_, rfl, (hwh.same (sB.trans sD)).mono (by decide) (by decide)⟩
          · exact ⟨_, rfl, (hwd.same (sA.trans sD)).mono (by decide) (by decide)⟩
          · exact ⟨_, rfl, (hdp.same ((s11.trans s12).trans sD)).mono (by decide) (by decide)⟩
          · exact ⟨_, rfl, (hpaL.same (s12.trans sD)).mono (by decide) (by decide)⟩
          · exact ⟨_, rfl, (hpl.same sD).mono (by decide) (by decide)⟩
          · exact ⟨_, rfl, (hp1.same ((s14.trans s15).trans s16)).mono (by decide) (by decide)⟩
          · exact ⟨_, rfl, (hp2.same (s15.trans s16)).mono (by decide) (by decide)⟩
          · exact ⟨_, rfl, (hp3.same s16).mono (by decide) (by decide)⟩
        have T16 := T7.ext (sC.trans sD)
        have d16 := d7.same (sC.trans sD)
        generalize upd H15 L (.lst [.ref wh, .ref wd, .ref dp, .ref pa, .ref pl, .ref p1, .ref p2, .ref p3]) = H16 at hLL16 hall T16 d16 ⊢
        refine ⟨L, rfl, ⟨_, SqL.of hLL16⟩, ?_⟩
        refine forb_lst (K := K) (fun i σ H' => ∃ y, σ = [some (.ref D.d), some (.ref nm), some (.int (more : Nat)), none, none, some (.ref rw_), none, none, some (.ref wh), some (.ref wd), some (.ref dp), some (.ref pa), some (.ref pl), y] ∧ Drw D H' ∧ LamX.Tabs (Ts K) H' ∧ H' L = some (.lst [.ref wh, .ref wd, .ref dp, .ref pa, .ref pl, .ref p1, .ref p2, .ref p3]) ∧ ∀ x ∈ ([.ref wh, .ref wd, .ref dp, .ref pa, .ref pl, .ref p1, .ref p2, .ref p3] : List V), ∃ a, x = .ref a ∧ LT 20 H' a 380) ⟨_, rfl, d16, T16, hLL16, hall⟩ (fun i σ Hi _ h => by obtain ⟨y, _, _, _, h4, _⟩ := h; exact h4) (fun i x σ Hi hx h => ?_) (fun σ Hi h => ?_)
        · obtain ⟨y, rfl, di, Ti, hli, hai⟩ := h
          obtain ⟨a, rfl, ha⟩ := hai x (List.mem_of_getElem? hx)
          obtain ⟨fs, hf, hb1, hb2, hb3⟩ := lt_join ha (by decide)
          walk_at "go"
          refine ⟨_, a, _, rfl, rfl, .inl (SqL.of hf), hb3, ?_⟩
          walk_at "go"
          refine ⟨_, rfl, hb1, hb2, Ti, fun Hb eb Tb => ?_⟩
          walk_at "go"
          exact ⟨_, rfl, drw_ext di eb, Tb, eb _ _ hli (fun ps z => by cases z), fun x hx => by
            obtain ⟨a, e, h⟩ := hai x hx
            exact ⟨a, e, h.ext eb⟩⟩
        · obtain ⟨y, rfl, di, Ti, hli, hai⟩ := h
          walk_at "go"
          exact q Hi di Ti
end
end MH
end
section
set_option Elab.async false
set_option linter.all false
set_option maxRecDepth 100000
set_option maxHeartbeats 16000000
set_option pp.maxSteps 2500
namespace MH
open PySem PySem.Spec PyProof.Rows L2
local macro_rules | `(tactic| walk_at "go") => `(tactic| repeat (first
  | with_reducible refine i_seq ?_ | with_reducible refine i_ifS ?_ | with_reducible refine i_ret ?_ | with_reducible refine i_drop ?_ | with_reducible refine i_asg ?_ | with_reducible refine i_name ?_
  | with_reducible refine i_next ?_ | with_reducible refine i_var (by with_unfolding_all exact rfl) ?_ | with_reducible refine i_c ?_ | with_reducible refine i_cons ?_ | with_reducible refine i_nil ?_ | with_reducible refine i_cb ?_
  | with_reducible refine i_op ?_ | with_reducible refine i_un ?_ | with_reducible refine i_call ?_ | with_reducible refine i_test ?_ | with_reducible refine i_b ?_ | with_reducible refine i_bl ?_ | with_reducible refine i_and ?_ | with_reducible refine i_or ?_
  | with_reducible refine i_not ?_ | with_reducible refine i_andV ?_ | with_reducible refine i_orV ?_ | with_reducible refine i_notV ?_ | with_reducible refine i_if ?_ | with_reducible refine i_chain ?_ | with_reducible refine i_tup ?_ | with_reducible refine i_lst ?_
  | with_reducible refine i_sl ?_ | with_reducible refine i_part ?_ | with_reducible refine i_nopart ?_ | with_reducible refine i_int ?_ | with_reducible refine i_bm ?_ | with_reducible refine i_bm0 ?_ | with_reducible refine i_I0 ?_ | with_reducible refine i_lc ?_ | with_reducible refine i_disp ?_ | with_reducible refine i_pairsC ?_ | with_reducible refine i_pairsN ?_ | with_reducible refine i_dget2 ?_ | with_reducible refine i_gsub ?_ | with_reducible refine i_raiseB ?_ | with_reducible refine i_make ?_ | with_reducible refine i_gcons ?_ | with_reducible refine i_gnil ?_ | with_reducible refine i_enum ?_ | with_reducible refine i_isN ?_ | with_reducible refine i_notN ?_ | with_reducible refine i_fld ?_ | with_reducible refine i_sfld ?_ | with_reducible refine i_meth ?_ | with_reducible refine i_rU ?_ | with_reducible refine i_dputN ?_ | with_reducible refine i_dput ?_ | with_reducible refine i_dget ?_ | with_reducible refine i_rng1 ?_ | with_reducible refine i_dinP ?_ | with_reducible refine i_raiseA ?_ | with_reducible refine i_lenSetS ?_ | with_reducible refine i_for ?_ | with_reducible refine i_yes ?_ | with_reducible refine i_eqS ?_ | with_reducible refine i_neS ?_ | with_reducible refine i_eqI ?_ | with_reducible refine i_neI ?_
  | with_reducible refine i_retN ?_ | with_reducible refine i_brk ?_ | with_reducible refine i_cont ?_ | with_reducible refine i_par ?_ | with_reducible refine i_par3 ?_ | with_reducible refine i_two ?_ | with_reducible refine i_three ?_
  | with_reducible refine i_itup ?_ | with_reducible refine i_ilist ?_ | with_reducible refine i_istr ?_ | with_reducible refine i_str ?_ | with_reducible refine i_m1 ?_ | with_reducible refine i_anystr ?_
  | with_reducible refine iteT ?_ | with_reducible refine iteF ?_))
theorem rd_catLT {H : Hp} {a b : Addr} {n m c : Nat} {Q : VK} (ha : LT c H a n) (hb : LT c H b m) (hz : n + m ≤ 1000) (q : ∀ p H', Same H H' → LT c H' p (n + m) → Q (.ref p) H') : rCat (.ref a) (.ref b) H Q := by
  obtain ⟨fs, h1, h2, h3⟩ := ha
  obtain ⟨gs, k1, k2, k3⟩ := hb
  have := sizeBig
  refine rd_cat h1 k1 (by rw [List.length_map, List.length_map]; omega) fun r hr => q r _ (sameNew hr) ⟨fs ++ gs, by rw [upd_same, List.map_append], by rw [List.length_append]; omega, fun f hf => ?_⟩
  rcases List.mem_append.mp hf with hf | hf
  · exact h3 f hf
  · exact k3 f hf
section
variable {P : Program} {w : World} {K : Fg} {mg : Str → Option Value} {base : Heap}
theorem k__law_late_else_right (T : Tx K mg) (BC : BadC P K) (XB : XcC K (cB K)) (TB : TbF K mg base) : Keeps P w K mg base (L2.CX P w) 16 "_law_late_else_right" ["draw"] (spPart (K := K)) := T.kp__law_late_else_right fun fd F => by
  refine F.ok sc__law_late_else_right (fun vs H Q E h => ?_) (fun cdv A outer s H vs Q E hr h => ?_)
  · obtain ⟨D, rfl, _⟩ := h
    rfl
  · obtain ⟨D, rfl, hd, hT, q⟩ := h
    refine ⟨_, (pss_cons (ps_set (i := 1) sc__law_late_else_right.nd rfl (by first | exact Or.inl rfl | exact Or.inr rfl) (pe_callB (cr_sumL rfl) (by rfl) T.b_sum (by decide +kernel) (pa_cons (pe_lc (own := [("first", 3)]) (g := gName 3) (tt := tYes) rfl sc__law_late_else_right.nd (pi_str pe_str) (blkOk_by (N := n__law_late_else_right) (sc := defScope s__law_late_else_right) (by decide +kernel)) (fun _ _ _ _ _ => (pg_name (i := 3) sc__law_late_else_right.nd rfl (by first | exact Or.inl rfl | exact Or.inr rfl))) (fun _ _ _ _ _ => pts_nil) (fun _ _ _ _ _ => (by exact (pe_lc (own := [("last", 2)]) (g := gName 2) (tt := tYes) rfl sc__law_late_else_right.nd (pi_str pe_str) (by exact blkOk_by (N := n__law_late_else_right) (sc := scF) (scope := scLs) (own := [("last", 2)]) (by decide +kernel)) (fun _ _ _ _ _ => (pg_name (i := 2) sc__law_late_else_right.nd rfl (by first | exact Or.inl rfl | exact Or.inr rfl))) (fun _ _ _ _ _ => pts_nil) (fun _ _ _ _ _ => (pe_op op_add_str (pe_op op_add_str (pe_op op_add_str pe_str (pv 3)) (pv 2)) pe_str)))))) (pa_cons (pe_lst pa_nil) pa_nil))))
      (pss_cons (ps_par (i := 4) (j := 5) (by rfl) sc__law_late_else_right.nd rfl rfl (by decide) rfl rfl (pa_cons (pe_k (k__law_pick T) (hr.mono (by omega)) pass0 (pa_cons (pv 0) (pa_cons (pe_lst (pa_cons pe_int (pa_cons pe_int (pa_cons pe_int (pa_cons pe_int pa_nil))))) pa_nil))) (pa_cons (pe_k (k__law_take T) (hr.mono (by omega)) pass0 (pa_cons (pv 0) (pa_cons pe_int pa_nil))) pa_nil)) (by rfl))
      (pss_cons (ps_set (i := 6) sc__law_late_else_right.nd rfl (by first | exact Or.inl rfl | exact Or.inr rfl) (pe_op op_cat (pe_op op_cat (pe_op op_cat (pe_op op_cat (pe_lst (pa_cons pe_str pa_nil)) (pe_slice sl_list (pv 1) po_none (po_some pe_int))) (pe_lst (pa_cons pe_str (pa_cons pe_str pa_nil)))) (pe_slice sl_list (pv 1) (po_some pe_int) (po_some pe_int))) (pe_lst (pa_cons pe_str pa_nil))))
      (pss_cons (ps_set (i := 7) sc__law_late_else_right.nd rfl (by first | exact Or.inl rfl | exact Or.inr rfl) (pe_op op_sub (pv 4) pe_int))
      (pss_cons (ps_if (pt_cmpR op_eq (pv 5) pe_int (nomark _)) (pss_one (ps_set (i := 6) sc__law_late_else_right.nd rfl (by first | exact Or.inl rfl | exact Or.inr rfl) (pe_op op_cat (pe_op op_cat (pe_op op_cat (pv 6) (pe_slice sl_list (pv 1) (po_some pe_int) (po_some (pe_op op_sub (pe_op op_add pe_int (pv 7)) (pe_callB (call_min2 rfl) (by rfl) T.b_min (by decide +kernel) (pa_cons (pv 7) (pa_cons pe_int pa_nil))))))) (pe_lst (pa_cons pe_str pa_nil))) (pe_slice sl_list (pv 1) (po_some pe_int) (po_some (pe_op op_add pe_int (pe_callB (call_min2 rfl) (by rfl) T.b_min (by decide +kernel) (pa_cons (pv 7) (pa_cons pe_int pa_nil))))))))) (pss_one (ps_set (i := 6) sc__law_late_else_right.nd rfl (by first | exact Or.inl rfl | exact Or.inr rfl) (pe_op op_cat (pv 6) (pe_ifExp (pt_cmpR op_eq (pv 5) pe_int (nomark _)) (pe_op op_cat (pe_op op_cat (pe_lst (pa_cons pe_str pa_nil)) (pe_slice sl_list (pv 1) (po_some pe_int) (po_some (pe_op op_add pe_int (pv 7))))) (pe_lst (pa_cons pe_str (pa_cons pe_str pa_nil)))) (pe_op op_cat (pe_op op_cat (pe_lst (pa_cons pe_str (pa_cons pe_str pa_nil))) (pe_slice sl_list (pv 1) (po_some pe_int) (po_some (pe_op op_add pe_int (pv 7))))) (pe_lst (pa_cons pe_str pa_nil))))))))
      (pss_cons (ps_for (passes_of rfl) rfl (pi_list (pe_lst (pa_cons (pe_lst (pa_cons pe_str pa_nil)) (pa_cons (pe_lst (pa_cons pe_str (pa_cons pe_str pa_nil))) (pa_cons (pe_lst (pa_cons pe_str (pa_cons pe_str pa_nil))) (pa_cons (pe_lst (pa_cons pe_str (pa_cons pe_str (pa_cons pe_str pa_nil)))) (pa_cons (pe_lst (pa_cons pe_str (pa_cons pe_str (pa_cons pe_str pa_nil)))) pa_nil))))))) (pg_name (i := 8) sc__law_late_else_right.nd rfl (by first | exact Or.inl rfl | exact Or.inr rfl)) (pss_one (ps_if (pt_not (pt_val (pe_k (k__law_text_right T BC XB TB) (hr.mono (by omega)) (passes_call (takes_of rfl rfl rfl rfl) (fun _ _ _ _ h => h)) (pa_cons (pe_join pe_str (pe_op op_cat (pv 6) (pv 8))) pa_nil)))) (pss_one (ps_ret pe_bl)) pss_nil)))
      (pss_one (ps_ret pe_bl)))))))), ?_⟩
    have sz : sizeLine > 1000000 := by decide
    have hL7 : ("abcdefg" : Str).length = 7 := by decide
    walk_at "go"
    refine lcb_lists (c := 7) (n := ("abcdefg" : Str).length) (k := ("abcdefg" : Str).length) (by decide) (fun H3 _ => still_str _) (fun _ => rfl) (fun i hi => mkn_lcs (d := 7) (by decide) (fun _ => rfl) (fun x H3 R hx s3 k => ?_)) (fun L0 H1 hL0 sL hLL _ => ?_)
    · have h1 : ("do " : Str).length = 3 := by decide
      have h2 : (" p" : Str).length = 2 := by decide
      refine i_op (i_op (i_op (i_c (i_var rfl ⟨_, _, rfl, rfl, ?_, i_var rfl ⟨_, _, rfl, rfl, ?_, i_c ⟨_, _, rfl, rfl, ?_, k _ ?_⟩⟩⟩))))
      · rw [one_sign]
        omega
      · rw [strAdd, one_sign]
        omega
      · rw [strAdd, strAdd, one_sign]
        omega
      · rw [strAdd, strAdd, strAdd, one_sign]
        omega
    · rw [hL7] at hLL
      walk_at "go"
      refine ⟨by decide, fun e he => ?_⟩
      walk_at "go"
      have sE := sameNew (o := .lst []) he
      have hLs : ∃ o, H1 L0 = some o := by
        obtain ⟨bs, h1, _⟩ := hLL
        exact ⟨_, h1⟩
      obtain ⟨oL, hoL⟩ := hLs
      refine rd_sumLL (hLL.same sE) (by decide) upd_same (ne_of_none hoL he).symm (by decide) (fun nm H3 hnm s3 hnames => ?_)
      have s03 := (sL.trans sE).trans s3
      have d3 := hd.same s03
      have T3 := hT.ext s03
      have nla := (hd.same (sL.trans sE)).fresh hnm
      walk_at "go"
      refine ⟨by show 4 ≤ sizeLine; omega, fun pm hpm => ?_⟩
      have s4 := sameNew (o := .lst [.int 38, .int 39, .int 40, .int 40]) hpm
      walk_at "go"
      refine ⟨D, pm, [.int 38, .int 39, .int 40, .int 40], rfl, upd_same, by simp, by show 4 < 1000000; decide, d3.fresh hpm, d3.same s4, fun mv H5 hmv s5 => ?_⟩
      obtain ⟨m, rfl⟩ : ∃ m : Int, mv = .int m := by
        simp only [List.mem_cons, List.not_mem_nil, or_false] at hmv
        rcases hmv with rfl | rfl | rfl | rfl <;> exact ⟨_, rfl⟩
      have hn5 := (hnames.same s4).dn s5 nla
      have T5 := s5.tabs (T3.ext s4)
      walk_at "go"
      refine ⟨D, 3, rfl, by decide, by decide, s5.drw, fun st H6 hst s6 => ?_⟩
      have hn6 := hn5.dn s6 nla
      have T6 := s6.tabs T5
      have d6 := s6.drw
      with_reducible refine i_nil ?_
      with_reducible refine i_two ?_
      with_reducible refine i_seq ?_
      with_reducible refine i_asg ?_
      refine (mkt_cat (c := 20) (mkt_cat (mkt_cat (mkt_cat (mkt_disp ["while xa"] (by decide) (by decide)) (mkt_sl ((mkt_var rfl hn6).mono (Nat.le_refl _) (by decide)) to_none (to_int fun H1 R s h => i_c (h _))) (by decide)) (mkt_disp ["end", "while xb p"] (by decide) (by decide)) (by decide)) (mkt_sl ((mkt_var rfl hn6).mono (Nat.le_refl _) (by decide)) (to_int fun H1 R s h => i_c (h _)) (to_int fun H1 R s h => i_c (h _))) (by decide)) (mkt_disp ["end"] (by decide) (by decide)) (by decide)) H6 (Same.refl _) _ (fun l1 H7 s7 hl1 => ?_)
      have hn7 := hn6.same s7
      have T7 := T6.ext s7
      have d7 := d6.same s7
      with_reducible refine i_name ?_
      with_reducible refine i_seq ?_
      with_reducible refine i_asg ?_
      refine i_op (i_var rfl (i_c (i_I0 ?_)))
      with_reducible refine i_name ?_
      with_reducible refine seq_at (fun σ' H' => ∃ l2, σ' = [some (.ref D.d), some (.ref nm), none, none, some (.int m), some (.int (st : Nat)), some (.ref l2), some (.int (m - 27)), none] ∧ Same H7 H' ∧ LT 20 H' l2 300) (fun N hN => ?_) (fun σ' H8 hc => ?_)
      · walk_at "go"
        refine ifb (fun k1 => ?_) (fun k1 => ?_)
        · with_reducible refine i_asg ?_
          refine (mkt_cat (c := 20) (mkt_cat (mkt_cat (mkt_var rfl hl1) (mkt_sl ((mkt_var rfl hn7).mono (Nat.le_refl _) (by decide)) (to_int fun H1 R s h => i_c (h _)) (to_int fun H1 R s h => i_op (i_op (i_c (i_var rfl (i_I0 (i_cb (i_cons (i_var rfl (i_cons (i_c (i_nil ⟨_, _, rfl, i_I0 (h _)⟩)))))))))))) (by decide)) (mkt_disp ["if xc"] (by decide) (by decide)) (by decide)) (mkt_sl ((mkt_var rfl hn7).mono (Nat.le_refl _) (by decide)) (to_int fun H1 R s h => i_c (h _)) (to_int fun H1 R s h => i_op (i_c (i_cb (i_cons (i_var rfl (i_cons (i_c (i_nil ⟨_, _, rfl, i_I0 (h _)⟩))))))))) (by decide)) H7 (Same.refl _) _ (fun l2 H8 s8 hl2 => ?_)
          with_reducible refine i_name ?_
          exact hN _ _ ⟨l2, rfl, s8, hl2.mono (by decide) (Nat.le_refl _)⟩
        · with_reducible refine i_asg ?_
          refine (mkt_cat (c := 20) (mkt_var rfl hl1) (mkt_if (n := 52) (b := decide (((st : Nat) : Int) = 1)) (fun H1 R s h => i_test (i_op (i_var rfl (i_c (i_eqI (i_bl h))))))
            (mkt_cat (mkt_cat (mkt_disp ["while xd"] (by decide) (by decide)) (mkt_sl ((mkt_var rfl hn7).mono (Nat.le_refl _) (by decide)) (to_int fun H1 R s h => i_c (h _)) (to_int fun H1 R s h => i_op (i_c (i_var rfl (i_I0 (h _)))))) (by decide)) (mkt_disp ["end", "if xc"] (by decide) (by decide)) (by decide))
            (mkt_cat (mkt_cat (mkt_disp ["if xc", "while xd"] (by decide) (by decide)) (mkt_sl ((mkt_var rfl hn7).mono (Nat.le_refl _) (by decide)) (to_int fun H1 R s h => i_c (h _)) (to_int fun H1 R s h => i_op (i_c (i_var rfl (i_I0 (h _)))))) (by decide)) (mkt_disp ["end"] (by decide) (by decide)) (by decide))) (by decide)) H7 (Same.refl _) _ (fun l2 H8 s8 hl2 => ?_)
          with_reducible refine i_name ?_
          exact hN _ _ ⟨l2, rfl, s8, hl2.mono (by decide) (Nat.le_refl _)⟩
      · obtain ⟨l2, rfl, s8, hl2⟩ := hc
        have T8 := T7.ext s8
        have d8 := d7.same s8
        with_reducible refine i_seq ?_
        with_reducible refine i_for ?_
        with_reducible refine i_ilist ?_
        with_reducible refine i_lst ?_
        with_reducible refine i_cons ?_
        refine mkt_disp (c := 20) ["else"] (by decide) (by decide) H8 (Same.refl _) _ (fun p1 H9 s9 h1 => ?_)
        with_reducible refine i_cons ?_
        refine mkt_disp (c := 20) ["else", "end"] (by decide) (by decide) H9 (Same.refl _) _ (fun p2 H10 s10 h2 => ?_)
        with_reducible refine i_cons ?_
        refine mkt_disp (c := 20) ["else", "do zz p"] (by decide) (by decide) H10 (Same.refl _) _ (fun p3 H11 s11 h3 => ?_)
        with_reducible refine i_cons ?_
        refine mkt_disp (c := 20) ["else", "do zz p", "else"] (by decide) (by decide) H11 (Same.refl _) _ (fun p4 H12 s12 h4 => ?_)
        with_reducible refine i_cons ?_
        refine mkt_disp (c := 20) ["else", "do zz p", "end"] (by decide) (by decide) H12 (Same.refl _) _ (fun p5 H13 s13 h5 => ?_)
        with_reducible refine i_nil ?_
        refine ⟨by show 5 ≤ sizeLine; omega, fun L hL => ?_⟩
        have s14 := sameNew (o := .lst [.ref p1, .ref p2, .ref p3, .ref p4, .ref p5]) hL
        have hLL := upd_same (H := H13) (a := L) (o := .lst [.ref p1, .ref p2, .ref p3, .ref p4, .ref p5])
        have s9' := (((s10.trans s11).trans s12).trans s13).trans s14
        have hall : ∀ x ∈ ([.ref p1, .ref p2, .ref p3, .ref p4, .ref p5] : List V), ∃ a, x = .ref a ∧ LT 20 (upd H13 L (.lst [.ref p1, .ref p2, .ref p3, .ref p4, .ref p5])) a 3 := fun x hx => by
          simp only [List.mem_cons, List.not_mem_nil, or_false] at hx
          rcases hx with rfl | rfl | rfl | rfl | rfl
          · exact ⟨_, rfl, (h1.same s9').mono (by decide) (by decide)⟩
          · exact ⟨_, rfl, (h2.same (((s11.trans s12).trans s13).trans s14)).mono (by decide) (by decide)⟩
          · exact ⟨_, rfl, (h3.same ((s12.trans s13).trans s14)).mono (by decide) (by decide)⟩
          · exact ⟨_, rfl, (h4.same (s13.trans s14)).mono (by decide) (by decide)⟩
          · exact ⟨_, rfl, (h5.same s14).mono (by decide) (by decide)⟩
        have T14 := T8.ext (s9.trans s9')
        have d14 := d8.same (s9.trans s9')
        have hl14 := hl2.same (s9.trans s9')
        generalize upd H13 L (.lst [.ref p1, .ref p2, .ref p3, .ref p4, .ref p5]) = H14 at hLL hall T14 d14 hl14 ⊢
        refine ⟨L, rfl, ⟨_, SqL.of hLL⟩, ?_⟩
        refine forb_lst (K := K) (fun i σ H' => ∃ y, σ = [some (.ref D.d), some (.ref nm), none, none, some (.int m), some (.int (st : Nat)), some (.ref l2), some (.int (m - 27)), y] ∧ Drw D H' ∧ LamX.Tabs (Ts K) H' ∧ H' L = some (.lst [.ref p1, .ref p2, .ref p3, .ref p4, .ref p5]) ∧ LT 20 H' l2 300 ∧ ∀ x ∈ ([.ref p1, .ref p2, .ref p3, .ref p4, .ref p5] : List V), ∃ a, x = .ref a ∧ LT 20 H' a 3) ⟨_, rfl, d14, T14, hLL, hl14, hall⟩ (fun i σ Hi _ h => by obtain ⟨y, _, _, _, h4, _⟩ := h; exact h4) (fun i x σ Hi hx h => ?_) (fun σ Hi h => ?_)
        · obtain ⟨y, rfl, di, Ti, hli, hl2i, hai⟩ := h
          obtain ⟨a, rfl, ha⟩ := hai x (List.mem_of_getElem? hx)
          walk_at "go"
          refine rd_catLT hl2i ha (by decide) (fun p Hp sp hp => ?_)
          obtain ⟨fs, hf, hb1, hb2, hb3⟩ := lt_join hp (by decide)
          refine ⟨_, p, _, rfl, rfl, .inl (SqL.of hf), hb3, ?_⟩
          walk_at "go"
          refine ⟨_, rfl, hb1, hb2, Ti.ext sp, fun Hb eb Tb => ?_⟩
          walk_at "go"
          have eb := (LamX.ExtN.of sp).trans eb
          exact ⟨_, rfl, drw_ext di eb, Tb, eb _ _ hli (fun ps z => by cases z), hl2i.ext eb, fun x hx => by
            obtain ⟨a, e, h⟩ := hai x hx
            exact ⟨a, e, h.ext eb⟩⟩
        · obtain ⟨y, rfl, di, Ti, hli, hl2i, hai⟩ := h
          walk_at "go"
          exact q Hi di Ti
end
end MH
end
section
set_option Elab.async false
set_option linter.all false
set_option maxRecDepth 100000
set_option maxHeartbeats 16000000
set_option pp.maxSteps 2500
namespace MH
open PySem PySem.Spec PyProof.Rows L2
local macro_rules | `(tactic| walk_at "go") => `(tactic| repeat (first
  | with_reducible refine i_seq ?_ | with_reducible refine i_ifS ?_ | with_reducible refine i_ret ?_ | with_reducible refine i_drop ?_ | with_reducible refine i_asg ?_ | with_reducible refine i_name ?_
  | with_reducible refine i_next ?_ | with_reducible refine i_var (by with_unfolding_all exact rfl) ?_ | with_reducible refine i_c ?_ | with_reducible refine i_cons ?_ | with_reducible refine i_nil ?_ | with_reducible refine i_cb ?_
  | with_reducible refine i_op ?_ | with_reducible refine i_un ?_ | with_reducible refine i_call ?_ | with_reducible refine i_test ?_ | with_reducible refine i_b ?_ | with_reducible refine i_bl ?_ | with_reducible refine i_and ?_ | with_reducible refine i_or ?_
  | with_reducible refine i_not ?_ | with_reducible refine i_andV ?_ | with_reducible refine i_orV ?_ | with_reducible refine i_notV ?_ | with_reducible refine i_if ?_ | with_reducible refine i_chain ?_ | with_reducible refine i_tup ?_ | with_reducible refine i_lst ?_
  | with_reducible refine i_sl ?_ | with_reducible refine i_part ?_ | with_reducible refine i_nopart ?_ | with_reducible refine i_int ?_ | with_reducible refine i_bm ?_ | with_reducible refine i_bm0 ?_ | with_reducible refine i_I0 ?_ | with_reducible refine i_lc ?_ | with_reducible refine i_disp ?_ | with_reducible refine i_pairsC ?_ | with_reducible refine i_pairsN ?_ | with_reducible refine i_dget2 ?_ | with_reducible refine i_gsub ?_ | with_reducible refine i_raiseB ?_ | with_reducible refine i_make ?_ | with_reducible refine i_gcons ?_ | with_reducible refine i_gnil ?_ | with_reducible refine i_enum ?_ | with_reducible refine i_isN ?_ | with_reducible refine i_notN ?_ | with_reducible refine i_fld ?_ | with_reducible refine i_sfld ?_ | with_reducible refine i_meth ?_ | with_reducible refine i_rU ?_ | with_reducible refine i_dputN ?_ | with_reducible refine i_dput ?_ | with_reducible refine i_dget ?_ | with_reducible refine i_rng1 ?_ | with_reducible refine i_dinP ?_ | with_reducible refine i_raiseA ?_ | with_reducible refine i_lenSetS ?_ | with_reducible refine i_for ?_ | with_reducible refine i_yes ?_ | with_reducible refine i_eqS ?_ | with_reducible refine i_neS ?_ | with_reducible refine i_eqI ?_ | with_reducible refine i_neI ?_
  | with_reducible refine i_retN ?_ | with_reducible refine i_brk ?_ | with_reducible refine i_cont ?_ | with_reducible refine i_par ?_ | with_reducible refine i_par3 ?_ | with_reducible refine i_two ?_ | with_reducible refine i_three ?_
  | with_reducible refine i_itup ?_ | with_reducible refine i_ilist ?_ | with_reducible refine i_istr ?_ | with_reducible refine i_str ?_ | with_reducible refine i_m1 ?_ | with_reducible refine i_anystr ?_
  | with_reducible refine iteT ?_ | with_reducible refine iteF ?_))
/-! ### data made -/
def MkD (K : Fg) (te : TE) (σ : L2.St) (H : Hp) (d : PyData) : Prop := ∀ H1, Same H H1 → ∀ Q : VK, (∀ v H', Same H1 H' → Dt K H' v d → Q v H') → te σ H1 Q
def MkDs (K : Fg) (ta : TA) (σ : L2.St) (H : Hp) (ds : List PyData) : Prop := ∀ H1, Same H H1 → ∀ Q : List V → Hp → Prop, (∀ vs H', Same H1 H' → DtAll K H' vs ds → Q vs H') → ta σ H1 Q
section
variable {K : Fg} {te : TE} {ta : TA} {σ : L2.St} {H : Hp} {d : PyData} {ds : List PyData}
theorem mkd_str (x : Str) (hx : x.length ≤ 1000) : MkD K (tC (.str x)) σ H (.str x) := fun H1 _ Q q => i_c (q _ H1 (Same.refl _) (.str x (by have := sizeBig; omega)))
theorem mkd_non : MkD K (tC .non) σ H .none := fun H1 _ Q q => i_c (q _ H1 (Same.refl _) .non)
theorem mkd_int (i : Int) : MkD K (tC (.int i)) σ H (.int i) := fun H1 _ Q q => i_c (q _ H1 (Same.refl _) (.int i))
theorem mkd_bl (b : Bool) : MkD K (tC (.bl b)) σ H (.bool b) := fun H1 _ Q q => i_c (q _ H1 (Same.refl _) (.bl b))
theorem mkd_var {i : Nat} {v : V} (e : σ[i]? = some (some v)) (h : Dt K H v d) : MkD K (tVar i) σ H d := fun H1 s1 Q q => i_var e (q _ H1 (Same.refl _) (h.same s1))
theorem mkds_nil : MkDs K tNil σ H [] := fun H1 _ Q q => i_nil (q _ H1 (Same.refl _) .nil)
theorem mkds_cons (h : MkD K te σ H d) (t : MkDs K ta σ H ds) : MkDs K (tCons te ta) σ H (d :: ds) := fun H1 s1 Q q => by
  refine i_cons (h H1 s1 _ fun v H2 s2 hv => t H2 (s1.trans s2) _ fun vs H3 s3 hvs => q _ _ (s2.trans s3) (.cons (hv.same s3) hvs))
theorem mkd_tup (h : MkDs K ta σ H ds) (hn : ds.length ≤ 1000) : MkD K (tTup ta) σ H (.tuple ds) := fun H1 s1 Q q => by
  refine i_tup (h H1 s1 _ fun vs H2 s2 hvs => ⟨by rw [hvs.length]; have := sizeBig; omega, fun p hp => q _ _ (s2.trans (sameNew hp)) (.tup (SqT.of upd_same) (hvs.mono (StT.new hp)))⟩)
theorem mkd_lst (h : MkDs K ta σ H ds) (hn : ds.length ≤ 1000) : MkD K (tLst ta) σ H (.list []) := fun H1 s1 Q q => by
  refine i_lst (h H1 s1 _ fun vs H2 s2 hvs => ⟨by rw [hvs.length]; have := sizeBig; omega, fun p hp => q _ _ (s2.trans (sameNew hp)) (.lst _ upd_same)⟩)
end
def oddD (word : Str) : List PyData := [.none, .tuple [], .tuple [.str "program"], .tuple [.str "program", .list []],
  .tuple [.str "program", .tuple [.tuple [.str "do", .str "f", .str "a", .tuple []], .tuple [.str "do", .str "f", .str "a", .tuple []]]],
  .tuple [.str "program", .tuple [.tuple [.str "do", .str word, .str "a", .tuple []]]]]
theorem odd_no : ∀ x ∈ keptS, (oddD x).all (fun d => !isProgD d) = true := by decide +kernel
theorem odd_ok (x : Str) : ∀ d ∈ oddD x, okL d := by
  intro d hd
  simp only [oddD, List.mem_cons, List.not_mem_nil, or_false] at hd
  rcases hd with rfl | rfl | rfl | rfl | rfl | rfl
  · trivial
  · intro e he; cases he
  · intro e he; simp only [List.mem_cons, List.not_mem_nil, or_false] at he; subst he; exact .inl rfl
  · intro e he
    simp only [List.mem_cons, List.not_mem_nil, or_false] at he
    rcases he with rfl | rfl
    · exact .inl rfl
    · exact .inr rfl
  · intro e he
    simp only [List.mem_cons, List.not_mem_nil, or_false] at he
    rcases he with rfl | rfl
    · exact .inl rfl
    · exact .inl rfl
  · intro e he
    simp only [List.mem_cons, List.not_mem_nil, or_false] at he
    rcases he with rfl | rfl
    · exact .inl rfl
    · exact .inl rfl
section
variable {P : Program} {w : World} {K : Fg} {mg : Str → Option Value} {base : Heap}
theorem kept_facts : ∀ x ∈ keptS, isName x = false ∧ isName (x ++ "x") = decide ((x.length : Int) < 8) ∧ x.length ≤ 8 := by decide +kernel
theorem k__law_odd_right (T : Tx K mg) (BC : BadC P K) (XB : XcC K (cB K)) (XP : XcC K (He.ga K "BadProgram")) (TB : TbF K mg base) : Keeps P w K mg base (L2.CX P w) 18 "_law_odd_right" ["draw"] (spPart (K := K)) := T.kp__law_odd_right fun fd F => by
  refine funD_okC F sc__law_odd_right (fun vs H Q E h => ?_) (fun A outer s H vs Q E hr h => ?_)
  · obtain ⟨D, rfl, _⟩ := h
    rfl
  · obtain ⟨D, rfl, hd, hT, q⟩ := h
    refine ⟨_, (pss_cons (ps_set (i := 1) sc__law_odd_right.nd rfl (by first | exact Or.inl rfl | exact Or.inr rfl) (pe_k (k__law_pick T) (hr.mono (by omega)) pass0 (pa_cons (pv 0) (pa_cons (pe_k0 (k__law_kept_words T) (hr.mono (by omega)) pass0) pa_nil))))
      (pss_cons (ps_if (PW.pt (pw_or (pt_cmpR (op_neP hr.units) (pe_gr T.g_KEPT) (pe_callTy (T := "tuple") (call_tupK (K := K) rfl) (by rfl) T.b_tuple (by decide +kernel) (pa_cons (pe_k0 (k__law_kept_words T) (hr.mono (by omega)) pass0) pa_nil)) (nomark _)) (pw_or (pt_cmpR op_notBl (pe_k (k_is_name T) (hr.mono (by omega)) pass0 (pa_cons (pv 1) pa_nil)) pe_bl (nomark _)) (pw_or (pt_cmpR op_ne (pe_k (k_is_name T) (hr.mono (by omega)) pass0 (pa_cons (pe_op op_add_str (pv 1) pe_str) pa_nil)) (pe_cmpR op_lt (pe_callB call_len (by rfl) T.b_len (by decide +kernel) (pa_cons (pv 1) pa_nil)) pe_int (nomark _)) (nomark _)) (pw_or1 (pt_not (pt_val (pe_callB call_isi (by rfl) T.b_isinstance (by decide +kernel) (pa_cons (pe_gr T.g_KEPT) (pa_cons (pe_ty (T := "tuple") T.b_tuple) pa_nil)))))))))) (pss_one (ps_ret pe_bl)) pss_nil)
      (pss_cons (ps_for (passes_of rfl) rfl (pi_list (pe_lst (pa_cons pe_non (pa_cons pe_int (pa_cons (pe_lst (pa_cons pe_str pa_nil)) (pa_cons (pe_tup (pa_cons pe_str pa_nil)) (pa_cons pe_bl pa_nil))))))) (pg_name (i := 2) sc__law_odd_right.nd rfl (by first | exact Or.inl rfl | exact Or.inr rfl)) (pss_cons (ps_set (i := 3) sc__law_odd_right.nd rfl (by first | exact Or.inl rfl | exact Or.inr rfl) (pe_caught (k := 6) (t := fun E => tCall (spReadProg (K := K)) [] E (tCons (tVar 2) tNil)) T TB.o rfl (ts_o TB.ne).1 (ts_o TB.ne).2 (hr.mono (by omega)) (show LamX.LamS (defScope s__law_odd_right) _ from LamX.lamS_by (by decide +kernel)) (fun A outer s H E f c' hr2 => pe_k (k_read_program T BC) (hr2.mono (by omega)) (passes_call (takes_of rfl rfl rfl rfl) (fun _ _ _ _ h => h)) (pa_cons (pv 2) pa_nil))))
      (pss_one (ps_if (PW.pt (pw_or (pt_not (pt_val (pe_callB call_isX (by rfl) T.b_isinstance (by decide +kernel) (pa_cons (pv 3) (pa_cons (pe_gr T.g_BadText) pa_nil))))) (pw_or1 (pt_cmpR op_ne (pe_xa (pv 3)) pe_int (nomark _))))) (pss_one (ps_ret pe_bl)) pss_nil))))
      (pss_cons (ps_set (i := 4) sc__law_odd_right.nd rfl (by first | exact Or.inl rfl | exact Or.inr rfl) (pe_k (k__law_pick T) (hr.mono (by omega)) pass0 (pa_cons (pv 0) (pa_cons (pe_lst (pa_cons pe_non (pa_cons (pe_tup pa_nil) (pa_cons (pe_tup (pa_cons pe_str pa_nil)) (pa_cons (pe_tup (pa_cons pe_str (pa_cons (pe_lst (pa_cons (pe_tup (pa_cons pe_str (pa_cons pe_str (pa_cons pe_str (pa_cons (pe_tup pa_nil) pa_nil))))) pa_nil)) pa_nil))) (pa_cons (pe_tup (pa_cons pe_str (pa_cons (pe_tup (pa_cons (pe_tup (pa_cons pe_str (pa_cons pe_str (pa_cons pe_str (pa_cons (pe_tup pa_nil) pa_nil))))) (pa_cons (pe_tup (pa_cons pe_str (pa_cons pe_str (pa_cons pe_str (pa_cons (pe_tup pa_nil) pa_nil))))) pa_nil))) pa_nil))) (pa_cons (pe_tup (pa_cons pe_str (pa_cons (pe_tup (pa_cons (pe_tup (pa_cons pe_str (pa_cons (pv 1) (pa_cons pe_str (pa_cons (pe_tup pa_nil) pa_nil))))) pa_nil)) pa_nil))) pa_nil))))))) pa_nil))))
      (pss_one (ps_ret (pe_callB call_isX (by rfl) T.b_isinstance (by decide +kernel) (pa_cons (pe_caught (k := 13) (t := fun E => tCall (spText (K := K)) [] E (tCons (tVar 4) tNil)) T TB.o rfl (ts_o TB.ne).1 (ts_o TB.ne).2 (hr.mono (by omega)) (show LamX.LamS (defScope s__law_odd_right) _ from LamX.lamS_by (by decide +kernel)) (fun A outer s H E f c' hr2 => pe_k (k_program_text T) (hr2.mono (by omega)) (passes_call (takes_of rfl rfl rfl rfl) (fun _ _ _ _ h => h)) (pa_cons (pv 4) pa_nil))) (pa_cons (pe_gr T.g_BadProgram) pa_nil))))))))), ?_⟩
    have sz : sizeLine > 1000000 := by decide
    walk_at "go"
    refine ⟨rfl, fun a1 H1 ha1 s1 hl1 => ?_⟩
    walk_at "go"
    refine ⟨D, a1, keptS.map V.str, rfl, hl1, by decide, by decide, hd.fresh ha1, hd.same s1, fun wv H2 hwv s2 => ?_⟩
    obtain ⟨word, hword, rfl⟩ := List.mem_map.mp hwv
    obtain ⟨hk1, hk2, hk3⟩ := kept_facts word hword
    have T2 := s2.tabs (hT.ext s1)
    have d2 := s2.drw
    walk_at "go"
    refine ⟨rfl, fun a2 H3 ha2 s3 hl3 => ?_⟩
    walk_at "go"
    refine rd_tupL hl3 (fun t ht => ?_)
    have s4 := sameNew (o := .tup (keptS.map V.str)) ht
    have ht4 := upd_same (H := H3) (a := t) (o := .tup (keptS.map V.str))
    generalize upd H3 t (.tup (keptS.map V.str)) = H4 at s4 ht4 ⊢
    have hD1 : Dp K H4 (.ref (He.ga K "KEPT")) (.tuple (keptS.map .str)) := .tup (T.kept _) (dpStrs _)
    have hpl := dpPlain hD1
    refine ⟨.tuple (keptS.map .str), .tuple (keptS.map .str), hD1, .tup (SqT.of ht4) (dpStrs _), hpl, hpl, ?_, ?_⟩
    · have := depth_strs keptS
      rw [depth_tup]
      omega
    rw [SeqAt.eqv_refl_plain _ hpl]
    walk_at "go"
    refine ife rfl ?_
    walk_at "go"
    refine ⟨.str word, .str word, rfl, .str word (by omega), fun H5 s5 => ?_⟩
    walk_at "go"
    refine ⟨_, _, rfl, rfl, ?_⟩
    rw [show isNameD (.str word) = false from hk1]
    walk_at "go"
    refine ife rfl ?_
    walk_at "go"
    refine ⟨_, _, rfl, rfl, by have : ("x" : Str).length = 1 := by decide
                               omega, ?_⟩
    walk_at "go"
    have hx9 : (word ++ "x").length ≤ sizeLine := by
      have : ("x" : Str).length = 1 := by decide
      rw [strAdd]
      omega
    refine ⟨.str (word ++ "x"), .str (word ++ "x"), rfl, .str _ hx9, fun H6 s6 => ?_⟩
    walk_at "go"
    refine ⟨_, _, rfl, ⟨by omega, rfl⟩, ?_⟩
    walk_at "go"
    refine i_ne rfl ?_
    rw [show isNameD (.str (word ++ "x")) = _ from hk2, decide_eq_true rfl]
    walk_at "go"
    refine ife rfl ?_
    walk_at "go"
    refine rd_isi (.tup (T.kept _) (DtAll.strs (xs := keptS) fun x hx => by have := (kept_facts x hx).2.2; omega)) (kit_tuple _) ?_
    walk_at "go"
    refine ife rfl ?_
    have s26 := ((s3.trans s4).trans s5).trans s6
    have T6 := T2.ext s26
    have d6 := d2.same s26
    with_reducible refine i_next ?_
    with_reducible refine i_seq ?_
    with_reducible refine i_for ?_
    with_reducible refine i_ilist ?_
    with_reducible refine i_lst ?_
    refine (mkds_cons mkd_non (mkds_cons (mkd_int 5) (mkds_cons (mkd_lst (mkds_cons (mkd_str "do f a" (by decide)) mkds_nil) (by decide)) (mkds_cons (mkd_tup (mkds_cons (mkd_str "do f a" (by decide)) mkds_nil) (by decide)) (mkds_cons (mkd_bl true) mkds_nil)))) : MkDs K _ _ _ _) H6 (Same.refl _) _ (fun vs H7 s7 hvs => ⟨?_, fun L hL => ?_⟩)
    · rw [hvs.length]
      show 5 ≤ sizeLine
      omega
    have s8 := sameNew (o := .lst vs) hL
    have hL8 := upd_same (H := H7) (a := L) (o := .lst vs)
    have T8 := T6.ext (s7.trans s8)
    have d8 := d6.same (s7.trans s8)
    have hall : ∀ x ∈ vs, ∃ d, Dt K (upd H7 L (.lst vs)) x d ∧ is_str d = false := fun x hx => by
      obtain ⟨i, hi, rfl⟩ := List.mem_iff_getElem.mp hx
      obtain ⟨d, hd1, hd2⟩ := hvs.getV (List.getElem?_eq_getElem hi)
      refine ⟨d, hd2.same s8, ?_⟩
      have := List.mem_of_getElem? hd1
      simp only [List.mem_cons, List.not_mem_nil, or_false] at this
      rcases this with rfl | rfl | rfl | rfl | rfl <;> rfl
    clear hvs
    generalize upd H7 L (.lst vs) = H8 at hL8 T8 d8 hall ⊢
    refine ⟨L, rfl, ⟨_, SqL.of hL8⟩, ?_⟩
    refine forb_lst (K := K) (fun i σ H' => ∃ y z, σ = [some (.ref D.d), some (.str word), y, z, none] ∧ Drw D H' ∧ LamX.Tabs (Ts K) H' ∧ H' L = some (.lst vs) ∧ ∀ x ∈ vs, ∃ d, Dt K H' x d ∧ is_str d = false) ⟨_, _, rfl, d8, T8, hL8, hall⟩ (fun i σ Hi _ h => by obtain ⟨y, z, _, _, _, h4, _⟩ := h; exact h4) (fun i x σ Hi hx h => ?_) (fun σ Hi h => ?_)
    · obtain ⟨y, z, rfl, di, Ti, hli, hai⟩ := h
      obtain ⟨d, hdx, hds⟩ := hai x (List.mem_of_getElem? hx)
      walk_at "go"
      refine i_lam Ti (fun H3 e3 T3 => ?_)
      walk_at "go"
      refine ⟨x, d, rfl, hdx.mono (extN_st e3), fun _ H4 s4 dd hdd => ?_, fun x' e => by rw [e] at hds; cases hds⟩
      refine ⟨true, T.e_BadText, fun _ a ha => ?_, fun z => by cases z⟩
      have nda : dd ≠ a := ne_of_none upd_same ha
      have s5 := s4.trans ((sameNew (o := .xd [("at", .int 0)]) hdd).trans (sameNew (o := CaE (.ref (cB K)) (some dd) a) ha))
      have hd5 : upd (upd H4 dd (.xd [("at", .int 0)])) a (CaE (.ref (cB K)) (some dd) a) dd = some (.xd [("at", .int 0)]) := by rw [upd_ne nda, upd_same]
      have ha5 : upd (upd H4 dd (.xd [("at", .int 0)])) a (CaE (.ref (cB K)) (some dd) a) a = some (CaE (.ref (cB K)) (some dd) a) := upd_same
      generalize upd (upd H4 dd (.xd [("at", .int 0)])) a (CaE (.ref (cB K)) (some dd) a) = H5 at s5 hd5 ha5 ⊢
      walk_at "go"
      refine ⟨a, cB K, some dd, rfl, XB, ha5, (fun dd' e => by cases e; exact ⟨_, hd5⟩), ?_⟩
      walk_at "go"
      refine ife rfl ?_
      walk_at "go"
      refine i_xa ?_
      walk_at "go"
      refine ⟨a, cB K, dd, [("at", .int 0)], .int 0, rfl, XB, BC.noat, ha5, hd5, rfl, ?_⟩
      walk_at "go"
      refine ife rfl ?_
      walk_at "go"
      have e5 := e3.trans (LamX.ExtN.of s5)
      exact ⟨_, _, rfl, drw_ext di e5, T3.ext s5, e5 _ _ hli (fun ps z => by cases z), fun x hx => by
        obtain ⟨d, h1, h2⟩ := hai x hx
        exact ⟨d, h1.mono (extN_st e5), h2⟩⟩
    · obtain ⟨y, z, rfl, di, Ti, hli, hai⟩ := h
      with_reducible refine i_seq ?_
      with_reducible refine i_asg ?_
      with_reducible refine i_call ?_
      with_reducible refine i_cons ?_
      refine i_var rfl ?_
      with_reducible refine i_cons ?_
      with_reducible refine i_lst ?_
      have one : ∀ (w : Str), w.length ≤ 1000 → ∀ {te : TE}, MkD K te [some (.ref D.d), some (.str word), y, z, none] Hi (.str w) → MkD K (tTup (tCons (tC (.str "do")) (tCons te (tCons (tC (.str "a")) (tCons (tTup tNil) tNil))))) [some (.ref D.d), some (.str word), y, z, none] Hi (.tuple [.str "do", .str w, .str "a", .tuple []]) := fun w _ te h =>
        mkd_tup (mkds_cons (mkd_str "do" (by decide)) (mkds_cons h (mkds_cons (mkd_str "a" (by decide)) (mkds_cons (mkd_tup mkds_nil (by decide)) mkds_nil)))) (by simp)
      refine (mkds_cons mkd_non (mkds_cons (mkd_tup mkds_nil (by decide)) (mkds_cons (mkd_tup (mkds_cons (mkd_str "program" (by decide)) mkds_nil) (by decide))
        (mkds_cons (mkd_tup (mkds_cons (mkd_str "program" (by decide)) (mkds_cons (mkd_lst (mkds_cons (one "f" (by decide) (mkd_str "f" (by decide))) mkds_nil) (by decide)) mkds_nil)) (by decide))
        (mkds_cons (mkd_tup (mkds_cons (mkd_str "program" (by decide)) (mkds_cons (mkd_tup (mkds_cons (one "f" (by decide) (mkd_str "f" (by decide))) (mkds_cons (one "f" (by decide) (mkd_str "f" (by decide))) mkds_nil)) (by decide)) mkds_nil)) (by decide))
        (mkds_cons (mkd_tup (mkds_cons (mkd_str "program" (by decide)) (mkds_cons (mkd_tup (mkds_cons (one word (by omega) (mkd_var rfl (.str word (by omega)))) mkds_nil) (by simp)) mkds_nil)) (by simp)) mkds_nil))))) : MkDs K _ _ _ (oddD word)) Hi (Same.refl _) _ (fun ws H9 s9 hws => ⟨?_, fun p hp => ?_⟩)
      · rw [hws.length]
        show 6 ≤ sizeLine
        omega
      have s10 := sameNew (o := .lst ws) hp
      have hws := hws.mono (StT.same s10)
      have T10 := Ti.ext (s9.trans s10)
      have d10 := di.same (s9.trans s10)
      have hp10 := upd_same (H := H9) (a := p) (o := .lst ws)
      have npa := (di.same s9).fresh hp
      generalize upd H9 p (.lst ws) = H10 at hws T10 d10 hp10 ⊢
      walk_at "go"
      have hwl : ws.length = 6 := hws.length
      refine ⟨D, p, ws, rfl, hp10, (fun z => by rw [z] at hwl; cases hwl), by omega, npa, d10, fun ov H11 hov s11 => ?_⟩
      obtain ⟨k, hk, rfl⟩ := List.mem_iff_getElem.mp hov
      obtain ⟨d, hd1, hd2⟩ := hws.getV (List.getElem?_eq_getElem hk)
      have hdm := List.mem_of_getElem? hd1
      have hok := odd_ok word d hdm
      have hno : isProgD d = false := by
        have := List.all_eq_true.mp (odd_no word hword) d hdm
        simpa using this
      have hd11 := hd2.mono s11.st
      have T11 := s11.tabs T10
      have d11 := s11.drw
      walk_at "go"
      refine i_lam T11 (fun H12 e12 T12 => ?_)
      walk_at "go"
      refine ⟨_, d, rfl, hd11.mono (extN_st e12), hok, (fun z => by rw [hno] at z; cases z), fun _ H13 s13 => ?_⟩
      refine ⟨true, T.e_BadProgram, fun _ a ha => ?_, fun z => by cases z⟩
      walk_at "go"
      refine ⟨a, He.ga K "BadProgram", none, rfl, XP, upd_same, (fun dd e => by cases e), ?_⟩
      have s14 := s13.trans (sameNew (o := CaE (.ref (He.ga K "BadProgram")) none a) ha)
      exact q _ (drw_ext d11 (e12.trans (LamX.ExtN.of s14))) (T12.ext s14)
end
end MH
end
section
set_option Elab.async false
set_option linter.all false
set_option maxRecDepth 100000
set_option maxHeartbeats 16000000
set_option pp.maxSteps 2500
namespace MH
open PySem PySem.Spec PyProof.Rows L2
local macro_rules | `(tactic| walk_at "go") => `(tactic| repeat (first
  | with_reducible refine i_seq ?_ | with_reducible refine i_ifS ?_ | with_reducible refine i_ret ?_ | with_reducible refine i_drop ?_ | with_reducible refine i_asg ?_ | with_reducible refine i_name ?_
  | with_reducible refine i_next ?_ | with_reducible refine i_var (by with_unfolding_all exact rfl) ?_ | with_reducible refine i_c ?_ | with_reducible refine i_cons ?_ | with_reducible refine i_nil ?_ | with_reducible refine i_cb ?_
  | with_reducible refine i_op ?_ | with_reducible refine i_un ?_ | with_reducible refine i_call ?_ | with_reducible refine i_test ?_ | with_reducible refine i_b ?_ | with_reducible refine i_bl ?_ | with_reducible refine i_and ?_ | with_reducible refine i_or ?_
  | with_reducible refine i_not ?_ | with_reducible refine i_andV ?_ | with_reducible refine i_orV ?_ | with_reducible refine i_notV ?_ | with_reducible refine i_if ?_ | with_reducible refine i_chain ?_ | with_reducible refine i_tup ?_ | with_reducible refine i_lst ?_
  | with_reducible refine i_sl ?_ | with_reducible refine i_part ?_ | with_reducible refine i_nopart ?_ | with_reducible refine i_int ?_ | with_reducible refine i_bm ?_ | with_reducible refine i_bm0 ?_ | with_reducible refine i_I0 ?_ | with_reducible refine i_lc ?_ | with_reducible refine i_disp ?_ | with_reducible refine i_pairsC ?_ | with_reducible refine i_pairsN ?_ | with_reducible refine i_dget2 ?_ | with_reducible refine i_gsub ?_ | with_reducible refine i_raiseB ?_ | with_reducible refine i_make ?_ | with_reducible refine i_gcons ?_ | with_reducible refine i_gnil ?_ | with_reducible refine i_enum ?_ | with_reducible refine i_isN ?_ | with_reducible refine i_notN ?_ | with_reducible refine i_fld ?_ | with_reducible refine i_sfld ?_ | with_reducible refine i_meth ?_ | with_reducible refine i_rU ?_ | with_reducible refine i_dputN ?_ | with_reducible refine i_dput ?_ | with_reducible refine i_dget ?_ | with_reducible refine i_rng1 ?_ | with_reducible refine i_dinP ?_ | with_reducible refine i_raiseA ?_ | with_reducible refine i_lenSetS ?_ | with_reducible refine i_for ?_ | with_reducible refine i_yes ?_ | with_reducible refine i_eqS ?_ | with_reducible refine i_neS ?_ | with_reducible refine i_eqI ?_ | with_reducible refine i_neI ?_
  | with_reducible refine i_retN ?_ | with_reducible refine i_brk ?_ | with_reducible refine i_cont ?_ | with_reducible refine i_par ?_ | with_reducible refine i_par3 ?_ | with_reducible refine i_two ?_ | with_reducible refine i_three ?_
  | with_reducible refine i_itup ?_ | with_reducible refine i_ilist ?_ | with_reducible refine i_istr ?_ | with_reducible refine i_str ?_ | with_reducible refine i_m1 ?_ | with_reducible refine i_anystr ?_
  | with_reducible refine iteT ?_ | with_reducible refine iteF ?_))
def xText : Str := "do f a\nwhile w b\ndo g b b a\nif t c\ndo h c a\nelse\ndo k c c\nend\nend\ndo m d c"
def xInner : PyData := .tuple [.str "if", .str "t", .tuple [.str "c"], .tuple [.tuple [.str "do", .str "h", .str "c", .tuple [.str "a"]]], .tuple [.tuple [.str "do", .str "k", .str "c", .tuple [.str "c"]]]]
def xProg : PyData := .tuple [.str "program", .tuple [.tuple [.str "do", .str "f", .str "a", .tuple []], .tuple [.str "while", .str "w", .tuple [.str "b"], .tuple [.tuple [.str "do", .str "g", .str "b", .tuple [.str "b", .str "a"]], xInner]], .tuple [.str "do", .str "m", .str "d", .tuple [.str "c"]]]]
def xNone : PyData := .tuple [.str "program", .tuple []]
theorem xProg_ok : isProgD xProg = true := by decide +kernel
theorem xNone_ok : isProgD xNone = true := by decide +kernel
theorem xText_eq : textD xProg = xText := by decide +kernel
theorem xNone_eq : textD xNone = ("" : Str) := by decide +kernel
theorem xRead : (readP (linesOf xText)).2 = some xProg := by rw [← xText_eq, read_text xProg_ok]
theorem xRead0 : (readP (linesOf ("" : Str))).2 = some xNone := by rw [← xNone_eq, read_text xNone_ok]
theorem xLen : xText.length ≤ 8000 := by decide +kernel
section
variable {P : Program} {w : World} {K : Fg} {mg : Str → Option Value} {base : Heap}
theorem st4 {σ : L2.St} {H : Hp} (a b c : Str) {ta : TA} {ds : List PyData} (h1 : a.length ≤ 1000) (h2 : b.length ≤ 1000) (h3 : c.length ≤ 1000) (h : MkDs K ta σ H ds) (h4 : ds.length ≤ 1000) :
    MkD K (tTup (tCons (tC (.str a)) (tCons (tC (.str b)) (tCons (tC (.str c)) (tCons (tTup ta) tNil))))) σ H (.tuple [.str a, .str b, .str c, .tuple ds]) :=
  mkd_tup (mkds_cons (mkd_str a h1) (mkds_cons (mkd_str b h2) (mkds_cons (mkd_str c h3) (mkds_cons (mkd_tup h h4) mkds_nil)))) (by simp)
def spLaw : Sp := fun vs H Q _ => ∃ (s : Addr) (ns : List Int), vs = [.ref s] ∧ SqL K H s (ns.map V.int) ∧ ns.length ≤ 63 ∧ LamX.Tabs (Ts K) H ∧ ∀ H', Q (.bl true) H'
theorem ok_law (T : Tx K mg) (BC : BadC P K) (XB : XcC K (cB K)) (XP : XcC K (He.ga K "BadProgram")) (TB : TbF K mg base) {fd : FuncData} (F : FunD K d_law.name d_law.qual d_law.params d_law.body d_law.scope [] [] (He.fAd K d_law.at_) fd) : FnOk P w K mg base (L2.CX P w) 20 (He.fAd K d_law.at_) fd ["script"] (spLaw (K := K)) := by
  refine F.ok sc_law (fun vs H Q E h => ?_) (fun cdv A outer s H vs Q E hr h => ?_)
  · obtain ⟨s, ns, rfl, _⟩ := h
    rfl
  · obtain ⟨p, ns, rfl, hs, hn, hT, q⟩ := h
    refine ⟨_, (pss_cons (ps_set (i := 1) sc_law.nd rfl (by first | exact Or.inl rfl | exact Or.inr rfl) (pe_k (k__law_begun T) (hr.mono (by omega)) pass0 (pa_cons (pv 0) pa_nil)))
      (pss_cons (ps_for (passes_of rfl) rfl (pi_range1 (by rfl) T.b_range (pa_cons (pe_op op_add pe_int (pe_callB (call_min2 rfl) (by rfl) T.b_min (by decide +kernel) (pa_cons (pe_callB call_lenS (by rfl) T.b_len (by decide +kernel) (pa_cons (pv 0) pa_nil)) (pa_cons pe_int pa_nil)))) pa_nil)) (pg_name (i := 2) sc_law.nd rfl (by first | exact Or.inl rfl | exact Or.inr rfl)) (pss_one (ps_if (pt_not (pt_val (pe_k (k__law_right T BC XB TB) (hr.mono (by omega)) (passes_call (takes_of rfl rfl rfl rfl) (fun _ _ _ _ h => h)) (pa_cons (pv 1) pa_nil)))) (pss_one (ps_ret pe_bl)) pss_nil)))
      (pss_cons (ps_if (PW.pt (pw_or (pt_not (pt_val (pe_k (k__law_limits_right T BC XB TB) (hr.mono (by omega)) (passes_call (takes_of rfl rfl rfl rfl) (fun _ _ _ _ h => h)) (pa_cons (pv 1) pa_nil)))) (pw_or (pt_not (pt_val (pe_k (k__law_late_else_right T BC XB TB) (hr.mono (by omega)) (passes_call (takes_of rfl rfl rfl rfl) (fun _ _ _ _ h => h)) (pa_cons (pv 1) pa_nil)))) (pw_or1 (pt_not (pt_val (pe_k (k__law_odd_right T BC XB XP TB) (hr.mono (by omega)) (passes_call (takes_of rfl rfl rfl rfl) (fun _ _ _ _ h => h)) (pa_cons (pv 1) pa_nil)))))))) (pss_one (ps_ret pe_bl)) pss_nil)
      (pss_cons (ps_set (i := 3) sc_law.nd rfl (by first | exact Or.inl rfl | exact Or.inr rfl) pe_str)
      (pss_cons (ps_set (i := 4) sc_law.nd rfl (by first | exact Or.inl rfl | exact Or.inr rfl) (pe_tup (pa_cons pe_str (pa_cons pe_str (pa_cons (pe_tup (pa_cons pe_str pa_nil)) (pa_cons (pe_tup (pa_cons (pe_tup (pa_cons pe_str (pa_cons pe_str (pa_cons pe_str (pa_cons (pe_tup (pa_cons pe_str pa_nil)) pa_nil))))) pa_nil)) (pa_cons (pe_tup (pa_cons (pe_tup (pa_cons pe_str (pa_cons pe_str (pa_cons pe_str (pa_cons (pe_tup (pa_cons pe_str pa_nil)) pa_nil))))) pa_nil)) pa_nil)))))))
      (pss_cons (ps_set (i := 5) sc_law.nd rfl (by first | exact Or.inl rfl | exact Or.inr rfl) (pe_tup (pa_cons pe_str (pa_cons (pe_tup (pa_cons (pe_tup (pa_cons pe_str (pa_cons pe_str (pa_cons pe_str (pa_cons (pe_tup pa_nil) pa_nil))))) (pa_cons (pe_tup (pa_cons pe_str (pa_cons pe_str (pa_cons (pe_tup (pa_cons pe_str pa_nil)) (pa_cons (pe_tup (pa_cons (pe_tup (pa_cons pe_str (pa_cons pe_str (pa_cons pe_str (pa_cons (pe_tup (pa_cons pe_str (pa_cons pe_str pa_nil))) pa_nil))))) (pa_cons (pv 4) pa_nil))) pa_nil))))) (pa_cons (pe_tup (pa_cons pe_str (pa_cons pe_str (pa_cons pe_str (pa_cons (pe_tup (pa_cons pe_str pa_nil)) pa_nil))))) pa_nil)))) pa_nil))))
      (pss_one (ps_ret (pe_k (k__law_says T) (hr.mono (by omega)) pass0 (pa_cons (pe_lst (pa_cons (pe_k (k_read_program T BC) (hr.mono (by omega)) (passes_call (takes_of rfl rfl rfl rfl) (fun _ _ _ _ h => h)) (pa_cons (pv 3) pa_nil)) (pa_cons (pe_k (k_program_text T) (hr.mono (by omega)) (passes_call (takes_of rfl rfl rfl rfl) (fun _ _ _ _ h => h)) (pa_cons (pv 5) pa_nil)) (pa_cons (pe_k (k_read_program T BC) (hr.mono (by omega)) (passes_call (takes_of rfl rfl rfl rfl) (fun _ _ _ _ h => h)) (pa_cons pe_str pa_nil)) pa_nil)))) (pa_cons (pe_lst (pa_cons (pv 5) (pa_cons (pv 3) (pa_cons (pe_tup (pa_cons pe_str (pa_cons (pe_tup pa_nil) pa_nil))) pa_nil)))) pa_nil))))))))))), ?_⟩
    have sz : sizeLine > 1000000 := by decide
    walk_at "go"
    refine ⟨p, ns, rfl, hs, by omega, fun D H1 hA1 hA2 s1 d1 => ?_⟩
    have T1 := hT.ext s1
    walk_at "go"
    refine ⟨p, _, rfl, .inl (sqSame s1 hs), ?_⟩
    rw [List.length_map]
    walk_at "go"
    refine ⟨_, _, rfl, ?_⟩
    walk_at "go"
    refine ⟨_, rfl, by split <;> omega, by split <;> omega, ?_⟩
    refine forb_rng (fun i σ H' => ∃ y, σ = [some (.ref p), some (.ref D.d), y, none, none, none] ∧ Drw D H' ∧ LamX.Tabs (Ts K) H') ⟨_, rfl, d1, T1⟩ (fun i σ Hi hi h => ?_) (fun σ Hi h => ?_)
    · obtain ⟨y, rfl, di, Ti⟩ := h
      walk_at "go"
      refine ⟨D, rfl, di, Ti, fun H2 d2 T2 => ?_⟩
      walk_at "go"
      exact ⟨_, rfl, d2, T2⟩
    · obtain ⟨y, rfl, di, Ti⟩ := h
      walk_at "go"
      refine ⟨D, rfl, di, Ti, fun H2 d2 T2 => ?_⟩
      walk_at "go"
      refine ife rfl ?_
      walk_at "go"
      refine ⟨D, rfl, d2, T2, fun H3 d3 T3 => ?_⟩
      walk_at "go"
      refine ife rfl ?_
      walk_at "go"
      refine ⟨D, rfl, d3, T3, fun H4 d4 T4 => ?_⟩
      walk_at "go"
      refine ife rfl ?_
      with_reducible refine i_next ?_
      with_reducible refine i_seq ?_
      with_reducible refine i_asg ?_
      with_reducible refine i_c ?_
      with_reducible refine i_name ?_
      with_reducible refine i_seq ?_
      with_reducible refine i_asg ?_
      refine (mkd_tup (mkds_cons (mkd_str "if" (by decide)) (mkds_cons (mkd_str "t" (by decide)) (mkds_cons (mkd_tup (mkds_cons (mkd_str "c" (by decide)) mkds_nil) (by decide))
        (mkds_cons (mkd_tup (mkds_cons (st4 "do" "h" "c" (by decide) (by decide) (by decide) (mkds_cons (mkd_str "a" (by decide)) mkds_nil) (by decide)) mkds_nil) (by decide))
        (mkds_cons (mkd_tup (mkds_cons (st4 "do" "k" "c" (by decide) (by decide) (by decide) (mkds_cons (mkd_str "c" (by decide)) mkds_nil) (by decide)) mkds_nil) (by decide)) mkds_nil))))) (by decide) : MkD K _ _ _ xInner) H4 (Same.refl _) _ (fun vi H5 s5 hvi => ?_)
      with_reducible refine i_name ?_
      with_reducible refine i_seq ?_
      with_reducible refine i_asg ?_
      refine (mkd_tup (mkds_cons (mkd_str "program" (by decide)) (mkds_cons (mkd_tup (mkds_cons (st4 "do" "f" "a" (by decide) (by decide) (by decide) mkds_nil (by decide))
        (mkds_cons (mkd_tup (mkds_cons (mkd_str "while" (by decide)) (mkds_cons (mkd_str "w" (by decide)) (mkds_cons (mkd_tup (mkds_cons (mkd_str "b" (by decide)) mkds_nil) (by decide))
          (mkds_cons (mkd_tup (mkds_cons (st4 "do" "g" "b" (by decide) (by decide) (by decide) (mkds_cons (mkd_str "b" (by decide)) (mkds_cons (mkd_str "a" (by decide)) mkds_nil)) (by decide)) (mkds_cons (mkd_var rfl hvi) mkds_nil)) (by decide)) mkds_nil)))) (by decide))
        (mkds_cons (st4 "do" "m" "d" (by decide) (by decide) (by decide) (mkds_cons (mkd_str "c" (by decide)) mkds_nil) (by decide)) mkds_nil))) (by decide)) mkds_nil)) (by decide) : MkD K _ _ _ xProg) H5 (Same.refl _) _ (fun vp H6 s6 hvp => ?_)
      obtain ⟨pn1, pk1, pw1, pd1⟩ := prog_small xProg_ok
      obtain ⟨pn0, pk0, pw0, pd0⟩ := prog_small xNone_ok
      walk_at "go"
      refine ⟨_, .str xText, rfl, .str xText (by have := xLen; omega), (fun z => by cases z), fun x' e => ?_⟩
      cases e
      refine ⟨xLen, (fun z => by rw [xRead] at z; cases z), fun p' hp' u7 H7 s7 hu7 => ?_⟩
      cases (xRead.symm.trans hp')
      walk_at "go"
      refine ⟨vp, xProg, rfl, hvp.same s7, pk1, fun _ H8 s8 => ?_, fun z => by rw [xProg_ok] at z; cases z⟩
      rw [xText_eq]
      walk_at "go"
      refine ⟨_, .str ("" : Str), rfl, .str _ (by decide), (fun z => by cases z), fun x' e => ?_⟩
      cases e
      refine ⟨by decide, (fun z => by rw [xRead0] at z; cases z), fun p' hp' u9 H9 s9 hu9 => ?_⟩
      cases (xRead0.symm.trans hp')
      walk_at "go"
      refine ⟨by show 3 ≤ sizeLine; omega, fun l10 hl10 => ?_⟩
      have s10 := sameNew (o := .lst [u7, .str xText, u9]) hl10
      have h10 := upd_same (H := H9) (a := l10) (o := .lst [u7, .str xText, u9])
      have hu7' := (hu7.same ((s8.trans s9).trans s10)).dp pn1
      have hu9' := (hu9.same s10).dp pn0
      have hvp' := hvp.same (((s7.trans s8).trans s9).trans s10)
      generalize upd H9 l10 (.lst [u7, .str xText, u9]) = H10 at h10 hu7' hu9' hvp' ⊢
      walk_at "go"
      refine ⟨by decide, fun e1 he1 => ?_⟩
      have s11 := sameNew (o := .tup []) he1
      walk_at "go"
      refine ⟨by show 2 ≤ sizeLine; omega, fun e2 he2 => ?_⟩
      have s12 := sameNew (o := .tup [.str "program", .ref e1]) he2
      walk_at "go"
      refine ⟨by show 3 ≤ sizeLine; omega, fun l13 hl13 => ?_⟩
      have s13 := sameNew (o := .lst [vp, .str xText, .ref e2]) hl13
      have hE2 : Dt K (upd (upd (upd H10 e1 (.tup [])) e2 (.tup [.str "program", .ref e1])) l13 (.lst [vp, .str xText, .ref e2])) (.ref e2) xNone :=
        .tup (SqT.of (s13 _ _ upd_same)) (.cons (.str _ (by decide)) (.cons (.tup (SqT.of (s13 _ _ (s12 _ _ upd_same))) .nil) .nil))
      have h13 := upd_same (H := upd (upd H10 e1 (.tup [])) e2 (.tup [.str "program", .ref e1])) (a := l13) (o := .lst [vp, .str xText, .ref e2])
      have s113 := (s11.trans s12).trans s13
      walk_at "go"
      refine ⟨.ref l10, .ref l13, .list [xProg, .str xText, xNone], rfl, .lst (SqL.of (s113 _ _ h10)) (.cons (dpSame s113 hu7') (.cons (.str _) (.cons (dpSame s113 hu9') .nil))), .lst (SqL.of h13) (.cons ((hvp'.same s113).dp pn1) (.cons (.str _) (.cons (hE2.dp pn0) .nil))), ?_, ?_, fun H14 s14 => q H14⟩
      · have e : wt (.list [xProg, .str xText, xNone]) = 1 + (wt xProg + (1 + (wt xNone + 0))) := by
          generalize xProg = a, xNone = b
          simp [wt, wts]
        omega
      · have e : (PyData.list [xProg, .str xText, xNone]).depth ≤ 1 + max xProg.depth (max 1 xNone.depth) := by
          generalize xProg = a, xNone = b
          simp only [PyData.depth, PyData.depthAll]
          omega
        omega
end
end MH
end
section
set_option Elab.async false
set_option linter.all false
set_option maxRecDepth 100000
set_option maxHeartbeats 4000000
/-! the end: what the head tells -/
namespace MH
open PySem PySem.Spec PyProof.Rows L2
def oexB (K : Fg) (C : Addr) : Bool := match K.lookup C with
  | some ⟨.type "type", _, .cls cd, sl⟩ => (match cd.mro, sl.toList with
    | .ref C' :: bm, [_, _, _, _, some (.builtin n), _] => C' == C && n == "ValueError.__new__" && !cd.hasDel && cd.hasDict && PySem.HandSPX.refsVE bm
    | _, _ => false)
  | _ => false
theorem oexB_ok {K : Fg} {C : Addr} (q : oexB K C = true) : ∃ nm q N bs bm sn sub ab col dd k0 k1 k2 k3 k5, K.lookup C = some (excClassObj nm q C N bs bm true sn sub ab col dd k0 k1 k2 k3 k5 "ValueError.__new__") ∧ PySem.HandSPX.refsVE bm = true := by
  unfold oexB at q
  split at q
  · rename_i dd cd sl ho
    split at q
    · rename_i C' bm k0 k1 k2 k3 n k5 hm hs
      simp only [Bool.and_eq_true, beq_iff_eq, Bool.not_eq_true'] at q
      obtain ⟨⟨⟨⟨rfl, rfl⟩, hdel⟩, hdict⟩, ht⟩ := q
      obtain ⟨nm, bs, mro, ns, qn, hd, sn, sub, ab, col, del⟩ := cd
      dsimp only at hm hdel hdict
      subst hm hdel hdict
      have hsl : sl = #[k0, k1, k2, k3, some (.builtin "ValueError.__new__"), k5] := by
        obtain ⟨l⟩ := sl
        simp only at hs
        rw [hs]
      subst hsl
      exact ⟨nm, qn, ns, bs, bm, sn, sub, ab, col, dd, k0, k1, k2, k3, k5, ho, ht⟩
    · cases q
  · cases q
def xcB (K : Fg) (C : Addr) : Bool := (PySem.W.clsIn K C).isSome && (He.eqO (PySem.W.findIn K (.ref C) "__getattribute__") (some (some (.builtin "BaseException.__getattribute__"))) && (He.eqO (PySem.W.findIn K (.ref C) "__getattr__") (some none) && (decide (PySem.W.subIn K (.ref C) (.type "BaseException") = some true) &&
  (He.eqO (PySem.W.findIn K (.ref C) "__class__") (some (some (.builtin "object.__class__"))) && (He.eqO (PySem.W.specialIn K (.builtin "object.__class__") "__get__") (some (some (.builtin "getset_descriptor.__get__"))) && (decide (PySem.W.takesIn K (.builtin "object.__class__") = some true) &&
  (decide (PySem.W.mroIn K C (.type "object") = some true) && PySem.W.hasDictIn K C)))))))
theorem xcB_ok {K : Fg} {C : Addr} (h : xcB K C = true) : XcC K C := by
  unfold xcB at h
  simp only [Bool.and_eq_true, decide_eq_true_eq] at h
  obtain ⟨h1, h2, h3, h4, h5, h6, h7, h8, h9⟩ := h
  exact ⟨h1, He.eqO_ok h2, He.eqO_ok h3, h4, He.eqO_ok h5, He.eqO_ok h6, h7, h8, h9⟩
abbrev FnI : Type := Option (Str × Str × Arguments × FuncBody × Scope × Addr × Value × Addr)
def fnI (K : Fg) : FnI := match K.lookup (fB K) with
  | some ⟨_, _, .func fd, _⟩ => some (fd.name, fd.qualname, fd.params, fd.body, fd.scope, fd.globals, fd.defaults, fd.builtins)
  | _ => none
def fnIv : FnI := some ("__init__", "BadText.__init__", defArgs s_BadText_init, .stmts (defBody s_BadText_init), defScope s_BadText_init, mainGlobals, .none, builtinsNs)
def cellB (K : Fg) (cl : List (Str × Addr)) : Bool := match cl with
  | [(y, cc)] => decide (y = "__class__") && (match K.lookup cc with
    | some ⟨_, _, .cell (some (.ref b)), _⟩ => decide (b = cB K)
    | _ => false)
  | _ => false
def fileB (K : Fg) (file : Str) (cda : Addr) : Bool := match K.lookup cda with
  | some ⟨_, _, .fields vs, _⟩ => (match (vs[2]? : Option Value) with
    | some (Value.str f _) => file == f
    | _ => false)
  | _ => false
def codeB (K : Fg) (file : Str) (cd : Value) : Bool := match cd with
  | .ref cda => PySem.W.codeIn K (.ref cda) "BadText.__init__" && fileB K file cda
  | _ => false
def iniB (file : Str) (K : Fg) : Bool := match K.lookup (fB K) with
  | some ⟨_, _, .func fd, _⟩ => cellB K fd.closure && codeB K file fd.code
  | _ => false
theorem cellB_ok {K : Fg} {cl : List (Str × Addr)} (h : cellB K cl = true) : ∃ cc : Addr, cl = [(("__class__" : Str), cc)] ∧ ∃ c d sl, K.lookup cc = some ⟨c, d, .cell (some (.ref (cB K))), sl⟩ := by
  match cl, h with
  | [(y, cc)], h =>
    obtain ⟨k5, k6⟩ := He.ba (show (decide (y = "__class__") && _) = true from h)
    obtain rfl := of_decide_eq_true k5
    refine ⟨cc, rfl, ?_⟩
    split at k6
    · rename_i cl cld b csl hcc
      obtain rfl := of_decide_eq_true k6
      exact ⟨_, _, _, hcc⟩
    · cases k6
  | [], h => cases h
  | _ :: _ :: _, h => cases h
theorem codeB_ok {K : Fg} {file : Str} {cd : Value} (h : codeB K file cd = true) : ∃ cda, cd = .ref cda ∧ PySem.W.codeIn K (.ref cda) "BadText.__init__" = true ∧ ∃ ccl cdd vs ccs f tf, K.lookup cda = some ⟨ccl, cdd, .fields vs, ccs⟩ ∧ vs[2]? = some (.str f tf) ∧ (file == f) = true := by
  cases cd with
  | ref cda =>
    obtain ⟨k3, k4⟩ := He.ba (show (PySem.W.codeIn K (.ref cda) "BadText.__init__" && fileB K file cda) = true from h)
    refine ⟨cda, rfl, k3, ?_⟩
    unfold fileB at k4
    split at k4
    · rename_i ccl cdd vs ccs hcd
      split at k4
      · rename_i f tf hf
        exact ⟨_, _, _, _, f, tf, hcd, hf, k4⟩
      · cases k4
    · cases k4
  | _ => cases h
theorem ini_ok {K : Fg} {file : Str} (e : fnI K = fnIv) (h : iniB file K = true) : ∃ cc cda oc od kV doc pm an ct osl ccl cdd vs ccs file' tf cl cld csl,
    K.lookup (fB K) = some ⟨oc, od, .func (PySem.W.fnX "__init__" "BadText.__init__" (defArgs s_BadText_init) (defBody s_BadText_init) (defScope s_BadText_init) [("__class__", cc)] .none kV doc pm an (.ref cda) ct), osl⟩ ∧ PySem.W.codeIn K (.ref cda) "BadText.__init__" = true ∧
    K.lookup cda = some ⟨ccl, cdd, .fields vs, ccs⟩ ∧ vs[2]? = some (.str file' tf) ∧ (file == file') = true ∧ K.lookup cc = some ⟨cl, cld, .cell (some (.ref (cB K))), csl⟩ := by
  unfold iniB at h
  unfold fnI fnIv at e
  cases q : K.lookup (fB K) with
  | none =>
    rw [q] at h
    cases h
  | some o =>
    obtain ⟨oc, od, dt, osl⟩ := o
    rw [q] at h e
    cases dt with
    | func fd =>
      obtain ⟨n1, n2, n3, n4, n5, n6, n7, n8, n9, n10, n11, n12, n13, n14, n15⟩ := fd
      have e2 : (some (n1, n2, n3, n4, n5, n6, n8, n15) : FnI) = fnIv := e
      unfold fnIv at e2
      simp only [Option.some.injEq, Prod.mk.injEq] at e2
      obtain ⟨h1, h2, h3, h4, h5, h6, h7, h8⟩ := e2
      subst h1 h2 h3 h4 h5 h6 h7 h8
      obtain ⟨k1, k2⟩ := He.ba h
      obtain ⟨cc, rfl, cl, cld, csl, hcc⟩ := cellB_ok k1
      obtain ⟨cda, rfl, k3, ccl, cdd, vs, ccs, f, tf, hcd, hf, k4⟩ := codeB_ok k2
      exact ⟨cc, cda, oc, od, n9, n10, n11, n12, n14, osl, ccl, cdd, vs, ccs, f, tf, cl, cld, csl, rfl, k3, hcd, hf, k4, hcc⟩
    | _ => cases h
/-- all that the head tells beside the facts by names -/
def exZ (file : Str) (K : Fg) : Bool := exB K && (oexB K (cB K) && (He.eqO (PySem.W.findIn K (.ref (cB K)) "__setattr__") (some (some (.builtin "object.__setattr__"))) && (decide (PySem.W.subIn K (.ref (cB K)) (.type "BaseException") = some true) && (decide (PySem.W.typeIn K (.ref (cB K)) = some (.type "type")) && (PySem.W.keepIn K (.ref (cB K)) &&
  (PySem.W.excInitIn K (cB K) He.veBase "ValueError.__new__" && (He.eqO (PySem.W.findIn K (.ref (cB K)) "__init__") (some (some (.ref (fB K)))) && (decide (PySem.W.typeIn K (.ref (fB K)) = some (.type "function")) && (iniB file K && (decide (PySem.W.mroIn K (cB K) (.ref (cB K)) = some true) && (He.eqO (PySem.W.nsIn K PySem.cStatics "thirdparty.any") (some none) &&
  (He.eqO (PySem.W.ks_superIn K (cB K) (cB K) "__init__") (some (some (.builtin "ValueError.__init__"))) && (decide (PySem.W.subIn K (.ref (cB K)) (.type "ValueError") = some true) && (He.eqO (PySem.W.findIn K (.ref (cB K)) "at") (some none) && (PySem.W.keepIn K (.ref (fB K)) &&
  (xcB K (cB K) && (xcB K (He.ga K "BadProgram") && (decide ((He.cT K pT).2 ≠ (He.cT K pO).2) && decide ((He.cT K pT).2 ≠ mainGlobals ∧ (He.cT K pO).2 ≠ mainGlobals)))))))))))))))))))
structure AllZ (P : Program) (K : Fg) : Prop where
  ex : exB K = true
  bc : BadC P K
  xb : XcC K (cB K)
  xp : XcC K (He.ga K "BadProgram")
  ne : (He.cT K pT).2 ≠ (He.cT K pO).2
theorem exZ_ok {P : Program} {K : Fg} (top : (P.main.scope.names.lookup ("super" : Str)).isSome = false) (e : fnI K = fnIv) (h : exZ P.main.file K = true) : AllZ P K := by
  unfold exZ at h
  simp only [Bool.and_eq_true, decide_eq_true_eq] at h
  obtain ⟨h1, h2, h3, h4, h5, h6, h7, h8, h9, h10, h11, h12, h13, h14, h15, h16, h17, h18, h19, h20⟩ := h
  exact ⟨h1, ⟨⟨oexB_ok h2, He.eqO_ok h3, h4, h5, h6⟩, h7, He.eqO_ok h8, h9, ini_ok e h10, top, h11, He.eqO_ok h12, He.eqO_ok h13, h14, He.eqO_ok h15, h16⟩, xcB_ok h17, xcB_ok h18, h19⟩
/-! ### the Hook -/
def tfZ : List He.Defn := [pT, pO]
def KZ (g : Addr → Option Obj) (n : Nat) : Fg := He.frT g (He.asD g n ++ [PySem.cStatics])
abbrev AlZ : Type := He.AlD × Bool × FnI
def obsZ (file : Str) (n : Nat) (g : Addr → Option Obj) : AlZ := (He.obsD fa fn (KZ g n), exZ file (KZ g n) && He.tabsB g tfZ (KZ g n), fnI (KZ g n))
def valZ : AlZ := (He.valD fn, true, fnIv)
structure SaysZ (file : Str) (h : Heap) (K : Fg) : Prop where
  t : He.SaysD fa fn K
  more : exZ file K = true
  ini : fnI K = fnIv
  hd : ∀ p ∈ tfZ, PySem.W.codeHdIn K (He.cT K p).1 (He.cT K p).2 = true
  out : ∀ p ∈ tfZ, K.lookup (He.cT K p).2 = none
  empty : ∀ p ∈ tfZ, h.get? (He.cT K p).2 = some { cls := .none, data := .fields #[] }
theorem saysZ_of {file : Str} {n : Nat} {h : Heap} (e : obsZ file n h.get? = valZ) : SaysZ file h (KZ h.get? n) := by
  have e1 : He.obsD fa fn (KZ h.get? n) = He.valD fn := congrArg (fun z : AlZ => z.1) e
  have e2 : (exZ file (KZ h.get? n) && He.tabsB h.get? tfZ (KZ h.get? n)) = true := congrArg (fun z : AlZ => z.2.1) e
  have e3 : fnI (KZ h.get? n) = fnIv := congrArg (fun z : AlZ => z.2.2) e
  obtain ⟨h1, h2⟩ := He.ba e2
  have key : ∀ p ∈ tfZ, PySem.W.codeHdIn (KZ h.get? n) (He.cT (KZ h.get? n) p).1 (He.cT (KZ h.get? n) p).2 = true ∧ ∃ o, h.get? (He.cT (KZ h.get? n) p).2 = some o ∧ He.emptyTab o = true := fun p hp => by
    obtain ⟨h3, h4⟩ := He.ba (List.all_eq_true.mp h2 p hp)
    refine ⟨h3, ?_⟩
    cases q : h.get? (He.cT (KZ h.get? n) p).2 with
    | none =>
      rw [q] at h4
      cases h4
    | some o =>
      rw [q] at h4
      exact ⟨o, rfl, h4⟩
  exact ⟨e1, h1, e3, fun p hp => (key p hp).1, fun p hp => by
    obtain ⟨_, o, q, z⟩ := key p hp
    exact He.frT_none q z, fun p hp => by
    obtain ⟨_, o, q, z⟩ := key p hp
    rw [q, He.emptyTab_eq z]⟩
def hookZ (file : Str) (n : Nat) : PySem.W.Hook where
  α := AlZ
  obs := fun s => obsZ file n s.heap.get?
  val := fun _ => valZ
  says := fun _ h => ∃ K : Fg, K.In h ∧ SaysZ file h K
  of := fun _ _ e => ⟨_, He.frT_in, saysZ_of e⟩
  keeps := fun _ _ _ ⟨K, hK, c⟩ k => ⟨K, PySem.W.Frag.In.keeps hK k, ⟨c.t, c.more, c.ini, c.hd, c.out, fun p hp => k _ _ (c.empty p hp)⟩⟩
theorem obsZ_eq {file : Str} {n : Nat} {g : Addr → Option Obj} {s : Shared} (h : ∀ a, g a = s.heap.get? a) : obsZ file n g = (hookZ file n).obs s := by
  have e : g = s.heap.get? := funext h
  rw [e] <;> rfl
end MH
end
section
set_option Elab.async false
set_option linter.all false
set_option maxRecDepth 100000
set_option maxHeartbeats 0
namespace HeadT
open PySem PySem.W PySem.Calls PyProof.Rows
abbrev R : OpenRow := OpenLaw.row PySem.Challenge.rw_mergeheld_k79_whole_texts_of_programs
abbrev qv : Program := view R.prog [50]
def names0 : List PySem.Str := ["VersionError", "BadProgram", "BadText", "KEPT", "LETTERS", "is_name", "is_row", "ITEMS", "SITES", "DEEP", "ARGS", "is_head", "is_item", "bodies_of", "is_body", "sites_in", "is_program_body", "is_program", "check_program", "lines_of"]
def names1 : List PySem.Str := ["program_text", "Reader", "read_lines", "read_program", "_law_caught", "_law_kinds", "_law_says", "_law_text_lines", "_law_kept_words", "_law_is_name", "_law_first_wrong", "_law_begun", "_law_mixed", "_law_take", "_law_pick", "_law_shuffled", "_law_step", "_law_body", "_law_program", "_law_bent_lines"]
def names2 : List PySem.Str := ["_law_text_right", "_law_right", "_law_limits_right", "_law_late_else_right", "_law_odd_right"]
def names : List PySem.Str := names0 ++ (names1 ++ (names2))
abbrev file : PySem.Str := R.prog.main.file
abbrev hkZ : Hook := MH.hookZ file 6
def obZ (s : SharedT) : MH.AlZ := MH.obsZ file 6 (HandSHeadRun.getT s)
theorem obZ_eq (s : SharedT) : obZ s = hkZ.obs s.abs := MH.obsZ_eq (HandSHeadRun.getT_eq s)
theorem run (w : World) : HandSHeadRun.RunEq R qv hkZ obZ 3000 names w := by
  intro os
  kernel_rfl
end HeadT
end
section
set_option Elab.async false
set_option linter.all false
set_option maxRecDepth 100000
set_option maxHeartbeats 0
namespace MH
open PySem PySem.Spec PyProof.Rows L2
/-- the law's promise at the head's heap -/
theorem law_at {w : World} {mg : Str → Option Value} {fA : Addr} {h : Heap} {K : Fg} (X : K.In h) (G : h.Ns mainGlobals mg) (hfa : mg ("law" : Str) = some (.ref fA)) (c : SaysZ HeadT.R.prog.main.file h K) :
    LamX.LawAtS PySem.Challenge.rw_mergeheld_k79_whole_texts_of_programs w K (L2.CX PySem.Challenge.rw_mergeheld_k79_whole_texts_of_programs.prog w) 20 63 "script" mg fA h := by
  have T : Tx K mg := ⟨c.t, (exZ_ok (P := HeadT.R.prog) (by kernel_rfl) c.ini c.more).ex, fun x v e => PySem.W.mg_of X G e, fun x e => PySem.W.mg_none_of X G e⟩
  obtain ⟨_, BC, XB, XP, ne⟩ := exZ_ok (P := HeadT.R.prog) (by kernel_rfl) c.ini c.more
  obtain ⟨fd, F⟩ := T.f_law
  have e := hfa.symm.trans T.g_law
  cases e
  have b := FunD.bindsA (ps := ["script"]) F fun _ _ _ _ _ _ us hl => match us, hl with | [_], _ => rfl
  refine ⟨fd, [He.cT K pT, He.cT K pO], spLaw (K := K), ?_, ?_, ?_, fun s v => b s [v] rfl, fun H a ns hl _ hH hS => ⟨a, ns, rfl, hS, hl, fun p hp => ?_, fun _ => rfl⟩, fun base _ _ hT => ?_⟩
  · intro p hp
    simp only [List.mem_cons, List.not_mem_nil, or_false] at hp
    rcases hp with rfl | rfl
    · exact c.empty pT (by simp [tfZ])
    · exact c.empty pO (by simp [tfZ])
  · intro p hp
    simp only [List.mem_cons, List.not_mem_nil, or_false] at hp
    rcases hp with rfl | rfl
    · exact c.out pT (by simp [tfZ])
    · exact c.out pO (by simp [tfZ])
  · intro p hp
    simp only [List.mem_cons, List.not_mem_nil, or_false] at hp
    rcases hp with rfl | rfl
    · exact PySem.W.codeHd_of_K X (c.hd pT (by simp [tfZ]))
    · exact PySem.W.codeHd_of_K X (c.hd pO (by simp [tfZ]))
  · simp only [Ts, List.mem_cons, List.not_mem_nil, or_false] at hp
    rcases hp with rfl | rfl
    · exact LamX.TabS.nil (hH _ (by simp))
    · exact LamX.TabS.nil (hH _ (by simp))
  · exact ok_law T BC XB XP ⟨hT _ (by simp), hT _ (by simp), ne⟩ F
end MH
open PySem PySem.W PySem.Calls PyProof.Rows
theorem PySem.Challenge.cw_mergeheld_k79_whole_texts_of_programs_holds : PySem.Challenge.rw_mergeheld_k79_whole_texts_of_programs.Holds := by
  w_on; o_law
  refine HandSHeadRun.head_any (r := OpenLaw.row PySem.Challenge.rw_mergeheld_k79_whole_texts_of_programs) (q := HeadT.qv) (H := HeadT.hkZ) (ob := HeadT.obZ) (M := 3000) (loose := HeadT.names) (d := HandSHeadRun.topDef (OpenLaw.row PySem.Challenge.rw_mergeheld_k79_whole_texts_of_programs).prog 50) (kwd := []) HeadT.obZ_eq
    (by kernel_rfl) (fun s => by kernel_rfl) HeadT.run (by kernel_rfl) (by kernel_rfl) (by kernel_rfl) (by rfl) (by first | assumption | decide +kernel) (by decide +kernel) ⟨rfl, rfl, rfl, rfl, rfl, by decide +kernel⟩ ?hw ?hc
  case hw => w_witness2
  case hc =>
    refine LamX.walk_ofTsE (l := PySem.Challenge.rw_mergeheld_k79_whole_texts_of_programs) (n := 63) (k := 20) (x := "script") (CX := fun w => L2.CX PySem.Challenge.rw_mergeheld_k79_whole_texts_of_programs.prog w) rfl (by decide) (by kernel_rfl) ⟨rfl, by decide, by decide⟩ ?F (fun w H s e s' z => ?_)
    case F =>
      intro w mg fa h Y G hmg0
      obtain ⟨K, KX, c⟩ := Y
      have hmg : mg ("law" : PySem.Str) = some (.ref fa) := by
        have e : (HandSHeadRun.topDef (OpenLaw.row PySem.Challenge.rw_mergeheld_k79_whole_texts_of_programs).prog 50).name = ("law" : PySem.Str) := by kernel_rfl
        rw [← e]
        exact hmg0
      exact ⟨K, KX, MH.law_at KX G hmg c⟩
    · obtain ⟨_, _, _, _, _, _, _, _, _, _, _, _, z⟩ := z
      exact z
end
