import PyProof.Rows.All
import Wide.All
import OpenK.AllK
import Wide.FinOn
import KE.KStateDown
import Lean
import HandS.ForMost
import HandS.Exc
import HandS.TryOnly
import HandS.ExcOwn
import HandS.WordsExc
import HandS.More
import HandS.Flow
import HandS.Style
import HandS.IsInst
import HandS.Deep
import KE.DataFind
import KE.GoesEnum
import HandS.WideBits
import HandS.TupAny
import HandS.TupLe
import HandS.Wide
import HandS.FStr
import HandS.Zip
import HandS.Conv
import HandS.Codes
import HandS.OwnEq
import HandS.SortOrd
import HandS.DictTup
import HandS.Defaults
import HandS.Head0
import HandS.Head1
import HandS.Head2
import HandS.HeadEnd
import HandS.HeadHook1
import HandS.HeadHook2
import HandS.HeadHook3
import HandS.HeadHook4
import PySem.Challenge.RW_turnedleaves_k21_what_is_no_layout
set_option Elab.async false
set_option linter.all false
set_option maxRecDepth 100000
set_option maxHeartbeats 4000000
namespace TL
open PySem PySem.Spec PyProof.Rows L2
/-! ### defs by name -/
def fdOf (K : PySem.W.Frag) (p : Str × Option Str) : FuncData := match K.lookup (He.fAd K p) with
  | some ⟨_, _, .func fd, _⟩ => fd
  | _ => PySem.W.fnOf "" "" { posonlyargs := [], args := [], vararg := none, kwonlyargs := [], kw_defaults := [], kwarg := none, defaults := [] } [] { kind := .function, names := [], isGenerator := false, isCoroutine := false } .none .none .none .none none .none .none
abbrev Df (K : PySem.W.Frag) (p : Str × Option Str) (x q : Str) (st : Stmt) (dv : List V) : Prop := FunD K x q (defArgs st) (defBody st) (defScope st) dv [] (He.fAd K p) (fdOf K p)
theorem df_of {K : PySem.W.Frag} {p : Str × Option Str} {x q : Str} {pa : Arguments} {bd : List Stmt} {sc : Scope} {dv : List V} {kw : List (Str × V)} (h : ∃ fd, FunD K x q pa bd sc dv kw (He.fAd K p) fd) : FunD K x q pa bd sc dv kw (He.fAd K p) (fdOf K p) := by
  obtain ⟨fd, F⟩ := h
  obtain ⟨oc, od, dV, kV, doc, pm, an, cdv, ct, osl, e, lk, _⟩ := id F.ex
  have e2 : fdOf K p = fd := by
    unfold fdOf
    rw [lk]
  rw [e2]
  exact F
abbrev OkF (P : Program) (w : World) (K : PySem.W.Frag) (mg : Str → Option Value) (base : Heap) (CX : CXT) (k : Nat) (p : Str × Option Str) (ps : List Str) (sp : Sp) : Prop := FnOk P w K mg base CX k (He.fAd K p) (fdOf K p) ps sp
section
variable {P : Program} {w : World} {K : PySem.W.Frag} {mg : Str → Option Value} {base : Heap} {x qual : Str} {params : Arguments} {body : List Stmt} {scope : Scope} {dvs : List V} {kws : List (Str × V)} {f : Addr} {fd : FuncData}
theorem okN {N ps : List Str} {k : Nat} {sp : Sp} (F : FunD K x qual params body scope dvs kws f fd) (S : FnScope N ps scope) (len : ∀ vs H Q E, sp vs H Q E → vs.length = ps.length)
    (hbody : ∀ (cdv : Value) (A : Around) (outer : List Env) (s : Shared) (H : Hp) (vs : List V) (Q : VK) (E : XK), Room k (A.deeper (envOfC qual scope s.heap.objs.size f cdv)) → sp vs H Q E →
      ∃ t, PSs (cxOf CX0 P w K mg base N qual scope f cdv A outer s H E).nox body t ∧ t { nx := fun _ H' => Q .non H', rt := Q } (start N vs) H) : FnOk P w K mg base CX0 (k + 1) f fd ps sp := by
  refine F.ok S len fun cdv A outer s H vs Q E hr hsp => ?_
  obtain ⟨t, h, q⟩ := hbody cdv A outer s H vs Q E hr hsp
  exact ⟨t, h.nox, q⟩
end
/-! ### heaps -/
theorem same_upd {H : Hp} {p : Addr} {o : HO} (h : H p = none) : Same H (upd H p o) := fun b x e => by
  rw [upd_ne (ne_of_none e h)]
  exact e
theorem same_updR {H H1 : Hp} {p : Addr} {o : HO} (s : Same H H1) (h : H p = none) : Same H (upd H1 p o) := fun b x e => by
  rw [upd_ne (ne_of_none e h)]
  exact s b x e
theorem same_sqt {K : PySem.W.Frag} {H H' : Hp} {a : Addr} {xs : List V} (e : Same H H') (h : SqT K H a xs) : SqT K H' a xs := by
  rcases h with (h | ⟨o, h⟩) | h
  · exact .inl (.inl (e _ _ h))
  · exact .inl (.inr ⟨o, e _ _ h⟩)
  · exact .inr h
/-- all that was tracked is as it was but at ds; tuples and what is locked stay -/
structure Fr (ds : List Addr) (H H' : Hp) : Prop where
  keep : ∀ b o, b ∉ ds → H b = some o → H' b = some o
  tu : ∀ b xs, H b = some (.tup xs) → H' b = some (.tup xs)
  fz : ∀ b o u, H b = some (.frz o u) → H' b = some (.frz o u)
theorem Fr.of {H H' : Hp} (s : Same H H') (ds : List Addr) : Fr ds H H' := ⟨fun b o _ e => s b o e, fun b xs e => s b _ e, fun b o u e => s b _ e⟩
theorem Fr.refl (ds : List Addr) (H : Hp) : Fr ds H H := Fr.of (Same.refl H) ds
theorem Fr.trans {ds : List Addr} {H H1 H2 : Hp} (a : Fr ds H H1) (b : Fr ds H1 H2) : Fr ds H H2 := ⟨fun c o n e => b.keep c o n (a.keep c o n e), fun c xs e => b.tu c xs (a.tu c xs e), fun c o u e => b.fz c o u (a.fz c o u e)⟩
theorem Fr.mono {ds es : List Addr} {H H1 : Hp} (a : Fr ds H H1) (h : ∀ d ∈ ds, d ∈ es) : Fr es H H1 := ⟨fun c o n e => a.keep c o (fun z => n (h c z)) e, a.tu, a.fz⟩
theorem Fr.same {H H' : Hp} (a : Fr [] H H') : Same H H' := fun b o e => a.keep b o (by simp) e
theorem Fr.upd {d : Addr} {ds : List Addr} {H : Hp} {o u : HO} (h : H d = some o) (m : Mut (some o)) (hd : d ∈ ds) : Fr ds H (L2.upd H d u) := by
  have ne : ∀ b v, H b = some v → ¬ Mut (some v) → b ≠ d := fun b v e nm z => by
    subst z
    rw [h] at e
    cases e
    exact nm m
  refine ⟨fun b v n e => ?_, fun b xs e => ?_, fun b ob w e => ?_⟩
  · rw [upd_ne (show b ≠ d from fun z => n (by rw [z]; exact hd))]
    exact e
  · rw [upd_ne (ne b _ e fun z => z)]
    exact e
  · rw [upd_ne (ne b _ e fun z => z)]
    exact e
theorem Fr.sqt {K : PySem.W.Frag} {ds : List Addr} {H H' : Hp} {a : Addr} {xs : List V} (e : Fr ds H H') (h : SqT K H a xs) : SqT K H' a xs := by
  rcases h with (h | ⟨o, h⟩) | h
  · exact .inl (.inl (e.tu _ _ h))
  · exact .inl (.inr ⟨o, e.fz _ _ _ h⟩)
  · exact .inr h
/-! ### data -/
mutual
/-- no list in it -/
def isT : PyData → Bool
  | .none => true
  | .bool _ => true
  | .int _ => true
  | .str _ => true
  | .list _ => false
  | .tuple xs => isTs xs
  | .dict _ => false
def isTs : List PyData → Bool
  | [] => true
  | x :: xs => isT x && isTs xs
end
section
variable {K : PySem.W.Frag} {H H' : Hp}
mutual
theorem dp_tu (e : ∀ a xs, SqT K H a xs → SqT K H' a xs) : ∀ {v : V} {d : PyData}, Dp K H v d → isT d = true → Dp K H' v d
  | _, _, .non, _ => .non
  | _, _, .bl b, _ => .bl b
  | _, _, .int i, _ => .int i
  | _, _, .str x, _ => .str x
  | _, _, .lst _ _, h => by cases h
  | _, _, .tup s a, h => .tup (e _ _ s) (dpa_tu e a h)
theorem dpa_tu (e : ∀ a xs, SqT K H a xs → SqT K H' a xs) : ∀ {vs : List V} {ds : List PyData}, DpAll K H vs ds → isTs ds = true → DpAll K H' vs ds
  | _, _, .nil, _ => .nil
  | _, _, .cons d r, h => by
    obtain ⟨h1, h2⟩ := Bool.and_eq_true_iff.mp h
    exact .cons (dp_tu e d h1) (dpa_tu e r h2)
end
mutual
theorem dp_same (e : Same H H') : ∀ {v : V} {d : PyData}, Dp K H v d → Dp K H' v d
  | _, _, .non => .non
  | _, _, .bl b => .bl b
  | _, _, .int i => .int i
  | _, _, .str x => .str x
  | _, _, .lst s a => .lst (e.seq s) (dpa_same e a)
  | _, _, .tup s a => .tup (same_sqt e s) (dpa_same e a)
theorem dpa_same (e : Same H H') : ∀ {vs : List V} {ds : List PyData}, DpAll K H vs ds → DpAll K H' vs ds
  | _, _, .nil => .nil
  | _, _, .cons d r => .cons (dp_same e d) (dpa_same e r)
end
theorem Fr.dp {ds : List Addr} (e : Fr ds H H') {v : V} {d : PyData} (h : Dp K H v d) (t : isT d = true) : Dp K H' v d := dp_tu (fun _ _ z => e.sqt z) h t
theorem Fr.dpa {ds : List Addr} (e : Fr ds H H') {vs : List V} {xs : List PyData} (h : DpAll K H vs xs) (t : isTs xs = true) : DpAll K H' vs xs := dpa_tu (fun _ _ z => e.sqt z) h t
theorem dpa_len : ∀ {vs : List V} {ds : List PyData}, DpAll K H vs ds → vs.length = ds.length
  | _, _, .nil => rfl
  | _, _, .cons _ r => congrArg Nat.succ (dpa_len r)
theorem dpa_at : ∀ {vs : List V} {ds : List PyData} {i : Nat} {v : V}, DpAll K H vs ds → vs[i]? = some v → ∃ d, ds[i]? = some d ∧ Dp K H v d
  | _, _, _, _, .nil, e => by simp at e
  | _, _, 0, _, .cons d r, e => by simp at e; subst e; exact ⟨_, rfl, d⟩
  | _, _, i + 1, v, .cons d r, e => by
    obtain ⟨d', h1, h2⟩ := dpa_at (i := i) (v := v) r (by simpa using e)
    exact ⟨d', by simpa using h1, h2⟩
theorem dpa_atD : ∀ {vs : List V} {ds : List PyData} {i : Nat} {d : PyData}, DpAll K H vs ds → ds[i]? = some d → ∃ v, vs[i]? = some v ∧ Dp K H v d
  | _, _, _, _, .nil, e => by simp at e
  | _, _, 0, _, .cons d r, e => by simp at e; subst e; exact ⟨_, rfl, d⟩
  | _, _, i + 1, v, .cons d r, e => by
    obtain ⟨d', h1, h2⟩ := dpa_atD (i := i) (d := v) r (by simpa using e)
    exact ⟨d', by simpa using h1, h2⟩
theorem dpa_app : ∀ {vs ws : List V} {ds es : List PyData}, DpAll K H vs ds → DpAll K H ws es → DpAll K H (vs ++ ws) (ds ++ es)
  | _, _, _, _, .nil, h => h
  | _, _, _, _, .cons d r, h => .cons d (dpa_app r h)
theorem dpa_snoc {vs : List V} {ds : List PyData} {v : V} {d : PyData} (h : DpAll K H vs ds) (e : Dp K H v d) : DpAll K H (vs ++ [v]) (ds ++ [d]) := dpa_app h (.cons e .nil)
theorem dpa_take : ∀ {vs : List V} {ds : List PyData} (n : Nat), DpAll K H vs ds → DpAll K H (vs.take n) (ds.take n)
  | _, _, 0, _ => .nil
  | _, _, _ + 1, .nil => .nil
  | _, _, n + 1, .cons d r => .cons d (dpa_take n r)
theorem dpa_drop : ∀ {vs : List V} {ds : List PyData} (n : Nat), DpAll K H vs ds → DpAll K H (vs.drop n) (ds.drop n)
  | _, _, 0, h => h
  | _, _, _ + 1, .nil => .nil
  | _, _, n + 1, .cons d r => dpa_drop n r
theorem dpa_rev : ∀ {vs : List V} {ds : List PyData}, DpAll K H vs ds → DpAll K H vs.reverse ds.reverse
  | _, _, .nil => .nil
  | _, _, .cons d r => by
    rw [List.reverse_cons, List.reverse_cons]
    exact dpa_snoc (dpa_rev r) d
theorem dpa1 {xs : List V} {d0 : PyData} (h : DpAll K H xs [d0]) : ∃ v0, xs = [v0] ∧ Dp K H v0 d0 := by
  cases h with
  | cons h0 r =>
    cases r
    exact ⟨_, rfl, h0⟩
theorem dpa2 {xs : List V} {d0 d1 : PyData} (h : DpAll K H xs [d0, d1]) : ∃ v0 v1, xs = [v0, v1] ∧ Dp K H v0 d0 ∧ Dp K H v1 d1 := by
  cases h with
  | cons h0 r =>
    cases r with
    | cons h1 r =>
      cases r
      exact ⟨_, _, rfl, h0, h1⟩
theorem dpa3 {xs : List V} {d0 d1 d2 : PyData} (h : DpAll K H xs [d0, d1, d2]) : ∃ v0 v1 v2, xs = [v0, v1, v2] ∧ Dp K H v0 d0 ∧ Dp K H v1 d1 ∧ Dp K H v2 d2 := by
  cases h with
  | cons h0 r =>
    cases r with
    | cons h1 r =>
      cases r with
      | cons h2 r =>
        cases r
        exact ⟨_, _, _, rfl, h0, h1, h2⟩
theorem dpa4 {xs : List V} {d0 d1 d2 d3 : PyData} (h : DpAll K H xs [d0, d1, d2, d3]) : ∃ v0 v1 v2 v3, xs = [v0, v1, v2, v3] ∧ Dp K H v0 d0 ∧ Dp K H v1 d1 ∧ Dp K H v2 d2 ∧ Dp K H v3 d3 := by
  cases h with
  | cons h0 r =>
    cases r with
    | cons h1 r =>
      cases r with
      | cons h2 r =>
        cases r with
        | cons h3 r =>
          cases r
          exact ⟨_, _, _, _, rfl, h0, h1, h2, h3⟩
theorem len3 {α : Type} {l : List α} (h : l.length = 3) : ∃ a b c, l = [a, b, c] := by
  match l, h with
  | [a, b, c], _ => exact ⟨a, b, c, rfl⟩
theorem len2 {α : Type} {l : List α} (h : l.length = 2) : ∃ a b, l = [a, b] := by
  match l, h with
  | [a, b], _ => exact ⟨a, b, rfl⟩
theorem len4 {α : Type} {l : List α} (h : l.length = 4) : ∃ a b c d, l = [a, b, c, d] := by
  match l, h with
  | [a, b, c, d], _ => exact ⟨a, b, c, d, rfl⟩
/-- the type's name -/
def tyD : PyData → String
  | .none => "NoneType"
  | .bool _ => "bool"
  | .int _ => "int"
  | .str _ => "str"
  | .list _ => "list"
  | .tuple _ => "tuple"
  | .dict _ => "dict"
theorem dp_ty {v : V} {d : PyData} (h : Dp K H v d) : TyX K H v (.type (tyD d)) := by
  cases h with
  | non => exact .base .non
  | bl b => exact .base (.bl b)
  | int i => exact .base (.int i)
  | str x => exact .base (.str x)
  | lst s a =>
    rcases s with (s | ⟨o, s⟩) | ⟨o, its, n, k, c, _⟩
    · exact .base (.lst s)
    · exact .base (.frz s)
    · exact .kList k c
  | tup s a =>
    rcases s with (s | ⟨o, s⟩) | ⟨o, its, n, k, c, _⟩
    · exact .base (.tup s)
    · exact .fTuple s
    · exact .kTuple k c
end
/-! ### tests of numbers -/
section
variable {A B : Prop} {i j : Int}
theorem iteEQ (h : i = j) (x : A) : if decide (V.int i = V.int j) = true then A else B := by
  rw [decide_eq_true (congrArg V.int h)]
  exact iteT x
theorem iteNQ (h : i ≠ j) (x : B) : if decide (V.int i = V.int j) = true then A else B := by
  rw [decide_eq_false (fun e => h (V.int.inj e))]
  exact iteF x
theorem iteNEQ (h : i ≠ j) (x : A) : if (!decide (V.int i = V.int j)) = true then A else B := by
  rw [decide_eq_false (fun e => h (V.int.inj e))]
  exact iteT x
theorem iteNNQ (h : i = j) (x : B) : if (!decide (V.int i = V.int j)) = true then A else B := by
  rw [decide_eq_true (congrArg V.int h)]
  exact iteF x
theorem ite2Q (h1 : i = j → A) (h2 : i ≠ j → B) : if decide (V.int i = V.int j) = true then A else B := by
  by_cases h : i = j
  · exact iteEQ h (h1 h)
  · exact iteNQ h (h2 h)
theorem ite2NQ (h1 : i ≠ j → A) (h2 : i = j → B) : if (!decide (V.int i = V.int j)) = true then A else B := by
  by_cases h : i = j
  · exact iteNNQ h (h2 h)
  · exact iteNEQ h (h1 h)
theorem iteP {c : Prop} [Decidable c] (h : c) (x : A) : if decide c = true then A else B := by
  rw [decide_eq_true h]
  exact iteT x
theorem iteN {c : Prop} [Decidable c] (h : ¬ c) (x : B) : if decide c = true then A else B := by
  rw [decide_eq_false h]
  exact iteF x
theorem ite2P {c : Prop} [Decidable c] (h1 : c → A) (h2 : ¬ c → B) : if decide c = true then A else B := by
  by_cases h : c
  · exact iteP h (h1 h)
  · exact iteN h (h2 h)
theorem iteNP {c : Prop} [Decidable c] (h : ¬ c) (x : A) : if (!decide c) = true then A else B := by
  rw [decide_eq_false h]
  exact iteT x
theorem iteNN {c : Prop} [Decidable c] (h : c) (x : B) : if (!decide c) = true then A else B := by
  rw [decide_eq_true h]
  exact iteF x
end
/-! ### isinstance -/
def isIntB : PyData → Bool
  | .int _ => true
  | .bool _ => true
  | _ => false
def isBoolB : PyData → Bool
  | .bool _ => true
  | _ => false
def isTupB : PyData → Bool
  | .tuple _ => true
  | _ => false
def isLstB : PyData → Bool
  | .list _ => true
  | _ => false
def isStrB : PyData → Bool
  | .str _ => true
  | _ => false
section
variable {K : PySem.W.Frag}
theorem kit_int : ∀ d : PyData, PySem.W.kitOne K (.type (tyD d)) (.type "int") = some (isIntB d)
  | .none => kit_ty (a := "NoneType") (b := "int") (r := false) (by decide +kernel)
  | .bool _ => kit_ty (a := "bool") (b := "int") (r := true) (by decide +kernel)
  | .int _ => kit_ty (a := "int") (b := "int") (r := true) (by decide +kernel)
  | .str _ => kit_ty (a := "str") (b := "int") (r := false) (by decide +kernel)
  | .list _ => kit_ty (a := "list") (b := "int") (r := false) (by decide +kernel)
  | .tuple _ => kit_ty (a := "tuple") (b := "int") (r := false) (by decide +kernel)
  | .dict _ => kit_ty (a := "dict") (b := "int") (r := false) (by decide +kernel)
theorem kit_bool : ∀ d : PyData, PySem.W.kitOne K (.type (tyD d)) (.type "bool") = some (isBoolB d)
  | .none => kit_ty (a := "NoneType") (b := "bool") (r := false) (by decide +kernel)
  | .bool _ => kit_ty (a := "bool") (b := "bool") (r := true) (by decide +kernel)
  | .int _ => kit_ty (a := "int") (b := "bool") (r := false) (by decide +kernel)
  | .str _ => kit_ty (a := "str") (b := "bool") (r := false) (by decide +kernel)
  | .list _ => kit_ty (a := "list") (b := "bool") (r := false) (by decide +kernel)
  | .tuple _ => kit_ty (a := "tuple") (b := "bool") (r := false) (by decide +kernel)
  | .dict _ => kit_ty (a := "dict") (b := "bool") (r := false) (by decide +kernel)
theorem kit_tup : ∀ d : PyData, PySem.W.kitOne K (.type (tyD d)) (.type "tuple") = some (isTupB d)
  | .none => kit_ty (a := "NoneType") (b := "tuple") (r := false) (by decide +kernel)
  | .bool _ => kit_ty (a := "bool") (b := "tuple") (r := false) (by decide +kernel)
  | .int _ => kit_ty (a := "int") (b := "tuple") (r := false) (by decide +kernel)
  | .str _ => kit_ty (a := "str") (b := "tuple") (r := false) (by decide +kernel)
  | .list _ => kit_ty (a := "list") (b := "tuple") (r := false) (by decide +kernel)
  | .tuple _ => kit_ty (a := "tuple") (b := "tuple") (r := true) (by decide +kernel)
  | .dict _ => kit_ty (a := "dict") (b := "tuple") (r := false) (by decide +kernel)
theorem kit_lst : ∀ d : PyData, PySem.W.kitOne K (.type (tyD d)) (.type "list") = some (isLstB d)
  | .none => kit_ty (a := "NoneType") (b := "list") (r := false) (by decide +kernel)
  | .bool _ => kit_ty (a := "bool") (b := "list") (r := false) (by decide +kernel)
  | .int _ => kit_ty (a := "int") (b := "list") (r := false) (by decide +kernel)
  | .str _ => kit_ty (a := "str") (b := "list") (r := false) (by decide +kernel)
  | .list _ => kit_ty (a := "list") (b := "list") (r := true) (by decide +kernel)
  | .tuple _ => kit_ty (a := "tuple") (b := "list") (r := false) (by decide +kernel)
  | .dict _ => kit_ty (a := "dict") (b := "list") (r := false) (by decide +kernel)
theorem kit_str : ∀ d : PyData, PySem.W.kitOne K (.type (tyD d)) (.type "str") = some (isStrB d)
  | .none => kit_ty (a := "NoneType") (b := "str") (r := false) (by decide +kernel)
  | .bool _ => kit_ty (a := "bool") (b := "str") (r := false) (by decide +kernel)
  | .int _ => kit_ty (a := "int") (b := "str") (r := false) (by decide +kernel)
  | .str _ => kit_ty (a := "str") (b := "str") (r := true) (by decide +kernel)
  | .list _ => kit_ty (a := "list") (b := "str") (r := false) (by decide +kernel)
  | .tuple _ => kit_ty (a := "tuple") (b := "str") (r := false) (by decide +kernel)
  | .dict _ => kit_ty (a := "dict") (b := "str") (r := false) (by decide +kernel)
theorem isi {H : Hp} {x : V} {d : PyData} {n : String} {b : Bool} {Q : VK} (hd : Dp K H x d) (hk : PySem.W.kitOne K (.type (tyD d)) (.type n) = some b) (q : Q (.bl b) H) : rIsi K [x, .ty n] H Q := ⟨x, .ty n, _, _, b, rfl, .ty _, dp_ty hd, hk, q⟩
end
/-- a tuple of the written part -/
def tupIs (K : PySem.W.Frag) (a : Addr) (vs : List V) : Bool := match K.lookup a with
  | some ⟨.type c, _, .seq its _, _⟩ => decide (c = "tuple") && (decide (its.size ≤ sizeLine) && He.relAll vs its.toList)
  | _ => false
theorem tupIs_ok {K : PySem.W.Frag} {a : Addr} {vs : List V} (h : tupIs K a vs = true) (H : Hp) : SqT K H a vs := by
  unfold tupIs at h
  cases q : K.lookup a with
  | none =>
    rw [q] at h
    cases h
  | some o =>
    obtain ⟨oc, od, dt, osl⟩ := o
    rw [q] at h
    cases oc with
    | type c =>
      cases dt with
      | seq its n =>
        obtain ⟨h1, h2⟩ := He.ba h
        obtain ⟨h3, h4⟩ := He.ba h2
        exact .inr ⟨_, its, n, q, congrArg Value.type (of_decide_eq_true h1), rfl, of_decide_eq_true h3, He.relAll_ok h4⟩
      | _ => cases h
    | _ => cases dt <;> cases h
def topS (i : Nat) : Stmt := PySem.Challenge.pw_turnedleaves_k21_what_is_no_layout.main.body.getD i (.Pass ⟨0, 0, 0, 0⟩)
abbrev s__wall : Stmt := topS 0
abbrev s_is_number : Stmt := topS 9
abbrev s_is_bar : Stmt := topS 10
abbrev s_beats_of : Stmt := topS 11
abbrev s_Part_init : Stmt := inClass (topS 12) 0
abbrev s_Part_len : Stmt := inClass (topS 12) 1
abbrev s_Part_eq : Stmt := inClass (topS 12) 2
abbrev s_Part_str : Stmt := inClass (topS 12) 3
abbrev s_Part_bars : Stmt := inClass (topS 12) 4
abbrev s_Part_becomes : Stmt := inClass (topS 12) 5
abbrev s_Part_put : Stmt := inClass (topS 12) 6
abbrev s_Part_drop : Stmt := inClass (topS 12) 7
abbrev s_Part_take_back : Stmt := inClass (topS 12) 8
abbrev s_Part_ahead : Stmt := inClass (topS 12) 9
abbrev s_Part_behind : Stmt := inClass (topS 12) 10
abbrev s_Part_rest : Stmt := inClass (topS 12) 11
abbrev s_Part_wide : Stmt := inClass (topS 12) 12
abbrev s_need_desk : Stmt := topS 15
abbrev s_is_right : Stmt := topS 16
abbrev s_are_numbers : Stmt := topS 17
abbrev s_page_fault : Stmt := topS 18
abbrev s_fault_of : Stmt := topS 19
abbrev s_fault : Stmt := topS 20
abbrev s_is_layout : Stmt := topS 21
abbrev s__law_cell : Stmt := topS 23
abbrev s__law_drawn : Stmt := topS 24
abbrev s__law_roll : Stmt := topS 25
abbrev s__law_rounds : Stmt := topS 26
abbrev s__law_bar : Stmt := topS 27
abbrev s__law_row : Stmt := topS 28
abbrev s__law_stand : Stmt := topS 29
abbrev s__law_numbers : Stmt := topS 30
abbrev s_law : Stmt := topS 31
def dd_is_number : He.DefD := ⟨("is_number", none), "is_number", "is_number", defArgs s_is_number, defBody s_is_number, defScope s_is_number, [], []⟩
def dd_is_bar : He.DefD := ⟨("is_bar", none), "is_bar", "is_bar", defArgs s_is_bar, defBody s_is_bar, defScope s_is_bar, [], []⟩
def dd_beats_of : He.DefD := ⟨("beats_of", none), "beats_of", "beats_of", defArgs s_beats_of, defBody s_beats_of, defScope s_beats_of, [], []⟩
def dd_Part_init : He.DefD := ⟨("Part", some "__init__"), "__init__", "Part.__init__", defArgs s_Part_init, defBody s_Part_init, defScope s_Part_init, [.non], []⟩
def dd_Part_len : He.DefD := ⟨("Part", some "__len__"), "__len__", "Part.__len__", defArgs s_Part_len, defBody s_Part_len, defScope s_Part_len, [], []⟩
def dd_Part_eq : He.DefD := ⟨("Part", some "__eq__"), "__eq__", "Part.__eq__", defArgs s_Part_eq, defBody s_Part_eq, defScope s_Part_eq, [], []⟩
def dd_Part_str : He.DefD := ⟨("Part", some "__str__"), "__str__", "Part.__str__", defArgs s_Part_str, defBody s_Part_str, defScope s_Part_str, [], []⟩
def dd_Part_bars : He.DefD := ⟨("Part", some "bars"), "bars", "Part.bars", defArgs s_Part_bars, defBody s_Part_bars, defScope s_Part_bars, [], []⟩
def dd_Part_ahead : He.DefD := ⟨("Part", some "ahead"), "ahead", "Part.ahead", defArgs s_Part_ahead, defBody s_Part_ahead, defScope s_Part_ahead, [], []⟩
def dd_Part_behind : He.DefD := ⟨("Part", some "behind"), "behind", "Part.behind", defArgs s_Part_behind, defBody s_Part_behind, defScope s_Part_behind, [], []⟩
def dd_Part_rest : He.DefD := ⟨("Part", some "rest"), "rest", "Part.rest", defArgs s_Part_rest, defBody s_Part_rest, defScope s_Part_rest, [], []⟩
def dd_Part_wide : He.DefD := ⟨("Part", some "wide"), "wide", "Part.wide", defArgs s_Part_wide, defBody s_Part_wide, defScope s_Part_wide, [], []⟩
def dd_need_desk : He.DefD := ⟨("need_desk", none), "need_desk", "need_desk", defArgs s_need_desk, defBody s_need_desk, defScope s_need_desk, [], []⟩
def dd_is_right : He.DefD := ⟨("is_right", none), "is_right", "is_right", defArgs s_is_right, defBody s_is_right, defScope s_is_right, [], []⟩
def dd_are_numbers : He.DefD := ⟨("are_numbers", none), "are_numbers", "are_numbers", defArgs s_are_numbers, defBody s_are_numbers, defScope s_are_numbers, [], []⟩
def dd_page_fault : He.DefD := ⟨("page_fault", none), "page_fault", "page_fault", defArgs s_page_fault, defBody s_page_fault, defScope s_page_fault, [], []⟩
def dd_fault_of : He.DefD := ⟨("fault_of", none), "fault_of", "fault_of", defArgs s_fault_of, defBody s_fault_of, defScope s_fault_of, [], []⟩
def dd_fault : He.DefD := ⟨("fault", none), "fault", "fault", defArgs s_fault, defBody s_fault, defScope s_fault, [], []⟩
def dd_is_layout : He.DefD := ⟨("is_layout", none), "is_layout", "is_layout", defArgs s_is_layout, defBody s_is_layout, defScope s_is_layout, [], []⟩
def dd__law_cell : He.DefD := ⟨("_law_cell", none), "_law_cell", "_law_cell", defArgs s__law_cell, defBody s__law_cell, defScope s__law_cell, [], []⟩
def dd__law_drawn : He.DefD := ⟨("_law_drawn", none), "_law_drawn", "_law_drawn", defArgs s__law_drawn, defBody s__law_drawn, defScope s__law_drawn, [], []⟩
def dd__law_roll : He.DefD := ⟨("_law_roll", none), "_law_roll", "_law_roll", defArgs s__law_roll, defBody s__law_roll, defScope s__law_roll, [], []⟩
def dd__law_rounds : He.DefD := ⟨("_law_rounds", none), "_law_rounds", "_law_rounds", defArgs s__law_rounds, defBody s__law_rounds, defScope s__law_rounds, [], []⟩
def dd__law_bar : He.DefD := ⟨("_law_bar", none), "_law_bar", "_law_bar", defArgs s__law_bar, defBody s__law_bar, defScope s__law_bar, [], []⟩
def dd__law_row : He.DefD := ⟨("_law_row", none), "_law_row", "_law_row", defArgs s__law_row, defBody s__law_row, defScope s__law_row, [], []⟩
def dd__law_stand : He.DefD := ⟨("_law_stand", none), "_law_stand", "_law_stand", defArgs s__law_stand, defBody s__law_stand, defScope s__law_stand, [], []⟩
def dd__law_numbers : He.DefD := ⟨("_law_numbers", none), "_law_numbers", "_law_numbers", defArgs s__law_numbers, defBody s__law_numbers, defScope s__law_numbers, [], []⟩
def dd_law : He.DefD := ⟨("law", none), "law", "law", defArgs s_law, defBody s_law, defScope s_law, [], []⟩
def fn_0 : List He.DefD := [dd_is_number, dd_is_bar, dd_beats_of, dd_Part_init, dd_Part_len, dd_Part_eq, dd_Part_str, dd_Part_bars, dd_Part_ahead, dd_Part_behind, dd_Part_rest, dd_Part_wide, dd_need_desk, dd_is_right, dd_are_numbers, dd_page_fault, dd_fault_of, dd_fault, dd_is_layout, dd__law_cell, dd__law_drawn, dd__law_roll, dd__law_rounds, dd__law_bar, dd__law_row]
def fn_1 : List He.DefD := [dd__law_stand, dd__law_numbers, dd_law]
def fn : List He.DefD := fn_0 ++ fn_1
def fa_0 : List He.Fa := [.glo "is_number", .glo "is_bar", .glo "beats_of", .glo "need_desk", .glo "is_right", .glo "are_numbers", .glo "page_fault", .glo "fault_of", .glo "fault", .glo "is_layout", .glo "_law_cell", .glo "_law_drawn", .glo "_law_roll", .glo "_law_rounds", .glo "_law_bar", .glo "_law_row", .glo "_law_stand", .glo "_law_numbers", .glo "law", .free "len", .free "isinstance", .free "range", .free "list", .free "all", .free "int"]
def fa_1 : List He.Fa := [.free "bool", .free "str", .free "tuple", .free "max", .free "min", .free "sum", .free "ValueError", .int "MOST" 40, .glo "SIDES", .glo "LeafError", .glo "BadBar", .glo "BadPlace", .glo "BadDesk", .glo "Full", .cls "Part", .mkr "Part", .noat "Part" "row", .noat "Part" "past", .meth "Part" "__init__", .meth "Part" "__len__", .meth "Part" "__eq__", .meth "Part" "__str__", .meth "Part" "bars", .meth "Part" "ahead", .meth "Part" "behind"]
def fa_2 : List He.Fa := [.meth "Part" "rest", .meth "Part" "wide", .glo "Part"]
def fa : List He.Fa := fa_0 ++ fa_1 ++ fa_2
def exs_0 : List (PySem.W.Frag → Bool) := [(fun K => He.eqO (PySem.W.findIn K (.ref (He.ga K "Part")) "__class__") (some (some (.builtin "object.__class__")))), (fun K => He.eqO (PySem.W.specialIn K (.builtin "object.__class__") "__get__") (some (some (.builtin "getset_descriptor.__get__")))), (fun K => decide (PySem.W.takesIn K (.builtin "object.__class__") = some true)), (fun K => decide (PySem.W.mroIn K (He.ga K "Part") (.type "object") = some true)), (fun K => decide (PySem.W.kitOne K (.ref (He.ga K "Part")) (.ref (He.ga K "Part")) = some true)), (fun K => decide (PySem.W.kitOne K (.type "NoneType") (.ref (He.ga K "Part")) = some false)), (fun K => decide (PySem.W.kitOne K (.type "bool") (.ref (He.ga K "Part")) = some false)), (fun K => decide (PySem.W.kitOne K (.type "int") (.ref (He.ga K "Part")) = some false)), (fun K => decide (PySem.W.kitOne K (.type "str") (.ref (He.ga K "Part")) = some false)), (fun K => decide (PySem.W.kitOne K (.type "list") (.ref (He.ga K "Part")) = some false)), (fun K => decide (PySem.W.kitOne K (.type "tuple") (.ref (He.ga K "Part")) = some false)), (fun K => decide (PySem.W.kitOne K (.ref (He.ga K "Part")) (.type "list") = some false)), (fun K => decide (PySem.W.kitOne K (.ref (He.ga K "Part")) (.type "tuple") = some false)), (fun K => decide (PySem.W.kitOne K (.ref (He.ga K "Part")) (.type "int") = some false)), (fun K => decide (PySem.W.kitOne K (.ref (He.ga K "Part")) (.type "bool") = some false)), (fun K => decide (PySem.W.kitOne K (.ref (He.ga K "Part")) (.type "str") = some false)), (fun K => He.eqO (PySem.W.findIn K (.ref (He.ga K "Part")) "__ne__") (some (some (.builtin "object.__ne__")))), (fun K => PySem.W.notFirst K (He.ga K "Part") (.type "NoneType")), (fun K => PySem.W.notFirst K (He.ga K "Part") (.type "bool")), (fun K => PySem.W.notFirst K (He.ga K "Part") (.type "int")), (fun K => PySem.W.notFirst K (He.ga K "Part") (.type "str")), (fun K => PySem.W.notFirst K (He.ga K "Part") (.type "list")), (fun K => PySem.W.notFirst K (He.ga K "Part") (.type "tuple")), (fun K => tupIs K (He.ga K "SIDES") [.str "left", .str "right"])]
def exs : List (PySem.W.Frag → Bool) := exs_0
def loose_0 : List PySem.Str := ["_wall", "LeafError", "BadBar", "BadPlace", "BadDesk", "Full", "MOST", "is_number", "is_bar", "beats_of", "Part", "SIDES", "need_desk", "is_right", "are_numbers", "page_fault", "fault_of", "fault", "is_layout", "_law_cell", "_law_drawn", "_law_roll", "_law_rounds", "_law_bar", "_law_row"]
def loose_1 : List PySem.Str := ["_law_stand", "_law_numbers"]
def loose : List PySem.Str := loose_0 ++ loose_1
structure Txt (K : PySem.W.Frag) (mg : Str → Option Value) : Prop where
  is_number : Df K ("is_number", none) "is_number" "is_number" s_is_number []
  is_bar : Df K ("is_bar", none) "is_bar" "is_bar" s_is_bar []
  beats_of : Df K ("beats_of", none) "beats_of" "beats_of" s_beats_of []
  Part_init : Df K ("Part", some "__init__") "__init__" "Part.__init__" s_Part_init [.non]
  Part_len : Df K ("Part", some "__len__") "__len__" "Part.__len__" s_Part_len []
  Part_eq : Df K ("Part", some "__eq__") "__eq__" "Part.__eq__" s_Part_eq []
  Part_str : Df K ("Part", some "__str__") "__str__" "Part.__str__" s_Part_str []
  Part_bars : Df K ("Part", some "bars") "bars" "Part.bars" s_Part_bars []
  Part_ahead : Df K ("Part", some "ahead") "ahead" "Part.ahead" s_Part_ahead []
  Part_behind : Df K ("Part", some "behind") "behind" "Part.behind" s_Part_behind []
  Part_rest : Df K ("Part", some "rest") "rest" "Part.rest" s_Part_rest []
  Part_wide : Df K ("Part", some "wide") "wide" "Part.wide" s_Part_wide []
  need_desk : Df K ("need_desk", none) "need_desk" "need_desk" s_need_desk []
  is_right : Df K ("is_right", none) "is_right" "is_right" s_is_right []
  are_numbers : Df K ("are_numbers", none) "are_numbers" "are_numbers" s_are_numbers []
  page_fault : Df K ("page_fault", none) "page_fault" "page_fault" s_page_fault []
  fault_of : Df K ("fault_of", none) "fault_of" "fault_of" s_fault_of []
  fault : Df K ("fault", none) "fault" "fault" s_fault []
  is_layout : Df K ("is_layout", none) "is_layout" "is_layout" s_is_layout []
  _law_cell : Df K ("_law_cell", none) "_law_cell" "_law_cell" s__law_cell []
  _law_drawn : Df K ("_law_drawn", none) "_law_drawn" "_law_drawn" s__law_drawn []
  _law_roll : Df K ("_law_roll", none) "_law_roll" "_law_roll" s__law_roll []
  _law_rounds : Df K ("_law_rounds", none) "_law_rounds" "_law_rounds" s__law_rounds []
  _law_bar : Df K ("_law_bar", none) "_law_bar" "_law_bar" s__law_bar []
  _law_row : Df K ("_law_row", none) "_law_row" "_law_row" s__law_row []
  _law_stand : Df K ("_law_stand", none) "_law_stand" "_law_stand" s__law_stand []
  _law_numbers : Df K ("_law_numbers", none) "_law_numbers" "_law_numbers" s__law_numbers []
  law : Df K ("law", none) "law" "law" s_law []
  g_is_number : mg "is_number" = some (.ref (He.fAd K ("is_number", none)))
  g_is_bar : mg "is_bar" = some (.ref (He.fAd K ("is_bar", none)))
  g_beats_of : mg "beats_of" = some (.ref (He.fAd K ("beats_of", none)))
  g_need_desk : mg "need_desk" = some (.ref (He.fAd K ("need_desk", none)))
  g_is_right : mg "is_right" = some (.ref (He.fAd K ("is_right", none)))
  g_are_numbers : mg "are_numbers" = some (.ref (He.fAd K ("are_numbers", none)))
  g_page_fault : mg "page_fault" = some (.ref (He.fAd K ("page_fault", none)))
  g_fault_of : mg "fault_of" = some (.ref (He.fAd K ("fault_of", none)))
  g_fault : mg "fault" = some (.ref (He.fAd K ("fault", none)))
  g_is_layout : mg "is_layout" = some (.ref (He.fAd K ("is_layout", none)))
  g__law_cell : mg "_law_cell" = some (.ref (He.fAd K ("_law_cell", none)))
  g__law_drawn : mg "_law_drawn" = some (.ref (He.fAd K ("_law_drawn", none)))
  g__law_roll : mg "_law_roll" = some (.ref (He.fAd K ("_law_roll", none)))
  g__law_rounds : mg "_law_rounds" = some (.ref (He.fAd K ("_law_rounds", none)))
  g__law_bar : mg "_law_bar" = some (.ref (He.fAd K ("_law_bar", none)))
  g__law_row : mg "_law_row" = some (.ref (He.fAd K ("_law_row", none)))
  g__law_stand : mg "_law_stand" = some (.ref (He.fAd K ("_law_stand", none)))
  g__law_numbers : mg "_law_numbers" = some (.ref (He.fAd K ("_law_numbers", none)))
  g_law : mg "law" = some (.ref (He.fAd K ("law", none)))
  b_len : mg "len" = none
  b_isinstance : mg "isinstance" = none
  b_range : mg "range" = none
  b_list : mg "list" = none
  b_all : mg "all" = none
  b_int : mg "int" = none
  b_bool : mg "bool" = none
  b_str : mg "str" = none
  b_tuple : mg "tuple" = none
  b_max : mg "max" = none
  b_min : mg "min" = none
  b_sum : mg "sum" = none
  b_ValueError : mg "ValueError" = none
  c_MOST : ∃ t, mg "MOST" = some (.int 40 t)
  g_SIDES : mg "SIDES" = some (.ref (He.ga K "SIDES"))
  g_LeafError : mg "LeafError" = some (.ref (He.ga K "LeafError"))
  g_BadBar : mg "BadBar" = some (.ref (He.ga K "BadBar"))
  g_BadPlace : mg "BadPlace" = some (.ref (He.ga K "BadPlace"))
  g_BadDesk : mg "BadDesk" = some (.ref (He.ga K "BadDesk"))
  g_Full : mg "Full" = some (.ref (He.ga K "Full"))
  cl_Part : Cls K (He.ga K "Part")
  mk_Part : Mk K (He.ga K "Part") (He.fAd K ("Part", some "__init__"))
  n_row : NoAttr K (He.ga K "Part") "row"
  n_past : NoAttr K (He.ga K "Part") "past"
  m_Part_init : Meth K (He.ga K "Part") "__init__" (He.fAd K ("Part", some "__init__"))
  m_Part_len : Meth K (He.ga K "Part") "__len__" (He.fAd K ("Part", some "__len__"))
  m_Part_eq : Meth K (He.ga K "Part") "__eq__" (He.fAd K ("Part", some "__eq__"))
  m_Part_str : Meth K (He.ga K "Part") "__str__" (He.fAd K ("Part", some "__str__"))
  m_Part_bars : Meth K (He.ga K "Part") "bars" (He.fAd K ("Part", some "bars"))
  m_Part_ahead : Meth K (He.ga K "Part") "ahead" (He.fAd K ("Part", some "ahead"))
  m_Part_behind : Meth K (He.ga K "Part") "behind" (He.fAd K ("Part", some "behind"))
  m_Part_rest : Meth K (He.ga K "Part") "rest" (He.fAd K ("Part", some "rest"))
  m_Part_wide : Meth K (He.ga K "Part") "wide" (He.fAd K ("Part", some "wide"))
  k_class : PySem.W.findIn K (.ref (He.ga K "Part")) "__class__" = some (some (.builtin "object.__class__"))
  k_get : PySem.W.specialIn K (.builtin "object.__class__") "__get__" = some (some (.builtin "getset_descriptor.__get__"))
  k_takes : PySem.W.takesIn K (.builtin "object.__class__") = some true
  k_mro : PySem.W.mroIn K (He.ga K "Part") (.type "object") = some true
  k_self : PySem.W.kitOne K (.ref (He.ga K "Part")) (.ref (He.ga K "Part")) = some true
  k_NoneType : PySem.W.kitOne K (.type "NoneType") (.ref (He.ga K "Part")) = some false
  k_bool : PySem.W.kitOne K (.type "bool") (.ref (He.ga K "Part")) = some false
  k_int : PySem.W.kitOne K (.type "int") (.ref (He.ga K "Part")) = some false
  k_str : PySem.W.kitOne K (.type "str") (.ref (He.ga K "Part")) = some false
  k_list : PySem.W.kitOne K (.type "list") (.ref (He.ga K "Part")) = some false
  k_tuple : PySem.W.kitOne K (.type "tuple") (.ref (He.ga K "Part")) = some false
  k_nolist : PySem.W.kitOne K (.ref (He.ga K "Part")) (.type "list") = some false
  k_notuple : PySem.W.kitOne K (.ref (He.ga K "Part")) (.type "tuple") = some false
  k_noint : PySem.W.kitOne K (.ref (He.ga K "Part")) (.type "int") = some false
  k_nobool : PySem.W.kitOne K (.ref (He.ga K "Part")) (.type "bool") = some false
  k_nostr : PySem.W.kitOne K (.ref (He.ga K "Part")) (.type "str") = some false
  k_ne : PySem.W.findIn K (.ref (He.ga K "Part")) "__ne__" = some (some (.builtin "object.__ne__"))
  k_first_NoneType : PySem.W.notFirst K (He.ga K "Part") (.type "NoneType") = true
  k_first_bool : PySem.W.notFirst K (He.ga K "Part") (.type "bool") = true
  k_first_int : PySem.W.notFirst K (He.ga K "Part") (.type "int") = true
  k_first_str : PySem.W.notFirst K (He.ga K "Part") (.type "str") = true
  k_first_list : PySem.W.notFirst K (He.ga K "Part") (.type "list") = true
  k_first_tuple : PySem.W.notFirst K (He.ga K "Part") (.type "tuple") = true
  g_Part : mg "Part" = some (.ref (He.ga K "Part"))
  t_SIDES : tupIs K (He.ga K "SIDES") [.str "left", .str "right"] = true
def ex (K : PySem.W.Frag) : Bool := exs.all fun f => f K
theorem exAt {K : PySem.W.Frag} (h : ex K = true) (i : Nat) {f : PySem.W.Frag → Bool} (e : exs[i]? = some f) : f K = true := List.all_eq_true.mp h f (List.mem_of_getElem? e)
theorem txt_of {tf : List He.Defn} {w : World} {h h0 : Heap} {K : PySem.W.Frag} {mg : Str → Option Value} (X : K.In h) (G : h.Ns mainGlobals mg) (c : He.SaysX fa fn [] tf ex w h0 K) : Txt K mg := ⟨df_of (c.t.d.defs (d := dd_is_number) (by simp [fn, fn_0])),
  df_of (c.t.d.defs (d := dd_is_bar) (by simp [fn, fn_0])),
  df_of (c.t.d.defs (d := dd_beats_of) (by simp [fn, fn_0])),
  df_of (c.t.d.defs (d := dd_Part_init) (by simp [fn, fn_0])),
  df_of (c.t.d.defs (d := dd_Part_len) (by simp [fn, fn_0])),
  df_of (c.t.d.defs (d := dd_Part_eq) (by simp [fn, fn_0])),
  df_of (c.t.d.defs (d := dd_Part_str) (by simp [fn, fn_0])),
  df_of (c.t.d.defs (d := dd_Part_bars) (by simp [fn, fn_0])),
  df_of (c.t.d.defs (d := dd_Part_ahead) (by simp [fn, fn_0])),
  df_of (c.t.d.defs (d := dd_Part_behind) (by simp [fn, fn_0])),
  df_of (c.t.d.defs (d := dd_Part_rest) (by simp [fn, fn_0])),
  df_of (c.t.d.defs (d := dd_Part_wide) (by simp [fn, fn_0])),
  df_of (c.t.d.defs (d := dd_need_desk) (by simp [fn, fn_0])),
  df_of (c.t.d.defs (d := dd_is_right) (by simp [fn, fn_0])),
  df_of (c.t.d.defs (d := dd_are_numbers) (by simp [fn, fn_0])),
  df_of (c.t.d.defs (d := dd_page_fault) (by simp [fn, fn_0])),
  df_of (c.t.d.defs (d := dd_fault_of) (by simp [fn, fn_0])),
  df_of (c.t.d.defs (d := dd_fault) (by simp [fn, fn_0])),
  df_of (c.t.d.defs (d := dd_is_layout) (by simp [fn, fn_0])),
  df_of (c.t.d.defs (d := dd__law_cell) (by simp [fn, fn_0])),
  df_of (c.t.d.defs (d := dd__law_drawn) (by simp [fn, fn_0])),
  df_of (c.t.d.defs (d := dd__law_roll) (by simp [fn, fn_0])),
  df_of (c.t.d.defs (d := dd__law_rounds) (by simp [fn, fn_0])),
  df_of (c.t.d.defs (d := dd__law_bar) (by simp [fn, fn_0])),
  df_of (c.t.d.defs (d := dd__law_row) (by simp [fn, fn_0])),
  df_of (c.t.d.defs (d := dd__law_stand) (by simp [fn, fn_1])),
  df_of (c.t.d.defs (d := dd__law_numbers) (by simp [fn, fn_1])),
  df_of (c.t.d.defs (d := dd_law) (by simp [fn, fn_1])),
  He.glo_ok X G (c.t.d.facts (f := .glo "is_number") (by simp [fa, fa_0])),
  He.glo_ok X G (c.t.d.facts (f := .glo "is_bar") (by simp [fa, fa_0])),
  He.glo_ok X G (c.t.d.facts (f := .glo "beats_of") (by simp [fa, fa_0])),
  He.glo_ok X G (c.t.d.facts (f := .glo "need_desk") (by simp [fa, fa_0])),
  He.glo_ok X G (c.t.d.facts (f := .glo "is_right") (by simp [fa, fa_0])),
  He.glo_ok X G (c.t.d.facts (f := .glo "are_numbers") (by simp [fa, fa_0])),
  He.glo_ok X G (c.t.d.facts (f := .glo "page_fault") (by simp [fa, fa_0])),
  He.glo_ok X G (c.t.d.facts (f := .glo "fault_of") (by simp [fa, fa_0])),
  He.glo_ok X G (c.t.d.facts (f := .glo "fault") (by simp [fa, fa_0])),
  He.glo_ok X G (c.t.d.facts (f := .glo "is_layout") (by simp [fa, fa_0])),
  He.glo_ok X G (c.t.d.facts (f := .glo "_law_cell") (by simp [fa, fa_0])),
  He.glo_ok X G (c.t.d.facts (f := .glo "_law_drawn") (by simp [fa, fa_0])),
  He.glo_ok X G (c.t.d.facts (f := .glo "_law_roll") (by simp [fa, fa_0])),
  He.glo_ok X G (c.t.d.facts (f := .glo "_law_rounds") (by simp [fa, fa_0])),
  He.glo_ok X G (c.t.d.facts (f := .glo "_law_bar") (by simp [fa, fa_0])),
  He.glo_ok X G (c.t.d.facts (f := .glo "_law_row") (by simp [fa, fa_0])),
  He.glo_ok X G (c.t.d.facts (f := .glo "_law_stand") (by simp [fa, fa_0])),
  He.glo_ok X G (c.t.d.facts (f := .glo "_law_numbers") (by simp [fa, fa_0])),
  He.glo_ok X G (c.t.d.facts (f := .glo "law") (by simp [fa, fa_0])),
  He.free_ok X G (c.t.d.facts (f := .free "len") (by simp [fa, fa_0])),
  He.free_ok X G (c.t.d.facts (f := .free "isinstance") (by simp [fa, fa_0])),
  He.free_ok X G (c.t.d.facts (f := .free "range") (by simp [fa, fa_0])),
  He.free_ok X G (c.t.d.facts (f := .free "list") (by simp [fa, fa_0])),
  He.free_ok X G (c.t.d.facts (f := .free "all") (by simp [fa, fa_0])),
  He.free_ok X G (c.t.d.facts (f := .free "int") (by simp [fa, fa_0])),
  He.free_ok X G (c.t.d.facts (f := .free "bool") (by simp [fa, fa_1])),
  He.free_ok X G (c.t.d.facts (f := .free "str") (by simp [fa, fa_1])),
  He.free_ok X G (c.t.d.facts (f := .free "tuple") (by simp [fa, fa_1])),
  He.free_ok X G (c.t.d.facts (f := .free "max") (by simp [fa, fa_1])),
  He.free_ok X G (c.t.d.facts (f := .free "min") (by simp [fa, fa_1])),
  He.free_ok X G (c.t.d.facts (f := .free "sum") (by simp [fa, fa_1])),
  He.free_ok X G (c.t.d.facts (f := .free "ValueError") (by simp [fa, fa_1])),
  He.int_ok X G (c.t.d.facts (f := .int "MOST" 40) (by simp [fa, fa_1])),
  He.glo_ok X G (c.t.d.facts (f := .glo "SIDES") (by simp [fa, fa_1])),
  He.glo_ok X G (c.t.d.facts (f := .glo "LeafError") (by simp [fa, fa_1])),
  He.glo_ok X G (c.t.d.facts (f := .glo "BadBar") (by simp [fa, fa_1])),
  He.glo_ok X G (c.t.d.facts (f := .glo "BadPlace") (by simp [fa, fa_1])),
  He.glo_ok X G (c.t.d.facts (f := .glo "BadDesk") (by simp [fa, fa_1])),
  He.glo_ok X G (c.t.d.facts (f := .glo "Full") (by simp [fa, fa_1])),
  He.cls_ok (c.t.d.facts (f := .cls "Part") (by simp [fa, fa_1])),
  He.mkr_ok (c.t.d.facts (f := .mkr "Part") (by simp [fa, fa_1])),
  He.noat_ok (c.t.d.facts (f := .noat "Part" "row") (by simp [fa, fa_1])),
  He.noat_ok (c.t.d.facts (f := .noat "Part" "past") (by simp [fa, fa_1])),
  He.meth_ok (c.t.d.facts (f := .meth "Part" "__init__") (by simp [fa, fa_1])),
  He.meth_ok (c.t.d.facts (f := .meth "Part" "__len__") (by simp [fa, fa_1])),
  He.meth_ok (c.t.d.facts (f := .meth "Part" "__eq__") (by simp [fa, fa_1])),
  He.meth_ok (c.t.d.facts (f := .meth "Part" "__str__") (by simp [fa, fa_1])),
  He.meth_ok (c.t.d.facts (f := .meth "Part" "bars") (by simp [fa, fa_1])),
  He.meth_ok (c.t.d.facts (f := .meth "Part" "ahead") (by simp [fa, fa_1])),
  He.meth_ok (c.t.d.facts (f := .meth "Part" "behind") (by simp [fa, fa_1])),
  He.meth_ok (c.t.d.facts (f := .meth "Part" "rest") (by simp [fa, fa_2])),
  He.meth_ok (c.t.d.facts (f := .meth "Part" "wide") (by simp [fa, fa_2])),
  He.eqO_ok (exAt c.more 0 rfl),
  He.eqO_ok (exAt c.more 1 rfl),
  of_decide_eq_true (exAt c.more 2 rfl),
  of_decide_eq_true (exAt c.more 3 rfl),
  of_decide_eq_true (exAt c.more 4 rfl),
  of_decide_eq_true (exAt c.more 5 rfl),
  of_decide_eq_true (exAt c.more 6 rfl),
  of_decide_eq_true (exAt c.more 7 rfl),
  of_decide_eq_true (exAt c.more 8 rfl),
  of_decide_eq_true (exAt c.more 9 rfl),
  of_decide_eq_true (exAt c.more 10 rfl),
  of_decide_eq_true (exAt c.more 11 rfl),
  of_decide_eq_true (exAt c.more 12 rfl),
  of_decide_eq_true (exAt c.more 13 rfl),
  of_decide_eq_true (exAt c.more 14 rfl),
  of_decide_eq_true (exAt c.more 15 rfl),
  He.eqO_ok (exAt c.more 16 rfl),
  (exAt c.more 17 rfl),
  (exAt c.more 18 rfl),
  (exAt c.more 19 rfl),
  (exAt c.more 20 rfl),
  (exAt c.more 21 rfl),
  (exAt c.more 22 rfl),
  He.glo_ok X G (c.t.d.facts (f := .glo "Part") (by simp [fa, fa_2])),
  (exAt c.more 23 rfl)⟩
/-! ### bars -/
structure Bar where
  w : Int
  b : Int
  r : Bool
  deriving DecidableEq
def barD (x : Bar) : PyData := .tuple [.int x.w, .int x.b, .bool x.r]
def barV (x : Bar) : List V := [.int x.w, .int x.b, .bl x.r]
def BarOk (x : Bar) : Prop := 1 ≤ x.w ∧ x.w ≤ 40 ∧ 1 ≤ x.b ∧ x.b ≤ 16
abbrev barsD (bs : List Bar) : List PyData := bs.map barD
theorem isT_bar (x : Bar) : isT (barD x) = true := rfl
theorem isTs_bars : ∀ bs : List Bar, isTs (barsD bs) = true
  | [] => rfl
  | x :: r => by
    show (isT (barD x) && isTs (barsD r)) = true
    rw [isTs_bars r]
    rfl
section
variable {K : PySem.W.Frag} {H H' : Hp}
theorem dp_bar {v : V} {x : Bar} (h : Dp K H v (barD x)) : ∃ p, v = .ref p ∧ SqT K H p (barV x) := by
  cases h with
  | tup s a =>
    cases a with
    | cons d0 r =>
      cases r with
      | cons d1 r =>
        cases r with
        | cons d2 r =>
          cases r
          cases d0
          cases d1
          cases d2
          exact ⟨_, rfl, s⟩
theorem dp_bar_of {p : Addr} {x : Bar} (h : SqT K H p (barV x)) : Dp K H (.ref p) (barD x) := .tup h (.cons (.int _) (.cons (.int _) (.cons (.bl _) .nil)))
theorem bar_at {vs : List V} {bs : List Bar} {i : Nat} {v : V} (h : DpAll K H vs (barsD bs)) (e : vs[i]? = some v) : ∃ x p, bs[i]? = some x ∧ v = .ref p ∧ SqT K H p (barV x) := by
  obtain ⟨d, e1, hd⟩ := dpa_at h e
  rw [List.getElem?_map] at e1
  cases q : bs[i]? with
  | none =>
    rw [q] at e1
    cases e1
  | some x =>
    rw [q] at e1
    have e2 : barD x = d := Option.some.inj e1
    subst e2
    obtain ⟨p, rfl, s⟩ := dp_bar hd
    exact ⟨x, p, rfl, rfl, s⟩
/-- a list of bars at an address -/
def RowAt (K : PySem.W.Frag) (H : Hp) (r : Addr) (bs : List Bar) : Prop := ∃ vs, H r = some (.lst vs) ∧ DpAll K H vs (barsD bs)
theorem RowAt.dp {r : Addr} {bs : List Bar} (h : RowAt K H r bs) : Dp K H (.ref r) (.list (barsD bs)) := by
  obtain ⟨vs, e, a⟩ := h
  exact .lst (.of e) a
theorem RowAt.same {r : Addr} {bs : List Bar} (h : RowAt K H r bs) (s : Same H H') : RowAt K H' r bs := by
  obtain ⟨vs, e, a⟩ := h
  exact ⟨vs, s _ _ e, dpa_same s a⟩
theorem RowAt.fr {ds : List Addr} {r : Addr} {bs : List Bar} (h : RowAt K H r bs) (s : Fr ds H H') (n : r ∉ ds) : RowAt K H' r bs := by
  obtain ⟨vs, e, a⟩ := h
  exact ⟨vs, s.keep _ _ n e, s.dpa a (isTs_bars bs)⟩
theorem lst_bars {a : Addr} {bs : List Bar} (h : Dp K H (.ref a) (.list (barsD bs))) : ∃ vs, SqL K H a vs ∧ DpAll K H vs (barsD bs) := by
  cases h with
  | lst s d => exact ⟨_, s, d⟩
theorem bars_len {vs : List V} {bs : List Bar} (h : DpAll K H vs (barsD bs)) : vs.length = bs.length := by
  rw [dpa_len h, List.length_map]
end
/-- the beats of the first bars, as long as they rest -/
def beatsOf : List Bar → Int
  | [] => 0
  | x :: r => if x.r = true then x.b + beatsOf r else 0
def restOf (bs : List Bar) (k : Nat) : Int := beatsOf (bs.take k).reverse + beatsOf (bs.drop k)
theorem drop_at {α : Type} {l : List α} {i : Nat} {x : α} (h : l[i]? = some x) : l.drop i = x :: l.drop (i + 1) := by
  obtain ⟨hi, e⟩ := List.getElem?_eq_some_iff.mp h
  rw [List.drop_eq_getElem_cons hi, e]
theorem take_at {α : Type} {l : List α} {i : Nat} {x : α} (h : l[i]? = some x) : l.take (i + 1) = l.take i ++ [x] := by
  rw [List.take_add_one, h]
  rfl
/-! ### parts -/
abbrev pC (K : PySem.W.Frag) : Addr := He.ga K "Part"
def pf (r q : Addr) : List (Str × V) := [("row", .ref r), ("past", .ref q)]
theorem pf_row {r q : Addr} : (pf r q).lookup ("row" : Str) = some (.ref r) := rfl
theorem pf_past {r q : Addr} : (pf r q).lookup ("past" : Str) = some (.ref q) := by
  show (match (("past" : Str) == ("row" : Str)) with | true => some (V.ref r) | false => ([("past", .ref q)] : List (Str × V)).lookup ("past" : Str)) = some (.ref q)
  rw [show (("past" : Str) == ("row" : Str)) = false by decide +kernel]
  rfl
theorem pf_no {r q : Addr} {x : Str} (h1 : (x == ("row" : Str)) = false) (h2 : (x == ("past" : Str)) = false) : (pf r q).lookup x = none := by
  show (match (x == ("row" : Str)) with | true => some (V.ref r) | false => (match (x == ("past" : Str)) with | true => some (V.ref q) | false => none)) = none
  rw [h1, h2]
theorem pf_len {r q : Addr} : (pf r q).length < 1000 := by
  show (2 : Nat) < 1000
  decide
theorem put_row {r q r' : Addr} : putF ("row" : Str) (.ref r') (pf r q) = pf r' q := rfl
section
variable {K : PySem.W.Frag} {H H' : Hp}
def Rows (K : PySem.W.Frag) (H : Hp) (q : Addr) : List V → List (List Bar) → Prop := Paired fun v bs => ∃ r, v = .ref r ∧ r ≠ q ∧ RowAt K H r bs
/-- the part at p: its bars, what it was (its list at q) -/
def PartX (K : PySem.W.Frag) (H : Hp) (p q : Addr) (bs : List Bar) (past : List (List Bar)) : Prop :=
  ∃ dx r ws, H p = some (.ins (pC K) dx (pf r q)) ∧ r ≠ q ∧ RowAt K H r bs ∧ H q = some (.lst ws) ∧ Rows K H q ws past
theorem Rows.imp {q : Addr} {ws : List V} {past : List (List Bar)} (h : Rows K H q ws past) (f : ∀ r bs, r ≠ q → RowAt K H r bs → RowAt K H' r bs) : Rows K H' q ws past :=
  Paired.mapP h fun v bs ⟨r, e, n, z⟩ => ⟨r, e, n, f r bs n z⟩
theorem Rows.snoc {q : Addr} {r : Addr} {bs : List Bar} : ∀ {ws : List V} {past : List (List Bar)}, Rows K H q ws past → r ≠ q → RowAt K H r bs → Rows K H q (ws ++ [.ref r]) (past ++ [bs])
  | _, _, .nil, n, h => .cons ⟨r, rfl, n, h⟩ .nil
  | _, _, .cons a t, n, h => .cons a (Rows.snoc t n h)
theorem Rows.len {q : Addr} {ws : List V} {past : List (List Bar)} (h : Rows K H q ws past) : ws.length = past.length := Paired.length h
theorem PartX.same {p q : Addr} {bs : List Bar} {past : List (List Bar)} (h : PartX K H p q bs past) (s : Same H H') : PartX K H' p q bs past := by
  obtain ⟨dx, r, ws, h1, n, h2, h3, h4⟩ := h
  exact ⟨dx, r, ws, s _ _ h1, n, h2.same s, s _ _ h3, h4.imp fun _ _ _ z => z.same s⟩
/-- a die -/
def Dice (H : Hp) (d : Addr) : Prop := ∃ a b : Int, H d = some (.lst [.int a, .int b])
theorem RowAt.ne_dice {r d : Addr} {bs : List Bar} (h : RowAt K H r bs) (hd : Dice H d) : r ≠ d := by
  obtain ⟨vs, e, a⟩ := h
  obtain ⟨i, j, e2⟩ := hd
  intro z
  subst z
  rw [e] at e2
  injection e2 with e3
  injection e3 with e4
  subst e4
  cases bs with
  | nil => cases a
  | cons b r =>
    cases a with
    | cons d _ => cases d
theorem PartX.fr {p q d : Addr} {bs : List Bar} {past : List (List Bar)} (h : PartX K H p q bs past) (hd : Dice H d) (s : Fr [d] H H') : PartX K H' p q bs past := by
  obtain ⟨dx, r, ws, h1, n, h2, h3, h4⟩ := h
  obtain ⟨i, j, e2⟩ := id hd
  have np : p ≠ d := ne_of h1 e2 (by intro z; cases z)
  have nq : q ≠ d := by
    intro z
    subst z
    rw [h3] at e2
    injection e2 with e3
    injection e3 with e4
    subst e4
    cases h4 with
    | cons a _ =>
      obtain ⟨r, e, _⟩ := a
      cases e
  exact ⟨dx, r, ws, s.keep _ _ (by simp [np]) h1, n, h2.fr s (by simp [h2.ne_dice hd]), s.keep _ _ (by simp [nq]) h3, h4.imp fun r bs _ z => z.fr s (by simp [z.ne_dice hd])⟩
theorem Fr.step {ds es : List Addr} {H0 H1 H2 : Hp} (a : Fr ds H0 H1) (b : Fr es H1 H2) (h : ∀ e ∈ es, H0 e = none ∨ e ∈ ds) : Fr ds H0 H2 := by
  refine ⟨fun c o n e => b.keep c o (fun z => ?_) (a.keep c o n e), fun c xs e => b.tu c xs (a.tu c xs e), fun c o u e => b.fz c o u (a.fz c o u e)⟩
  rcases h c z with q | q
  · rw [q] at e
    cases e
  · exact n q
end
theorem cut_take {xs : List V} {k : Nat} : cutV xs none (some (k : Int)) = xs.take k := by
  unfold cutV
  rw [HT.sIx_none, HT.sIx_nat]
  show (xs.drop 0).take (min k xs.length - 0) = xs.take k
  rw [List.drop_zero, Nat.sub_zero, List.take_eq_take_min]
  all_goals simp
theorem cut_drop {xs : List V} {k : Nat} : cutV xs (some (k : Int)) none = xs.drop k := by
  unfold cutV
  rw [HT.sIx_none, HT.sIx_nat]
  by_cases h : k ≤ xs.length
  · rw [Nat.min_eq_left h, List.take_of_length_le (by rw [List.length_drop]; omega)]
  · rw [Nat.min_eq_right (by omega), List.drop_length, List.drop_eq_nil_of_le (by omega)]
    exact List.take_nil
theorem sc_is_number : FnScope ["thing", "low", "high"] ["thing", "low", "high"] (defScope s_is_number) := ⟨rfl, rfl, rfl, by decide +kernel, rfl, by decide +kernel, by decide +kernel⟩
section
variable {K : PySem.W.Frag} {mg : Str → Option Value}
theorem b_is_number (T : Txt K mg) : Binds K (fdOf K ("is_number", none)) ["thing", "low", "high"] [] := T.is_number.bindsN fun _ _ _ _ _ _ us hl => match us, hl with | [_, _, _], _ => rfl
end
/-- a whole number between -/
def isNum : PyData → Int → Int → Bool
  | .int i, lo, hi => decide (lo ≤ i) && decide (i ≤ hi)
  | _, _, _ => false
def sp_is_number (K : PySem.W.Frag) : Sp := fun vs H Q _ => ∃ (x : V) (d : PyData) (lo hi : Int), vs = [x, .int lo, .int hi] ∧ Dp K H x d ∧ Q (.bl (isNum d lo hi)) H
theorem ok_is_number {P : Program} {w : World} {K : PySem.W.Frag} {mg : Str → Option Value} {base : Heap} (T : Txt K mg) : OkF P w K mg base CX0 1 ("is_number", none) ["thing", "low", "high"] (sp_is_number K) := by
  refine okN T.is_number sc_is_number (fun vs H Q E h => ?_) (fun cdv A outer s H vs Q E hr h => ?_)
  · obtain ⟨x, d, lo, hi, rfl, _⟩ := h
    rfl
  · obtain ⟨x, d, lo, hi, rfl, hd, q⟩ := h
    refine ⟨_, (pss_one (ps_ret (pe_and (pe_callB call_isi (by rfl) T.b_isinstance (by decide +kernel) (pa_cons (pv 0) (pa_cons (pe_bltn (v := .ty "int") (by rfl) T.b_int (by decide +kernel) rfl) pa_nil))) (pe_and (pe_not (pe_callB call_isi (by rfl) T.b_isinstance (by decide +kernel) (pa_cons (pv 0) (pa_cons (pe_bltn (v := .ty "bool") (by rfl) T.b_bool (by decide +kernel) rfl) pa_nil)))) (pe_one (pe_chain op_le op_le (pv 1) (pv 0) (pv 2))))))), ?_⟩
    refine ⟨_, rfl, _, _, _, _, _, rfl, .ty _, dp_ty hd, kit_int d, _, rfl, ?_⟩
    cases d with
    | int i =>
      cases hd
      refine iteT ⟨_, rfl, _, _, _, _, _, rfl, .ty _, dp_ty (.int i), kit_bool (.int i), _, rfl, _, rfl, iteT ⟨_, rfl, _, rfl, _, _, rfl, rfl, _, rfl, ?_⟩⟩
      replace q : Q (.bl (decide (lo ≤ i) && decide (i ≤ hi))) H := q
      refine ite2 (fun h => ?_) (fun h => ?_)
      · rw [h] at q
        exact ⟨_, rfl, _, _, rfl, rfl, q⟩
      · rw [Bool.eq_false_iff.mpr h] at q
        exact q
    | bool b =>
      cases hd
      exact iteT ⟨_, rfl, _, _, _, _, _, rfl, .ty _, dp_ty (.bl b), kit_bool (.bool b), _, rfl, _, rfl, iteF q⟩
    | _ => exact iteF q
theorem sc_is_bar : FnScope ["thing"] ["thing"] (defScope s_is_bar) := ⟨rfl, rfl, rfl, by decide +kernel, rfl, by decide +kernel, by decide +kernel⟩
section
variable {K : PySem.W.Frag} {mg : Str → Option Value}
theorem b_is_bar (T : Txt K mg) : Binds K (fdOf K ("is_bar", none)) ["thing"] [] := T.is_bar.bindsN fun _ _ _ _ _ _ us hl => match us, hl with | [_], _ => rfl
end
def isBar : PyData → Bool
  | .tuple [a, b, .bool _] => isNum a 1 40 && isNum b 1 16
  | _ => false
theorem isBar_len {ds : List PyData} (h : ds.length ≠ 3) : isBar (.tuple ds) = false := by
  unfold isBar
  split
  · rename_i e
    injection e with e
    subst e
    exact absurd rfl h
  · rfl
theorem isBar_bar {x : Bar} (h : BarOk x) : isBar (barD x) = true := by
  obtain ⟨h1, h2, h3, h4⟩ := h
  show ((decide (1 ≤ x.w) && decide (x.w ≤ 40)) && (decide (1 ≤ x.b) && decide (x.b ≤ 16))) = true
  rw [decide_eq_true h1, decide_eq_true h2, decide_eq_true h3, decide_eq_true h4]
  rfl
def sp_is_bar (K : PySem.W.Frag) : Sp := fun vs H Q _ => ∃ (x : V) (d : PyData), vs = [x] ∧ Dp K H x d ∧ Q (.bl (isBar d)) H
theorem ok_is_bar {P : Program} {w : World} {K : PySem.W.Frag} {mg : Str → Option Value} {base : Heap} (T : Txt K mg) : OkF P w K mg base CX0 2 ("is_bar", none) ["thing"] (sp_is_bar K) := by
  refine okN T.is_bar sc_is_bar (fun vs H Q E h => ?_) (fun cdv A outer s H vs Q E hr h => ?_)
  · obtain ⟨x, d, rfl, _⟩ := h
    rfl
  · obtain ⟨x, d, rfl, hd, q⟩ := h
    refine ⟨_, (pss_cons (ps_if (PW.pt (pw_or (pt_not (pt_val (pe_callB call_isi (by rfl) T.b_isinstance (by decide +kernel) (pa_cons (pv 0) (pa_cons (pe_bltn (v := .ty "tuple") (by rfl) T.b_tuple (by decide +kernel) rfl) pa_nil))))) (pw_or (pt_cmpR op_ne (pe_callB call_len (by rfl) T.b_len PySem.boot_len (pa_cons (pv 0) pa_nil)) pe_int (nomark _)) (pw_or1 (pt_not (pt_val (pe_callB call_isi (by rfl) T.b_isinstance (by decide +kernel) (pa_cons (pe_ix ix_tup (pv 0) pe_int (fun _ _ => rfl)) (pa_cons (pe_bltn (v := .ty "bool") (by rfl) T.b_bool (by decide +kernel) rfl) pa_nil))))))))) (pss_one (ps_ret pe_bl)) pss_nil)
      (pss_one (ps_ret (pe_and (pe_call (ok_is_number T) (hr.mono (by decide)) (by rfl) T.g_is_number T.is_number.kp (b_is_number T) .nil pass0 (pa_cons (pe_ix ix_tup (pv 0) pe_int (fun _ _ => rfl)) (pa_cons pe_int (pa_cons pe_int pa_nil)))) (pe_one (pe_call (ok_is_number T) (hr.mono (by decide)) (by rfl) T.g_is_number T.is_number.kp (b_is_number T) .nil pass0 (pa_cons (pe_ix ix_tup (pv 0) pe_int (fun _ _ => rfl)) (pa_cons pe_int (pa_cons pe_int pa_nil))))))))), ?_⟩
    refine ⟨_, rfl, _, _, _, _, _, rfl, .ty _, dp_ty hd, kit_tup d, _, rfl, ?_⟩
    cases d with
    | tuple ds =>
      cases hd with
      | tup hs ha =>
        refine iteF ⟨_, rfl, _, _, rfl, .inr ⟨_, hs, rfl⟩, rfl, _, rfl, ?_⟩
        by_cases hl : ds.length = 3
        · obtain ⟨d0, d1, d2, rfl⟩ := len3 hl
          obtain ⟨v0, v1, v2, rfl, h0, h1, h2⟩ := dpa3 ha
          refine iteNNQ rfl ⟨_, rfl, _, _, _, _, rfl, rfl, hs, rfl, _, _, _, _, _, rfl, .ty _, dp_ty h2, kit_bool d2, _, rfl, ?_⟩
          cases d2 with
          | bool r =>
            refine iteF ⟨_, rfl, _, _, _, _, rfl, rfl, hs, rfl, _, d0, _, _, rfl, h0, _, rfl, ?_⟩
            replace q : Q (.bl (isNum d0 1 40 && isNum d1 1 16)) H := q
            refine ite2 (fun e => ?_) (fun e => ?_)
            · rw [e] at q
              exact ⟨_, rfl, _, _, _, _, rfl, rfl, hs, rfl, _, d1, _, _, rfl, h1, q⟩
            · rw [Bool.eq_false_iff.mpr e] at q
              exact q
          | _ => exact iteT q
        · rw [isBar_len hl] at q
          exact iteNEQ (by rw [dpa_len ha]; omega) q
    | _ => exact iteT q
theorem sc_Part_init : FnScope ["self", "bars", "one"] ["self", "bars"] (defScope s_Part_init) := ⟨rfl, rfl, rfl, by decide +kernel, rfl, by decide +kernel, by decide +kernel⟩
section
variable {K : PySem.W.Frag} {mg : Str → Option Value}
theorem b1_Part (T : Txt K mg) : Binds K (fdOf K ("Part", some "__init__")) ["self", "bars"] [] := by
  obtain ⟨ds, v, b⟩ := T.Part_init.binds1 (ps := ["self", "bars"]) 2 1 (by simp) rfl fun T kV doc pm an cdv ct us its h1 h2 => match us, its, h1, h2 with | [_, _], [_], _, _ => ⟨_, rfl, rfl⟩
  cases v
  exact b
theorem b0_Part (T : Txt K mg) : ∃ ds, Vals [.non] ds ∧ Binds K (fdOf K ("Part", some "__init__")) ["self", "bars"] ds :=
  T.Part_init.binds1 (ps := ["self", "bars"]) 1 0 (by simp) rfl fun T kV doc pm an cdv ct us its h1 h2 => match us, its, h1, h2 with | [_], [_], _, _ => ⟨_, rfl, rfl⟩
end
def sp_Part_init (K : PySem.W.Frag) : Sp := fun vs H Q _ => ∃ (x dx : Addr) (v : V) (bs : List Bar), vs = [.ref x, v] ∧ H x = some (.ins (pC K) dx []) ∧ (v = .non ∧ bs = [] ∨ ∃ a, v = .ref a ∧ Dp K H (.ref a) (.list (barsD bs))) ∧ (∀ b ∈ bs, BarOk b) ∧ bs.length ≤ 40 ∧
  ∀ H' q, Fr [x] H H' → H q = none → PartX K H' x q bs [] → Q .non H'
theorem isBars : ∀ {bs : List Bar}, (∀ b ∈ bs, BarOk b) → (bs.map fun b => isBar (barD b)).all id = true
  | [], _ => rfl
  | x :: r, h => by
    show (isBar (barD x) && ((r.map fun b => isBar (barD b)).all id)) = true
    rw [isBar_bar (h x List.mem_cons_self), isBars fun b hb => h b (List.mem_cons_of_mem _ hb)]
    rfl
theorem ok_Part_init {P : Program} {w : World} {K : PySem.W.Frag} {mg : Str → Option Value} {base : Heap} (T : Txt K mg) : OkF P w K mg base CX0 3 ("Part", some "__init__") ["self", "bars"] (sp_Part_init K) := by
  refine okN T.Part_init sc_Part_init (fun vs H Q E h => ?_) (fun cdv A outer s H vs Q E hr h => ?_)
  · obtain ⟨x, dx, v, bs, rfl, _⟩ := h
    rfl
  · obtain ⟨x, dx, v, bs, rfl, hx, hv, ok, hl, z⟩ := h
    refine ⟨_, (pss_cons (ps_if (PW.pt (pw_and (pt_cmp (pc_notN (pv 1))) (pw_and1 (PW.pt (pw_or (pt_not (pt_val (pe_callB call_isi (by rfl) T.b_isinstance (by decide +kernel) (pa_cons (pv 1) (pa_cons (pe_bltn (v := .ty "list") (by rfl) T.b_list (by decide +kernel) rfl) pa_nil))))) (pw_or1 (pt_not (pt_val (pe_callB (cr_all rfl) (by rfl) T.b_all (by decide +kernel) (pa_cons (pe_lc (own := [("one", 2)]) (g := (gName 2)) (tt := tYes) (by rfl) sc_Part_init.nd (pi_list (pv 1)) (blkOk_by (own := [("one", 2)]) (N := ["self", "bars", "one"]) (sc := defScope s_Part_init) (by decide +kernel)) (fun _ _ _ _ _ => (pg_name (i := 2) sc_Part_init.nd rfl (by first | exact Or.inl rfl | exact Or.inr rfl))) (fun _ _ _ _ _ => pts_nil) (fun _ _ _ _ _ => (pe_call (ok_is_bar T) (hr.mono (by decide)) (by rfl) T.g_is_bar T.is_bar.kp (b_is_bar T) .nil pass0 (pa_cons (pv 2) pa_nil)))) pa_nil)))))))))) pss_never pss_nil)
      (pss_cons (ps_fld (pv 0) (pe_ifExp (pt_cmp (pc_notN (pv 1))) (pe_callTy call_list_of (by rfl) T.b_list (by decide +kernel) (pa_cons (pv 1) pa_nil)) (pe_lst pa_nil)) rfl)
      (pss_cons (ps_if (pt_cmpR op_gt (pe_callB call_len (by rfl) T.b_len PySem.boot_len (pa_cons (pe_fld (pv 0) rfl) pa_nil)) (pe_glob (v := .int 40) (by rfl) T.c_MOST.choose_spec ⟨_, rfl⟩) (nomark _)) pss_never pss_nil)
      (pss_one (ps_fld (pv 0) (pe_lst pa_nil) rfl))))), ?_⟩
    -- what follows the row's store
    have tail : ∀ (H1 : Hp) (r : Addr) (vs : List V), Fr [x] H H1 → H1 x = some (.ins (pC K) dx []) → H r = none → H1 r = some (.lst vs) → DpAll K H1 vs (barsD bs) →
        ∀ (H2 : Hp), H2 = upd H1 x (.ins (pC K) dx [("row", .ref r)]) → (H2 x = some (.ins (pC K) dx [("row", .ref r)]) ∧ H2 r = some (.lst vs) ∧ Fr [x] H H2 ∧ DpAll K H2 vs (barsD bs)) := by
      intro H1 r vs f h1 nr h2 h3 H2 e
      subst e
      have f2 : Fr [x] H1 (upd H1 x (.ins (pC K) dx [("row", .ref r)])) := Fr.upd h1 trivial (by simp)
      refine ⟨upd_same, ?_, f.trans f2, f2.dpa h3 (isTs_bars bs)⟩
      rw [upd_ne (ne_of h2 h1 (by intro z; cases z))]
      exact h2
    have fin : ∀ (H2 : Hp) (r q : Addr) (vs : List V), H2 x = some (.ins (pC K) dx [("row", .ref r)]) → H2 r = some (.lst vs) → Fr [x] H H2 → DpAll K H2 vs (barsD bs) → H2 q = none →
        Q .non (upd (upd H2 q (.lst [])) x (.ins (pC K) dx (pf r q))) := by
      intro H2 r q vs h1 h2 f h3 nq
      have s : Same H2 (upd H2 q (.lst [])) := same_upd nq
      have nqx : x ≠ q := ne_of_none h1 nq
      have nqr : r ≠ q := ne_of_none h2 nq
      have h1' : (upd H2 q (.lst [])) x = some (.ins (pC K) dx [("row", .ref r)]) := s _ _ h1
      have f2 : Fr [x] (upd H2 q (.lst [])) (upd (upd H2 q (.lst [])) x (.ins (pC K) dx (pf r q))) := Fr.upd h1' trivial (by simp)
      have f3 := (f.trans (Fr.of s _)).trans f2
      have nq0 : H q = none := by
        cases e : H q with
        | none => rfl
        | some o =>
          have := f.keep q o (by simp [nqx.symm]) e
          rw [nq] at this
          cases this
      refine z _ q f3 nq0 ⟨dx, r, [], upd_same, nqr, ⟨vs, ?_, f2.dpa (dpa_same s h3) (isTs_bars bs)⟩, ?_, .nil⟩
      · rw [upd_ne (ne_of (s _ _ h2) h1' (by intro z; cases z))]
        exact s _ _ h2
      · rw [upd_ne nqx.symm, upd_same]
    rcases hv with ⟨rfl, rfl⟩ | ⟨a, rfl, hd⟩
    · refine ⟨_, rfl, _, rfl, ?_⟩
      refine iteF ⟨_, rfl, _, rfl, iteF ⟨by decide, fun r nr => ?_⟩⟩
      have s : Same H (upd H r (.lst [])) := same_upd nr
      refine ⟨_, rfl, x, _, dx, _, rfl, s _ _ hx, T.cl_Part, T.n_row, by decide, ?_⟩
      obtain ⟨h1, h2, h3, h4⟩ := tail _ r [] (Fr.of s _) (s _ _ hx) nr upd_same .nil _ rfl
      refine ⟨_, rfl, x, _, dx, _, _, rfl, h1, T.cl_Part, T.n_row, rfl, _, _, rfl, .inl ⟨_, .of h2, rfl⟩, _, _, rfl, rfl, _, rfl, iteN (by decide) ?_⟩
      exact ⟨by decide, fun q nq => ⟨_, rfl, x, _, dx, [("row", .ref r)], rfl, by rw [upd_ne (ne_of_none h1 nq)]; exact h1, T.cl_Part, T.n_past, by show (1 : Nat) < 1000; decide, fin _ r q [] h1 h2 h3 h4 nq⟩⟩
    · obtain ⟨vs, hs, ha⟩ := lst_bars hd
      refine ⟨_, rfl, _, rfl, ?_⟩
      refine iteT ⟨_, rfl, _, _, _, _, _, rfl, .ty _, dp_ty hd, kit_lst _, _, rfl, iteF ?_⟩
      refine ⟨_, rfl, a, rfl, ⟨_, hs⟩, fun D hD => lc_list (K := K) (a := a) (xs := vs) (fun i H' => Same H H' ∧ H' D = some (.lst (((bs.take i).map fun b => isBar (barD b)).map V.bl))) ⟨same_upd hD, ?_⟩ ?_ ?_ ?_⟩
      · rw [upd_same]
        rfl
      · rintro i H' _ ⟨s, _⟩
        exact s.seq hs
      · rintro i v H' hv ⟨s, e⟩
        obtain ⟨b, p, hb, rfl, hp⟩ := bar_at ha hv
        refine ⟨rfl, _, rfl, _, _, rfl, dp_bar_of (same_sqt s hp), _, e, ?_, ?_, ?_⟩
        · rw [List.length_map, List.length_map, List.length_take]
          exact small1000 (by omega)
        · exact same_updR s hD
        · rw [upd_same, take_at hb, List.map_append, List.map_append]
          rfl
      · rintro H1 ⟨s1, e1⟩
        rw [bars_len ha, List.take_length] at e1
        refine ⟨D, _, rfl, .of e1, _, rfl, ?_⟩
        rw [isBars ok]
        refine iteF ⟨_, rfl, _, rfl, iteT ⟨_, rfl, a, vs, rfl, .inl (s1.seq hs), fun r nr => ?_⟩⟩
        have s2 := s1.trans (same_upd (o := .lst vs) nr)
        refine ⟨_, rfl, x, _, dx, _, rfl, s2 _ _ hx, T.cl_Part, T.n_row, by decide, ?_⟩
        obtain ⟨h1, h2, h3, h4⟩ := tail _ r vs (Fr.of s2 _) (s2 _ _ hx) (s1.free nr) upd_same (dpa_same s2 ha) _ rfl
        refine ⟨_, rfl, x, _, dx, _, _, rfl, h1, T.cl_Part, T.n_row, rfl, _, _, rfl, .inl ⟨_, .of h2, rfl⟩, _, _, rfl, rfl, _, rfl, iteN (by rw [bars_len ha]; omega) ?_⟩
        exact ⟨by decide, fun q nq => ⟨_, rfl, x, _, dx, [("row", .ref r)], rfl, by rw [upd_ne (ne_of_none h1 nq)]; exact h1, T.cl_Part, T.n_past, by show (1 : Nat) < 1000; decide, fin _ r q vs h1 h2 h3 h4 nq⟩⟩
/-! ### the shape of data -/
def Shp (n : Nat) (d : PyData) : Prop := d.canLay0 = true ∧ d.depth ≤ n
def ShpA (n : Nat) (ds : List PyData) : Prop := PyData.canLayAll0 ds = true ∧ PyData.depthAll ds ≤ n
theorem shpA_nil {n : Nat} : ShpA n [] := ⟨by simp [PyData.canLayAll0], by simp [PyData.depthAll]⟩
theorem shpA_cons {n : Nat} {d : PyData} {ds : List PyData} (h : Shp n d) (t : ShpA n ds) : ShpA n (d :: ds) := by
  refine ⟨?_, ?_⟩
  · simp only [PyData.canLayAll0, h.1, t.1, Bool.and_self]
  · simp only [PyData.depthAll]
    exact Nat.max_le.mpr ⟨h.2, t.2⟩
theorem shpA_all {n : Nat} : ∀ {ds : List PyData}, (∀ d ∈ ds, Shp n d) → ShpA n ds
  | [], _ => shpA_nil
  | d :: ds, h => shpA_cons (h d List.mem_cons_self) (shpA_all fun e he => h e (List.mem_cons_of_mem _ he))
theorem shp_list {n : Nat} {ds : List PyData} (h : ShpA n ds) : Shp (n + 1) (.list ds) := ⟨by simp only [PyData.canLay0]; exact h.1, by simp only [PyData.depth]; exact Nat.succ_le_succ h.2⟩
theorem shp_tup {n : Nat} {ds : List PyData} (h : ShpA n ds) : Shp (n + 1) (.tuple ds) := ⟨by simp only [PyData.canLay0]; exact h.1, by simp only [PyData.depth]; exact Nat.succ_le_succ h.2⟩
theorem shp_int {n : Nat} (i : Int) : Shp n (.int i) := ⟨by simp [PyData.canLay0], by simp [PyData.depth]⟩
theorem shp_bool {n : Nat} (b : Bool) : Shp n (.bool b) := ⟨by simp [PyData.canLay0], by simp [PyData.depth]⟩
theorem shp_none {n : Nat} : Shp n .none := ⟨by simp [PyData.canLay0], by simp [PyData.depth]⟩
theorem shp_str {n : Nat} {x : Str} (h : PyData.strOk x = true) : Shp n (.str x) := ⟨by simp only [PyData.canLay0]; exact h, by simp [PyData.depth]⟩
theorem Shp.ok {n : Nat} {d : PyData} (h : Shp n d) (hn : n ≤ 64) : SeqAt.shaped d = true := by
  unfold SeqAt.shaped
  rw [h.1, decide_eq_true (Nat.le_trans h.2 hn)]
  rfl
theorem Shp.mono {n m : Nat} {d : PyData} (h : Shp n d) (hn : n ≤ m) : Shp m d := ⟨h.1, Nat.le_trans h.2 hn⟩
theorem ShpA.mono {n m : Nat} {ds : List PyData} (h : ShpA n ds) (hn : n ≤ m) : ShpA m ds := ⟨h.1, Nat.le_trans h.2 hn⟩
/-! ### == of lists by their items -/
theorem eqvAll_map {α : Type} {f : α → PyData} (hf : ∀ a b : α, PyData.eqv (f a) (f b) = true ↔ a = b) : ∀ xs ys : List α, PyData.eqvAll (xs.map f) (ys.map f) = true ↔ xs = ys
  | [], [] => by simp [PyData.eqvAll]
  | [], _ :: _ => by simp [PyData.eqvAll]
  | _ :: _, [] => by simp [PyData.eqvAll]
  | x :: xs, y :: ys => by
    simp only [List.map_cons, PyData.eqvAll, Bool.and_eq_true, hf x y, eqvAll_map hf xs ys, List.cons.injEq]
theorem eqv_listM {α : Type} {f : α → PyData} (hf : ∀ a b : α, PyData.eqv (f a) (f b) = true ↔ a = b) (xs ys : List α) : PyData.eqv (.list (xs.map f)) (.list (ys.map f)) = true ↔ xs = ys := by
  simp only [PyData.eqv]
  exact eqvAll_map hf xs ys
theorem eqv_tupM {α : Type} {f : α → PyData} (hf : ∀ a b : α, PyData.eqv (f a) (f b) = true ↔ a = b) (xs ys : List α) : PyData.eqv (.tuple (xs.map f)) (.tuple (ys.map f)) = true ↔ xs = ys := by
  simp only [PyData.eqv]
  exact eqvAll_map hf xs ys
theorem eqv_int (i j : Int) : PyData.eqv (.int i) (.int j) = true ↔ i = j := by simp [PyData.eqv]
theorem eqv_nil {xs : List PyData} : PyData.eqv (.list xs) (.list []) = true ↔ xs = [] := by
  cases xs <;> simp [PyData.eqv, PyData.eqvAll]
theorem dpa_ints {K : PySem.W.Frag} {H : Hp} : ∀ ns : List Int, DpAll K H (ns.map V.int) (ns.map PyData.int)
  | [] => .nil
  | n :: r => .cons (.int n) (dpa_ints r)
theorem shp_ints (ns : List Int) : Shp 1 (.list (ns.map PyData.int)) := shp_list (shpA_all fun d hd => by
  obtain ⟨i, _, rfl⟩ := List.mem_map.mp hd
  exact shp_int i)
theorem shp_nil {n : Nat} : Shp (n + 1) (.list []) := shp_list shpA_nil
theorem sc__law_cell : FnScope ["script", "k"] ["script", "k"] (defScope s__law_cell) := ⟨rfl, rfl, rfl, by decide +kernel, rfl, by decide +kernel, by decide +kernel⟩
section
variable {K : PySem.W.Frag} {mg : Str → Option Value}
theorem b__law_cell (T : Txt K mg) : Binds K (fdOf K ("_law_cell", none)) ["script", "k"] [] := T._law_cell.bindsN fun _ _ _ _ _ _ us hl => match us, hl with | [_, _], _ => rfl
end
def sp__law_cell (K : PySem.W.Frag) : Sp := fun vs H Q _ => ∃ (a : Addr) (ns : List Int) (k : Nat), vs = [.ref a, .int (k : Int)] ∧ SqL K H a (ns.map V.int) ∧ ns.length ≤ 63 ∧ k ≤ 1000 ∧ ∀ H' i, Same H H' → Q (.int i) H'
theorem ok__law_cell {P : Program} {w : World} {K : PySem.W.Frag} {mg : Str → Option Value} {base : Heap} (T : Txt K mg) : OkF P w K mg base CX0 1 ("_law_cell", none) ["script", "k"] (sp__law_cell K) := by
  refine okN T._law_cell sc__law_cell (fun vs H Q E h => ?_) (fun cdv A outer s H vs Q E hr h => ?_)
  · obtain ⟨a, ns, k, rfl, _⟩ := h
    rfl
  · obtain ⟨a, ns, k, rfl, hs, hl, hk, z⟩ := h
    refine ⟨_, (pss_cons (ps_if (pt_cmpR (op_eqD hr.units) (pv 0) (pe_lst pa_nil) (nomark _)) (pss_one (ps_ret (pe_op op_mul (pv 1) pe_int))) pss_nil)
      (pss_one (ps_ret (pe_op op_add (pe_ix ix_list (pv 0) (pe_op op_mod (pv 1) (pe_callB call_len (by rfl) T.b_len PySem.boot_len (pa_cons (pv 0) pa_nil))) (fun _ _ => rfl)) (pe_op op_mul (pe_op op_fdiv (pv 1) (pe_callB call_len (by rfl) T.b_len PySem.boot_len (pa_cons (pv 0) pa_nil))) pe_int))))), ?_⟩
    refine ⟨_, rfl, by decide, fun e ne => ?_⟩
    have s1 : Same H (upd H e (.lst [])) := same_upd ne
    refine ⟨_, _, .lst (s1.seq hs) (dpa_ints ns), .lst (.of upd_same) .nil, (shp_ints ns).ok (by decide), (shp_nil (n := 0)).ok (by decide), _, rfl, ?_⟩
    refine ite2 (fun h => ?_) (fun h => ?_)
    · exact ⟨_, rfl, _, _, rfl, rfl, .inr ⟨by decide, by decide⟩, z _ _ s1⟩
    · have hn : ns ≠ [] := fun e => h (eqv_nil.mpr (by rw [e]; rfl))
      have hpos : 0 < ns.length := List.length_pos_iff.mpr hn
      have hb := Int.emod_nonneg (k : Int) (b := (ns.length : Int)) (by omega)
      have hb2 := Int.emod_lt_of_pos (k : Int) (b := (ns.length : Int)) (by omega)
      have hi : ((k : Int) % (ns.length : Int)).toNat < ns.length := by omega
      refine ⟨_, rfl, _, rfl, _, rfl, _, _, rfl, .inl ⟨_, s1.seq hs, rfl⟩, _, _, rfl, rfl, by rw [List.length_map]; omega, ?_⟩
      rw [List.length_map]
      refine ⟨a, _, _, .int ns[((k : Int) % (ns.length : Int)).toNat], rfl, rfl, s1.seq hs, at_of (j := ((k : Int) % (ns.length : Int)).toNat) (by omega) (by rw [List.getElem?_map, List.getElem?_eq_getElem hi]; rfl), ?_⟩
      refine ⟨_, rfl, _, rfl, _, _, rfl, .inl ⟨_, s1.seq hs, rfl⟩, _, _, rfl, rfl, ⟨by rw [List.length_map]; omega, by rw [List.length_map]; omega⟩, ?_⟩
      exact ⟨_, _, rfl, rfl, .inr ⟨by decide, by decide⟩, _, _, rfl, rfl, z _ _ s1⟩
theorem sc__law_rounds : FnScope ["script", "most", "k"] ["script", "most"] (defScope s__law_rounds) := ⟨rfl, rfl, rfl, by decide +kernel, rfl, by decide +kernel, by decide +kernel⟩
section
variable {K : PySem.W.Frag} {mg : Str → Option Value}
theorem b__law_rounds (T : Txt K mg) : Binds K (fdOf K ("_law_rounds", none)) ["script", "most"] [] := T._law_rounds.bindsN fun _ _ _ _ _ _ us hl => match us, hl with | [_, _], _ => rfl
end
def sp__law_rounds (K : PySem.W.Frag) : Sp := fun vs H Q _ => ∃ (a : Addr) (ns : List Int) (most : Nat), vs = [.ref a, .int (most : Int)] ∧ SqL K H a (ns.map V.int) ∧ ns.length ≤ 63 ∧ most ≤ 1000 ∧
  ∀ H' (R : Addr) (ds : List Addr), Same H H' → H R = none → H' R = some (.lst (ds.map V.ref)) → (∀ d ∈ ds, Dice H' d ∧ d ≠ R) → ds.length ≤ 1000 → Q (.ref R) H'
theorem ok__law_rounds {P : Program} {w : World} {K : PySem.W.Frag} {mg : Str → Option Value} {base : Heap} (T : Txt K mg) : OkF P w K mg base CX0 2 ("_law_rounds", none) ["script", "most"] (sp__law_rounds K) := by
  refine okN T._law_rounds sc__law_rounds (fun vs H Q E h => ?_) (fun cdv A outer s H vs Q E hr h => ?_)
  · obtain ⟨a, ns, most, rfl, _⟩ := h
    rfl
  · obtain ⟨a, ns, most, rfl, hs, hl, hm, z⟩ := h
    refine ⟨_, (pss_one (ps_ret (pe_lc (own := [("k", 2)]) (g := (gName 2)) (tt := tYes) (by rfl) sc__law_rounds.nd (pi_range1 (by rfl) T.b_range (pa_cons (pe_callB (call_max2 rfl) (by rfl) T.b_max (by decide +kernel) (pa_cons pe_int (pa_cons (pe_callB (call_min2 rfl) (by rfl) T.b_min (by decide +kernel) (pa_cons (pv 1) (pa_cons (pe_callB call_len (by rfl) T.b_len PySem.boot_len (pa_cons (pv 0) pa_nil)) pa_nil))) pa_nil))) pa_nil)) (blkOk_by (own := [("k", 2)]) (N := ["script", "most", "k"]) (sc := defScope s__law_rounds) (by decide +kernel)) (fun _ _ _ _ _ => (pg_name (i := 2) sc__law_rounds.nd rfl (by first | exact Or.inl rfl | exact Or.inr rfl))) (fun _ _ _ _ _ => pts_nil) (fun _ _ _ _ _ => (pe_lst (pa_cons (pe_call (ok__law_cell T) (hr.mono (by decide)) (by rfl) T.g__law_cell T._law_cell.kp (b__law_cell T) .nil pass0 (pa_cons (pv 0) (pa_cons (pv 2) pa_nil))) (pa_cons pe_int pa_nil))))))), ?_⟩
    refine ⟨_, rfl, _, rfl, _, _, rfl, .inl ⟨_, hs, rfl⟩, _, _, rfl, _, _, rfl, _, rfl, ?_⟩
    rw [List.length_map]
    have hb : ∃ n : Nat, (if (if (ns.length : Int) < (most : Int) then (ns.length : Int) else (most : Int)) > 1 then (if (ns.length : Int) < (most : Int) then (ns.length : Int) else (most : Int)) else 1) = (n : Int) ∧ n ≤ 1000 := by
      by_cases h1 : (ns.length : Int) < (most : Int)
      · rw [if_pos h1]
        by_cases h2 : (ns.length : Int) > 1
        · exact ⟨ns.length, if_pos h2, by omega⟩
        · exact ⟨1, if_neg h2, by omega⟩
      · rw [if_neg h1]
        by_cases h2 : (most : Int) > 1
        · exact ⟨most, if_pos h2, by omega⟩
        · exact ⟨1, if_neg h2, by omega⟩
    obtain ⟨n, en, hn⟩ := hb
    rw [en]
    refine ⟨by omega, by omega, fun D hD => lc_range (lo := 0) (n := n) (fun i H' => Same H H' ∧ ∃ ds : List Addr, H' D = some (.lst (ds.map V.ref)) ∧ ds.length = i ∧ ∀ d ∈ ds, Dice H' d ∧ d ≠ D) ⟨same_upd hD, [], upd_same, rfl, fun _ h => nomatch h⟩ ?_ ?_⟩
    · rintro i H1 hi ⟨s1, ds, e1, hlen, hds⟩
      refine ⟨rfl, _, rfl, _, rfl, a, ns, i, ?_, s1.seq hs, hl, by omega, fun H2 c s2 => ⟨by show (2 : Nat) ≤ sizeLine; decide, fun d nd => ?_⟩⟩
      · show [V.ref a, V.int (0 + (i : Int))] = [V.ref a, V.int (i : Int)]
        rw [Int.zero_add]
      have s3 := s2.trans (same_upd (o := .lst [.int c, .int 0]) nd)
      have e3 := s3 _ _ e1
      refine ⟨_, e3, ?_, ?_, ds ++ [d], ?_, ?_, ?_⟩
      · rw [List.length_map]
        exact small1000 (by omega)
      · exact same_updR (s1.trans s3) hD
      · rw [upd_same, List.map_append]
        rfl
      · rw [List.length_append, hlen]
        rfl
      · intro x hx
        have nD : d ≠ D := fun e => by
          rw [e] at nd
          rw [s2 _ _ e1] at nd
          cases nd
        rcases List.mem_append.mp hx with hx | hx
        · obtain ⟨⟨p, q, hp⟩, nx⟩ := hds x hx
          exact ⟨⟨p, q, by rw [upd_ne nx]; exact s3 _ _ hp⟩, nx⟩
        · have ex : x = d := by simpa using hx
          subst ex
          exact ⟨⟨c, 0, by rw [upd_ne nD, upd_same]⟩, nD⟩
    · rintro H1 ⟨s1, ds, e1, hlen, hds⟩
      exact z H1 D ds s1 hD e1 hds (by omega)
theorem sc__law_drawn : FnScope ["cell", "k", "more"] ["cell", "k"] (defScope s__law_drawn) := ⟨rfl, rfl, rfl, by decide +kernel, rfl, by decide +kernel, by decide +kernel⟩
section
variable {K : PySem.W.Frag} {mg : Str → Option Value}
theorem b__law_drawn (T : Txt K mg) : Binds K (fdOf K ("_law_drawn", none)) ["cell", "k"] [] := T._law_drawn.bindsN fun _ _ _ _ _ _ us hl => match us, hl with | [_, _], _ => rfl
end
theorem mod_abs {x M : Int} {a : Nat} (h : 0 < M) (hM : M.natAbs < 2 ^ a) : (x % M).natAbs < 2 ^ a := by
  have h1 := Int.emod_nonneg x (b := M) (by omega)
  have h2 := Int.emod_lt_of_pos x h
  exact Nat.lt_of_le_of_lt (by omega) hM
theorem mod1_abs {x M : Int} {a : Nat} (h : 0 < M) (hM : M.natAbs < 2 ^ a) : (x % M + 1).natAbs < 2 ^ a := by
  have h1 := Int.emod_nonneg x (b := M) (by omega)
  have h2 := Int.emod_lt_of_pos x h
  exact Nat.lt_of_le_of_lt (by omega) hM
theorem div1_abs {x M P : Int} {a : Nat} (h : 0 < M) (hP : 0 < P) (hM : M.natAbs < 2 ^ a) : (x % M / P + 1).natAbs < 2 ^ a := by
  have h1 := Int.emod_nonneg x (b := M) (by omega)
  have h2 := Int.emod_lt_of_pos x h
  have h3 : 0 ≤ x % M / P := Int.ediv_nonneg h1 (by omega)
  have h4 : x % M / P ≤ x % M := Int.ediv_le_self P h1
  exact Nat.lt_of_le_of_lt (by omega) hM
def sp__law_drawn : Sp := fun vs H Q _ => ∃ c k : Int, vs = [.int c, .int k] ∧ ∀ r : Int, Q (.int r) H
theorem ok__law_drawn {P : Program} {w : World} {K : PySem.W.Frag} {mg : Str → Option Value} {base : Heap} (T : Txt K mg) : OkF P w K mg base CX0 1 ("_law_drawn", none) ["cell", "k"] sp__law_drawn := by
  refine okN T._law_drawn sc__law_drawn (fun vs H Q E h => ?_) (fun cdv A outer s H vs Q E hr h => ?_)
  · obtain ⟨c, k, rfl, _⟩ := h
    rfl
  · obtain ⟨c, k, rfl, z⟩ := h
    refine ⟨_, (pss_cons (ps_set (i := 2) sc__law_drawn.nd rfl (by first | exact Or.inl rfl | exact Or.inr rfl) (pe_op op_mod (pe_op op_add (pe_op op_mul (pv 0) pe_int) (pe_op op_mul (pe_op op_add (pv 1) pe_int) pe_int)) pe_int))
      (pss_cons (ps_set (i := 2) sc__law_drawn.nd rfl (by first | exact Or.inl rfl | exact Or.inr rfl) (pe_op op_mod (pe_op op_mulW (pv 2) (pv 2)) pe_int))
      (pss_cons (ps_set (i := 2) sc__law_drawn.nd rfl (by first | exact Or.inl rfl | exact Or.inr rfl) (pe_op op_mulW (pe_op op_mulW (pe_op op_add (pe_op op_mod (pv 2) pe_int) pe_int) (pe_op op_add (pe_op op_fdivW (pv 2) pe_int) pe_int)) (pv 2)))
      (pss_one (ps_ret (pe_op op_mod (pv 2) pe_int)))))), ?_⟩
    refine ⟨_, rfl, _, _, rfl, rfl, .inr ⟨by decide, by decide⟩, _, rfl, _, _, rfl, rfl, _, _, rfl, rfl, .inr ⟨by decide, by decide⟩, _, _, rfl, rfl, _, _, rfl, rfl, (by show (0 : Int) < 340282366920938463463374607431768211507; decide), ?_⟩
    refine ⟨_, rfl, _, rfl, _, _, rfl, rfl, wide_mul (a := 129) (b := 129) (mod_abs (by decide) (by decide)) (mod_abs (by decide) (by decide)) (by decide) (by decide) (by decide), _, _, rfl, rfl, (by show (0 : Int) < 340282366920938463463374607431768211297; decide), ?_⟩
    refine ⟨_, rfl, _, _, rfl, rfl, (by show (0 : Int) < 18446744073709551557; decide), _, _, rfl, rfl, _, rfl, _, _, rfl, rfl, ⟨by decide, by decide +kernel⟩, _, _, rfl, rfl, _, _, rfl, rfl, ?_, ?_⟩
    · exact wide_mul (a := 129) (b := 129) (mod1_abs (by decide) (by decide)) (div1_abs (by decide) (by decide) (by decide)) (by decide) (by decide) (by decide)
    · refine ⟨_, rfl, _, _, rfl, rfl, wide_mul (a := 258) (b := 129) (wide_lt (a := 129) (b := 129) (mod1_abs (by decide) (by decide)) (div1_abs (by decide) (by decide) (by decide))) (mod_abs (by decide) (by decide)) (by decide) (by decide) (by decide), ?_⟩
      exact ⟨_, rfl, _, _, rfl, rfl, (by show (0 : Int) < 340282366920938463463374607431768211507; decide), z _⟩
theorem sc__law_roll : FnScope ["dice", "many", "told"] ["dice", "many"] (defScope s__law_roll) := ⟨rfl, rfl, rfl, by decide +kernel, rfl, by decide +kernel, by decide +kernel⟩
section
variable {K : PySem.W.Frag} {mg : Str → Option Value}
theorem b__law_roll (T : Txt K mg) : Binds K (fdOf K ("_law_roll", none)) ["dice", "many"] [] := T._law_roll.bindsN fun _ _ _ _ _ _ us hl => match us, hl with | [_, _], _ => rfl
end
def sp__law_roll : Sp := fun vs H Q _ => ∃ (d : Addr) (many : Int), vs = [.ref d, .int many] ∧ Dice H d ∧ 0 < many ∧ many < 1073741824 ∧ ∀ H' (r : Int), Fr [d] H H' → Dice H' d → 0 ≤ r → r < many → Q (.int r) H'
theorem ok__law_roll {P : Program} {w : World} {K : PySem.W.Frag} {mg : Str → Option Value} {base : Heap} (T : Txt K mg) : OkF P w K mg base CX0 2 ("_law_roll", none) ["dice", "many"] sp__law_roll := by
  refine okN T._law_roll sc__law_roll (fun vs H Q E h => ?_) (fun cdv A outer s H vs Q E hr h => ?_)
  · obtain ⟨d, many, rfl, _⟩ := h
    rfl
  · obtain ⟨d, many, rfl, ⟨a, b, hd⟩, h1, h2, z⟩ := h
    refine ⟨_, (pss_cons (ps_if (pt_cmpR op_ge (pe_ix ix_list (pv 0) pe_int (fun _ _ => rfl)) (pe_op op_pow pe_int pe_int) (nomark _)) (pss_cons (ps_set (i := 2) sc__law_roll.nd rfl (by first | exact Or.inl rfl | exact Or.inr rfl) (pe_op op_mod (pe_ix ix_list (pv 0) pe_int (fun _ _ => rfl)) (pv 1)))
      (pss_cons (ps_asg (pe_op op_fdiv (pe_ix ix_list (pv 0) pe_int (fun _ _ => rfl)) (pv 1)) (pg_sub (pv 0) pe_int set_list))
      (pss_one (ps_ret (pv 2))))) pss_nil)
      (pss_cons (ps_asg (pe_op op_add (pe_ix ix_list (pv 0) pe_int (fun _ _ => rfl)) pe_int) (pg_sub (pv 0) pe_int set_list))
      (pss_one (ps_ret (pe_op op_mod (pe_op op_fdiv (pe_call (ok__law_drawn T) (hr.mono (by decide)) (by rfl) T.g__law_drawn T._law_drawn.kp (b__law_drawn T) .nil pass0 (pa_cons (pe_ix ix_list (pv 0) pe_int (fun _ _ => rfl)) (pa_cons (pe_ix ix_list (pv 0) pe_int (fun _ _ => rfl)) pa_nil))) pe_int) (pv 1)))))), ?_⟩
    refine ⟨_, rfl, d, _, _, _, rfl, rfl, .of hd, rfl, _, _, rfl, rfl, ⟨by decide, by decide, by decide⟩, _, _, rfl, rfl, _, rfl, ?_⟩
    refine ite2 (fun h => ?_) (fun h => ?_)
    · refine ⟨_, rfl, d, _, _, _, rfl, rfl, .of hd, rfl, _, rfl, _, _, rfl, rfl, h1, ?_⟩
      refine ⟨_, rfl, d, _, _, _, rfl, rfl, .of hd, rfl, _, rfl, _, _, rfl, rfl, ⟨h1, h2⟩, _, rfl, d, _, _, 0, rfl, rfl, hd, rfl, ?_⟩
      exact ⟨_, rfl, z _ _ (Fr.upd hd trivial (by simp)) ⟨_, _, upd_same⟩ (Int.emod_nonneg _ (by omega)) (Int.emod_lt_of_pos _ h1)⟩
    · refine ⟨_, rfl, d, _, _, _, rfl, rfl, .of hd, rfl, _, _, rfl, rfl, _, rfl, d, _, _, 1, rfl, rfl, hd, rfl, ?_⟩
      refine ⟨_, rfl, d, _, _, _, rfl, rfl, .of upd_same, rfl, _, rfl, d, _, _, _, rfl, rfl, .of upd_same, rfl, _, _, rfl, fun r => ?_⟩
      exact ⟨_, _, rfl, rfl, ⟨by decide, by decide⟩, _, rfl, _, _, rfl, rfl, h1, z _ _ (Fr.upd hd trivial (by simp)) ⟨_, _, upd_same⟩ (Int.emod_nonneg _ (by omega)) (Int.emod_lt_of_pos _ h1)⟩
def sp_law (K : PySem.W.Frag) : Sp := fun vs H Q _ => ∃ (a : Addr) (ns : List Int), vs = [.ref a] ∧ SqL K H a (ns.map V.int) ∧ ns.length ≤ 63 ∧ ∀ H', Q (.bl true) H'
/-- the dice of all rounds -/
def Rnd (H : Hp) (R : Addr) (ds : List Addr) : Prop := H R = some (.lst (ds.map V.ref)) ∧ ∀ d ∈ ds, Dice H d ∧ d ≠ R
theorem Rnd.turn {H0 H1 : Hp} {R d : Addr} {ds : List Addr} (h : Rnd H0 R ds) (hd : d ∈ ds) (f : Fr [d] H0 H1) (hd1 : Dice H1 d) : Rnd H1 R ds := by
  obtain ⟨h1, h2⟩ := h
  refine ⟨f.keep _ _ (by simp [(h2 d hd).2.symm]) h1, fun x hx => ⟨?_, (h2 x hx).2⟩⟩
  by_cases e : x = d
  · rw [e]
    exact hd1
  · obtain ⟨⟨a, b, z⟩, _⟩ := h2 x hx
    exact ⟨a, b, f.keep _ _ (by simp [e]) z⟩
theorem Rnd.at {H : Hp} {R : Addr} {ds : List Addr} (h : Rnd H R ds) {i : Nat} {v : V} (e : (ds.map V.ref)[i]? = some v) : ∃ d, v = .ref d ∧ d ∈ ds ∧ Dice H d := by
  rw [List.getElem?_map] at e
  cases q : ds[i]? with
  | none =>
    rw [q] at e
    cases e
  | some d =>
    rw [q] at e
    exact ⟨d, (Option.some.inj e).symm, List.mem_of_getElem? q, (h.2 d (List.mem_of_getElem? q)).1⟩
theorem Dice.fr {H H' : Hp} {d x : Addr} (h : Dice H x) (f : Fr [d] H H') (n : x ≠ d) : Dice H' x := by
  obtain ⟨a, b, z⟩ := h
  exact ⟨a, b, f.keep _ _ (by simp [n]) z⟩
theorem Dice.same {H H' : Hp} {d : Addr} (h : Dice H d) (s : Same H H') : Dice H' d := by
  obtain ⟨a, b, z⟩ := h
  exact ⟨a, b, s _ _ z⟩
theorem Fr.then {ds : List Addr} {H0 H1 H2 : Hp} (a : Fr ds H0 H1) (s : Same H1 H2) : Fr ds H0 H2 := a.trans (Fr.of s ds)
theorem Dice.keep {H H' : Hp} {d : Addr} {es : List Addr} (h : Dice H d) (f : Fr es H H') (n : d ∉ es) : Dice H' d := by
  obtain ⟨a, b, z⟩ := h
  exact ⟨a, b, f.keep _ _ n z⟩
/-- a new part -/
theorem make_part {K : PySem.W.Frag} {H : Hp} {v : V} {bs : List Bar} {Q : Addr → Hp → Prop} (hv : v = .non ∧ bs = [] ∨ ∃ a, v = .ref a ∧ Dp K H (.ref a) (.list (barsD bs))) (ok : ∀ b ∈ bs, BarOk b) (hl : bs.length ≤ 40)
    (k : ∀ H' p q, Same H H' → H p = none → H q = none → p ≠ q → PartX K H' p q bs [] → Q p H') :
    ∀ x dx, H x = none → H dx = none → dx ≠ x → sp_Part_init K [.ref x, v] (upd (upd H dx (.own x)) x (.ins (pC K) dx [])) (fun v H2 => v = .non ∧ Q x H2) E0 := by
  intro x dx nx nd ne
  have s : Same H (upd (upd H dx (.own x)) x (.ins (pC K) dx [])) := fun b o e => by
    rw [upd_ne (ne_of_none e nx), upd_ne (ne_of_none e nd)]
    exact e
  refine ⟨x, dx, v, bs, rfl, upd_same, ?_, ok, hl, fun H' q f nq hp => ?_⟩
  · rcases hv with h | ⟨a, e, h⟩
    · exact .inl h
    · exact .inr ⟨a, e, dp_same s h⟩
  · have nqx : x ≠ q := fun e => by
      rw [← e, upd_same] at nq
      cases nq
    have nq0 : H q = none := s.free nq
    exact ⟨rfl, k H' x q (fun b o e => f.keep b o (by simp [ne_of_none e nx]) (s b o e)) nx nq0 nqx hp⟩
/-- a bar appended -/
theorem row_app {K : PySem.W.Frag} {H : Hp} {B : Addr} {bs : List Bar} {v : V} {b : Bar} {vs : List V} (h1 : H B = some (.lst vs)) (h2 : DpAll K H vs (barsD bs)) (hv : Dp K H v (barD b)) : RowAt K (upd H B (.lst (vs ++ [v]))) B (bs ++ [b]) ∧ Fr [B] H (upd H B (.lst (vs ++ [v]))) := by
  have f : Fr [B] H (upd H B (.lst (vs ++ [v]))) := Fr.upd h1 trivial (by simp)
  refine ⟨⟨_, upd_same, ?_⟩, f⟩
  show DpAll K _ _ ((bs ++ [b]).map barD)
  rw [List.map_append]
  exact dpa_app (f.dpa h2 (isTs_bars bs)) (.cons (f.dp hv (isT_bar b)) .nil)
theorem sc__law_bar : FnScope ["dice", "width"] ["dice"] (defScope s__law_bar) := ⟨rfl, rfl, rfl, by decide +kernel, rfl, by decide +kernel, by decide +kernel⟩
section
variable {K : PySem.W.Frag} {mg : Str → Option Value}
theorem b__law_bar (T : Txt K mg) : Binds K (fdOf K ("_law_bar", none)) ["dice"] [] := T._law_bar.bindsN fun _ _ _ _ _ _ us hl => match us, hl with | [_], _ => rfl
end
def sp__law_bar (K : PySem.W.Frag) : Sp := fun vs H Q _ => ∃ (d : Addr), vs = [.ref d] ∧ Dice H d ∧ ∀ v H' b, Fr [d] H H' → Dice H' d → Dp K H' v (barD b) → BarOk b → Q v H'
theorem ok__law_bar {P : Program} {w : World} {K : PySem.W.Frag} {mg : Str → Option Value} {base : Heap} (T : Txt K mg) : OkF P w K mg base CX0 3 ("_law_bar", none) ["dice"] (sp__law_bar K) := by
  refine okN T._law_bar sc__law_bar (fun vs H Q E h => ?_) (fun cdv A outer s H vs Q E hr h => ?_)
  · obtain ⟨d, rfl, _⟩ := h
    rfl
  · obtain ⟨d, rfl, hD, z⟩ := h
    refine ⟨_, (pss_cons (ps_set (i := 1) sc__law_bar.nd rfl (by first | exact Or.inl rfl | exact Or.inr rfl) (pe_op op_add pe_int (pe_ix ix_list (pe_lst (pa_cons (pe_call (ok__law_roll T) (hr.mono (by decide)) (by rfl) T.g__law_roll T._law_roll.kp (b__law_roll T) .nil pass0 (pa_cons (pv 0) (pa_cons pe_int pa_nil))) (pa_cons (pe_call (ok__law_roll T) (hr.mono (by decide)) (by rfl) T.g__law_roll T._law_roll.kp (b__law_roll T) .nil pass0 (pa_cons (pv 0) (pa_cons pe_int pa_nil))) pa_nil))) (pe_op op_fdiv (pe_call (ok__law_roll T) (hr.mono (by decide)) (by rfl) T.g__law_roll T._law_roll.kp (b__law_roll T) .nil pass0 (pa_cons (pv 0) (pa_cons pe_int pa_nil))) pe_int) (fun _ _ => rfl))))
      (pss_one (ps_ret (pe_tup (pa_cons (pv 1) (pa_cons (pe_op op_add pe_int (pe_call (ok__law_roll T) (hr.mono (by decide)) (by rfl) T.g__law_roll T._law_roll.kp (b__law_roll T) .nil pass0 (pa_cons (pv 0) (pa_cons pe_int pa_nil)))) (pa_cons (pe_cmpR op_lt (pe_call (ok__law_roll T) (hr.mono (by decide)) (by rfl) T.g__law_roll T._law_roll.kp (b__law_roll T) .nil pass0 (pa_cons (pv 0) (pa_cons pe_int pa_nil))) pe_int (nomark _)) pa_nil))))))), ?_⟩
    refine ⟨_, rfl, d, 8, rfl, hD, by decide, by decide, fun H1 r1 f1 hD1 a1 b1 => ?_⟩
    refine ⟨_, rfl, d, 40, rfl, hD1, by decide, by decide, fun H2 r2 f2 hD2 a2 b2 => ⟨by show (2 : Nat) ≤ sizeLine; decide, fun L nL => ?_⟩⟩
    have sL := same_upd (o := .lst [.int r1, .int r2]) nL
    have ndL : L ≠ d := fun e => by
      obtain ⟨i, j, q⟩ := hD2
      rw [e, q] at nL
      cases nL
    refine ⟨_, rfl, d, 4, rfl, hD2.same sL, by decide, by decide, fun H3 r3 f3 hD3 a3 b3 => ?_⟩
    have hL3 := f3.keep L _ (by simp [ndL]) upd_same
    have key : ∀ width : Int, 1 ≤ width → width ≤ 40 → (tAsg (tC (.int width)) (gName 1)) { nx := (tRet (tTup (tCons (tVar 1) (tCons (tOp (rI0 fun i j => .int (i + j)) (tC (.int 1)) (tCall sp__law_roll [] E0 (tCons (tVar 0) (tCons (tC (.int 16)) tNil)))) (tCons (tOp (rI0 fun i j => .bl (decide (i < j))) (tCall sp__law_roll [] E0 (tCons (tVar 0) (tCons (tC (.int 5)) tNil))) (tC (.int 2))) tNil))))) { nx := fun _ H' => Q .non H', rt := Q }, rt := Q } [some (.ref d), none] H3 := by
      intro width w1 w2
      refine ⟨_, rfl, _, rfl, d, 16, rfl, hD3, by decide, by decide, fun H4 r4 f4 hD4 a4 b4 => ⟨_, _, rfl, rfl, ?_⟩⟩
      refine ⟨_, rfl, d, 5, rfl, hD4, by decide, by decide, fun H5 r5 f5 hD5 a5 b5 => ⟨_, _, rfl, rfl, by show (3 : Nat) ≤ sizeLine; decide, fun t nt => ?_⟩⟩
      have st := same_upd (o := .tup [.int width, .int (1 + r4), .bl (decide (r5 < 2))]) nt
      exact z _ _ ⟨width, 1 + r4, decide (r5 < 2)⟩ ((((((f1.trans f2).then sL).trans f3).trans f4).trans f5).then st) (hD5.same st) (dp_bar_of (.of upd_same)) ⟨w1, w2, by show 1 ≤ 1 + r4; omega, by show 1 + r4 ≤ 16; omega⟩
    refine ⟨_, _, rfl, rfl, ⟨by decide, by decide⟩, ?_⟩
    by_cases h3 : r3 < 3
    · refine ⟨L, _, _, .int r1, rfl, rfl, .of hL3, at_of (j := 0) (by omega) rfl, _, _, rfl, rfl, key _ (by omega) (by omega)⟩
    · refine ⟨L, _, _, .int r2, rfl, rfl, .of hL3, at_of (j := 1) (by omega) rfl, _, _, rfl, rfl, key _ (by omega) (by omega)⟩
theorem sc__law_row : FnScope ["dice", "most", "turn"] ["dice", "most"] (defScope s__law_row) := ⟨rfl, rfl, rfl, by decide +kernel, rfl, by decide +kernel, by decide +kernel⟩
section
variable {K : PySem.W.Frag} {mg : Str → Option Value}
theorem b__law_row (T : Txt K mg) : Binds K (fdOf K ("_law_row", none)) ["dice", "most"] [] := T._law_row.bindsN fun _ _ _ _ _ _ us hl => match us, hl with | [_, _], _ => rfl
end
def sp__law_row (K : PySem.W.Frag) : Sp := fun vs H Q _ => ∃ (d : Addr) (most : Nat), vs = [.ref d, .int (most : Int)] ∧ Dice H d ∧ most ≤ 1000 ∧ ∀ H' a bs, Fr [d] H H' → Dice H' d → H a = none → RowAt K H' a bs → (∀ b ∈ bs, BarOk b) → bs.length ≤ most → Q (.ref a) H'
theorem ok__law_row {P : Program} {w : World} {K : PySem.W.Frag} {mg : Str → Option Value} {base : Heap} (T : Txt K mg) : OkF P w K mg base CX0 4 ("_law_row", none) ["dice", "most"] (sp__law_row K) := by
  refine okN T._law_row sc__law_row (fun vs H Q E h => ?_) (fun cdv A outer s H vs Q E hr h => ?_)
  · obtain ⟨d, most, rfl, _⟩ := h
    rfl
  · obtain ⟨d, most, rfl, hD, hm, z⟩ := h
    refine ⟨_, (pss_one (ps_ret (pe_lc (own := [("turn", 2)]) (g := (gName 2)) (tt := tYes) (by rfl) sc__law_row.nd (pi_range1 (by rfl) T.b_range (pa_cons (pe_call (ok__law_roll T) (hr.mono (by decide)) (by rfl) T.g__law_roll T._law_roll.kp (b__law_roll T) .nil pass0 (pa_cons (pv 0) (pa_cons (pe_op op_add (pv 1) pe_int) pa_nil))) pa_nil)) (blkOk_by (own := [("turn", 2)]) (N := ["dice", "most", "turn"]) (sc := defScope s__law_row) (by decide +kernel)) (fun _ _ _ _ _ => (pg_name (i := 2) sc__law_row.nd rfl (by first | exact Or.inl rfl | exact Or.inr rfl))) (fun _ _ _ _ _ => pts_nil) (fun _ _ _ _ _ => (pe_call (ok__law_bar T) (hr.mono (by decide)) (by rfl) T.g__law_bar T._law_bar.kp (b__law_bar T) .nil pass0 (pa_cons (pv 0) pa_nil)))))), ?_⟩
    refine ⟨_, rfl, _, rfl, _, _, rfl, rfl, d, _, rfl, hD, by omega, by omega, fun H1 r f1 hD1 r0 r1 => ⟨r, rfl, by omega, by omega, fun D nD => ?_⟩⟩
    have nDd : D ≠ d := fun e => by
      obtain ⟨i, j, q⟩ := hD1
      rw [e, q] at nD
      cases nD
    have nD0 : H D = none := by
      cases e : H D with
      | none => rfl
      | some o =>
        have := f1.keep D o (by simp [nDd]) e
        rw [nD] at this
        cases this
    have sD := same_upd (o := .lst []) nD
    refine lc_range (lo := 0) (n := r.toNat) (fun i H' => Fr [d] H H' ∧ Dice H' d ∧ ∃ bs : List Bar, bs.length = i ∧ (∀ b ∈ bs, BarOk b) ∧ RowAt K H' D bs) ⟨f1.then sD, hD1.same sD, [], rfl, fun _ h => (nomatch h), [], upd_same, .nil⟩ ?_ ?_
    · rintro i H2 hi ⟨f2, hD2, bs, hl, ok, row⟩
      refine ⟨rfl, _, rfl, d, rfl, hD2, fun v H3 b f3 hD3 hv okb => ?_⟩
      obtain ⟨vs, q1, q2⟩ := row.fr f3 (by simp [nDd])
      obtain ⟨row4, f4⟩ := row_app q1 q2 hv
      refine ⟨vs, q1, ?_, (f2.trans f3).step f4 (by simp [nD0]), hD3.keep f4 (by simp [nDd.symm]), bs ++ [b], ?_, ?_, row4⟩
      · rw [bars_len q2]
        exact small1000 (by omega)
      · rw [List.length_append, hl]
        rfl
      · intro x hx
        rcases List.mem_append.mp hx with hx | hx
        · exact ok x hx
        · have e : x = b := by simpa using hx
          rw [e]
          exact okb
    · rintro H2 ⟨f2, hD2, bs, hl, ok, row⟩
      exact z _ _ bs f2 hD2 nD0 row ok (by omega)
theorem units65 {k : Nat} {A : Around} (h : Room k A) : A.units + 65 < cLine := by
  have := h.un
  omega
def rLenK (K : PySem.W.Frag) : List V → Hp → VK → Prop := fun xs H Q => ∃ x n, xs = [x] ∧ LenV K x H n ∧ Q (.int (n : Nat)) H
section
variable {X : Cx}
/-- sum of a tuple of ints -/
def rSumT (K : PySem.W.Frag) : List V → Hp → VK → Prop := fun vs H Q => ∃ (a : Addr) (ns : List Int), vs = [V.ref a] ∧ SqT K H a (ns.map V.int) ∧ Q (.int ns.sum) H
theorem cr_sumT (hc : X.calm = true) : CallR X (.builtin "sum") (rSumT X.K) := by
  intro pins s σ H vs us Q I r h
  obtain ⟨a, ns, rfl, hs, q⟩ := h
  obtain ⟨its, rv, hl, _⟩ := I.tuple hs
  rw [Vals.ref1 r]
  have hi : IntsAre its ns := rv.ints
  obtain ⟨xs, e⟩ := hi.allInts.items
  have hn : numsOf (intItems xs).toList = ns := by rw [← e]; exact hi.numsOf
  rw [nums_intItems] at hn
  have hT : s.heap.IsTuple a (intItems xs) := by rw [← e]; exact hl
  have hlt : a < s.heap.objs.size := hl.lt
  refine call_sum_walkG (wpAny_pyIter_tuple hT ?_)
  refine ⟨_, [s.heap.objs.size, a], [s.heap.objs.size], _, _, _, numAt xs, rfl, Walks.tuple (A := X.A.in1) (I.ok.hd hc) _ a (Nat.ne_of_lt hlt) (intItems xs),
    ⟨⟨_, Heap.get?_push_size _ rfl, rfl, rfl⟩, hT.push _⟩, fun c hcc => ?_, (fun _ _ => intItems_at), fun h' tk t' hk => ?_⟩
  · show c < (s.heap.push _).objs.size
    rw [Heap.size_push]
    rcases List.mem_cons.mp hcc with rfl | hcc
    · exact Nat.lt_succ_self _
    · have e : c = a := by simpa using hcc
      rw [e]
      exact Nat.lt_succ_of_lt hlt
  · have hk2 : ∀ b o, s.heap.get? b = some o → h'.get? b = some o := fun b o e => hk b o (by
      intro hb
      have e2 : b = s.heap.objs.size := by simpa using hb
      have lt := Heap.lt_size e
      rw [e2] at lt
      exact Nat.lt_irrefl _ lt) (Heap.get?_push_of_some _ e)
    refine ⟨.int ns.sum, H, I.kept hk2, ⟨t', ?_⟩, q⟩
    rw [preSum_eq, List.take_of_length_le (by simp [intItems]), hn]
/-- t.count(x) of data -/
def rCntD (K : PySem.W.Frag) : V → List V → Hp → VK → Prop := fun x xs H Q => ∃ (p : Addr) (y : V) (ds : List PyData) (d : PyData), x = .ref p ∧ xs = [y] ∧ Dp K H (.ref p) (.tuple ds) ∧ Dp K H y d ∧ SeqAt.shaped (.tuple ds) = true ∧ SeqAt.shaped d = true ∧ Q (.int ((ds.countP fun z => PyData.eqv z d : Nat) : Int)) H
theorem mt_tcount (hu : X.A.units + 65 < cLine) : MtR X "tuple.count" (rCntD X.K) := by
  intro pins s σ H x xs v us Q I rx rxs h
  obtain ⟨p, y, ds, d, rfl, rfl, hl, hy, sl, sd, q⟩ := h
  cases rx
  obtain ⟨u, rfl, ru⟩ := rxs.one
  obtain ⟨bs, r1⟩ := Dp.reads I d y u hy ru
  cases hl with
  | tup hs ha =>
    obtain ⟨its, rv, hT, _⟩ := I.tuple hs
    obtain ⟨as, h4⟩ := Dp.readsAll I ds _ its ha rv
    exact SeqAt.count_tuple_data (vs := its.toArray) hT (by simpa using h4) r1 (PyData.plain_of_canLay0 (.tuple ds) (SeqAt.canLay_of_shaped sl)) (PyData.plain_of_canLay0 _ (SeqAt.canLay_of_shaped sd)) (room_in_shaped sd hu) ⟨.int _, H, I.tok _, ⟨_, rfl⟩, q⟩
def rInDT (K : PySem.W.Frag) : R2 := fun x y H Q => ∃ d ds, Dp K H x d ∧ Dp K H y (.tuple ds) ∧ SeqAt.shaped d = true ∧ SeqAt.shaped (.tuple ds) = true ∧ Q (.bl (ds.any fun z => PyData.eqv z d)) H
def rNotInDT (K : PySem.W.Frag) : R2 := fun x y H Q => ∃ d ds, Dp K H x d ∧ Dp K H y (.tuple ds) ∧ SeqAt.shaped d = true ∧ SeqAt.shaped (.tuple ds) = true ∧ Q (.bl (!ds.any fun z => PyData.eqv z d)) H
theorem op_inDT (hu : X.A.units + 65 < cLine) : OpR X (compareOp .In) (rInDT X.K) := by
  intro pins s σ H x y v u Q I rx ry h
  obtain ⟨d, ds, hd, he, sd, se, q⟩ := h
  obtain ⟨as, r1⟩ := Dp.reads I d x v hd rx
  obtain ⟨bs, r2⟩ := Dp.reads I (.tuple ds) y u he ry
  exact SeqAt.in_tuple_reads r2 r1 (SeqAt.canLay_of_shaped se) (SeqAt.canLay_of_shaped sd) (room_in_shaped sd hu) ⟨.bl _, H, I, rfl, q⟩
theorem op_notInDT (hu : X.A.units + 65 < cLine) : OpR X (compareOp .NotIn) (rNotInDT X.K) := by
  intro pins s σ H x y v u Q I rx ry h
  obtain ⟨d, ds, hd, he, sd, se, q⟩ := h
  obtain ⟨as, r1⟩ := Dp.reads I d x v hd rx
  obtain ⟨bs, r2⟩ := Dp.reads I (.tuple ds) y u he ry
  exact SeqAt.notIn_tuple_reads r2 r1 (SeqAt.canLay_of_shaped se) (SeqAt.canLay_of_shaped sd) (room_in_shaped sd hu) ⟨.bl _, H, I, rfl, q⟩
end
section
variable {X : Cx}
/-- t[lo:hi] of a tuple, whether or not it is the same object -/
def rSlU (K : PySem.W.Frag) : V → Option Int → Option Int → Hp → VK → Prop := fun x lo hi H Q => ∃ a xs, x = .ref a ∧ SqT K H a xs ∧ ∀ c H', Same H H' → SqT K H' c (cutV xs lo hi) → Q (.ref c) H'
theorem cut_all {xs : List V} {lo hi : Option Int} (h : HT.sIx xs.length 0 lo = 0 ∧ HT.sIx xs.length xs.length hi = xs.length) : cutV xs lo hi = xs := by
  unfold cutV
  rw [h.1, h.2, List.drop_zero, Nat.sub_zero, List.take_length]
theorem sl_tupU : SlR X (rSlU X.K) := by
  intro pins s σ H x v vl vu lo hi sl Q I rx hsl pl pu q
  obtain ⟨a, xs, e, hs, k⟩ := q
  exact sl_tupA pins s σ H x v vl vu lo hi sl Q I rx hsl pl pu ⟨a, xs, e, hs, fun c => k a H (Same.refl H) (by rw [cut_all c]; exact hs), fun _ p np => k p _ (same_upd np) (.of upd_same)⟩
/-- t + u of tuples, whether or not it is one of them -/
def rCatU (K : PySem.W.Frag) : R2 := fun x y H Q => ∃ a b xs ys, x = .ref a ∧ y = .ref b ∧ SqT K H a xs ∧ SqT K H b ys ∧ xs.length + ys.length ≤ sizeLine ∧ ∀ c H', Same H H' → SqT K H' c (xs ++ ys) → Q (.ref c) H'
theorem op_catU : OpR X (binaryOp .Add) (rCatU X.K) := by
  intro pins s σ H x y v u Q I rx ry q
  obtain ⟨a, b, xs, ys, e1, e2, h1, h2, hl, k⟩ := q
  refine op_catA pins s σ H x y v u Q I rx ry ⟨a, b, xs, ys, e1, e2, h1, h2, hl, fun e => k b H (Same.refl H) (by rw [e]; exact h2), fun _ e => k a H (Same.refl H) (by rw [e, List.append_nil]; exact h1), fun _ _ p np => k p _ (same_upd np) (.of upd_same)⟩
end
/-! ### desks, rows of numbers -/
structure Desk where
  room : Int
  turn : Int
  side : Bool
  empty : Int
def sideS (b : Bool) : Str := if b = true then Str.ofString "right" else Str.ofString "left"
def deskD (k : Desk) : PyData := .tuple [.int k.room, .int k.turn, .str (sideS k.side), .int k.empty]
def deskV (k : Desk) : List V := [.int k.room, .int k.turn, .str (sideS k.side), .int k.empty]
structure DeskOk (k : Desk) : Prop where
  r0 : 1 ≤ k.room
  r1 : k.room ≤ 200
  t0 : 0 ≤ k.turn
  t1 : k.turn ≤ 99
  e0 : 0 ≤ k.empty
  e1 : k.empty ≤ 3
theorem isT_desk (k : Desk) : isT (deskD k) = true := rfl
abbrev numsD (ns : List Nat) : List PyData := ns.map fun (n : Nat) => PyData.int (n : Int)
abbrev numsV (ns : List Nat) : List V := ns.map fun (n : Nat) => V.int (n : Int)
section
variable {K : PySem.W.Frag} {H : Hp}
theorem dp_desk {v : V} {k : Desk} (h : Dp K H v (deskD k)) : ∃ p, v = .ref p ∧ SqT K H p (deskV k) := by
  cases h with
  | tup s a =>
    obtain ⟨v0, v1, v2, v3, rfl, h0, h1, h2, h3⟩ := dpa4 a
    cases h0
    cases h1
    cases h2
    cases h3
    exact ⟨_, rfl, s⟩
theorem dp_desk_of {p : Addr} {k : Desk} (h : SqT K H p (deskV k)) : Dp K H (.ref p) (deskD k) := .tup h (.cons (.int _) (.cons (.int _) (.cons (.str _) (.cons (.int _) .nil))))
theorem dpa_nums : ∀ {ns : List Nat} {vs : List V}, DpAll K H vs (numsD ns) → vs = numsV ns
  | [], _, .nil => rfl
  | n :: r, _, .cons d t => by
    cases d
    show V.int _ :: _ = V.int _ :: numsV r
    rw [dpa_nums t]
theorem dpa_nums_of : ∀ ns : List Nat, DpAll K H (numsV ns) (numsD ns)
  | [] => .nil
  | n :: r => .cons (.int _) (dpa_nums_of r)
theorem dp_nums {v : V} {ns : List Nat} (h : Dp K H v (.tuple (numsD ns))) : ∃ p, v = .ref p ∧ SqT K H p (numsV ns) := by
  cases h with
  | tup s a =>
    rw [dpa_nums a] at s
    exact ⟨_, rfl, s⟩
theorem dp_nums_of {p : Addr} {ns : List Nat} (h : SqT K H p (numsV ns)) : Dp K H (.ref p) (.tuple (numsD ns)) := .tup h (dpa_nums_of ns)
end
theorem isTs_nums : ∀ ns : List Nat, isTs (numsD ns) = true
  | [] => rfl
  | n :: r => by
    show (isT (.int (n : Int)) && isTs (numsD r)) = true
    rw [isTs_nums r]
    rfl
theorem shp_nums (ns : List Nat) : Shp 1 (.tuple (numsD ns)) := shp_tup (shpA_all fun d hd => by
  obtain ⟨n, _, rfl⟩ := List.mem_map.mp hd
  exact shp_int _)
theorem isNum_of {i lo hi : Int} (h1 : lo ≤ i) (h2 : i ≤ hi) : isNum (.int i) lo hi = true := by
  show (decide (lo ≤ i) && decide (i ≤ hi)) = true
  rw [decide_eq_true h1, decide_eq_true h2]
  rfl
/-- whether a page is a right one -/
def isRight (k : Desk) (page : Nat) : Bool := decide (page % 2 = 0) == k.side
def wideOf (bs : List Bar) (b e : Nat) : Int := (((bs.drop b).take (e - b)).map Bar.w).sum
theorem cut_both {xs : List V} {b e : Nat} (h : b ≤ e) : cutV xs (some (b : Int)) (some (e : Int)) = (xs.drop b).take (e - b) := by
  unfold cutV
  rw [HT.sIx_nat, HT.sIx_nat]
  by_cases h1 : b ≤ xs.length
  · rw [Nat.min_eq_left h1]
    by_cases h2 : e ≤ xs.length
    · rw [Nat.min_eq_left h2]
    · rw [Nat.min_eq_right (by omega), List.take_of_length_le (by rw [List.length_drop]; omega), List.take_of_length_le (by rw [List.length_drop]; omega)]
  · rw [Nat.min_eq_right (by omega), Nat.min_eq_right (by omega), List.drop_length, List.drop_eq_nil_of_le (by omega), List.take_nil, List.take_nil]
/-- what is wrong -/
inductive Wrong where
  | wide (p : Nat) | empty (p : Nat) | turn (p : Nat) | form
def wrongD : Wrong → PyData
  | .wide p => .tuple [.str (Str.ofString "wide"), .int (p : Int)]
  | .empty p => .tuple [.str (Str.ofString "empty"), .int (p : Int)]
  | .turn p => .tuple [.str (Str.ofString "turn"), .int (p : Int)]
  | .form => .tuple [.str (Str.ofString "form")]
def faultD : Option Wrong → PyData
  | none => .none
  | some x => wrongD x
def pageFault (bs : List Bar) (k : Desk) (ns : List Nat) (page : Nat) : Option Wrong :=
  let e := (ns.take (page + 1)).sum
  let n := ns.getD page 0
  if wideOf bs (e - n) e > k.room then some (.wide page)
  else if n = 0 ∧ (page + 1 = ns.length ∨ (((ns.take (page + 1)).count 0 : Nat) : Int) > k.empty) then some (.empty page)
  else if isRight k page = true ∧ ¬ page + 1 = ns.length ∧ restOf bs e < k.turn then some (.turn page)
  else none
/-- the first fault from a page on -/
def faultFrom (bs : List Bar) (k : Desk) (ns : List Nat) (page : Nat) : Nat → Option Wrong
  | 0 => none
  | m + 1 => match pageFault bs k ns page with
    | some x => some x
    | none => faultFrom bs k ns (page + 1) m
def faultN (bs : List Bar) (k : Desk) (ns : List Nat) : Option Wrong := if ns.sum = bs.length then faultFrom bs k ns 0 ns.length else some .form
theorem sc__law_stand : FnScope ["dice", "room", "turn"] ["dice"] (defScope s__law_stand) := ⟨rfl, rfl, rfl, by decide +kernel, rfl, by decide +kernel, by decide +kernel⟩
section
variable {K : PySem.W.Frag} {mg : Str → Option Value}
theorem b__law_stand (T : Txt K mg) : Binds K (fdOf K ("_law_stand", none)) ["dice"] [] := T._law_stand.bindsN fun _ _ _ _ _ _ us hl => match us, hl with | [_], _ => rfl
end
def sp__law_stand (K : PySem.W.Frag) : Sp := fun vs H Q _ => ∃ (d : Addr), vs = [.ref d] ∧ Dice H d ∧ ∀ v H' k, Fr [d] H H' → Dice H' d → Dp K H' v (deskD k) → DeskOk k → Q v H'
theorem new_ne {H : Hp} {d L : Addr} (hD : Dice H d) (nL : H L = none) : L ≠ d := fun e => by
  obtain ⟨i, j, q⟩ := hD
  rw [e, q] at nL
  cases nL
theorem ok__law_stand {P : Program} {w : World} {K : PySem.W.Frag} {mg : Str → Option Value} {base : Heap} (T : Txt K mg) : OkF P w K mg base CX0 3 ("_law_stand", none) ["dice"] (sp__law_stand K) := by
  refine okN T._law_stand sc__law_stand (fun vs H Q E h => ?_) (fun cdv A outer s H vs Q E hr h => ?_)
  · obtain ⟨d, rfl, _⟩ := h
    rfl
  · obtain ⟨d, rfl, hD, z⟩ := h
    refine ⟨_, (pss_cons (ps_set (i := 1) sc__law_stand.nd rfl (by first | exact Or.inl rfl | exact Or.inr rfl) (pe_ix ix_list (pe_lst (pa_cons (pe_op op_add pe_int (pe_call (ok__law_roll T) (hr.mono (by decide)) (by rfl) T.g__law_roll T._law_roll.kp (b__law_roll T) .nil pass0 (pa_cons (pv 0) (pa_cons pe_int pa_nil)))) (pa_cons (pe_op op_add pe_int (pe_call (ok__law_roll T) (hr.mono (by decide)) (by rfl) T.g__law_roll T._law_roll.kp (b__law_roll T) .nil pass0 (pa_cons (pv 0) (pa_cons pe_int pa_nil)))) (pa_cons (pe_op op_add pe_int (pe_call (ok__law_roll T) (hr.mono (by decide)) (by rfl) T.g__law_roll T._law_roll.kp (b__law_roll T) .nil pass0 (pa_cons (pv 0) (pa_cons pe_int pa_nil)))) pa_nil)))) (pe_call (ok__law_roll T) (hr.mono (by decide)) (by rfl) T.g__law_roll T._law_roll.kp (b__law_roll T) .nil pass0 (pa_cons (pv 0) (pa_cons pe_int pa_nil))) (fun _ _ => rfl)))
      (pss_cons (ps_set (i := 2) sc__law_stand.nd rfl (by first | exact Or.inl rfl | exact Or.inr rfl) (pe_ix ix_list (pe_lst (pa_cons (pe_call (ok__law_roll T) (hr.mono (by decide)) (by rfl) T.g__law_roll T._law_roll.kp (b__law_roll T) .nil pass0 (pa_cons (pv 0) (pa_cons pe_int pa_nil))) (pa_cons (pe_call (ok__law_roll T) (hr.mono (by decide)) (by rfl) T.g__law_roll T._law_roll.kp (b__law_roll T) .nil pass0 (pa_cons (pv 0) (pa_cons pe_int pa_nil))) (pa_cons (pe_op op_add pe_int (pe_call (ok__law_roll T) (hr.mono (by decide)) (by rfl) T.g__law_roll T._law_roll.kp (b__law_roll T) .nil pass0 (pa_cons (pv 0) (pa_cons pe_int pa_nil)))) pa_nil)))) (pe_call (ok__law_roll T) (hr.mono (by decide)) (by rfl) T.g__law_roll T._law_roll.kp (b__law_roll T) .nil pass0 (pa_cons (pv 0) (pa_cons pe_int pa_nil))) (fun _ _ => rfl)))
      (pss_one (ps_ret (pe_tup (pa_cons (pv 1) (pa_cons (pv 2) (pa_cons (pe_ix ix_list (pe_lst (pa_cons pe_str (pa_cons pe_str pa_nil))) (pe_call (ok__law_roll T) (hr.mono (by decide)) (by rfl) T.g__law_roll T._law_roll.kp (b__law_roll T) .nil pass0 (pa_cons (pv 0) (pa_cons pe_int pa_nil))) (fun _ _ => rfl)) (pa_cons (pe_ix ix_list (pe_lst (pa_cons pe_int (pa_cons pe_int (pa_cons pe_int (pa_cons pe_int (pa_cons pe_int (pa_cons pe_int pa_nil))))))) (pe_call (ok__law_roll T) (hr.mono (by decide)) (by rfl) T.g__law_roll T._law_roll.kp (b__law_roll T) .nil pass0 (pa_cons (pv 0) (pa_cons pe_int pa_nil))) (fun _ _ => rfl)) pa_nil))))))))), ?_⟩
    -- room
    refine ⟨_, rfl, d, 20, rfl, hD, by decide, by decide, fun H1 r1 f1 hD1 a1 b1 => ⟨_, _, rfl, rfl, ?_⟩⟩
    refine ⟨_, rfl, d, 200, rfl, hD1, by decide, by decide, fun H2 r2 f2 hD2 a2 b2 => ⟨_, _, rfl, rfl, ?_⟩⟩
    refine ⟨_, rfl, d, 8, rfl, hD2, by decide, by decide, fun H3 r3 f3 hD3 a3 b3 => ⟨_, _, rfl, rfl, by show (3 : Nat) ≤ sizeLine; decide, fun L nL => ?_⟩⟩
    have sL := same_upd (o := .lst [.int (4 + r1), .int (1 + r2), .int (8 + r3)]) nL
    refine ⟨_, rfl, d, 3, rfl, hD3.same sL, by decide, by decide, fun H4 i4 f4 hD4 a4 b4 => ?_⟩
    have hL4 := f4.keep L _ (by simp [new_ne hD3 nL]) upd_same
    have g4 := (((f1.trans f2).trans f3).then sL).trans f4
    obtain ⟨room, hroom, hr0, hr1⟩ : ∃ room : Int, atI [V.int (4 + r1), .int (1 + r2), .int (8 + r3)] i4 = some (.int room) ∧ 1 ≤ room ∧ room ≤ 200 := by
      rcases (by omega : i4 = 0 ∨ i4 = 1 ∨ i4 = 2) with e | e | e
      · exact ⟨4 + r1, at_of (j := 0) e rfl, by omega, by omega⟩
      · exact ⟨1 + r2, at_of (j := 1) e rfl, by omega, by omega⟩
      · exact ⟨8 + r3, at_of (j := 2) e rfl, by omega, by omega⟩
    refine ⟨L, _, _, _, rfl, rfl, .of hL4, hroom, ?_⟩
    -- turn
    refine ⟨_, rfl, d, 20, rfl, hD4, by decide, by decide, fun H5 r5 f5 hD5 a5 b5 => ?_⟩
    refine ⟨_, rfl, d, 100, rfl, hD5, by decide, by decide, fun H6 r6 f6 hD6 a6 b6 => ?_⟩
    refine ⟨_, rfl, d, 9, rfl, hD6, by decide, by decide, fun H7 r7 f7 hD7 a7 b7 => ⟨_, _, rfl, rfl, by show (3 : Nat) ≤ sizeLine; decide, fun M nM => ?_⟩⟩
    have sM := same_upd (o := .lst [.int r5, .int r6, .int (1 + r7)]) nM
    refine ⟨_, rfl, d, 3, rfl, hD7.same sM, by decide, by decide, fun H8 i8 f8 hD8 a8 b8 => ?_⟩
    have hM8 := f8.keep M _ (by simp [new_ne hD7 nM]) upd_same
    have g8 := ((((g4.trans f5).trans f6).trans f7).then sM).trans f8
    obtain ⟨turn, hturn, ht0, ht1⟩ : ∃ turn : Int, atI [V.int r5, .int r6, .int (1 + r7)] i8 = some (.int turn) ∧ 0 ≤ turn ∧ turn ≤ 99 := by
      rcases (by omega : i8 = 0 ∨ i8 = 1 ∨ i8 = 2) with e | e | e
      · exact ⟨r5, at_of (j := 0) e rfl, by omega, by omega⟩
      · exact ⟨r6, at_of (j := 1) e rfl, by omega, by omega⟩
      · exact ⟨1 + r7, at_of (j := 2) e rfl, by omega, by omega⟩
    refine ⟨M, _, _, _, rfl, rfl, .of hM8, hturn, ?_⟩
    -- the tuple
    refine ⟨_, rfl, _, rfl, by show (2 : Nat) ≤ sizeLine; decide, fun N nN => ?_⟩
    have sN := same_upd (o := .lst [.str (Str.ofString "left"), .str (Str.ofString "right")]) nN
    refine ⟨_, rfl, d, 2, rfl, hD8.same sN, by decide, by decide, fun H9 i9 f9 hD9 a9 b9 => ?_⟩
    have hN9 := f9.keep N _ (by simp [new_ne hD8 nN]) upd_same
    have g9 := (g8.then sN).trans f9
    obtain ⟨side, hside⟩ : ∃ side : Bool, atI [V.str (Str.ofString "left"), .str (Str.ofString "right")] i9 = some (.str (sideS side)) := by
      rcases (by omega : i9 = 0 ∨ i9 = 1) with e | e
      · exact ⟨false, at_of (j := 0) e rfl⟩
      · exact ⟨true, at_of (j := 1) e rfl⟩
    refine ⟨N, _, _, _, rfl, rfl, .of hN9, hside, ?_⟩
    refine ⟨by show (6 : Nat) ≤ sizeLine; decide, fun O nO => ?_⟩
    have sO := same_upd (o := .lst [.int 0, .int 0, .int 1, .int 1, .int 2, .int 3]) nO
    refine ⟨_, rfl, d, 6, rfl, hD9.same sO, by decide, by decide, fun H10 i10 f10 hD10 a10 b10 => ?_⟩
    have hO10 := f10.keep O _ (by simp [new_ne hD9 nO]) upd_same
    have g10 := (g9.then sO).trans f10
    obtain ⟨emp, hemp, he0, he1⟩ : ∃ emp : Int, atI [V.int 0, .int 0, .int 1, .int 1, .int 2, .int 3] i10 = some (.int emp) ∧ 0 ≤ emp ∧ emp ≤ 3 := by
      rcases (by omega : i10 = 0 ∨ i10 = 1 ∨ i10 = 2 ∨ i10 = 3 ∨ i10 = 4 ∨ i10 = 5) with e | e | e | e | e | e
      · exact ⟨0, at_of (j := 0) e rfl, by decide, by decide⟩
      · exact ⟨0, at_of (j := 1) e rfl, by decide, by decide⟩
      · exact ⟨1, at_of (j := 2) e rfl, by decide, by decide⟩
      · exact ⟨1, at_of (j := 3) e rfl, by decide, by decide⟩
      · exact ⟨2, at_of (j := 4) e rfl, by decide, by decide⟩
      · exact ⟨3, at_of (j := 5) e rfl, by decide, by decide⟩
    refine ⟨O, _, _, _, rfl, rfl, .of hO10, hemp, by show (4 : Nat) ≤ sizeLine; decide, fun t nt => ?_⟩
    have st := same_upd (o := .tup [.int room, .int turn, .str (sideS side), .int emp]) nt
    exact z _ _ ⟨room, turn, side, emp⟩ (g10.then st) (hD10.same st) (dp_desk_of (.of upd_same)) ⟨hr0, hr1, ht0, ht1, he0, he1⟩
theorem sc__law_numbers : FnScope ["dice", "bars", "found", "left", "many"] ["dice", "bars"] (defScope s__law_numbers) := ⟨rfl, rfl, rfl, by decide +kernel, rfl, by decide +kernel, by decide +kernel⟩
section
variable {K : PySem.W.Frag} {mg : Str → Option Value}
theorem b__law_numbers (T : Txt K mg) : Binds K (fdOf K ("_law_numbers", none)) ["dice", "bars"] [] := T._law_numbers.bindsN fun _ _ _ _ _ _ us hl => match us, hl with | [_, _], _ => rfl
end
def sp__law_numbers (K : PySem.W.Frag) : Sp := fun vs H Q _ => ∃ (d a : Addr) (bs : List Bar), vs = [.ref d, .ref a] ∧ Dice H d ∧ Dp K H (.ref a) (.list (barsD bs)) ∧ bs.length ≤ 1000 ∧ ∀ v H' ns, Fr [d] H H' → Dice H' d → Dp K H' v (.tuple (numsD ns)) → ns.sum = bs.length → ns.length ≤ 61 → Q v H'
theorem ok__law_numbers {P : Program} {w : World} {K : PySem.W.Frag} {mg : Str → Option Value} {base : Heap} (T : Txt K mg) : OkF P w K mg base CX0 3 ("_law_numbers", none) ["dice", "bars"] (sp__law_numbers K) := by
  refine okN T._law_numbers sc__law_numbers (fun vs H Q E h => ?_) (fun cdv A outer s H vs Q E hr h => ?_)
  · obtain ⟨d, a, bs, rfl, _⟩ := h
    rfl
  · obtain ⟨d, a, bs, rfl, hD, hb, hlen, z⟩ := h
    refine ⟨_, (pss_cons (ps_par (by rfl) sc__law_numbers.nd (i := 2) (j := 3) rfl rfl (by decide) rfl rfl (pa_cons (pe_lst pa_nil) (pa_cons (pe_callB call_len (by rfl) T.b_len PySem.boot_len (pa_cons (pv 1) pa_nil)) pa_nil)) (by rfl))
      (pss_cons (ps_while PassesOwn.never (PW.pt (pw_and (pt_cmpR op_gt (pv 3) pe_int (nomark _)) (pw_and1 (pt_cmpR op_lt (pe_callB call_len (by rfl) T.b_len PySem.boot_len (pa_cons (pv 2) pa_nil)) pe_int (nomark _)))))
      (pss_cons (ps_set (i := 4) sc__law_numbers.nd rfl (by first | exact Or.inl rfl | exact Or.inr rfl) (pe_callB (call_min2 rfl) (by rfl) T.b_min (by decide +kernel) (pa_cons (pv 3) (pa_cons (pe_ix ix_list (pe_lst (pa_cons pe_int (pa_cons pe_int (pa_cons pe_int (pa_cons pe_int (pa_cons pe_int (pa_cons pe_int (pa_cons pe_int (pa_cons pe_int pa_nil))))))))) (pe_call (ok__law_roll T) (hr.mono (by decide)) (by rfl) T.g__law_roll T._law_roll.kp (b__law_roll T) .nil pass0 (pa_cons (pv 0) (pa_cons pe_int pa_nil))) (fun _ _ => rfl)) pa_nil))))
      (pss_cons (ps_expr (pe_bm PySem.F.plainAttrs_list PySem.F.slot_list_append PySem.F.type_list_append mt_append (pv 2) (pa_cons (pv 4) pa_nil)))
      (pss_one (ps_set (i := 3) sc__law_numbers.nd rfl (by first | exact Or.inl rfl | exact Or.inr rfl) (pe_op op_sub (pv 3) (pv 4)))))))
      (pss_one (ps_ret (pe_callTy call_tuple_of (by rfl) T.b_tuple (by decide +kernel) (pa_cons (pe_op op_cat (pv 2) (pe_op op_rep (pe_lst (pa_cons (pv 3) pa_nil)) (pe_callTy call_int1 (by rfl) T.b_int (by decide +kernel) (pa_cons (pe_cmpR op_gt (pv 3) pe_int (nomark _)) pa_nil)))) pa_nil)))))), ?_⟩
    obtain ⟨bv, hbv, hbd⟩ := lst_bars hb
    refine ⟨by decide, fun F nF => ?_⟩
    have sF := same_upd (o := .lst []) nF
    have nFd : F ≠ d := new_ne hD nF
    refine ⟨_, rfl, _, _, rfl, .inl ⟨_, sF.seq hbv, rfl⟩, _, _, rfl, ?_⟩
    rw [bars_len hbd]
    refine ⟨fun m σ H' => ∃ (ns : List Nat) (left : Nat) (y : Option V), σ = [some (.ref d), some (.ref a), some (.ref F), some (.int (left : Int)), y] ∧ ns.length + m = 60 ∧ ns.sum + left = bs.length ∧ H' F = some (.lst (numsV ns)) ∧ Fr [d] H H' ∧ Dice H' d, ⟨60, [], bs.length, none, rfl, rfl, Nat.zero_add _, upd_same, Fr.of sF _, hD.same sF⟩, ?_⟩
    rintro m σ H1 ⟨ns, left, y, rfl, hm, hsum, hF, f1, hD1⟩
    refine ⟨_, rfl, _, _, rfl, rfl, _, rfl, ite2P (fun h1 => ⟨_, rfl, _, _, rfl, .inl ⟨_, .of hF, rfl⟩, _, _, rfl, rfl, _, rfl, ite2P (fun h2 => ?turn) (fun h2 => ?out1)⟩) (fun h1 => iteF ?out2)⟩
    case out1 | out2 =>
      refine ⟨_, rfl, _, rfl, by show (1 : Nat) ≤ sizeLine; decide, fun L nL => ?_⟩
      have sL := same_upd (o := .lst [.int (left : Int)]) nL
      refine ⟨_, rfl, _, _, rfl, rfl, .inr ⟨_, rfl, L, _, _, rfl, rfl, upd_same, ?_, ?_, ?_, fun M nM => ?_⟩⟩
      · split <;> decide
      · split <;> decide
      · split
        · show (1 : Nat) ≤ sizeLine
          decide
        · show (0 : Nat) ≤ sizeLine
          decide
      have sM := same_upd (o := .lst (List.replicate ((if decide ((0 : Int) < (left : Int)) = true then (1 : Int) else 0).toNat) [V.int (left : Int)]).flatten) nM
      refine ⟨F, M, _, _, rfl, rfl, sM _ _ (sL _ _ hF), upd_same, ?_, fun N nN => ⟨N, _, rfl, .inl ⟨.of upd_same, fun t nt => ?_⟩⟩⟩
      · rw [List.length_map]
        have : (List.replicate ((if decide ((0 : Int) < (left : Int)) = true then (1 : Int) else 0).toNat) [V.int (left : Int)]).flatten.length ≤ 1 := by
          split <;> simp
        exact Nat.le_of_lt (small1000 (by omega))
      have ev : numsV ns ++ (List.replicate ((if decide ((0 : Int) < (left : Int)) = true then (1 : Int) else 0).toNat) [V.int (left : Int)]).flatten = numsV (ns ++ if left = 0 then [] else [left]) := by
        show _ = List.map _ _
        rw [List.map_append]
        congr 1
        by_cases h : left = 0
        · rw [if_pos h, if_neg (by simp [h])]
          rfl
        · rw [if_neg h, if_pos (decide_eq_true (by omega))]
          rfl
      have sN := same_upd (o := .lst (numsV ns ++ (List.replicate ((if decide ((0 : Int) < (left : Int)) = true then (1 : Int) else 0).toNat) [V.int (left : Int)]).flatten)) nN
      have st := same_upd (o := .tup (numsV ns ++ (List.replicate ((if decide ((0 : Int) < (left : Int)) = true then (1 : Int) else 0).toNat) [V.int (left : Int)]).flatten)) nt
      have sall := ((sL.trans sM).trans sN).trans st
      refine z _ _ (ns ++ if left = 0 then [] else [left]) (f1.then sall) (hD1.same sall) (dp_nums_of ?_) ?_ ?_
      · rw [← ev]
        exact .of upd_same
      · rw [List.sum_append]
        split
        · simp
          omega
        · simp
          omega
      · rw [List.length_append]
        split <;> simp <;> omega
    rw [List.length_map] at h2
    refine ⟨fun σ' H' => ∃ m', m' < m ∧ ∃ (ns : List Nat) (left : Nat) (y : Option V), σ' = [some (.ref d), some (.ref a), some (.ref F), some (.int (left : Int)), y] ∧ ns.length + m' = 60 ∧ ns.sum + left = bs.length ∧ H' F = some (.lst (numsV ns)) ∧ Fr [d] H H' ∧ Dice H' d, fun _ _ h => h, ?_⟩
    refine ⟨_, rfl, by show (8 : Nat) ≤ sizeLine; decide, fun L nL => ?_⟩
    have sL := same_upd (o := .lst [.int 0, .int 1, .int 2, .int 3, .int 4, .int 5, .int 6, .int 9]) nL
    refine ⟨_, rfl, d, 8, rfl, hD1.same sL, by decide, by decide, fun H2 r f2 hD2 r0 r1 => ?_⟩
    obtain ⟨many, hmany⟩ : ∃ many : Nat, atI [V.int 0, .int 1, .int 2, .int 3, .int 4, .int 5, .int 6, .int 9] r = some (.int (many : Int)) := by
      rcases (by omega : r = 0 ∨ r = 1 ∨ r = 2 ∨ r = 3 ∨ r = 4 ∨ r = 5 ∨ r = 6 ∨ r = 7) with e | e | e | e | e | e | e | e
      · exact ⟨0, at_of (j := 0) e rfl⟩
      · exact ⟨1, at_of (j := 1) e rfl⟩
      · exact ⟨2, at_of (j := 2) e rfl⟩
      · exact ⟨3, at_of (j := 3) e rfl⟩
      · exact ⟨4, at_of (j := 4) e rfl⟩
      · exact ⟨5, at_of (j := 5) e rfl⟩
      · exact ⟨6, at_of (j := 6) e rfl⟩
      · exact ⟨9, at_of (j := 7) e rfl⟩
    have hF2 := f2.keep F _ (by simp [nFd]) (sL _ _ hF)
    have hL2 := f2.keep L _ (by simp [new_ne hD1 nL]) upd_same
    refine ⟨L, _, _, _, rfl, rfl, .of hL2, hmany, _, _, rfl, ?_⟩
    obtain ⟨k, hk, hkl⟩ : ∃ k : Nat, (if (many : Int) < (left : Int) then (many : Int) else (left : Int)) = (k : Int) ∧ k ≤ left := by
      by_cases h : (many : Int) < (left : Int)
      · exact ⟨many, if_pos h, by omega⟩
      · exact ⟨left, if_neg h, Nat.le_refl _⟩
    rw [hk]
    have g2 := (f1.then sL).trans f2
    refine ⟨_, rfl, .inl ⟨rfl, _, .of hF2⟩, _, rfl, F, _, _, rfl, rfl, hF2, ?_, ?_⟩
    · rw [List.length_map]
      exact small1000 (by omega)
    have f3 : Fr [F] H2 (upd H2 F (.lst (numsV ns ++ [.int (k : Int)]))) := Fr.upd hF2 trivial (by simp)
    refine ⟨_, rfl, _, rfl, _, _, rfl, rfl, m - 1, by omega, ns ++ [k], left - k, some (.int (k : Int)), ?_, ?_, ?_, ?_, g2.step f3 (by simp [nF]), hD2.keep f3 (by simp [nFd.symm])⟩
    · rw [show ((left - k : Nat) : Int) = (left : Int) - (k : Int) by omega]
      rfl
    · rw [List.length_append]
      simp
      omega
    · rw [List.sum_append]
      simp
      omega
    · show _ = some (HO.lst (List.map _ (ns ++ [k])))
      rw [List.map_append]
      exact upd_same
theorem sc_is_right : FnScope ["desk", "page"] ["desk", "page"] (defScope s_is_right) := ⟨rfl, rfl, rfl, by decide +kernel, rfl, by decide +kernel, by decide +kernel⟩
section
variable {K : PySem.W.Frag} {mg : Str → Option Value}
theorem b_is_right (T : Txt K mg) : Binds K (fdOf K ("is_right", none)) ["desk", "page"] [] := T.is_right.bindsN fun _ _ _ _ _ _ us hl => match us, hl with | [_, _], _ => rfl
end
def sp_is_right (K : PySem.W.Frag) : Sp := fun vs H Q _ => ∃ (x : V) (k : Desk) (page : Nat), vs = [x, .int (page : Int)] ∧ Dp K H x (deskD k) ∧ Q (.bl (isRight k page)) H
theorem right_eq (k : Desk) (page : Nat) : decide (V.bl (decide (V.int ((page % 2 : Nat) : Int) = V.int 0)) = V.bl (decide (V.str (sideS k.side) = V.str (Str.ofString "right")))) = isRight k page := by
  have e1 : decide (V.int ((page % 2 : Nat) : Int) = V.int 0) = decide (page % 2 = 0) := by
    rw [Bool.eq_iff_iff, decide_eq_true_iff, decide_eq_true_iff]
    refine ⟨fun h => ?_, fun h => by rw [h]; rfl⟩
    injection h with h
    omega
  have e2 : decide (V.str (sideS k.side) = V.str (Str.ofString "right")) = k.side := by
    cases k.side <;> decide +kernel
  rw [e1, e2]
  unfold isRight
  rw [dec_bl]
theorem ok_is_right {P : Program} {w : World} {K : PySem.W.Frag} {mg : Str → Option Value} {base : Heap} (T : Txt K mg) : OkF P w K mg base CX0 1 ("is_right", none) ["desk", "page"] (sp_is_right K) := by
  refine okN T.is_right sc_is_right (fun vs H Q E h => ?_) (fun cdv A outer s H vs Q E hr h => ?_)
  · obtain ⟨x, k, page, rfl, _⟩ := h
    rfl
  · obtain ⟨x, k, page, rfl, hd, q⟩ := h
    obtain ⟨p, rfl, hs⟩ := dp_desk hd
    refine ⟨_, (pss_one (ps_ret (pe_cmpR op_eq (pe_cmpR op_eq (pe_op op_odd (pv 1) pe_int) pe_int (nomark _)) (pe_cmpR op_eq (pe_ix ix_tup (pv 0) pe_int (fun _ _ => rfl)) pe_str (nomark _)) (nomark _)))), ?_⟩
    refine ⟨_, rfl, page, rfl, rfl, rfl, _, rfl, p, _, _, _, rfl, rfl, hs, rfl, rfl, rfl, ?_⟩
    rw [← right_eq] at q
    exact q
theorem sc_Part_wide : FnScope ["self", "begin", "end", "width", "beats", "rests"] ["self", "begin", "end"] (defScope s_Part_wide) := ⟨rfl, rfl, rfl, by decide +kernel, rfl, by decide +kernel, by decide +kernel⟩
section
variable {K : PySem.W.Frag} {mg : Str → Option Value}
theorem b_Part_wide (T : Txt K mg) : Binds K (fdOf K ("Part", some "wide")) ["self", "begin", "end"] [] := T.Part_wide.bindsN fun _ _ _ _ _ _ us hl => match us, hl with | [_, _, _], _ => rfl
end
def sp_Part_wide (K : PySem.W.Frag) : Sp := fun vs H Q _ => ∃ (p q : Addr) (b e : Nat) (bs : List Bar) (past : List (List Bar)), vs = [.ref p, .int (b : Int), .int (e : Int)] ∧ PartX K H p q bs past ∧ b ≤ e ∧ bs.length ≤ 1000 ∧ ∀ H', Same H H' → Q (.int (wideOf bs b e)) H'
theorem ok_Part_wide {P : Program} {w : World} {K : PySem.W.Frag} {mg : Str → Option Value} {base : Heap} (T : Txt K mg) : OkF P w K mg base CX0 1 ("Part", some "wide") ["self", "begin", "end"] (sp_Part_wide K) := by
  refine okN T.Part_wide sc_Part_wide (fun vs H Q E h => ?_) (fun cdv A outer s H vs Q E hr h => ?_)
  · obtain ⟨p, q, b, e, bs, past, rfl, _⟩ := h
    rfl
  · obtain ⟨p, q, b, e, bs, past, rfl, hp, hbe, hl, z⟩ := h
    obtain ⟨dx, r, ws, h1, n, ⟨vs, h2, h3⟩, _⟩ := hp
    refine ⟨_, (pss_one (ps_ret (pe_callB (cr_sum rfl) (by rfl) T.b_sum (by decide +kernel) (pa_cons (pe_lc (own := [("width", 3), ("beats", 4), ("rests", 5)]) (g := (gTup K 3 (gCons (gName 3) (gCons (gName 4) (gCons (gName 5) gNil))))) (tt := tYes) (by rfl) sc_Part_wide.nd (pi_list (pe_slice sl_list (pe_fld (pv 0) rfl) (po_some (pv 1)) (po_some (pv 2)))) (blkOk_by (own := [("width", 3), ("beats", 4), ("rests", 5)]) (N := ["self", "begin", "end", "width", "beats", "rests"]) (sc := defScope s_Part_wide) (by decide +kernel)) (fun _ _ _ _ _ => (pg_tup rfl (pgs_cons (pg_name (i := 3) sc_Part_wide.nd rfl (by first | exact Or.inl rfl | exact Or.inr rfl)) (pgs_cons (pg_name (i := 4) sc_Part_wide.nd rfl (by first | exact Or.inl rfl | exact Or.inr rfl)) (pgs_cons (pg_name (i := 5) sc_Part_wide.nd rfl (by first | exact Or.inl rfl | exact Or.inr rfl)) pgs_nil))))) (fun _ _ _ _ _ => pts_nil) (fun _ _ _ _ _ => (pv 3))) pa_nil)))), ?_⟩
    refine ⟨_, rfl, p, _, dx, _, _, rfl, h1, T.cl_Part, T.n_row, pf_row, _, rfl, _, rfl, _, rfl, _, rfl, r, vs, rfl, .of h2, fun c nc => ?_⟩
    rw [cut_both hbe]
    have s1 : Same H (upd H c (.lst ((vs.drop b).take (e - b)))) := same_upd nc
    have h4 : DpAll K (upd H c (.lst ((vs.drop b).take (e - b)))) ((vs.drop b).take (e - b)) (barsD ((bs.drop b).take (e - b))) := by
      show DpAll K _ _ (((bs.drop b).take (e - b)).map barD)
      rw [List.map_take, List.map_drop]
      exact dpa_take _ (dpa_drop b (dpa_same s1 h3))
    have hlen := bars_len h4
    have hle : ((bs.drop b).take (e - b)).length ≤ 1000 := by
      rw [List.length_take, List.length_drop]
      omega
    refine ⟨c, rfl, ⟨_, .of upd_same⟩, fun D hD => lc_list (K := K) (a := c) (xs := (vs.drop b).take (e - b)) (fun i H' => Same (upd H c (.lst ((vs.drop b).take (e - b)))) H' ∧ H' D = some (.lst (((((bs.drop b).take (e - b)).take i).map Bar.w).map V.int))) ⟨same_upd hD, ?_⟩ ?_ ?_ ?_⟩
    · rw [upd_same]
      rfl
    · rintro i H' _ ⟨s, _⟩
      exact .of (s _ _ upd_same)
    · rintro i v H' hv ⟨s, e1⟩
      obtain ⟨x, t, hx, rfl, ht⟩ := bar_at h4 hv
      refine ⟨t, _, rfl, same_sqt s ht, rfl, _, _, rfl, _, _, rfl, _, _, rfl, rfl, rfl, _, rfl, _, e1, ?_, same_updR s hD, ?_⟩
      · rw [List.length_map, List.length_map, List.length_take]
        exact small1000 (by omega)
      · rw [upd_same, take_at hx, List.map_append, List.map_append]
        rfl
    · rintro H1 ⟨s2, e1⟩
      rw [hlen, List.take_length] at e1
      exact ⟨D, _, rfl, .of e1, z _ (s1.trans s2)⟩
theorem sc_beats_of : FnScope ["row", "found", "width", "beats", "rests"] ["row"] (defScope s_beats_of) := ⟨rfl, rfl, rfl, by decide +kernel, rfl, by decide +kernel, by decide +kernel⟩
section
variable {K : PySem.W.Frag} {mg : Str → Option Value}
theorem b_beats_of (T : Txt K mg) : Binds K (fdOf K ("beats_of", none)) ["row"] [] := T.beats_of.bindsN fun _ _ _ _ _ _ us hl => match us, hl with | [_], _ => rfl
end
def sp_beats_of (K : PySem.W.Frag) : Sp := fun vs H Q _ => ∃ (a : Addr) (bs : List Bar), vs = [.ref a] ∧ Dp K H (.ref a) (.list (barsD bs)) ∧ Q (.int (beatsOf bs)) H
theorem ok_beats_of {P : Program} {w : World} {K : PySem.W.Frag} {mg : Str → Option Value} {base : Heap} (T : Txt K mg) : OkF P w K mg base CX0 1 ("beats_of", none) ["row"] (sp_beats_of K) := by
  refine okN T.beats_of sc_beats_of (fun vs H Q E h => ?_) (fun cdv A outer s H vs Q E hr h => ?_)
  · obtain ⟨a, bs, rfl, _⟩ := h
    rfl
  · obtain ⟨a, bs, rfl, hd, q⟩ := h
    obtain ⟨xs, hs, ha⟩ := lst_bars hd
    refine ⟨_, (pss_cons (ps_set (i := 1) sc_beats_of.nd rfl (by first | exact Or.inl rfl | exact Or.inr rfl) pe_int)
      (pss_cons (ps_for PassesOwn.never rfl (pi_list (pv 0)) (pg_tup rfl (pgs_cons (pg_name (i := 2) sc_beats_of.nd rfl (by first | exact Or.inl rfl | exact Or.inr rfl)) (pgs_cons (pg_name (i := 3) sc_beats_of.nd rfl (by first | exact Or.inl rfl | exact Or.inr rfl)) (pgs_cons (pg_name (i := 4) sc_beats_of.nd rfl (by first | exact Or.inl rfl | exact Or.inr rfl)) pgs_nil))))
      (pss_cons (ps_if (pt_not (pt_val (pv 4))) (pss_one (ps_ret (pv 1))) pss_nil)
      (pss_one (ps_set (i := 1) sc_beats_of.nd rfl (by first | exact Or.inl rfl | exact Or.inr rfl) (pe_op op_add (pv 1) (pv 3))))))
      (pss_one (ps_ret (pv 1))))), ?_⟩
    refine ⟨_, rfl, a, rfl, ⟨_, hs⟩, for_list (xs := xs) (fun i σ H' => H' = H ∧ ∃ f y2 y3 y4, σ = [some (.ref a), some (.int f), y2, y3, y4] ∧ f + beatsOf (bs.drop i) = beatsOf bs) ⟨rfl, 0, none, none, none, rfl, ?_⟩ ?_ ?_ ?_⟩
    · show 0 + beatsOf bs = beatsOf bs
      omega
    · rintro i σ H' _ ⟨rfl, _⟩
      exact hs
    · rintro i x σ H' hx ⟨rfl, f, y2, y3, y4, rfl, e⟩
      obtain ⟨b, p, hb, rfl, hp⟩ := bar_at ha hx
      refine ⟨p, _, rfl, hp, rfl, _, _, rfl, _, _, rfl, _, _, rfl, rfl, ?_⟩
      rw [drop_at hb] at e
      refine ⟨_, rfl, _, rfl, ?_⟩
      replace e : f + (if b.r = true then b.b + beatsOf (bs.drop (i + 1)) else 0) = beatsOf bs := e
      cases hr : b.r with
      | true =>
        rw [hr, if_pos rfl] at e
        refine iteF ⟨_, rfl, _, rfl, _, _, rfl, rfl, rfl, _, _, _, _, rfl, ?_⟩
        omega
      | false =>
        rw [hr, if_neg Bool.false_ne_true] at e
        refine iteT ⟨_, rfl, ?_⟩
        rw [show f = beatsOf bs by omega]
        exact q
    · rintro σ H' ⟨rfl, f, y2, y3, y4, rfl, e⟩
      rw [bars_len ha, List.drop_length] at e
      refine ⟨_, rfl, ?_⟩
      rw [show f = beatsOf bs by
        have e2 : f + 0 = beatsOf bs := e
        omega]
      exact q
theorem sc_Part_ahead : FnScope ["self", "at"] ["self", "at"] (defScope s_Part_ahead) := ⟨rfl, rfl, rfl, by decide +kernel, rfl, by decide +kernel, by decide +kernel⟩
section
variable {K : PySem.W.Frag} {mg : Str → Option Value}
theorem b_Part_ahead (T : Txt K mg) : Binds K (fdOf K ("Part", some "ahead")) ["self", "at"] [] := T.Part_ahead.bindsN fun _ _ _ _ _ _ us hl => match us, hl with | [_, _], _ => rfl
end
def sp_Part_ahead (K : PySem.W.Frag) : Sp := fun vs H Q _ => ∃ (p q : Addr) (k : Nat) (bs : List Bar) (past : List (List Bar)), vs = [.ref p, .int (k : Int)] ∧ PartX K H p q bs past ∧ ∀ H', Same H H' → Q (.int (beatsOf (bs.take k).reverse)) H'
theorem ok_Part_ahead {P : Program} {w : World} {K : PySem.W.Frag} {mg : Str → Option Value} {base : Heap} (T : Txt K mg) : OkF P w K mg base CX0 2 ("Part", some "ahead") ["self", "at"] (sp_Part_ahead K) := by
  refine okN T.Part_ahead sc_Part_ahead (fun vs H Q E h => ?_) (fun cdv A outer s H vs Q E hr h => ?_)
  · obtain ⟨p, q, k, bs, past, rfl, _⟩ := h
    rfl
  · obtain ⟨p, q, k, bs, past, rfl, hp, z⟩ := h
    obtain ⟨dx, r, ws, h1, n, ⟨vs, h2, h3⟩, _⟩ := hp
    refine ⟨_, (pss_one (ps_ret (pe_call (ok_beats_of T) (hr.mono (by decide)) (by rfl) T.g_beats_of T.beats_of.kp (b_beats_of T) .nil pass0 (pa_cons (pe_revL (pe_slice sl_list (pe_fld (pv 0) rfl) po_none (po_some (pv 1)))) pa_nil)))), ?_⟩
    refine ⟨_, rfl, p, _, dx, _, _, rfl, h1, T.cl_Part, T.n_row, pf_row, _, rfl, _, rfl, r, vs, rfl, .of h2, fun c nc => ?_⟩
    rw [cut_take]
    have s1 : Same H (upd H c (.lst (vs.take k))) := same_upd nc
    refine ⟨c, _, rfl, .of upd_same, fun e ne => ?_⟩
    have s2 := s1.trans (same_upd (o := .lst (vs.take k).reverse) ne)
    refine ⟨e, (bs.take k).reverse, rfl, .lst (.of upd_same) ?_, z _ s2⟩
    show DpAll K _ _ (((bs.take k).reverse).map barD)
    rw [List.map_reverse, List.map_take]
    exact dpa_rev (dpa_take k (dpa_same s2 h3))
theorem sc_Part_behind : FnScope ["self", "at"] ["self", "at"] (defScope s_Part_behind) := ⟨rfl, rfl, rfl, by decide +kernel, rfl, by decide +kernel, by decide +kernel⟩
section
variable {K : PySem.W.Frag} {mg : Str → Option Value}
theorem b_Part_behind (T : Txt K mg) : Binds K (fdOf K ("Part", some "behind")) ["self", "at"] [] := T.Part_behind.bindsN fun _ _ _ _ _ _ us hl => match us, hl with | [_, _], _ => rfl
end
def sp_Part_behind (K : PySem.W.Frag) : Sp := fun vs H Q _ => ∃ (p q : Addr) (k : Nat) (bs : List Bar) (past : List (List Bar)), vs = [.ref p, .int (k : Int)] ∧ PartX K H p q bs past ∧ ∀ H', Same H H' → Q (.int (beatsOf (bs.drop k))) H'
theorem ok_Part_behind {P : Program} {w : World} {K : PySem.W.Frag} {mg : Str → Option Value} {base : Heap} (T : Txt K mg) : OkF P w K mg base CX0 2 ("Part", some "behind") ["self", "at"] (sp_Part_behind K) := by
  refine okN T.Part_behind sc_Part_behind (fun vs H Q E h => ?_) (fun cdv A outer s H vs Q E hr h => ?_)
  · obtain ⟨p, q, k, bs, past, rfl, _⟩ := h
    rfl
  · obtain ⟨p, q, k, bs, past, rfl, hp, z⟩ := h
    obtain ⟨dx, r, ws, h1, n, ⟨vs, h2, h3⟩, _⟩ := hp
    refine ⟨_, (pss_one (ps_ret (pe_call (ok_beats_of T) (hr.mono (by decide)) (by rfl) T.g_beats_of T.beats_of.kp (b_beats_of T) .nil pass0 (pa_cons (pe_slice sl_list (pe_fld (pv 0) rfl) (po_some (pv 1)) po_none) pa_nil)))), ?_⟩
    refine ⟨_, rfl, p, _, dx, _, _, rfl, h1, T.cl_Part, T.n_row, pf_row, _, rfl, _, rfl, r, vs, rfl, .of h2, fun c nc => ?_⟩
    rw [cut_drop]
    have s1 : Same H (upd H c (.lst (vs.drop k))) := same_upd nc
    refine ⟨c, bs.drop k, rfl, .lst (.of upd_same) ?_, z _ s1⟩
    show DpAll K _ _ ((bs.drop k).map barD)
    rw [List.map_drop]
    exact dpa_drop k (dpa_same s1 h3)
theorem sc_Part_rest : FnScope ["self", "at"] ["self", "at"] (defScope s_Part_rest) := ⟨rfl, rfl, rfl, by decide +kernel, rfl, by decide +kernel, by decide +kernel⟩
section
variable {K : PySem.W.Frag} {mg : Str → Option Value}
theorem b_Part_rest (T : Txt K mg) : Binds K (fdOf K ("Part", some "rest")) ["self", "at"] [] := T.Part_rest.bindsN fun _ _ _ _ _ _ us hl => match us, hl with | [_, _], _ => rfl
end
def sp_Part_rest (K : PySem.W.Frag) : Sp := fun vs H Q _ => ∃ (p q : Addr) (k : Nat) (bs : List Bar) (past : List (List Bar)), vs = [.ref p, .int (k : Int)] ∧ PartX K H p q bs past ∧ k ≤ bs.length ∧ ∀ H', Same H H' → Q (.int (restOf bs k)) H'
theorem isNum_nat {k n : Nat} (h : k ≤ n) : isNum (.int (k : Int)) 0 (n : Int) = true := by
  show (decide ((0 : Int) ≤ (k : Int)) && decide ((k : Int) ≤ (n : Int))) = true
  rw [decide_eq_true (by omega), decide_eq_true (by omega)]
  rfl
theorem ok_Part_rest {P : Program} {w : World} {K : PySem.W.Frag} {mg : Str → Option Value} {base : Heap} (T : Txt K mg) : OkF P w K mg base CX0 3 ("Part", some "rest") ["self", "at"] (sp_Part_rest K) := by
  refine okN T.Part_rest sc_Part_rest (fun vs H Q E h => ?_) (fun cdv A outer s H vs Q E hr h => ?_)
  · obtain ⟨p, q, k, bs, past, rfl, _⟩ := h
    rfl
  · obtain ⟨p, q, k, bs, past, rfl, hp, hk, z⟩ := h
    obtain ⟨dx, r, ws, h1, n, ⟨vs, h2, h3⟩, _⟩ := id hp
    refine ⟨_, (pss_cons (ps_if (pt_not (pt_val (pe_call (ok_is_number T) (hr.mono (by decide)) (by rfl) T.g_is_number T.is_number.kp (b_is_number T) .nil pass0 (pa_cons (pv 1) (pa_cons pe_int (pa_cons (pe_callB call_len (by rfl) T.b_len PySem.boot_len (pa_cons (pe_fld (pv 0) rfl) pa_nil)) pa_nil)))))) pss_never pss_nil)
      (pss_one (ps_ret (pe_op op_add (pe_meth (pv 0) T.cl_Part T.m_Part_ahead (ok_Part_ahead T) (hr.mono (by decide)) (b_Part_ahead T) .nil pass0 (pa_cons (pv 1) pa_nil)) (pe_meth (pv 0) T.cl_Part T.m_Part_behind (ok_Part_behind T) (hr.mono (by decide)) (b_Part_behind T) .nil pass0 (pa_cons (pv 1) pa_nil)))))), ?_⟩
    refine ⟨_, rfl, _, rfl, p, _, dx, _, _, rfl, h1, T.cl_Part, T.n_row, pf_row, _, _, rfl, .inl ⟨_, .of h2, rfl⟩, _, .int (k : Int), _, _, rfl, .int _, _, rfl, ?_⟩
    rw [bars_len h3, isNum_nat hk]
    refine iteF ⟨_, rfl, p, dx, _, rfl, h1, pf_no (by decide +kernel) (by decide +kernel), _, rfl, p, q, k, bs, past, rfl, hp, fun H1 s1 => ?_⟩
    refine ⟨_, rfl, p, dx, _, rfl, s1 _ _ h1, pf_no (by decide +kernel) (by decide +kernel), _, rfl, p, q, k, bs, past, rfl, hp.same s1, fun H2 s2 => ?_⟩
    exact ⟨_, _, rfl, rfl, z _ (s1.trans s2)⟩
section
variable {X : Cx}
/-- t[lo:hi].count(x), the slice not the whole tuple -/
def tSlCnt (K : PySem.W.Frag) (te : TE) (tl th : L2.St → Hp → (Option Int → Hp → Prop) → Prop) (t2 : TE) : TE := fun σ H Q => te σ H fun x H1 => tl σ H1 fun l H2 => th σ H2 fun u H3 => ∃ a xs, x = .ref a ∧ SqT K H3 a xs ∧
  ¬ (HT.sIx xs.length 0 l = 0 ∧ HT.sIx xs.length xs.length u = xs.length) ∧ ∀ p, H3 p = none → t2 σ (upd H3 p (.tup (cutV xs l u))) fun y H4 => ∃ (ds : List PyData) (d : PyData), Dp K H4 (.ref p) (.tuple ds) ∧ Dp K H4 y d ∧ SeqAt.shaped (.tuple ds) = true ∧ SeqAt.shaped d = true ∧ Q (.int ((ds.countP fun z => PyData.eqv z d : Nat) : Int)) H4
theorem pe_slCnt {e e2 : Expr} {lo hi : Option Expr} {te t2 : TE} {tl th : L2.St → Hp → (Option Int → Hp → Prop) → Prop} {p2 pos apos cpos : Pos} (hu65 : X.A.units + 65 < cLine) (he : PE X e te) (hl : PO X lo tl) (hu : PO X hi th) (h2 : PE X e2 t2)
    (hbase : attributeBase (.Subscript e (.Slice lo hi none p2) pos) "count" X.env (eval (.Subscript e (.Slice lo hi none p2) pos) X.env) = eval (.Subscript e (.Slice lo hi none p2) pos) X.env := by rfl)
    (hfew : ((backTo cpos (starEach [e2] X.env)).all (fun x => !x.1) && (backToKw cpos (keywordEach [] X.env)).all (fun x => x.1.isSome)
      && decide ([e2].length + ([] : List Keyword).length + (if ([] : List Keyword).isEmpty then 0 else 1) < 30)) = true := by rfl)
    (hline : (apos.endLine == cpos.line) = true := by rfl) (hs : starEach [e2] X.env = (false, eval e2 X.env) :: starEach [] X.env := by rfl) (hplain : (backTo cpos (starEach [] X.env)).any (·.1) = false := by rfl) :
    PE X (.Call (.Attribute (.Subscript e (.Slice lo hi none p2) pos) "count" apos) [e2] [] cpos) (tSlCnt X.K te tl th t2) := by
  refine ⟨fun pins s σ H Q I h => ?_⟩
  refine wpAny_Call_method_late hbase hfew hline rfl ?_
  refine Subscript_ (thn (he.run pins s σ H _ I h) fun v s1 ⟨x, H1, I1, r1, q1⟩ => ?_)
  refine wpAny_Slice (thn (hl.run pins s1 σ H1 _ I1 q1) fun vl s2 ⟨l, H2, I2, pl, q2⟩ => thn (hu.run pins s2 σ H2 _ I2 q2) fun vu s3 ⟨u, H3, I3, pu, q3⟩ => ?_)
  rw [evalPart_none]
  refine wpAny_pure ?_
  obtain ⟨a, xs, rfl, hx, hw, q⟩ := q3
  cases r1
  have I4 : Inv X pins σ H3 { s3 with heap := s3.heap.push { cls := .type "slice", data := .fields #[vl, vu, .none] } } := I3.kept (t' := s3.toks) fun b ob q => Heap.get?_push_of_some _ q
  obtain ⟨its, r, ht, hz⟩ := I4.tuple hx
  have hlen : its.toArray.size = xs.length := by rw [List.size_toArray]; exact r.length.symm
  show wpAny (model X.prog X.w) X.A (subscriptTail e (.Slice lo hi none p2) (.ref a) (.ref s3.heap.objs.size)) _ X.xe { s3 with heap := s3.heap.push { cls := .type "slice", data := .fields #[vl, vu, .none] } }
  refine tail_any (ops := [.ref s3.heap.objs.size, .ref a]) ht.typeIs PyProof.Rows.slot_tuple_getitem.lookup ?_ (by with_unfolding_all rfl)
  refine HT.getItem_tuple_cut ht (Heap.IsSliceOf.new ..) pl pu (by rw [hlen]; exact hw) ?_ (by rw [hlen]; exact hz)
  rw [hlen]
  generalize hS : ({ s3 with heap := s3.heap.push { cls := .type "slice", data := .fields #[vl, vu, .none] } } : Shared) = S at I4 ht ⊢
  have hfr := I4.hok.fresh (Nat.le_refl S.heap.objs.size)
  have I5 : Inv X pins σ (upd H3 S.heap.objs.size (.tup (cutV xs l u))) _ := I4.laid (t' := S.toks) (o := .tup (cutV xs l u)) (fun b ob q => Heap.get?_push_of_some _ q) (Nat.le_refl _)
    ⟨Nat.le_trans (cutV_length xs l u) hz, _, (r.drop (HT.sIx xs.length 0 l)).take (HT.sIx xs.length xs.length u - HT.sIx xs.length 0 l), IsTup.new _ _⟩
  refine ⟨"tuple", _, PySem.F.plainAttrs_tuple, PySem.F.slot_tuple_count, PySem.F.type_tuple_count, (IsTup.new _ _).typeIs, fun b e => ?_, ?_⟩
  · cases e
    exact ⟨_, Heap.get?_push_size _ rfl, rfl⟩
  · have hA := (pa_cons h2 pa_nil hs).run cpos pins _ σ _ (fun ys H4 => match ys with
      | [y] => ∃ (ds : List PyData) (d : PyData), Dp X.K H4 (.ref S.heap.objs.size) (.tuple ds) ∧ Dp X.K H4 y d ∧ SeqAt.shaped (.tuple ds) = true ∧ SeqAt.shaped d = true ∧ Q (.int ((ds.countP fun z => PyData.eqv z d : Nat) : Int)) H4
      | _ => False) I5 (q S.heap.objs.size hfr)
    rw [hs] at hA ⊢
    refine Calls.callWith_builtin (by show (false || (backTo cpos (starEach [] X.env)).any (·.1)) = false; rw [hplain] <;> rfl) (Calls.evalArgs_plain ?_)
    refine thn hA fun us s2 ⟨vs, H2, I2, r2, z⟩ => ?_
    obtain ⟨y, rfl⟩ : ∃ y, vs = [y] := by
      match vs, z with
      | [y], _ => exact ⟨y, rfl⟩
    obtain ⟨ds, d, d1, d2, sh1, sh2, q2⟩ := z
    exact mt_tcount hu65 pins s2 σ H2 (.ref S.heap.objs.size) [y] (.ref S.heap.objs.size) us Q I2 rfl r2 ⟨_, y, ds, d, rfl, rfl, d1, d2, sh1, sh2, q2⟩
end
theorem sc_page_fault : FnScope ["part", "desk", "thing", "page", "end", "is_last"] ["part", "desk", "thing", "page"] (defScope s_page_fault) := ⟨rfl, rfl, rfl, by decide +kernel, rfl, by decide +kernel, by decide +kernel⟩
section
variable {K : PySem.W.Frag} {mg : Str → Option Value}
theorem b_page_fault (T : Txt K mg) : Binds K (fdOf K ("page_fault", none)) ["part", "desk", "thing", "page"] [] := T.page_fault.bindsN fun _ _ _ _ _ _ us hl => match us, hl with | [_, _, _, _], _ => rfl
end
def sp_page_fault (K : PySem.W.Frag) : Sp := fun vs H Q _ => ∃ (p q : Addr) (bs : List Bar) (past : List (List Bar)) (x y : V) (k : Desk) (ns : List Nat) (page : Nat), vs = [.ref p, x, y, .int (page : Int)] ∧ PartX K H p q bs past ∧ Dp K H x (deskD k) ∧ Dp K H y (.tuple (numsD ns)) ∧ page < ns.length ∧ ns.sum = bs.length ∧ bs.length ≤ 1000 ∧
  ∀ v H', Same H H' → Dp K H' v (faultD (pageFault bs k ns page)) → Q v H'
theorem sum_take_le : ∀ (ns : List Nat) (i : Nat), (ns.take i).sum ≤ ns.sum
  | [], _ => by simp
  | n :: r, 0 => by simp
  | n :: r, i + 1 => by
    have := sum_take_le r i
    simp only [List.take_succ_cons, List.sum_cons]
    omega
theorem sum_at : ∀ {ns : List Nat} {i : Nat}, i < ns.length → ns.getD i 0 ≤ (ns.take (i + 1)).sum
  | [], _, h => by simp at h
  | n :: r, 0, _ => by simp
  | n :: r, i + 1, h => by
    have := sum_at (ns := r) (i := i) (by simpa using h)
    simp only [List.take_succ_cons, List.sum_cons, List.getD_cons_succ]
    omega
theorem numsV_at {ns : List Nat} {i : Nat} (h : i < ns.length) : (numsV ns)[i]? = some (.int ((ns.getD i 0 : Nat) : Int)) := by
  rw [List.getElem?_map, List.getElem?_eq_getElem h, List.getD_eq_getElem?_getD, List.getElem?_eq_getElem h]
  rfl
theorem numsV_sum : ∀ ns : List Nat, (ns.map fun (n : Nat) => (n : Int)).sum = ((ns.sum : Nat) : Int)
  | [] => rfl
  | n :: r => by
    simp only [List.map_cons, List.sum_cons, numsV_sum r]
    omega
theorem numsV_ints (ns : List Nat) : numsV ns = (ns.map fun (n : Nat) => (n : Int)).map V.int := by
  rw [List.map_map]
  rfl
theorem count_nums : ∀ ns : List Nat, (numsD ns).countP (fun z => PyData.eqv z (.int 0)) = ns.count 0
  | [] => rfl
  | n :: r => by
    have e : PyData.eqv (.int (n : Int)) (.int 0) = (n == 0) := by
      simp only [PyData.eqv]
      rw [Bool.eq_iff_iff]
      simp
    simp only [List.map_cons, List.countP_cons, List.count_cons, count_nums r, e]
theorem ok_page_fault {P : Program} {w : World} {K : PySem.W.Frag} {mg : Str → Option Value} {base : Heap} (T : Txt K mg) : OkF P w K mg base CX0 5 ("page_fault", none) ["part", "desk", "thing", "page"] (sp_page_fault K) := by
  refine okN T.page_fault sc_page_fault (fun vs H Q E h => ?_) (fun cdv A outer s H vs Q E hr h => ?_)
  · obtain ⟨p, q, bs, past, x, y, k, ns, page, rfl, _⟩ := h
    rfl
  · obtain ⟨p, q, bs, past, x, y, k, ns, page, rfl, hp, hx, hy, hpg, hsum, hlen, z⟩ := h
    obtain ⟨dk, rfl, hdk⟩ := dp_desk hx
    obtain ⟨t, rfl, ht⟩ := dp_nums hy
    have he := sum_take_le ns (page + 1)
    have hn := sum_at hpg
    unfold pageFault at z
    dsimp only at z
    generalize hE : (ns.take (page + 1)).sum = e at z he hn
    generalize hN : ns.getD page 0 = n at z hn
    have htn : ∀ H', Same H H' → SqT K H' t (numsV ns) := fun H' s => same_sqt s ht
    refine ⟨_, (pss_cons (ps_set (i := 4) sc_page_fault.nd rfl (by first | exact Or.inl rfl | exact Or.inr rfl) (pe_callB (cr_sumT rfl) (by rfl) T.b_sum (by decide +kernel) (pa_cons (pe_slice sl_tupU (pv 2) po_none (po_some (pe_op op_add (pv 3) pe_int))) pa_nil)))
      (pss_cons (ps_set (i := 5) sc_page_fault.nd rfl (by first | exact Or.inl rfl | exact Or.inr rfl) (pe_cmpR op_eq (pe_op op_add (pv 3) pe_int) (pe_callB call_len (by rfl) T.b_len PySem.boot_len (pa_cons (pv 2) pa_nil)) (nomark _)))
      (pss_cons (ps_if (pt_cmpR op_gt (pe_meth (pv 0) T.cl_Part T.m_Part_wide (ok_Part_wide T) (hr.mono (by decide)) (b_Part_wide T) .nil pass0 (pa_cons (pe_op op_sub (pv 4) (pe_ix ix_tup (pv 2) (pv 3) (fun _ _ => rfl))) (pa_cons (pv 4) pa_nil))) (pe_ix ix_tup (pv 1) pe_int (fun _ _ => rfl)) (nomark _)) (pss_one (ps_ret (pe_tup (pa_cons pe_str (pa_cons (pv 3) pa_nil))))) pss_nil)
      (pss_cons (ps_if (PW.pt (pw_and (pt_cmpR op_eq (pe_ix ix_tup (pv 2) (pv 3) (fun _ _ => rfl)) pe_int (nomark _)) (pw_and1 (PW.pt (pw_or (pt_val (pv 5)) (pw_or1 (pt_cmpR op_gt (pe_slCnt (units65 hr) (pv 2) po_none (po_some (pe_op op_add (pv 3) pe_int)) pe_int) (pe_ix ix_tup (pv 1) pe_int (fun _ _ => rfl)) (nomark _)))))))) (pss_one (ps_ret (pe_tup (pa_cons pe_str (pa_cons (pv 3) pa_nil))))) pss_nil)
      (pss_cons (ps_if (PW.pt (pw_and (pt_val (pe_call (ok_is_right T) (hr.mono (by decide)) (by rfl) T.g_is_right T.is_right.kp (b_is_right T) .nil pass0 (pa_cons (pv 1) (pa_cons (pv 3) pa_nil)))) (pw_and (pt_not (pt_val (pv 5))) (pw_and1 (pt_cmpR op_lt (pe_meth (pv 0) T.cl_Part T.m_Part_rest (ok_Part_rest T) (hr.mono (by decide)) (b_Part_rest T) .nil pass0 (pa_cons (pv 4) pa_nil)) (pe_ix ix_tup (pv 1) pe_int (fun _ _ => rfl)) (nomark _)))))) (pss_one (ps_ret (pe_tup (pa_cons pe_str (pa_cons (pv 3) pa_nil))))) pss_nil)
      (pss_one (ps_ret pe_non))))))), ?_⟩
    -- end = sum(thing[:page + 1])
    refine ⟨_, rfl, _, rfl, _, _, rfl, rfl, _, rfl, t, _, rfl, ht, fun c H1 s1 hc => ?_⟩
    rw [show (page : Int) + 1 = ((page + 1 : Nat) : Int) by omega, cut_take, ← List.map_take] at hc
    have hc2 : SqT K H1 c (((ns.take (page + 1)).map fun (n : Nat) => (n : Int)).map V.int) := by
      rw [← numsV_ints]
      exact hc
    refine ⟨c, _, rfl, hc2, ?_⟩
    rw [numsV_sum, hE]
    -- is_last = page + 1 == len(thing)
    refine ⟨_, rfl, _, _, rfl, rfl, _, rfl, _, _, rfl, .inr ⟨_, htn _ s1, rfl⟩, rfl, ?_⟩
    have hlast : decide (V.int ((page : Int) + 1) = V.int (((numsV ns).length : Nat) : Int)) = decide (page + 1 = ns.length) := by
      rw [Bool.eq_iff_iff, decide_eq_true_iff, decide_eq_true_iff, List.length_map]
      refine ⟨fun h => ?_, fun h => by rw [← h]; rfl⟩
      injection h with h
      omega
    show tSeq _ _ _ _ _
    rw [hlast]
    -- part.wide(end - thing[page], end) > desk[0]
    have hp1 := hp.same s1
    obtain ⟨dx, r, ws, h1, _⟩ := id hp1
    refine ⟨_, rfl, p, dx, _, rfl, h1, pf_no (by decide +kernel) (by decide +kernel), ?_⟩
    refine ⟨_, rfl, _, rfl, _, rfl, t, _, _, _, rfl, rfl, htn _ s1, atI_nat (numsV_at hpg), _, _, rfl, rfl, _, rfl, ?_⟩
    rw [hN]
    refine ⟨p, q, e - n, e, bs, past, by rw [show ((e - n : Nat) : Int) = (e : Int) - (n : Int) by omega]; rfl, hp1, by omega, hlen, fun H2 s2 => ?_⟩
    have s12 := s1.trans s2
    refine ⟨_, rfl, dk, _, _, _, rfl, rfl, same_sqt s12 hdk, rfl, _, _, rfl, rfl, _, rfl, ?_⟩
    refine ite2P (fun hw => ?_) (fun hw => ?_)
    · rw [if_pos hw] at z
      refine ⟨_, rfl, by show (2 : Nat) ≤ sizeLine; decide, fun c2 n2 => z _ _ (s12.trans (same_upd n2)) (.tup (.of upd_same) (.cons (.str _) (.cons (.int _) .nil)))⟩
    rw [if_neg hw] at z
    -- thing[page] == 0 and (is_last or thing[:page + 1].count(0) > desk[3])
    refine ⟨_, rfl, _, rfl, t, _, _, _, rfl, rfl, htn _ s12, atI_nat (numsV_at hpg), rfl, _, rfl, ?_⟩
    rw [hN]
    have turn : ∀ H3, Same H H3 → (∀ v H', Same H H' → Dp K H' v (faultD (if isRight k page = true ∧ ¬ page + 1 = ns.length ∧ restOf bs e < k.turn then some (.turn page) else none)) → Q v H') →
        (tSeq (tIfS (tAnd (tB (tCall (sp_is_right K) [] E0 (tCons (tVar 1) (tCons (tVar 3) tNil)))) (tAnd (tNot (tB (tVar 5))) (tTest (tOp (rI0 fun i j => V.bl (decide (i < j))) (tMeth (pC K) "rest" (sp_Part_rest K) [] E0 (tVar 0) (tCons (tVar 4) tNil)) (tOp (rIxT K) (tVar 1) (tC (.int 1))))))) (tRet (tTup (tCons (tC (.str (Str.ofString "turn"))) (tCons (tVar 3) tNil)))) tNext) (tRet (tC .non))) { nx := fun _ H' => Q .non H', rt := Q } [some (.ref p), some (.ref dk), some (.ref t), some (.int (page : Int)), some (.int (e : Int)), some (.bl (decide (page + 1 = ns.length)))] H3 := by
      intro H3 s3 z3
      refine ⟨_, rfl, _, rfl, _, k, page, rfl, dp_same s3 hx, _, rfl, ?_⟩
      cases hri : isRight k page with
      | false =>
        rw [if_neg (by simp [hri])] at z3
        exact iteF (iteF (z3 _ _ s3 .non))
      | true =>
        refine iteT ⟨_, rfl, _, rfl, ?_⟩
        by_cases hl : page + 1 = ns.length
        · rw [if_neg (by simp [hl])] at z3
          rw [decide_eq_true hl]
          exact iteF (iteF (z3 _ _ s3 .non))
        · rw [decide_eq_false hl]
          have hp3 := hp.same s3
          obtain ⟨dx, r, ws, h1, _⟩ := id hp3
          refine iteT ⟨_, rfl, p, dx, _, rfl, h1, pf_no (by decide +kernel) (by decide +kernel), _, rfl, p, q, e, bs, past, rfl, hp3, by omega, fun H4 s4 => ?_⟩
          have s34 := s3.trans s4
          refine ⟨_, rfl, dk, _, _, _, rfl, rfl, same_sqt s34 hdk, rfl, _, _, rfl, rfl, _, rfl, ?_⟩
          refine ite2P (fun hw => ?_) (fun hw => ?_)
          · rw [if_pos ⟨hri, hl, hw⟩] at z3
            refine ⟨_, rfl, by show (2 : Nat) ≤ sizeLine; decide, fun c2 n2 => z3 _ _ (s34.trans (same_upd n2)) (.tup (.of upd_same) (.cons (.str _) (.cons (.int _) .nil)))⟩
          · rw [if_neg (fun h => hw h.2.2)] at z3
            exact z3 _ _ s34 .non
    refine ite2Q (fun h0 => ?_) (fun h0 => ?_)
    · have hn0 : n = 0 := by omega
      refine ⟨_, rfl, _, rfl, ?_⟩
      by_cases hl : page + 1 = ns.length
      · rw [if_pos ⟨hn0, .inl hl⟩] at z
        rw [decide_eq_true hl]
        refine iteT (iteT ⟨_, rfl, by show (2 : Nat) ≤ sizeLine; decide, fun c2 n2 => z _ _ (s12.trans (same_upd n2)) (.tup (.of upd_same) (.cons (.str _) (.cons (.int _) .nil)))⟩)
      · have hdl := decide_eq_false hl
        rw [hdl]
        have hw : ¬ (HT.sIx (numsV ns).length 0 none = 0 ∧ HT.sIx (numsV ns).length (numsV ns).length (some ((page : Int) + 1)) = (numsV ns).length) := fun h => by
          have h2 := h.2
          rw [show (page : Int) + 1 = ((page + 1 : Nat) : Int) by omega, HT.sIx_nat, List.length_map] at h2
          omega
        refine iteF ⟨_, rfl, _, rfl, _, _, rfl, rfl, _, rfl, t, _, rfl, htn _ s12, hw, fun c3 n3 => ?_⟩
        rw [show (page : Int) + 1 = ((page + 1 : Nat) : Int) by omega, cut_take, ← List.map_take]
        have s3 := same_upd (o := .tup ((ns.take (page + 1)).map fun (n : Nat) => V.int (n : Int))) n3
        have s13 := s12.trans s3
        have hc3 : SqT K (upd H2 c3 (.tup ((ns.take (page + 1)).map fun (n : Nat) => V.int (n : Int)))) c3 (numsV (ns.take (page + 1))) := .of upd_same
        refine ⟨_, _, dp_nums_of hc3, .int 0, (shp_nums _).ok (by decide), (shp_int (n := 0) 0).ok (by decide), ?_⟩
        rw [count_nums]
        refine ⟨_, rfl, dk, _, _, _, rfl, rfl, same_sqt s13 hdk, rfl, _, _, rfl, rfl, _, rfl, ?_⟩
        refine ite2P (fun hw => ?_) (fun hw => ?_)
        · rw [if_pos ⟨hn0, .inr hw⟩] at z
          refine ⟨_, rfl, by show (2 : Nat) ≤ sizeLine; decide, fun c2 n2 => z _ _ (s13.trans (same_upd n2)) (.tup (.of upd_same) (.cons (.str _) (.cons (.int _) .nil)))⟩
        · rw [if_neg (fun h => h.2.elim hl hw)] at z
          have g := turn _ s13 z
          rw [hdl] at g
          exact g
    · rw [if_neg (fun h => h0 (by omega))] at z
      exact iteF (turn H2 s12 z)
theorem sc_are_numbers : FnScope ["thing", "one"] ["thing"] (defScope s_are_numbers) := ⟨rfl, rfl, rfl, by decide +kernel, rfl, by decide +kernel, by decide +kernel⟩
section
variable {K : PySem.W.Frag} {mg : Str → Option Value}
theorem b_are_numbers (T : Txt K mg) : Binds K (fdOf K ("are_numbers", none)) ["thing"] [] := T.are_numbers.bindsN fun _ _ _ _ _ _ us hl => match us, hl with | [_], _ => rfl
end
def isNat0 : PyData → Bool
  | .int i => decide (0 ≤ i)
  | _ => false
def areNums : PyData → Bool
  | .tuple ds => ds.all isNat0
  | _ => false
theorem areNums_nums : ∀ ns : List Nat, areNums (.tuple (numsD ns)) = true
  | [] => rfl
  | n :: r => by
    show (decide (0 ≤ (n : Int)) && (numsD r).all isNat0) = true
    rw [decide_eq_true (Int.natCast_nonneg n), show (numsD r).all isNat0 = true from areNums_nums r]
    rfl
theorem nums_of_are : ∀ {ds : List PyData}, ds.all isNat0 = true → ∃ ns : List Nat, ds = numsD ns
  | [], _ => ⟨[], rfl⟩
  | d :: ds, h => by
    obtain ⟨h1, h2⟩ := Bool.and_eq_true_iff.mp h
    obtain ⟨ns, rfl⟩ := nums_of_are h2
    cases d with
    | int i =>
      have h3 : 0 ≤ i := of_decide_eq_true h1
      exact ⟨i.toNat :: ns, by
        show _ = PyData.int ((i.toNat : Nat) : Int) :: numsD ns
        rw [Int.toNat_of_nonneg h3]⟩
    | _ => cases h1
def sp_are_numbers (K : PySem.W.Frag) : Sp := fun vs H Q _ => ∃ (x : V) (d : PyData), vs = [x] ∧ Dp K H x d ∧ (∀ ds, d = .tuple ds → ds.length ≤ 1000000) ∧ ∀ H', Same H H' → Q (.bl (areNums d)) H'
theorem ok_are_numbers {P : Program} {w : World} {K : PySem.W.Frag} {mg : Str → Option Value} {base : Heap} (T : Txt K mg) : OkF P w K mg base CX0 1 ("are_numbers", none) ["thing"] (sp_are_numbers K) := by
  refine okN T.are_numbers sc_are_numbers (fun vs H Q E h => ?_) (fun cdv A outer s H vs Q E hr h => ?_)
  · obtain ⟨x, d, rfl, _⟩ := h
    rfl
  · obtain ⟨x, d, rfl, hd, hl, q⟩ := h
    refine ⟨_, (pss_cons (ps_if (pt_not (pt_val (pe_callB call_isi (by rfl) T.b_isinstance (by decide +kernel) (pa_cons (pv 0) (pa_cons (pe_bltn (v := .ty "tuple") (by rfl) T.b_tuple (by decide +kernel) rfl) pa_nil))))) (pss_one (ps_ret pe_bl)) pss_nil)
      (pss_one (ps_ret (pe_callB (cr_all rfl) (by rfl) T.b_all (by decide +kernel) (pa_cons (pe_lc (own := [("one", 1)]) (g := (gName 1)) (tt := tYes) (by rfl) sc_are_numbers.nd (pi_tup (pv 0)) (blkOk_by (own := [("one", 1)]) (N := ["thing", "one"]) (sc := defScope s_are_numbers) (by decide +kernel)) (fun _ _ _ _ _ => (pg_name (i := 1) sc_are_numbers.nd rfl (by first | exact Or.inl rfl | exact Or.inr rfl))) (fun _ _ _ _ _ => pts_nil) (fun _ _ _ _ _ => (pe_and (pe_callB (r := rIsi K) call_isi (by rfl) T.b_isinstance (by decide +kernel) (pa_cons (pv 1) (pa_cons (pe_bltn (v := .ty "int") (by rfl) T.b_int (by decide +kernel) rfl) pa_nil))) (pe_and (pe_not (pe_callB (r := rIsi K) call_isi (by rfl) T.b_isinstance (by decide +kernel) (pa_cons (pv 1) (pa_cons (pe_bltn (v := .ty "bool") (by rfl) T.b_bool (by decide +kernel) rfl) pa_nil)))) (pe_one (pe_cmpR op_ge (pv 1) pe_int (nomark _))))))) pa_nil))))), ?_⟩
    refine ⟨_, rfl, _, _, _, _, _, rfl, .ty _, dp_ty hd, kit_tup d, _, rfl, ?_⟩
    cases d with
    | tuple ds =>
      have hl := hl ds rfl
      have hsz : sizeLine = 16777216 := sizeLine_eq
      cases hd with
      | tup hs ha =>
        rename_i a vs
        refine iteF ⟨_, rfl, a, rfl, ⟨_, hs⟩, fun D hD => lc_tup (K := K) (a := a) (xs := vs) (fun i H' => Same H H' ∧ H' D = some (.lst (((ds.take i).map isNat0).map V.bl))) ⟨same_upd hD, ?_⟩ ?_ ?_ ?_⟩
        · rw [upd_same]
          rfl
        · rintro i H' _ ⟨s, _⟩
          exact same_sqt s hs
        · rintro i v H' hv ⟨s, e⟩
          obtain ⟨d, hd, hvd⟩ := dpa_at ha hv
          have hvd' := dp_same s hvd
          have fin : ∀ b : Bool, isNat0 d = b → ∃ acc, H' D = some (.lst acc) ∧ acc.length < sizeLine ∧ Same H (upd H' D (.lst (acc ++ [V.bl b]))) ∧ (upd H' D (.lst (acc ++ [V.bl b]))) D = some (.lst (((ds.take (i + 1)).map isNat0).map V.bl)) := by
            intro b hb
            refine ⟨_, e, ?_, same_updR s hD, ?_⟩
            · rw [List.length_map, List.length_map, List.length_take]
              omega
            · rw [upd_same, take_at hd, List.map_append, List.map_append, ← hb]
              rfl
          refine ⟨rfl, _, rfl, _, _, _, _, _, rfl, .ty _, dp_ty hvd', kit_int d, _, rfl, ?_⟩
          cases d with
          | int n =>
            cases hvd
            refine iteT ⟨_, rfl, _, _, _, _, _, rfl, .ty _, dp_ty (.int n), kit_bool (.int n), _, rfl, _, rfl, iteT ⟨_, rfl, _, _, rfl, rfl, fin _ rfl⟩⟩
          | bool b =>
            cases hvd
            refine iteT ⟨_, rfl, _, _, _, _, _, rfl, .ty _, dp_ty (.bl b), kit_bool (.bool b), _, rfl, _, rfl, iteF (fin false rfl)⟩
          | _ => exact iteF (fin false rfl)
        · rintro H1 ⟨s1, e1⟩
          rw [dpa_len ha, List.take_length] at e1
          refine ⟨D, _, rfl, .of e1, ?_⟩
          have e2 : (ds.map isNat0).all id = areNums (.tuple ds) := by
            show _ = ds.all isNat0
            rw [List.all_map]
            rfl
          rw [e2]
          exact q _ s1
    | _ => exact iteT (q _ (Same.refl _))
section
variable {X : Cx}
/-- a def run within, around A' -/
theorem run_at {n : Nat} {f : Addr} {fd : FuncData} {ps : List Str} {sp : Sp} {pins : List (Addr × Obj)} {σ : L2.St} {H : Hp} {s : Shared} {A' : Around} {vs : List V} {us : List Value} {Q : VK} {E : XK} {E' : Value → Shared → Prop}
    (F : FnOk X.prog X.w X.K X.mg X.base CX0 n f fd ps sp) (hb : Binds X.K fd ps []) (I : Inv X pins σ H s) (hr : Room n A') (hf : A'.frames = X.A.frames) (rv : Vals vs us) (hsp : sp vs H Q E) :
    wpAny (model X.prog X.w) A' (call (.ref f) us) (EP X pins σ Q) E' s := by
  have e0 : Env0 X.prog X.w X.K X.mg X.base A' X.stack s H := by
    have e := I.env0
    exact ⟨by rw [hf]; exact e.frames, e.mod, e.bs, e.bsz, e.funs, e.frf, e.hok, e.bare⟩
  have hl := F.len _ _ _ _ hsp
  have hl2 := rv.length
  refine wpAny_call (codeAny_mono (F.run A' X.stack s H ⟨us, []⟩ us vs Q E hr e0 (by
    have := hb s us I.kIn (by simp; omega)
    simpa using this) rv hsp) fun r s' hq => ?_)
  cases r with
  | error e => exact hq.elim
  | ok fl =>
    cases fl with
    | ret w => exact I.after hq
    | next => exact False.elim hq
    | brk => exact False.elim hq
    | cont => exact False.elim hq
end
section
open PySem.W
variable {prog : Program} {w : World} {A : Around} {E : Value → Shared → Prop} {s : Shared} {K : Frag} {x C f : Addr} {ox : Obj} {od : Option Obj} {b tb : Value}
/-- a built-in slot of an object of a class of K, by its name, bound -/
theorem slot_bound {M : Model} {self : Value} {name : PySem.Str} {id : String} {args : List Value} {Q : Option Value → Shared → Prop} (sp : Looks M s.heap (specialOf self name) (some (.builtin id))) (hb : bindSpecial (.builtin id) self = pure (.builtin id, [self]))
    (hc : wpAny M A (call (.builtin id) ([self] ++ args)) (fun v => Q (some v)) E s) : wpAny M A (callSpecialIfBound? self name args) Q E s := by
  simp only [callSpecialIfBound?, bindSpecialIfBound?]
  refine wpAny_holding (wpAny_bind (wpAny_bind (sp.here ?_)))
  refine wpAny_bind (wpAny_askSetting (wpAny_ite ?_))
  have fin : wpAny M A (call (.builtin id) ([self] ++ args) >>= fun v => pure (some v)) Q E s := wpAny_bind (wpAny_mono hc (fun v s' h' => wpAny_pure h') fun _ _ h' => h')
  split
  · exact wpAny_bind (wpAny_of_eq hb (wpAny_pure (by exact fin)))
  · exact wpAny_tryCatch (wpAny_bind (wpAny_of_eq hb (wpAny_pure (by exact fin))))
/-- x != b where only == is one's own -/
theorem ne_K {Q : Value → Shared → Prop} (hu : A.units + 1 < cLine) (X : K.In s.heap) (I : InstAt s.heap x ox C od) (hb : Looks (model prog w) s.heap (typeOf b) tb) (hn : notFirst K C tb = true)
    (hs : findIn K (.ref C) "__ne__" = some (some (.builtin "object.__ne__"))) (hm : mroIn K C (.type "object") = some true) (he : findIn K (.ref C) "__eq__" = some (some (.ref f))) (hf : isFn K (.ref f) = true)
    (h : wpAny (model prog w) A.in1 (call (.ref f) [.ref x, b]) (fun v s' => ∃ k, v = .bool k ∧ Q (.bool (!k)) s') E s) : wpAny (model prog w) A (richCompare .NotEq (.ref x) b) Q E s := by
  have body : wpAny (model prog w) A.in1 (Builtin.«object.__ne__» ⟨[.ref x, b], []⟩) (fun fin s' => ∃ v, fin = .done (.ret v) ∧ v ≠ .notImplemented ∧ Q v s') E s := by
    unfold Builtin.«object.__ne__»
    repeat (first
      | with_reducible refine wpAny_cRoomFor hu ?_
      | (refine wpAny_bind (m := callSpecialIfBound? (.ref x) (Str.ofString "__eq__") [b])
          (ifBound_K X I he hf (wpAny_mono h (fun r s' hr => by
            obtain ⟨k, rfl, hq⟩ := hr
            repeat (first | exact ⟨_, rfl, by simp, hq⟩ | exact wpAny_pure ⟨_, rfl, by simp, hq⟩ | exact wpAny_truthy_bool ⟨_, rfl, by simp, hq⟩ | (refine wpAny_bind (m := truthy (.bool _)) (wpAny_truthy_bool ?_)) | wp_step)) fun _ _ e => e)))
      | wp_step)
  have one : wpAny (model prog w) A (tryCompare (.ref x) "__ne__" b) (fun r s' => ∃ v, r = some v ∧ Q v s') E s := by
    unfold tryCompare
    refine wpAny_bind (slot_bound (I.type.andThen (looks_findIn X hs)) (PySem.F.cmp_object.ne.bind _) (wpAny_call (codeAny_call_builtin PySem.F.cmp_object.ne.plain PySem.F.cmpEntry_ne
      (check_slot (i := "object.__ne__") (owner := "object") (n := "__ne__") PySem.F.cmpKind_ne PySem.F.cmpSplit_ne (I.type.andThen (looks_mroIn X hm)) (PySem.F.cmpArgs_ne _ _) (wpAny_mono body (fun fin s' z => ?_) fun _ _ e => e)))))
    obtain ⟨v, rfl, nv, hq⟩ := z
    cases v <;> first | exact absurd rfl nv | exact wpAny_pure ⟨_, rfl, hq⟩
  unfold richCompare
  simp only [oneThing_ref]
  refine wpAny_holding (wpAny_bind (wpAny_cRoomFor (by omega) ?_))
  refine wpAny_bind (I.type.here (wpAny_bind (hb.here ?_)))
  split
  · rename_i q
    have e : subIn K tb (.ref C) = some false := by
      rcases Bool.or_eq_true_iff.mp hn with e | e
      · rw [beq_iff_eq.mp e] at q; simp at q
      · exact beq_iff_eq.mp e
    refine wpAny_bind ((looks_subIn X e).here ?_)
    simp only [Bool.false_eq_true, if_false]
    refine wpAny_bind (wpAny_mono one (fun r s' z => ?_) fun _ _ e => e)
    obtain ⟨v, rfl, hq⟩ := z
    exact wpAny_pure hq
  · refine wpAny_bind (wpAny_pure ?_)
    simp only [Bool.false_eq_true, if_false]
    refine wpAny_bind (wpAny_mono one (fun r s' z => ?_) fun _ _ e => e)
    obtain ⟨v, rfl, hq⟩ := z
    exact wpAny_pure hq
end
theorem sc_Part_len : FnScope ["self"] ["self"] (defScope s_Part_len) := ⟨rfl, rfl, rfl, by decide +kernel, rfl, by decide +kernel, by decide +kernel⟩
section
variable {K : PySem.W.Frag} {mg : Str → Option Value}
theorem b_Part_len (T : Txt K mg) : Binds K (fdOf K ("Part", some "__len__")) ["self"] [] := T.Part_len.bindsN fun _ _ _ _ _ _ us hl => match us, hl with | [_], _ => rfl
end
def sp_Part_len (K : PySem.W.Frag) : Sp := fun vs H Q _ => ∃ (p q : Addr) (bs : List Bar) (past : List (List Bar)), vs = [.ref p] ∧ PartX K H p q bs past ∧ Q (.int (bs.length : Nat)) H
theorem ok_Part_len {P : Program} {w : World} {K : PySem.W.Frag} {mg : Str → Option Value} {base : Heap} (T : Txt K mg) : OkF P w K mg base CX0 1 ("Part", some "__len__") ["self"] (sp_Part_len K) := by
  refine okN T.Part_len sc_Part_len (fun vs H Q E h => ?_) (fun cdv A outer s H vs Q E hr h => ?_)
  · obtain ⟨p, q, bs, past, rfl, _⟩ := h
    rfl
  · obtain ⟨p, q, bs, past, rfl, hp, k⟩ := h
    obtain ⟨dx, r, ws, h1, n, ⟨vs, h2, h3⟩, _⟩ := hp
    refine ⟨_, (pss_one (ps_ret (pe_callB call_len (by rfl) T.b_len PySem.boot_len (pa_cons (pe_fld (pv 0) rfl) pa_nil)))), ?_⟩
    refine ⟨_, rfl, p, _, dx, _, _, rfl, h1, T.cl_Part, T.n_row, pf_row, _, _, rfl, .inl ⟨_, .of h2, rfl⟩, ?_⟩
    rw [bars_len h3]
    exact k
section
variable {X : Cx}
def rLenP (K : PySem.W.Frag) (sp : Sp) : List V → Hp → VK → Prop := fun xs H Q => ∃ p dx fs, xs = [.ref p] ∧ H p = some (.ins (pC K) dx fs) ∧ sp [.ref p] H (fun v H' => ∃ n : Nat, v = .int (n : Int) ∧ n < 1000000 ∧ Q (.int (n : Int)) H') E0
theorem call_lenP {n : Nat} {sp : Sp} (T : Txt X.K X.mg) (F : FnOk X.prog X.w X.K X.mg X.base CX0 n (He.fAd X.K ("Part", some "__len__")) (fdOf X.K ("Part", some "__len__")) ["self"] sp) (hr : Room (n + 1) X.A) : CallR X (.builtin "len") (rLenP X.K sp) := by
  intro pins s σ H xs us Q I r h
  obtain ⟨p, dx, fs, rfl, hp, hs⟩ := h
  obtain ⟨u, rfl, e⟩ := vals1 r
  cases e
  obtain ⟨mA, J, _⟩ := ins_get I.hok hp
  obtain ⟨od, J, _⟩ := J.look
  obtain ⟨m, hF⟩ := I.fr
  refine PySem.W.len_K hF I.ok.mod.kin J T.m_Part_len.at_ T.m_Part_len.fn ?_
  refine wpAny_mono (run_at (vs := [.ref p]) (Q := fun v H' => ∃ n : Nat, v = .int (n : Int) ∧ n < 1000000 ∧ Q (.int (n : Int)) H') (E := E0) F (b_Part_len T) I hr.in1 rfl (.cons rfl .nil) hs) (fun r s' z => ?_) fun _ _ z => z
  obtain ⟨v', H', I', r', b, rfl, hb, q⟩ := z
  obtain ⟨t, rfl⟩ := r'
  exact ⟨⟨by omega, by omega⟩, .int (b : Int), H', I'.tok _, ⟨_, rfl⟩, q⟩
end
theorem sc_fault_of : FnScope ["part", "desk", "thing", "page", "found"] ["part", "desk", "thing"] (defScope s_fault_of) := ⟨rfl, rfl, rfl, by decide +kernel, rfl, by decide +kernel, by decide +kernel⟩
section
variable {K : PySem.W.Frag} {mg : Str → Option Value}
theorem b_fault_of (T : Txt K mg) : Binds K (fdOf K ("fault_of", none)) ["part", "desk", "thing"] [] := T.fault_of.bindsN fun _ _ _ _ _ _ us hl => match us, hl with | [_, _, _], _ => rfl
end
/-- the first fault of any thing -/
def faultAny (bs : List Bar) (k : Desk) (d : PyData) (ns : List Nat) : Option Wrong := if areNums d = true then faultN bs k ns else some .form
def natsOf : PyData → List Nat
  | .tuple ds => ds.map fun d => match d with
    | .int i => i.toNat
    | _ => 0
  | _ => []
theorem natsOf_nums (ns : List Nat) : natsOf (.tuple (numsD ns)) = ns := by
  show (numsD ns).map _ = ns
  rw [List.map_map]
  exact List.map_id'' (fun n => rfl) ns
def faultG (bs : List Bar) (k : Desk) (d : PyData) : Option Wrong := if areNums d = true then faultN bs k (natsOf d) else some .form
def sp_fault_of (K : PySem.W.Frag) : Sp := fun vs H Q _ => ∃ (p q : Addr) (bs : List Bar) (past : List (List Bar)) (x y : V) (k : Desk) (d : PyData), vs = [.ref p, x, y] ∧ PartX K H p q bs past ∧ Dp K H x (deskD k) ∧ Dp K H y d ∧ (∀ ds, d = .tuple ds → ds.length ≤ 1000000) ∧ bs.length ≤ 1000 ∧
  ∀ v H', Same H H' → Dp K H' v (faultD (faultG bs k d)) → Q v H'
theorem faultFrom_step {bs : List Bar} {k : Desk} {ns : List Nat} {i m : Nat} : faultFrom bs k ns i (m + 1) = match pageFault bs k ns i with
    | some x => some x
    | none => faultFrom bs k ns (i + 1) m := rfl
theorem dp_none {K : PySem.W.Frag} {H : Hp} {v : V} (h : Dp K H v .none) : v = .non := by
  cases h
  rfl
theorem dp_wrong {K : PySem.W.Frag} {H : Hp} {v : V} {x : Wrong} (h : Dp K H v (wrongD x)) : v ≠ .non := by
  intro e
  subst e
  cases x <;> cases h
theorem ok_fault_of {P : Program} {w : World} {K : PySem.W.Frag} {mg : Str → Option Value} {base : Heap} (T : Txt K mg) : OkF P w K mg base CX0 6 ("fault_of", none) ["part", "desk", "thing"] (sp_fault_of K) := by
  refine okN T.fault_of sc_fault_of (fun vs H Q E h => ?_) (fun cdv A outer s H vs Q E hr h => ?_)
  · obtain ⟨p, q, bs, past, x, y, k, d, rfl, _⟩ := h
    rfl
  · obtain ⟨p, q, bs, past, x, y, k, d, rfl, hp, hx, hy, hd, hlen, z⟩ := h
    have form : ∀ H1, Same H H1 → faultG bs k d = some .form → ∀ c, H1 c = none → Q (.ref c) (upd H1 c (.tup [.str (Str.ofString "form")])) := by
      intro H1 s1 e c nc
      rw [e] at z
      exact z _ _ (s1.trans (same_upd nc)) (.tup (.of upd_same) (.cons (.str _) .nil))
    refine ⟨_, (pss_cons (ps_if (PW.pt (pw_or (pt_not (pt_val (pe_call (ok_are_numbers T) (hr.mono (by decide)) (by rfl) T.g_are_numbers T.are_numbers.kp (b_are_numbers T) .nil pass0 (pa_cons (pv 2) pa_nil)))) (pw_or1 (pt_cmpR op_ne (pe_callB (cr_sumT rfl) (by rfl) T.b_sum (by decide +kernel) (pa_cons (pv 2) pa_nil)) (pe_callB (call_lenP T (ok_Part_len T) (hr.mono (by decide))) (by rfl) T.b_len PySem.boot_len (pa_cons (pv 0) pa_nil)) (nomark _))))) (pss_one (ps_ret (pe_tup (pa_cons pe_str pa_nil)))) pss_nil)
      (pss_cons (ps_for PassesOwn.never rfl (pi_range1 (by rfl) T.b_range (pa_cons (pe_callB call_len (by rfl) T.b_len PySem.boot_len (pa_cons (pv 2) pa_nil)) pa_nil)) (pg_name (i := 3) sc_fault_of.nd rfl (by first | exact Or.inl rfl | exact Or.inr rfl))
      (pss_cons (ps_set (i := 4) sc_fault_of.nd rfl (by first | exact Or.inl rfl | exact Or.inr rfl) (pe_call (ok_page_fault T) (hr.mono (by decide)) (by rfl) T.g_page_fault T.page_fault.kp (b_page_fault T) .nil pass0 (pa_cons (pv 0) (pa_cons (pv 1) (pa_cons (pv 2) (pa_cons (pv 3) pa_nil))))))
      (pss_one (ps_if (pt_cmp (pc_notN (pv 4))) (pss_one (ps_ret (pv 4))) pss_nil))))
      (pss_one (ps_ret pe_non)))), ?_⟩
    refine ⟨_, rfl, _, d, rfl, hy, hd, fun H1 s1 => ⟨_, rfl, ?_⟩⟩
    cases ha : areNums d with
    | false =>
      have e : faultG bs k d = some .form := by
        unfold faultG
        rw [ha, if_neg Bool.false_ne_true]
      exact iteT ⟨by show (1 : Nat) ≤ sizeLine; decide, form _ s1 e⟩
    | true =>
      have hG : faultG bs k d = faultN bs k (natsOf d) := by
        unfold faultG
        rw [ha, if_pos rfl]
      obtain ⟨ns, rfl⟩ : ∃ ns, d = .tuple (numsD ns) := by
        cases d with
        | tuple ds =>
          obtain ⟨ns, rfl⟩ := nums_of_are ha
          exact ⟨ns, rfl⟩
        | _ => cases ha
      rw [natsOf_nums] at hG
      have hnl := hd _ rfl
      rw [List.length_map] at hnl
      obtain ⟨t, rfl, ht⟩ := dp_nums hy
      have hp1 := hp.same s1
      obtain ⟨dx, r, ws, h1, _⟩ := id hp1
      have ht1 := same_sqt s1 ht
      rw [numsV_ints] at ht1
      refine iteF ⟨_, rfl, t, _, rfl, ht1, _, rfl, p, dx, _, rfl, h1, p, q, bs, past, rfl, hp1, bs.length, rfl, by omega, rfl, _, rfl, ?_⟩
      rw [numsV_sum]
      refine ite2NQ (fun hne => ?_) (fun heq => ?_)
      · have e : faultG bs k (.tuple (numsD ns)) = some .form := by
          rw [hG]
          unfold faultN
          rw [if_neg (by omega)]
        exact ⟨by show (1 : Nat) ≤ sizeLine; decide, form _ s1 e⟩
      · have hsum : ns.sum = bs.length := by omega
        have hG2 : faultG bs k (.tuple (numsD ns)) = faultFrom bs k ns 0 ns.length := by
          rw [hG]
          unfold faultN
          rw [if_pos hsum]
        rw [hG2] at z
        refine ⟨_, rfl, _, _, rfl, .inr ⟨_, same_sqt s1 ht, rfl⟩, _, rfl, by omega, ?_, ?_⟩
        · rw [List.length_map]
          omega
        rw [List.length_map]
        refine for_range (lo := 0) (n := ns.length) (fun i σ H' => Same H H' ∧ (∃ y4 y3, σ = [some (.ref p), some x, some (.ref t), y3, y4]) ∧ (∀ v H'', Same H H'' → Dp K H'' v (faultD (faultFrom bs k ns i (ns.length - i))) → Q v H'')) ⟨s1, ⟨none, none, rfl⟩, z⟩ ?_ ?_
        · rintro i σ H2 hi ⟨s2, ⟨y4, y3, rfl⟩, z2⟩
          rw [Int.zero_add]
          rw [show ns.length - i = (ns.length - (i + 1)) + 1 by omega, faultFrom_step] at z2
          refine ⟨_, rfl, _, rfl, _, rfl, _, rfl, p, q, bs, past, x, .ref t, k, ns, i, rfl, hp.same s2, dp_same s2 hx, dp_same s2 hy, hi, hsum, hlen, fun v H3 s3 hv => ?_⟩
          refine ⟨_, rfl, _, rfl, ?_⟩
          cases hpf : pageFault bs k ns i with
          | none =>
            rw [hpf] at hv z2
            have e := dp_none hv
            subst e
            exact iteF ⟨s2.trans s3, ⟨_, _, rfl⟩, z2⟩
          | some wr =>
            rw [hpf] at hv z2
            have ne : (!decide (v = V.non)) = true := by
              rw [decide_eq_false (dp_wrong hv)]
              rfl
            rw [ne]
            exact iteT ⟨_, rfl, z2 _ _ (s2.trans s3) hv⟩
        · rintro σ H2 ⟨s2, ⟨y4, y3, rfl⟩, z2⟩
          rw [Nat.sub_self] at z2
          exact z2 _ _ s2 .non
theorem sc_need_desk : FnScope ["thing"] ["thing"] (defScope s_need_desk) := ⟨rfl, rfl, rfl, by decide +kernel, rfl, by decide +kernel, by decide +kernel⟩
section
variable {K : PySem.W.Frag} {mg : Str → Option Value}
theorem b_need_desk (T : Txt K mg) : Binds K (fdOf K ("need_desk", none)) ["thing"] [] := T.need_desk.bindsN fun _ _ _ _ _ _ us hl => match us, hl with | [_], _ => rfl
end
def sp_need_desk (K : PySem.W.Frag) : Sp := fun vs H Q _ => ∃ (x : V) (k : Desk), vs = [x] ∧ Dp K H x (deskD k) ∧ DeskOk k ∧ Q .non H
theorem ok_need_desk {P : Program} {w : World} {K : PySem.W.Frag} {mg : Str → Option Value} {base : Heap} (T : Txt K mg) : OkF P w K mg base CX0 2 ("need_desk", none) ["thing"] (sp_need_desk K) := by
  refine okN T.need_desk sc_need_desk (fun vs H Q E h => ?_) (fun cdv A outer s H vs Q E hr h => ?_)
  · obtain ⟨x, k, rfl, _⟩ := h
    rfl
  · obtain ⟨x, k, rfl, hd, ok, q⟩ := h
    obtain ⟨p, rfl, hs⟩ := dp_desk hd
    refine ⟨_, (pss_cons (ps_if (PW.pt (pw_or (pt_not (pt_val (pe_callB call_isi (by rfl) T.b_isinstance (by decide +kernel) (pa_cons (pv 0) (pa_cons (pe_bltn (v := .ty "tuple") (by rfl) T.b_tuple (by decide +kernel) rfl) pa_nil))))) (pw_or (pt_cmpR op_ne (pe_callB call_len (by rfl) T.b_len PySem.boot_len (pa_cons (pv 0) pa_nil)) pe_int (nomark _)) (pw_or1 (pt_not (pt_val (pe_call (ok_is_number T) (hr.mono (by decide)) (by rfl) T.g_is_number T.is_number.kp (b_is_number T) .nil pass0 (pa_cons (pe_ix ix_tup (pv 0) pe_int (fun _ _ => rfl)) (pa_cons pe_int (pa_cons pe_int pa_nil)))))))))) pss_never pss_nil)
      (pss_cons (ps_if (PW.pt (pw_or (pt_not (pt_val (pe_call (ok_is_number T) (hr.mono (by decide)) (by rfl) T.g_is_number T.is_number.kp (b_is_number T) .nil pass0 (pa_cons (pe_ix ix_tup (pv 0) pe_int (fun _ _ => rfl)) (pa_cons pe_int (pa_cons pe_int pa_nil)))))) (pw_or (pt_not (pt_val (pe_callB call_isi (by rfl) T.b_isinstance (by decide +kernel) (pa_cons (pe_ix ix_tup (pv 0) pe_int (fun _ _ => rfl)) (pa_cons (pe_bltn (v := .ty "str") (by rfl) T.b_str (by decide +kernel) rfl) pa_nil))))) (pw_or1 (pt_cmpR op_notIn_seq (pe_ix ix_tup (pv 0) pe_int (fun _ _ => rfl)) (pe_glob (v := .ref (He.ga K "SIDES")) (by rfl) T.g_SIDES rfl) (by rfl)))))) pss_never pss_nil)
      (pss_one (ps_if (pt_not (pt_val (pe_call (ok_is_number T) (hr.mono (by decide)) (by rfl) T.g_is_number T.is_number.kp (b_is_number T) .nil pass0 (pa_cons (pe_ix ix_tup (pv 0) pe_int (fun _ _ => rfl)) (pa_cons pe_int (pa_cons pe_int pa_nil)))))) pss_never pss_nil)))), ?_⟩
    refine ⟨_, rfl, _, _, _, _, _, rfl, .ty _, dp_ty hd, kit_tup _, _, rfl, iteF ⟨_, rfl, _, _, rfl, .inr ⟨_, hs, rfl⟩, rfl, _, rfl, iteNNQ rfl ?_⟩⟩
    refine ⟨_, rfl, p, _, _, _, rfl, rfl, hs, rfl, _, .int k.room, _, _, rfl, .int _, _, rfl, ?_⟩
    rw [isNum_of ok.r0 ok.r1]
    refine iteF ⟨_, rfl, p, _, _, _, rfl, rfl, hs, rfl, _, .int k.turn, _, _, rfl, .int _, _, rfl, ?_⟩
    rw [isNum_of ok.t0 ok.t1]
    refine iteF ⟨_, rfl, p, _, _, _, rfl, rfl, hs, rfl, _, _, _, _, _, rfl, .ty _, dp_ty (.str _), kit_str (.str (sideS k.side)), _, rfl, iteF ?_⟩
    refine ⟨_, rfl, p, _, _, _, rfl, rfl, hs, rfl, _, _, rfl, .inr (tupIs_ok T.t_SIDES _), rfl, rfl, _, rfl, ?_⟩
    have e : (!inV (V.str (sideS k.side)) [.str (Str.ofString "left"), .str (Str.ofString "right")]) = false := by
      cases k.side <;> decide +kernel
    show if (!inV (V.str (sideS k.side)) [.str (Str.ofString "left"), .str (Str.ofString "right")]) = true then _ else _
    rw [e]
    refine iteF ⟨_, rfl, p, _, _, _, rfl, rfl, hs, rfl, _, .int k.empty, _, _, rfl, .int _, _, rfl, ?_⟩
    rw [isNum_of ok.e0 ok.e1]
    exact iteF q
theorem sc_fault : FnScope ["part", "desk", "thing"] ["part", "desk", "thing"] (defScope s_fault) := ⟨rfl, rfl, rfl, by decide +kernel, rfl, by decide +kernel, by decide +kernel⟩
section
variable {K : PySem.W.Frag} {mg : Str → Option Value}
theorem b_fault (T : Txt K mg) : Binds K (fdOf K ("fault", none)) ["part", "desk", "thing"] [] := T.fault.bindsN fun _ _ _ _ _ _ us hl => match us, hl with | [_, _, _], _ => rfl
end
def sp_fault (K : PySem.W.Frag) : Sp := fun vs H Q _ => ∃ (p q : Addr) (bs : List Bar) (past : List (List Bar)) (x y : V) (k : Desk) (d : PyData), vs = [.ref p, x, y] ∧ PartX K H p q bs past ∧ Dp K H x (deskD k) ∧ DeskOk k ∧ Dp K H y d ∧ (∀ ds, d = .tuple ds → ds.length ≤ 1000000) ∧ bs.length ≤ 1000 ∧
  ∀ v H', Same H H' → Dp K H' v (faultD (faultG bs k d)) → Q v H'
theorem ok_fault {P : Program} {w : World} {K : PySem.W.Frag} {mg : Str → Option Value} {base : Heap} (T : Txt K mg) : OkF P w K mg base CX0 7 ("fault", none) ["part", "desk", "thing"] (sp_fault K) := by
  refine okN T.fault sc_fault (fun vs H Q E h => ?_) (fun cdv A outer s H vs Q E hr h => ?_)
  · obtain ⟨p, q, bs, past, x, y, k, d, rfl, _⟩ := h
    rfl
  · obtain ⟨p, q, bs, past, x, y, k, d, rfl, hp, hx, ok, hy, hd, hlen, z⟩ := h
    refine ⟨_, (pss_cons (ps_expr (pe_call (ok_need_desk T) (hr.mono (by decide)) (by rfl) T.g_need_desk T.need_desk.kp (b_need_desk T) .nil pass0 (pa_cons (pv 1) pa_nil)))
      (pss_one (ps_ret (pe_call (ok_fault_of T) (hr.mono (by decide)) (by rfl) T.g_fault_of T.fault_of.kp (b_fault_of T) .nil pass0 (pa_cons (pv 0) (pa_cons (pv 1) (pa_cons (pv 2) pa_nil))))))), ?_⟩
    refine ⟨_, rfl, x, k, rfl, hx, ok, ?_⟩
    exact ⟨_, rfl, _, rfl, _, rfl, p, q, bs, past, x, y, k, d, rfl, hp, hx, hy, hd, hlen, z⟩
theorem sc_is_layout : FnScope ["part", "desk", "thing"] ["part", "desk", "thing"] (defScope s_is_layout) := ⟨rfl, rfl, rfl, by decide +kernel, rfl, by decide +kernel, by decide +kernel⟩
section
variable {K : PySem.W.Frag} {mg : Str → Option Value}
theorem b_is_layout (T : Txt K mg) : Binds K (fdOf K ("is_layout", none)) ["part", "desk", "thing"] [] := T.is_layout.bindsN fun _ _ _ _ _ _ us hl => match us, hl with | [_, _, _], _ => rfl
end
def sp_is_layout (K : PySem.W.Frag) : Sp := fun vs H Q _ => ∃ (p q : Addr) (bs : List Bar) (past : List (List Bar)) (x y : V) (k : Desk) (d : PyData), vs = [.ref p, x, y] ∧ PartX K H p q bs past ∧ Dp K H x (deskD k) ∧ DeskOk k ∧ Dp K H y d ∧ (∀ ds, d = .tuple ds → ds.length ≤ 1000000) ∧ bs.length ≤ 1000 ∧
  ∀ H', Same H H' → Q (.bl (faultG bs k d).isNone) H'
theorem ok_is_layout {P : Program} {w : World} {K : PySem.W.Frag} {mg : Str → Option Value} {base : Heap} (T : Txt K mg) : OkF P w K mg base CX0 7 ("is_layout", none) ["part", "desk", "thing"] (sp_is_layout K) := by
  refine okN T.is_layout sc_is_layout (fun vs H Q E h => ?_) (fun cdv A outer s H vs Q E hr h => ?_)
  · obtain ⟨p, q, bs, past, x, y, k, d, rfl, _⟩ := h
    rfl
  · obtain ⟨p, q, bs, past, x, y, k, d, rfl, hp, hx, ok, hy, hd, hlen, z⟩ := h
    refine ⟨_, (pss_cons (ps_expr (pe_call (ok_need_desk T) (hr.mono (by decide)) (by rfl) T.g_need_desk T.need_desk.kp (b_need_desk T) .nil pass0 (pa_cons (pv 1) pa_nil)))
      (pss_one (ps_ret (pe_cmp (pc_isN (pe_call (ok_fault_of T) (hr.mono (by decide)) (by rfl) T.g_fault_of T.fault_of.kp (b_fault_of T) .nil pass0 (pa_cons (pv 0) (pa_cons (pv 1) (pa_cons (pv 2) pa_nil))))))))), ?_⟩
    refine ⟨_, rfl, x, k, rfl, hx, ok, ?_⟩
    refine ⟨_, rfl, _, rfl, _, rfl, p, q, bs, past, x, y, k, d, rfl, hp, hx, hy, hd, hlen, fun v H' s' hv => ?_⟩
    have e : decide (v = V.non) = (faultG bs k d).isNone := by
      cases hf : faultG bs k d with
      | none =>
        rw [hf] at hv
        rw [dp_none hv]
        rfl
      | some wr =>
        rw [hf] at hv
        rw [decide_eq_false (dp_wrong hv)]
        rfl
    show Q (.bl (decide (v = V.non))) H'
    rw [e]
    exact z _ s'
theorem shp_fault (x : Option Wrong) : Shp 1 (faultD x) := by
  cases x with
  | none => exact shp_none
  | some w => cases w with
    | wide p => exact shp_tup (shpA_cons (shp_str (by decide +kernel)) (shpA_cons (shp_int _) shpA_nil))
    | empty p => exact shp_tup (shpA_cons (shp_str (by decide +kernel)) (shpA_cons (shp_int _) shpA_nil))
    | turn p => exact shp_tup (shpA_cons (shp_str (by decide +kernel)) (shpA_cons (shp_int _) shpA_nil))
    | form => exact shp_tup (shpA_cons (shp_str (by decide +kernel)) shpA_nil)
theorem isNone_dp {K : PySem.W.Frag} {H : Hp} {v : V} {x : Option Wrong} (h : Dp K H v (faultD x)) : x.isNone = decide (v = V.non) := by
  cases x with
  | none =>
    rw [dp_none h]
    rfl
  | some wr =>
    rw [decide_eq_false (dp_wrong h)]
    rfl
theorem iteBB {A B : Prop} {a b : Bool} (h : a = b) (x : B) : if (!decide (V.bl a = V.bl b)) = true then A else B := by
  rw [decide_eq_true (congrArg V.bl h)]
  exact iteF x
theorem eqv_bar (a b : Bar) : PyData.eqv (barD a) (barD b) = true ↔ a = b := by
  obtain ⟨w, x, r⟩ := a
  obtain ⟨w', x', r'⟩ := b
  simp [barD, PyData.eqv, PyData.eqvAll]
theorem eqv_bars (xs ys : List Bar) : PyData.eqv (.list (barsD xs)) (.list (barsD ys)) = decide (xs = ys) := by
  rw [Bool.eq_iff_iff, decide_eq_true_iff]
  exact eqv_listM eqv_bar xs ys
theorem shp_bar (b : Bar) : Shp 1 (barD b) := shp_tup (shpA_cons (shp_int _) (shpA_cons (shp_int _) (shpA_cons (shp_bool _) shpA_nil)))
theorem shp_bars (bs : List Bar) : Shp 2 (.list (barsD bs)) := shp_list (shpA_all fun d hd => by
  obtain ⟨b, _, rfl⟩ := List.mem_map.mp hd
  exact shp_bar b)
theorem sc_law : FnScope ["script", "dice", "bars", "desk", "part", "fine", "bad", "thing", "empty"] ["script"] (defScope s_law) := ⟨rfl, rfl, rfl, by decide +kernel, rfl, by decide +kernel, by decide +kernel⟩
/-- what is no layout of bars, whatever the desk -/
def BadD (bs : List Bar) (d : PyData) : Prop := (areNums d = true → (natsOf d).sum ≠ bs.length) ∧ ∀ es, d = .tuple es → es.length ≤ 1000000
theorem BadD.fault {bs : List Bar} {d : PyData} (k : Desk) (h : BadD bs d) : faultG bs k d = some .form := by
  unfold faultG
  by_cases e : areNums d = true
  · rw [if_pos e]
    unfold faultN
    rw [if_neg (h.1 e)]
  · rw [if_neg e]
theorem bad_no {bs : List Bar} {xs ys : List PyData} {d : PyData} (h : isNat0 d = false) (hl : xs.length + ys.length ≤ 900000) : BadD bs (.tuple (xs ++ d :: ys)) := by
  refine ⟨fun e => ?_, fun es e => ?_⟩
  · have e2 : (xs ++ d :: ys).all isNat0 = true := e
    have := List.all_eq_true.mp e2 d (by simp)
    rw [h] at this
    cases this
  · cases e
    rw [List.length_append, List.length_cons]
    omega
theorem bad_sum {bs : List Bar} {ns : List Nat} (h : ns.sum ≠ bs.length) (hl : ns.length ≤ 900000) : BadD bs (.tuple (numsD ns)) := by
  refine ⟨fun _ => ?_, fun es e => ?_⟩
  · rw [natsOf_nums]
    exact h
  · cases e
    rw [List.length_map]
    omega
theorem bad_flat {bs : List Bar} {d : PyData} (h1 : areNums d = false) (h2 : ∀ es, d ≠ .tuple es) : BadD bs d := by
  refine ⟨fun e => ?_, fun es e => absurd e (h2 es)⟩
  rw [h1] at e
  cases e
theorem cut_last (xs : List V) (v : V) : cutV (xs ++ [v]) none (some (-1)) = xs := by
  unfold cutV
  rw [HT.sIx_none]
  have e : HT.sIx (xs ++ [v]).length (xs ++ [v]).length (some (-1)) = xs.length := by
    unfold HT.sIx
    dsimp only
    rw [if_pos (by decide), List.length_append]
    simp only [List.length_cons, List.length_nil]
    omega
  rw [e, List.drop_zero, Nat.sub_zero, List.take_append_of_le_length (Nat.le_refl _), List.take_length]
theorem at_last (xs : List V) (v : V) : atI (xs ++ [v]) (-1) = some v := by
  have e : ixN (xs ++ [v]).length (-1) = some xs.length := by
    unfold ixN
    rw [if_neg (by decide), List.length_append]
    simp
    omega
  unfold atI
  rw [e]
  simp
theorem ok_law {P : Program} {w : World} {K : PySem.W.Frag} {mg : Str → Option Value} {base : Heap} (T : Txt K mg) : OkF P w K mg base CX0 20 ("law", none) ["script"] (sp_law K) := by
  refine okN T.law sc_law (fun vs H Q E h => ?_) (fun cdv A outer s H vs Q E hr h => ?_)
  · obtain ⟨a, ns, rfl, _⟩ := h
    rfl
  · obtain ⟨a, ns, rfl, hS, hlen, z⟩ := h
    refine ⟨_, (pss_cons (ps_for PassesOwn.never rfl (pi_list (pe_call (ok__law_rounds T) (hr.mono (by decide)) (by rfl) T.g__law_rounds T._law_rounds.kp (b__law_rounds T) .nil pass0 (pa_cons (pv 0) (pa_cons pe_int pa_nil)))) (pg_name (i := 1) sc_law.nd rfl (by first | exact Or.inl rfl | exact Or.inr rfl))
      (pss_cons (ps_par (by rfl) sc_law.nd (i := 2) (j := 3) rfl rfl (by decide) rfl rfl (pa_cons (pe_call (ok__law_row T) (hr.mono (by decide)) (by rfl) T.g__law_row T._law_row.kp (b__law_row T) .nil pass0 (pa_cons (pv 1) (pa_cons pe_int pa_nil))) (pa_cons (pe_call (ok__law_stand T) (hr.mono (by decide)) (by rfl) T.g__law_stand T._law_stand.kp (b__law_stand T) .nil pass0 (pa_cons (pv 1) pa_nil)) pa_nil)) (by rfl))
      (pss_cons (ps_par (by rfl) sc_law.nd (i := 4) (j := 5) rfl rfl (by decide) rfl rfl (pa_cons (pe_make T.mk_Part (ok_Part_init T) (hr.mono (by decide)) (by rfl) T.g_Part (b1_Part T) .nil pass0 (pa_cons (pv 2) pa_nil)) (pa_cons (pe_call (ok__law_numbers T) (hr.mono (by decide)) (by rfl) T.g__law_numbers T._law_numbers.kp (b__law_numbers T) .nil pass0 (pa_cons (pv 1) (pa_cons (pv 2) pa_nil))) pa_nil)) (by rfl))
      (pss_cons (ps_set (i := 6) sc_law.nd rfl (by first | exact Or.inl rfl | exact Or.inr rfl) (pe_lst (pa_cons pe_non (pa_cons pe_int (pa_cons pe_bl (pa_cons pe_str (pa_cons (pe_callTy call_list_of (by rfl) T.b_list (by decide +kernel) (pa_cons (pv 5) pa_nil)) (pa_cons (pe_tup (pa_cons (pv 5) pa_nil)) (pa_cons (pe_op op_catU (pv 5) (pe_tup (pa_cons pe_int pa_nil))) (pa_cons (pe_op op_catU (pv 5) (pe_tup (pa_cons (pe_un un_neg pe_int) (pa_cons pe_int pa_nil)))) pa_nil))))))))))
      (pss_cons (ps_set (i := 6) sc_law.nd rfl (by first | exact Or.inl rfl | exact Or.inr rfl) (pe_op op_cat (pv 6) (pe_lst (pa_cons (pe_tup (pa_cons (pe_un un_neg pe_int) (pa_cons (pe_op op_add (pe_callB call_len (by rfl) T.b_len PySem.boot_len (pa_cons (pv 2) pa_nil)) pe_int) pa_nil))) (pa_cons (pe_op op_catU (pv 5) (pe_tup (pa_cons pe_str pa_nil))) pa_nil)))))
      (pss_cons (ps_set (i := 6) sc_law.nd rfl (by first | exact Or.inl rfl | exact Or.inr rfl) (pe_op op_cat (pv 6) (pe_lst (pa_cons (pe_op op_catU (pv 5) (pe_tup (pa_cons pe_non pa_nil))) (pa_cons (pe_op op_catU (pv 5) (pe_tup (pa_cons pe_bl pa_nil))) (pa_cons (pe_op op_catU (pv 5) (pe_tup (pa_cons (pe_tup (pa_cons pe_int pa_nil)) pa_nil))) (pa_cons (pe_tup (pa_cons (pe_op op_add (pe_callB call_len (by rfl) T.b_len PySem.boot_len (pa_cons (pv 2) pa_nil)) pe_int) pa_nil)) pa_nil)))))))
      (pss_cons (ps_if (pt_cmpR (op_neD hr.units) (pv 5) (pe_tup pa_nil) (nomark _)) (pss_one (ps_set (i := 6) sc_law.nd rfl (by first | exact Or.inl rfl | exact Or.inr rfl) (pe_op op_cat (pv 6) (pe_lst (pa_cons (pe_op op_catU (pe_slice sl_tupU (pv 5) po_none (po_some (pe_un un_neg pe_int))) (pe_tup (pa_cons (pe_op op_sub (pe_ix ix_tup (pv 5) (pe_un un_neg pe_int) (fun _ _ => rfl)) pe_int) pa_nil))) (pa_cons (pe_op op_catU (pe_tup (pa_cons (pe_callTy call_str_int (by rfl) T.b_str (by decide +kernel) (pa_cons (pe_ix ix_tup (pv 5) pe_int (fun _ _ => rfl)) pa_nil)) pa_nil)) (pe_slice sl_tupU (pv 5) (po_some pe_int) po_none)) pa_nil)))))) pss_nil)
      (pss_cons (ps_for PassesOwn.never rfl (pi_list (pv 6)) (pg_name (i := 7) sc_law.nd rfl (by first | exact Or.inl rfl | exact Or.inr rfl))
      (pss_one (ps_if (PW.pt (pw_or (pt_cmpR op_isnot_bl (pe_call (ok_is_layout T) (hr.mono (by decide)) (by rfl) T.g_is_layout T.is_layout.kp (b_is_layout T) .nil pass0 (pa_cons (pv 4) (pa_cons (pv 3) (pa_cons (pv 7) pa_nil)))) pe_bl (nomark _)) (pw_or1 (pt_cmpR (op_neD hr.units) (pe_call (ok_fault T) (hr.mono (by decide)) (by rfl) T.g_fault T.fault.kp (b_fault T) .nil pass0 (pa_cons (pv 4) (pa_cons (pv 3) (pa_cons (pv 7) pa_nil)))) (pe_tup (pa_cons pe_str pa_nil)) (nomark _))))) (pss_one (ps_ret pe_bl)) pss_nil)))
      (pss_cons (ps_set (i := 8) sc_law.nd rfl (by first | exact Or.inl rfl | exact Or.inr rfl) (pe_make0 T.mk_Part (ok_Part_init T) (hr.mono (by decide)) (by rfl) T.g_Part (b0_Part T).choose_spec.2 (b0_Part T).choose_spec.1 pass0))
      (pss_cons (ps_if (PW.pt (pw_or (pt_cmp (pc_notN (pe_call (ok_fault T) (hr.mono (by decide)) (by rfl) T.g_fault T.fault.kp (b_fault T) .nil pass0 (pa_cons (pv 8) (pa_cons (pv 3) (pa_cons (pe_tup pa_nil) pa_nil)))))) (pw_or1 (pt_cmpR op_isnot_bl (pe_call (ok_is_layout T) (hr.mono (by decide)) (by rfl) T.g_is_layout T.is_layout.kp (b_is_layout T) .nil pass0 (pa_cons (pv 8) (pa_cons (pv 3) (pa_cons (pe_tup pa_nil) pa_nil)))) pe_bl (nomark _))))) (pss_one (ps_ret pe_bl)) pss_nil)
      (pss_one (ps_if (PW.pt (pw_or (pt_cmpR op_ne (pe_cmpR (op_eqD hr.units) (pv 2) (pe_lst pa_nil) (nomark _)) (pe_cmp (pc_isN (pe_call (ok_fault T) (hr.mono (by decide)) (by rfl) T.g_fault T.fault.kp (b_fault T) .nil pass0 (pa_cons (pv 4) (pa_cons (pv 3) (pa_cons (pe_tup pa_nil) pa_nil)))))) (nomark _)) (pw_or1 (pt_cmpR (op_neD hr.units) (pe_call (ok_fault T) (hr.mono (by decide)) (by rfl) T.g_fault T.fault.kp (b_fault T) .nil pass0 (pa_cons (pv 8) (pa_cons (pv 3) (pa_cons (pe_tup (pa_cons pe_int pa_nil)) pa_nil)))) (pe_tup (pa_cons pe_str (pa_cons pe_int pa_nil))) (nomark _))))) (pss_one (ps_ret pe_bl)) pss_nil))))))))))))
      (pss_one (ps_ret pe_bl))), ?_⟩
    refine ⟨_, rfl, a, ns, 4, rfl, hS, hlen, by decide, fun H1 R ds s1 nR hR hds hdl => ?_⟩
    refine ⟨R, rfl, ⟨_, .of hR⟩, for_list (xs := ds.map V.ref) (fun i σ H' => Rnd H' R ds ∧ ∃ y1 y2 y3 y4 y5 y6 y7 y8, σ = [some (.ref a), y1, y2, y3, y4, y5, y6, y7, y8]) ⟨⟨hR, hds⟩, none, none, none, none, none, none, none, none, rfl⟩ ?_ ?_ ?_⟩
    · rintro i σ H' _ ⟨h, _⟩
      exact .of h.1
    · rintro i v σ H0 hv ⟨hRnd, y1, y2, y3, y4, y5, y6, y7, y8, rfl⟩
      obtain ⟨d, rfl, hd, hD0⟩ := hRnd.at hv
      refine ⟨_, rfl, d, 8, rfl, hD0, by decide, fun H2 B bs f2 hD2 nB row2 hbo hbl => ?_⟩
      have nBd : B ≠ d := new_ne hD0 nB
      refine ⟨_, rfl, d, rfl, hD2, fun x H3 k f3 hD3 hx hk => ⟨_, _, rfl, ?_⟩⟩
      have row3 := row2.fr f3 (by simp [nBd])
      refine ⟨_, rfl, make_part (.inr ⟨B, rfl, row3.dp⟩) hbo (by omega) fun H4 p q s4 np nq npq hp4 => ?_⟩
      have row4 := row3.same s4
      refine ⟨_, rfl, _, rfl, d, B, bs, rfl, hD3.same s4, row4.dp, by omega, fun y H5 ns f5 hD5 hy hsum hnl => ⟨_, _, rfl, ?_⟩⟩
      have row5 := row4.fr f5 (by simp [nBd])
      have hp5 := hp4.fr (hD3.same s4) f5
      have hx5 := f5.dp (dp_same s4 hx) (isT_desk k)
      have f05 := (((f2.trans f3).then s4).trans f5)
      obtain ⟨t0, rfl, ht⟩ := dp_nums hy
      have sz : ∀ n : Nat, n ≤ 30 → (numsV ns).length + n ≤ sizeLine := fun n hn => by
        rw [List.length_map]
        exact Nat.le_of_lt (small1000 (by omega))
      have sz2 : (numsD ns).length ≤ 100 := by rw [List.length_map]; omega
      -- bad = [None, 5, True, '', list(fine), (fine,), fine + (1,), fine + (-1, 1)]
      refine ⟨_, rfl, t0, _, rfl, .inr ht, fun a1 n1 => ?_⟩
      have e1 := same_upd (o := .lst (numsV ns)) n1
      refine ⟨_, rfl, by show (1 : Nat) ≤ sizeLine; decide, fun a2 n2 => ?_⟩
      have e2 := same_upd (o := .tup [.ref t0]) n2
      refine ⟨_, rfl, by show (1 : Nat) ≤ sizeLine; decide, fun a3 n3 => ?_⟩
      have e3 := same_upd (o := .tup [.int 1]) n3
      have s3 := (e1.trans e2).trans e3
      refine ⟨t0, a3, _, _, rfl, rfl, same_sqt s3 ht, .of upd_same, sz _ (by decide), fun a4 H6 e4 h4 => ?_⟩
      have s4 := s3.trans e4
      refine ⟨_, rfl, _, rfl, by show (2 : Nat) ≤ sizeLine; decide, fun a5 n5 => ?_⟩
      have e5 := same_upd (o := .tup [.int (-1), .int 1]) n5
      have s5 := s4.trans e5
      refine ⟨t0, a5, _, _, rfl, rfl, same_sqt s5 ht, .of upd_same, sz _ (by decide), fun a6 H7 e6 h6 => ?_⟩
      have s6 := s5.trans e6
      refine ⟨by show (8 : Nat) ≤ sizeLine; decide, fun b1 m1 => ?_⟩
      have e7 := same_upd (o := .lst [.non, .int 5, .bl true, .str (Str.ofString ""), .ref a1, .ref a2, .ref a4, .ref a6]) m1
      have s7 := s6.trans e7
      have c5 := (e5.trans e6).trans e7
      have c3 := (e3.trans e4).trans c5
      have c2 := e2.trans c3
      obtain ⟨vs1, ds1, hb1, hd1, bad1, len1⟩ : ∃ vs1 ds1, (upd H7 b1 (.lst [.non, .int 5, .bl true, .str (Str.ofString ""), .ref a1, .ref a2, .ref a4, .ref a6])) b1 = some (.lst vs1) ∧ DpAll K (upd H7 b1 (.lst [.non, .int 5, .bl true, .str (Str.ofString ""), .ref a1, .ref a2, .ref a4, .ref a6])) vs1 ds1 ∧ (∀ d ∈ ds1, BadD bs d) ∧ vs1.length = 8 := by
        refine ⟨_, [.none, .int 5, .bool true, .str (Str.ofString ""), .list (numsD ns), .tuple [.tuple (numsD ns)], .tuple (numsD ns ++ [.int 1]), .tuple (numsD ns ++ [.int (-1), .int 1])], upd_same, ?_, ?_, rfl⟩
        · refine .cons .non (.cons (.int _) (.cons (.bl _) (.cons (.str _) (.cons ?_ (.cons ?_ (.cons ?_ (.cons ?_ .nil)))))))
          · exact dp_same c2 (.lst (.of upd_same) (dpa_nums_of ns))
          · exact dp_same c3 (.tup (.of upd_same) (.cons (dp_nums_of (same_sqt (e1.trans e2) ht)) .nil))
          · exact dp_same c5 (.tup h4 (dpa_app (dpa_nums_of ns) (.cons (.int _) .nil)))
          · exact dp_same e7 (.tup h6 (dpa_app (dpa_nums_of ns) (.cons (.int _) (.cons (.int _) .nil))))
        · intro d hd
          rcases (by simpa using hd : d = .none ∨ d = .int 5 ∨ d = .bool true ∨ d = .str (Str.ofString "") ∨ d = .list (numsD ns) ∨ d = .tuple [.tuple (numsD ns)] ∨ d = .tuple (numsD ns ++ [.int 1]) ∨ d = .tuple (numsD ns ++ [.int (-1), .int 1])) with e | e | e | e | e | e | e | e <;> subst e
          · exact bad_flat rfl (fun _ e => nomatch e)
          · exact bad_flat rfl (fun _ e => nomatch e)
          · exact bad_flat rfl (fun _ e => nomatch e)
          · exact bad_flat rfl (fun _ e => nomatch e)
          · exact bad_flat rfl (fun _ e => nomatch e)
          · exact bad_no (xs := []) (ys := []) rfl (by decide)
          · have := bad_sum (bs := bs) (ns := ns ++ [1]) (by rw [List.sum_append]; simp; omega) (by rw [List.length_append]; simp; omega)
            rw [show numsD (ns ++ [1]) = numsD ns ++ [.int 1] from List.map_append] at this
            exact this
          · exact bad_no (xs := numsD ns) (ys := [.int 1]) rfl (by simp; omega)
      generalize (upd H7 b1 (.lst [.non, .int 5, .bl true, .str (Str.ofString ""), .ref a1, .ref a2, .ref a4, .ref a6])) = G1 at hb1 hd1 s7 ⊢
      -- bad = bad + [(-1, len(bars) + 1), fine + ('0',)]
      have hbv : ∃ bv, SqL K G1 B bv ∧ bv.length = bs.length := by
        obtain ⟨bv, v1, v2⟩ := row5.same s7
        exact ⟨bv, .of v1, bars_len v2⟩
      obtain ⟨bv, hbv1, hbv2⟩ := hbv
      refine ⟨_, rfl, _, rfl, _, rfl, _, _, rfl, .inl ⟨_, hbv1, hbv2.symm⟩, _, _, rfl, rfl, by show (2 : Nat) ≤ sizeLine; decide, fun a8 n8 => ?_⟩
      have e8 := same_upd (o := .tup [.int (-1), .int ((bs.length : Int) + 1)]) n8
      refine ⟨_, rfl, by show (1 : Nat) ≤ sizeLine; decide, fun a9 n9 => ?_⟩
      have e9 := same_upd (o := .tup [.str (Str.ofString "0")]) n9
      have s9 := (s7.trans e8).trans e9
      refine ⟨t0, a9, _, _, rfl, rfl, same_sqt s9 ht, .of upd_same, sz _ (by decide), fun a10 H8 e10 h10 => ?_⟩
      refine ⟨by show (2 : Nat) ≤ sizeLine; decide, fun b2 m2 => ?_⟩
      have e11 := same_upd (o := .lst [.ref a8, .ref a10]) m2
      have c8 := (e9.trans e10).trans e11
      refine ⟨b1, b2, _, _, rfl, rfl, (e8.trans c8) _ _ hb1, upd_same, ?_, fun b3 m3 => ?_⟩
      · rw [len1]
        show (10 : Nat) ≤ sizeLine
        decide
      have e12 := same_upd (o := .lst (vs1 ++ [.ref a8, .ref a10])) m3
      have s12 := s7.trans ((e8.trans c8).trans e12)
      obtain ⟨vs2, ds2, hb2, hd2, bad2, len2⟩ : ∃ vs2 ds2, (upd (upd H8 b2 (.lst [.ref a8, .ref a10])) b3 (.lst (vs1 ++ [.ref a8, .ref a10]))) b3 = some (.lst vs2) ∧ DpAll K (upd (upd H8 b2 (.lst [.ref a8, .ref a10])) b3 (.lst (vs1 ++ [.ref a8, .ref a10]))) vs2 ds2 ∧ (∀ d ∈ ds2, BadD bs d) ∧ vs2.length = 10 := by
        refine ⟨_, ds1 ++ [.tuple [.int (-1), .int ((bs.length : Int) + 1)], .tuple (numsD ns ++ [.str (Str.ofString "0")])], upd_same, ?_, ?_, by rw [List.length_append, len1]; rfl⟩
        · refine dpa_app (dpa_same ((e8.trans c8).trans e12) hd1) (.cons ?_ (.cons ?_ .nil))
          · exact dp_same (c8.trans e12) (.tup (.of upd_same) (.cons (.int _) (.cons (.int _) .nil)))
          · exact dp_same (e11.trans e12) (.tup h10 (dpa_app (dpa_nums_of ns) (.cons (.str _) .nil)))
        · intro d hd
          rcases List.mem_append.mp hd with hd | hd
          · exact bad1 d hd
          rcases (by simpa using hd : d = .tuple [.int (-1), .int ((bs.length : Int) + 1)] ∨ d = .tuple (numsD ns ++ [.str (Str.ofString "0")])) with e | e <;> subst e
          · exact bad_no (xs := []) (ys := [.int ((bs.length : Int) + 1)]) rfl (by simp)
          · exact bad_no (xs := numsD ns) (ys := []) rfl (by simp; omega)
      generalize (upd (upd H8 b2 (.lst [.ref a8, .ref a10])) b3 (.lst (vs1 ++ [.ref a8, .ref a10]))) = G2 at hb2 hd2 s12 ⊢
      -- bad = bad + [fine + (None,), fine + (False,), fine + ((0,),), (len(bars) + 1,)]
      obtain ⟨cv, hcv1, hcv2⟩ : ∃ bv, SqL K G2 B bv ∧ bv.length = bs.length := by
        obtain ⟨bv, v1, v2⟩ := row5.same s12
        exact ⟨bv, .of v1, bars_len v2⟩
      refine ⟨_, rfl, _, rfl, by show (1 : Nat) ≤ sizeLine; decide, fun d1 k1 => ?_⟩
      have g1 := same_upd (o := .tup [.non]) k1
      refine ⟨t0, d1, _, _, rfl, rfl, same_sqt (s12.trans g1) ht, .of upd_same, sz _ (by decide), fun d2 H9 g2 j2 => ?_⟩
      refine ⟨_, rfl, by show (1 : Nat) ≤ sizeLine; decide, fun d3 k3 => ?_⟩
      have g3 := same_upd (o := .tup [.bl false]) k3
      have w3 := ((s12.trans g1).trans g2).trans g3
      refine ⟨t0, d3, _, _, rfl, rfl, same_sqt w3 ht, .of upd_same, sz _ (by decide), fun d4 H10 g4 j4 => ?_⟩
      refine ⟨_, rfl, by show (1 : Nat) ≤ sizeLine; decide, fun d5 k5 => ?_⟩
      have g5 := same_upd (o := .tup [.int 0]) k5
      refine ⟨by show (1 : Nat) ≤ sizeLine; decide, fun d6 k6 => ?_⟩
      have g6 := same_upd (o := .tup [.ref d5]) k6
      have w6 := ((w3.trans g4).trans g5).trans g6
      refine ⟨t0, d6, _, _, rfl, rfl, same_sqt w6 ht, .of upd_same, sz 1 (by decide), fun d7 H11 g7 j7 => ?_⟩
      have w27 := (((((g1.trans g2).trans g3).trans g4).trans g5).trans g6).trans g7
      refine ⟨_, rfl, _, _, rfl, .inl ⟨_, w27.seq hcv1, hcv2.symm⟩, _, _, rfl, rfl, by show (1 : Nat) ≤ sizeLine; decide, fun d8 k8 => ?_⟩
      have g8 := same_upd (o := .tup [.int ((bs.length : Int) + 1)]) k8
      refine ⟨by show (4 : Nat) ≤ sizeLine; decide, fun b4 m4 => ?_⟩
      have g9 := same_upd (o := .lst [.ref d2, .ref d4, .ref d7, .ref d8]) m4
      refine ⟨b3, b4, _, _, rfl, rfl, ((w27.trans g8).trans g9) _ _ hb2, upd_same, ?_, fun b5 m5 => ?_⟩
      · rw [len2]
        show (14 : Nat) ≤ sizeLine
        decide
      have g10 := same_upd (o := .lst (vs2 ++ [.ref d2, .ref d4, .ref d7, .ref d8])) m5
      have s13 := s12.trans (((w27.trans g8).trans g9).trans g10)
      have z7 := (g8.trans g9).trans g10
      have z6 := g7.trans z7
      have z4 := (g5.trans g6).trans z6
      have z2 := (g3.trans g4).trans z4
      obtain ⟨vs3, ds3, hb3, hd3, bad3, len3⟩ : ∃ vs3 ds3, (upd (upd (upd H11 d8 (.tup [.int ((bs.length : Int) + 1)])) b4 (.lst [.ref d2, .ref d4, .ref d7, .ref d8])) b5 (.lst (vs2 ++ [.ref d2, .ref d4, .ref d7, .ref d8]))) b5 = some (.lst vs3) ∧ DpAll K (upd (upd (upd H11 d8 (.tup [.int ((bs.length : Int) + 1)])) b4 (.lst [.ref d2, .ref d4, .ref d7, .ref d8])) b5 (.lst (vs2 ++ [.ref d2, .ref d4, .ref d7, .ref d8]))) vs3 ds3 ∧ (∀ d ∈ ds3, BadD bs d) ∧ vs3.length = 14 := by
        refine ⟨_, ds2 ++ [.tuple (numsD ns ++ [.none]), .tuple (numsD ns ++ [.bool false]), .tuple (numsD ns ++ [.tuple [.int 0]]), .tuple (numsD [bs.length + 1])], upd_same, ?_, ?_, by rw [List.length_append, len2]; rfl⟩
        · refine dpa_app (dpa_same (w27.trans z7) hd2) (.cons ?_ (.cons ?_ (.cons ?_ (.cons ?_ .nil))))
          · exact dp_same z2 (.tup j2 (dpa_app (dpa_nums_of ns) (.cons .non .nil)))
          · exact dp_same z4 (.tup j4 (dpa_app (dpa_nums_of ns) (.cons (.bl _) .nil)))
          · exact dp_same z7 (.tup j7 (dpa_app (dpa_nums_of ns) (.cons (dp_same (g6.trans g7) (.tup (.of upd_same) (.cons (.int _) .nil))) .nil)))
          · exact dp_same (g9.trans g10) (dp_nums_of (.of upd_same))
        · intro d hd
          rcases List.mem_append.mp hd with hd | hd
          · exact bad2 d hd
          rcases (by simpa using hd : d = .tuple (numsD ns ++ [.none]) ∨ d = .tuple (numsD ns ++ [.bool false]) ∨ d = .tuple (numsD ns ++ [.tuple [.int 0]]) ∨ d = .tuple (numsD [bs.length + 1])) with e | e | e | e <;> subst e
          · exact bad_no (xs := numsD ns) (ys := []) rfl (by simp; omega)
          · exact bad_no (xs := numsD ns) (ys := []) rfl (by simp; omega)
          · exact bad_no (xs := numsD ns) (ys := []) rfl (by simp; omega)
          · exact bad_sum (by simp) (by simp)
      generalize (upd (upd (upd H11 d8 (.tup [.int ((bs.length : Int) + 1)])) b4 (.lst [.ref d2, .ref d4, .ref d7, .ref d8])) b5 (.lst (vs2 ++ [.ref d2, .ref d4, .ref d7, .ref d8]))) = G3 at hb3 hd3 s13 ⊢
      -- if fine != ()
      refine ⟨_, rfl, by show (0 : Nat) ≤ sizeLine; decide, fun o1 no1 => ?_⟩
      have u1 := same_upd (o := .tup []) no1
      refine ⟨_, .tuple [], dp_nums_of (same_sqt (s13.trans u1) ht), .tup (.of upd_same) .nil, (shp_nums ns).ok (by decide), (shp_tup (n := 0) shpA_nil).ok (by decide), _, rfl, ?_⟩
      have hb3' := u1 _ _ hb3
      have hd3' := dpa_same u1 hd3
      have s13' := s13.trans u1
      generalize (upd G3 o1 (.tup [])) = G4 at hb3' hd3' s13' ⊢
      by_cases hns : ns = []
      case' pos =>
        rw [show PyData.eqv (.tuple (numsD ns)) (.tuple []) = true by rw [hns]; rfl]
        refine iteF ?_
        have hb6 := hb3'
        have hd6 := hd3'
        have s16 := s13'
        have bad6 := bad3
        generalize G4 = G at hb6 hd6 s16 ⊢
        generalize b5 = b at hb6 ⊢
        generalize vs3 = vs at hb6 hd6
        generalize ds3 = es at hd6 bad6
      case' neg =>
        obtain ⟨n, r, hnr⟩ : ∃ n r, ns = n :: r := by
          cases ns with
          | nil => exact absurd rfl hns
          | cons n r => exact ⟨n, r, rfl⟩
        obtain ⟨ini, m, him⟩ : ∃ ini m, ns = ini ++ [m] := by
          rcases List.eq_nil_or_concat ns with h | ⟨l, b, h⟩
          · exact absurd h hns
          · exact ⟨l, b, by rw [h, List.concat_eq_append]⟩
        have hn8 : n ≤ bs.length := by
          rw [← hsum, hnr]
          simp
        have hsi : ini.sum + m = bs.length := by
          rw [← hsum, him, List.sum_append]
          simp
        have hil : ini.length ≤ 61 := by
          have := congrArg List.length him
          rw [List.length_append] at this
          simp at this
          omega
        have hrl : r.length ≤ 61 := by
          have := congrArg List.length hnr
          simp at this
          omega
        have vim : numsV ns = numsV ini ++ [.int (m : Int)] := by
          rw [him]
          exact List.map_append
        have vnr : numsV ns = .int (n : Int) :: numsV r := by rw [hnr]; rfl
        rw [show PyData.eqv (.tuple (numsD ns)) (.tuple []) = false by rw [hnr]; rfl]
        refine iteT ?_
        have ht4 := same_sqt s13' ht
        refine ⟨_, rfl, _, rfl, _, rfl, _, rfl, t0, _, rfl, ht4, fun p1 I1 i1 q1 => ?_⟩
        rw [vim, cut_last] at q1
        have ht5 := same_sqt i1 ht4
        refine ⟨_, rfl, _, rfl, t0, _, _, _, rfl, rfl, ht5, (by rw [vim]; exact at_last _ _), _, _, rfl, rfl, by show (1 : Nat) ≤ sizeLine; decide, fun p2 l2 => ?_⟩
        have i2 := same_upd (o := .tup [.int ((m : Int) - 1)]) l2
        refine ⟨p1, p2, _, _, rfl, rfl, same_sqt i2 q1, .of upd_same, ?_, fun p3 I3 i3 q3 => ?_⟩
        · rw [List.length_map]
          exact Nat.le_of_lt (small1000 (by simp; omega))
        have ht6 := same_sqt (i2.trans i3) ht5
        refine ⟨_, rfl, t0, _, _, _, rfl, rfl, ht6, (by rw [vnr]; exact at_of (j := 0) rfl rfl), _, rfl, ?_, by show (1 : Nat) ≤ sizeLine; decide, fun p4 l4 => ?_⟩
        · have := Nat.log2_le_self ((n : Int).natAbs)
          rw [Int.natAbs_natCast] at this ⊢
          omega
        have i4 := same_upd (o := .tup [.str (toString (n : Int))]) l4
        have ht7 := same_sqt i4 ht6
        refine ⟨_, rfl, _, rfl, t0, _, rfl, ht7, fun p5 I5 i5 q5 => ?_⟩
        rw [vnr, show cutV (V.int (n : Int) :: numsV r) (some 1) none = numsV r from cut_drop (k := 1)] at q5
        refine ⟨p4, p5, _, _, rfl, rfl, same_sqt i5 (.of upd_same), q5, ?_, fun p6 I6 i6 q6 => ?_⟩
        · rw [List.length_map]
          exact Nat.le_of_lt (small1000 (by simp; omega))
        refine ⟨by show (2 : Nat) ≤ sizeLine; decide, fun b6 m6 => ?_⟩
        have i7 := same_upd (o := .lst [.ref p3, .ref p6]) m6
        have j3 := ((i4.trans i5).trans i6).trans i7
        have jall := ((i1.trans i2).trans i3).trans j3
        refine ⟨b5, b6, _, _, rfl, rfl, jall _ _ hb3', upd_same, ?_, fun b7 m7 => ?_⟩
        · rw [len3]
          show (16 : Nat) ≤ sizeLine
          decide
        have i8 := same_upd (o := .lst (vs3 ++ [.ref p3, .ref p6])) m7
        have s16 := s13'.trans (jall.trans i8)
        have hb6 : (upd (upd I6 b6 (.lst [.ref p3, .ref p6])) b7 (.lst (vs3 ++ [.ref p3, .ref p6]))) b7 = some (.lst (vs3 ++ [.ref p3, .ref p6])) := upd_same
        have hd6 : DpAll K (upd (upd I6 b6 (.lst [.ref p3, .ref p6])) b7 (.lst (vs3 ++ [.ref p3, .ref p6]))) (vs3 ++ [.ref p3, .ref p6]) (ds3 ++ [.tuple (numsD ini ++ [.int ((m : Int) - 1)]), .tuple (.str (toString (n : Int)) :: numsD r)]) := by
          refine dpa_app (dpa_same (jall.trans i8) hd3') (.cons ?_ (.cons ?_ .nil))
          · exact dp_same (j3.trans i8) (.tup q3 (dpa_app (dpa_nums_of ini) (.cons (.int _) .nil)))
          · exact dp_same (i7.trans i8) (.tup q6 (.cons (.str _) (dpa_nums_of r)))
        have bad6 : ∀ d ∈ ds3 ++ [.tuple (numsD ini ++ [.int ((m : Int) - 1)]), .tuple (.str (toString (n : Int)) :: numsD r)], BadD bs d := by
          intro d hd
          rcases List.mem_append.mp hd with hd | hd
          · exact bad3 d hd
          rcases (by simpa using hd : d = .tuple (numsD ini ++ [.int ((m : Int) - 1)]) ∨ d = .tuple (.str (toString (n : Int)) :: numsD r)) with e | e <;> subst e
          · by_cases h0 : m = 0
            · exact bad_no (xs := numsD ini) (ys := []) (by rw [h0]; rfl) (by simp; omega)
            · have := bad_sum (bs := bs) (ns := ini ++ [m - 1]) (by rw [List.sum_append]; simp; omega) (by rw [List.length_append]; simp; omega)
              rw [show numsD (ini ++ [m - 1]) = numsD ini ++ [.int ((m - 1 : Nat) : Int)] from List.map_append, show ((m - 1 : Nat) : Int) = (m : Int) - 1 by omega] at this
              exact this
          · exact bad_no (xs := []) (ys := numsD r) rfl (by simp; omega)
        generalize (upd (upd I6 b6 (.lst [.ref p3, .ref p6])) b7 (.lst (vs3 ++ [.ref p3, .ref p6]))) = G at hb6 hd6 s16 ⊢
        generalize b7 = b at hb6 ⊢
        generalize vs3 ++ [.ref p3, .ref p6] = vs at hb6 hd6
        generalize ds3 ++ [.tuple (numsD ini ++ [.int ((m : Int) - 1)]), .tuple (.str (toString (n : Int)) :: numsD r)] = es at hd6 bad6
      all_goals
        refine ⟨_, rfl, b, rfl, ⟨_, .of hb6⟩, for_list (xs := vs) (fun i σ H' => Same G H' ∧ ∃ y7, σ = [some (.ref a), some (.ref d), some (.ref B), some x, some (.ref p), some (.ref t0), some (.ref b), y7, y8]) ⟨Same.refl _, y7, rfl⟩ ?_ ?_ ?_⟩
        · rintro i σ H' _ ⟨h, _⟩
          exact .of (h _ _ hb6)
        · rintro i v σ G5 hv ⟨sG, y7, rfl⟩
          obtain ⟨dd, hdi, hvd⟩ := dpa_at hd6 hv
          have hbad := bad6 dd (List.mem_of_getElem? hdi)
          have hff := hbad.fault k
          have s17 := s16.trans sG
          refine ⟨_, rfl, _, rfl, _, rfl, p, q, bs, [], _, _, k, dd, rfl, hp5.same s17, dp_same s17 hx5, hk, dp_same sG hvd, hbad.2, by omega, fun G6 s6 => ?_⟩
          rw [hff]
          refine ⟨_, _, rfl, rfl, _, rfl, iteF ?_⟩
          have s18 := s17.trans s6
          refine ⟨_, rfl, _, rfl, _, rfl, p, q, bs, [], _, _, k, dd, rfl, hp5.same s18, dp_same s18 hx5, hk, dp_same (sG.trans s6) hvd, hbad.2, by omega, fun w G7 s7 hw => ?_⟩
          rw [hff] at hw
          refine ⟨by show (1 : Nat) ≤ sizeLine; decide, fun c nc => ?_⟩
          have sc := same_upd (o := .tup [.str (Str.ofString "form")]) nc
          refine ⟨_, faultD (some .form), dp_same sc hw, .tup (.of upd_same) (.cons (.str _) .nil), (shp_fault (some .form)).ok (by decide), (shp_fault (some .form)).ok (by decide), _, rfl, ?_⟩
          rw [SeqAt.eqv_refl _ (shp_fault _).1]
          exact iteF ⟨((sG.trans s6).trans s7).trans sc, _, rfl⟩
        · rintro σ G5 ⟨sG, y7, rfl⟩
          have s17 := s16.trans sG
          refine make_part (.inl ⟨rfl, rfl⟩) (bs := []) (fun _ h => nomatch h) (by decide) fun G6 pe qe s6 npe nqe npqe hpe => ?_
          have s18 := s17.trans s6
          have dl0 : ∀ (es : List PyData), PyData.tuple [] = .tuple es → es.length ≤ 1000000 := fun es e => by
            cases e
            exact Nat.zero_le _
          -- fault(empty, desk, ()) is not None
          refine ⟨_, rfl, _, rfl, by show (0 : Nat) ≤ sizeLine; decide, fun o2 no2 => ?_⟩
          have v1 := same_upd (o := .tup []) no2
          refine ⟨pe, qe, [], [], _, _, k, .tuple [], rfl, hpe.same v1, dp_same (s18.trans v1) hx5, hk, .tup (.of upd_same) .nil, dl0, by decide, fun w1 G7 v2 hw1 => ?_⟩
          have ew1 : w1 = .non := dp_none hw1
          subst ew1
          refine ⟨_, rfl, iteF ?_⟩
          -- is_layout(empty, desk, ()) is not True
          have v12 := v1.trans v2
          refine ⟨_, rfl, _, rfl, by show (0 : Nat) ≤ sizeLine; decide, fun o3 no3 => ?_⟩
          have v3 := v12.trans (same_upd (o := .tup []) no3)
          refine ⟨pe, qe, [], [], _, _, k, .tuple [], rfl, hpe.same v3, dp_same (s18.trans v3) hx5, hk, .tup (.of upd_same) .nil, dl0, by decide, fun G8 v4 => ?_⟩
          refine ⟨_, _, rfl, rfl, _, rfl, iteF ?_⟩
          -- (bars == []) != (fault(part, desk, ()) is None)
          have v5 := v3.trans v4
          have row8 := row5.same (s18.trans v5)
          refine ⟨_, rfl, by show (0 : Nat) ≤ sizeLine; decide, fun o4 no4 => ?_⟩
          have v6 := same_upd (o := .lst []) no4
          refine ⟨_, .list [], (row8.same v6).dp, .lst (.of upd_same) .nil, (shp_bars bs).ok (by decide), (shp_nil (n := 0)).ok (by decide), ?_⟩
          have v7 := v5.trans v6
          refine ⟨_, rfl, _, rfl, by show (0 : Nat) ≤ sizeLine; decide, fun o5 no5 => ?_⟩
          have v8 := v7.trans (same_upd (o := .tup []) no5)
          refine ⟨p, q, bs, [], _, _, k, .tuple [], rfl, hp5.same (s18.trans v8), dp_same (s18.trans v8) hx5, hk, .tup (.of upd_same) .nil, dl0, by omega, fun w2 G9 v9 hw2 => ?_⟩
          have eb : PyData.eqv (.list (barsD bs)) (.list []) = decide (w2 = V.non) := by
            rw [← isNone_dp hw2]
            cases bs with
            | nil => rfl
            | cons x r => rfl
          refine ⟨rfl, _, rfl, iteBB eb ?_⟩
          -- fault(empty, desk, (0,)) != ('empty', 0)
          have v10 := v8.trans v9
          refine ⟨_, rfl, _, rfl, by show (1 : Nat) ≤ sizeLine; decide, fun o6 no6 => ?_⟩
          have v11 := v10.trans (same_upd (o := .tup [.int 0]) no6)
          refine ⟨pe, qe, [], [], _, _, k, .tuple (numsD [0]), rfl, hpe.same v11, dp_same (s18.trans v11) hx5, hk, .tup (.of upd_same) (.cons (.int _) .nil), ?_, by decide, fun w3 G10 v12 hw3 => ?_⟩
          · intro es e
            cases e
            decide
          have ef : faultG [] k (.tuple (numsD [0])) = some (.empty 0) := by
            have h0 : ¬ (0 : Int) > k.room := by
              have := hk.r0
              omega
            have hpf : pageFault [] k [0] 0 = some (.empty 0) := by
              unfold pageFault
              dsimp only
              rw [show wideOf [] (List.sum (List.take (0 + 1) [0]) - List.getD [0] 0 0) (List.sum (List.take (0 + 1) [0])) = 0 from rfl, if_neg h0, if_pos ⟨rfl, .inl rfl⟩]
            show (match pageFault [] k [0] 0 with | some x => some x | none => none) = _
            rw [hpf]
          rw [ef] at hw3
          refine ⟨by show (2 : Nat) ≤ sizeLine; decide, fun o7 no7 => ?_⟩
          have v13 := same_upd (o := .tup [.str (Str.ofString "empty"), .int 0]) no7
          refine ⟨_, faultD (some (.empty 0)), dp_same v13 hw3, .tup (.of upd_same) (.cons (.str _) (.cons (.int _) .nil)), (shp_fault (some (.empty 0))).ok (by decide), (shp_fault (some (.empty 0))).ok (by decide), _, rfl, ?_⟩
          rw [SeqAt.eqv_refl _ (shp_fault _).1]
          have sEnd := s18.trans ((v11.trans v12).trans v13)
          exact iteF ⟨hRnd.turn hd (f05.then sEnd) (hD5.same sEnd), _, _, _, _, _, _, _, _, rfl⟩
    · rintro σ H' ⟨_, y1, y2, y3, y4, y5, y6, y7, y8, rfl⟩
      exact z _
abbrev R : PySem.W.OpenRow := PySem.W.OpenLaw.row PySem.Challenge.rw_turnedleaves_k21_what_is_no_layout
def tf : List He.Defn := []
abbrev hk : PySem.W.Hook := He.hookX 6 fa fn [] tf ex
def ob (s : PySem.W.SharedT) : He.AlX := He.obsX 6 fa fn [] tf ex (HandSHeadRun.getT s)
theorem ob_eq (s : PySem.W.SharedT) : ob s = hk.obs s.abs := He.obsX_eq (HandSHeadRun.getT_eq s)
theorem run (w : World) : HandSHeadRun.RunEq R (PySem.W.view R.prog [31]) hk ob 20000 loose w := by
  intro os
  kernel_rfl
end TL
open PySem PySem.W PySem.Calls PyProof.Rows
set_option maxRecDepth 100000 in
set_option maxHeartbeats 0 in
theorem PySem.Challenge.cw_turnedleaves_k21_what_is_no_layout_holds : PySem.Challenge.rw_turnedleaves_k21_what_is_no_layout.Holds := by
  w_on; o_law
  refine HandSHeadRun.head_any (r := OpenLaw.row PySem.Challenge.rw_turnedleaves_k21_what_is_no_layout) (q := view (OpenLaw.row PySem.Challenge.rw_turnedleaves_k21_what_is_no_layout).prog [31]) (H := TL.hk) (ob := TL.ob) (M := 20000) (loose := TL.loose) (d := HandSHeadRun.topDef (OpenLaw.row PySem.Challenge.rw_turnedleaves_k21_what_is_no_layout).prog 31) (kwd := []) TL.ob_eq
    (by kernel_rfl) (fun s => by kernel_rfl) TL.run (by kernel_rfl) (by kernel_rfl) (by kernel_rfl) (by rfl) (by first | assumption | decide +kernel) (by decide +kernel) ⟨rfl, rfl, rfl, rfl, rfl, by decide +kernel⟩ ?hw ?hc
  case hw => w_witness2
  case hc =>
    refine L2.walk_ofE (l := PySem.Challenge.rw_turnedleaves_k21_what_is_no_layout) (n := 63) (k := 20) (x := "script") (CX := L2.CX0) rfl (by decide) (by kernel_rfl) ⟨rfl, by decide, by decide⟩ ?F (fun _ _ _ _ z => z)
    intro w mg fa h Y G hmg0
    obtain ⟨K, KX, c⟩ := Y
    have hmg : mg ("law" : PySem.Str) = some (.ref fa) := by
      have e : (HandSHeadRun.topDef (OpenLaw.row PySem.Challenge.rw_turnedleaves_k21_what_is_no_layout).prog 31).name = ("law" : PySem.Str) := by kernel_rfl
      rw [← e]
      exact hmg0
    have T : TL.Txt K mg := TL.txt_of KX G c
    have e := hmg.symm.trans T.g_law
    cases e
    have b := L2.FunD.bindsA (ps := ["script"]) T.law fun _ _ _ _ _ _ us hl => match us, hl with | [_], _ => rfl
    exact ⟨K, TL.fdOf K ("law", none), TL.sp_law K, KX, fun s v => b s [v] rfl, fun H a ns hl _ hS => ⟨a, ns, rfl, hS, hl, fun _ => rfl⟩, fun base _ _ => TL.ok_law T⟩
