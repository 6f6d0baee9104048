import PyProof.Rows.All
import Wide.All
import OpenK.AllK
import Wide.FinOn
import KE.KStateDown
import Lean
import HandS.ForMost
import HandS.Exc
import HandS.TryOnly
import HandS.ExcOwn
import HandS.WordsExc
import HandS.More
import HandS.Flow
import HandS.Style
import HandS.IsInst
import HandS.Deep
import KE.DataFind
import KE.GoesEnum
import HandS.WideBits
import HandS.TupAny
import HandS.TupLe
import HandS.Wide
import HandS.FStr
import HandS.Zip
import HandS.Conv
import HandS.Codes
import HandS.OwnEq
import HandS.SortOrd
import HandS.DictTup
import HandS.Defaults
import HandS.SetFor
import HandS.Small
import HandS.ForDict
import KE.KDictDisplayH
import KE.DataMinMax
import KE.SortData
import HandS.Walk
import HandS.TupLen
import PyProof.Rows.TupDisplay
import HandS.Head0
import HandS.Head1
import HandS.Head2
import HandS.HeadEnd
import HandS.HeadHook1
import HandS.HeadHook2
import HandS.HeadHook3
import HandS.HeadHook4
import PySem.Challenge.RW_turnedleaves_k72_whole_fewest_that_play
set_option Elab.async false
set_option linter.all false
set_option maxRecDepth 100000
set_option maxHeartbeats 4000000
namespace TL
open PySem PySem.Spec PyProof.Rows L2
/-! ### defs by name -/
def fdOf (K : PySem.W.Frag) (p : Str × Option Str) : FuncData := match K.lookup (He.fAd K p) with
  | some ⟨_, _, .func fd, _⟩ => fd
  | _ => PySem.W.fnOf "" "" { posonlyargs := [], args := [], vararg := none, kwonlyargs := [], kw_defaults := [], kwarg := none, defaults := [] } [] { kind := .function, names := [], isGenerator := false, isCoroutine := false } .none .none .none .none none .none .none
abbrev Df (K : PySem.W.Frag) (p : Str × Option Str) (x q : Str) (st : Stmt) (dv : List V) : Prop := FunD K x q (defArgs st) (defBody st) (defScope st) dv [] (He.fAd K p) (fdOf K p)
theorem df_of {K : PySem.W.Frag} {p : Str × Option Str} {x q : Str} {pa : Arguments} {bd : List Stmt} {sc : Scope} {dv : List V} {kw : List (Str × V)} (h : ∃ fd, FunD K x q pa bd sc dv kw (He.fAd K p) fd) : FunD K x q pa bd sc dv kw (He.fAd K p) (fdOf K p) := by
  obtain ⟨fd, F⟩ := h
  obtain ⟨oc, od, dV, kV, doc, pm, an, cdv, ct, osl, e, lk, _⟩ := id F.ex
  have e2 : fdOf K p = fd := by
    unfold fdOf
    rw [lk]
  rw [e2]
  exact F
abbrev OkF (P : Program) (w : World) (K : PySem.W.Frag) (mg : Str → Option Value) (base : Heap) (CX : CXT) (k : Nat) (p : Str × Option Str) (ps : List Str) (sp : Sp) : Prop := FnOk P w K mg base CX k (He.fAd K p) (fdOf K p) ps sp
section
variable {P : Program} {w : World} {K : PySem.W.Frag} {mg : Str → Option Value} {base : Heap} {x qual : Str} {params : Arguments} {body : List Stmt} {scope : Scope} {dvs : List V} {kws : List (Str × V)} {f : Addr} {fd : FuncData}
theorem okN {N ps : List Str} {k : Nat} {sp : Sp} (F : FunD K x qual params body scope dvs kws f fd) (S : FnScope N ps scope) (len : ∀ vs H Q E, sp vs H Q E → vs.length = ps.length)
    (hbody : ∀ (cdv : Value) (A : Around) (outer : List Env) (s : Shared) (H : Hp) (vs : List V) (Q : VK) (E : XK), Room k (A.deeper (envOfC qual scope s.heap.objs.size f cdv)) → sp vs H Q E →
      ∃ t, PSs (cxOf CX0 P w K mg base N qual scope f cdv A outer s H E).nox body t ∧ t { nx := fun _ H' => Q .non H', rt := Q } (start N vs) H) : FnOk P w K mg base CX0 (k + 1) f fd ps sp := by
  refine F.ok S len fun cdv A outer s H vs Q E hr hsp => ?_
  obtain ⟨t, h, q⟩ := hbody cdv A outer s H vs Q E hr hsp
  exact ⟨t, h.nox, q⟩
end
/-! ### heaps -/
theorem same_upd {H : Hp} {p : Addr} {o : HO} (h : H p = none) : Same H (upd H p o) := fun b x e => by
  rw [upd_ne (ne_of_none e h)]
  exact e
theorem same_updR {H H1 : Hp} {p : Addr} {o : HO} (s : Same H H1) (h : H p = none) : Same H (upd H1 p o) := fun b x e => by
  rw [upd_ne (ne_of_none e h)]
  exact s b x e
theorem same_sqt {K : PySem.W.Frag} {H H' : Hp} {a : Addr} {xs : List V} (e : Same H H') (h : SqT K H a xs) : SqT K H' a xs := by
  rcases h with (h | ⟨o, h⟩) | h
  · exact .inl (.inl (e _ _ h))
  · exact .inl (.inr ⟨o, e _ _ h⟩)
  · exact .inr h
/-- all that was tracked is as it was but at ds; tuples and what is locked stay -/
structure Fr (ds : List Addr) (H H' : Hp) : Prop where
  keep : ∀ b o, b ∉ ds → H b = some o → H' b = some o
  tu : ∀ b xs, H b = some (.tup xs) → H' b = some (.tup xs)
  fz : ∀ b o u, H b = some (.frz o u) → H' b = some (.frz o u)
theorem Fr.of {H H' : Hp} (s : Same H H') (ds : List Addr) : Fr ds H H' := ⟨fun b o _ e => s b o e, fun b xs e => s b _ e, fun b o u e => s b _ e⟩
theorem Fr.refl (ds : List Addr) (H : Hp) : Fr ds H H := Fr.of (Same.refl H) ds
theorem Fr.trans {ds : List Addr} {H H1 H2 : Hp} (a : Fr ds H H1) (b : Fr ds H1 H2) : Fr ds H H2 := ⟨fun c o n e => b.keep c o n (a.keep c o n e), fun c xs e => b.tu c xs (a.tu c xs e), fun c o u e => b.fz c o u (a.fz c o u e)⟩
theorem Fr.mono {ds es : List Addr} {H H1 : Hp} (a : Fr ds H H1) (h : ∀ d ∈ ds, d ∈ es) : Fr es H H1 := ⟨fun c o n e => a.keep c o (fun z => n (h c z)) e, a.tu, a.fz⟩
theorem Fr.same {H H' : Hp} (a : Fr [] H H') : Same H H' := fun b o e => a.keep b o (by simp) e
theorem Fr.upd {d : Addr} {ds : List Addr} {H : Hp} {o u : HO} (h : H d = some o) (m : Mut (some o)) (hd : d ∈ ds) : Fr ds H (L2.upd H d u) := by
  have ne : ∀ b v, H b = some v → ¬ Mut (some v) → b ≠ d := fun b v e nm z => by
    subst z
    rw [h] at e
    cases e
    exact nm m
  refine ⟨fun b v n e => ?_, fun b xs e => ?_, fun b ob w e => ?_⟩
  · rw [upd_ne (show b ≠ d from fun z => n (by rw [z]; exact hd))]
    exact e
  · rw [upd_ne (ne b _ e fun z => z)]
    exact e
  · rw [upd_ne (ne b _ e fun z => z)]
    exact e
theorem Fr.sqt {K : PySem.W.Frag} {ds : List Addr} {H H' : Hp} {a : Addr} {xs : List V} (e : Fr ds H H') (h : SqT K H a xs) : SqT K H' a xs := by
  rcases h with (h | ⟨o, h⟩) | h
  · exact .inl (.inl (e.tu _ _ h))
  · exact .inl (.inr ⟨o, e.fz _ _ _ h⟩)
  · exact .inr h
/-! ### data -/
mutual
/-- no list in it -/
def isT : PyData → Bool
  | .none => true
  | .bool _ => true
  | .int _ => true
  | .str _ => true
  | .list _ => false
  | .tuple xs => isTs xs
  | .dict _ => false
def isTs : List PyData → Bool
  | [] => true
  | x :: xs => isT x && isTs xs
end
section
variable {K : PySem.W.Frag} {H H' : Hp}
mutual
theorem dp_tu (e : ∀ a xs, SqT K H a xs → SqT K H' a xs) : ∀ {v : V} {d : PyData}, Dp K H v d → isT d = true → Dp K H' v d
  | _, _, .non, _ => .non
  | _, _, .bl b, _ => .bl b
  | _, _, .int i, _ => .int i
  | _, _, .str x, _ => .str x
  | _, _, .lst _ _, h => by cases h
  | _, _, .tup s a, h => .tup (e _ _ s) (dpa_tu e a h)
theorem dpa_tu (e : ∀ a xs, SqT K H a xs → SqT K H' a xs) : ∀ {vs : List V} {ds : List PyData}, DpAll K H vs ds → isTs ds = true → DpAll K H' vs ds
  | _, _, .nil, _ => .nil
  | _, _, .cons d r, h => by
    obtain ⟨h1, h2⟩ := Bool.and_eq_true_iff.mp h
    exact .cons (dp_tu e d h1) (dpa_tu e r h2)
end
mutual
theorem dp_same (e : Same H H') : ∀ {v : V} {d : PyData}, Dp K H v d → Dp K H' v d
  | _, _, .non => .non
  | _, _, .bl b => .bl b
  | _, _, .int i => .int i
  | _, _, .str x => .str x
  | _, _, .lst s a => .lst (e.seq s) (dpa_same e a)
  | _, _, .tup s a => .tup (same_sqt e s) (dpa_same e a)
theorem dpa_same (e : Same H H') : ∀ {vs : List V} {ds : List PyData}, DpAll K H vs ds → DpAll K H' vs ds
  | _, _, .nil => .nil
  | _, _, .cons d r => .cons (dp_same e d) (dpa_same e r)
end
theorem Fr.dp {ds : List Addr} (e : Fr ds H H') {v : V} {d : PyData} (h : Dp K H v d) (t : isT d = true) : Dp K H' v d := dp_tu (fun _ _ z => e.sqt z) h t
theorem Fr.dpa {ds : List Addr} (e : Fr ds H H') {vs : List V} {xs : List PyData} (h : DpAll K H vs xs) (t : isTs xs = true) : DpAll K H' vs xs := dpa_tu (fun _ _ z => e.sqt z) h t
theorem dpa_len : ∀ {vs : List V} {ds : List PyData}, DpAll K H vs ds → vs.length = ds.length
  | _, _, .nil => rfl
  | _, _, .cons _ r => congrArg Nat.succ (dpa_len r)
theorem dpa_at : ∀ {vs : List V} {ds : List PyData} {i : Nat} {v : V}, DpAll K H vs ds → vs[i]? = some v → ∃ d, ds[i]? = some d ∧ Dp K H v d
  | _, _, _, _, .nil, e => by simp at e
  | _, _, 0, _, .cons d r, e => by simp at e; subst e; exact ⟨_, rfl, d⟩
  | _, _, i + 1, v, .cons d r, e => by
    obtain ⟨d', h1, h2⟩ := dpa_at (i := i) (v := v) r (by simpa using e)
    exact ⟨d', by simpa using h1, h2⟩
theorem dpa_atD : ∀ {vs : List V} {ds : List PyData} {i : Nat} {d : PyData}, DpAll K H vs ds → ds[i]? = some d → ∃ v, vs[i]? = some v ∧ Dp K H v d
  | _, _, _, _, .nil, e => by simp at e
  | _, _, 0, _, .cons d r, e => by simp at e; subst e; exact ⟨_, rfl, d⟩
  | _, _, i + 1, v, .cons d r, e => by
    obtain ⟨d', h1, h2⟩ := dpa_atD (i := i) (d := v) r (by simpa using e)
    exact ⟨d', by simpa using h1, h2⟩
theorem dpa_app : ∀ {vs ws : List V} {ds es : List PyData}, DpAll K H vs ds → DpAll K H ws es → DpAll K H (vs ++ ws) (ds ++ es)
  | _, _, _, _, .nil, h => h
  | _, _, _, _, .cons d r, h => .cons d (dpa_app r h)
theorem dpa_snoc {vs : List V} {ds : List PyData} {v : V} {d : PyData} (h : DpAll K H vs ds) (e : Dp K H v d) : DpAll K H (vs ++ [v]) (ds ++ [d]) := dpa_app h (.cons e .nil)
theorem dpa_take : ∀ {vs : List V} {ds : List PyData} (n : Nat), DpAll K H vs ds → DpAll K H (vs.take n) (ds.take n)
  | _, _, 0, _ => .nil
  | _, _, _ + 1, .nil => .nil
  | _, _, n + 1, .cons d r => .cons d (dpa_take n r)
theorem dpa_drop : ∀ {vs : List V} {ds : List PyData} (n : Nat), DpAll K H vs ds → DpAll K H (vs.drop n) (ds.drop n)
  | _, _, 0, h => h
  | _, _, _ + 1, .nil => .nil
  | _, _, n + 1, .cons d r => dpa_drop n r
theorem dpa_rev : ∀ {vs : List V} {ds : List PyData}, DpAll K H vs ds → DpAll K H vs.reverse ds.reverse
  | _, _, .nil => .nil
  | _, _, .cons d r => by
    rw [List.reverse_cons, List.reverse_cons]
    exact dpa_snoc (dpa_rev r) d
theorem dpa1 {xs : List V} {d0 : PyData} (h : DpAll K H xs [d0]) : ∃ v0, xs = [v0] ∧ Dp K H v0 d0 := by
  cases h with
  | cons h0 r =>
    cases r
    exact ⟨_, rfl, h0⟩
theorem dpa2 {xs : List V} {d0 d1 : PyData} (h : DpAll K H xs [d0, d1]) : ∃ v0 v1, xs = [v0, v1] ∧ Dp K H v0 d0 ∧ Dp K H v1 d1 := by
  cases h with
  | cons h0 r =>
    cases r with
    | cons h1 r =>
      cases r
      exact ⟨_, _, rfl, h0, h1⟩
theorem dpa3 {xs : List V} {d0 d1 d2 : PyData} (h : DpAll K H xs [d0, d1, d2]) : ∃ v0 v1 v2, xs = [v0, v1, v2] ∧ Dp K H v0 d0 ∧ Dp K H v1 d1 ∧ Dp K H v2 d2 := by
  cases h with
  | cons h0 r =>
    cases r with
    | cons h1 r =>
      cases r with
      | cons h2 r =>
        cases r
        exact ⟨_, _, _, rfl, h0, h1, h2⟩
theorem dpa4 {xs : List V} {d0 d1 d2 d3 : PyData} (h : DpAll K H xs [d0, d1, d2, d3]) : ∃ v0 v1 v2 v3, xs = [v0, v1, v2, v3] ∧ Dp K H v0 d0 ∧ Dp K H v1 d1 ∧ Dp K H v2 d2 ∧ Dp K H v3 d3 := by
  cases h with
  | cons h0 r =>
    cases r with
    | cons h1 r =>
      cases r with
      | cons h2 r =>
        cases r with
        | cons h3 r =>
          cases r
          exact ⟨_, _, _, _, rfl, h0, h1, h2, h3⟩
theorem len3 {α : Type} {l : List α} (h : l.length = 3) : ∃ a b c, l = [a, b, c] := by
  match l, h with
  | [a, b, c], _ => exact ⟨a, b, c, rfl⟩
theorem len2 {α : Type} {l : List α} (h : l.length = 2) : ∃ a b, l = [a, b] := by
  match l, h with
  | [a, b], _ => exact ⟨a, b, rfl⟩
theorem len4 {α : Type} {l : List α} (h : l.length = 4) : ∃ a b c d, l = [a, b, c, d] := by
  match l, h with
  | [a, b, c, d], _ => exact ⟨a, b, c, d, rfl⟩
/-- the type's name -/
def tyD : PyData → String
  | .none => "NoneType"
  | .bool _ => "bool"
  | .int _ => "int"
  | .str _ => "str"
  | .list _ => "list"
  | .tuple _ => "tuple"
  | .dict _ => "dict"
theorem dp_ty {v : V} {d : PyData} (h : Dp K H v d) : TyX K H v (.type (tyD d)) := by
  cases h with
  | non => exact .base .non
  | bl b => exact .base (.bl b)
  | int i => exact .base (.int i)
  | str x => exact .base (.str x)
  | lst s a =>
    rcases s with (s | ⟨o, s⟩) | ⟨o, its, n, k, c, _⟩
    · exact .base (.lst s)
    · exact .base (.frz s)
    · exact .kList k c
  | tup s a =>
    rcases s with (s | ⟨o, s⟩) | ⟨o, its, n, k, c, _⟩
    · exact .base (.tup s)
    · exact .fTuple s
    · exact .kTuple k c
end
/-! ### tests of numbers -/
section
variable {A B : Prop} {i j : Int}
theorem iteEQ (h : i = j) (x : A) : if decide (V.int i = V.int j) = true then A else B := by
  rw [decide_eq_true (congrArg V.int h)]
  exact iteT x
theorem iteNQ (h : i ≠ j) (x : B) : if decide (V.int i = V.int j) = true then A else B := by
  rw [decide_eq_false (fun e => h (V.int.inj e))]
  exact iteF x
theorem iteNEQ (h : i ≠ j) (x : A) : if (!decide (V.int i = V.int j)) = true then A else B := by
  rw [decide_eq_false (fun e => h (V.int.inj e))]
  exact iteT x
theorem iteNNQ (h : i = j) (x : B) : if (!decide (V.int i = V.int j)) = true then A else B := by
  rw [decide_eq_true (congrArg V.int h)]
  exact iteF x
theorem ite2Q (h1 : i = j → A) (h2 : i ≠ j → B) : if decide (V.int i = V.int j) = true then A else B := by
  by_cases h : i = j
  · exact iteEQ h (h1 h)
  · exact iteNQ h (h2 h)
theorem ite2NQ (h1 : i ≠ j → A) (h2 : i = j → B) : if (!decide (V.int i = V.int j)) = true then A else B := by
  by_cases h : i = j
  · exact iteNNQ h (h2 h)
  · exact iteNEQ h (h1 h)
theorem iteP {c : Prop} [Decidable c] (h : c) (x : A) : if decide c = true then A else B := by
  rw [decide_eq_true h]
  exact iteT x
theorem iteN {c : Prop} [Decidable c] (h : ¬ c) (x : B) : if decide c = true then A else B := by
  rw [decide_eq_false h]
  exact iteF x
theorem ite2P {c : Prop} [Decidable c] (h1 : c → A) (h2 : ¬ c → B) : if decide c = true then A else B := by
  by_cases h : c
  · exact iteP h (h1 h)
  · exact iteN h (h2 h)
theorem iteNP {c : Prop} [Decidable c] (h : ¬ c) (x : A) : if (!decide c) = true then A else B := by
  rw [decide_eq_false h]
  exact iteT x
theorem iteNN {c : Prop} [Decidable c] (h : c) (x : B) : if (!decide c) = true then A else B := by
  rw [decide_eq_true h]
  exact iteF x
end
/-! ### isinstance -/
def isIntB : PyData → Bool
  | .int _ => true
  | .bool _ => true
  | _ => false
def isBoolB : PyData → Bool
  | .bool _ => true
  | _ => false
def isTupB : PyData → Bool
  | .tuple _ => true
  | _ => false
def isLstB : PyData → Bool
  | .list _ => true
  | _ => false
def isStrB : PyData → Bool
  | .str _ => true
  | _ => false
section
variable {K : PySem.W.Frag}
theorem kit_int : ∀ d : PyData, PySem.W.kitOne K (.type (tyD d)) (.type "int") = some (isIntB d)
  | .none => kit_ty (a := "NoneType") (b := "int") (r := false) (by decide +kernel)
  | .bool _ => kit_ty (a := "bool") (b := "int") (r := true) (by decide +kernel)
  | .int _ => kit_ty (a := "int") (b := "int") (r := true) (by decide +kernel)
  | .str _ => kit_ty (a := "str") (b := "int") (r := false) (by decide +kernel)
  | .list _ => kit_ty (a := "list") (b := "int") (r := false) (by decide +kernel)
  | .tuple _ => kit_ty (a := "tuple") (b := "int") (r := false) (by decide +kernel)
  | .dict _ => kit_ty (a := "dict") (b := "int") (r := false) (by decide +kernel)
theorem kit_bool : ∀ d : PyData, PySem.W.kitOne K (.type (tyD d)) (.type "bool") = some (isBoolB d)
  | .none => kit_ty (a := "NoneType") (b := "bool") (r := false) (by decide +kernel)
  | .bool _ => kit_ty (a := "bool") (b := "bool") (r := true) (by decide +kernel)
  | .int _ => kit_ty (a := "int") (b := "bool") (r := false) (by decide +kernel)
  | .str _ => kit_ty (a := "str") (b := "bool") (r := false) (by decide +kernel)
  | .list _ => kit_ty (a := "list") (b := "bool") (r := false) (by decide +kernel)
  | .tuple _ => kit_ty (a := "tuple") (b := "bool") (r := false) (by decide +kernel)
  | .dict _ => kit_ty (a := "dict") (b := "bool") (r := false) (by decide +kernel)
theorem kit_tup : ∀ d : PyData, PySem.W.kitOne K (.type (tyD d)) (.type "tuple") = some (isTupB d)
  | .none => kit_ty (a := "NoneType") (b := "tuple") (r := false) (by decide +kernel)
  | .bool _ => kit_ty (a := "bool") (b := "tuple") (r := false) (by decide +kernel)
  | .int _ => kit_ty (a := "int") (b := "tuple") (r := false) (by decide +kernel)
  | .str _ => kit_ty (a := "str") (b := "tuple") (r := false) (by decide +kernel)
  | .list _ => kit_ty (a := "list") (b := "tuple") (r := false) (by decide +kernel)
  | .tuple _ => kit_ty (a := "tuple") (b := "tuple") (r := true) (by decide +kernel)
  | .dict _ => kit_ty (a := "dict") (b := "tuple") (r := false) (by decide +kernel)
theorem kit_lst : ∀ d : PyData, PySem.W.kitOne K (.type (tyD d)) (.type "list") = some (isLstB d)
  | .none => kit_ty (a := "NoneType") (b := "list") (r := false) (by decide +kernel)
  | .bool _ => kit_ty (a := "bool") (b := "list") (r := false) (by decide +kernel)
  | .int _ => kit_ty (a := "int") (b := "list") (r := false) (by decide +kernel)
  | .str _ => kit_ty (a := "str") (b := "list") (r := false) (by decide +kernel)
  | .list _ => kit_ty (a := "list") (b := "list") (r := true) (by decide +kernel)
  | .tuple _ => kit_ty (a := "tuple") (b := "list") (r := false) (by decide +kernel)
  | .dict _ => kit_ty (a := "dict") (b := "list") (r := false) (by decide +kernel)
theorem kit_str : ∀ d : PyData, PySem.W.kitOne K (.type (tyD d)) (.type "str") = some (isStrB d)
  | .none => kit_ty (a := "NoneType") (b := "str") (r := false) (by decide +kernel)
  | .bool _ => kit_ty (a := "bool") (b := "str") (r := false) (by decide +kernel)
  | .int _ => kit_ty (a := "int") (b := "str") (r := false) (by decide +kernel)
  | .str _ => kit_ty (a := "str") (b := "str") (r := true) (by decide +kernel)
  | .list _ => kit_ty (a := "list") (b := "str") (r := false) (by decide +kernel)
  | .tuple _ => kit_ty (a := "tuple") (b := "str") (r := false) (by decide +kernel)
  | .dict _ => kit_ty (a := "dict") (b := "str") (r := false) (by decide +kernel)
theorem isi {H : Hp} {x : V} {d : PyData} {n : String} {b : Bool} {Q : VK} (hd : Dp K H x d) (hk : PySem.W.kitOne K (.type (tyD d)) (.type n) = some b) (q : Q (.bl b) H) : rIsi K [x, .ty n] H Q := ⟨x, .ty n, _, _, b, rfl, .ty _, dp_ty hd, hk, q⟩
end
/-- a tuple of the written part -/
def tupIs (K : PySem.W.Frag) (a : Addr) (vs : List V) : Bool := match K.lookup a with
  | some ⟨.type c, _, .seq its _, _⟩ => decide (c = "tuple") && (decide (its.size ≤ sizeLine) && He.relAll vs its.toList)
  | _ => false
theorem tupIs_ok {K : PySem.W.Frag} {a : Addr} {vs : List V} (h : tupIs K a vs = true) (H : Hp) : SqT K H a vs := by
  unfold tupIs at h
  cases q : K.lookup a with
  | none =>
    rw [q] at h
    cases h
  | some o =>
    obtain ⟨oc, od, dt, osl⟩ := o
    rw [q] at h
    cases oc with
    | type c =>
      cases dt with
      | seq its n =>
        obtain ⟨h1, h2⟩ := He.ba h
        obtain ⟨h3, h4⟩ := He.ba h2
        exact .inr ⟨_, its, n, q, congrArg Value.type (of_decide_eq_true h1), rfl, of_decide_eq_true h3, He.relAll_ok h4⟩
      | _ => cases h
    | _ => cases dt <;> cases h
def topS (i : Nat) : Stmt := PySem.Challenge.pw_turnedleaves_k72_whole_fewest_that_play.main.body.getD i (.Pass ⟨0, 0, 0, 0⟩)
abbrev s__wall : Stmt := topS 0
abbrev s_is_number : Stmt := topS 10
abbrev s_is_bar : Stmt := topS 11
abbrev s_beats_of : Stmt := topS 12
abbrev s_Part_init : Stmt := inClass (topS 13) 0
abbrev s_Part_len : Stmt := inClass (topS 13) 1
abbrev s_Part_eq : Stmt := inClass (topS 13) 2
abbrev s_Part_str : Stmt := inClass (topS 13) 3
abbrev s_Part_bars : Stmt := inClass (topS 13) 4
abbrev s_Part_becomes : Stmt := inClass (topS 13) 5
abbrev s_Part_put : Stmt := inClass (topS 13) 6
abbrev s_Part_drop : Stmt := inClass (topS 13) 7
abbrev s_Part_take_back : Stmt := inClass (topS 13) 8
abbrev s_Part_ahead : Stmt := inClass (topS 13) 9
abbrev s_Part_behind : Stmt := inClass (topS 13) 10
abbrev s_Part_rest : Stmt := inClass (topS 13) 11
abbrev s_Part_wide : Stmt := inClass (topS 13) 12
abbrev s_need_desk : Stmt := topS 16
abbrev s_is_right : Stmt := topS 17
abbrev s_page_with : Stmt := topS 18
abbrev s_may_turn : Stmt := topS 20
abbrev s_steps : Stmt := topS 21
abbrev s_begin_of : Stmt := topS 22
abbrev s_reached : Stmt := topS 23
abbrev s_best_from : Stmt := topS 24
abbrev s_fewest : Stmt := topS 25
abbrev s_need_repeats : Stmt := topS 27
abbrev s_order_of : Stmt := topS 28
abbrev s_turned : Stmt := topS 29
abbrev s_has_time : Stmt := topS 30
abbrev s_fewest_for : Stmt := topS 31
abbrev s__law_cell : Stmt := topS 33
abbrev s__law_drawn : Stmt := topS 34
abbrev s__law_roll : Stmt := topS 35
abbrev s__law_rounds : Stmt := topS 36
abbrev s__law_bar : Stmt := topS 37
abbrev s__law_row : Stmt := topS 38
abbrev s__law_stand : Stmt := topS 39
abbrev s__law_run : Stmt := topS 40
abbrev s__law_rest : Stmt := topS 41
abbrev s__law_width : Stmt := topS 42
abbrev s__law_side : Stmt := topS 43
abbrev s__law_steps : Stmt := topS 44
abbrev s__law_first : Stmt := topS 45
abbrev s__law_repeats : Stmt := topS 46
abbrev s__law_order : Stmt := topS 47
abbrev s__law_leaves : Stmt := topS 48
abbrev s__law_plays : Stmt := topS 49
abbrev s__law_all : Stmt := topS 50
abbrev s_law : Stmt := topS 51
def dd_is_number : He.DefD := ⟨("is_number", none), "is_number", "is_number", defArgs s_is_number, defBody s_is_number, defScope s_is_number, [], []⟩
def dd_is_bar : He.DefD := ⟨("is_bar", none), "is_bar", "is_bar", defArgs s_is_bar, defBody s_is_bar, defScope s_is_bar, [], []⟩
def dd_beats_of : He.DefD := ⟨("beats_of", none), "beats_of", "beats_of", defArgs s_beats_of, defBody s_beats_of, defScope s_beats_of, [], []⟩
def dd_Part_init : He.DefD := ⟨("Part", some "__init__"), "__init__", "Part.__init__", defArgs s_Part_init, defBody s_Part_init, defScope s_Part_init, [.non], []⟩
def dd_Part_len : He.DefD := ⟨("Part", some "__len__"), "__len__", "Part.__len__", defArgs s_Part_len, defBody s_Part_len, defScope s_Part_len, [], []⟩
def dd_Part_eq : He.DefD := ⟨("Part", some "__eq__"), "__eq__", "Part.__eq__", defArgs s_Part_eq, defBody s_Part_eq, defScope s_Part_eq, [], []⟩
def dd_Part_str : He.DefD := ⟨("Part", some "__str__"), "__str__", "Part.__str__", defArgs s_Part_str, defBody s_Part_str, defScope s_Part_str, [], []⟩
def dd_Part_bars : He.DefD := ⟨("Part", some "bars"), "bars", "Part.bars", defArgs s_Part_bars, defBody s_Part_bars, defScope s_Part_bars, [], []⟩
def dd_Part_ahead : He.DefD := ⟨("Part", some "ahead"), "ahead", "Part.ahead", defArgs s_Part_ahead, defBody s_Part_ahead, defScope s_Part_ahead, [], []⟩
def dd_Part_behind : He.DefD := ⟨("Part", some "behind"), "behind", "Part.behind", defArgs s_Part_behind, defBody s_Part_behind, defScope s_Part_behind, [], []⟩
def dd_Part_rest : He.DefD := ⟨("Part", some "rest"), "rest", "Part.rest", defArgs s_Part_rest, defBody s_Part_rest, defScope s_Part_rest, [], []⟩
def dd_Part_wide : He.DefD := ⟨("Part", some "wide"), "wide", "Part.wide", defArgs s_Part_wide, defBody s_Part_wide, defScope s_Part_wide, [], []⟩
def dd_need_desk : He.DefD := ⟨("need_desk", none), "need_desk", "need_desk", defArgs s_need_desk, defBody s_need_desk, defScope s_need_desk, [], []⟩
def dd_is_right : He.DefD := ⟨("is_right", none), "is_right", "is_right", defArgs s_is_right, defBody s_is_right, defScope s_is_right, [], []⟩
def dd_page_with : He.DefD := ⟨("page_with", none), "page_with", "page_with", defArgs s_page_with, defBody s_page_with, defScope s_page_with, [], []⟩
def dd_may_turn : He.DefD := ⟨("may_turn", none), "may_turn", "may_turn", defArgs s_may_turn, defBody s_may_turn, defScope s_may_turn, [], []⟩
def dd_steps : He.DefD := ⟨("steps", none), "steps", "steps", defArgs s_steps, defBody s_steps, defScope s_steps, [], []⟩
def dd_begin_of : He.DefD := ⟨("begin_of", none), "begin_of", "begin_of", defArgs s_begin_of, defBody s_begin_of, defScope s_begin_of, [], []⟩
def dd_reached : He.DefD := ⟨("reached", none), "reached", "reached", defArgs s_reached, defBody s_reached, defScope s_reached, [], []⟩
def dd_best_from : He.DefD := ⟨("best_from", none), "best_from", "best_from", defArgs s_best_from, defBody s_best_from, defScope s_best_from, [], []⟩
def dd_fewest : He.DefD := ⟨("fewest", none), "fewest", "fewest", defArgs s_fewest, defBody s_fewest, defScope s_fewest, [], []⟩
def dd_need_repeats : He.DefD := ⟨("need_repeats", none), "need_repeats", "need_repeats", defArgs s_need_repeats, defBody s_need_repeats, defScope s_need_repeats, [], []⟩
def dd_order_of : He.DefD := ⟨("order_of", none), "order_of", "order_of", defArgs s_order_of, defBody s_order_of, defScope s_order_of, [], []⟩
def dd_turned : He.DefD := ⟨("turned", none), "turned", "turned", defArgs s_turned, defBody s_turned, defScope s_turned, [], []⟩
def dd_has_time : He.DefD := ⟨("has_time", none), "has_time", "has_time", defArgs s_has_time, defBody s_has_time, defScope s_has_time, [], []⟩
def dd_fewest_for : He.DefD := ⟨("fewest_for", none), "fewest_for", "fewest_for", defArgs s_fewest_for, defBody s_fewest_for, defScope s_fewest_for, [], []⟩
def dd__law_cell : He.DefD := ⟨("_law_cell", none), "_law_cell", "_law_cell", defArgs s__law_cell, defBody s__law_cell, defScope s__law_cell, [], []⟩
def dd__law_drawn : He.DefD := ⟨("_law_drawn", none), "_law_drawn", "_law_drawn", defArgs s__law_drawn, defBody s__law_drawn, defScope s__law_drawn, [], []⟩
def dd__law_roll : He.DefD := ⟨("_law_roll", none), "_law_roll", "_law_roll", defArgs s__law_roll, defBody s__law_roll, defScope s__law_roll, [], []⟩
def dd__law_rounds : He.DefD := ⟨("_law_rounds", none), "_law_rounds", "_law_rounds", defArgs s__law_rounds, defBody s__law_rounds, defScope s__law_rounds, [], []⟩
def dd__law_bar : He.DefD := ⟨("_law_bar", none), "_law_bar", "_law_bar", defArgs s__law_bar, defBody s__law_bar, defScope s__law_bar, [], []⟩
def dd__law_row : He.DefD := ⟨("_law_row", none), "_law_row", "_law_row", defArgs s__law_row, defBody s__law_row, defScope s__law_row, [], []⟩
def dd__law_stand : He.DefD := ⟨("_law_stand", none), "_law_stand", "_law_stand", defArgs s__law_stand, defBody s__law_stand, defScope s__law_stand, [], []⟩
def dd__law_run : He.DefD := ⟨("_law_run", none), "_law_run", "_law_run", defArgs s__law_run, defBody s__law_run, defScope s__law_run, [], []⟩
def dd__law_rest : He.DefD := ⟨("_law_rest", none), "_law_rest", "_law_rest", defArgs s__law_rest, defBody s__law_rest, defScope s__law_rest, [], []⟩
def dd__law_width : He.DefD := ⟨("_law_width", none), "_law_width", "_law_width", defArgs s__law_width, defBody s__law_width, defScope s__law_width, [], []⟩
def dd__law_side : He.DefD := ⟨("_law_side", none), "_law_side", "_law_side", defArgs s__law_side, defBody s__law_side, defScope s__law_side, [], []⟩
def dd__law_steps : He.DefD := ⟨("_law_steps", none), "_law_steps", "_law_steps", defArgs s__law_steps, defBody s__law_steps, defScope s__law_steps, [], []⟩
def dd__law_first : He.DefD := ⟨("_law_first", none), "_law_first", "_law_first", defArgs s__law_first, defBody s__law_first, defScope s__law_first, [], []⟩
def dd__law_repeats : He.DefD := ⟨("_law_repeats", none), "_law_repeats", "_law_repeats", defArgs s__law_repeats, defBody s__law_repeats, defScope s__law_repeats, [], []⟩
def dd__law_order : He.DefD := ⟨("_law_order", none), "_law_order", "_law_order", defArgs s__law_order, defBody s__law_order, defScope s__law_order, [], []⟩
def dd__law_leaves : He.DefD := ⟨("_law_leaves", none), "_law_leaves", "_law_leaves", defArgs s__law_leaves, defBody s__law_leaves, defScope s__law_leaves, [], []⟩
def dd__law_plays : He.DefD := ⟨("_law_plays", none), "_law_plays", "_law_plays", defArgs s__law_plays, defBody s__law_plays, defScope s__law_plays, [], []⟩
def dd__law_all : He.DefD := ⟨("_law_all", none), "_law_all", "_law_all", defArgs s__law_all, defBody s__law_all, defScope s__law_all, [], []⟩
def dd_law : He.DefD := ⟨("law", none), "law", "law", defArgs s_law, defBody s_law, defScope s_law, [], []⟩
def fn_0 : List He.DefD := [dd_is_number, dd_is_bar, dd_beats_of, dd_Part_init, dd_Part_len, dd_Part_eq, dd_Part_str, dd_Part_bars, dd_Part_ahead, dd_Part_behind, dd_Part_rest, dd_Part_wide, dd_need_desk, dd_is_right, dd_page_with, dd_may_turn, dd_steps, dd_begin_of, dd_reached, dd_best_from, dd_fewest, dd_need_repeats, dd_order_of, dd_turned, dd_has_time]
def fn_1 : List He.DefD := [dd_fewest_for, dd__law_cell, dd__law_drawn, dd__law_roll, dd__law_rounds, dd__law_bar, dd__law_row, dd__law_stand, dd__law_run, dd__law_rest, dd__law_width, dd__law_side, dd__law_steps, dd__law_first, dd__law_repeats, dd__law_order, dd__law_leaves, dd__law_plays, dd__law_all, dd_law]
def fn : List He.DefD := fn_0 ++ fn_1
def fa_0 : List He.Fa := [.glo "is_number", .glo "is_bar", .glo "beats_of", .glo "need_desk", .glo "is_right", .glo "page_with", .glo "may_turn", .glo "steps", .glo "begin_of", .glo "reached", .glo "best_from", .glo "fewest", .glo "need_repeats", .glo "order_of", .glo "turned", .glo "has_time", .glo "fewest_for", .glo "_law_cell", .glo "_law_drawn", .glo "_law_roll", .glo "_law_rounds", .glo "_law_bar", .glo "_law_row", .glo "_law_stand", .glo "_law_run"]
def fa_1 : List He.Fa := [.glo "_law_rest", .glo "_law_width", .glo "_law_side", .glo "_law_steps", .glo "_law_first", .glo "_law_repeats", .glo "_law_order", .glo "_law_leaves", .glo "_law_plays", .glo "_law_all", .glo "law", .free "len", .free "isinstance", .free "range", .free "list", .free "all", .free "int", .free "bool", .free "str", .free "tuple", .free "max", .free "min", .free "sum", .free "sorted", .free "zip"]
def fa_2 : List He.Fa := [.free "enumerate", .free "ValueError", .int "MOST" 40, .glo "SIDES", .glo "LeafError", .glo "BadBar", .glo "BadPlace", .glo "BadDesk", .glo "BadRepeats", .glo "Full", .cls "Part", .mkr "Part", .noat "Part" "row", .noat "Part" "past", .meth "Part" "__init__", .meth "Part" "__len__", .meth "Part" "__eq__", .meth "Part" "__str__", .meth "Part" "bars", .meth "Part" "ahead", .meth "Part" "behind", .meth "Part" "rest", .meth "Part" "wide", .glo "Part"]
def fa : List He.Fa := fa_0 ++ fa_1 ++ fa_2
def exs_0 : List (PySem.W.Frag → Bool) := [(fun K => He.eqO (PySem.W.findIn K (.ref (He.ga K "Part")) "__class__") (some (some (.builtin "object.__class__")))), (fun K => He.eqO (PySem.W.specialIn K (.builtin "object.__class__") "__get__") (some (some (.builtin "getset_descriptor.__get__")))), (fun K => decide (PySem.W.takesIn K (.builtin "object.__class__") = some true)), (fun K => decide (PySem.W.mroIn K (He.ga K "Part") (.type "object") = some true)), (fun K => decide (PySem.W.kitOne K (.ref (He.ga K "Part")) (.ref (He.ga K "Part")) = some true)), (fun K => decide (PySem.W.kitOne K (.type "NoneType") (.ref (He.ga K "Part")) = some false)), (fun K => decide (PySem.W.kitOne K (.type "bool") (.ref (He.ga K "Part")) = some false)), (fun K => decide (PySem.W.kitOne K (.type "int") (.ref (He.ga K "Part")) = some false)), (fun K => decide (PySem.W.kitOne K (.type "str") (.ref (He.ga K "Part")) = some false)), (fun K => decide (PySem.W.kitOne K (.type "list") (.ref (He.ga K "Part")) = some false)), (fun K => decide (PySem.W.kitOne K (.type "tuple") (.ref (He.ga K "Part")) = some false)), (fun K => decide (PySem.W.kitOne K (.ref (He.ga K "Part")) (.type "list") = some false)), (fun K => decide (PySem.W.kitOne K (.ref (He.ga K "Part")) (.type "tuple") = some false)), (fun K => decide (PySem.W.kitOne K (.ref (He.ga K "Part")) (.type "int") = some false)), (fun K => decide (PySem.W.kitOne K (.ref (He.ga K "Part")) (.type "bool") = some false)), (fun K => decide (PySem.W.kitOne K (.ref (He.ga K "Part")) (.type "str") = some false)), (fun K => He.eqO (PySem.W.findIn K (.ref (He.ga K "Part")) "__ne__") (some (some (.builtin "object.__ne__")))), (fun K => PySem.W.notFirst K (He.ga K "Part") (.type "NoneType")), (fun K => PySem.W.notFirst K (He.ga K "Part") (.type "bool")), (fun K => PySem.W.notFirst K (He.ga K "Part") (.type "int")), (fun K => PySem.W.notFirst K (He.ga K "Part") (.type "str")), (fun K => PySem.W.notFirst K (He.ga K "Part") (.type "list")), (fun K => PySem.W.notFirst K (He.ga K "Part") (.type "tuple")), (fun K => tupIs K (He.ga K "SIDES") [.str "left", .str "right"])]
def exs : List (PySem.W.Frag → Bool) := exs_0
def loose_0 : List PySem.Str := ["_wall", "LeafError", "BadBar", "BadPlace", "BadDesk", "BadRepeats", "Full", "MOST", "is_number", "is_bar", "beats_of", "Part", "SIDES", "need_desk", "is_right", "page_with", "may_turn", "steps", "begin_of", "reached", "best_from", "fewest", "need_repeats", "order_of", "turned"]
def loose_1 : List PySem.Str := ["has_time", "fewest_for", "_law_cell", "_law_drawn", "_law_roll", "_law_rounds", "_law_bar", "_law_row", "_law_stand", "_law_run", "_law_rest", "_law_width", "_law_side", "_law_steps", "_law_first", "_law_repeats", "_law_order", "_law_leaves", "_law_plays", "_law_all"]
def loose : List PySem.Str := loose_0 ++ loose_1
structure Txt (K : PySem.W.Frag) (mg : Str → Option Value) : Prop where
  is_number : Df K ("is_number", none) "is_number" "is_number" s_is_number []
  is_bar : Df K ("is_bar", none) "is_bar" "is_bar" s_is_bar []
  beats_of : Df K ("beats_of", none) "beats_of" "beats_of" s_beats_of []
  Part_init : Df K ("Part", some "__init__") "__init__" "Part.__init__" s_Part_init [.non]
  Part_len : Df K ("Part", some "__len__") "__len__" "Part.__len__" s_Part_len []
  Part_eq : Df K ("Part", some "__eq__") "__eq__" "Part.__eq__" s_Part_eq []
  Part_str : Df K ("Part", some "__str__") "__str__" "Part.__str__" s_Part_str []
  Part_bars : Df K ("Part", some "bars") "bars" "Part.bars" s_Part_bars []
  Part_ahead : Df K ("Part", some "ahead") "ahead" "Part.ahead" s_Part_ahead []
  Part_behind : Df K ("Part", some "behind") "behind" "Part.behind" s_Part_behind []
  Part_rest : Df K ("Part", some "rest") "rest" "Part.rest" s_Part_rest []
  Part_wide : Df K ("Part", some "wide") "wide" "Part.wide" s_Part_wide []
  need_desk : Df K ("need_desk", none) "need_desk" "need_desk" s_need_desk []
  is_right : Df K ("is_right", none) "is_right" "is_right" s_is_right []
  page_with : Df K ("page_with", none) "page_with" "page_with" s_page_with []
  may_turn : Df K ("may_turn", none) "may_turn" "may_turn" s_may_turn []
  steps : Df K ("steps", none) "steps" "steps" s_steps []
  begin_of : Df K ("begin_of", none) "begin_of" "begin_of" s_begin_of []
  reached : Df K ("reached", none) "reached" "reached" s_reached []
  best_from : Df K ("best_from", none) "best_from" "best_from" s_best_from []
  fewest : Df K ("fewest", none) "fewest" "fewest" s_fewest []
  need_repeats : Df K ("need_repeats", none) "need_repeats" "need_repeats" s_need_repeats []
  order_of : Df K ("order_of", none) "order_of" "order_of" s_order_of []
  turned : Df K ("turned", none) "turned" "turned" s_turned []
  has_time : Df K ("has_time", none) "has_time" "has_time" s_has_time []
  fewest_for : Df K ("fewest_for", none) "fewest_for" "fewest_for" s_fewest_for []
  _law_cell : Df K ("_law_cell", none) "_law_cell" "_law_cell" s__law_cell []
  _law_drawn : Df K ("_law_drawn", none) "_law_drawn" "_law_drawn" s__law_drawn []
  _law_roll : Df K ("_law_roll", none) "_law_roll" "_law_roll" s__law_roll []
  _law_rounds : Df K ("_law_rounds", none) "_law_rounds" "_law_rounds" s__law_rounds []
  _law_bar : Df K ("_law_bar", none) "_law_bar" "_law_bar" s__law_bar []
  _law_row : Df K ("_law_row", none) "_law_row" "_law_row" s__law_row []
  _law_stand : Df K ("_law_stand", none) "_law_stand" "_law_stand" s__law_stand []
  _law_run : Df K ("_law_run", none) "_law_run" "_law_run" s__law_run []
  _law_rest : Df K ("_law_rest", none) "_law_rest" "_law_rest" s__law_rest []
  _law_width : Df K ("_law_width", none) "_law_width" "_law_width" s__law_width []
  _law_side : Df K ("_law_side", none) "_law_side" "_law_side" s__law_side []
  _law_steps : Df K ("_law_steps", none) "_law_steps" "_law_steps" s__law_steps []
  _law_first : Df K ("_law_first", none) "_law_first" "_law_first" s__law_first []
  _law_repeats : Df K ("_law_repeats", none) "_law_repeats" "_law_repeats" s__law_repeats []
  _law_order : Df K ("_law_order", none) "_law_order" "_law_order" s__law_order []
  _law_leaves : Df K ("_law_leaves", none) "_law_leaves" "_law_leaves" s__law_leaves []
  _law_plays : Df K ("_law_plays", none) "_law_plays" "_law_plays" s__law_plays []
  _law_all : Df K ("_law_all", none) "_law_all" "_law_all" s__law_all []
  law : Df K ("law", none) "law" "law" s_law []
  g_is_number : mg "is_number" = some (.ref (He.fAd K ("is_number", none)))
  g_is_bar : mg "is_bar" = some (.ref (He.fAd K ("is_bar", none)))
  g_beats_of : mg "beats_of" = some (.ref (He.fAd K ("beats_of", none)))
  g_need_desk : mg "need_desk" = some (.ref (He.fAd K ("need_desk", none)))
  g_is_right : mg "is_right" = some (.ref (He.fAd K ("is_right", none)))
  g_page_with : mg "page_with" = some (.ref (He.fAd K ("page_with", none)))
  g_may_turn : mg "may_turn" = some (.ref (He.fAd K ("may_turn", none)))
  g_steps : mg "steps" = some (.ref (He.fAd K ("steps", none)))
  g_begin_of : mg "begin_of" = some (.ref (He.fAd K ("begin_of", none)))
  g_reached : mg "reached" = some (.ref (He.fAd K ("reached", none)))
  g_best_from : mg "best_from" = some (.ref (He.fAd K ("best_from", none)))
  g_fewest : mg "fewest" = some (.ref (He.fAd K ("fewest", none)))
  g_need_repeats : mg "need_repeats" = some (.ref (He.fAd K ("need_repeats", none)))
  g_order_of : mg "order_of" = some (.ref (He.fAd K ("order_of", none)))
  g_turned : mg "turned" = some (.ref (He.fAd K ("turned", none)))
  g_has_time : mg "has_time" = some (.ref (He.fAd K ("has_time", none)))
  g_fewest_for : mg "fewest_for" = some (.ref (He.fAd K ("fewest_for", none)))
  g__law_cell : mg "_law_cell" = some (.ref (He.fAd K ("_law_cell", none)))
  g__law_drawn : mg "_law_drawn" = some (.ref (He.fAd K ("_law_drawn", none)))
  g__law_roll : mg "_law_roll" = some (.ref (He.fAd K ("_law_roll", none)))
  g__law_rounds : mg "_law_rounds" = some (.ref (He.fAd K ("_law_rounds", none)))
  g__law_bar : mg "_law_bar" = some (.ref (He.fAd K ("_law_bar", none)))
  g__law_row : mg "_law_row" = some (.ref (He.fAd K ("_law_row", none)))
  g__law_stand : mg "_law_stand" = some (.ref (He.fAd K ("_law_stand", none)))
  g__law_run : mg "_law_run" = some (.ref (He.fAd K ("_law_run", none)))
  g__law_rest : mg "_law_rest" = some (.ref (He.fAd K ("_law_rest", none)))
  g__law_width : mg "_law_width" = some (.ref (He.fAd K ("_law_width", none)))
  g__law_side : mg "_law_side" = some (.ref (He.fAd K ("_law_side", none)))
  g__law_steps : mg "_law_steps" = some (.ref (He.fAd K ("_law_steps", none)))
  g__law_first : mg "_law_first" = some (.ref (He.fAd K ("_law_first", none)))
  g__law_repeats : mg "_law_repeats" = some (.ref (He.fAd K ("_law_repeats", none)))
  g__law_order : mg "_law_order" = some (.ref (He.fAd K ("_law_order", none)))
  g__law_leaves : mg "_law_leaves" = some (.ref (He.fAd K ("_law_leaves", none)))
  g__law_plays : mg "_law_plays" = some (.ref (He.fAd K ("_law_plays", none)))
  g__law_all : mg "_law_all" = some (.ref (He.fAd K ("_law_all", none)))
  g_law : mg "law" = some (.ref (He.fAd K ("law", none)))
  b_len : mg "len" = none
  b_isinstance : mg "isinstance" = none
  b_range : mg "range" = none
  b_list : mg "list" = none
  b_all : mg "all" = none
  b_int : mg "int" = none
  b_bool : mg "bool" = none
  b_str : mg "str" = none
  b_tuple : mg "tuple" = none
  b_max : mg "max" = none
  b_min : mg "min" = none
  b_sum : mg "sum" = none
  b_sorted : mg "sorted" = none
  b_zip : mg "zip" = none
  b_enumerate : mg "enumerate" = none
  b_ValueError : mg "ValueError" = none
  c_MOST : ∃ t, mg "MOST" = some (.int 40 t)
  g_SIDES : mg "SIDES" = some (.ref (He.ga K "SIDES"))
  g_LeafError : mg "LeafError" = some (.ref (He.ga K "LeafError"))
  g_BadBar : mg "BadBar" = some (.ref (He.ga K "BadBar"))
  g_BadPlace : mg "BadPlace" = some (.ref (He.ga K "BadPlace"))
  g_BadDesk : mg "BadDesk" = some (.ref (He.ga K "BadDesk"))
  g_BadRepeats : mg "BadRepeats" = some (.ref (He.ga K "BadRepeats"))
  g_Full : mg "Full" = some (.ref (He.ga K "Full"))
  cl_Part : Cls K (He.ga K "Part")
  mk_Part : Mk K (He.ga K "Part") (He.fAd K ("Part", some "__init__"))
  n_row : NoAttr K (He.ga K "Part") "row"
  n_past : NoAttr K (He.ga K "Part") "past"
  m_Part_init : Meth K (He.ga K "Part") "__init__" (He.fAd K ("Part", some "__init__"))
  m_Part_len : Meth K (He.ga K "Part") "__len__" (He.fAd K ("Part", some "__len__"))
  m_Part_eq : Meth K (He.ga K "Part") "__eq__" (He.fAd K ("Part", some "__eq__"))
  m_Part_str : Meth K (He.ga K "Part") "__str__" (He.fAd K ("Part", some "__str__"))
  m_Part_bars : Meth K (He.ga K "Part") "bars" (He.fAd K ("Part", some "bars"))
  m_Part_ahead : Meth K (He.ga K "Part") "ahead" (He.fAd K ("Part", some "ahead"))
  m_Part_behind : Meth K (He.ga K "Part") "behind" (He.fAd K ("Part", some "behind"))
  m_Part_rest : Meth K (He.ga K "Part") "rest" (He.fAd K ("Part", some "rest"))
  m_Part_wide : Meth K (He.ga K "Part") "wide" (He.fAd K ("Part", some "wide"))
  k_class : PySem.W.findIn K (.ref (He.ga K "Part")) "__class__" = some (some (.builtin "object.__class__"))
  k_get : PySem.W.specialIn K (.builtin "object.__class__") "__get__" = some (some (.builtin "getset_descriptor.__get__"))
  k_takes : PySem.W.takesIn K (.builtin "object.__class__") = some true
  k_mro : PySem.W.mroIn K (He.ga K "Part") (.type "object") = some true
  k_self : PySem.W.kitOne K (.ref (He.ga K "Part")) (.ref (He.ga K "Part")) = some true
  k_NoneType : PySem.W.kitOne K (.type "NoneType") (.ref (He.ga K "Part")) = some false
  k_bool : PySem.W.kitOne K (.type "bool") (.ref (He.ga K "Part")) = some false
  k_int : PySem.W.kitOne K (.type "int") (.ref (He.ga K "Part")) = some false
  k_str : PySem.W.kitOne K (.type "str") (.ref (He.ga K "Part")) = some false
  k_list : PySem.W.kitOne K (.type "list") (.ref (He.ga K "Part")) = some false
  k_tuple : PySem.W.kitOne K (.type "tuple") (.ref (He.ga K "Part")) = some false
  k_nolist : PySem.W.kitOne K (.ref (He.ga K "Part")) (.type "list") = some false
  k_notuple : PySem.W.kitOne K (.ref (He.ga K "Part")) (.type "tuple") = some false
  k_noint : PySem.W.kitOne K (.ref (He.ga K "Part")) (.type "int") = some false
  k_nobool : PySem.W.kitOne K (.ref (He.ga K "Part")) (.type "bool") = some false
  k_nostr : PySem.W.kitOne K (.ref (He.ga K "Part")) (.type "str") = some false
  k_ne : PySem.W.findIn K (.ref (He.ga K "Part")) "__ne__" = some (some (.builtin "object.__ne__"))
  k_first_NoneType : PySem.W.notFirst K (He.ga K "Part") (.type "NoneType") = true
  k_first_bool : PySem.W.notFirst K (He.ga K "Part") (.type "bool") = true
  k_first_int : PySem.W.notFirst K (He.ga K "Part") (.type "int") = true
  k_first_str : PySem.W.notFirst K (He.ga K "Part") (.type "str") = true
  k_first_list : PySem.W.notFirst K (He.ga K "Part") (.type "list") = true
  k_first_tuple : PySem.W.notFirst K (He.ga K "Part") (.type "tuple") = true
  g_Part : mg "Part" = some (.ref (He.ga K "Part"))
  t_SIDES : tupIs K (He.ga K "SIDES") [.str "left", .str "right"] = true
def ex (K : PySem.W.Frag) : Bool := exs.all fun f => f K
theorem exAt {K : PySem.W.Frag} (h : ex K = true) (i : Nat) {f : PySem.W.Frag → Bool} (e : exs[i]? = some f) : f K = true := List.all_eq_true.mp h f (List.mem_of_getElem? e)
theorem txt_of {tf : List He.Defn} {w : World} {h h0 : Heap} {K : PySem.W.Frag} {mg : Str → Option Value} (X : K.In h) (G : h.Ns mainGlobals mg) (c : He.SaysX fa fn [] tf ex w h0 K) : Txt K mg := ⟨df_of (c.t.d.defs (d := dd_is_number) (by simp [fn, fn_0])),
  df_of (c.t.d.defs (d := dd_is_bar) (by simp [fn, fn_0])),
  df_of (c.t.d.defs (d := dd_beats_of) (by simp [fn, fn_0])),
  df_of (c.t.d.defs (d := dd_Part_init) (by simp [fn, fn_0])),
  df_of (c.t.d.defs (d := dd_Part_len) (by simp [fn, fn_0])),
  df_of (c.t.d.defs (d := dd_Part_eq) (by simp [fn, fn_0])),
  df_of (c.t.d.defs (d := dd_Part_str) (by simp [fn, fn_0])),
  df_of (c.t.d.defs (d := dd_Part_bars) (by simp [fn, fn_0])),
  df_of (c.t.d.defs (d := dd_Part_ahead) (by simp [fn, fn_0])),
  df_of (c.t.d.defs (d := dd_Part_behind) (by simp [fn, fn_0])),
  df_of (c.t.d.defs (d := dd_Part_rest) (by simp [fn, fn_0])),
  df_of (c.t.d.defs (d := dd_Part_wide) (by simp [fn, fn_0])),
  df_of (c.t.d.defs (d := dd_need_desk) (by simp [fn, fn_0])),
  df_of (c.t.d.defs (d := dd_is_right) (by simp [fn, fn_0])),
  df_of (c.t.d.defs (d := dd_page_with) (by simp [fn, fn_0])),
  df_of (c.t.d.defs (d := dd_may_turn) (by simp [fn, fn_0])),
  df_of (c.t.d.defs (d := dd_steps) (by simp [fn, fn_0])),
  df_of (c.t.d.defs (d := dd_begin_of) (by simp [fn, fn_0])),
  df_of (c.t.d.defs (d := dd_reached) (by simp [fn, fn_0])),
  df_of (c.t.d.defs (d := dd_best_from) (by simp [fn, fn_0])),
  df_of (c.t.d.defs (d := dd_fewest) (by simp [fn, fn_0])),
  df_of (c.t.d.defs (d := dd_need_repeats) (by simp [fn, fn_0])),
  df_of (c.t.d.defs (d := dd_order_of) (by simp [fn, fn_0])),
  df_of (c.t.d.defs (d := dd_turned) (by simp [fn, fn_0])),
  df_of (c.t.d.defs (d := dd_has_time) (by simp [fn, fn_0])),
  df_of (c.t.d.defs (d := dd_fewest_for) (by simp [fn, fn_1])),
  df_of (c.t.d.defs (d := dd__law_cell) (by simp [fn, fn_1])),
  df_of (c.t.d.defs (d := dd__law_drawn) (by simp [fn, fn_1])),
  df_of (c.t.d.defs (d := dd__law_roll) (by simp [fn, fn_1])),
  df_of (c.t.d.defs (d := dd__law_rounds) (by simp [fn, fn_1])),
  df_of (c.t.d.defs (d := dd__law_bar) (by simp [fn, fn_1])),
  df_of (c.t.d.defs (d := dd__law_row) (by simp [fn, fn_1])),
  df_of (c.t.d.defs (d := dd__law_stand) (by simp [fn, fn_1])),
  df_of (c.t.d.defs (d := dd__law_run) (by simp [fn, fn_1])),
  df_of (c.t.d.defs (d := dd__law_rest) (by simp [fn, fn_1])),
  df_of (c.t.d.defs (d := dd__law_width) (by simp [fn, fn_1])),
  df_of (c.t.d.defs (d := dd__law_side) (by simp [fn, fn_1])),
  df_of (c.t.d.defs (d := dd__law_steps) (by simp [fn, fn_1])),
  df_of (c.t.d.defs (d := dd__law_first) (by simp [fn, fn_1])),
  df_of (c.t.d.defs (d := dd__law_repeats) (by simp [fn, fn_1])),
  df_of (c.t.d.defs (d := dd__law_order) (by simp [fn, fn_1])),
  df_of (c.t.d.defs (d := dd__law_leaves) (by simp [fn, fn_1])),
  df_of (c.t.d.defs (d := dd__law_plays) (by simp [fn, fn_1])),
  df_of (c.t.d.defs (d := dd__law_all) (by simp [fn, fn_1])),
  df_of (c.t.d.defs (d := dd_law) (by simp [fn, fn_1])),
  He.glo_ok X G (c.t.d.facts (f := .glo "is_number") (by simp [fa, fa_0])),
  He.glo_ok X G (c.t.d.facts (f := .glo "is_bar") (by simp [fa, fa_0])),
  He.glo_ok X G (c.t.d.facts (f := .glo "beats_of") (by simp [fa, fa_0])),
  He.glo_ok X G (c.t.d.facts (f := .glo "need_desk") (by simp [fa, fa_0])),
  He.glo_ok X G (c.t.d.facts (f := .glo "is_right") (by simp [fa, fa_0])),
  He.glo_ok X G (c.t.d.facts (f := .glo "page_with") (by simp [fa, fa_0])),
  He.glo_ok X G (c.t.d.facts (f := .glo "may_turn") (by simp [fa, fa_0])),
  He.glo_ok X G (c.t.d.facts (f := .glo "steps") (by simp [fa, fa_0])),
  He.glo_ok X G (c.t.d.facts (f := .glo "begin_of") (by simp [fa, fa_0])),
  He.glo_ok X G (c.t.d.facts (f := .glo "reached") (by simp [fa, fa_0])),
  He.glo_ok X G (c.t.d.facts (f := .glo "best_from") (by simp [fa, fa_0])),
  He.glo_ok X G (c.t.d.facts (f := .glo "fewest") (by simp [fa, fa_0])),
  He.glo_ok X G (c.t.d.facts (f := .glo "need_repeats") (by simp [fa, fa_0])),
  He.glo_ok X G (c.t.d.facts (f := .glo "order_of") (by simp [fa, fa_0])),
  He.glo_ok X G (c.t.d.facts (f := .glo "turned") (by simp [fa, fa_0])),
  He.glo_ok X G (c.t.d.facts (f := .glo "has_time") (by simp [fa, fa_0])),
  He.glo_ok X G (c.t.d.facts (f := .glo "fewest_for") (by simp [fa, fa_0])),
  He.glo_ok X G (c.t.d.facts (f := .glo "_law_cell") (by simp [fa, fa_0])),
  He.glo_ok X G (c.t.d.facts (f := .glo "_law_drawn") (by simp [fa, fa_0])),
  He.glo_ok X G (c.t.d.facts (f := .glo "_law_roll") (by simp [fa, fa_0])),
  He.glo_ok X G (c.t.d.facts (f := .glo "_law_rounds") (by simp [fa, fa_0])),
  He.glo_ok X G (c.t.d.facts (f := .glo "_law_bar") (by simp [fa, fa_0])),
  He.glo_ok X G (c.t.d.facts (f := .glo "_law_row") (by simp [fa, fa_0])),
  He.glo_ok X G (c.t.d.facts (f := .glo "_law_stand") (by simp [fa, fa_0])),
  He.glo_ok X G (c.t.d.facts (f := .glo "_law_run") (by simp [fa, fa_0])),
  He.glo_ok X G (c.t.d.facts (f := .glo "_law_rest") (by simp [fa, fa_1])),
  He.glo_ok X G (c.t.d.facts (f := .glo "_law_width") (by simp [fa, fa_1])),
  He.glo_ok X G (c.t.d.facts (f := .glo "_law_side") (by simp [fa, fa_1])),
  He.glo_ok X G (c.t.d.facts (f := .glo "_law_steps") (by simp [fa, fa_1])),
  He.glo_ok X G (c.t.d.facts (f := .glo "_law_first") (by simp [fa, fa_1])),
  He.glo_ok X G (c.t.d.facts (f := .glo "_law_repeats") (by simp [fa, fa_1])),
  He.glo_ok X G (c.t.d.facts (f := .glo "_law_order") (by simp [fa, fa_1])),
  He.glo_ok X G (c.t.d.facts (f := .glo "_law_leaves") (by simp [fa, fa_1])),
  He.glo_ok X G (c.t.d.facts (f := .glo "_law_plays") (by simp [fa, fa_1])),
  He.glo_ok X G (c.t.d.facts (f := .glo "_law_all") (by simp [fa, fa_1])),
  He.glo_ok X G (c.t.d.facts (f := .glo "law") (by simp [fa, fa_1])),
  He.free_ok X G (c.t.d.facts (f := .free "len") (by simp [fa, fa_1])),
  He.free_ok X G (c.t.d.facts (f := .free "isinstance") (by simp [fa, fa_1])),
  He.free_ok X G (c.t.d.facts (f := .free "range") (by simp [fa, fa_1])),
  He.free_ok X G (c.t.d.facts (f := .free "list") (by simp [fa, fa_1])),
  He.free_ok X G (c.t.d.facts (f := .free "all") (by simp [fa, fa_1])),
  He.free_ok X G (c.t.d.facts (f := .free "int") (by simp [fa, fa_1])),
  He.free_ok X G (c.t.d.facts (f := .free "bool") (by simp [fa, fa_1])),
  He.free_ok X G (c.t.d.facts (f := .free "str") (by simp [fa, fa_1])),
  He.free_ok X G (c.t.d.facts (f := .free "tuple") (by simp [fa, fa_1])),
  He.free_ok X G (c.t.d.facts (f := .free "max") (by simp [fa, fa_1])),
  He.free_ok X G (c.t.d.facts (f := .free "min") (by simp [fa, fa_1])),
  He.free_ok X G (c.t.d.facts (f := .free "sum") (by simp [fa, fa_1])),
  He.free_ok X G (c.t.d.facts (f := .free "sorted") (by simp [fa, fa_1])),
  He.free_ok X G (c.t.d.facts (f := .free "zip") (by simp [fa, fa_1])),
  He.free_ok X G (c.t.d.facts (f := .free "enumerate") (by simp [fa, fa_2])),
  He.free_ok X G (c.t.d.facts (f := .free "ValueError") (by simp [fa, fa_2])),
  He.int_ok X G (c.t.d.facts (f := .int "MOST" 40) (by simp [fa, fa_2])),
  He.glo_ok X G (c.t.d.facts (f := .glo "SIDES") (by simp [fa, fa_2])),
  He.glo_ok X G (c.t.d.facts (f := .glo "LeafError") (by simp [fa, fa_2])),
  He.glo_ok X G (c.t.d.facts (f := .glo "BadBar") (by simp [fa, fa_2])),
  He.glo_ok X G (c.t.d.facts (f := .glo "BadPlace") (by simp [fa, fa_2])),
  He.glo_ok X G (c.t.d.facts (f := .glo "BadDesk") (by simp [fa, fa_2])),
  He.glo_ok X G (c.t.d.facts (f := .glo "BadRepeats") (by simp [fa, fa_2])),
  He.glo_ok X G (c.t.d.facts (f := .glo "Full") (by simp [fa, fa_2])),
  He.cls_ok (c.t.d.facts (f := .cls "Part") (by simp [fa, fa_2])),
  He.mkr_ok (c.t.d.facts (f := .mkr "Part") (by simp [fa, fa_2])),
  He.noat_ok (c.t.d.facts (f := .noat "Part" "row") (by simp [fa, fa_2])),
  He.noat_ok (c.t.d.facts (f := .noat "Part" "past") (by simp [fa, fa_2])),
  He.meth_ok (c.t.d.facts (f := .meth "Part" "__init__") (by simp [fa, fa_2])),
  He.meth_ok (c.t.d.facts (f := .meth "Part" "__len__") (by simp [fa, fa_2])),
  He.meth_ok (c.t.d.facts (f := .meth "Part" "__eq__") (by simp [fa, fa_2])),
  He.meth_ok (c.t.d.facts (f := .meth "Part" "__str__") (by simp [fa, fa_2])),
  He.meth_ok (c.t.d.facts (f := .meth "Part" "bars") (by simp [fa, fa_2])),
  He.meth_ok (c.t.d.facts (f := .meth "Part" "ahead") (by simp [fa, fa_2])),
  He.meth_ok (c.t.d.facts (f := .meth "Part" "behind") (by simp [fa, fa_2])),
  He.meth_ok (c.t.d.facts (f := .meth "Part" "rest") (by simp [fa, fa_2])),
  He.meth_ok (c.t.d.facts (f := .meth "Part" "wide") (by simp [fa, fa_2])),
  He.eqO_ok (exAt c.more 0 rfl),
  He.eqO_ok (exAt c.more 1 rfl),
  of_decide_eq_true (exAt c.more 2 rfl),
  of_decide_eq_true (exAt c.more 3 rfl),
  of_decide_eq_true (exAt c.more 4 rfl),
  of_decide_eq_true (exAt c.more 5 rfl),
  of_decide_eq_true (exAt c.more 6 rfl),
  of_decide_eq_true (exAt c.more 7 rfl),
  of_decide_eq_true (exAt c.more 8 rfl),
  of_decide_eq_true (exAt c.more 9 rfl),
  of_decide_eq_true (exAt c.more 10 rfl),
  of_decide_eq_true (exAt c.more 11 rfl),
  of_decide_eq_true (exAt c.more 12 rfl),
  of_decide_eq_true (exAt c.more 13 rfl),
  of_decide_eq_true (exAt c.more 14 rfl),
  of_decide_eq_true (exAt c.more 15 rfl),
  He.eqO_ok (exAt c.more 16 rfl),
  (exAt c.more 17 rfl),
  (exAt c.more 18 rfl),
  (exAt c.more 19 rfl),
  (exAt c.more 20 rfl),
  (exAt c.more 21 rfl),
  (exAt c.more 22 rfl),
  He.glo_ok X G (c.t.d.facts (f := .glo "Part") (by simp [fa, fa_2])),
  (exAt c.more 23 rfl)⟩
/-! ### bars -/
structure Bar where
  w : Int
  b : Int
  r : Bool
  deriving DecidableEq
def barD (x : Bar) : PyData := .tuple [.int x.w, .int x.b, .bool x.r]
def barV (x : Bar) : List V := [.int x.w, .int x.b, .bl x.r]
def BarOk (x : Bar) : Prop := 1 ≤ x.w ∧ x.w ≤ 40 ∧ 1 ≤ x.b ∧ x.b ≤ 16
abbrev barsD (bs : List Bar) : List PyData := bs.map barD
theorem isT_bar (x : Bar) : isT (barD x) = true := rfl
theorem isTs_bars : ∀ bs : List Bar, isTs (barsD bs) = true
  | [] => rfl
  | x :: r => by
    show (isT (barD x) && isTs (barsD r)) = true
    rw [isTs_bars r]
    rfl
section
variable {K : PySem.W.Frag} {H H' : Hp}
theorem dp_bar {v : V} {x : Bar} (h : Dp K H v (barD x)) : ∃ p, v = .ref p ∧ SqT K H p (barV x) := by
  cases h with
  | tup s a =>
    cases a with
    | cons d0 r =>
      cases r with
      | cons d1 r =>
        cases r with
        | cons d2 r =>
          cases r
          cases d0
          cases d1
          cases d2
          exact ⟨_, rfl, s⟩
theorem dp_bar_of {p : Addr} {x : Bar} (h : SqT K H p (barV x)) : Dp K H (.ref p) (barD x) := .tup h (.cons (.int _) (.cons (.int _) (.cons (.bl _) .nil)))
theorem bar_at {vs : List V} {bs : List Bar} {i : Nat} {v : V} (h : DpAll K H vs (barsD bs)) (e : vs[i]? = some v) : ∃ x p, bs[i]? = some x ∧ v = .ref p ∧ SqT K H p (barV x) := by
  obtain ⟨d, e1, hd⟩ := dpa_at h e
  rw [List.getElem?_map] at e1
  cases q : bs[i]? with
  | none =>
    rw [q] at e1
    cases e1
  | some x =>
    rw [q] at e1
    have e2 : barD x = d := Option.some.inj e1
    subst e2
    obtain ⟨p, rfl, s⟩ := dp_bar hd
    exact ⟨x, p, rfl, rfl, s⟩
/-- a list of bars at an address -/
def RowAt (K : PySem.W.Frag) (H : Hp) (r : Addr) (bs : List Bar) : Prop := ∃ vs, H r = some (.lst vs) ∧ DpAll K H vs (barsD bs)
theorem RowAt.dp {r : Addr} {bs : List Bar} (h : RowAt K H r bs) : Dp K H (.ref r) (.list (barsD bs)) := by
  obtain ⟨vs, e, a⟩ := h
  exact .lst (.of e) a
theorem RowAt.same {r : Addr} {bs : List Bar} (h : RowAt K H r bs) (s : Same H H') : RowAt K H' r bs := by
  obtain ⟨vs, e, a⟩ := h
  exact ⟨vs, s _ _ e, dpa_same s a⟩
theorem RowAt.fr {ds : List Addr} {r : Addr} {bs : List Bar} (h : RowAt K H r bs) (s : Fr ds H H') (n : r ∉ ds) : RowAt K H' r bs := by
  obtain ⟨vs, e, a⟩ := h
  exact ⟨vs, s.keep _ _ n e, s.dpa a (isTs_bars bs)⟩
theorem lst_bars {a : Addr} {bs : List Bar} (h : Dp K H (.ref a) (.list (barsD bs))) : ∃ vs, SqL K H a vs ∧ DpAll K H vs (barsD bs) := by
  cases h with
  | lst s d => exact ⟨_, s, d⟩
theorem bars_len {vs : List V} {bs : List Bar} (h : DpAll K H vs (barsD bs)) : vs.length = bs.length := by
  rw [dpa_len h, List.length_map]
end
/-- the beats of the first bars, as long as they rest -/
def beatsOf : List Bar → Int
  | [] => 0
  | x :: r => if x.r = true then x.b + beatsOf r else 0
def restOf (bs : List Bar) (k : Nat) : Int := beatsOf (bs.take k).reverse + beatsOf (bs.drop k)
theorem drop_at {α : Type} {l : List α} {i : Nat} {x : α} (h : l[i]? = some x) : l.drop i = x :: l.drop (i + 1) := by
  obtain ⟨hi, e⟩ := List.getElem?_eq_some_iff.mp h
  rw [List.drop_eq_getElem_cons hi, e]
theorem take_at {α : Type} {l : List α} {i : Nat} {x : α} (h : l[i]? = some x) : l.take (i + 1) = l.take i ++ [x] := by
  rw [List.take_add_one, h]
  rfl
/-! ### parts -/
abbrev pC (K : PySem.W.Frag) : Addr := He.ga K "Part"
def pf (r q : Addr) : List (Str × V) := [("row", .ref r), ("past", .ref q)]
theorem pf_row {r q : Addr} : (pf r q).lookup ("row" : Str) = some (.ref r) := rfl
theorem pf_past {r q : Addr} : (pf r q).lookup ("past" : Str) = some (.ref q) := by
  show (match (("past" : Str) == ("row" : Str)) with | true => some (V.ref r) | false => ([("past", .ref q)] : List (Str × V)).lookup ("past" : Str)) = some (.ref q)
  rw [show (("past" : Str) == ("row" : Str)) = false by decide +kernel]
  rfl
theorem pf_no {r q : Addr} {x : Str} (h1 : (x == ("row" : Str)) = false) (h2 : (x == ("past" : Str)) = false) : (pf r q).lookup x = none := by
  show (match (x == ("row" : Str)) with | true => some (V.ref r) | false => (match (x == ("past" : Str)) with | true => some (V.ref q) | false => none)) = none
  rw [h1, h2]
theorem pf_len {r q : Addr} : (pf r q).length < 1000 := by
  show (2 : Nat) < 1000
  decide
theorem put_row {r q r' : Addr} : putF ("row" : Str) (.ref r') (pf r q) = pf r' q := rfl
section
variable {K : PySem.W.Frag} {H H' : Hp}
def Rows (K : PySem.W.Frag) (H : Hp) (q : Addr) : List V → List (List Bar) → Prop := Paired fun v bs => ∃ r, v = .ref r ∧ r ≠ q ∧ RowAt K H r bs
/-- the part at p: its bars, what it was (its list at q) -/
def PartX (K : PySem.W.Frag) (H : Hp) (p q : Addr) (bs : List Bar) (past : List (List Bar)) : Prop :=
  ∃ dx r ws, H p = some (.ins (pC K) dx (pf r q)) ∧ r ≠ q ∧ RowAt K H r bs ∧ H q = some (.lst ws) ∧ Rows K H q ws past
theorem Rows.imp {q : Addr} {ws : List V} {past : List (List Bar)} (h : Rows K H q ws past) (f : ∀ r bs, r ≠ q → RowAt K H r bs → RowAt K H' r bs) : Rows K H' q ws past :=
  Paired.mapP h fun v bs ⟨r, e, n, z⟩ => ⟨r, e, n, f r bs n z⟩
theorem Rows.snoc {q : Addr} {r : Addr} {bs : List Bar} : ∀ {ws : List V} {past : List (List Bar)}, Rows K H q ws past → r ≠ q → RowAt K H r bs → Rows K H q (ws ++ [.ref r]) (past ++ [bs])
  | _, _, .nil, n, h => .cons ⟨r, rfl, n, h⟩ .nil
  | _, _, .cons a t, n, h => .cons a (Rows.snoc t n h)
theorem Rows.len {q : Addr} {ws : List V} {past : List (List Bar)} (h : Rows K H q ws past) : ws.length = past.length := Paired.length h
theorem PartX.same {p q : Addr} {bs : List Bar} {past : List (List Bar)} (h : PartX K H p q bs past) (s : Same H H') : PartX K H' p q bs past := by
  obtain ⟨dx, r, ws, h1, n, h2, h3, h4⟩ := h
  exact ⟨dx, r, ws, s _ _ h1, n, h2.same s, s _ _ h3, h4.imp fun _ _ _ z => z.same s⟩
/-- a die -/
def Dice (H : Hp) (d : Addr) : Prop := ∃ a b : Int, H d = some (.lst [.int a, .int b])
theorem RowAt.ne_dice {r d : Addr} {bs : List Bar} (h : RowAt K H r bs) (hd : Dice H d) : r ≠ d := by
  obtain ⟨vs, e, a⟩ := h
  obtain ⟨i, j, e2⟩ := hd
  intro z
  subst z
  rw [e] at e2
  injection e2 with e3
  injection e3 with e4
  subst e4
  cases bs with
  | nil => cases a
  | cons b r =>
    cases a with
    | cons d _ => cases d
theorem PartX.fr {p q d : Addr} {bs : List Bar} {past : List (List Bar)} (h : PartX K H p q bs past) (hd : Dice H d) (s : Fr [d] H H') : PartX K H' p q bs past := by
  obtain ⟨dx, r, ws, h1, n, h2, h3, h4⟩ := h
  obtain ⟨i, j, e2⟩ := id hd
  have np : p ≠ d := ne_of h1 e2 (by intro z; cases z)
  have nq : q ≠ d := by
    intro z
    subst z
    rw [h3] at e2
    injection e2 with e3
    injection e3 with e4
    subst e4
    cases h4 with
    | cons a _ =>
      obtain ⟨r, e, _⟩ := a
      cases e
  exact ⟨dx, r, ws, s.keep _ _ (by simp [np]) h1, n, h2.fr s (by simp [h2.ne_dice hd]), s.keep _ _ (by simp [nq]) h3, h4.imp fun r bs _ z => z.fr s (by simp [z.ne_dice hd])⟩
theorem Fr.step {ds es : List Addr} {H0 H1 H2 : Hp} (a : Fr ds H0 H1) (b : Fr es H1 H2) (h : ∀ e ∈ es, H0 e = none ∨ e ∈ ds) : Fr ds H0 H2 := by
  refine ⟨fun c o n e => b.keep c o (fun z => ?_) (a.keep c o n e), fun c xs e => b.tu c xs (a.tu c xs e), fun c o u e => b.fz c o u (a.fz c o u e)⟩
  rcases h c z with q | q
  · rw [q] at e
    cases e
  · exact n q
end
theorem cut_take {xs : List V} {k : Nat} : cutV xs none (some (k : Int)) = xs.take k := by
  unfold cutV
  rw [HT.sIx_none, HT.sIx_nat]
  show (xs.drop 0).take (min k xs.length - 0) = xs.take k
  rw [List.drop_zero, Nat.sub_zero, List.take_eq_take_min]
  all_goals simp
theorem cut_drop {xs : List V} {k : Nat} : cutV xs (some (k : Int)) none = xs.drop k := by
  unfold cutV
  rw [HT.sIx_none, HT.sIx_nat]
  by_cases h : k ≤ xs.length
  · rw [Nat.min_eq_left h, List.take_of_length_le (by rw [List.length_drop]; omega)]
  · rw [Nat.min_eq_right (by omega), List.drop_length, List.drop_eq_nil_of_le (by omega)]
    exact List.take_nil
theorem sc_is_number : FnScope ["thing", "low", "high"] ["thing", "low", "high"] (defScope s_is_number) := ⟨rfl, rfl, rfl, by decide +kernel, rfl, by decide +kernel, by decide +kernel⟩
section
variable {K : PySem.W.Frag} {mg : Str → Option Value}
theorem b_is_number (T : Txt K mg) : Binds K (fdOf K ("is_number", none)) ["thing", "low", "high"] [] := T.is_number.bindsN fun _ _ _ _ _ _ us hl => match us, hl with | [_, _, _], _ => rfl
end
/-- a whole number between -/
def isNum : PyData → Int → Int → Bool
  | .int i, lo, hi => decide (lo ≤ i) && decide (i ≤ hi)
  | _, _, _ => false
def sp_is_number (K : PySem.W.Frag) : Sp := fun vs H Q _ => ∃ (x : V) (d : PyData) (lo hi : Int), vs = [x, .int lo, .int hi] ∧ Dp K H x d ∧ Q (.bl (isNum d lo hi)) H
theorem ok_is_number {P : Program} {w : World} {K : PySem.W.Frag} {mg : Str → Option Value} {base : Heap} (T : Txt K mg) : OkF P w K mg base CX0 1 ("is_number", none) ["thing", "low", "high"] (sp_is_number K) := by
  refine okN T.is_number sc_is_number (fun vs H Q E h => ?_) (fun cdv A outer s H vs Q E hr h => ?_)
  · obtain ⟨x, d, lo, hi, rfl, _⟩ := h
    rfl
  · obtain ⟨x, d, lo, hi, rfl, hd, q⟩ := h
    refine ⟨_, (pss_one (ps_ret (pe_and (pe_callB call_isi (by rfl) T.b_isinstance (by decide +kernel) (pa_cons (pv 0) (pa_cons (pe_bltn (v := .ty "int") (by rfl) T.b_int (by decide +kernel) rfl) pa_nil))) (pe_and (pe_not (pe_callB call_isi (by rfl) T.b_isinstance (by decide +kernel) (pa_cons (pv 0) (pa_cons (pe_bltn (v := .ty "bool") (by rfl) T.b_bool (by decide +kernel) rfl) pa_nil)))) (pe_one (pe_chain op_le op_le (pv 1) (pv 0) (pv 2))))))), ?_⟩
    refine ⟨_, rfl, _, _, _, _, _, rfl, .ty _, dp_ty hd, kit_int d, _, rfl, ?_⟩
    cases d with
    | int i =>
      cases hd
      refine iteT ⟨_, rfl, _, _, _, _, _, rfl, .ty _, dp_ty (.int i), kit_bool (.int i), _, rfl, _, rfl, iteT ⟨_, rfl, _, rfl, _, _, rfl, rfl, _, rfl, ?_⟩⟩
      replace q : Q (.bl (decide (lo ≤ i) && decide (i ≤ hi))) H := q
      refine ite2 (fun h => ?_) (fun h => ?_)
      · rw [h] at q
        exact ⟨_, rfl, _, _, rfl, rfl, q⟩
      · rw [Bool.eq_false_iff.mpr h] at q
        exact q
    | bool b =>
      cases hd
      exact iteT ⟨_, rfl, _, _, _, _, _, rfl, .ty _, dp_ty (.bl b), kit_bool (.bool b), _, rfl, _, rfl, iteF q⟩
    | _ => exact iteF q
theorem sc_is_bar : FnScope ["thing"] ["thing"] (defScope s_is_bar) := ⟨rfl, rfl, rfl, by decide +kernel, rfl, by decide +kernel, by decide +kernel⟩
section
variable {K : PySem.W.Frag} {mg : Str → Option Value}
theorem b_is_bar (T : Txt K mg) : Binds K (fdOf K ("is_bar", none)) ["thing"] [] := T.is_bar.bindsN fun _ _ _ _ _ _ us hl => match us, hl with | [_], _ => rfl
end
def isBar : PyData → Bool
  | .tuple [a, b, .bool _] => isNum a 1 40 && isNum b 1 16
  | _ => false
theorem isBar_len {ds : List PyData} (h : ds.length ≠ 3) : isBar (.tuple ds) = false := by
  unfold isBar
  split
  · rename_i e
    injection e with e
    subst e
    exact absurd rfl h
  · rfl
theorem isBar_bar {x : Bar} (h : BarOk x) : isBar (barD x) = true := by
  obtain ⟨h1, h2, h3, h4⟩ := h
  show ((decide (1 ≤ x.w) && decide (x.w ≤ 40)) && (decide (1 ≤ x.b) && decide (x.b ≤ 16))) = true
  rw [decide_eq_true h1, decide_eq_true h2, decide_eq_true h3, decide_eq_true h4]
  rfl
def sp_is_bar (K : PySem.W.Frag) : Sp := fun vs H Q _ => ∃ (x : V) (d : PyData), vs = [x] ∧ Dp K H x d ∧ Q (.bl (isBar d)) H
theorem ok_is_bar {P : Program} {w : World} {K : PySem.W.Frag} {mg : Str → Option Value} {base : Heap} (T : Txt K mg) : OkF P w K mg base CX0 2 ("is_bar", none) ["thing"] (sp_is_bar K) := by
  refine okN T.is_bar sc_is_bar (fun vs H Q E h => ?_) (fun cdv A outer s H vs Q E hr h => ?_)
  · obtain ⟨x, d, rfl, _⟩ := h
    rfl
  · obtain ⟨x, d, rfl, hd, q⟩ := h
    refine ⟨_, (pss_cons (ps_if (PW.pt (pw_or (pt_not (pt_val (pe_callB call_isi (by rfl) T.b_isinstance (by decide +kernel) (pa_cons (pv 0) (pa_cons (pe_bltn (v := .ty "tuple") (by rfl) T.b_tuple (by decide +kernel) rfl) pa_nil))))) (pw_or (pt_cmpR op_ne (pe_callB call_len (by rfl) T.b_len PySem.boot_len (pa_cons (pv 0) pa_nil)) pe_int (nomark _)) (pw_or1 (pt_not (pt_val (pe_callB call_isi (by rfl) T.b_isinstance (by decide +kernel) (pa_cons (pe_ix ix_tup (pv 0) pe_int (fun _ _ => rfl)) (pa_cons (pe_bltn (v := .ty "bool") (by rfl) T.b_bool (by decide +kernel) rfl) pa_nil))))))))) (pss_one (ps_ret pe_bl)) pss_nil)
      (pss_one (ps_ret (pe_and (pe_call (ok_is_number T) (hr.mono (by decide)) (by rfl) T.g_is_number T.is_number.kp (b_is_number T) .nil pass0 (pa_cons (pe_ix ix_tup (pv 0) pe_int (fun _ _ => rfl)) (pa_cons pe_int (pa_cons pe_int pa_nil)))) (pe_one (pe_call (ok_is_number T) (hr.mono (by decide)) (by rfl) T.g_is_number T.is_number.kp (b_is_number T) .nil pass0 (pa_cons (pe_ix ix_tup (pv 0) pe_int (fun _ _ => rfl)) (pa_cons pe_int (pa_cons pe_int pa_nil))))))))), ?_⟩
    refine ⟨_, rfl, _, _, _, _, _, rfl, .ty _, dp_ty hd, kit_tup d, _, rfl, ?_⟩
    cases d with
    | tuple ds =>
      cases hd with
      | tup hs ha =>
        refine iteF ⟨_, rfl, _, _, rfl, .inr ⟨_, hs, rfl⟩, rfl, _, rfl, ?_⟩
        by_cases hl : ds.length = 3
        · obtain ⟨d0, d1, d2, rfl⟩ := len3 hl
          obtain ⟨v0, v1, v2, rfl, h0, h1, h2⟩ := dpa3 ha
          refine iteNNQ rfl ⟨_, rfl, _, _, _, _, rfl, rfl, hs, rfl, _, _, _, _, _, rfl, .ty _, dp_ty h2, kit_bool d2, _, rfl, ?_⟩
          cases d2 with
          | bool r =>
            refine iteF ⟨_, rfl, _, _, _, _, rfl, rfl, hs, rfl, _, d0, _, _, rfl, h0, _, rfl, ?_⟩
            replace q : Q (.bl (isNum d0 1 40 && isNum d1 1 16)) H := q
            refine ite2 (fun e => ?_) (fun e => ?_)
            · rw [e] at q
              exact ⟨_, rfl, _, _, _, _, rfl, rfl, hs, rfl, _, d1, _, _, rfl, h1, q⟩
            · rw [Bool.eq_false_iff.mpr e] at q
              exact q
          | _ => exact iteT q
        · rw [isBar_len hl] at q
          exact iteNEQ (by rw [dpa_len ha]; omega) q
    | _ => exact iteT q
theorem sc_Part_init : FnScope ["self", "bars", "one"] ["self", "bars"] (defScope s_Part_init) := ⟨rfl, rfl, rfl, by decide +kernel, rfl, by decide +kernel, by decide +kernel⟩
section
variable {K : PySem.W.Frag} {mg : Str → Option Value}
theorem b1_Part (T : Txt K mg) : Binds K (fdOf K ("Part", some "__init__")) ["self", "bars"] [] := by
  obtain ⟨ds, v, b⟩ := T.Part_init.binds1 (ps := ["self", "bars"]) 2 1 (by simp) rfl fun T kV doc pm an cdv ct us its h1 h2 => match us, its, h1, h2 with | [_, _], [_], _, _ => ⟨_, rfl, rfl⟩
  cases v
  exact b
theorem b0_Part (T : Txt K mg) : ∃ ds, Vals [.non] ds ∧ Binds K (fdOf K ("Part", some "__init__")) ["self", "bars"] ds :=
  T.Part_init.binds1 (ps := ["self", "bars"]) 1 0 (by simp) rfl fun T kV doc pm an cdv ct us its h1 h2 => match us, its, h1, h2 with | [_], [_], _, _ => ⟨_, rfl, rfl⟩
end
def sp_Part_init (K : PySem.W.Frag) : Sp := fun vs H Q _ => ∃ (x dx : Addr) (v : V) (bs : List Bar), vs = [.ref x, v] ∧ H x = some (.ins (pC K) dx []) ∧ (v = .non ∧ bs = [] ∨ ∃ a, v = .ref a ∧ Dp K H (.ref a) (.list (barsD bs))) ∧ (∀ b ∈ bs, BarOk b) ∧ bs.length ≤ 40 ∧
  ∀ H' q, Fr [x] H H' → H q = none → PartX K H' x q bs [] → Q .non H'
theorem isBars : ∀ {bs : List Bar}, (∀ b ∈ bs, BarOk b) → (bs.map fun b => isBar (barD b)).all id = true
  | [], _ => rfl
  | x :: r, h => by
    show (isBar (barD x) && ((r.map fun b => isBar (barD b)).all id)) = true
    rw [isBar_bar (h x List.mem_cons_self), isBars fun b hb => h b (List.mem_cons_of_mem _ hb)]
    rfl
theorem ok_Part_init {P : Program} {w : World} {K : PySem.W.Frag} {mg : Str → Option Value} {base : Heap} (T : Txt K mg) : OkF P w K mg base CX0 3 ("Part", some "__init__") ["self", "bars"] (sp_Part_init K) := by
  refine okN T.Part_init sc_Part_init (fun vs H Q E h => ?_) (fun cdv A outer s H vs Q E hr h => ?_)
  · obtain ⟨x, dx, v, bs, rfl, _⟩ := h
    rfl
  · obtain ⟨x, dx, v, bs, rfl, hx, hv, ok, hl, z⟩ := h
    refine ⟨_, (pss_cons (ps_if (PW.pt (pw_and (pt_cmp (pc_notN (pv 1))) (pw_and1 (PW.pt (pw_or (pt_not (pt_val (pe_callB call_isi (by rfl) T.b_isinstance (by decide +kernel) (pa_cons (pv 1) (pa_cons (pe_bltn (v := .ty "list") (by rfl) T.b_list (by decide +kernel) rfl) pa_nil))))) (pw_or1 (pt_not (pt_val (pe_callB (cr_all rfl) (by rfl) T.b_all (by decide +kernel) (pa_cons (pe_lc (own := [("one", 2)]) (g := (gName 2)) (tt := tYes) (by rfl) sc_Part_init.nd (pi_list (pv 1)) (blkOk_by (own := [("one", 2)]) (N := ["self", "bars", "one"]) (sc := defScope s_Part_init) (by decide +kernel)) (fun _ _ _ _ _ => (pg_name (i := 2) sc_Part_init.nd rfl (by first | exact Or.inl rfl | exact Or.inr rfl))) (fun _ _ _ _ _ => pts_nil) (fun _ _ _ _ _ => (pe_call (ok_is_bar T) (hr.mono (by decide)) (by rfl) T.g_is_bar T.is_bar.kp (b_is_bar T) .nil pass0 (pa_cons (pv 2) pa_nil)))) pa_nil)))))))))) pss_never pss_nil)
      (pss_cons (ps_fld (pv 0) (pe_ifExp (pt_cmp (pc_notN (pv 1))) (pe_callTy call_list_of (by rfl) T.b_list (by decide +kernel) (pa_cons (pv 1) pa_nil)) (pe_lst pa_nil)) rfl)
      (pss_cons (ps_if (pt_cmpR op_gt (pe_callB call_len (by rfl) T.b_len PySem.boot_len (pa_cons (pe_fld (pv 0) rfl) pa_nil)) (pe_glob (v := .int 40) (by rfl) T.c_MOST.choose_spec ⟨_, rfl⟩) (nomark _)) pss_never pss_nil)
      (pss_one (ps_fld (pv 0) (pe_lst pa_nil) rfl))))), ?_⟩
    -- what follows the row's store
    have tail : ∀ (H1 : Hp) (r : Addr) (vs : List V), Fr [x] H H1 → H1 x = some (.ins (pC K) dx []) → H r = none → H1 r = some (.lst vs) → DpAll K H1 vs (barsD bs) →
        ∀ (H2 : Hp), H2 = upd H1 x (.ins (pC K) dx [("row", .ref r)]) → (H2 x = some (.ins (pC K) dx [("row", .ref r)]) ∧ H2 r = some (.lst vs) ∧ Fr [x] H H2 ∧ DpAll K H2 vs (barsD bs)) := by
      intro H1 r vs f h1 nr h2 h3 H2 e
      subst e
      have f2 : Fr [x] H1 (upd H1 x (.ins (pC K) dx [("row", .ref r)])) := Fr.upd h1 trivial (by simp)
      refine ⟨upd_same, ?_, f.trans f2, f2.dpa h3 (isTs_bars bs)⟩
      rw [upd_ne (ne_of h2 h1 (by intro z; cases z))]
      exact h2
    have fin : ∀ (H2 : Hp) (r q : Addr) (vs : List V), H2 x = some (.ins (pC K) dx [("row", .ref r)]) → H2 r = some (.lst vs) → Fr [x] H H2 → DpAll K H2 vs (barsD bs) → H2 q = none →
        Q .non (upd (upd H2 q (.lst [])) x (.ins (pC K) dx (pf r q))) := by
      intro H2 r q vs h1 h2 f h3 nq
      have s : Same H2 (upd H2 q (.lst [])) := same_upd nq
      have nqx : x ≠ q := ne_of_none h1 nq
      have nqr : r ≠ q := ne_of_none h2 nq
      have h1' : (upd H2 q (.lst [])) x = some (.ins (pC K) dx [("row", .ref r)]) := s _ _ h1
      have f2 : Fr [x] (upd H2 q (.lst [])) (upd (upd H2 q (.lst [])) x (.ins (pC K) dx (pf r q))) := Fr.upd h1' trivial (by simp)
      have f3 := (f.trans (Fr.of s _)).trans f2
      have nq0 : H q = none := by
        cases e : H q with
        | none => rfl
        | some o =>
          have := f.keep q o (by simp [nqx.symm]) e
          rw [nq] at this
          cases this
      refine z _ q f3 nq0 ⟨dx, r, [], upd_same, nqr, ⟨vs, ?_, f2.dpa (dpa_same s h3) (isTs_bars bs)⟩, ?_, .nil⟩
      · rw [upd_ne (ne_of (s _ _ h2) h1' (by intro z; cases z))]
        exact s _ _ h2
      · rw [upd_ne nqx.symm, upd_same]
    rcases hv with ⟨rfl, rfl⟩ | ⟨a, rfl, hd⟩
    · refine ⟨_, rfl, _, rfl, ?_⟩
      refine iteF ⟨_, rfl, _, rfl, iteF ⟨by decide, fun r nr => ?_⟩⟩
      have s : Same H (upd H r (.lst [])) := same_upd nr
      refine ⟨_, rfl, x, _, dx, _, rfl, s _ _ hx, T.cl_Part, T.n_row, by decide, ?_⟩
      obtain ⟨h1, h2, h3, h4⟩ := tail _ r [] (Fr.of s _) (s _ _ hx) nr upd_same .nil _ rfl
      refine ⟨_, rfl, x, _, dx, _, _, rfl, h1, T.cl_Part, T.n_row, rfl, _, _, rfl, .inl ⟨_, .of h2, rfl⟩, _, _, rfl, rfl, _, rfl, iteN (by decide) ?_⟩
      exact ⟨by decide, fun q nq => ⟨_, rfl, x, _, dx, [("row", .ref r)], rfl, by rw [upd_ne (ne_of_none h1 nq)]; exact h1, T.cl_Part, T.n_past, by show (1 : Nat) < 1000; decide, fin _ r q [] h1 h2 h3 h4 nq⟩⟩
    · obtain ⟨vs, hs, ha⟩ := lst_bars hd
      refine ⟨_, rfl, _, rfl, ?_⟩
      refine iteT ⟨_, rfl, _, _, _, _, _, rfl, .ty _, dp_ty hd, kit_lst _, _, rfl, iteF ?_⟩
      refine ⟨_, rfl, a, rfl, ⟨_, hs⟩, fun D hD => lc_list (K := K) (a := a) (xs := vs) (fun i H' => Same H H' ∧ H' D = some (.lst (((bs.take i).map fun b => isBar (barD b)).map V.bl))) ⟨same_upd hD, ?_⟩ ?_ ?_ ?_⟩
      · rw [upd_same]
        rfl
      · rintro i H' _ ⟨s, _⟩
        exact s.seq hs
      · rintro i v H' hv ⟨s, e⟩
        obtain ⟨b, p, hb, rfl, hp⟩ := bar_at ha hv
        refine ⟨rfl, _, rfl, _, _, rfl, dp_bar_of (same_sqt s hp), _, e, ?_, ?_, ?_⟩
        · rw [List.length_map, List.length_map, List.length_take]
          exact small1000 (by omega)
        · exact same_updR s hD
        · rw [upd_same, take_at hb, List.map_append, List.map_append]
          rfl
      · rintro H1 ⟨s1, e1⟩
        rw [bars_len ha, List.take_length] at e1
        refine ⟨D, _, rfl, .of e1, _, rfl, ?_⟩
        rw [isBars ok]
        refine iteF ⟨_, rfl, _, rfl, iteT ⟨_, rfl, a, vs, rfl, .inl (s1.seq hs), fun r nr => ?_⟩⟩
        have s2 := s1.trans (same_upd (o := .lst vs) nr)
        refine ⟨_, rfl, x, _, dx, _, rfl, s2 _ _ hx, T.cl_Part, T.n_row, by decide, ?_⟩
        obtain ⟨h1, h2, h3, h4⟩ := tail _ r vs (Fr.of s2 _) (s2 _ _ hx) (s1.free nr) upd_same (dpa_same s2 ha) _ rfl
        refine ⟨_, rfl, x, _, dx, _, _, rfl, h1, T.cl_Part, T.n_row, rfl, _, _, rfl, .inl ⟨_, .of h2, rfl⟩, _, _, rfl, rfl, _, rfl, iteN (by rw [bars_len ha]; omega) ?_⟩
        exact ⟨by decide, fun q nq => ⟨_, rfl, x, _, dx, [("row", .ref r)], rfl, by rw [upd_ne (ne_of_none h1 nq)]; exact h1, T.cl_Part, T.n_past, by show (1 : Nat) < 1000; decide, fin _ r q vs h1 h2 h3 h4 nq⟩⟩
/-! ### the shape of data -/
def Shp (n : Nat) (d : PyData) : Prop := d.canLay0 = true ∧ d.depth ≤ n
def ShpA (n : Nat) (ds : List PyData) : Prop := PyData.canLayAll0 ds = true ∧ PyData.depthAll ds ≤ n
theorem shpA_nil {n : Nat} : ShpA n [] := ⟨by simp [PyData.canLayAll0], by simp [PyData.depthAll]⟩
theorem shpA_cons {n : Nat} {d : PyData} {ds : List PyData} (h : Shp n d) (t : ShpA n ds) : ShpA n (d :: ds) := by
  refine ⟨?_, ?_⟩
  · simp only [PyData.canLayAll0, h.1, t.1, Bool.and_self]
  · simp only [PyData.depthAll]
    exact Nat.max_le.mpr ⟨h.2, t.2⟩
theorem shpA_all {n : Nat} : ∀ {ds : List PyData}, (∀ d ∈ ds, Shp n d) → ShpA n ds
  | [], _ => shpA_nil
  | d :: ds, h => shpA_cons (h d List.mem_cons_self) (shpA_all fun e he => h e (List.mem_cons_of_mem _ he))
theorem shp_list {n : Nat} {ds : List PyData} (h : ShpA n ds) : Shp (n + 1) (.list ds) := ⟨by simp only [PyData.canLay0]; exact h.1, by simp only [PyData.depth]; exact Nat.succ_le_succ h.2⟩
theorem shp_tup {n : Nat} {ds : List PyData} (h : ShpA n ds) : Shp (n + 1) (.tuple ds) := ⟨by simp only [PyData.canLay0]; exact h.1, by simp only [PyData.depth]; exact Nat.succ_le_succ h.2⟩
theorem shp_int {n : Nat} (i : Int) : Shp n (.int i) := ⟨by simp [PyData.canLay0], by simp [PyData.depth]⟩
theorem shp_bool {n : Nat} (b : Bool) : Shp n (.bool b) := ⟨by simp [PyData.canLay0], by simp [PyData.depth]⟩
theorem shp_none {n : Nat} : Shp n .none := ⟨by simp [PyData.canLay0], by simp [PyData.depth]⟩
theorem shp_str {n : Nat} {x : Str} (h : PyData.strOk x = true) : Shp n (.str x) := ⟨by simp only [PyData.canLay0]; exact h, by simp [PyData.depth]⟩
theorem Shp.ok {n : Nat} {d : PyData} (h : Shp n d) (hn : n ≤ 64) : SeqAt.shaped d = true := by
  unfold SeqAt.shaped
  rw [h.1, decide_eq_true (Nat.le_trans h.2 hn)]
  rfl
theorem Shp.mono {n m : Nat} {d : PyData} (h : Shp n d) (hn : n ≤ m) : Shp m d := ⟨h.1, Nat.le_trans h.2 hn⟩
theorem ShpA.mono {n m : Nat} {ds : List PyData} (h : ShpA n ds) (hn : n ≤ m) : ShpA m ds := ⟨h.1, Nat.le_trans h.2 hn⟩
/-! ### == of lists by their items -/
theorem eqvAll_map {α : Type} {f : α → PyData} (hf : ∀ a b : α, PyData.eqv (f a) (f b) = true ↔ a = b) : ∀ xs ys : List α, PyData.eqvAll (xs.map f) (ys.map f) = true ↔ xs = ys
  | [], [] => by simp [PyData.eqvAll]
  | [], _ :: _ => by simp [PyData.eqvAll]
  | _ :: _, [] => by simp [PyData.eqvAll]
  | x :: xs, y :: ys => by
    simp only [List.map_cons, PyData.eqvAll, Bool.and_eq_true, hf x y, eqvAll_map hf xs ys, List.cons.injEq]
theorem eqv_listM {α : Type} {f : α → PyData} (hf : ∀ a b : α, PyData.eqv (f a) (f b) = true ↔ a = b) (xs ys : List α) : PyData.eqv (.list (xs.map f)) (.list (ys.map f)) = true ↔ xs = ys := by
  simp only [PyData.eqv]
  exact eqvAll_map hf xs ys
theorem eqv_tupM {α : Type} {f : α → PyData} (hf : ∀ a b : α, PyData.eqv (f a) (f b) = true ↔ a = b) (xs ys : List α) : PyData.eqv (.tuple (xs.map f)) (.tuple (ys.map f)) = true ↔ xs = ys := by
  simp only [PyData.eqv]
  exact eqvAll_map hf xs ys
theorem eqv_int (i j : Int) : PyData.eqv (.int i) (.int j) = true ↔ i = j := by simp [PyData.eqv]
theorem eqv_nil {xs : List PyData} : PyData.eqv (.list xs) (.list []) = true ↔ xs = [] := by
  cases xs <;> simp [PyData.eqv, PyData.eqvAll]
theorem dpa_ints {K : PySem.W.Frag} {H : Hp} : ∀ ns : List Int, DpAll K H (ns.map V.int) (ns.map PyData.int)
  | [] => .nil
  | n :: r => .cons (.int n) (dpa_ints r)
theorem shp_ints (ns : List Int) : Shp 1 (.list (ns.map PyData.int)) := shp_list (shpA_all fun d hd => by
  obtain ⟨i, _, rfl⟩ := List.mem_map.mp hd
  exact shp_int i)
theorem shp_nil {n : Nat} : Shp (n + 1) (.list []) := shp_list shpA_nil
theorem sc__law_cell : FnScope ["script", "k"] ["script", "k"] (defScope s__law_cell) := ⟨rfl, rfl, rfl, by decide +kernel, rfl, by decide +kernel, by decide +kernel⟩
section
variable {K : PySem.W.Frag} {mg : Str → Option Value}
theorem b__law_cell (T : Txt K mg) : Binds K (fdOf K ("_law_cell", none)) ["script", "k"] [] := T._law_cell.bindsN fun _ _ _ _ _ _ us hl => match us, hl with | [_, _], _ => rfl
end
def sp__law_cell (K : PySem.W.Frag) : Sp := fun vs H Q _ => ∃ (a : Addr) (ns : List Int) (k : Nat), vs = [.ref a, .int (k : Int)] ∧ SqL K H a (ns.map V.int) ∧ ns.length ≤ 63 ∧ k ≤ 1000 ∧ ∀ H' i, Same H H' → Q (.int i) H'
theorem ok__law_cell {P : Program} {w : World} {K : PySem.W.Frag} {mg : Str → Option Value} {base : Heap} (T : Txt K mg) : OkF P w K mg base CX0 1 ("_law_cell", none) ["script", "k"] (sp__law_cell K) := by
  refine okN T._law_cell sc__law_cell (fun vs H Q E h => ?_) (fun cdv A outer s H vs Q E hr h => ?_)
  · obtain ⟨a, ns, k, rfl, _⟩ := h
    rfl
  · obtain ⟨a, ns, k, rfl, hs, hl, hk, z⟩ := h
    refine ⟨_, (pss_cons (ps_if (pt_cmpR (op_eqD hr.units) (pv 0) (pe_lst pa_nil) (nomark _)) (pss_one (ps_ret (pe_op op_mul (pv 1) pe_int))) pss_nil)
      (pss_one (ps_ret (pe_op op_add (pe_ix ix_list (pv 0) (pe_op op_mod (pv 1) (pe_callB call_len (by rfl) T.b_len PySem.boot_len (pa_cons (pv 0) pa_nil))) (fun _ _ => rfl)) (pe_op op_mul (pe_op op_fdiv (pv 1) (pe_callB call_len (by rfl) T.b_len PySem.boot_len (pa_cons (pv 0) pa_nil))) pe_int))))), ?_⟩
    refine ⟨_, rfl, by decide, fun e ne => ?_⟩
    have s1 : Same H (upd H e (.lst [])) := same_upd ne
    refine ⟨_, _, .lst (s1.seq hs) (dpa_ints ns), .lst (.of upd_same) .nil, (shp_ints ns).ok (by decide), (shp_nil (n := 0)).ok (by decide), _, rfl, ?_⟩
    refine ite2 (fun h => ?_) (fun h => ?_)
    · exact ⟨_, rfl, _, _, rfl, rfl, .inr ⟨by decide, by decide⟩, z _ _ s1⟩
    · have hn : ns ≠ [] := fun e => h (eqv_nil.mpr (by rw [e]; rfl))
      have hpos : 0 < ns.length := List.length_pos_iff.mpr hn
      have hb := Int.emod_nonneg (k : Int) (b := (ns.length : Int)) (by omega)
      have hb2 := Int.emod_lt_of_pos (k : Int) (b := (ns.length : Int)) (by omega)
      have hi : ((k : Int) % (ns.length : Int)).toNat < ns.length := by omega
      refine ⟨_, rfl, _, rfl, _, rfl, _, _, rfl, .inl ⟨_, s1.seq hs, rfl⟩, _, _, rfl, rfl, by rw [List.length_map]; omega, ?_⟩
      rw [List.length_map]
      refine ⟨a, _, _, .int ns[((k : Int) % (ns.length : Int)).toNat], rfl, rfl, s1.seq hs, at_of (j := ((k : Int) % (ns.length : Int)).toNat) (by omega) (by rw [List.getElem?_map, List.getElem?_eq_getElem hi]; rfl), ?_⟩
      refine ⟨_, rfl, _, rfl, _, _, rfl, .inl ⟨_, s1.seq hs, rfl⟩, _, _, rfl, rfl, ⟨by rw [List.length_map]; omega, by rw [List.length_map]; omega⟩, ?_⟩
      exact ⟨_, _, rfl, rfl, .inr ⟨by decide, by decide⟩, _, _, rfl, rfl, z _ _ s1⟩
theorem sc__law_rounds : FnScope ["script", "most", "k"] ["script", "most"] (defScope s__law_rounds) := ⟨rfl, rfl, rfl, by decide +kernel, rfl, by decide +kernel, by decide +kernel⟩
section
variable {K : PySem.W.Frag} {mg : Str → Option Value}
theorem b__law_rounds (T : Txt K mg) : Binds K (fdOf K ("_law_rounds", none)) ["script", "most"] [] := T._law_rounds.bindsN fun _ _ _ _ _ _ us hl => match us, hl with | [_, _], _ => rfl
end
def sp__law_rounds (K : PySem.W.Frag) : Sp := fun vs H Q _ => ∃ (a : Addr) (ns : List Int) (most : Nat), vs = [.ref a, .int (most : Int)] ∧ SqL K H a (ns.map V.int) ∧ ns.length ≤ 63 ∧ most ≤ 1000 ∧
  ∀ H' (R : Addr) (ds : List Addr), Same H H' → H R = none → H' R = some (.lst (ds.map V.ref)) → (∀ d ∈ ds, Dice H' d ∧ d ≠ R) → ds.length ≤ 1000 → Q (.ref R) H'
theorem ok__law_rounds {P : Program} {w : World} {K : PySem.W.Frag} {mg : Str → Option Value} {base : Heap} (T : Txt K mg) : OkF P w K mg base CX0 2 ("_law_rounds", none) ["script", "most"] (sp__law_rounds K) := by
  refine okN T._law_rounds sc__law_rounds (fun vs H Q E h => ?_) (fun cdv A outer s H vs Q E hr h => ?_)
  · obtain ⟨a, ns, most, rfl, _⟩ := h
    rfl
  · obtain ⟨a, ns, most, rfl, hs, hl, hm, z⟩ := h
    refine ⟨_, (pss_one (ps_ret (pe_lc (own := [("k", 2)]) (g := (gName 2)) (tt := tYes) (by rfl) sc__law_rounds.nd (pi_range1 (by rfl) T.b_range (pa_cons (pe_callB (call_max2 rfl) (by rfl) T.b_max (by decide +kernel) (pa_cons pe_int (pa_cons (pe_callB (call_min2 rfl) (by rfl) T.b_min (by decide +kernel) (pa_cons (pv 1) (pa_cons (pe_callB call_len (by rfl) T.b_len PySem.boot_len (pa_cons (pv 0) pa_nil)) pa_nil))) pa_nil))) pa_nil)) (blkOk_by (own := [("k", 2)]) (N := ["script", "most", "k"]) (sc := defScope s__law_rounds) (by decide +kernel)) (fun _ _ _ _ _ => (pg_name (i := 2) sc__law_rounds.nd rfl (by first | exact Or.inl rfl | exact Or.inr rfl))) (fun _ _ _ _ _ => pts_nil) (fun _ _ _ _ _ => (pe_lst (pa_cons (pe_call (ok__law_cell T) (hr.mono (by decide)) (by rfl) T.g__law_cell T._law_cell.kp (b__law_cell T) .nil pass0 (pa_cons (pv 0) (pa_cons (pv 2) pa_nil))) (pa_cons pe_int pa_nil))))))), ?_⟩
    refine ⟨_, rfl, _, rfl, _, _, rfl, .inl ⟨_, hs, rfl⟩, _, _, rfl, _, _, rfl, _, rfl, ?_⟩
    rw [List.length_map]
    have hb : ∃ n : Nat, (if (if (ns.length : Int) < (most : Int) then (ns.length : Int) else (most : Int)) > 1 then (if (ns.length : Int) < (most : Int) then (ns.length : Int) else (most : Int)) else 1) = (n : Int) ∧ n ≤ 1000 := by
      by_cases h1 : (ns.length : Int) < (most : Int)
      · rw [if_pos h1]
        by_cases h2 : (ns.length : Int) > 1
        · exact ⟨ns.length, if_pos h2, by omega⟩
        · exact ⟨1, if_neg h2, by omega⟩
      · rw [if_neg h1]
        by_cases h2 : (most : Int) > 1
        · exact ⟨most, if_pos h2, by omega⟩
        · exact ⟨1, if_neg h2, by omega⟩
    obtain ⟨n, en, hn⟩ := hb
    rw [en]
    refine ⟨by omega, by omega, fun D hD => lc_range (lo := 0) (n := n) (fun i H' => Same H H' ∧ ∃ ds : List Addr, H' D = some (.lst (ds.map V.ref)) ∧ ds.length = i ∧ ∀ d ∈ ds, Dice H' d ∧ d ≠ D) ⟨same_upd hD, [], upd_same, rfl, fun _ h => nomatch h⟩ ?_ ?_⟩
    · rintro i H1 hi ⟨s1, ds, e1, hlen, hds⟩
      refine ⟨rfl, _, rfl, _, rfl, a, ns, i, ?_, s1.seq hs, hl, by omega, fun H2 c s2 => ⟨by show (2 : Nat) ≤ sizeLine; decide, fun d nd => ?_⟩⟩
      · show [V.ref a, V.int (0 + (i : Int))] = [V.ref a, V.int (i : Int)]
        rw [Int.zero_add]
      have s3 := s2.trans (same_upd (o := .lst [.int c, .int 0]) nd)
      have e3 := s3 _ _ e1
      refine ⟨_, e3, ?_, ?_, ds ++ [d], ?_, ?_, ?_⟩
      · rw [List.length_map]
        exact small1000 (by omega)
      · exact same_updR (s1.trans s3) hD
      · rw [upd_same, List.map_append]
        rfl
      · rw [List.length_append, hlen]
        rfl
      · intro x hx
        have nD : d ≠ D := fun e => by
          rw [e] at nd
          rw [s2 _ _ e1] at nd
          cases nd
        rcases List.mem_append.mp hx with hx | hx
        · obtain ⟨⟨p, q, hp⟩, nx⟩ := hds x hx
          exact ⟨⟨p, q, by rw [upd_ne nx]; exact s3 _ _ hp⟩, nx⟩
        · have ex : x = d := by simpa using hx
          subst ex
          exact ⟨⟨c, 0, by rw [upd_ne nD, upd_same]⟩, nD⟩
    · rintro H1 ⟨s1, ds, e1, hlen, hds⟩
      exact z H1 D ds s1 hD e1 hds (by omega)
theorem sc__law_drawn : FnScope ["cell", "k", "more"] ["cell", "k"] (defScope s__law_drawn) := ⟨rfl, rfl, rfl, by decide +kernel, rfl, by decide +kernel, by decide +kernel⟩
section
variable {K : PySem.W.Frag} {mg : Str → Option Value}
theorem b__law_drawn (T : Txt K mg) : Binds K (fdOf K ("_law_drawn", none)) ["cell", "k"] [] := T._law_drawn.bindsN fun _ _ _ _ _ _ us hl => match us, hl with | [_, _], _ => rfl
end
theorem mod_abs {x M : Int} {a : Nat} (h : 0 < M) (hM : M.natAbs < 2 ^ a) : (x % M).natAbs < 2 ^ a := by
  have h1 := Int.emod_nonneg x (b := M) (by omega)
  have h2 := Int.emod_lt_of_pos x h
  exact Nat.lt_of_le_of_lt (by omega) hM
theorem mod1_abs {x M : Int} {a : Nat} (h : 0 < M) (hM : M.natAbs < 2 ^ a) : (x % M + 1).natAbs < 2 ^ a := by
  have h1 := Int.emod_nonneg x (b := M) (by omega)
  have h2 := Int.emod_lt_of_pos x h
  exact Nat.lt_of_le_of_lt (by omega) hM
theorem div1_abs {x M P : Int} {a : Nat} (h : 0 < M) (hP : 0 < P) (hM : M.natAbs < 2 ^ a) : (x % M / P + 1).natAbs < 2 ^ a := by
  have h1 := Int.emod_nonneg x (b := M) (by omega)
  have h2 := Int.emod_lt_of_pos x h
  have h3 : 0 ≤ x % M / P := Int.ediv_nonneg h1 (by omega)
  have h4 : x % M / P ≤ x % M := Int.ediv_le_self P h1
  exact Nat.lt_of_le_of_lt (by omega) hM
def sp__law_drawn : Sp := fun vs H Q _ => ∃ c k : Int, vs = [.int c, .int k] ∧ ∀ r : Int, Q (.int r) H
theorem ok__law_drawn {P : Program} {w : World} {K : PySem.W.Frag} {mg : Str → Option Value} {base : Heap} (T : Txt K mg) : OkF P w K mg base CX0 1 ("_law_drawn", none) ["cell", "k"] sp__law_drawn := by
  refine okN T._law_drawn sc__law_drawn (fun vs H Q E h => ?_) (fun cdv A outer s H vs Q E hr h => ?_)
  · obtain ⟨c, k, rfl, _⟩ := h
    rfl
  · obtain ⟨c, k, rfl, z⟩ := h
    refine ⟨_, (pss_cons (ps_set (i := 2) sc__law_drawn.nd rfl (by first | exact Or.inl rfl | exact Or.inr rfl) (pe_op op_mod (pe_op op_add (pe_op op_mul (pv 0) pe_int) (pe_op op_mul (pe_op op_add (pv 1) pe_int) pe_int)) pe_int))
      (pss_cons (ps_set (i := 2) sc__law_drawn.nd rfl (by first | exact Or.inl rfl | exact Or.inr rfl) (pe_op op_mod (pe_op op_mulW (pv 2) (pv 2)) pe_int))
      (pss_cons (ps_set (i := 2) sc__law_drawn.nd rfl (by first | exact Or.inl rfl | exact Or.inr rfl) (pe_op op_mulW (pe_op op_mulW (pe_op op_add (pe_op op_mod (pv 2) pe_int) pe_int) (pe_op op_add (pe_op op_fdivW (pv 2) pe_int) pe_int)) (pv 2)))
      (pss_one (ps_ret (pe_op op_mod (pv 2) pe_int)))))), ?_⟩
    refine ⟨_, rfl, _, _, rfl, rfl, .inr ⟨by decide, by decide⟩, _, rfl, _, _, rfl, rfl, _, _, rfl, rfl, .inr ⟨by decide, by decide⟩, _, _, rfl, rfl, _, _, rfl, rfl, (by show (0 : Int) < 340282366920938463463374607431768211507; decide), ?_⟩
    refine ⟨_, rfl, _, rfl, _, _, rfl, rfl, wide_mul (a := 129) (b := 129) (mod_abs (by decide) (by decide)) (mod_abs (by decide) (by decide)) (by decide) (by decide) (by decide), _, _, rfl, rfl, (by show (0 : Int) < 340282366920938463463374607431768211297; decide), ?_⟩
    refine ⟨_, rfl, _, _, rfl, rfl, (by show (0 : Int) < 18446744073709551557; decide), _, _, rfl, rfl, _, rfl, _, _, rfl, rfl, ⟨by decide, by decide +kernel⟩, _, _, rfl, rfl, _, _, rfl, rfl, ?_, ?_⟩
    · exact wide_mul (a := 129) (b := 129) (mod1_abs (by decide) (by decide)) (div1_abs (by decide) (by decide) (by decide)) (by decide) (by decide) (by decide)
    · refine ⟨_, rfl, _, _, rfl, rfl, wide_mul (a := 258) (b := 129) (wide_lt (a := 129) (b := 129) (mod1_abs (by decide) (by decide)) (div1_abs (by decide) (by decide) (by decide))) (mod_abs (by decide) (by decide)) (by decide) (by decide) (by decide), ?_⟩
      exact ⟨_, rfl, _, _, rfl, rfl, (by show (0 : Int) < 340282366920938463463374607431768211507; decide), z _⟩
theorem sc__law_roll : FnScope ["dice", "many", "told"] ["dice", "many"] (defScope s__law_roll) := ⟨rfl, rfl, rfl, by decide +kernel, rfl, by decide +kernel, by decide +kernel⟩
section
variable {K : PySem.W.Frag} {mg : Str → Option Value}
theorem b__law_roll (T : Txt K mg) : Binds K (fdOf K ("_law_roll", none)) ["dice", "many"] [] := T._law_roll.bindsN fun _ _ _ _ _ _ us hl => match us, hl with | [_, _], _ => rfl
end
def sp__law_roll : Sp := fun vs H Q _ => ∃ (d : Addr) (many : Int), vs = [.ref d, .int many] ∧ Dice H d ∧ 0 < many ∧ many < 1073741824 ∧ ∀ H' (r : Int), Fr [d] H H' → Dice H' d → 0 ≤ r → r < many → Q (.int r) H'
theorem ok__law_roll {P : Program} {w : World} {K : PySem.W.Frag} {mg : Str → Option Value} {base : Heap} (T : Txt K mg) : OkF P w K mg base CX0 2 ("_law_roll", none) ["dice", "many"] sp__law_roll := by
  refine okN T._law_roll sc__law_roll (fun vs H Q E h => ?_) (fun cdv A outer s H vs Q E hr h => ?_)
  · obtain ⟨d, many, rfl, _⟩ := h
    rfl
  · obtain ⟨d, many, rfl, ⟨a, b, hd⟩, h1, h2, z⟩ := h
    refine ⟨_, (pss_cons (ps_if (pt_cmpR op_ge (pe_ix ix_list (pv 0) pe_int (fun _ _ => rfl)) (pe_op op_pow pe_int pe_int) (nomark _)) (pss_cons (ps_set (i := 2) sc__law_roll.nd rfl (by first | exact Or.inl rfl | exact Or.inr rfl) (pe_op op_mod (pe_ix ix_list (pv 0) pe_int (fun _ _ => rfl)) (pv 1)))
      (pss_cons (ps_asg (pe_op op_fdiv (pe_ix ix_list (pv 0) pe_int (fun _ _ => rfl)) (pv 1)) (pg_sub (pv 0) pe_int set_list))
      (pss_one (ps_ret (pv 2))))) pss_nil)
      (pss_cons (ps_asg (pe_op op_add (pe_ix ix_list (pv 0) pe_int (fun _ _ => rfl)) pe_int) (pg_sub (pv 0) pe_int set_list))
      (pss_one (ps_ret (pe_op op_mod (pe_op op_fdiv (pe_call (ok__law_drawn T) (hr.mono (by decide)) (by rfl) T.g__law_drawn T._law_drawn.kp (b__law_drawn T) .nil pass0 (pa_cons (pe_ix ix_list (pv 0) pe_int (fun _ _ => rfl)) (pa_cons (pe_ix ix_list (pv 0) pe_int (fun _ _ => rfl)) pa_nil))) pe_int) (pv 1)))))), ?_⟩
    refine ⟨_, rfl, d, _, _, _, rfl, rfl, .of hd, rfl, _, _, rfl, rfl, ⟨by decide, by decide, by decide⟩, _, _, rfl, rfl, _, rfl, ?_⟩
    refine ite2 (fun h => ?_) (fun h => ?_)
    · refine ⟨_, rfl, d, _, _, _, rfl, rfl, .of hd, rfl, _, rfl, _, _, rfl, rfl, h1, ?_⟩
      refine ⟨_, rfl, d, _, _, _, rfl, rfl, .of hd, rfl, _, rfl, _, _, rfl, rfl, ⟨h1, h2⟩, _, rfl, d, _, _, 0, rfl, rfl, hd, rfl, ?_⟩
      exact ⟨_, rfl, z _ _ (Fr.upd hd trivial (by simp)) ⟨_, _, upd_same⟩ (Int.emod_nonneg _ (by omega)) (Int.emod_lt_of_pos _ h1)⟩
    · refine ⟨_, rfl, d, _, _, _, rfl, rfl, .of hd, rfl, _, _, rfl, rfl, _, rfl, d, _, _, 1, rfl, rfl, hd, rfl, ?_⟩
      refine ⟨_, rfl, d, _, _, _, rfl, rfl, .of upd_same, rfl, _, rfl, d, _, _, _, rfl, rfl, .of upd_same, rfl, _, _, rfl, fun r => ?_⟩
      exact ⟨_, _, rfl, rfl, ⟨by decide, by decide⟩, _, rfl, _, _, rfl, rfl, h1, z _ _ (Fr.upd hd trivial (by simp)) ⟨_, _, upd_same⟩ (Int.emod_nonneg _ (by omega)) (Int.emod_lt_of_pos _ h1)⟩
def sp_law (K : PySem.W.Frag) : Sp := fun vs H Q _ => ∃ (a : Addr) (ns : List Int), vs = [.ref a] ∧ SqL K H a (ns.map V.int) ∧ ns.length ≤ 63 ∧ ∀ H', Q (.bl true) H'
/-- the dice of all rounds -/
def Rnd (H : Hp) (R : Addr) (ds : List Addr) : Prop := H R = some (.lst (ds.map V.ref)) ∧ ∀ d ∈ ds, Dice H d ∧ d ≠ R
theorem Rnd.turn {H0 H1 : Hp} {R d : Addr} {ds : List Addr} (h : Rnd H0 R ds) (hd : d ∈ ds) (f : Fr [d] H0 H1) (hd1 : Dice H1 d) : Rnd H1 R ds := by
  obtain ⟨h1, h2⟩ := h
  refine ⟨f.keep _ _ (by simp [(h2 d hd).2.symm]) h1, fun x hx => ⟨?_, (h2 x hx).2⟩⟩
  by_cases e : x = d
  · rw [e]
    exact hd1
  · obtain ⟨⟨a, b, z⟩, _⟩ := h2 x hx
    exact ⟨a, b, f.keep _ _ (by simp [e]) z⟩
theorem Rnd.at {H : Hp} {R : Addr} {ds : List Addr} (h : Rnd H R ds) {i : Nat} {v : V} (e : (ds.map V.ref)[i]? = some v) : ∃ d, v = .ref d ∧ d ∈ ds ∧ Dice H d := by
  rw [List.getElem?_map] at e
  cases q : ds[i]? with
  | none =>
    rw [q] at e
    cases e
  | some d =>
    rw [q] at e
    exact ⟨d, (Option.some.inj e).symm, List.mem_of_getElem? q, (h.2 d (List.mem_of_getElem? q)).1⟩
theorem Dice.fr {H H' : Hp} {d x : Addr} (h : Dice H x) (f : Fr [d] H H') (n : x ≠ d) : Dice H' x := by
  obtain ⟨a, b, z⟩ := h
  exact ⟨a, b, f.keep _ _ (by simp [n]) z⟩
theorem Dice.same {H H' : Hp} {d : Addr} (h : Dice H d) (s : Same H H') : Dice H' d := by
  obtain ⟨a, b, z⟩ := h
  exact ⟨a, b, s _ _ z⟩
theorem Fr.then {ds : List Addr} {H0 H1 H2 : Hp} (a : Fr ds H0 H1) (s : Same H1 H2) : Fr ds H0 H2 := a.trans (Fr.of s ds)
theorem Dice.keep {H H' : Hp} {d : Addr} {es : List Addr} (h : Dice H d) (f : Fr es H H') (n : d ∉ es) : Dice H' d := by
  obtain ⟨a, b, z⟩ := h
  exact ⟨a, b, f.keep _ _ n z⟩
/-- a new part -/
theorem make_part {K : PySem.W.Frag} {H : Hp} {v : V} {bs : List Bar} {Q : Addr → Hp → Prop} (hv : v = .non ∧ bs = [] ∨ ∃ a, v = .ref a ∧ Dp K H (.ref a) (.list (barsD bs))) (ok : ∀ b ∈ bs, BarOk b) (hl : bs.length ≤ 40)
    (k : ∀ H' p q, Same H H' → H p = none → H q = none → p ≠ q → PartX K H' p q bs [] → Q p H') :
    ∀ x dx, H x = none → H dx = none → dx ≠ x → sp_Part_init K [.ref x, v] (upd (upd H dx (.own x)) x (.ins (pC K) dx [])) (fun v H2 => v = .non ∧ Q x H2) E0 := by
  intro x dx nx nd ne
  have s : Same H (upd (upd H dx (.own x)) x (.ins (pC K) dx [])) := fun b o e => by
    rw [upd_ne (ne_of_none e nx), upd_ne (ne_of_none e nd)]
    exact e
  refine ⟨x, dx, v, bs, rfl, upd_same, ?_, ok, hl, fun H' q f nq hp => ?_⟩
  · rcases hv with h | ⟨a, e, h⟩
    · exact .inl h
    · exact .inr ⟨a, e, dp_same s h⟩
  · have nqx : x ≠ q := fun e => by
      rw [← e, upd_same] at nq
      cases nq
    have nq0 : H q = none := s.free nq
    exact ⟨rfl, k H' x q (fun b o e => f.keep b o (by simp [ne_of_none e nx]) (s b o e)) nx nq0 nqx hp⟩
/-- a bar appended -/
theorem row_app {K : PySem.W.Frag} {H : Hp} {B : Addr} {bs : List Bar} {v : V} {b : Bar} {vs : List V} (h1 : H B = some (.lst vs)) (h2 : DpAll K H vs (barsD bs)) (hv : Dp K H v (barD b)) : RowAt K (upd H B (.lst (vs ++ [v]))) B (bs ++ [b]) ∧ Fr [B] H (upd H B (.lst (vs ++ [v]))) := by
  have f : Fr [B] H (upd H B (.lst (vs ++ [v]))) := Fr.upd h1 trivial (by simp)
  refine ⟨⟨_, upd_same, ?_⟩, f⟩
  show DpAll K _ _ ((bs ++ [b]).map barD)
  rw [List.map_append]
  exact dpa_app (f.dpa h2 (isTs_bars bs)) (.cons (f.dp hv (isT_bar b)) .nil)
theorem new_ne {H : Hp} {d L : Addr} (hD : Dice H d) (nL : H L = none) : L ≠ d := fun e => by
  obtain ⟨i, j, q⟩ := hD
  rw [e, q] at nL
  cases nL
/-- what follows a statement, asked once -/
theorem seq_cont {t u : TS} {D : Ends} {σ : L2.St} {H : Hp} (C : L2.St → Hp → Prop) (h1 : (∀ σ' H', C σ' H' → u D σ' H') → t { D with nx := u D } σ H) (h2 : ∀ σ' H', C σ' H' → u D σ' H') : tSeq t u D σ H := h1 h2
theorem Fr.freeD {ds : List Addr} {H H' : Hp} {l : Addr} (f : Fr ds H H') (n : l ∉ ds) (h : H' l = none) : H l = none := by
  cases e : H l with
  | none => rfl
  | some o =>
    rw [f.keep _ _ n e] at h
    cases h
theorem ixN_nat {n i : Nat} (h : i < n) : ixN n (i : Int) = some i := by
  unfold ixN
  rw [if_pos (by omega), if_pos (by omega), Int.toNat_natCast]
theorem sc__law_bar : FnScope ["dice", "width"] ["dice"] (defScope s__law_bar) := ⟨rfl, rfl, rfl, by decide +kernel, rfl, by decide +kernel, by decide +kernel⟩
section
variable {K : PySem.W.Frag} {mg : Str → Option Value}
theorem b__law_bar (T : Txt K mg) : Binds K (fdOf K ("_law_bar", none)) ["dice"] [] := T._law_bar.bindsN fun _ _ _ _ _ _ us hl => match us, hl with | [_], _ => rfl
end
def sp__law_bar (K : PySem.W.Frag) : Sp := fun vs H Q _ => ∃ (d : Addr), vs = [.ref d] ∧ Dice H d ∧ ∀ v H' b, Fr [d] H H' → Dice H' d → Dp K H' v (barD b) → BarOk b → Q v H'
theorem ok__law_bar {P : Program} {w : World} {K : PySem.W.Frag} {mg : Str → Option Value} {base : Heap} (T : Txt K mg) : OkF P w K mg base CX0 3 ("_law_bar", none) ["dice"] (sp__law_bar K) := by
  refine okN T._law_bar sc__law_bar (fun vs H Q E h => ?_) (fun cdv A outer s H vs Q E hr h => ?_)
  · obtain ⟨d, rfl, _⟩ := h
    rfl
  · obtain ⟨d, rfl, hD, z⟩ := h
    refine ⟨_, (pss_cons (ps_set (i := 1) sc__law_bar.nd rfl (by first | exact Or.inl rfl | exact Or.inr rfl) (pe_op op_add pe_int (pe_ix ix_list (pe_lst (pa_cons (pe_call (ok__law_roll T) (hr.mono (by decide)) (by rfl) T.g__law_roll T._law_roll.kp (b__law_roll T) .nil pass0 (pa_cons (pv 0) (pa_cons pe_int pa_nil))) (pa_cons (pe_call (ok__law_roll T) (hr.mono (by decide)) (by rfl) T.g__law_roll T._law_roll.kp (b__law_roll T) .nil pass0 (pa_cons (pv 0) (pa_cons pe_int pa_nil))) pa_nil))) (pe_op op_fdiv (pe_call (ok__law_roll T) (hr.mono (by decide)) (by rfl) T.g__law_roll T._law_roll.kp (b__law_roll T) .nil pass0 (pa_cons (pv 0) (pa_cons pe_int pa_nil))) pe_int) (fun _ _ => rfl))))
      (pss_one (ps_ret (pe_tup (pa_cons (pv 1) (pa_cons (pe_op op_add pe_int (pe_call (ok__law_roll T) (hr.mono (by decide)) (by rfl) T.g__law_roll T._law_roll.kp (b__law_roll T) .nil pass0 (pa_cons (pv 0) (pa_cons pe_int pa_nil)))) (pa_cons (pe_cmpR op_lt (pe_call (ok__law_roll T) (hr.mono (by decide)) (by rfl) T.g__law_roll T._law_roll.kp (b__law_roll T) .nil pass0 (pa_cons (pv 0) (pa_cons pe_int pa_nil))) pe_int (nomark _)) pa_nil))))))), ?_⟩
    refine ⟨_, rfl, d, 8, rfl, hD, by decide, by decide, fun H1 r1 f1 hD1 a1 b1 => ?_⟩
    refine ⟨_, rfl, d, 40, rfl, hD1, by decide, by decide, fun H2 r2 f2 hD2 a2 b2 => ⟨by show (2 : Nat) ≤ sizeLine; decide, fun L nL => ?_⟩⟩
    have sL := same_upd (o := .lst [.int r1, .int r2]) nL
    have ndL : L ≠ d := fun e => by
      obtain ⟨i, j, q⟩ := hD2
      rw [e, q] at nL
      cases nL
    refine ⟨_, rfl, d, 4, rfl, hD2.same sL, by decide, by decide, fun H3 r3 f3 hD3 a3 b3 => ?_⟩
    have hL3 := f3.keep L _ (by simp [ndL]) upd_same
    have key : ∀ width : Int, 1 ≤ width → width ≤ 40 → (tAsg (tC (.int width)) (gName 1)) { nx := (tRet (tTup (tCons (tVar 1) (tCons (tOp (rI0 fun i j => .int (i + j)) (tC (.int 1)) (tCall sp__law_roll [] E0 (tCons (tVar 0) (tCons (tC (.int 16)) tNil)))) (tCons (tOp (rI0 fun i j => .bl (decide (i < j))) (tCall sp__law_roll [] E0 (tCons (tVar 0) (tCons (tC (.int 5)) tNil))) (tC (.int 2))) tNil))))) { nx := fun _ H' => Q .non H', rt := Q }, rt := Q } [some (.ref d), none] H3 := by
      intro width w1 w2
      refine ⟨_, rfl, _, rfl, d, 16, rfl, hD3, by decide, by decide, fun H4 r4 f4 hD4 a4 b4 => ⟨_, _, rfl, rfl, ?_⟩⟩
      refine ⟨_, rfl, d, 5, rfl, hD4, by decide, by decide, fun H5 r5 f5 hD5 a5 b5 => ⟨_, _, rfl, rfl, by show (3 : Nat) ≤ sizeLine; decide, fun t nt => ?_⟩⟩
      have st := same_upd (o := .tup [.int width, .int (1 + r4), .bl (decide (r5 < 2))]) nt
      exact z _ _ ⟨width, 1 + r4, decide (r5 < 2)⟩ ((((((f1.trans f2).then sL).trans f3).trans f4).trans f5).then st) (hD5.same st) (dp_bar_of (.of upd_same)) ⟨w1, w2, by show 1 ≤ 1 + r4; omega, by show 1 + r4 ≤ 16; omega⟩
    refine ⟨_, _, rfl, rfl, ⟨by decide, by decide⟩, ?_⟩
    by_cases h3 : r3 < 3
    · refine ⟨L, _, _, .int r1, rfl, rfl, .of hL3, at_of (j := 0) (by omega) rfl, _, _, rfl, rfl, key _ (by omega) (by omega)⟩
    · refine ⟨L, _, _, .int r2, rfl, rfl, .of hL3, at_of (j := 1) (by omega) rfl, _, _, rfl, rfl, key _ (by omega) (by omega)⟩
theorem sc__law_row : FnScope ["dice", "most", "turn"] ["dice", "most"] (defScope s__law_row) := ⟨rfl, rfl, rfl, by decide +kernel, rfl, by decide +kernel, by decide +kernel⟩
section
variable {K : PySem.W.Frag} {mg : Str → Option Value}
theorem b__law_row (T : Txt K mg) : Binds K (fdOf K ("_law_row", none)) ["dice", "most"] [] := T._law_row.bindsN fun _ _ _ _ _ _ us hl => match us, hl with | [_, _], _ => rfl
end
def sp__law_row (K : PySem.W.Frag) : Sp := fun vs H Q _ => ∃ (d : Addr) (most : Nat), vs = [.ref d, .int (most : Int)] ∧ Dice H d ∧ most ≤ 1000 ∧ ∀ H' a bs, Fr [d] H H' → Dice H' d → H a = none → RowAt K H' a bs → (∀ b ∈ bs, BarOk b) → bs.length ≤ most → Q (.ref a) H'
theorem ok__law_row {P : Program} {w : World} {K : PySem.W.Frag} {mg : Str → Option Value} {base : Heap} (T : Txt K mg) : OkF P w K mg base CX0 4 ("_law_row", none) ["dice", "most"] (sp__law_row K) := by
  refine okN T._law_row sc__law_row (fun vs H Q E h => ?_) (fun cdv A outer s H vs Q E hr h => ?_)
  · obtain ⟨d, most, rfl, _⟩ := h
    rfl
  · obtain ⟨d, most, rfl, hD, hm, z⟩ := h
    refine ⟨_, (pss_one (ps_ret (pe_lc (own := [("turn", 2)]) (g := (gName 2)) (tt := tYes) (by rfl) sc__law_row.nd (pi_range1 (by rfl) T.b_range (pa_cons (pe_call (ok__law_roll T) (hr.mono (by decide)) (by rfl) T.g__law_roll T._law_roll.kp (b__law_roll T) .nil pass0 (pa_cons (pv 0) (pa_cons (pe_op op_add (pv 1) pe_int) pa_nil))) pa_nil)) (blkOk_by (own := [("turn", 2)]) (N := ["dice", "most", "turn"]) (sc := defScope s__law_row) (by decide +kernel)) (fun _ _ _ _ _ => (pg_name (i := 2) sc__law_row.nd rfl (by first | exact Or.inl rfl | exact Or.inr rfl))) (fun _ _ _ _ _ => pts_nil) (fun _ _ _ _ _ => (pe_call (ok__law_bar T) (hr.mono (by decide)) (by rfl) T.g__law_bar T._law_bar.kp (b__law_bar T) .nil pass0 (pa_cons (pv 0) pa_nil)))))), ?_⟩
    refine ⟨_, rfl, _, rfl, _, _, rfl, rfl, d, _, rfl, hD, by omega, by omega, fun H1 r f1 hD1 r0 r1 => ⟨r, rfl, by omega, by omega, fun D nD => ?_⟩⟩
    have nDd : D ≠ d := fun e => by
      obtain ⟨i, j, q⟩ := hD1
      rw [e, q] at nD
      cases nD
    have nD0 : H D = none := by
      cases e : H D with
      | none => rfl
      | some o =>
        have := f1.keep D o (by simp [nDd]) e
        rw [nD] at this
        cases this
    have sD := same_upd (o := .lst []) nD
    refine lc_range (lo := 0) (n := r.toNat) (fun i H' => Fr [d] H H' ∧ Dice H' d ∧ ∃ bs : List Bar, bs.length = i ∧ (∀ b ∈ bs, BarOk b) ∧ RowAt K H' D bs) ⟨f1.then sD, hD1.same sD, [], rfl, fun _ h => (nomatch h), [], upd_same, .nil⟩ ?_ ?_
    · rintro i H2 hi ⟨f2, hD2, bs, hl, ok, row⟩
      refine ⟨rfl, _, rfl, d, rfl, hD2, fun v H3 b f3 hD3 hv okb => ?_⟩
      obtain ⟨vs, q1, q2⟩ := row.fr f3 (by simp [nDd])
      obtain ⟨row4, f4⟩ := row_app q1 q2 hv
      refine ⟨vs, q1, ?_, (f2.trans f3).step f4 (by simp [nD0]), hD3.keep f4 (by simp [nDd.symm]), bs ++ [b], ?_, ?_, row4⟩
      · rw [bars_len q2]
        exact small1000 (by omega)
      · rw [List.length_append, hl]
        rfl
      · intro x hx
        rcases List.mem_append.mp hx with hx | hx
        · exact ok x hx
        · have e : x = b := by simpa using hx
          rw [e]
          exact okb
    · rintro H2 ⟨f2, hD2, bs, hl, ok, row⟩
      exact z _ _ bs f2 hD2 nD0 row ok (by omega)
theorem units65 {k : Nat} {A : Around} (h : Room k A) : A.units + 65 < cLine := by
  have := h.un
  omega
def rLenK (K : PySem.W.Frag) : List V → Hp → VK → Prop := fun xs H Q => ∃ x n, xs = [x] ∧ LenV K x H n ∧ Q (.int (n : Nat)) H
section
variable {X : Cx}
/-- sum of a tuple of ints -/
def rSumT (K : PySem.W.Frag) : List V → Hp → VK → Prop := fun vs H Q => ∃ (a : Addr) (ns : List Int), vs = [V.ref a] ∧ SqT K H a (ns.map V.int) ∧ Q (.int ns.sum) H
theorem cr_sumT (hc : X.calm = true) : CallR X (.builtin "sum") (rSumT X.K) := by
  intro pins s σ H vs us Q I r h
  obtain ⟨a, ns, rfl, hs, q⟩ := h
  obtain ⟨its, rv, hl, _⟩ := I.tuple hs
  rw [Vals.ref1 r]
  have hi : IntsAre its ns := rv.ints
  obtain ⟨xs, e⟩ := hi.allInts.items
  have hn : numsOf (intItems xs).toList = ns := by rw [← e]; exact hi.numsOf
  rw [nums_intItems] at hn
  have hT : s.heap.IsTuple a (intItems xs) := by rw [← e]; exact hl
  have hlt : a < s.heap.objs.size := hl.lt
  refine call_sum_walkG (wpAny_pyIter_tuple hT ?_)
  refine ⟨_, [s.heap.objs.size, a], [s.heap.objs.size], _, _, _, numAt xs, rfl, Walks.tuple (A := X.A.in1) (I.ok.hd hc) _ a (Nat.ne_of_lt hlt) (intItems xs),
    ⟨⟨_, Heap.get?_push_size _ rfl, rfl, rfl⟩, hT.push _⟩, fun c hcc => ?_, (fun _ _ => intItems_at), fun h' tk t' hk => ?_⟩
  · show c < (s.heap.push _).objs.size
    rw [Heap.size_push]
    rcases List.mem_cons.mp hcc with rfl | hcc
    · exact Nat.lt_succ_self _
    · have e : c = a := by simpa using hcc
      rw [e]
      exact Nat.lt_succ_of_lt hlt
  · have hk2 : ∀ b o, s.heap.get? b = some o → h'.get? b = some o := fun b o e => hk b o (by
      intro hb
      have e2 : b = s.heap.objs.size := by simpa using hb
      have lt := Heap.lt_size e
      rw [e2] at lt
      exact Nat.lt_irrefl _ lt) (Heap.get?_push_of_some _ e)
    refine ⟨.int ns.sum, H, I.kept hk2, ⟨t', ?_⟩, q⟩
    rw [preSum_eq, List.take_of_length_le (by simp [intItems]), hn]
/-- t.count(x) of data -/
def rCntD (K : PySem.W.Frag) : V → List V → Hp → VK → Prop := fun x xs H Q => ∃ (p : Addr) (y : V) (ds : List PyData) (d : PyData), x = .ref p ∧ xs = [y] ∧ Dp K H (.ref p) (.tuple ds) ∧ Dp K H y d ∧ SeqAt.shaped (.tuple ds) = true ∧ SeqAt.shaped d = true ∧ Q (.int ((ds.countP fun z => PyData.eqv z d : Nat) : Int)) H
theorem mt_tcount (hu : X.A.units + 65 < cLine) : MtR X "tuple.count" (rCntD X.K) := by
  intro pins s σ H x xs v us Q I rx rxs h
  obtain ⟨p, y, ds, d, rfl, rfl, hl, hy, sl, sd, q⟩ := h
  cases rx
  obtain ⟨u, rfl, ru⟩ := rxs.one
  obtain ⟨bs, r1⟩ := Dp.reads I d y u hy ru
  cases hl with
  | tup hs ha =>
    obtain ⟨its, rv, hT, _⟩ := I.tuple hs
    obtain ⟨as, h4⟩ := Dp.readsAll I ds _ its ha rv
    exact SeqAt.count_tuple_data (vs := its.toArray) hT (by simpa using h4) r1 (PyData.plain_of_canLay0 (.tuple ds) (SeqAt.canLay_of_shaped sl)) (PyData.plain_of_canLay0 _ (SeqAt.canLay_of_shaped sd)) (room_in_shaped sd hu) ⟨.int _, H, I.tok _, ⟨_, rfl⟩, q⟩
def rInDT (K : PySem.W.Frag) : R2 := fun x y H Q => ∃ d ds, Dp K H x d ∧ Dp K H y (.tuple ds) ∧ SeqAt.shaped d = true ∧ SeqAt.shaped (.tuple ds) = true ∧ Q (.bl (ds.any fun z => PyData.eqv z d)) H
def rNotInDT (K : PySem.W.Frag) : R2 := fun x y H Q => ∃ d ds, Dp K H x d ∧ Dp K H y (.tuple ds) ∧ SeqAt.shaped d = true ∧ SeqAt.shaped (.tuple ds) = true ∧ Q (.bl (!ds.any fun z => PyData.eqv z d)) H
theorem op_inDT (hu : X.A.units + 65 < cLine) : OpR X (compareOp .In) (rInDT X.K) := by
  intro pins s σ H x y v u Q I rx ry h
  obtain ⟨d, ds, hd, he, sd, se, q⟩ := h
  obtain ⟨as, r1⟩ := Dp.reads I d x v hd rx
  obtain ⟨bs, r2⟩ := Dp.reads I (.tuple ds) y u he ry
  exact SeqAt.in_tuple_reads r2 r1 (SeqAt.canLay_of_shaped se) (SeqAt.canLay_of_shaped sd) (room_in_shaped sd hu) ⟨.bl _, H, I, rfl, q⟩
theorem op_notInDT (hu : X.A.units + 65 < cLine) : OpR X (compareOp .NotIn) (rNotInDT X.K) := by
  intro pins s σ H x y v u Q I rx ry h
  obtain ⟨d, ds, hd, he, sd, se, q⟩ := h
  obtain ⟨as, r1⟩ := Dp.reads I d x v hd rx
  obtain ⟨bs, r2⟩ := Dp.reads I (.tuple ds) y u he ry
  exact SeqAt.notIn_tuple_reads r2 r1 (SeqAt.canLay_of_shaped se) (SeqAt.canLay_of_shaped sd) (room_in_shaped sd hu) ⟨.bl _, H, I, rfl, q⟩
end
section
variable {X : Cx}
/-- t[lo:hi] of a tuple, whether or not it is the same object -/
def rSlU (K : PySem.W.Frag) : V → Option Int → Option Int → Hp → VK → Prop := fun x lo hi H Q => ∃ a xs, x = .ref a ∧ SqT K H a xs ∧ ∀ c H', Same H H' → SqT K H' c (cutV xs lo hi) → Q (.ref c) H'
theorem cut_all {xs : List V} {lo hi : Option Int} (h : HT.sIx xs.length 0 lo = 0 ∧ HT.sIx xs.length xs.length hi = xs.length) : cutV xs lo hi = xs := by
  unfold cutV
  rw [h.1, h.2, List.drop_zero, Nat.sub_zero, List.take_length]
theorem sl_tupU : SlR X (rSlU X.K) := by
  intro pins s σ H x v vl vu lo hi sl Q I rx hsl pl pu q
  obtain ⟨a, xs, e, hs, k⟩ := q
  exact sl_tupA pins s σ H x v vl vu lo hi sl Q I rx hsl pl pu ⟨a, xs, e, hs, fun c => k a H (Same.refl H) (by rw [cut_all c]; exact hs), fun _ p np => k p _ (same_upd np) (.of upd_same)⟩
/-- t + u of tuples, whether or not it is one of them -/
def rCatU (K : PySem.W.Frag) : R2 := fun x y H Q => ∃ a b xs ys, x = .ref a ∧ y = .ref b ∧ SqT K H a xs ∧ SqT K H b ys ∧ xs.length + ys.length ≤ sizeLine ∧ ∀ c H', Same H H' → SqT K H' c (xs ++ ys) → Q (.ref c) H'
theorem op_catU : OpR X (binaryOp .Add) (rCatU X.K) := by
  intro pins s σ H x y v u Q I rx ry q
  obtain ⟨a, b, xs, ys, e1, e2, h1, h2, hl, k⟩ := q
  refine op_catA pins s σ H x y v u Q I rx ry ⟨a, b, xs, ys, e1, e2, h1, h2, hl, fun e => k b H (Same.refl H) (by rw [e]; exact h2), fun _ e => k a H (Same.refl H) (by rw [e, List.append_nil]; exact h1), fun _ _ p np => k p _ (same_upd np) (.of upd_same)⟩
end
/-! ### desks, rows of numbers -/
structure Desk where
  room : Int
  turn : Int
  side : Bool
  empty : Int
def sideS (b : Bool) : Str := if b = true then Str.ofString "right" else Str.ofString "left"
def deskD (k : Desk) : PyData := .tuple [.int k.room, .int k.turn, .str (sideS k.side), .int k.empty]
def deskV (k : Desk) : List V := [.int k.room, .int k.turn, .str (sideS k.side), .int k.empty]
structure DeskOk (k : Desk) : Prop where
  r0 : 1 ≤ k.room
  r1 : k.room ≤ 200
  t0 : 0 ≤ k.turn
  t1 : k.turn ≤ 99
  e0 : 0 ≤ k.empty
  e1 : k.empty ≤ 3
theorem isT_desk (k : Desk) : isT (deskD k) = true := rfl
abbrev numsD (ns : List Nat) : List PyData := ns.map fun (n : Nat) => PyData.int (n : Int)
abbrev numsV (ns : List Nat) : List V := ns.map fun (n : Nat) => V.int (n : Int)
section
variable {K : PySem.W.Frag} {H : Hp}
theorem dp_desk {v : V} {k : Desk} (h : Dp K H v (deskD k)) : ∃ p, v = .ref p ∧ SqT K H p (deskV k) := by
  cases h with
  | tup s a =>
    obtain ⟨v0, v1, v2, v3, rfl, h0, h1, h2, h3⟩ := dpa4 a
    cases h0
    cases h1
    cases h2
    cases h3
    exact ⟨_, rfl, s⟩
theorem dp_desk_of {p : Addr} {k : Desk} (h : SqT K H p (deskV k)) : Dp K H (.ref p) (deskD k) := .tup h (.cons (.int _) (.cons (.int _) (.cons (.str _) (.cons (.int _) .nil))))
theorem dpa_nums : ∀ {ns : List Nat} {vs : List V}, DpAll K H vs (numsD ns) → vs = numsV ns
  | [], _, .nil => rfl
  | n :: r, _, .cons d t => by
    cases d
    show V.int _ :: _ = V.int _ :: numsV r
    rw [dpa_nums t]
theorem dpa_nums_of : ∀ ns : List Nat, DpAll K H (numsV ns) (numsD ns)
  | [] => .nil
  | n :: r => .cons (.int _) (dpa_nums_of r)
theorem dp_nums {v : V} {ns : List Nat} (h : Dp K H v (.tuple (numsD ns))) : ∃ p, v = .ref p ∧ SqT K H p (numsV ns) := by
  cases h with
  | tup s a =>
    rw [dpa_nums a] at s
    exact ⟨_, rfl, s⟩
theorem dp_nums_of {p : Addr} {ns : List Nat} (h : SqT K H p (numsV ns)) : Dp K H (.ref p) (.tuple (numsD ns)) := .tup h (dpa_nums_of ns)
end
theorem isTs_nums : ∀ ns : List Nat, isTs (numsD ns) = true
  | [] => rfl
  | n :: r => by
    show (isT (.int (n : Int)) && isTs (numsD r)) = true
    rw [isTs_nums r]
    rfl
theorem shp_nums (ns : List Nat) : Shp 1 (.tuple (numsD ns)) := shp_tup (shpA_all fun d hd => by
  obtain ⟨n, _, rfl⟩ := List.mem_map.mp hd
  exact shp_int _)
theorem isNum_of {i lo hi : Int} (h1 : lo ≤ i) (h2 : i ≤ hi) : isNum (.int i) lo hi = true := by
  show (decide (lo ≤ i) && decide (i ≤ hi)) = true
  rw [decide_eq_true h1, decide_eq_true h2]
  rfl
/-- whether a page is a right one -/
def isRight (k : Desk) (page : Nat) : Bool := decide (page % 2 = 0) == k.side
def wideOf (bs : List Bar) (b e : Nat) : Int := (((bs.drop b).take (e - b)).map Bar.w).sum
theorem cut_both {xs : List V} {b e : Nat} (h : b ≤ e) : cutV xs (some (b : Int)) (some (e : Int)) = (xs.drop b).take (e - b) := by
  unfold cutV
  rw [HT.sIx_nat, HT.sIx_nat]
  by_cases h1 : b ≤ xs.length
  · rw [Nat.min_eq_left h1]
    by_cases h2 : e ≤ xs.length
    · rw [Nat.min_eq_left h2]
    · rw [Nat.min_eq_right (by omega), List.take_of_length_le (by rw [List.length_drop]; omega), List.take_of_length_le (by rw [List.length_drop]; omega)]
  · rw [Nat.min_eq_right (by omega), Nat.min_eq_right (by omega), List.drop_length, List.drop_eq_nil_of_le (by omega), List.take_nil, List.take_nil]
/-- what is wrong -/
inductive Wrong where
  | wide (p : Nat) | empty (p : Nat) | turn (p : Nat) | form
def wrongD : Wrong → PyData
  | .wide p => .tuple [.str (Str.ofString "wide"), .int (p : Int)]
  | .empty p => .tuple [.str (Str.ofString "empty"), .int (p : Int)]
  | .turn p => .tuple [.str (Str.ofString "turn"), .int (p : Int)]
  | .form => .tuple [.str (Str.ofString "form")]
def faultD : Option Wrong → PyData
  | none => .none
  | some x => wrongD x
def pageFault (bs : List Bar) (k : Desk) (ns : List Nat) (page : Nat) : Option Wrong :=
  let e := (ns.take (page + 1)).sum
  let n := ns.getD page 0
  if wideOf bs (e - n) e > k.room then some (.wide page)
  else if n = 0 ∧ (page + 1 = ns.length ∨ (((ns.take (page + 1)).count 0 : Nat) : Int) > k.empty) then some (.empty page)
  else if isRight k page = true ∧ ¬ page + 1 = ns.length ∧ restOf bs e < k.turn then some (.turn page)
  else none
/-- the first fault from a page on -/
def faultFrom (bs : List Bar) (k : Desk) (ns : List Nat) (page : Nat) : Nat → Option Wrong
  | 0 => none
  | m + 1 => match pageFault bs k ns page with
    | some x => some x
    | none => faultFrom bs k ns (page + 1) m
def faultN (bs : List Bar) (k : Desk) (ns : List Nat) : Option Wrong := if ns.sum = bs.length then faultFrom bs k ns 0 ns.length else some .form
theorem numsV_ints (ns : List Nat) : numsV ns = (ns.map fun (n : Nat) => (n : Int)).map V.int := by
  rw [List.map_map]
  rfl
theorem small5000 {n : Nat} (h : n ≤ 5000) : n < sizeLine := by
  have : sizeLine = 16777216 := sizeLine_eq
  omega
theorem shp_numsL (ns : List Nat) : Shp 1 (.list (numsD ns)) := shp_list (shpA_all fun d hd => by
  obtain ⟨n, _, rfl⟩ := List.mem_map.mp hd
  exact shp_int _)
theorem sc__law_stand : FnScope ["dice", "room", "turn"] ["dice"] (defScope s__law_stand) := ⟨rfl, rfl, rfl, by decide +kernel, rfl, by decide +kernel, by decide +kernel⟩
section
variable {K : PySem.W.Frag} {mg : Str → Option Value}
theorem b__law_stand (T : Txt K mg) : Binds K (fdOf K ("_law_stand", none)) ["dice"] [] := T._law_stand.bindsN fun _ _ _ _ _ _ us hl => match us, hl with | [_], _ => rfl
end
def sp__law_stand (K : PySem.W.Frag) : Sp := fun vs H Q _ => ∃ (d : Addr), vs = [.ref d] ∧ Dice H d ∧ ∀ v H' k, Fr [d] H H' → Dice H' d → Dp K H' v (deskD k) → DeskOk k → Q v H'
theorem ok__law_stand {P : Program} {w : World} {K : PySem.W.Frag} {mg : Str → Option Value} {base : Heap} (T : Txt K mg) : OkF P w K mg base CX0 3 ("_law_stand", none) ["dice"] (sp__law_stand K) := by
  refine okN T._law_stand sc__law_stand (fun vs H Q E h => ?_) (fun cdv A outer s H vs Q E hr h => ?_)
  · obtain ⟨d, rfl, _⟩ := h
    rfl
  · obtain ⟨d, rfl, hD, z⟩ := h
    refine ⟨_, (pss_cons (ps_set (i := 1) sc__law_stand.nd rfl (by first | exact Or.inl rfl | exact Or.inr rfl) (pe_ix ix_list (pe_lst (pa_cons (pe_op op_add pe_int (pe_call (ok__law_roll T) (hr.mono (by decide)) (by rfl) T.g__law_roll T._law_roll.kp (b__law_roll T) .nil pass0 (pa_cons (pv 0) (pa_cons pe_int pa_nil)))) (pa_cons (pe_op op_add pe_int (pe_call (ok__law_roll T) (hr.mono (by decide)) (by rfl) T.g__law_roll T._law_roll.kp (b__law_roll T) .nil pass0 (pa_cons (pv 0) (pa_cons pe_int pa_nil)))) (pa_cons (pe_op op_add pe_int (pe_call (ok__law_roll T) (hr.mono (by decide)) (by rfl) T.g__law_roll T._law_roll.kp (b__law_roll T) .nil pass0 (pa_cons (pv 0) (pa_cons pe_int pa_nil)))) pa_nil)))) (pe_call (ok__law_roll T) (hr.mono (by decide)) (by rfl) T.g__law_roll T._law_roll.kp (b__law_roll T) .nil pass0 (pa_cons (pv 0) (pa_cons pe_int pa_nil))) (fun _ _ => rfl)))
      (pss_cons (ps_set (i := 2) sc__law_stand.nd rfl (by first | exact Or.inl rfl | exact Or.inr rfl) (pe_ix ix_list (pe_lst (pa_cons (pe_call (ok__law_roll T) (hr.mono (by decide)) (by rfl) T.g__law_roll T._law_roll.kp (b__law_roll T) .nil pass0 (pa_cons (pv 0) (pa_cons pe_int pa_nil))) (pa_cons (pe_call (ok__law_roll T) (hr.mono (by decide)) (by rfl) T.g__law_roll T._law_roll.kp (b__law_roll T) .nil pass0 (pa_cons (pv 0) (pa_cons pe_int pa_nil))) (pa_cons (pe_op op_add pe_int (pe_call (ok__law_roll T) (hr.mono (by decide)) (by rfl) T.g__law_roll T._law_roll.kp (b__law_roll T) .nil pass0 (pa_cons (pv 0) (pa_cons pe_int pa_nil)))) pa_nil)))) (pe_call (ok__law_roll T) (hr.mono (by decide)) (by rfl) T.g__law_roll T._law_roll.kp (b__law_roll T) .nil pass0 (pa_cons (pv 0) (pa_cons pe_int pa_nil))) (fun _ _ => rfl)))
      (pss_one (ps_ret (pe_tup (pa_cons (pv 1) (pa_cons (pv 2) (pa_cons (pe_ix ix_list (pe_lst (pa_cons pe_str (pa_cons pe_str pa_nil))) (pe_call (ok__law_roll T) (hr.mono (by decide)) (by rfl) T.g__law_roll T._law_roll.kp (b__law_roll T) .nil pass0 (pa_cons (pv 0) (pa_cons pe_int pa_nil))) (fun _ _ => rfl)) (pa_cons (pe_ix ix_list (pe_lst (pa_cons pe_int (pa_cons pe_int (pa_cons pe_int (pa_cons pe_int (pa_cons pe_int (pa_cons pe_int pa_nil))))))) (pe_call (ok__law_roll T) (hr.mono (by decide)) (by rfl) T.g__law_roll T._law_roll.kp (b__law_roll T) .nil pass0 (pa_cons (pv 0) (pa_cons pe_int pa_nil))) (fun _ _ => rfl)) pa_nil))))))))), ?_⟩
    -- room
    refine ⟨_, rfl, d, 20, rfl, hD, by decide, by decide, fun H1 r1 f1 hD1 a1 b1 => ⟨_, _, rfl, rfl, ?_⟩⟩
    refine ⟨_, rfl, d, 200, rfl, hD1, by decide, by decide, fun H2 r2 f2 hD2 a2 b2 => ⟨_, _, rfl, rfl, ?_⟩⟩
    refine ⟨_, rfl, d, 8, rfl, hD2, by decide, by decide, fun H3 r3 f3 hD3 a3 b3 => ⟨_, _, rfl, rfl, by show (3 : Nat) ≤ sizeLine; decide, fun L nL => ?_⟩⟩
    have sL := same_upd (o := .lst [.int (4 + r1), .int (1 + r2), .int (8 + r3)]) nL
    refine ⟨_, rfl, d, 3, rfl, hD3.same sL, by decide, by decide, fun H4 i4 f4 hD4 a4 b4 => ?_⟩
    have hL4 := f4.keep L _ (by simp [new_ne hD3 nL]) upd_same
    have g4 := (((f1.trans f2).trans f3).then sL).trans f4
    obtain ⟨room, hroom, hr0, hr1⟩ : ∃ room : Int, atI [V.int (4 + r1), .int (1 + r2), .int (8 + r3)] i4 = some (.int room) ∧ 1 ≤ room ∧ room ≤ 200 := by
      rcases (by omega : i4 = 0 ∨ i4 = 1 ∨ i4 = 2) with e | e | e
      · exact ⟨4 + r1, at_of (j := 0) e rfl, by omega, by omega⟩
      · exact ⟨1 + r2, at_of (j := 1) e rfl, by omega, by omega⟩
      · exact ⟨8 + r3, at_of (j := 2) e rfl, by omega, by omega⟩
    refine ⟨L, _, _, _, rfl, rfl, .of hL4, hroom, ?_⟩
    -- turn
    refine ⟨_, rfl, d, 20, rfl, hD4, by decide, by decide, fun H5 r5 f5 hD5 a5 b5 => ?_⟩
    refine ⟨_, rfl, d, 100, rfl, hD5, by decide, by decide, fun H6 r6 f6 hD6 a6 b6 => ?_⟩
    refine ⟨_, rfl, d, 9, rfl, hD6, by decide, by decide, fun H7 r7 f7 hD7 a7 b7 => ⟨_, _, rfl, rfl, by show (3 : Nat) ≤ sizeLine; decide, fun M nM => ?_⟩⟩
    have sM := same_upd (o := .lst [.int r5, .int r6, .int (1 + r7)]) nM
    refine ⟨_, rfl, d, 3, rfl, hD7.same sM, by decide, by decide, fun H8 i8 f8 hD8 a8 b8 => ?_⟩
    have hM8 := f8.keep M _ (by simp [new_ne hD7 nM]) upd_same
    have g8 := ((((g4.trans f5).trans f6).trans f7).then sM).trans f8
    obtain ⟨turn, hturn, ht0, ht1⟩ : ∃ turn : Int, atI [V.int r5, .int r6, .int (1 + r7)] i8 = some (.int turn) ∧ 0 ≤ turn ∧ turn ≤ 99 := by
      rcases (by omega : i8 = 0 ∨ i8 = 1 ∨ i8 = 2) with e | e | e
      · exact ⟨r5, at_of (j := 0) e rfl, by omega, by omega⟩
      · exact ⟨r6, at_of (j := 1) e rfl, by omega, by omega⟩
      · exact ⟨1 + r7, at_of (j := 2) e rfl, by omega, by omega⟩
    refine ⟨M, _, _, _, rfl, rfl, .of hM8, hturn, ?_⟩
    -- the tuple
    refine ⟨_, rfl, _, rfl, by show (2 : Nat) ≤ sizeLine; decide, fun N nN => ?_⟩
    have sN := same_upd (o := .lst [.str (Str.ofString "left"), .str (Str.ofString "right")]) nN
    refine ⟨_, rfl, d, 2, rfl, hD8.same sN, by decide, by decide, fun H9 i9 f9 hD9 a9 b9 => ?_⟩
    have hN9 := f9.keep N _ (by simp [new_ne hD8 nN]) upd_same
    have g9 := (g8.then sN).trans f9
    obtain ⟨side, hside⟩ : ∃ side : Bool, atI [V.str (Str.ofString "left"), .str (Str.ofString "right")] i9 = some (.str (sideS side)) := by
      rcases (by omega : i9 = 0 ∨ i9 = 1) with e | e
      · exact ⟨false, at_of (j := 0) e rfl⟩
      · exact ⟨true, at_of (j := 1) e rfl⟩
    refine ⟨N, _, _, _, rfl, rfl, .of hN9, hside, ?_⟩
    refine ⟨by show (6 : Nat) ≤ sizeLine; decide, fun O nO => ?_⟩
    have sO := same_upd (o := .lst [.int 0, .int 0, .int 1, .int 1, .int 2, .int 3]) nO
    refine ⟨_, rfl, d, 6, rfl, hD9.same sO, by decide, by decide, fun H10 i10 f10 hD10 a10 b10 => ?_⟩
    have hO10 := f10.keep O _ (by simp [new_ne hD9 nO]) upd_same
    have g10 := (g9.then sO).trans f10
    obtain ⟨emp, hemp, he0, he1⟩ : ∃ emp : Int, atI [V.int 0, .int 0, .int 1, .int 1, .int 2, .int 3] i10 = some (.int emp) ∧ 0 ≤ emp ∧ emp ≤ 3 := by
      rcases (by omega : i10 = 0 ∨ i10 = 1 ∨ i10 = 2 ∨ i10 = 3 ∨ i10 = 4 ∨ i10 = 5) with e | e | e | e | e | e
      · exact ⟨0, at_of (j := 0) e rfl, by decide, by decide⟩
      · exact ⟨0, at_of (j := 1) e rfl, by decide, by decide⟩
      · exact ⟨1, at_of (j := 2) e rfl, by decide, by decide⟩
      · exact ⟨1, at_of (j := 3) e rfl, by decide, by decide⟩
      · exact ⟨2, at_of (j := 4) e rfl, by decide, by decide⟩
      · exact ⟨3, at_of (j := 5) e rfl, by decide, by decide⟩
    refine ⟨O, _, _, _, rfl, rfl, .of hO10, hemp, by show (4 : Nat) ≤ sizeLine; decide, fun t nt => ?_⟩
    have st := same_upd (o := .tup [.int room, .int turn, .str (sideS side), .int emp]) nt
    exact z _ _ ⟨room, turn, side, emp⟩ (g10.then st) (hD10.same st) (dp_desk_of (.of upd_same)) ⟨hr0, hr1, ht0, ht1, he0, he1⟩
/-! ### repeats and the order that is played -/
def repD (r : Nat × Nat) : PyData := .tuple [.int (r.1 : Int), .int (r.2 : Int)]
def repV (r : Nat × Nat) : List V := [.int (r.1 : Int), .int (r.2 : Int)]
abbrev repsD (rs : List (Nat × Nat)) : List PyData := rs.map repD
def RepOk (n : Nat) : Nat → List (Nat × Nat) → Prop
  | _, [] => True
  | a, x :: r => a ≤ x.1 ∧ x.1 ≤ x.2 ∧ x.2 < n ∧ RepOk n (x.2 + 1) r
def rng (a b : Nat) : List Nat := List.range' a (b - a)
def orderOf (n : Nat) : Nat → List (Nat × Nat) → List Nat
  | a, [] => rng a n
  | a, x :: r => rng a (x.2 + 1) ++ rng x.1 (x.2 + 1) ++ orderOf n (x.2 + 1) r
theorem rng_V (a b : Nat) : rgV (a : Int) (b : Int) = numsV (rng a b) := by
  unfold rgV rng
  rw [show ((b : Int) - (a : Int)).toNat = b - a by omega, List.range'_eq_map_range]
  show _ = List.map _ (List.map _ _)
  rw [List.map_map]
  refine List.map_congr_left fun i _ => ?_
  show V.int ((a : Int) + (i : Int)) = V.int ((a + i : Nat) : Int)
  rw [Int.natCast_add]
theorem rng_len (a b : Nat) : (rng a b).length = b - a := List.length_range'
theorem rng_cons {a b : Nat} (h : a < b) : rng a b = a :: rng (a + 1) b := by
  unfold rng
  rw [show b - a = (b - (a + 1)) + 1 by omega, List.range'_succ]
theorem rng_nil {a b : Nat} (h : b ≤ a) : rng a b = [] := by
  unfold rng
  rw [show b - a = 0 by omega]
  rfl
theorem rng_app {a b c : Nat} (h1 : a ≤ b) (h2 : b ≤ c) : rng a b ++ rng b c = rng a c := by
  unfold rng
  rw [show c - a = (b - a) + (c - b) by omega]
  have := @List.range'_append a (b - a) (c - b) 1
  rw [Nat.one_mul, show a + (b - a) = b by omega] at this
  exact this
theorem rng_count (a b k : Nat) : (rng a b).count k = if a ≤ k ∧ k < b then 1 else 0 := by
  induction h : b - a generalizing a with
  | zero =>
    rw [rng_nil (by omega), if_neg (by omega)]
    rfl
  | succ m ih =>
    rw [rng_cons (by omega), List.count_cons, ih (a + 1) (by omega)]
    by_cases e : a = k
    · subst e
      rw [if_neg (show ¬ (a + 1 ≤ a ∧ a < b) by omega), if_pos (show a ≤ a ∧ a < b by omega)]
      simp
    · rw [show (a == k) = false from beq_eq_false_iff_ne.mpr e]
      by_cases h2 : a ≤ k ∧ k < b
      · rw [if_pos (show a + 1 ≤ k ∧ k < b by omega), if_pos h2]
        rfl
      · rw [if_neg (show ¬ (a + 1 ≤ k ∧ k < b) by omega), if_neg h2]
        rfl
theorem order_len {n : Nat} : ∀ {rs : List (Nat × Nat)} {a : Nat}, RepOk n a rs → (orderOf n a rs).length ≤ 2 * (n - a)
  | [], a, _ => by
    show (rng a n).length ≤ _
    rw [rng_len]
    omega
  | x :: r, a, h => by
    obtain ⟨h1, h2, h3, h4⟩ := h
    have := order_len h4
    show (rng a (x.2 + 1) ++ rng x.1 (x.2 + 1) ++ orderOf n (x.2 + 1) r).length ≤ _
    rw [List.length_append, List.length_append, rng_len, rng_len]
    omega
theorem order_count {n k : Nat} (hk : k < n) : ∀ {rs : List (Nat × Nat)} {a : Nat}, RepOk n a rs → (orderOf n a rs).count k = (if a ≤ k then 1 else 0) + rs.countP fun x => decide (x.1 ≤ k) && decide (k ≤ x.2)
  | [], a, _ => by
    show (rng a n).count k = _ + 0
    rw [rng_count]
    by_cases h : a ≤ k
    · rw [if_pos ⟨h, hk⟩, if_pos h]
    · rw [if_neg (fun e => h e.1), if_neg h]
  | x :: r, a, h => by
    obtain ⟨h1, h2, h3, h4⟩ := h
    have ih := order_count hk h4
    show (rng a (x.2 + 1) ++ rng x.1 (x.2 + 1) ++ orderOf n (x.2 + 1) r).count k = _
    rw [List.count_append, List.count_append, ih, rng_count, rng_count, List.countP_cons]
    by_cases c1 : a ≤ k
    · by_cases c2 : k ≤ x.2
      · rw [if_pos (⟨c1, by omega⟩ : a ≤ k ∧ k < x.2 + 1), if_pos c1, if_neg (by omega : ¬ x.2 + 1 ≤ k)]
        by_cases c3 : x.1 ≤ k
        · rw [if_pos (⟨c3, by omega⟩ : x.1 ≤ k ∧ k < x.2 + 1), if_pos (by simp [c2, c3])]
          omega
        · rw [if_neg (fun e => c3 e.1), if_neg (by simp [c3])]
          omega
      · rw [if_neg (by omega : ¬ (a ≤ k ∧ k < x.2 + 1)), if_pos c1, if_neg (by omega : ¬ (x.1 ≤ k ∧ k < x.2 + 1)), if_pos (by omega : x.2 + 1 ≤ k), if_neg (by simp [c2])]
        omega
    · rw [if_neg (fun e => c1 e.1), if_neg c1, if_neg (by omega : ¬ (x.1 ≤ k ∧ k < x.2 + 1)), if_neg (by omega : ¬ x.2 + 1 ≤ k), if_neg (by simp; omega)]
      omega
theorem order_mem {n : Nat} : ∀ {rs : List (Nat × Nat)} {a : Nat}, RepOk n a rs → ∀ k ∈ orderOf n a rs, k < n
  | [], a, _, k, hk => by
    have h : k ∈ List.range' a (n - a) := hk
    rw [List.mem_range'_1] at h
    omega
  | x :: r, a, h, k, hk => by
    obtain ⟨h1, h2, h3, h4⟩ := h
    have hk2 : k ∈ List.range' a (x.2 + 1 - a) ++ List.range' x.1 (x.2 + 1 - x.1) ++ orderOf n (x.2 + 1) r := hk
    rw [List.mem_append, List.mem_append, List.mem_range'_1, List.mem_range'_1] at hk2
    rcases hk2 with (hk2 | hk2) | hk2
    · omega
    · omega
    · exact order_mem h4 k hk2
/-- on the way: at or ahead of the first repeat's end -/
def RepIn (n a : Nat) : List (Nat × Nat) → Prop
  | [] => True
  | x :: r => a ≤ x.2 ∧ x.1 ≤ x.2 ∧ x.2 < n ∧ RepOk n (x.2 + 1) r
theorem RepOk.in {n a : Nat} {rs : List (Nat × Nat)} (h : RepOk n a rs) : RepIn n a rs := by
  cases rs with
  | nil => trivial
  | cons x r =>
    obtain ⟨h1, h2, h3, h4⟩ := h
    exact ⟨by omega, h2, h3, h4⟩
theorem RepOk.down {n a b : Nat} {rs : List (Nat × Nat)} (h : RepOk n a rs) (hb : b ≤ a) : RepOk n b rs := by
  cases rs with
  | nil => trivial
  | cons x r =>
    obtain ⟨h1, h2, h3, h4⟩ := h
    exact ⟨by omega, h2, h3, h4⟩
theorem order_down {n a b : Nat} {rs : List (Nat × Nat)} (h : RepOk n a rs) (hb : b ≤ a) (ha : a ≤ n) : orderOf n b rs = rng b a ++ orderOf n a rs := by
  cases rs with
  | nil => exact (rng_app hb ha).symm
  | cons x r =>
    obtain ⟨h1, h2, h3, h4⟩ := h
    show rng b (x.2 + 1) ++ rng x.1 (x.2 + 1) ++ orderOf n (x.2 + 1) r = rng b a ++ (rng a (x.2 + 1) ++ rng x.1 (x.2 + 1) ++ orderOf n (x.2 + 1) r)
    rw [← rng_app hb (show a ≤ x.2 + 1 by omega)]
    simp only [List.append_assoc]
theorem order_end {n : Nat} {x : Nat × Nat} {r : List (Nat × Nat)} (h : RepIn n x.2 (x :: r)) : orderOf n x.2 (x :: r) = x.2 :: orderOf n x.1 r ∧ RepIn n x.1 r := by
  obtain ⟨h1, h2, h3, h4⟩ := h
  refine ⟨?_, (h4.down (by omega)).in⟩
  rw [order_down h4 (show x.1 ≤ x.2 + 1 by omega) (by omega)]
  show rng x.2 (x.2 + 1) ++ rng x.1 (x.2 + 1) ++ orderOf n (x.2 + 1) r = _
  rw [rng_cons (Nat.lt_succ_self _), rng_nil (Nat.le_refl _), List.append_assoc]
  rfl
theorem order_next {n a : Nat} {rs : List (Nat × Nat)} (ha : a < n) (h : RepIn n a rs) (hn : ∀ x ∈ rs.head?, x.2 ≠ a) : orderOf n a rs = a :: orderOf n (a + 1) rs ∧ RepIn n (a + 1) rs := by
  cases rs with
  | nil => exact ⟨rng_cons ha, trivial⟩
  | cons x r =>
    obtain ⟨h1, h2, h3, h4⟩ := h
    have := hn x rfl
    refine ⟨?_, by omega, h2, h3, h4⟩
    show rng a (x.2 + 1) ++ rng x.1 (x.2 + 1) ++ orderOf n (x.2 + 1) r = a :: (rng (a + 1) (x.2 + 1) ++ rng x.1 (x.2 + 1) ++ orderOf n (x.2 + 1) r)
    rw [rng_cons (by omega)]
    rfl
theorem RepOk.lt {n : Nat} : ∀ {rs : List (Nat × Nat)} {a : Nat}, RepOk n a rs → ∀ x ∈ rs, a ≤ x.2 ∧ x.2 < n ∧ x.1 ≤ x.2 ∧ a ≤ x.1
  | [], _, _, _, hx => nomatch hx
  | y :: r, a, h, x, hx => by
    obtain ⟨h1, h2, h3, h4⟩ := h
    rcases List.mem_cons.mp hx with e | hx
    · subst e
      exact ⟨by omega, h3, h2, h1⟩
    · have := RepOk.lt h4 x hx
      exact ⟨by omega, this.2.1, this.2.2.1, by omega⟩
theorem RepOk.split {n : Nat} : ∀ {rs1 rs2 : List (Nat × Nat)} {a : Nat}, RepOk n a (rs1 ++ rs2) → ∀ x ∈ rs1, ∀ y ∈ rs2, x.2 < y.2
  | [], _, _, _, _, hx, _, _ => nomatch hx
  | z :: r, rs2, a, h, x, hx, y, hy => by
    obtain ⟨h1, h2, h3, h4⟩ := h
    rcases List.mem_cons.mp hx with e | hx
    · subst e
      have := RepOk.lt h4 y (List.mem_append_right _ hy)
      omega
    · exact RepOk.split h4 x hx y hy
/-- what ends at a place and is not done -/
theorem back_of {n a b : Nat} {rs1 rs2 : List (Nat × Nat)} {dn : Nat × Nat → Bool} (h : RepOk n b (rs1 ++ rs2)) (hd : ∀ x, dn x = true ↔ x ∈ rs1) (hi : RepIn n a rs2) :
    ((rs1 ++ rs2).filter fun x => decide (x.2 = a) && !dn x) = rs2.head?.toList.filter fun x => decide (x.2 = a) := by
  rw [List.filter_append]
  have e1 : (rs1.filter fun x => decide (x.2 = a) && !dn x) = [] := by
    rw [List.filter_eq_nil_iff]
    intro x hx
    rw [(hd x).mpr hx]
    simp
  rw [e1, List.nil_append]
  cases rs2 with
  | nil => rfl
  | cons y r =>
    obtain ⟨h1, h2, h3, h4⟩ := hi
    have ny : dn y = false := by
      cases e : dn y with
      | false => rfl
      | true =>
        have := h.split y ((hd y).mp e) y List.mem_cons_self
        omega
    have e2 : (r.filter fun x => decide (x.2 = a) && !dn x) = [] := by
      rw [List.filter_eq_nil_iff]
      intro x hx
      have := h4.lt x hx
      rw [decide_eq_false (by omega)]
      simp
    show List.filter _ (y :: r) = List.filter _ [y]
    rw [List.filter_cons, List.filter_cons, e2, ny]
    simp
/-- the repeats that end there, all of them -/
theorem ends_at {n b : Nat} {rs1 r : List (Nat × Nat)} {x : Nat × Nat} (h : RepOk n b (rs1 ++ x :: r)) (y : Nat × Nat) : y ∈ (rs1 ++ x :: r).filter (fun z => decide (z.2 = x.2)) ↔ y = x := by
  rw [List.mem_filter]
  constructor
  · rintro ⟨hy, e⟩
    have e2 : y.2 = x.2 := of_decide_eq_true e
    rcases List.mem_append.mp hy with hy | hy
    · have := h.split y hy x List.mem_cons_self
      omega
    · rcases List.mem_cons.mp hy with hy | hy
      · exact hy
      · have := RepOk.split (rs1 := rs1 ++ [x]) (rs2 := r) (by rw [List.append_assoc]; exact h) x (by simp) y hy
        omega
  · rintro rfl
    exact ⟨by simp, decide_eq_true rfl⟩
section
variable {K : PySem.W.Frag} {H : Hp}
theorem dp_rep {v : V} {x : Nat × Nat} (h : Dp K H v (repD x)) : ∃ p, v = .ref p ∧ SqT K H p (repV x) := by
  cases h with
  | tup s a =>
    obtain ⟨v0, v1, rfl, h0, h1⟩ := dpa2 a
    cases h0
    cases h1
    exact ⟨_, rfl, s⟩
theorem dp_rep_of {p : Addr} {x : Nat × Nat} (h : SqT K H p (repV x)) : Dp K H (.ref p) (repD x) := .tup h (.cons (.int _) (.cons (.int _) .nil))
theorem rep_at {vs : List V} {rs : List (Nat × Nat)} {i : Nat} {v : V} (h : DpAll K H vs (repsD rs)) (e : vs[i]? = some v) : ∃ x, rs[i]? = some x ∧ Dp K H v (repD x) := by
  obtain ⟨d, e1, hd⟩ := dpa_at h e
  rw [List.getElem?_map] at e1
  cases q : rs[i]? with
  | none =>
    rw [q] at e1
    cases e1
  | some x =>
    rw [q] at e1
    have e2 : repD x = d := Option.some.inj e1
    subst e2
    exact ⟨x, rfl, hd⟩
end
theorem isTs_reps : ∀ rs : List (Nat × Nat), isTs (repsD rs) = true
  | [] => rfl
  | x :: r => by
    show (isT (repD x) && isTs (repsD r)) = true
    rw [isTs_reps r]
    rfl
theorem shp_rep (x : Nat × Nat) : Shp 1 (repD x) := shp_tup (shpA_cons (shp_int _) (shpA_cons (shp_int _) shpA_nil))
theorem eqv_rep (x y : Nat × Nat) : PyData.eqv (repD x) (repD y) = true ↔ x = y := by
  obtain ⟨a, b⟩ := x
  obtain ⟨c, d⟩ := y
  simp [repD, PyData.eqv, PyData.eqvAll]
  omega
theorem sc__law_repeats : FnScope ["dice", "bars", "found", "at", "turn", "begin", "end"] ["dice", "bars"] (defScope s__law_repeats) := ⟨rfl, rfl, rfl, by decide +kernel, rfl, by decide +kernel, by decide +kernel⟩
section
variable {K : PySem.W.Frag} {mg : Str → Option Value}
theorem b__law_repeats (T : Txt K mg) : Binds K (fdOf K ("_law_repeats", none)) ["dice", "bars"] [] := T._law_repeats.bindsN fun _ _ _ _ _ _ us hl => match us, hl with | [_, _], _ => rfl
end
def sp__law_repeats (K : PySem.W.Frag) : Sp := fun vs H Q _ => ∃ (d a : Addr) (bs : List Bar), vs = [.ref d, .ref a] ∧ Dice H d ∧ RowAt K H a bs ∧ a ≠ d ∧ bs.length ≤ 1000 ∧ ∀ v H' rs, Fr [d] H H' → Dice H' d → Dp K H' v (.tuple (repsD rs)) → RepOk bs.length 0 rs → rs.length ≤ 3 → Q v H'
theorem ok__law_repeats {P : Program} {w : World} {K : PySem.W.Frag} {mg : Str → Option Value} {base : Heap} (T : Txt K mg) : OkF P w K mg base CX0 3 ("_law_repeats", none) ["dice", "bars"] (sp__law_repeats K) := by
  refine okN T._law_repeats sc__law_repeats (fun vs H Q E h => ?_) (fun cdv A outer s H vs Q E hr h => ?_)
  · obtain ⟨d, a, bs, rfl, _⟩ := h
    rfl
  · obtain ⟨d, a, bs, rfl, hD, row, nad, hlen, z⟩ := h
    refine ⟨_, (pss_cons (ps_par (by rfl) sc__law_repeats.nd (i := 2) (j := 3) rfl rfl (by decide) rfl rfl (pa_cons (pe_lst pa_nil) (pa_cons pe_int pa_nil)) (by rfl))
      (pss_cons (ps_for PassesOwn.never rfl (pi_range1 (by rfl) T.b_range (pa_cons (pe_call (ok__law_roll T) (hr.mono (by decide)) (by rfl) T.g__law_roll T._law_roll.kp (b__law_roll T) .nil pass0 (pa_cons (pv 0) (pa_cons pe_int pa_nil))) pa_nil)) (pg_name (i := 4) sc__law_repeats.nd rfl (by first | exact Or.inl rfl | exact Or.inr rfl))
      (pss_cons (ps_set (i := 5) sc__law_repeats.nd rfl (by first | exact Or.inl rfl | exact Or.inr rfl) (pe_op op_add (pv 3) (pe_call (ok__law_roll T) (hr.mono (by decide)) (by rfl) T.g__law_roll T._law_roll.kp (b__law_roll T) .nil pass0 (pa_cons (pv 0) (pa_cons pe_int pa_nil)))))
      (pss_cons (ps_set (i := 6) sc__law_repeats.nd rfl (by first | exact Or.inl rfl | exact Or.inr rfl) (pe_op op_add (pv 5) (pe_call (ok__law_roll T) (hr.mono (by decide)) (by rfl) T.g__law_roll T._law_roll.kp (b__law_roll T) .nil pass0 (pa_cons (pv 0) (pa_cons pe_int pa_nil)))))
      (pss_one (ps_if (pt_cmpR op_lt (pv 6) (pe_callB call_len (by rfl) T.b_len PySem.boot_len (pa_cons (pv 1) pa_nil)) (nomark _)) (pss_cons (ps_expr (pe_bm PySem.F.plainAttrs_list PySem.F.slot_list_append PySem.F.type_list_append mt_append (pv 2) (pa_cons (pe_tup (pa_cons (pv 5) (pa_cons (pv 6) pa_nil))) pa_nil)))
      (pss_one (ps_set (i := 3) sc__law_repeats.nd rfl (by first | exact Or.inl rfl | exact Or.inr rfl) (pe_op op_add (pv 6) pe_int)))) pss_nil)))))
      (pss_one (ps_ret (pe_callTy call_tuple_of (by rfl) T.b_tuple (by decide +kernel) (pa_cons (pv 2) pa_nil)))))), ?_⟩
    refine ⟨by decide, fun F nF => ⟨_, _, rfl, ?_⟩⟩
    have sF := same_upd (o := .lst []) nF
    have nFd : F ≠ d := new_ne hD nF
    refine ⟨_, rfl, d, 4, rfl, hD.same sF, by decide, by decide, fun H1 r f1 hD1 r0 r1 => ⟨r, rfl, by omega, by omega, ?_⟩⟩
    have g1 := (Fr.of sF [d]).trans f1
    refine for_range (lo := 0) (n := r.toNat) (fun j σ H' => Fr [d] H H' ∧ Dice H' d ∧ ∃ (rs : List (Nat × Nat)) (at_ : Nat) (ws : List V) (y4 y5 y6 : Option V), rs.length ≤ j ∧ at_ ≤ bs.length ∧ (∀ more, RepOk bs.length at_ more → RepOk bs.length 0 (rs ++ more)) ∧ H' F = some (.lst ws) ∧ DpAll K H' ws (repsD rs) ∧ σ = [some (.ref d), some (.ref a), some (.ref F), some (.int (at_ : Int)), y4, y5, y6]) ⟨g1, hD1, [], 0, [], none, none, none, Nat.le_refl _, Nat.zero_le _, fun _ h => h, f1.keep _ _ (by simp [nFd]) upd_same, .nil, rfl⟩ ?_ ?_
    · rintro j σ H2 hj ⟨f2, hD2, rs, at_, ws, y4, y5, y6, hrl, hat, hrep, hF2, hds2, rfl⟩
      refine ⟨_, rfl, _, rfl, d, 4, rfl, hD2, by decide, by decide, fun H3 r3 f3 hD3 a3 b3 => ⟨_, _, rfl, rfl, ?_⟩⟩
      obtain ⟨n3, rfl⟩ : ∃ k : Nat, r3 = (k : Int) := ⟨r3.toNat, by omega⟩
      refine ⟨_, rfl, _, rfl, d, 5, rfl, hD3, by decide, by decide, fun H4 r4 f4 hD4 a4 b4 => ⟨_, _, rfl, rfl, ?_⟩⟩
      obtain ⟨n4, rfl⟩ : ∃ k : Nat, r4 = (k : Int) := ⟨r4.toNat, by omega⟩
      have g4 := (f2.trans f3).trans f4
      have row4 : RowAt K H4 a bs := row.fr g4 (by simp [nad])
      have hF4 := f4.keep _ _ (by simp [nFd]) (f3.keep _ _ (by simp [nFd]) hF2)
      have hds4 := f4.dpa (f3.dpa hds2 (isTs_reps rs)) (isTs_reps rs)
      obtain ⟨bv, v1, v2⟩ := id row4
      refine ⟨_, rfl, _, rfl, _, _, rfl, .inl ⟨_, .of v1, rfl⟩, _, _, rfl, rfl, _, rfl, ?_⟩
      rw [bars_len v2]
      have ee : (at_ : Int) + (n3 : Int) + (n4 : Int) = ((at_ + n3 + n4 : Nat) : Int) := by omega
      refine ite2P (fun hlt => ?_) (fun hlt => ?_)
      · have hlt2 : at_ + n3 + n4 < bs.length := by omega
        refine ⟨_, rfl, .inl ⟨rfl, _, .of hF4⟩, _, rfl, _, rfl, by show (2 : Nat) ≤ sizeLine; decide, fun t nt => ?_⟩
        have st := same_upd (o := .tup [.int ((at_ : Int) + (n3 : Int)), .int ((at_ : Int) + (n3 : Int) + (n4 : Int))]) nt
        refine ⟨F, ws, _, rfl, rfl, st _ _ hF4, ?_, ?_⟩
        · rw [dpa_len hds4, List.length_map]
          exact small1000 (by omega)
        have f5 : Fr [F] (upd H4 t (.tup [.int ((at_ : Int) + (n3 : Int)), .int ((at_ : Int) + (n3 : Int) + (n4 : Int))])) _ := Fr.upd (u := .lst (ws ++ [.ref t])) (st _ _ hF4) trivial (by simp)
        refine ⟨_, rfl, _, _, rfl, rfl, (g4.then st).step f5 (by simp [nF]), (hD4.same st).keep f5 (by simp [nFd.symm]), rs ++ [(at_ + n3, at_ + n3 + n4)], at_ + n3 + n4 + 1, ws ++ [.ref t], _, _, _, ?_, by omega, ?_, upd_same, ?_, rfl⟩
        · rw [List.length_append]
          show rs.length + 1 ≤ j + 1
          omega
        · intro more hm
          rw [List.append_assoc]
          refine hrep _ ⟨?_, ?_, hlt2, hm⟩
          · show at_ ≤ at_ + n3
            omega
          · show at_ + n3 ≤ at_ + n3 + n4
            omega
        · show DpAll K _ _ (List.map repD (rs ++ [(at_ + n3, at_ + n3 + n4)]))
          rw [List.map_append]
          refine dpa_snoc (f5.dpa (dpa_same st hds4) (isTs_reps rs)) (f5.dp (dp_rep_of (x := (at_ + n3, at_ + n3 + n4)) (.of upd_same)) rfl)
      · exact ⟨g4, hD4, rs, at_, ws, _, _, _, by omega, hat, hrep, hF4, hds4, rfl⟩
    · rintro σ H2 ⟨f2, hD2, rs, at_, ws, y4, y5, y6, hrl, hat, hrep, hF2, hds2, rfl⟩
      refine ⟨_, rfl, F, _, rfl, .inl ⟨.of hF2, fun t nt => ?_⟩⟩
      have st := same_upd (o := .tup ws) nt
      have okr := hrep [] trivial
      rw [List.append_nil] at okr
      exact z _ _ rs (f2.then st) (hD2.same st) (.tup (.of upd_same) (dpa_same st hds2)) okr (by omega)
theorem sum_take_le : ∀ (ns : List Nat) (i : Nat), (ns.take i).sum ≤ ns.sum
  | [], _ => by simp
  | n :: r, 0 => by simp
  | n :: r, i + 1 => by
    have := sum_take_le r i
    simp only [List.take_succ_cons, List.sum_cons]
    omega
theorem sum_at : ∀ {ns : List Nat} {i : Nat}, i < ns.length → ns.getD i 0 ≤ (ns.take (i + 1)).sum
  | [], _, h => by simp at h
  | n :: r, 0, _ => by simp
  | n :: r, i + 1, h => by
    have := sum_at (ns := r) (i := i) (by simpa using h)
    simp only [List.take_succ_cons, List.sum_cons, List.getD_cons_succ]
    omega
theorem numsV_at {ns : List Nat} {i : Nat} (h : i < ns.length) : (numsV ns)[i]? = some (.int ((ns.getD i 0 : Nat) : Int)) := by
  rw [List.getElem?_map, List.getElem?_eq_getElem h, List.getD_eq_getElem?_getD, List.getElem?_eq_getElem h]
  rfl
theorem numsV_sum : ∀ ns : List Nat, (ns.map fun (n : Nat) => (n : Int)).sum = ((ns.sum : Nat) : Int)
  | [] => rfl
  | n :: r => by
    simp only [List.map_cons, List.sum_cons, numsV_sum r]
    omega
theorem count_nums : ∀ ns : List Nat, (numsD ns).countP (fun z => PyData.eqv z (.int 0)) = ns.count 0
  | [] => rfl
  | n :: r => by
    have e : PyData.eqv (.int (n : Int)) (.int 0) = (n == 0) := by
      simp only [PyData.eqv]
      rw [Bool.eq_iff_iff]
      simp
    simp only [List.map_cons, List.countP_cons, List.count_cons, count_nums r, e]
def isNat0 : PyData → Bool
  | .int i => decide (0 ≤ i)
  | _ => false
def areNums : PyData → Bool
  | .tuple ds => ds.all isNat0
  | _ => false
theorem areNums_nums : ∀ ns : List Nat, areNums (.tuple (numsD ns)) = true
  | [] => rfl
  | n :: r => by
    show (decide (0 ≤ (n : Int)) && (numsD r).all isNat0) = true
    rw [decide_eq_true (Int.natCast_nonneg n), show (numsD r).all isNat0 = true from areNums_nums r]
    rfl
theorem nums_of_are : ∀ {ds : List PyData}, ds.all isNat0 = true → ∃ ns : List Nat, ds = numsD ns
  | [], _ => ⟨[], rfl⟩
  | d :: ds, h => by
    obtain ⟨h1, h2⟩ := Bool.and_eq_true_iff.mp h
    obtain ⟨ns, rfl⟩ := nums_of_are h2
    cases d with
    | int i =>
      have h3 : 0 ≤ i := of_decide_eq_true h1
      exact ⟨i.toNat :: ns, by
        show _ = PyData.int ((i.toNat : Nat) : Int) :: numsD ns
        rw [Int.toNat_of_nonneg h3]⟩
    | _ => cases h1
/-- the first fault of any thing -/
def faultAny (bs : List Bar) (k : Desk) (d : PyData) (ns : List Nat) : Option Wrong := if areNums d = true then faultN bs k ns else some .form
def natsOf : PyData → List Nat
  | .tuple ds => ds.map fun d => match d with
    | .int i => i.toNat
    | _ => 0
  | _ => []
theorem natsOf_nums (ns : List Nat) : natsOf (.tuple (numsD ns)) = ns := by
  show (numsD ns).map _ = ns
  rw [List.map_map]
  exact List.map_id'' (fun n => rfl) ns
def faultG (bs : List Bar) (k : Desk) (d : PyData) : Option Wrong := if areNums d = true then faultN bs k (natsOf d) else some .form
theorem faultFrom_step {bs : List Bar} {k : Desk} {ns : List Nat} {i m : Nat} : faultFrom bs k ns i (m + 1) = match pageFault bs k ns i with
    | some x => some x
    | none => faultFrom bs k ns (i + 1) m := rfl
theorem dp_none {K : PySem.W.Frag} {H : Hp} {v : V} (h : Dp K H v .none) : v = .non := by
  cases h
  rfl
theorem dp_wrong {K : PySem.W.Frag} {H : Hp} {v : V} {x : Wrong} (h : Dp K H v (wrongD x)) : v ≠ .non := by
  intro e
  subst e
  cases x <;> cases h
/-! ### the turnings of leaves -/
def pageOf : List Nat → Nat → Nat
  | [], _ => 0
  | n :: r, b => if b < n then 0 else pageOf r (b - n) + 1
theorem pageOf_eq : ∀ {ns : List Nat} {i b : Nat}, (ns.take i).sum ≤ b → b < (ns.take (i + 1)).sum → pageOf ns b = i
  | [], i, b, h1, h2 => by simp at h2
  | n :: r, 0, b, h1, h2 => by
    unfold pageOf
    have : b < n := by simpa using h2
    rw [if_pos this]
  | n :: r, i + 1, b, h1, h2 => by
    rw [List.take_succ_cons, List.sum_cons] at h1 h2
    unfold pageOf
    rw [if_neg (by omega), pageOf_eq (ns := r) (i := i) (b := b - n) (by omega) (by omega)]
structure Leaf where
  one : Nat
  other : Nat
  many : Nat
  time : Int
def leafD (x : Leaf) : PyData := .tuple [.int (x.one : Int), .int (x.other : Int), .int (x.many : Int), .int x.time]
def leafV (x : Leaf) : List V := [.int (x.one : Int), .int (x.other : Int), .int (x.many : Int), .int x.time]
def rightsIn (k : Desk) (lo hi : Nat) : Nat := ((List.range' lo (hi - lo)).filter (isRight k)).length
def leafOf (bs : List Bar) (k : Desk) (ns : List Nat) (p : Nat × Nat) : Leaf :=
  ⟨p.1, p.2, rightsIn k (min (pageOf ns p.1) (pageOf ns p.2)) (max (pageOf ns p.1) (pageOf ns p.2)), beatsOf (bs.take (p.1 + 1)).reverse + beatsOf (bs.drop p.2)⟩
def leavesP (bs : List Bar) (k : Desk) (ns : List Nat) (ps : List (Nat × Nat)) : List Leaf := (ps.map (leafOf bs k ns)).filter fun x => decide (0 < x.many)
def leavesL (bs : List Bar) (k : Desk) (ns : List Nat) (rs : List (Nat × Nat)) : List Leaf := leavesP bs k ns ((orderOf bs.length 0 rs).zip (orderOf bs.length 0 rs).tail)
def playsL (bs : List Bar) (k : Desk) (ns : List Nat) (rs : List (Nat × Nat)) : Bool := (leavesL bs k ns rs).all fun x => decide ((x.many : Int) * k.turn ≤ x.time)
theorem order_lt : ∀ {n a : Nat} {rs : List (Nat × Nat)}, RepOk n a rs → ∀ b ∈ orderOf n a rs, b < n
  | n, a, [], _, b, h => by
    have h' : b ∈ List.range' a (n - a) := h
    rw [List.mem_range'_1] at h'
    omega
  | n, a, x :: r, h, b, hb => by
    obtain ⟨h1, h2, h3, h4⟩ := h
    rcases List.mem_append.mp hb with hb | hb
    · rcases List.mem_append.mp hb with hb | hb
      · have h' : b ∈ List.range' a (x.2 + 1 - a) := hb
        rw [List.mem_range'_1] at h'
        omega
      · have h' : b ∈ List.range' x.1 (x.2 + 1 - x.1) := hb
        rw [List.mem_range'_1] at h'
        omega
    · exact order_lt h4 b hb
theorem leavesP_take {bs : List Bar} {k : Desk} {ns : List Nat} {ps : List (Nat × Nat)} {i : Nat} {p : Nat × Nat} (h : ps[i]? = some p) : leavesP bs k ns (ps.take (i + 1)) = leavesP bs k ns (ps.take i) ++ (if 0 < (leafOf bs k ns p).many then [leafOf bs k ns p] else []) := by
  unfold leavesP
  rw [take_at h, List.map_append, List.filter_append]
  congr 1
  rw [List.map_cons, List.map_nil, List.filter_cons]
  by_cases hm : 0 < (leafOf bs k ns p).many
  · rw [decide_eq_true hm, if_pos rfl, if_pos hm]
    rfl
  · rw [decide_eq_false hm, if_neg Bool.false_ne_true, if_neg hm]
    rfl
theorem leavesP_len (bs : List Bar) (k : Desk) (ns : List Nat) (ps : List (Nat × Nat)) : (leavesP bs k ns ps).length ≤ ps.length := by
  unfold leavesP
  refine Nat.le_trans (List.length_filter_le _ _) ?_
  rw [List.length_map]
  exact Nat.le_refl _
theorem isTs_leaves : ∀ l : List Leaf, isTs (l.map leafD) = true
  | [] => rfl
  | x :: r => by
    show (isT (leafD x) && isTs (r.map leafD)) = true
    rw [isTs_leaves r]
    rfl
theorem zip_tail {α : Type} (l : List α) : l.zip l.tail = l.zip (l.drop 1) := by rw [List.drop_one]
def pagesN : List Nat → Nat → List Nat
  | [], _ => []
  | n :: r, i => List.replicate n i ++ pagesN r (i + 1)
theorem pagesN_len : ∀ (ns : List Nat) (j : Nat), (pagesN ns j).length = ns.sum
  | [], _ => rfl
  | n :: r, j => by
    show (List.replicate n j ++ pagesN r (j + 1)).length = _
    rw [List.length_append, List.length_replicate, pagesN_len r, List.sum_cons]
theorem pagesN_at : ∀ {ns : List Nat} {j b : Nat}, b < ns.sum → (pagesN ns j)[b]? = some (j + pageOf ns b)
  | [], j, b, h => by simp at h
  | n :: r, j, b, h => by
    rw [List.sum_cons] at h
    show (List.replicate n j ++ pagesN r (j + 1))[b]? = _
    unfold pageOf
    by_cases hb : b < n
    · rw [if_pos hb, List.getElem?_append_left (by rw [List.length_replicate]; exact hb), List.getElem?_replicate, if_pos hb]
      rfl
    · rw [if_neg hb, List.getElem?_append_right (by rw [List.length_replicate]; omega), List.length_replicate, pagesN_at (ns := r) (j := j + 1) (b := b - n) (by omega)]
      congr 1
      omega
theorem pagesN_snoc : ∀ (ns : List Nat) (m j : Nat), pagesN (ns ++ [m]) j = pagesN ns j ++ List.replicate m (j + ns.length)
  | [], m, j => by
    show List.replicate m j ++ [] = [] ++ List.replicate m (j + 0)
    rw [List.append_nil, List.nil_append, Nat.add_zero]
  | n :: r, m, j => by
    show List.replicate n j ++ pagesN (r ++ [m]) (j + 1) = (List.replicate n j ++ pagesN r (j + 1)) ++ _
    rw [pagesN_snoc r m (j + 1), List.append_assoc, List.length_cons]
    congr 3
    omega
theorem rep_flat (m i : Nat) : (List.replicate m [V.int (i : Int)]).flatten = numsV (List.replicate m i) := by
  induction m with
  | zero => rfl
  | succ m ih =>
    rw [List.replicate_succ, List.flatten_cons, ih]
    rfl
theorem sc_page_with : FnScope ["layout", "bar", "page", "end"] ["layout", "bar"] (defScope s_page_with) := ⟨rfl, rfl, rfl, by decide +kernel, rfl, by decide +kernel, by decide +kernel⟩
section
variable {K : PySem.W.Frag} {mg : Str → Option Value}
theorem b_page_with (T : Txt K mg) : Binds K (fdOf K ("page_with", none)) ["layout", "bar"] [] := T.page_with.bindsN fun _ _ _ _ _ _ us hl => match us, hl with | [_, _], _ => rfl
end
def sp_page_with (K : PySem.W.Frag) : Sp := fun vs H Q _ => ∃ (y : V) (ns : List Nat) (bar : Nat), vs = [y, .int (bar : Int)] ∧ Dp K H y (.tuple (numsD ns)) ∧ bar < ns.sum ∧ Q (.int ((pageOf ns bar : Nat) : Int)) H
theorem ok_page_with {P : Program} {w : World} {K : PySem.W.Frag} {mg : Str → Option Value} {base : Heap} (T : Txt K mg) : OkF P w K mg base CX0 1 ("page_with", none) ["layout", "bar"] (sp_page_with K) := by
  refine okN T.page_with sc_page_with (fun vs H Q E h => ?_) (fun cdv A outer s H vs Q E hr h => ?_)
  · obtain ⟨y, ns, bar, rfl, _⟩ := h
    rfl
  · obtain ⟨y, ns, bar, rfl, hy, hb, z⟩ := h
    obtain ⟨t, rfl, ht⟩ := dp_nums hy
    have h0 : 0 < ns.length := by
      cases ns with
      | nil => simp at hb
      | cons a r => simp
    refine ⟨_, (pss_cons (ps_par (by rfl) sc_page_with.nd (i := 2) (j := 3) rfl rfl (by decide) rfl rfl (pa_cons pe_int (pa_cons (pe_ix ix_tup (pv 0) pe_int (fun _ _ => rfl)) pa_nil)) (by rfl))
      (pss_cons (ps_while PassesOwn.never (pt_cmpR op_ge (pv 1) (pv 3) (nomark _))
      (pss_cons (ps_set (i := 2) sc_page_with.nd rfl (by first | exact Or.inl rfl | exact Or.inr rfl) (pe_op op_add (pv 2) pe_int))
      (pss_one (ps_set (i := 3) sc_page_with.nd rfl (by first | exact Or.inl rfl | exact Or.inr rfl) (pe_op op_add (pv 3) (pe_ix ix_tup (pv 0) (pv 2) (fun _ _ => rfl)))))))
      (pss_one (ps_ret (pv 2))))), ?_⟩
    refine ⟨_, rfl, t, _, _, _, rfl, rfl, ht, atI_nat (numsV_at h0), _, _, rfl, ?_⟩
    refine ⟨fun m σ H' => H = H' ∧ ∃ i : Nat, i < ns.length ∧ (ns.take i).sum ≤ bar ∧ σ = [some (.ref t), some (.int (bar : Int)), some (.int (i : Int)), some (.int (((ns.take (i + 1)).sum : Nat) : Int))] ∧ m = ns.length - i, ⟨_, rfl, 0, h0, Nat.zero_le _, ?_, rfl⟩, ?_⟩
    · cases ns with
      | nil => simp at hb
      | cons a r =>
        simp
        rfl
    rintro m σ H2 ⟨rfl, i, hi, hs, rfl, hm⟩
    refine ⟨_, rfl, _, rfl, _, _, rfl, rfl, _, rfl, ?_⟩
    refine ite2P (fun hge => ?_) (fun hlt => ?_)
    · have hi1 : i + 1 < ns.length := by
        rcases Nat.lt_or_ge (i + 1) ns.length with h | h
        · exact h
        · rw [List.take_of_length_le h] at hge
          omega
      refine ⟨fun σ' H' => ∃ m', m' < m ∧ H = H' ∧ ∃ i : Nat, i < ns.length ∧ (ns.take i).sum ≤ bar ∧ σ' = [some (.ref t), some (.int (bar : Int)), some (.int (i : Int)), some (.int (((ns.take (i + 1)).sum : Nat) : Int))] ∧ m' = ns.length - i, fun _ _ h => h, ?_⟩
      have hat : atI (numsV ns) ((i : Int) + 1) = some (.int ((ns.getD (i + 1) 0 : Nat) : Int)) := by
        rw [show ((i : Int) + 1) = ((i + 1 : Nat) : Int) by omega]
        exact atI_nat (numsV_at hi1)
      refine ⟨_, rfl, _, _, rfl, rfl, _, rfl, _, rfl, _, rfl, t, _, _, _, rfl, rfl, ht, hat, _, _, rfl, rfl, ?_⟩
      refine ⟨ns.length - (i + 1), by omega, rfl, i + 1, hi1, by omega, ?_, rfl⟩
      have e : (ns.take (i + 1 + 1)).sum = (ns.take (i + 1)).sum + ns.getD (i + 1) 0 := by
        rw [List.take_add_one, List.sum_append, List.getD_eq_getElem?_getD]
        cases ns[i + 1]? <;> simp
      rw [e]
      rfl
    · refine ⟨_, rfl, ?_⟩
      rw [pageOf_eq hs (by omega)] at z
      exact z
section
variable {X : Cx}
/-- a def run within, around A' -/
theorem run_at {n : Nat} {f : Addr} {fd : FuncData} {ps : List Str} {sp : Sp} {pins : List (Addr × Obj)} {σ : L2.St} {H : Hp} {s : Shared} {A' : Around} {vs : List V} {us : List Value} {Q : VK} {E : XK} {E' : Value → Shared → Prop}
    (F : FnOk X.prog X.w X.K X.mg X.base CX0 n f fd ps sp) (hb : Binds X.K fd ps []) (I : Inv X pins σ H s) (hr : Room n A') (hf : A'.frames = X.A.frames) (rv : Vals vs us) (hsp : sp vs H Q E) :
    wpAny (model X.prog X.w) A' (call (.ref f) us) (EP X pins σ Q) E' s := by
  have e0 : Env0 X.prog X.w X.K X.mg X.base A' X.stack s H := by
    have e := I.env0
    exact ⟨by rw [hf]; exact e.frames, e.mod, e.bs, e.bsz, e.funs, e.frf, e.hok, e.bare⟩
  have hl := F.len _ _ _ _ hsp
  have hl2 := rv.length
  refine wpAny_call (codeAny_mono (F.run A' X.stack s H ⟨us, []⟩ us vs Q E hr e0 (by
    have := hb s us I.kIn (by simp; omega)
    simpa using this) rv hsp) fun r s' hq => ?_)
  cases r with
  | error e => exact hq.elim
  | ok fl =>
    cases fl with
    | ret w => exact I.after hq
    | next => exact False.elim hq
    | brk => exact False.elim hq
    | cont => exact False.elim hq
end
section
open PySem.W
variable {prog : Program} {w : World} {A : Around} {E : Value → Shared → Prop} {s : Shared} {K : Frag} {x C f : Addr} {ox : Obj} {od : Option Obj} {b tb : Value}
/-- a built-in slot of an object of a class of K, by its name, bound -/
theorem slot_bound {M : Model} {self : Value} {name : PySem.Str} {id : String} {args : List Value} {Q : Option Value → Shared → Prop} (sp : Looks M s.heap (specialOf self name) (some (.builtin id))) (hb : bindSpecial (.builtin id) self = pure (.builtin id, [self]))
    (hc : wpAny M A (call (.builtin id) ([self] ++ args)) (fun v => Q (some v)) E s) : wpAny M A (callSpecialIfBound? self name args) Q E s := by
  simp only [callSpecialIfBound?, bindSpecialIfBound?]
  refine wpAny_holding (wpAny_bind (wpAny_bind (sp.here ?_)))
  refine wpAny_bind (wpAny_askSetting (wpAny_ite ?_))
  have fin : wpAny M A (call (.builtin id) ([self] ++ args) >>= fun v => pure (some v)) Q E s := wpAny_bind (wpAny_mono hc (fun v s' h' => wpAny_pure h') fun _ _ h' => h')
  split
  · exact wpAny_bind (wpAny_of_eq hb (wpAny_pure (by exact fin)))
  · exact wpAny_tryCatch (wpAny_bind (wpAny_of_eq hb (wpAny_pure (by exact fin))))
/-- x != b where only == is one's own -/
theorem ne_K {Q : Value → Shared → Prop} (hu : A.units + 1 < cLine) (X : K.In s.heap) (I : InstAt s.heap x ox C od) (hb : Looks (model prog w) s.heap (typeOf b) tb) (hn : notFirst K C tb = true)
    (hs : findIn K (.ref C) "__ne__" = some (some (.builtin "object.__ne__"))) (hm : mroIn K C (.type "object") = some true) (he : findIn K (.ref C) "__eq__" = some (some (.ref f))) (hf : isFn K (.ref f) = true)
    (h : wpAny (model prog w) A.in1 (call (.ref f) [.ref x, b]) (fun v s' => ∃ k, v = .bool k ∧ Q (.bool (!k)) s') E s) : wpAny (model prog w) A (richCompare .NotEq (.ref x) b) Q E s := by
  have body : wpAny (model prog w) A.in1 (Builtin.«object.__ne__» ⟨[.ref x, b], []⟩) (fun fin s' => ∃ v, fin = .done (.ret v) ∧ v ≠ .notImplemented ∧ Q v s') E s := by
    unfold Builtin.«object.__ne__»
    repeat (first
      | with_reducible refine wpAny_cRoomFor hu ?_
      | (refine wpAny_bind (m := callSpecialIfBound? (.ref x) (Str.ofString "__eq__") [b])
          (ifBound_K X I he hf (wpAny_mono h (fun r s' hr => by
            obtain ⟨k, rfl, hq⟩ := hr
            repeat (first | exact ⟨_, rfl, by simp, hq⟩ | exact wpAny_pure ⟨_, rfl, by simp, hq⟩ | exact wpAny_truthy_bool ⟨_, rfl, by simp, hq⟩ | (refine wpAny_bind (m := truthy (.bool _)) (wpAny_truthy_bool ?_)) | wp_step)) fun _ _ e => e)))
      | wp_step)
  have one : wpAny (model prog w) A (tryCompare (.ref x) "__ne__" b) (fun r s' => ∃ v, r = some v ∧ Q v s') E s := by
    unfold tryCompare
    refine wpAny_bind (slot_bound (I.type.andThen (looks_findIn X hs)) (PySem.F.cmp_object.ne.bind _) (wpAny_call (codeAny_call_builtin PySem.F.cmp_object.ne.plain PySem.F.cmpEntry_ne
      (check_slot (i := "object.__ne__") (owner := "object") (n := "__ne__") PySem.F.cmpKind_ne PySem.F.cmpSplit_ne (I.type.andThen (looks_mroIn X hm)) (PySem.F.cmpArgs_ne _ _) (wpAny_mono body (fun fin s' z => ?_) fun _ _ e => e)))))
    obtain ⟨v, rfl, nv, hq⟩ := z
    cases v <;> first | exact absurd rfl nv | exact wpAny_pure ⟨_, rfl, hq⟩
  unfold richCompare
  simp only [oneThing_ref]
  refine wpAny_holding (wpAny_bind (wpAny_cRoomFor (by omega) ?_))
  refine wpAny_bind (I.type.here (wpAny_bind (hb.here ?_)))
  split
  · rename_i q
    have e : subIn K tb (.ref C) = some false := by
      rcases Bool.or_eq_true_iff.mp hn with e | e
      · rw [beq_iff_eq.mp e] at q; simp at q
      · exact beq_iff_eq.mp e
    refine wpAny_bind ((looks_subIn X e).here ?_)
    simp only [Bool.false_eq_true, if_false]
    refine wpAny_bind (wpAny_mono one (fun r s' z => ?_) fun _ _ e => e)
    obtain ⟨v, rfl, hq⟩ := z
    exact wpAny_pure hq
  · refine wpAny_bind (wpAny_pure ?_)
    simp only [Bool.false_eq_true, if_false]
    refine wpAny_bind (wpAny_mono one (fun r s' z => ?_) fun _ _ e => e)
    obtain ⟨v, rfl, hq⟩ := z
    exact wpAny_pure hq
end
theorem sc_Part_len : FnScope ["self"] ["self"] (defScope s_Part_len) := ⟨rfl, rfl, rfl, by decide +kernel, rfl, by decide +kernel, by decide +kernel⟩
section
variable {K : PySem.W.Frag} {mg : Str → Option Value}
theorem b_Part_len (T : Txt K mg) : Binds K (fdOf K ("Part", some "__len__")) ["self"] [] := T.Part_len.bindsN fun _ _ _ _ _ _ us hl => match us, hl with | [_], _ => rfl
end
def sp_Part_len (K : PySem.W.Frag) : Sp := fun vs H Q _ => ∃ (p q : Addr) (bs : List Bar) (past : List (List Bar)), vs = [.ref p] ∧ PartX K H p q bs past ∧ Q (.int (bs.length : Nat)) H
theorem ok_Part_len {P : Program} {w : World} {K : PySem.W.Frag} {mg : Str → Option Value} {base : Heap} (T : Txt K mg) : OkF P w K mg base CX0 1 ("Part", some "__len__") ["self"] (sp_Part_len K) := by
  refine okN T.Part_len sc_Part_len (fun vs H Q E h => ?_) (fun cdv A outer s H vs Q E hr h => ?_)
  · obtain ⟨p, q, bs, past, rfl, _⟩ := h
    rfl
  · obtain ⟨p, q, bs, past, rfl, hp, k⟩ := h
    obtain ⟨dx, r, ws, h1, n, ⟨vs, h2, h3⟩, _⟩ := hp
    refine ⟨_, (pss_one (ps_ret (pe_callB call_len (by rfl) T.b_len PySem.boot_len (pa_cons (pe_fld (pv 0) rfl) pa_nil)))), ?_⟩
    refine ⟨_, rfl, p, _, dx, _, _, rfl, h1, T.cl_Part, T.n_row, pf_row, _, _, rfl, .inl ⟨_, .of h2, rfl⟩, ?_⟩
    rw [bars_len h3]
    exact k
section
variable {X : Cx}
def rLenP (K : PySem.W.Frag) (sp : Sp) : List V → Hp → VK → Prop := fun xs H Q => ∃ p dx fs, xs = [.ref p] ∧ H p = some (.ins (pC K) dx fs) ∧ sp [.ref p] H (fun v H' => ∃ n : Nat, v = .int (n : Int) ∧ n < 1000000 ∧ Q (.int (n : Int)) H') E0
theorem call_lenP {n : Nat} {sp : Sp} (T : Txt X.K X.mg) (F : FnOk X.prog X.w X.K X.mg X.base CX0 n (He.fAd X.K ("Part", some "__len__")) (fdOf X.K ("Part", some "__len__")) ["self"] sp) (hr : Room (n + 1) X.A) : CallR X (.builtin "len") (rLenP X.K sp) := by
  intro pins s σ H xs us Q I r h
  obtain ⟨p, dx, fs, rfl, hp, hs⟩ := h
  obtain ⟨u, rfl, e⟩ := vals1 r
  cases e
  obtain ⟨mA, J, _⟩ := ins_get I.hok hp
  obtain ⟨od, J, _⟩ := J.look
  obtain ⟨m, hF⟩ := I.fr
  refine PySem.W.len_K hF I.ok.mod.kin J T.m_Part_len.at_ T.m_Part_len.fn ?_
  refine wpAny_mono (run_at (vs := [.ref p]) (Q := fun v H' => ∃ n : Nat, v = .int (n : Int) ∧ n < 1000000 ∧ Q (.int (n : Int)) H') (E := E0) F (b_Part_len T) I hr.in1 rfl (.cons rfl .nil) hs) (fun r s' z => ?_) fun _ _ z => z
  obtain ⟨v', H', I', r', b, rfl, hb, q⟩ := z
  obtain ⟨t, rfl⟩ := r'
  exact ⟨⟨by omega, by omega⟩, .int (b : Int), H', I'.tok _, ⟨_, rfl⟩, q⟩
end
theorem sc_order_of : FnScope ["part", "repeats", "found", "begin", "first", "last"] ["part", "repeats"] (defScope s_order_of) := ⟨rfl, rfl, rfl, by decide +kernel, rfl, by decide +kernel, by decide +kernel⟩
section
variable {K : PySem.W.Frag} {mg : Str → Option Value}
theorem b_order_of (T : Txt K mg) : Binds K (fdOf K ("order_of", none)) ["part", "repeats"] [] := T.order_of.bindsN fun _ _ _ _ _ _ us hl => match us, hl with | [_, _], _ => rfl
end
def sp_order_of (K : PySem.W.Frag) : Sp := fun vs H Q _ => ∃ (p q : Addr) (bs : List Bar) (past : List (List Bar)) (y : V) (rs : List (Nat × Nat)), vs = [.ref p, y] ∧ PartX K H p q bs past ∧ Dp K H y (.tuple (repsD rs)) ∧ RepOk bs.length 0 rs ∧ bs.length ≤ 1000 ∧
  ∀ v H', Same H H' → H v = none → H' v = some (.lst (numsV (orderOf bs.length 0 rs))) → Q (.ref v) H'
theorem ok_order_of {P : Program} {w : World} {K : PySem.W.Frag} {mg : Str → Option Value} {base : Heap} (T : Txt K mg) : OkF P w K mg base CX0 3 ("order_of", none) ["part", "repeats"] (sp_order_of K) := by
  refine okN T.order_of sc_order_of (fun vs H Q E h => ?_) (fun cdv A outer s H vs Q E hr h => ?_)
  · obtain ⟨p, q, bs, past, y, rs, rfl, _⟩ := h
    rfl
  · obtain ⟨p, q, bs, past, y, rs, rfl, hp, hy, ok, hbl, z⟩ := h
    obtain ⟨t, vs, rfl, ht, ha⟩ : ∃ t vs, y = .ref t ∧ SqT K H t vs ∧ DpAll K H vs (repsD rs) := by
      cases hy with
      | tup s a => exact ⟨_, _, rfl, s, a⟩
    have hvl : vs.length = rs.length := by rw [dpa_len ha, List.length_map]
    obtain ⟨dx, r, ws, h1, _⟩ := id hp
    have hlen := order_len ok
    refine ⟨_, (pss_cons (ps_par (by rfl) sc_order_of.nd (i := 2) (j := 3) rfl rfl (by decide) rfl rfl (pa_cons (pe_lst pa_nil) (pa_cons pe_int pa_nil)) (by rfl))
      (pss_cons (ps_for PassesOwn.never rfl (pi_tup (pv 1)) (pg_tup rfl (pgs_cons (pg_name (i := 4) sc_order_of.nd rfl (by first | exact Or.inl rfl | exact Or.inr rfl)) (pgs_cons (pg_name (i := 5) sc_order_of.nd rfl (by first | exact Or.inl rfl | exact Or.inr rfl)) pgs_nil)))
      (pss_cons (ps_set (i := 2) sc_order_of.nd rfl (by first | exact Or.inl rfl | exact Or.inr rfl) (pe_op op_cat (pe_op op_cat (pv 2) (pe_listRg rfl (by rfl) T.b_list (prg_2 (by rfl) T.b_range (pv 3) (pe_op op_add (pv 5) pe_int)))) (pe_listRg rfl (by rfl) T.b_list (prg_2 (by rfl) T.b_range (pv 4) (pe_op op_add (pv 5) pe_int)))))
      (pss_one (ps_set (i := 3) sc_order_of.nd rfl (by first | exact Or.inl rfl | exact Or.inr rfl) (pe_op op_add (pv 5) pe_int)))))
      (pss_one (ps_ret (pe_op op_cat (pv 2) (pe_listRg rfl (by rfl) T.b_list (prg_2 (by rfl) T.b_range (pv 3) (pe_callB (call_lenP T (ok_Part_len T) (hr.mono (by decide))) (by rfl) T.b_len PySem.boot_len (pa_cons (pv 0) pa_nil))))))))), ?_⟩
    refine ⟨by decide, fun F nF => ⟨_, _, rfl, ?_⟩⟩
    have sF := same_upd (o := .lst []) nF
    refine ⟨_, rfl, t, rfl, ⟨_, same_sqt sF ht⟩, for_tup (xs := vs) (fun i σ H' => Same H H' ∧ ∃ (k : Nat) (g : List Nat) (G : Addr) (y4 y5 : Option V), k ≤ bs.length ∧ RepOk bs.length k (rs.drop i) ∧ orderOf bs.length 0 rs = g ++ orderOf bs.length k (rs.drop i) ∧ H' G = some (.lst (numsV g)) ∧ σ = [some (.ref p), some (.ref t), some (.ref G), some (.int (k : Int)), y4, y5]) ⟨sF, 0, [], F, none, none, Nat.zero_le _, ok, rfl, upd_same, rfl⟩ ?_ ?_ ?_⟩
    · rintro i σ H' _ ⟨s, _⟩
      exact same_sqt s ht
    · rintro i v σ H' hv ⟨s1, k, g, G, y4, y5, hk, hok, hg, hG, rfl⟩
      obtain ⟨x, hx, hvx⟩ := rep_at ha hv
      rw [drop_at hx] at hok hg
      obtain ⟨k1, k2, k3, k4⟩ := hok
      obtain ⟨o, rfl, ho⟩ := dp_rep hvx
      refine ⟨o, _, rfl, same_sqt s1 ho, rfl, _, _, rfl, _, _, rfl, rfl, ?_⟩
      have hgl := congrArg List.length hg
      have e0 : orderOf bs.length k (x :: rs.drop (i + 1)) = rng k (x.2 + 1) ++ rng x.1 (x.2 + 1) ++ orderOf bs.length (x.2 + 1) (rs.drop (i + 1)) := rfl
      rw [e0, List.length_append, List.length_append, List.length_append] at hgl
      -- found + list(range(begin, last + 1)) + list(range(first, last + 1))
      refine ⟨_, rfl, _, rfl, _, rfl, _, _, rfl, rfl, _, _, rfl, rfl, ⟨by omega, by omega, by omega, by omega, by omega⟩, fun A1 nA1 => ?_⟩
      have eV1 : rgV (k : Int) ((x.2 : Int) + 1) = numsV (rng k (x.2 + 1)) := rng_V k (x.2 + 1)
      have eV2 : rgV (x.1 : Int) ((x.2 : Int) + 1) = numsV (rng x.1 (x.2 + 1)) := rng_V x.1 (x.2 + 1)
      rw [eV1]
      have e1 := same_upd (o := .lst (numsV (rng k (x.2 + 1)))) nA1
      refine ⟨G, A1, _, _, rfl, rfl, e1 _ _ hG, upd_same, ?_, fun B1 nB1 => ?_⟩
      · rw [List.length_map, List.length_map]
        exact Nat.le_of_lt (small5000 (by omega))
      have e2 := same_upd (o := .lst (numsV g ++ numsV (rng k (x.2 + 1)))) nB1
      refine ⟨_, rfl, _, rfl, _, _, rfl, rfl, _, _, rfl, rfl, ⟨by omega, by omega, by omega, by omega, by omega⟩, fun A2 nA2 => ?_⟩
      rw [eV2]
      have e3 := same_upd (o := .lst (numsV (rng x.1 (x.2 + 1)))) nA2
      refine ⟨B1, A2, _, _, rfl, rfl, e3 _ _ upd_same, upd_same, ?_, fun B2 nB2 => ?_⟩
      · rw [List.length_append, List.length_map, List.length_map, List.length_map]
        exact Nat.le_of_lt (small5000 (by omega))
      have e4 := same_upd (o := .lst (numsV g ++ numsV (rng k (x.2 + 1)) ++ numsV (rng x.1 (x.2 + 1)))) nB2
      refine ⟨_, rfl, _, _, rfl, rfl, ((s1.trans e1).trans e2).trans (e3.trans e4), x.2 + 1, g ++ rng k (x.2 + 1) ++ rng x.1 (x.2 + 1), B2, some (.int (x.1 : Int)), some (.int (x.2 : Int)), by omega, k4, ?_, ?_, rfl⟩
      · rw [hg, e0]
        simp only [List.append_assoc]
      · rw [upd_same]
        show _ = some (HO.lst (List.map _ (_ ++ _ ++ _)))
        rw [List.map_append, List.map_append]
    · rintro σ H' ⟨s1, k, g, G, y4, y5, hk, hok, hg, hG, rfl⟩
      rw [hvl, List.drop_length] at hg
      have hgl := congrArg List.length hg
      rw [List.length_append] at hgl
      refine ⟨_, rfl, _, rfl, _, rfl, p, dx, _, rfl, s1 _ _ h1, p, q, bs, past, rfl, hp.same s1, bs.length, rfl, by omega, _, _, rfl, rfl, ⟨by omega, by omega, by omega, by omega, by omega⟩, fun A1 nA1 => ?_⟩
      rw [rng_V]
      have e1 := same_upd (o := .lst (numsV (rng k bs.length))) nA1
      refine ⟨G, A1, _, _, rfl, rfl, e1 _ _ hG, upd_same, ?_, fun B1 nB1 => ?_⟩
      · rw [List.length_map, List.length_map]
        have : (orderOf bs.length k []).length = (rng k bs.length).length := rfl
        exact Nat.le_of_lt (small5000 (by omega))
      have e2 := same_upd (o := .lst (numsV g ++ numsV (rng k bs.length))) nB1
      refine z _ _ ((s1.trans e1).trans e2) ((s1.trans e1).free nB1) ?_
      rw [upd_same, hg]
      show _ = some (HO.lst (List.map _ (g ++ rng k bs.length)))
      rw [List.map_append]
theorem sc_is_right : FnScope ["desk", "page"] ["desk", "page"] (defScope s_is_right) := ⟨rfl, rfl, rfl, by decide +kernel, rfl, by decide +kernel, by decide +kernel⟩
section
variable {K : PySem.W.Frag} {mg : Str → Option Value}
theorem b_is_right (T : Txt K mg) : Binds K (fdOf K ("is_right", none)) ["desk", "page"] [] := T.is_right.bindsN fun _ _ _ _ _ _ us hl => match us, hl with | [_, _], _ => rfl
end
def sp_is_right (K : PySem.W.Frag) : Sp := fun vs H Q _ => ∃ (x : V) (k : Desk) (page : Nat), vs = [x, .int (page : Int)] ∧ Dp K H x (deskD k) ∧ Q (.bl (isRight k page)) H
theorem right_eq (k : Desk) (page : Nat) : decide (V.bl (decide (V.int ((page % 2 : Nat) : Int) = V.int 0)) = V.bl (decide (V.str (sideS k.side) = V.str (Str.ofString "right")))) = isRight k page := by
  have e1 : decide (V.int ((page % 2 : Nat) : Int) = V.int 0) = decide (page % 2 = 0) := by
    rw [Bool.eq_iff_iff, decide_eq_true_iff, decide_eq_true_iff]
    refine ⟨fun h => ?_, fun h => by rw [h]; rfl⟩
    injection h with h
    omega
  have e2 : decide (V.str (sideS k.side) = V.str (Str.ofString "right")) = k.side := by
    cases k.side <;> decide +kernel
  rw [e1, e2]
  unfold isRight
  rw [dec_bl]
theorem ok_is_right {P : Program} {w : World} {K : PySem.W.Frag} {mg : Str → Option Value} {base : Heap} (T : Txt K mg) : OkF P w K mg base CX0 1 ("is_right", none) ["desk", "page"] (sp_is_right K) := by
  refine okN T.is_right sc_is_right (fun vs H Q E h => ?_) (fun cdv A outer s H vs Q E hr h => ?_)
  · obtain ⟨x, k, page, rfl, _⟩ := h
    rfl
  · obtain ⟨x, k, page, rfl, hd, q⟩ := h
    obtain ⟨p, rfl, hs⟩ := dp_desk hd
    refine ⟨_, (pss_one (ps_ret (pe_cmpR op_eq (pe_cmpR op_eq (pe_op op_odd (pv 1) pe_int) pe_int (nomark _)) (pe_cmpR op_eq (pe_ix ix_tup (pv 0) pe_int (fun _ _ => rfl)) pe_str (nomark _)) (nomark _)))), ?_⟩
    refine ⟨_, rfl, page, rfl, rfl, rfl, _, rfl, p, _, _, _, rfl, rfl, hs, rfl, rfl, rfl, ?_⟩
    rw [← right_eq] at q
    exact q
theorem sc_beats_of : FnScope ["row", "found", "width", "beats", "rests"] ["row"] (defScope s_beats_of) := ⟨rfl, rfl, rfl, by decide +kernel, rfl, by decide +kernel, by decide +kernel⟩
section
variable {K : PySem.W.Frag} {mg : Str → Option Value}
theorem b_beats_of (T : Txt K mg) : Binds K (fdOf K ("beats_of", none)) ["row"] [] := T.beats_of.bindsN fun _ _ _ _ _ _ us hl => match us, hl with | [_], _ => rfl
end
def sp_beats_of (K : PySem.W.Frag) : Sp := fun vs H Q _ => ∃ (a : Addr) (bs : List Bar), vs = [.ref a] ∧ Dp K H (.ref a) (.list (barsD bs)) ∧ Q (.int (beatsOf bs)) H
theorem ok_beats_of {P : Program} {w : World} {K : PySem.W.Frag} {mg : Str → Option Value} {base : Heap} (T : Txt K mg) : OkF P w K mg base CX0 1 ("beats_of", none) ["row"] (sp_beats_of K) := by
  refine okN T.beats_of sc_beats_of (fun vs H Q E h => ?_) (fun cdv A outer s H vs Q E hr h => ?_)
  · obtain ⟨a, bs, rfl, _⟩ := h
    rfl
  · obtain ⟨a, bs, rfl, hd, q⟩ := h
    obtain ⟨xs, hs, ha⟩ := lst_bars hd
    refine ⟨_, (pss_cons (ps_set (i := 1) sc_beats_of.nd rfl (by first | exact Or.inl rfl | exact Or.inr rfl) pe_int)
      (pss_cons (ps_for PassesOwn.never rfl (pi_list (pv 0)) (pg_tup rfl (pgs_cons (pg_name (i := 2) sc_beats_of.nd rfl (by first | exact Or.inl rfl | exact Or.inr rfl)) (pgs_cons (pg_name (i := 3) sc_beats_of.nd rfl (by first | exact Or.inl rfl | exact Or.inr rfl)) (pgs_cons (pg_name (i := 4) sc_beats_of.nd rfl (by first | exact Or.inl rfl | exact Or.inr rfl)) pgs_nil))))
      (pss_cons (ps_if (pt_not (pt_val (pv 4))) (pss_one (ps_ret (pv 1))) pss_nil)
      (pss_one (ps_set (i := 1) sc_beats_of.nd rfl (by first | exact Or.inl rfl | exact Or.inr rfl) (pe_op op_add (pv 1) (pv 3))))))
      (pss_one (ps_ret (pv 1))))), ?_⟩
    refine ⟨_, rfl, a, rfl, ⟨_, hs⟩, for_list (xs := xs) (fun i σ H' => H' = H ∧ ∃ f y2 y3 y4, σ = [some (.ref a), some (.int f), y2, y3, y4] ∧ f + beatsOf (bs.drop i) = beatsOf bs) ⟨rfl, 0, none, none, none, rfl, ?_⟩ ?_ ?_ ?_⟩
    · show 0 + beatsOf bs = beatsOf bs
      omega
    · rintro i σ H' _ ⟨rfl, _⟩
      exact hs
    · rintro i x σ H' hx ⟨rfl, f, y2, y3, y4, rfl, e⟩
      obtain ⟨b, p, hb, rfl, hp⟩ := bar_at ha hx
      refine ⟨p, _, rfl, hp, rfl, _, _, rfl, _, _, rfl, _, _, rfl, rfl, ?_⟩
      rw [drop_at hb] at e
      refine ⟨_, rfl, _, rfl, ?_⟩
      replace e : f + (if b.r = true then b.b + beatsOf (bs.drop (i + 1)) else 0) = beatsOf bs := e
      cases hr : b.r with
      | true =>
        rw [hr, if_pos rfl] at e
        refine iteF ⟨_, rfl, _, rfl, _, _, rfl, rfl, rfl, _, _, _, _, rfl, ?_⟩
        omega
      | false =>
        rw [hr, if_neg Bool.false_ne_true] at e
        refine iteT ⟨_, rfl, ?_⟩
        rw [show f = beatsOf bs by omega]
        exact q
    · rintro σ H' ⟨rfl, f, y2, y3, y4, rfl, e⟩
      rw [bars_len ha, List.drop_length] at e
      refine ⟨_, rfl, ?_⟩
      rw [show f = beatsOf bs by
        have e2 : f + 0 = beatsOf bs := e
        omega]
      exact q
theorem sc_Part_ahead : FnScope ["self", "at"] ["self", "at"] (defScope s_Part_ahead) := ⟨rfl, rfl, rfl, by decide +kernel, rfl, by decide +kernel, by decide +kernel⟩
section
variable {K : PySem.W.Frag} {mg : Str → Option Value}
theorem b_Part_ahead (T : Txt K mg) : Binds K (fdOf K ("Part", some "ahead")) ["self", "at"] [] := T.Part_ahead.bindsN fun _ _ _ _ _ _ us hl => match us, hl with | [_, _], _ => rfl
end
def sp_Part_ahead (K : PySem.W.Frag) : Sp := fun vs H Q _ => ∃ (p q : Addr) (k : Nat) (bs : List Bar) (past : List (List Bar)), vs = [.ref p, .int (k : Int)] ∧ PartX K H p q bs past ∧ ∀ H', Same H H' → Q (.int (beatsOf (bs.take k).reverse)) H'
theorem ok_Part_ahead {P : Program} {w : World} {K : PySem.W.Frag} {mg : Str → Option Value} {base : Heap} (T : Txt K mg) : OkF P w K mg base CX0 2 ("Part", some "ahead") ["self", "at"] (sp_Part_ahead K) := by
  refine okN T.Part_ahead sc_Part_ahead (fun vs H Q E h => ?_) (fun cdv A outer s H vs Q E hr h => ?_)
  · obtain ⟨p, q, k, bs, past, rfl, _⟩ := h
    rfl
  · obtain ⟨p, q, k, bs, past, rfl, hp, z⟩ := h
    obtain ⟨dx, r, ws, h1, n, ⟨vs, h2, h3⟩, _⟩ := hp
    refine ⟨_, (pss_one (ps_ret (pe_call (ok_beats_of T) (hr.mono (by decide)) (by rfl) T.g_beats_of T.beats_of.kp (b_beats_of T) .nil pass0 (pa_cons (pe_revL (pe_slice sl_list (pe_fld (pv 0) rfl) po_none (po_some (pv 1)))) pa_nil)))), ?_⟩
    refine ⟨_, rfl, p, _, dx, _, _, rfl, h1, T.cl_Part, T.n_row, pf_row, _, rfl, _, rfl, r, vs, rfl, .of h2, fun c nc => ?_⟩
    rw [cut_take]
    have s1 : Same H (upd H c (.lst (vs.take k))) := same_upd nc
    refine ⟨c, _, rfl, .of upd_same, fun e ne => ?_⟩
    have s2 := s1.trans (same_upd (o := .lst (vs.take k).reverse) ne)
    refine ⟨e, (bs.take k).reverse, rfl, .lst (.of upd_same) ?_, z _ s2⟩
    show DpAll K _ _ (((bs.take k).reverse).map barD)
    rw [List.map_reverse, List.map_take]
    exact dpa_rev (dpa_take k (dpa_same s2 h3))
theorem sc_Part_behind : FnScope ["self", "at"] ["self", "at"] (defScope s_Part_behind) := ⟨rfl, rfl, rfl, by decide +kernel, rfl, by decide +kernel, by decide +kernel⟩
section
variable {K : PySem.W.Frag} {mg : Str → Option Value}
theorem b_Part_behind (T : Txt K mg) : Binds K (fdOf K ("Part", some "behind")) ["self", "at"] [] := T.Part_behind.bindsN fun _ _ _ _ _ _ us hl => match us, hl with | [_, _], _ => rfl
end
def sp_Part_behind (K : PySem.W.Frag) : Sp := fun vs H Q _ => ∃ (p q : Addr) (k : Nat) (bs : List Bar) (past : List (List Bar)), vs = [.ref p, .int (k : Int)] ∧ PartX K H p q bs past ∧ ∀ H', Same H H' → Q (.int (beatsOf (bs.drop k))) H'
theorem ok_Part_behind {P : Program} {w : World} {K : PySem.W.Frag} {mg : Str → Option Value} {base : Heap} (T : Txt K mg) : OkF P w K mg base CX0 2 ("Part", some "behind") ["self", "at"] (sp_Part_behind K) := by
  refine okN T.Part_behind sc_Part_behind (fun vs H Q E h => ?_) (fun cdv A outer s H vs Q E hr h => ?_)
  · obtain ⟨p, q, k, bs, past, rfl, _⟩ := h
    rfl
  · obtain ⟨p, q, k, bs, past, rfl, hp, z⟩ := h
    obtain ⟨dx, r, ws, h1, n, ⟨vs, h2, h3⟩, _⟩ := hp
    refine ⟨_, (pss_one (ps_ret (pe_call (ok_beats_of T) (hr.mono (by decide)) (by rfl) T.g_beats_of T.beats_of.kp (b_beats_of T) .nil pass0 (pa_cons (pe_slice sl_list (pe_fld (pv 0) rfl) (po_some (pv 1)) po_none) pa_nil)))), ?_⟩
    refine ⟨_, rfl, p, _, dx, _, _, rfl, h1, T.cl_Part, T.n_row, pf_row, _, rfl, _, rfl, r, vs, rfl, .of h2, fun c nc => ?_⟩
    rw [cut_drop]
    have s1 : Same H (upd H c (.lst (vs.drop k))) := same_upd nc
    refine ⟨c, bs.drop k, rfl, .lst (.of upd_same) ?_, z _ s1⟩
    show DpAll K _ _ ((bs.drop k).map barD)
    rw [List.map_drop]
    exact dpa_drop k (dpa_same s1 h3)
theorem sc_turned : FnScope ["part", "desk", "layout", "repeats", "order", "found", "one", "other", "pages", "many", "page"] ["part", "desk", "layout", "repeats"] (defScope s_turned) := ⟨rfl, rfl, rfl, by decide +kernel, rfl, by decide +kernel, by decide +kernel⟩
section
variable {K : PySem.W.Frag} {mg : Str → Option Value}
theorem b_turned (T : Txt K mg) : Binds K (fdOf K ("turned", none)) ["part", "desk", "layout", "repeats"] [] := T.turned.bindsN fun _ _ _ _ _ _ us hl => match us, hl with | [_, _, _, _], _ => rfl
end
theorem two_sorted {a b : Nat} {ns : List Int} (hp : ns.Perm [(a : Int), (b : Int)]) (hs : ns.Pairwise (· ≤ ·)) : ns = [((min a b : Nat) : Int), ((max a b : Nat) : Int)] := by
  have hl := hp.length_eq
  match ns, hl with
  | [x, y], _ =>
    have h1 : x ≤ y := by
      have := List.pairwise_cons.mp hs
      exact this.1 y (by simp)
    have hx := hp.mem_iff (a := x)
    have hy := hp.mem_iff (a := y)
    have hA := hp.mem_iff (a := (a : Int))
    have hB := hp.mem_iff (a := (b : Int))
    simp at hx hy hA hB
    have e1 : x = ((min a b : Nat) : Int) := by omega
    have e2 : y = ((max a b : Nat) : Int) := by omega
    rw [e1, e2]
theorem pageOf_le : ∀ (ns : List Nat) (b : Nat), pageOf ns b ≤ ns.length
  | [], _ => Nat.le_refl _
  | n :: r, b => by
    unfold pageOf
    split
    · exact Nat.zero_le _
    · have := pageOf_le r (b - n)
      rw [List.length_cons]
      omega
def LeavesL (K : PySem.W.Frag) (H : Hp) (v : Addr) (xs : List Leaf) : Prop := ∃ ws, H v = some (.lst ws) ∧ DpAll K H ws (xs.map leafD)
def sp_turned (K : PySem.W.Frag) : Sp := fun vs H Q _ => ∃ (p q : Addr) (bs : List Bar) (past : List (List Bar)) (x y r : V) (k : Desk) (ns : List Nat) (rs : List (Nat × Nat)), vs = [.ref p, x, y, r] ∧ PartX K H p q bs past ∧ Dp K H x (deskD k) ∧ Dp K H y (.tuple (numsD ns)) ∧ ns.sum = bs.length ∧ ns.length ≤ 10000 ∧ Dp K H r (.tuple (repsD rs)) ∧ RepOk bs.length 0 rs ∧ bs.length ≤ 1000 ∧
  ∀ v H', Same H H' → H v = none → LeavesL K H' v (leavesL bs k ns rs) → Q (.ref v) H'
theorem ok_turned {P : Program} {w : World} {K : PySem.W.Frag} {mg : Str → Option Value} {base : Heap} (T : Txt K mg) : OkF P w K mg base CX0 4 ("turned", none) ["part", "desk", "layout", "repeats"] (sp_turned K) := by
  refine okN T.turned sc_turned (fun vs H Q E h => ?_) (fun cdv A outer s H vs Q E hr h => ?_)
  · obtain ⟨p, q, bs, past, x, y, r, k, ns, rs, rfl, _⟩ := h
    rfl
  · obtain ⟨p, q, bs, past, x, y, r, k, ns, rs, rfl, hp, hx, hy, hsum, hnl, hr', hro, hbl, z⟩ := h
    obtain ⟨dx, rr, ws0, h1, _⟩ := id hp
    have hsz : sizeLine = 16777216 := sizeLine_eq
    refine ⟨_, (pss_cons (ps_set (i := 4) sc_turned.nd rfl (by first | exact Or.inl rfl | exact Or.inr rfl) (pe_call (ok_order_of T) (hr.mono (by decide)) (by rfl) T.g_order_of T.order_of.kp (b_order_of T) .nil pass0 (pa_cons (pv 0) (pa_cons (pv 3) pa_nil))))
      (pss_cons (ps_set (i := 5) sc_turned.nd rfl (by first | exact Or.inl rfl | exact Or.inr rfl) (pe_lst pa_nil))
      (pss_cons (ps_for PassesOwn.never rfl (pi_zip (by rfl) T.b_zip (pa_cons (pv 4) (pa_cons (pe_slice sl_list (pv 4) (po_some pe_int) po_none) pa_nil))) (pg_tup rfl (pgs_cons (pg_name (i := 6) sc_turned.nd rfl (by first | exact Or.inl rfl | exact Or.inr rfl)) (pgs_cons (pg_name (i := 7) sc_turned.nd rfl (by first | exact Or.inl rfl | exact Or.inr rfl)) pgs_nil)))
      (pss_cons (ps_set (i := 8) sc_turned.nd rfl (by first | exact Or.inl rfl | exact Or.inr rfl) (pe_callB cr_sorted (by rfl) T.b_sorted (by decide +kernel) (pa_cons (pe_lst (pa_cons (pe_call (ok_page_with T) (hr.mono (by decide)) (by rfl) T.g_page_with T.page_with.kp (b_page_with T) .nil pass0 (pa_cons (pv 2) (pa_cons (pv 6) pa_nil))) (pa_cons (pe_call (ok_page_with T) (hr.mono (by decide)) (by rfl) T.g_page_with T.page_with.kp (b_page_with T) .nil pass0 (pa_cons (pv 2) (pa_cons (pv 7) pa_nil))) pa_nil))) pa_nil)))
      (pss_cons (ps_set (i := 9) sc_turned.nd rfl (by first | exact Or.inl rfl | exact Or.inr rfl) (pe_callB call_len (by rfl) T.b_len PySem.boot_len (pa_cons (pe_lc (own := [("page", 10)]) (g := (gName 10))  (by rfl) sc_turned.nd (pi_range2 (by rfl) T.b_range (pa_cons (pe_ix ix_list (pv 8) pe_int (fun _ _ => rfl)) (pa_cons (pe_ix ix_list (pv 8) pe_int (fun _ _ => rfl)) pa_nil))) (blkOk_by (own := [("page", 10)]) (N := ["part", "desk", "layout", "repeats", "order", "found", "one", "other", "pages", "many", "page"]) (sc := defScope s_turned) (by decide +kernel)) (fun _ _ _ _ _ => (pg_name (i := 10) sc_turned.nd rfl (by first | exact Or.inl rfl | exact Or.inr rfl))) (fun _ _ _ _ _ => (pts_one (pt_val (pe_call (ok_is_right T) (hr.mono (by decide)) (by rfl) T.g_is_right T.is_right.kp (b_is_right T) .nil pass0 (pa_cons (pv 1) (pa_cons (pv 10) pa_nil)))))) (fun _ _ _ _ _ => (pv 10))) pa_nil)))
      (pss_one (ps_if (pt_cmpR op_gt (pv 9) pe_int (nomark _)) (pss_one (ps_expr (pe_bm PySem.F.plainAttrs_list PySem.F.slot_list_append PySem.F.type_list_append mt_append (pv 5) (pa_cons (pe_tup (pa_cons (pv 6) (pa_cons (pv 7) (pa_cons (pv 9) (pa_cons (pe_op op_add (pe_meth (pv 0) T.cl_Part T.m_Part_ahead (ok_Part_ahead T) (hr.mono (by decide)) (b_Part_ahead T) .nil pass0 (pa_cons (pe_op op_add (pv 6) pe_int) pa_nil)) (pe_meth (pv 0) T.cl_Part T.m_Part_behind (ok_Part_behind T) (hr.mono (by decide)) (b_Part_behind T) .nil pass0 (pa_cons (pv 7) pa_nil))) pa_nil))))) pa_nil)))) pss_nil)))))
      (pss_one (ps_ret (pv 5)))))), ?_⟩
    refine ⟨_, rfl, _, rfl, p, q, bs, past, r, rs, rfl, hp, hr', hro, hbl, fun O H1 s1 nO hO => ?_⟩
    refine ⟨by show (0 : Nat) ≤ sizeLine; decide, fun F nF => ?_⟩
    have sF := same_upd (o := .lst []) nF
    have hol := order_len hro
    have hlt := order_lt hro
    unfold leavesL at z
    generalize orderOf bs.length 0 rs = ord at hO hol hlt z
    have hO2 := sF _ _ hO
    refine ⟨_, rfl, _, rfl, _, rfl, O, _, rfl, .of hO2, fun O2 nO2 => ?_⟩
    rw [show cutV (numsV ord) (some 1) none = (numsV ord).drop 1 from cut_drop (k := 1)]
    have sO2 := same_upd (o := .lst ((numsV ord).drop 1)) nO2
    have s3 := (s1.trans sF).trans sO2
    have hO3 := sO2 _ _ hO2
    have hO23 : (upd (upd H1 F (.lst [])) O2 (.lst ((numsV ord).drop 1))) O2 = some (.lst ((numsV ord).drop 1)) := upd_same
    have hF3 : (upd (upd H1 F (.lst [])) O2 (.lst ((numsV ord).drop 1))) F = some (.lst []) := sO2 _ _ upd_same
    have nF0 : H F = none := s1.free nF
    have nOF : O ≠ F := fun e => by
      rw [← e, hO] at nF
      cases nF
    have nO2F : O2 ≠ F := fun e => by
      rw [e, upd_same] at nO2
      cases nO2
    generalize (upd (upd H1 F (.lst [])) O2 (.lst ((numsV ord).drop 1))) = H3 at s3 hO3 hO23 hF3 ⊢
    have hzl : (ord.zip ord.tail).length = min (numsV ord).length ((numsV ord).drop 1).length := by
      rw [List.length_zip, List.length_map, List.length_drop, List.length_map, List.length_tail]
    refine ⟨O, O2, _, _, rfl, .of hO3, .of hO23, for_it (walk_zip hzl) (fun i σ H' => Fr [F] H3 H' ∧ Same H H' ∧ LeavesL K H' F (leavesP bs k ns ((ord.zip ord.tail).take i)) ∧ ∃ y6 y7 y8 y9 y10, σ = [some (.ref p), some x, some y, some r, some (.ref O), some (.ref F), y6, y7, y8, y9, y10]) ⟨Fr.refl _ _, s3, ⟨[], hF3, .nil⟩, _, _, _, _, _, rfl⟩ ?_ ?_ ?_⟩
    · rintro i σ H' _ ⟨f, _⟩
      exact ⟨.of (f.keep _ _ (by simp [nOF]) hO3), .of (f.keep _ _ (by simp [nO2F]) hO23)⟩
    · rintro i v σ H4 H4' hi ⟨f4, s4, hL4, y6, y7, y8, y9, y10, rfl⟩ ⟨Tt, v1, v2, rfl, nT, rfl, hv1, hv2⟩
      dsimp only at hv1 hv2
      obtain ⟨one, hone, rfl⟩ : ∃ one, ord[i]? = some one ∧ v1 = .int (one : Int) := by
        rw [List.getElem?_map] at hv1
        cases e : ord[i]? with
        | none =>
          rw [e] at hv1
          cases hv1
        | some m =>
          rw [e] at hv1
          exact ⟨m, rfl, (Option.some.inj hv1).symm⟩
      obtain ⟨oth, hoth, rfl⟩ : ∃ oth, ord.tail[i]? = some oth ∧ v2 = .int (oth : Int) := by
        rw [← List.map_drop, List.getElem?_map, List.drop_one] at hv2
        cases e : ord.tail[i]? with
        | none =>
          rw [e] at hv2
          cases hv2
        | some m =>
          rw [e] at hv2
          exact ⟨m, rfl, (Option.some.inj hv2).symm⟩
      have hone1 := hlt one (List.mem_of_getElem? hone)
      have hoth1 := hlt oth (List.mem_of_mem_tail (List.mem_of_getElem? hoth))
      have hpair : (ord.zip ord.tail)[i]? = some (one, oth) := by
        rw [List.getElem?_zip_eq_some]
        exact ⟨hone, hoth⟩
      have sT := same_upd (o := .tup [V.int (one : Int), .int (oth : Int)]) nT
      have s4T := s4.trans sT
      have f4T := f4.trans (Fr.of sT _)
      obtain ⟨lw, hlw, hld⟩ := hL4
      have hlwT := sT _ _ hlw
      have hldT := dpa_same sT hld
      have htt : (upd H4 Tt (.tup [V.int (one : Int), .int (oth : Int)])) Tt = some (.tup [V.int (one : Int), .int (oth : Int)]) := upd_same
      generalize (upd H4 Tt (.tup [V.int (one : Int), .int (oth : Int)])) = H5 at s4T f4T hlwT hldT htt ⊢
      refine ⟨Tt, _, rfl, .of htt, rfl, _, _, rfl, _, _, rfl, rfl, ?_⟩
      have hy5 := dp_same s4T hy
      refine ⟨_, rfl, _, rfl, y, ns, one, rfl, hy5, by omega, _, rfl, _, rfl, y, ns, oth, rfl, hy5, by omega, by show (2 : Nat) ≤ sizeLine; decide, fun L nL => ?_⟩
      have sL := same_upd (o := .lst [V.int ((pageOf ns one : Nat) : Int), .int ((pageOf ns oth : Nat) : Int)]) nL
      refine ⟨L, [((pageOf ns one : Nat) : Int), ((pageOf ns oth : Nat) : Int)], rfl, .of upd_same, by show (2 : Nat) < 64; decide, fun ns' Pg perm srt nPg => ?_⟩
      have e2 := two_sorted perm srt
      subst e2
      have sPg := same_upd (o := .lst ([((min (pageOf ns one) (pageOf ns oth) : Nat) : Int), ((max (pageOf ns one) (pageOf ns oth) : Nat) : Int)].map V.int)) nPg
      have s56 := sL.trans sPg
      have hPg : (upd (upd H5 L (.lst [V.int ((pageOf ns one : Nat) : Int), .int ((pageOf ns oth : Nat) : Int)])) Pg (.lst ([((min (pageOf ns one) (pageOf ns oth) : Nat) : Int), ((max (pageOf ns one) (pageOf ns oth) : Nat) : Int)].map V.int))) Pg = some (.lst [.int ((min (pageOf ns one) (pageOf ns oth) : Nat) : Int), .int ((max (pageOf ns one) (pageOf ns oth) : Nat) : Int)]) := upd_same
      have s6 := s4T.trans s56
      have f6 := f4T.trans (Fr.of s56 _)
      have hlw6 := s56 _ _ hlwT
      have hld6 := dpa_same s56 hldT
      generalize (upd (upd H5 L (.lst [V.int ((pageOf ns one : Nat) : Int), .int ((pageOf ns oth : Nat) : Int)])) Pg (.lst ([((min (pageOf ns one) (pageOf ns oth) : Nat) : Int), ((max (pageOf ns one) (pageOf ns oth) : Nat) : Int)].map V.int))) = H6 at hPg s6 f6 hlw6 hld6 ⊢
      have hpg1 : pageOf ns one ≤ ns.length := pageOf_le ns one
      have hpg2 : pageOf ns oth ≤ ns.length := pageOf_le ns oth
      obtain ⟨lo, elo⟩ : ∃ lo, lo = min (pageOf ns one) (pageOf ns oth) := ⟨_, rfl⟩
      obtain ⟨hiP, ehi⟩ : ∃ h, h = max (pageOf ns one) (pageOf ns oth) := ⟨_, rfl⟩
      rw [← elo, ← ehi] at hPg
      refine ⟨_, rfl, Pg, _, _, _, rfl, rfl, .of hPg, at_of (j := 0) rfl rfl, _, rfl, Pg, _, _, _, rfl, rfl, .of hPg, at_of (j := 1) rfl rfl, (lo : Int), (hiP : Int), rfl, ⟨by omega, by omega, by omega, by omega⟩, fun D nD => ?_⟩
      refine lc_range (lo := (lo : Int)) (n := ((hiP : Int) - (lo : Int)).toNat) (fun j H' => Same H6 H' ∧ ∃ ws, H' D = some (.lst ws) ∧ ws.length = ((List.range' lo j).filter (isRight k)).length) ⟨same_upd nD, [], upd_same, rfl⟩ ?_ ?_
      · rintro j H' hj ⟨s', ws, e, hwl⟩
        have hr1 : List.range' lo (j + 1) = List.range' lo j ++ [lo + j] := by
          rw [List.range'_concat]
          simp
        have hln : ((List.range' lo j).filter (isRight k)).length ≤ j := by
          have := List.length_filter_le (isRight k) (List.range' lo j)
          rw [List.length_range'] at this
          exact this
        refine ⟨rfl, _, rfl, _, rfl, x, k, lo + j, rfl, dp_same (s6.trans s') hx, _, rfl, ?_⟩
        rw [hr1, List.filter_append, List.length_append, ← hwl]
        cases hR : isRight k (lo + j) with
        | true =>
          refine iteT ⟨_, rfl, ws, e, by omega, same_updR s' nD, _, upd_same, ?_⟩
          rw [List.length_append, List.filter_cons, hR]
          rfl
        | false =>
          refine iteF ⟨s', ws, e, ?_⟩
          rw [List.filter_cons, hR]
          rfl
      · rintro H7 ⟨s7, ws, e7, hwl⟩
        rw [show ((hiP : Int) - (lo : Int)).toNat = hiP - lo by omega] at hwl
        have hmany : ws.length = (leafOf bs k ns (one, oth)).many := by
          rw [hwl, elo, ehi]
          rfl
        refine ⟨_, _, rfl, .inl ⟨_, .of e7, rfl⟩, ?_⟩
        rw [hmany]
        have s67 := s6.trans s7
        have f67 := f6.trans (Fr.of s7 _)
        have hlw7 := s7 _ _ hlw6
        have hld7 := dpa_same s7 hld6
        have htk := leavesP_take (bs := bs) (k := k) (ns := ns) hpair
        refine ⟨_, rfl, _, _, rfl, rfl, _, rfl, ite2P (fun hgt => ?_) (fun hn => ?_)⟩
        · rw [if_pos (show 0 < (leafOf bs k ns (one, oth)).many by omega)] at htk
          refine ⟨_, rfl, .inl ⟨rfl, _, .of hlw7⟩, _, rfl, _, rfl, _, rfl, _, rfl, p, dx, _, rfl, s67 _ _ h1, pf_no (by decide +kernel) (by decide +kernel), _, rfl, _, _, rfl, rfl, p, q, one + 1, bs, past, rfl, hp.same s67, fun H8 s8 => ?_⟩
          have s68 := s67.trans s8
          refine ⟨_, rfl, p, dx, _, rfl, s68 _ _ h1, pf_no (by decide +kernel) (by decide +kernel), _, rfl, p, q, oth, bs, past, rfl, hp.same s68, fun H9 s9 => ⟨_, _, rfl, rfl, by show (4 : Nat) ≤ sizeLine; decide, fun c nc => ?_⟩⟩
          have s89 := s8.trans s9
          have sc := same_upd (o := .tup (leafV (leafOf bs k ns (one, oth)))) nc
          have hlw9 := sc _ _ (s89 _ _ hlw7)
          have hld9 := dpa_same (s89.trans sc) hld7
          refine ⟨F, lw, _, rfl, rfl, hlw9, ?_, ?_⟩
          · rw [dpa_len hld7, List.length_map]
            have h2 := leavesP_len bs k ns ((ord.zip ord.tail).take i)
            rw [List.length_take] at h2
            have h3 : (ord.zip ord.tail).length ≤ ord.length := by
              rw [List.length_zip]
              exact Nat.min_le_left _ _
            omega
          have fu : Fr [F] _ (upd (upd H9 c (.tup (leafV (leafOf bs k ns (one, oth))))) F (.lst (lw ++ [.ref c]))) := Fr.upd hlw9 trivial (by simp)
          refine ⟨(f67.trans (Fr.of (s89.trans sc) _)).trans fu, same_updR (s68.trans (s9.trans sc)) nF0, ⟨_, upd_same, ?_⟩, _, _, _, _, _, rfl⟩
          rw [htk, List.map_append]
          exact dpa_snoc (fu.dpa hld9 (isTs_leaves _)) (.tup (fu.sqt (.of upd_same)) (.cons (.int _) (.cons (.int _) (.cons (.int _) (.cons (.int _) .nil)))))
        · rw [if_neg (show ¬ 0 < (leafOf bs k ns (one, oth)).many by omega), List.append_nil] at htk
          refine ⟨f67, s67, ?_, _, _, _, _, _, rfl⟩
          rw [htk]
          exact ⟨lw, hlw7, hld7⟩
    · rintro σ H4 ⟨f4, s4, hL4, y6, y7, y8, y9, y10, rfl⟩
      rw [List.take_length] at hL4
      exact ⟨_, rfl, z F H4 s4 nF0 hL4⟩
section
variable {X : Cx}
/-- xs.count(x) of data -/
def rCntL (K : PySem.W.Frag) : V → List V → Hp → VK → Prop := fun x xs H Q => ∃ (p : Addr) (y : V) (ds : List PyData) (d : PyData), x = .ref p ∧ xs = [y] ∧ Dp K H (.ref p) (.list ds) ∧ Dp K H y d ∧ SeqAt.shaped (.list ds) = true ∧ SeqAt.shaped d = true ∧ Q (.int ((ds.countP fun z => PyData.eqv z d : Nat) : Int)) H
theorem mt_lcountD (hu : X.A.units + 65 < cLine) : MtR X "list.count" (rCntL X.K) := by
  intro pins s σ H x xs v us Q I rx rxs h
  obtain ⟨p, y, ds, d, rfl, rfl, hl, hy, sl, sd, q⟩ := h
  cases rx
  obtain ⟨u, rfl, ru⟩ := rxs.one
  obtain ⟨bs, r1⟩ := Dp.reads I d y u hy ru
  cases hl with
  | lst hs ha =>
    obtain ⟨its, rv, hT, _⟩ := I.list hs
    obtain ⟨as, h4⟩ := Dp.readsAll I ds _ its ha rv
    exact SeqAt.count_list_data (vs := its.toArray) hT.isList (by simpa using h4) r1 (PyData.plain_of_canLay0 (.list ds) (SeqAt.canLay_of_shaped sl)) (PyData.plain_of_canLay0 _ (SeqAt.canLay_of_shaped sd)) (room_in_shaped sd hu) ⟨.int _, H, I.tok _, ⟨_, rfl⟩, q⟩
end
/-! ### three stores -/
def isSt : Expr → Bool
  | .Starred .. => true
  | _ => false
theorem swap3 {env : Env} {x y z : Str} {a b c : Expr} {px py pz pt : Pos} {kt k2 pt2} (hk : env.blockKind = .function) (hx : env.kindOf x = some .local) (hy : env.kindOf y = some .local) (hz : env.kindOf z = some .local) (l1 : (py.line == px.line) = true) (l2 : (pz.line == px.line) = true)
    (nd : ([x, y, z].eraseDups.length != 3) = false) (st : [a, b, c].all (fun e => !isSt e) = true) (f1 : [a, b, c].all (foldedForSure 8) = false) (f2 : [a, b, c].all (constantsAlone 8) = false) :
    swappedStores [.Tuple [.Name x px, .Name y py, .Name z pz] kt pt] (.Tuple [a, b, c] k2 pt2) env = pure (some [x, y, z]) := by
  have e1 : (px.line == px.line) = true := by simp
  unfold swappedStores
  have e2 : (some NameKind.local == some NameKind.local) = true := rfl
  simp only [hk, hx, hy, hz, l1, l2, e1, e2, List.filterMap, List.head?, Option.map, Option.getD, Expr.pos, List.length, Bool.and_self, if_true]
  rw [if_neg (by decide)]
  refine (if_neg ?_).trans ?_
  · intro h
    obtain ⟨e, he, h⟩ := List.any_eq_true.mp h
    have := List.all_eq_true.mp st e he
    cases e <;> first | (cases h; done) | (cases this; done)
  rw [if_neg, f1, if_neg Bool.false_ne_true, f2]
  · rfl
  · show ¬ ((_ || [x, y, z].eraseDups.length != 3) = true)
    rw [nd]
    decide
theorem sc__law_order : FnScope ["bars", "repeats", "found", "at", "done", "back", "one"] ["bars", "repeats"] (defScope s__law_order) := ⟨rfl, rfl, rfl, by decide +kernel, rfl, by decide +kernel, by decide +kernel⟩
section
variable {K : PySem.W.Frag} {mg : Str → Option Value}
theorem b__law_order (T : Txt K mg) : Binds K (fdOf K ("_law_order", none)) ["bars", "repeats"] [] := T._law_order.bindsN fun _ _ _ _ _ _ us hl => match us, hl with | [_, _], _ => rfl
end
def sp__law_order (K : PySem.W.Frag) : Sp := fun vs H Q _ => ∃ (a : Addr) (bs : List Bar) (y : V) (rs : List (Nat × Nat)), vs = [.ref a, y] ∧ Dp K H (.ref a) (.list (barsD bs)) ∧ Dp K H y (.tuple (repsD rs)) ∧ RepOk bs.length 0 rs ∧ rs.length ≤ 6 ∧ bs.length ≤ 1000 ∧
  ∀ v H', Same H H' → H v = none → H' v = some (.lst (numsV (orderOf bs.length 0 rs))) → Q (.ref v) H'
def dnB (dr : List (Nat × Nat)) (x : Nat × Nat) : Bool := (repsD dr).any fun z => PyData.eqv z (repD x)
theorem dnB_iff (dr : List (Nat × Nat)) (x : Nat × Nat) : dnB dr x = true ↔ x ∈ dr := by
  unfold dnB
  rw [List.any_eq_true]
  constructor
  · rintro ⟨d, hd, e⟩
    obtain ⟨y, hy, rfl⟩ := List.mem_map.mp hd
    rw [(eqv_rep y x).mp e] at hy
    exact hy
  · intro h
    exact ⟨repD x, List.mem_map.mpr ⟨x, h, rfl⟩, (eqv_rep x x).mpr rfl⟩
theorem shp_reps (rs : List (Nat × Nat)) : Shp 2 (.list (repsD rs)) := shp_list (shpA_all fun d hd => by
  obtain ⟨x, _, rfl⟩ := List.mem_map.mp hd
  exact shp_rep x)
theorem take_filter {α : Type} {l : List α} {i : Nat} {x : α} (p : α → Bool) (h : l[i]? = some x) : (l.take (i + 1)).filter p = (l.take i).filter p ++ (if p x = true then [x] else []) := by
  rw [take_at h, List.filter_append]
  cases e : p x <;> simp [e]
theorem ok__law_order {P : Program} {w : World} {K : PySem.W.Frag} {mg : Str → Option Value} {base : Heap} (T : Txt K mg) : OkF P w K mg base CX0 3 ("_law_order", none) ["bars", "repeats"] (sp__law_order K) := by
  refine okN T._law_order sc__law_order (fun vs H Q E h => ?_) (fun cdv A outer s H vs Q E hr h => ?_)
  · obtain ⟨a, bs, y, rs, rfl, _⟩ := h
    rfl
  · obtain ⟨a, bs, y, rs, rfl, hb, hy, ok, hrl, hbl, z⟩ := h
    obtain ⟨t, vs, rfl, ht, ha⟩ : ∃ t vs, y = .ref t ∧ SqT K H t vs ∧ DpAll K H vs (repsD rs) := by
      cases hy with
      | tup s a => exact ⟨_, _, rfl, s, a⟩
    have hvl : vs.length = rs.length := by rw [dpa_len ha, List.length_map]
    obtain ⟨bv, hbv, hbd⟩ := lst_bars hb
    have hbl2 := bars_len hbd
    have hlen := order_len ok
    refine ⟨_, (pss_cons (ps_asg (pe_tup (pa_cons (pe_lst pa_nil) (pa_cons pe_int (pa_cons (pe_lst pa_nil) pa_nil)))) (pg_tup rfl (pgs_cons (pg_name (i := 2) sc__law_order.nd rfl (by first | exact Or.inl rfl | exact Or.inr rfl)) (pgs_cons (pg_name (i := 3) sc__law_order.nd rfl (by first | exact Or.inl rfl | exact Or.inr rfl)) (pgs_cons (pg_name (i := 4) sc__law_order.nd rfl (by first | exact Or.inl rfl | exact Or.inr rfl)) pgs_nil)))))
      (pss_cons (ps_while PassesOwn.never (pt_cmpR op_lt (pv 3) (pe_callB call_len (by rfl) T.b_len PySem.boot_len (pa_cons (pv 0) pa_nil)) (nomark _))
      (pss_cons (ps_expr (pe_bm PySem.F.plainAttrs_list PySem.F.slot_list_append PySem.F.type_list_append mt_append (pv 2) (pa_cons (pv 3) pa_nil)))
      (pss_cons (ps_setLc (i := 5) (own := [("one", 6)]) (g := (gName 6))  (by rfl) sc__law_order.nd rfl rfl (sw_true rfl rfl rfl (by decide +kernel)) (pi_tup (pv 1)) (blkOk_by (own := [("one", 6)]) (N := ["bars", "repeats", "found", "at", "done", "back", "one"]) (sc := defScope s__law_order) (by decide +kernel)) (fun _ _ _ _ _ => (pg_name (i := 6) sc__law_order.nd rfl (by first | exact Or.inl rfl | exact Or.inr rfl))) (fun _ _ _ _ _ => (pts_one (PW.pt (pw_and (pt_cmpR op_eq (pe_ix (r := rIxT K) ix_tup (pv 6) pe_int (fun _ _ => rfl)) (pv 3) (nomark _)) (pw_and1 (pt_cmpR (r := rNotInD K) (op_notInD (units65 hr)) (pv 6) (pv 4) (by rfl))))))) (fun _ _ _ _ _ => (pe_ix (r := rIxT K) ix_tup (pv 6) pe_int (fun _ _ => rfl))))
      (pss_cons (ps_set (i := 4) sc__law_order.nd rfl (by first | exact Or.inl rfl | exact Or.inr rfl) (pe_op op_cat (pv 4) (pe_lc (own := [("one", 6)]) (g := (gName 6))  (by rfl) sc__law_order.nd (pi_tup (pv 1)) (blkOk_by (own := [("one", 6)]) (N := ["bars", "repeats", "found", "at", "done", "back", "one"]) (sc := defScope s__law_order) (by decide +kernel)) (fun _ _ _ _ _ => (pg_name (i := 6) sc__law_order.nd rfl (by first | exact Or.inl rfl | exact Or.inr rfl))) (fun _ _ _ _ _ => (pts_one (pt_cmpR op_eq (pe_ix (r := rIxT K) ix_tup (pv 6) pe_int (fun _ _ => rfl)) (pv 3) (nomark _)))) (fun _ _ _ _ _ => (pv 6)))))
      (pss_one (ps_set (i := 3) sc__law_order.nd rfl (by first | exact Or.inl rfl | exact Or.inr rfl) (pe_ifExp (pt_cmpR (op_neD hr.units) (pv 5) (pe_lst pa_nil) (nomark _)) (pe_ix ix_list (pv 5) pe_int (fun _ _ => rfl)) (pe_op op_add (pv 3) pe_int))))))))
      (pss_one (ps_ret (pv 2))))), ?_⟩
    refine ⟨by decide, fun F nF => ⟨by decide, fun G0 nG0 => ⟨by show (3 : Nat) ≤ sizeLine; decide, fun c0 n0 => ⟨c0, _, rfl, .of upd_same, rfl, _, _, rfl, _, _, rfl, _, _, rfl, rfl, ?_⟩⟩⟩⟩
    have sF := same_upd (o := .lst []) nF
    have sG := same_upd (o := .lst []) nG0
    have sc0 := same_upd (o := .tup [.ref F, .int 0, .ref G0]) n0
    have nFG : G0 ≠ F := fun e => by
      rw [e, upd_same] at nG0
      cases nG0
    refine ⟨fun m σ H' => Same H H' ∧ ∃ (at_ : Nat) (g : List Nat) (rs1 rs2 dr : List (Nat × Nat)) (G : Addr) (dv : List V) (y5 y6 : Option V), m = (orderOf bs.length at_ rs2).length ∧ orderOf bs.length 0 rs = g ++ orderOf bs.length at_ rs2 ∧ rs = rs1 ++ rs2 ∧ RepIn bs.length at_ rs2 ∧ H' F = some (.lst (numsV g)) ∧ H' G = some (.lst dv) ∧ DpAll K H' dv (repsD dr) ∧ (∀ x, x ∈ dr ↔ x ∈ rs1) ∧ dr.length ≤ g.length * 6 ∧ G ≠ F ∧ σ = [some (.ref a), some (.ref t), some (.ref F), some (.int (at_ : Int)), some (.ref G), y5, y6], ⟨_, (sF.trans sG).trans sc0, 0, [], [], rs, [], G0, [], none, none, rfl, rfl, rfl, ok.in, sc0 _ _ (sG _ _ upd_same), sc0 _ _ upd_same, .nil, fun _ => Iff.rfl, by decide, nFG, rfl⟩, ?_⟩
    rintro m σ H1 ⟨s1, at_, g, rs1, rs2, dr, G, dv, y5, y6, hm, hg, hrs, hin, hF, hG, hdv, hdr, hdl, nGF, rfl⟩
    have hgl := congrArg List.length hg
    rw [List.length_append] at hgl
    refine ⟨_, rfl, _, rfl, _, _, rfl, .inl ⟨_, s1.seq hbv, rfl⟩, _, _, rfl, rfl, _, rfl, ?_⟩
    rw [hbl2]
    refine ite2P (fun hlt => ?_) (fun hlt => ?_)
    · have hat : at_ < bs.length := by omega
      refine ⟨fun σ' H' => ∃ m', m' < m ∧ Same H H' ∧ ∃ (at_ : Nat) (g : List Nat) (rs1 rs2 dr : List (Nat × Nat)) (G : Addr) (dv : List V) (y5 y6 : Option V), m' = (orderOf bs.length at_ rs2).length ∧ orderOf bs.length 0 rs = g ++ orderOf bs.length at_ rs2 ∧ rs = rs1 ++ rs2 ∧ RepIn bs.length at_ rs2 ∧ H' F = some (.lst (numsV g)) ∧ H' G = some (.lst dv) ∧ DpAll K H' dv (repsD dr) ∧ (∀ x, x ∈ dr ↔ x ∈ rs1) ∧ dr.length ≤ g.length * 6 ∧ G ≠ F ∧ σ' = [some (.ref a), some (.ref t), some (.ref F), some (.int (at_ : Int)), some (.ref G), y5, y6], fun _ _ h => h, ?_⟩
      refine ⟨_, rfl, .inl ⟨rfl, _, .of hF⟩, _, rfl, F, _, _, rfl, rfl, hF, ?_, ?_⟩
      · rw [List.length_map]
        exact small5000 (by omega)
      have s2 : Same H (upd H1 F (.lst (numsV g ++ [.int (at_ : Int)]))) := same_updR s1 nF
      have f2 : Fr [F] H1 (upd H1 F (.lst (numsV g ++ [.int (at_ : Int)]))) := Fr.upd hF trivial (by simp)
      have hF2 : (upd H1 F (.lst (numsV g ++ [.int (at_ : Int)]))) F = some (.lst (numsV (g ++ [at_]))) := by
        rw [upd_same]
        show _ = some (HO.lst (List.map _ (g ++ [at_])))
        rw [List.map_append]
        rfl
      have hG2 := f2.keep _ _ (by simp [nGF]) hG
      have hdv2 := f2.dpa hdv (isTs_reps dr)
      generalize (upd H1 F (.lst (numsV g ++ [.int (at_ : Int)]))) = H2 at s2 f2 hF2 hG2 hdv2 ⊢
      have hx2 : ∀ {i : Nat} {v : V} {H' : Hp}, vs[i]? = some v → Same H H' → ∃ x o, rs[i]? = some x ∧ v = .ref o ∧ SqT K H' o (repV x) := by
        intro i v H' hv s'
        obtain ⟨x, e1, e2⟩ := rep_at ha hv
        obtain ⟨o, e3, e4⟩ := dp_rep e2
        exact ⟨x, o, e1, e3, same_sqt s' e4⟩
      -- back
      refine ⟨_, rfl, t, rfl, ⟨_, same_sqt s2 ht⟩, fun D hD => lc_tup (K := K) (a := t) (xs := vs) (fun i H' => Same H2 H' ∧ H' D = some (.lst (numsV (((rs.take i).filter fun x => decide (x.2 = at_) && !dnB dr x).map (·.1))))) ⟨same_upd hD, upd_same⟩ ?_ ?_ ?_⟩
      · rintro i H' _ ⟨s', _⟩
        exact same_sqt (s2.trans s') ht
      · rintro i v H' hv ⟨s', e'⟩
        obtain ⟨x, o, hx, rfl, ho⟩ := hx2 hv (s2.trans s')
        have tf := take_filter (fun x : Nat × Nat => decide (x.2 = at_) && !dnB dr x) hx
        have no : (decide (x.2 = at_) && !dnB dr x) = false → H' D = some (.lst (numsV (((rs.take (i + 1)).filter fun x => decide (x.2 = at_) && !dnB dr x).map (·.1)))) := by
          intro hn
          rw [tf, hn, if_neg Bool.false_ne_true, List.append_nil]
          exact e'
        refine ⟨rfl, _, rfl, o, _, _, _, rfl, rfl, ho, rfl, _, rfl, rfl, _, rfl, ite2Q (fun e => ?_) (fun ne => iteF ⟨s', no ?_⟩)⟩
        · refine ⟨_, rfl, _, rfl, repD x, repsD dr, dp_rep_of ho, .lst (.of (s' _ _ hG2)) (dpa_same s' hdv2), (shp_rep x).ok (by decide), (shp_reps dr).ok (by decide), _, rfl, ?_⟩
          have ex : x.2 = at_ := by omega
          show if (!dnB dr x) = true then _ else _
          cases hdn : dnB dr x with
          | true =>
            refine iteF ⟨s', no ?_⟩
            rw [hdn]
            exact Bool.and_false _
          | false =>
            refine iteT ⟨_, rfl, o, _, _, _, rfl, rfl, ho, rfl, _, e', ?_, same_updR s' hD, ?_⟩
            · rw [List.length_map, List.length_map]
              have h1 := List.length_filter_le (fun x : Nat × Nat => decide (x.2 = at_) && !dnB dr x) (rs.take i)
              have h2 : (rs.take i).length ≤ rs.length := by rw [List.length_take]; omega
              exact small1000 (by omega)
            · rw [upd_same, tf, hdn, decide_eq_true ex, if_pos (show (true && !false) = true from rfl), List.map_append]
              show _ = some (HO.lst (List.map _ (_ ++ _)))
              rw [List.map_append]
              rfl
        · rw [decide_eq_false (by omega)]
          rfl
      · rintro H3 ⟨s3, e3⟩
        rw [hvl, List.take_length, hrs, back_of (hrs ▸ ok) (fun x => (dnB_iff dr x).trans (hdr x)) hin] at e3
        have s03 := s2.trans s3
        -- done + [..]
        refine ⟨_, rfl, _, rfl, t, rfl, ⟨_, same_sqt s03 ht⟩, fun D2 hD2 => lc_tup (K := K) (a := t) (xs := vs) (fun i H' => Same H3 H' ∧ ∃ ws, H' D2 = some (.lst ws) ∧ DpAll K H' ws (repsD ((rs.take i).filter fun x => decide (x.2 = at_)))) ⟨same_upd hD2, [], upd_same, .nil⟩ ?_ ?_ ?_⟩
        · rintro i H' _ ⟨s', _⟩
          exact same_sqt (s03.trans s') ht
        · rintro i v H' hv ⟨s', ws, e', hws⟩
          obtain ⟨x, o, hx, rfl, ho⟩ := hx2 hv (s03.trans s')
          have tf := take_filter (fun x : Nat × Nat => decide (x.2 = at_)) hx
          refine ⟨rfl, _, rfl, o, _, _, _, rfl, rfl, ho, rfl, _, rfl, rfl, _, rfl, ite2Q (fun e => ?_) (fun ne => ⟨s', ws, e', ?_⟩)⟩
          · have s5 : Same H3 (upd H' D2 (.lst (ws ++ [.ref o]))) := same_updR s' hD2
            have f5 : Fr [D2] H' (upd H' D2 (.lst (ws ++ [.ref o]))) := Fr.upd e' trivial (by simp)
            refine ⟨_, rfl, ws, e', ?_, s5, ws ++ [.ref o], upd_same, ?_⟩
            · rw [dpa_len hws, List.length_map]
              have h1 := List.length_filter_le (fun x : Nat × Nat => decide (x.2 = at_)) (rs.take i)
              have h2 : (rs.take i).length ≤ rs.length := by rw [List.length_take]; omega
              exact small1000 (by omega)
            · rw [tf, decide_eq_true (show x.2 = at_ by omega), if_pos rfl]
              show DpAll K _ _ (List.map repD (_ ++ [x]))
              rw [List.map_append]
              exact dpa_snoc (f5.dpa hws (isTs_reps _)) (f5.dp (dp_rep_of ho) rfl)
          · rw [tf, decide_eq_false (show ¬ x.2 = at_ by omega), if_neg Bool.false_ne_true, List.append_nil]
            exact hws
        · rintro H4 ⟨s4, ws, e4, hws⟩
          rw [hvl, List.take_length] at hws
          have hG4 := s4 _ _ (s3 _ _ hG2)
          have hfl := List.length_filter_le (fun x : Nat × Nat => decide (x.2 = at_)) rs
          have hdvl : dv.length = dr.length := by rw [dpa_len hdv, List.length_map]
          have hwsl : ws.length = (rs.filter fun x => decide (x.2 = at_)).length := by rw [dpa_len hws, List.length_map]
          refine ⟨G, D2, _, _, rfl, rfl, hG4, e4, ?_, fun G' nG' => ?_⟩
          · rw [hdvl, hwsl]
            have : sizeLine = 16777216 := sizeLine_eq
            omega
          have s5 := same_upd (o := .lst (dv ++ ws)) nG'
          have s35 := s4.trans s5
          have hds5 : DpAll K (upd H4 G' (.lst (dv ++ ws))) (dv ++ ws) (repsD (dr ++ rs.filter fun x => decide (x.2 = at_))) := by
            show DpAll K _ _ (List.map repD (_ ++ _))
            rw [List.map_append]
            exact dpa_app (dpa_same (s3.trans s35) hdv2) (dpa_same s5 hws)
          have hF5 := s5 _ _ (s4 _ _ (s3 _ _ hF2))
          have hD5 := s35 _ _ e3
          have nGF' : G' ≠ F := fun e => by
            rw [e, s4 _ _ (s3 _ _ hF2)] at nG'
            cases nG'
          have s05 := s03.trans s35
          have hG5 : (upd H4 G' (.lst (dv ++ ws))) G' = some (.lst (dv ++ ws)) := upd_same
          generalize (upd H4 G' (.lst (dv ++ ws))) = H5 at hds5 hF5 hD5 s05 hG5 ⊢
          have hdl2 : (dr ++ rs.filter fun x => decide (x.2 = at_)).length ≤ (g ++ [at_]).length * 6 := by
            rw [List.length_append, List.length_append]
            show _ ≤ (g.length + 1) * 6
            omega
          -- at = back[0] if back != [] else at + 1
          refine ⟨_, rfl, by decide, fun c nc => ?_⟩
          have sc := same_upd (o := .lst []) nc
          refine ⟨_, .list [], .lst (.of (sc _ _ hD5)) (dpa_nums_of _), .lst (.of upd_same) .nil, (shp_numsL _).ok (by decide), (shp_nil (n := 0)).ok (by decide), _, rfl, ?_⟩
          cases hr2 : (rs2.head?.toList.filter fun x => decide (x.2 = at_)) with
          | nil =>
            have hn : ∀ x ∈ rs2.head?, x.2 ≠ at_ := by
              intro x hx e
              cases rs2 with
              | nil => cases hx
              | cons y r =>
                have e2 : y = x := by simpa using hx
                subst e2
                have : List.filter (fun x : Nat × Nat => decide (x.2 = at_)) [y] = [] := hr2
                rw [List.filter_cons, decide_eq_true e, if_pos rfl] at this
                cases this
            obtain ⟨n1, n2⟩ := order_next hat hin hn
            refine iteF ⟨_, rfl, _, _, rfl, rfl, ?_⟩
            refine ⟨m - 1, ?_, s05.trans sc, at_ + 1, g ++ [at_], rs1, rs2, _, G', _, _, _, ?_, ?_, hrs, n2, sc _ _ hF5, sc _ _ hG5, dpa_same sc hds5, ?_, hdl2, nGF', rfl⟩
            · rw [n1, List.length_cons] at hm
              omega
            · rw [hm, n1]
              rfl
            · rw [hg, n1, List.append_assoc]
              rfl
            · intro x
              rw [List.mem_append, hdr, List.mem_filter]
              constructor
              · rintro (h | ⟨h1, h2⟩)
                · exact h
                · have e2 : x.2 = at_ := of_decide_eq_true h2
                  rw [hrs] at h1
                  rcases List.mem_append.mp h1 with h | h
                  · exact h
                  · cases rs2 with
                    | nil => cases h
                    | cons y r =>
                      have ny := hn y rfl
                      obtain ⟨i1, i2, i3, i4⟩ := hin
                      rcases List.mem_cons.mp h with e | h
                      · rw [e] at e2
                        exact absurd e2 ny
                      · have := i4.lt x h
                        omega
              · exact .inl
          | cons x rr =>
            obtain ⟨r, hrx, ex, hrr⟩ : ∃ r, rs2 = x :: r ∧ x.2 = at_ ∧ rr = [] := by
              cases rs2 with
              | nil => cases hr2
              | cons y r =>
                have h2 : List.filter (fun x : Nat × Nat => decide (x.2 = at_)) [y] = x :: rr := hr2
                rw [List.filter_cons] at h2
                by_cases e : y.2 = at_
                · rw [decide_eq_true e, if_pos rfl] at h2
                  have h3 := List.cons.inj h2
                  refine ⟨r, by rw [h3.1], by rw [← h3.1]; exact e, h3.2.symm⟩
                · rw [decide_eq_false e, if_neg Bool.false_ne_true] at h2
                  cases h2
            subst hrr
            rw [hr2] at hD5
            subst ex
            rw [hrx] at hin hm hg hrs
            obtain ⟨n1, n2⟩ := order_end hin
            refine iteT ⟨_, rfl, D, _, _, _, rfl, rfl, .of (sc _ _ hD5), rfl, ?_⟩
            refine ⟨m - 1, ?_, s05.trans sc, x.1, g ++ [x.2], rs1 ++ [x], r, _, G', _, _, _, ?_, ?_, ?_, n2, sc _ _ hF5, sc _ _ hG5, dpa_same sc hds5, ?_, hdl2, nGF', rfl⟩
            · rw [n1, List.length_cons] at hm
              omega
            · rw [hm, n1]
              rfl
            · rw [hg, n1, List.append_assoc]
              rfl
            · rw [hrs, List.append_assoc]
              rfl
            · intro y
              rw [List.mem_append, hdr, List.mem_append, List.mem_singleton, hrs, ends_at (hrs ▸ ok)]
    · refine ⟨_, rfl, z F H1 s1 nF ?_⟩
      rw [hF, hg]
      have : orderOf bs.length at_ rs2 = [] := by
        cases rs2 with
        | nil => exact rng_nil (by omega)
        | cons x r =>
          obtain ⟨i1, i2, i3, i4⟩ := hin
          omega
      rw [this, List.append_nil]
theorem sc__law_side : FnScope ["desk", "page", "sides"] ["desk", "page"] (defScope s__law_side) := ⟨rfl, rfl, rfl, by decide +kernel, rfl, by decide +kernel, by decide +kernel⟩
section
variable {K : PySem.W.Frag} {mg : Str → Option Value}
theorem b__law_side (T : Txt K mg) : Binds K (fdOf K ("_law_side", none)) ["desk", "page"] [] := T._law_side.bindsN fun _ _ _ _ _ _ us hl => match us, hl with | [_, _], _ => rfl
end
def sp__law_side (K : PySem.W.Frag) : Sp := fun vs H Q _ => ∃ (x : V) (k : Desk) (page : Nat), vs = [x, .int (page : Int)] ∧ Dp K H x (deskD k) ∧ ∀ H', Same H H' → Q (.str (sideS (isRight k page))) H'
theorem ok__law_side {P : Program} {w : World} {K : PySem.W.Frag} {mg : Str → Option Value} {base : Heap} (T : Txt K mg) : OkF P w K mg base CX0 1 ("_law_side", none) ["desk", "page"] (sp__law_side K) := by
  refine okN T._law_side sc__law_side (fun vs H Q E h => ?_) (fun cdv A outer s H vs Q E hr h => ?_)
  · obtain ⟨x, k, page, rfl, _⟩ := h
    rfl
  · obtain ⟨x, k, page, rfl, hd, q⟩ := h
    obtain ⟨p, rfl, hs⟩ := dp_desk hd
    refine ⟨_, (pss_cons (ps_set (i := 2) sc__law_side.nd rfl (by first | exact Or.inl rfl | exact Or.inr rfl) (pe_ifExp (pt_cmpR op_eq (pe_ix ix_tup (pv 0) pe_int (fun _ _ => rfl)) pe_str (nomark _)) (pe_lst (pa_cons pe_str (pa_cons pe_str pa_nil))) (pe_lst (pa_cons pe_str (pa_cons pe_str pa_nil)))))
      (pss_one (ps_ret (pe_ix ix_list (pv 2) (pe_op op_mod (pv 1) pe_int) (fun _ _ => rfl))))), ?_⟩
    refine ⟨_, rfl, p, _, _, _, rfl, rfl, hs, rfl, rfl, _, rfl, ?_⟩
    unfold isRight at q
    cases hk : k.side with
    | false =>
      rw [hk] at q
      rw [show decide (V.str (sideS false) = V.str (Str.ofString "left")) = true by decide +kernel]
      refine iteT ⟨by show (2 : Nat) ≤ sizeLine; decide, fun L nL => ⟨_, rfl, _, rfl, _, _, rfl, rfl, (by show (0 : Int) < 2; decide), ?_⟩⟩
      rcases (by omega : page % 2 = 0 ∨ page % 2 = 1) with e | e
      · refine ⟨L, _, _, _, rfl, rfl, .of upd_same, at_of (j := 0) (by omega) rfl, ?_⟩
        have q1 := q _ (same_upd (o := .lst [.str (Str.ofString "left"), .str (Str.ofString "right")]) nL)
        rw [decide_eq_true e] at q1
        exact q1
      · refine ⟨L, _, _, _, rfl, rfl, .of upd_same, at_of (j := 1) (by omega) rfl, ?_⟩
        have q1 := q _ (same_upd (o := .lst [.str (Str.ofString "left"), .str (Str.ofString "right")]) nL)
        rw [decide_eq_false (by omega)] at q1
        exact q1
    | true =>
      rw [hk] at q
      rw [show decide (V.str (sideS true) = V.str (Str.ofString "left")) = false by decide +kernel]
      refine iteF ⟨by show (2 : Nat) ≤ sizeLine; decide, fun L nL => ⟨_, rfl, _, rfl, _, _, rfl, rfl, (by show (0 : Int) < 2; decide), ?_⟩⟩
      rcases (by omega : page % 2 = 0 ∨ page % 2 = 1) with e | e
      · refine ⟨L, _, _, _, rfl, rfl, .of upd_same, at_of (j := 0) (by omega) rfl, ?_⟩
        have q1 := q _ (same_upd (o := .lst [.str (Str.ofString "right"), .str (Str.ofString "left")]) nL)
        rw [decide_eq_true e] at q1
        exact q1
      · refine ⟨L, _, _, _, rfl, rfl, .of upd_same, at_of (j := 1) (by omega) rfl, ?_⟩
        have q1 := q _ (same_upd (o := .lst [.str (Str.ofString "right"), .str (Str.ofString "left")]) nL)
        rw [decide_eq_false (by omega)] at q1
        exact q1
theorem sc__law_run : FnScope ["row", "found", "bar"] ["row"] (defScope s__law_run) := ⟨rfl, rfl, rfl, by decide +kernel, rfl, by decide +kernel, by decide +kernel⟩
section
variable {K : PySem.W.Frag} {mg : Str → Option Value}
theorem b__law_run (T : Txt K mg) : Binds K (fdOf K ("_law_run", none)) ["row"] [] := T._law_run.bindsN fun _ _ _ _ _ _ us hl => match us, hl with | [_], _ => rfl
end
def sp__law_run (K : PySem.W.Frag) : Sp := fun vs H Q _ => ∃ (a : Addr) (bs : List Bar), vs = [.ref a] ∧ Dp K H (.ref a) (.list (barsD bs)) ∧ Q (.int (beatsOf bs)) H
theorem ok__law_run {P : Program} {w : World} {K : PySem.W.Frag} {mg : Str → Option Value} {base : Heap} (T : Txt K mg) : OkF P w K mg base CX0 1 ("_law_run", none) ["row"] (sp__law_run K) := by
  refine okN T._law_run sc__law_run (fun vs H Q E h => ?_) (fun cdv A outer s H vs Q E hr h => ?_)
  · obtain ⟨a, bs, rfl, _⟩ := h
    rfl
  · obtain ⟨a, bs, rfl, hd, q⟩ := h
    obtain ⟨xs, hs, ha⟩ := lst_bars hd
    refine ⟨_, (pss_cons (ps_set (i := 1) sc__law_run.nd rfl (by first | exact Or.inl rfl | exact Or.inr rfl) pe_int)
      (pss_cons (ps_for PassesOwn.never rfl (pi_list (pv 0)) (pg_name (i := 2) sc__law_run.nd rfl (by first | exact Or.inl rfl | exact Or.inr rfl))
      (pss_cons (ps_if (pt_not (pt_val (pe_ix ix_tup (pv 2) pe_int (fun _ _ => rfl)))) (pss_one (ps_ret (pv 1))) pss_nil)
      (pss_one (ps_set (i := 1) sc__law_run.nd rfl (by first | exact Or.inl rfl | exact Or.inr rfl) (pe_op op_add (pv 1) (pe_ix ix_tup (pv 2) pe_int (fun _ _ => rfl)))))))
      (pss_one (ps_ret (pv 1))))), ?_⟩
    refine ⟨_, rfl, a, rfl, ⟨_, hs⟩, for_list (xs := xs) (fun i σ H' => H' = H ∧ ∃ f y2, σ = [some (.ref a), some (.int f), y2] ∧ f + beatsOf (bs.drop i) = beatsOf bs) ⟨rfl, 0, none, rfl, ?_⟩ ?_ ?_ ?_⟩
    · show 0 + beatsOf bs = beatsOf bs
      omega
    · rintro i σ H' _ ⟨rfl, _⟩
      exact hs
    · rintro i x σ H' hx ⟨rfl, f, y2, rfl, e⟩
      obtain ⟨b, p, hb, rfl, hp⟩ := bar_at ha hx
      rw [drop_at hb] at e
      refine ⟨_, rfl, p, _, _, _, rfl, rfl, hp, rfl, _, rfl, ?_⟩
      replace e : f + (if b.r = true then b.b + beatsOf (bs.drop (i + 1)) else 0) = beatsOf bs := e
      cases hr : b.r with
      | true =>
        rw [hr, if_pos rfl] at e
        refine iteF ⟨_, rfl, _, rfl, p, _, _, _, rfl, rfl, hp, rfl, _, _, rfl, rfl, rfl, _, _, rfl, ?_⟩
        omega
      | false =>
        rw [hr, if_neg Bool.false_ne_true] at e
        refine iteT ⟨_, rfl, ?_⟩
        rw [show f = beatsOf bs by omega]
        exact q
    · rintro σ H' ⟨rfl, f, y2, rfl, e⟩
      rw [bars_len ha, List.drop_length] at e
      refine ⟨_, rfl, ?_⟩
      rw [show f = beatsOf bs by
        have e2 : f + 0 = beatsOf bs := e
        omega]
      exact q
section
open PySem
set_option maxHeartbeats 1000000 in
theorem meets_enum_newT (l : Addr) (items : Array Value) (n : Nat) (dct : Option Addr) (sl : Array (Option Value)) :
    Meets (Builtin.«enumerate.__new__» ⟨[.type "enumerate", .ref l], []⟩) (fun _ R s => s.heap.get? l = some { cls := .type "tuple", dict := dct, data := .seq items n, slots := sl } ∧
      R (.ok (.ret (.ref (s.heap.push { cls := .type "tuple_iterator", data := .fields #[.ref l, .int 0 0] }).objs.size)))
        { s with heap := (s.heap.push { cls := .type "tuple_iterator", data := .fields #[.ref l, .int 0 0] }).push { cls := .type "enumerate", data := .fields #[.none, .bool false, .ref s.heap.objs.size, rawInt 0, .none, .none] } }) :=
  .of_wp fun prog w A R s h => by
    obtain ⟨hp, g, d, tk, os⟩ := s
    obtain ⟨hl, h⟩ := h
    have hL : hp.IsTuple l items := ⟨_, hl, rfl, n, rfl⟩
    have hsub := sub_enumerate
    wp_walk using wpAny_loadPart' hl, wpAny_pyIter_tuple hL
    refine wpAny_stack_any fun st => wpAny_pure ?_
    split
    · rename_i c _ _ _ _ _
      cases (c == Value.type "enumerate")
      · wp_walk using wpAny_loadPart' hl, wpAny_pyIter_tuple hL
        exact ⟨_, rfl, h⟩
      · wp_walk using wpAny_loadPart' hl, wpAny_pyIter_tuple hL
        exact ⟨_, rfl, h⟩
    · wp_walk using wpAny_loadPart' hl, wpAny_pyIter_tuple hL
      exact ⟨_, rfl, h⟩
section
variable {prog : Program} {w : World} {A : Around} {E : Value → Shared → Prop} {s : Shared}
theorem call_enum_tuple {l : Addr} {items : Array Value} {Q : Value → Shared → Prop} (hL : s.heap.IsTuple l items)
    (h : ∀ h', IsEnum h' (s.heap.objs.size + 1) s.heap.objs.size 0 .none → h'.IsTupleIter s.heap.objs.size l 0 → h'.objs.size = s.heap.objs.size + 2 →
      (∀ b o, s.heap.get? b = some o → h'.get? b = some o) → Q (.ref (s.heap.objs.size + 1)) { s with heap := h' }) :
    wpAny (model prog w) A (call (.type "enumerate") [.ref l]) Q E s := by
  obtain ⟨⟨c, dct, dt, sl⟩, hl, hc, n, hd⟩ := hL
  replace hc : c = .type "tuple" := hc
  replace hd : dt = .seq items n := hd
  subst hc hd
  refine callType_new F.called_enumerate (by decide) (F.typeCall_enumerate_1 _) (F.newCall_enumerate_1 _) (fun obj => F.args_object_init_2 obj _) F.entry_enumerate_new
    (meets_enum_newT l items n dct sl) ⟨hl, ?_⟩
  have hz : (s.heap.push { cls := .type "tuple_iterator", data := .fields #[.ref l, .int 0 0] }).objs.size = s.heap.objs.size + 1 := Heap.size_push ..
  show _ ∧ _
  rw [hz]
  have he : IsEnum ((s.heap.push { cls := .type "tuple_iterator", data := .fields #[.ref l, .int 0 0] }).push
      { cls := .type "enumerate", data := .fields #[.none, .bool false, .ref s.heap.objs.size, rawInt 0, .none, .none] }) (s.heap.objs.size + 1) s.heap.objs.size 0 .none := by
    have := Heap.get?_push_size (s.heap.push { cls := .type "tuple_iterator", data := .fields #[.ref l, .int 0 0] })
      (o := { cls := .type "enumerate", data := .fields #[.none, .bool false, .ref s.heap.objs.size, rawInt 0, .none, .none] }) rfl
    rw [hz] at this
    exact this
  refine ⟨⟨_, he, rfl⟩, h _ he ⟨_, Heap.get?_push_of_some _ (Heap.get?_push_size _ rfl), rfl, rfl⟩ (by rw [Heap.size_push, hz]) fun b o x => Heap.get?_push_of_some _ (Heap.get?_push_of_some _ x)⟩
end
end
/-- the tuple at a, each item in a new pair -/
def IteT (K : PySem.W.Frag) (a : Addr) : It :=
  ⟨fun i H => ∃ (xs : List V) (x : V), SqT K H a xs ∧ xs[i]? = some x, fun i H v H' => ∃ T x, v = .ref T ∧ H T = none ∧ H' = upd H T (.tup [.int (i : Nat), x]) ∧ ∀ xs, SqT K H a xs → xs[i]? = some x, fun i H => ∃ xs : List V, SqT K H a xs ∧ xs.length ≤ i⟩
theorem turn_enumT {P : Program} {w : World} {K : PySem.W.Frag} {elts : List Expr} {kk : Nat} {tpos : Pos} (a e it : Addr) :
    Turn P w K (.Tuple elts kk tpos) (IteT K a) [e, it] e (fun i h => (∃ old, IsEnum h e it ((i : Nat) : Int) old) ∧ h.IsTupleIter it a i ∧ e ≠ it ∧ a ≠ it ∧ a ≠ e) where
  mem := by simp
  obj := fun i h st b hb => by
    obtain ⟨⟨old, he⟩, ⟨o, ho, hc, hd⟩, _⟩ := st
    have e' : b = e ∨ b = it := by simpa using hb
    rcases e' with z | z
    · rw [z]; exact ⟨_, he, fun v q => nomatch q⟩
    · rw [z]; exact ⟨o, ho, fun v q => by rw [hd] at q; cases q⟩
  keep := fun i h h' st k => let ⟨⟨old, he⟩, hi, hne⟩ := st; ⟨⟨old, k e (by simp) _ he⟩, hi.at fun o q => k it (by simp) o q, hne⟩
  item := by
    intro X hP hw hK hc i pins s σ H E I hf st hg
    subst hP hw hK
    obtain ⟨⟨old, he⟩, hit, hne, hai, hae⟩ := st
    obtain ⟨xs, x, hq, hx⟩ := hg
    obtain ⟨its, rv, p, hz⟩ := I.tuple hq
    obtain ⟨u, hu, ru⟩ := rv.get hx
    have hel : e < s.heap.objs.size := Heap.lt_size he
    have hil : it < s.heap.objs.size := by obtain ⟨_, q, _⟩ := hit; exact Heap.lt_size q
    have hlt : i < its.toArray.size := by
      have := (List.getElem?_eq_some_iff.mp hu).1
      simpa using this
    refine wpAny_pyNext_enum_itemD (Draws.tuple (A := X.A.in1) (I.ok.hd hc) it a hai its.toArray) he ⟨hit, p⟩ hlt hne (by simp [hne, hae.symm]) fun y h' tk hy ho hst hT hsz hk => ?_
    have ey : y = u := by
      have h1 : its.toArray[i]? = some u := by simpa using hu
      rw [h1] at hy
      exact (Option.some.inj hy).symm
    subst ey
    refine ⟨_, rfl, wpAny_letOwnedTupleGo_enum (s := { s with heap := h', toks := tk + 1 }) ho fun h'' he' sb => ?_⟩
    have hT2 : h''.get? s.heap.objs.size = some { cls := .type "tuple", data := .seq #[.int i tk, y] } := (sb.2 _ (Nat.ne_of_gt hel)).trans hT
    have new : ObjOk X.prog X.w (upd H s.heap.objs.size (.tup [.int (i : Nat), x])) h'' s.heap.objs.size (.tup [.int (i : Nat), x]) :=
      ⟨by show 2 ≤ sizeLine; decide, [.int i tk, y], .cons ⟨_, rfl⟩ (.cons ru .nil), ⟨_, hT2, rfl, _, rfl⟩⟩
    have I1 : Inv X pins σ (upd H s.heap.objs.size (.tup [.int (i : Nat), x])) { s with heap := h'', toks := tk + 1 } :=
      I.turnedNew (ch := [e, it]) (fun b ob hb q => (sb.2 b (fun z => hb (by simp [z]))).trans (hk b ob (fun z => hb (by simp [z])) (fun z => hb (by simp [z])) q)) hf (Nat.le_refl _) new
    refine ⟨.ref s.heap.objs.size, _, I1, rfl, ⟨_, x, rfl, I.hok.fresh (Nat.le_refl _), rfl, fun ys hy => by rw [I.tuple_inj hy hq]; exact hx⟩, ⟨⟨y, ?_⟩, hst.1.at fun o q => (sb.2 it (Ne.symm hne)).trans q, hne, hai, hae⟩, fun b hb => ?_⟩
    · have e1 : ((i + 1 : Nat) : Int) = (i : Int) + 1 := by omega
      rw [e1]; exact he'
    · have hb' : b < s.heap.objs.size := by
        have e' : b = e ∨ b = it := by simpa using hb
        rcases e' with z | z
        · rw [z]; exact hel
        · rw [z]; exact hil
      rw [upd_ne (Nat.ne_of_lt hb')]
      exact (hf b hb).1
  done := by
    intro X hP hw hK hc i pins s σ H E I hf st hg
    subst hP hw hK
    obtain ⟨⟨old, he⟩, hit, hne, hai, hae⟩ := st
    obtain ⟨xs, hq, hx⟩ := hg
    obtain ⟨its, rv, p, hz⟩ := I.tuple hq
    obtain ⟨f0, f1, f2, f3, f4, f5⟩ := hf it (by simp)
    have hl := rv.length
    have hT : s.TypeIs (.ref e) "enumerate" := ⟨_, he, rfl⟩
    unfold pyNext
    refine wpAny_bind (wpAny_attempt (wpAny_callSpecial?_slot (name := Str.ofString "__next__") hT PySem.F.slot_enumerate_next
      (wpAny_call_entry PySem.F.slot_enumerate_next hT PySem.F.entry_enumerate_next ?_ (PySem.F.args_enumerate_next_1 _))))
    show wpAny _ _ (field (.ref e) 2 >>= _) _ _ _
    refine wpAny_bind (wpAny_field he rfl (x := .ref it) rfl ?_)
    refine wpAny_bind (wpAny_nextOf_tuple_end (I.ok.hd hc) hit (show s.heap.IsTuple a its.toArray from p) (by simp; omega) fun h' x he' hx' => ?_)
    obtain ⟨o, ho, hcx⟩ := hx'
    refine wpAny_bind (wpAny_isInstance (T := "StopIteration") (b := true) ⟨o, ho, hcx⟩ isSubtype_stop ?_)
    exact wpAny_pure ⟨rfl, I.turned (t' := s.toks) (fun b o hb q => he' b o hb q) f0 f1 f3 f4 f5⟩
  self := fun A i s Q E st h => let ⟨⟨_, he⟩, _⟩ := st; wpAny_pyIter_enum he h
def iEnumT (K : PySem.W.Frag) (ta : TA) : TI := fun σ H R => ta σ H fun vs H1 => ∃ a xs, vs = [.ref a] ∧ SqT K H1 a xs ∧ R (IteT K a) H1
theorem pi_enumT {X : Cx} {e : Expr} {ta : TA} {p pos tpos : Pos} {elts : List Expr} {kk : Nat} (hg : Gl X "enumerate") (hm : X.mg "enumerate" = none) (ha : PA X [e] ta) (hs : starEach [e] X.env = [(false, eval e X.env)] := by rfl) :
    PI X (.Tuple elts kk tpos) (.Call (.Name "enumerate" p) [e] [] pos) (iEnumT X.K ta) := by
  refine ⟨fun pins s σ H R I h => ?_⟩
  refine Call_ (ld_blt I hg hm boot_enumerate (PyProof.Rows.callWith_type1 (thn (ha.run pos pins s σ H _ I h) fun us s1 ⟨vs, H1, I1, r1, q1⟩ => ?_) hs rfl))
  obtain ⟨a, xs, ex, hq, q⟩ := q1
  subst ex
  cases r1 with
  | cons r rr =>
    cases rr
    cases r
    obtain ⟨its, rv, p', hz⟩ := I1.tuple hq
    have hal : a < s1.heap.objs.size := p'.lt
    refine call_enum_tuple (show s1.heap.IsTuple a its.toArray from p') fun h' he hit hsz hk => wpAny_pyIter_enum he ?_
    have I2 : Inv X pins σ H1 { s1 with heap := h' } := I1.kept (t' := s1.toks) hk
    refine ⟨s1.heap.objs.size + 1, [s1.heap.objs.size + 1, s1.heap.objs.size], _, _, H1, rfl, I2, turn_enumT a (s1.heap.objs.size + 1) s1.heap.objs.size, ⟨⟨.none, he⟩, hit, Nat.succ_ne_self _, Nat.ne_of_lt hal, Nat.ne_of_lt (Nat.lt_succ_of_lt hal)⟩, fun b hb => ?_, q⟩
    have e' : b = s1.heap.objs.size + 1 ∨ b = s1.heap.objs.size := by simpa using hb
    have hle : s1.heap.objs.size ≤ b := by
      rcases e' with z | z
      · rw [z]; exact Nat.le_add_right _ _
      · rw [z]; exact Nat.le_refl _
    exact I1.fpOk hle (I1.hok.fresh hle)
/-- over a tuple, numbered -/
theorem for_enumT {K : PySem.W.Frag} {a : Addr} {xs : List V} {g : TG} {tb : TS} {D : Ends} {σ : L2.St} {H : Hp} (Pv : Nat → L2.St → Hp → Prop) (h0 : Pv 0 σ H) (hl : ∀ i σ H, i ≤ xs.length → Pv i σ H → SqT K H a xs)
    (hs : ∀ i x σ H T, xs[i]? = some x → Pv i σ H → H T = none → g (.ref T) σ (upd H T (.tup [.int (i : Nat), x])) fun σ2 H2 => tb { D with nx := Pv (i + 1), ct := Pv (i + 1), bk := D.nx } σ2 H2) (hd : ∀ σ H, Pv xs.length σ H → D.nx σ H) :
    ∃ W : Nat → Nat → L2.St → Hp → Prop, (∃ m, W 0 m σ H) ∧ ∀ i m σ H, W i m σ H →
      ((IteT K a).stop i H ∧ D.nx σ H) ∨ ((IteT K a).go i H ∧ ∃ N : L2.St → Hp → Prop, (∀ σ' H', N σ' H' → ∃ m', m' < m ∧ W (i + 1) m' σ' H') ∧ ∀ x H', (IteT K a).yld i H x H' → g x σ H' fun σ2 H2 => tb { D with nx := N, ct := N, bk := D.nx } σ2 H2) := by
  refine ⟨fun i m σ H => m = xs.length - i ∧ i ≤ xs.length ∧ Pv i σ H, ⟨xs.length, by simp, Nat.zero_le _, h0⟩, ?_⟩
  rintro i m σ H ⟨rfl, hi, p⟩
  have q := hl i σ H hi p
  by_cases hlt : i < xs.length
  · refine .inr ⟨⟨xs, xs[i], q, by simp [hlt]⟩, Pv (i + 1), fun σ' H' p' => ⟨xs.length - (i + 1), by omega, rfl, hlt, p'⟩, fun x H' y => ?_⟩
    obtain ⟨T, x', rfl, nT, rfl, y⟩ := y
    exact hs i x' σ H T (y xs q) p nT
  · have e : i = xs.length := by omega
    subst e
    exact .inl ⟨⟨xs, q, Nat.le_refl _⟩, hd σ H p⟩
theorem sc__law_leaves : FnScope ["bars", "desk", "thing", "repeats", "pages", "found", "page", "many", "order", "one", "other", "low", "high"] ["bars", "desk", "thing", "repeats"] (defScope s__law_leaves) := ⟨rfl, rfl, rfl, by decide +kernel, rfl, by decide +kernel, by decide +kernel⟩
section
variable {K : PySem.W.Frag} {mg : Str → Option Value}
theorem b__law_leaves (T : Txt K mg) : Binds K (fdOf K ("_law_leaves", none)) ["bars", "desk", "thing", "repeats"] [] := T._law_leaves.bindsN fun _ _ _ _ _ _ us hl => match us, hl with | [_, _, _, _], _ => rfl
end
theorem dpa_sides {K : PySem.W.Frag} {H : Hp} (k : Desk) : ∀ l : List Nat, DpAll K H (l.map fun p => V.str (sideS (isRight k p))) (l.map fun p => PyData.str (sideS (isRight k p)))
  | [] => .nil
  | _ :: r => .cons (.str _) (dpa_sides k r)
theorem shp_sides (k : Desk) (l : List Nat) : Shp 1 (.list (l.map fun p => PyData.str (sideS (isRight k p)))) := shp_list (shpA_all fun d hd => by
  obtain ⟨p, _, rfl⟩ := List.mem_map.mp hd
  refine shp_str ?_
  cases isRight k p <;> decide +kernel)
theorem count_sides (k : Desk) : ∀ l : List Nat, (l.map fun p => PyData.str (sideS (isRight k p))).countP (fun z => PyData.eqv z (.str (Str.ofString "right"))) = (l.filter (isRight k)).length
  | [] => rfl
  | p :: r => by
    rw [List.map_cons, List.countP_cons, count_sides k r, List.filter_cons]
    cases isRight k p with
    | true =>
      rw [show PyData.eqv (.str (sideS true)) (.str (Str.ofString "right")) = true by simp only [PyData.eqv]; decide +kernel]
      rfl
    | false =>
      rw [show PyData.eqv (.str (sideS false)) (.str (Str.ofString "right")) = false by simp only [PyData.eqv]; decide +kernel]
      rfl
def sp__law_leaves (K : PySem.W.Frag) : Sp := fun vs H Q _ => ∃ (a : Addr) (bs : List Bar) (x y r : V) (k : Desk) (ns : List Nat) (rs : List (Nat × Nat)), vs = [.ref a, x, y, r] ∧ Dp K H (.ref a) (.list (barsD bs)) ∧ Dp K H x (deskD k) ∧ Dp K H y (.tuple (numsD ns)) ∧ ns.sum = bs.length ∧ ns.length ≤ 10000 ∧ Dp K H r (.tuple (repsD rs)) ∧ RepOk bs.length 0 rs ∧ rs.length ≤ 6 ∧ bs.length ≤ 1000 ∧
  ∀ v H', Same H H' → H v = none → LeavesL K H' v (leavesL bs k ns rs) → Q (.ref v) H'
theorem ok__law_leaves {P : Program} {w : World} {K : PySem.W.Frag} {mg : Str → Option Value} {base : Heap} (T : Txt K mg) : OkF P w K mg base CX0 4 ("_law_leaves", none) ["bars", "desk", "thing", "repeats"] (sp__law_leaves K) := by
  refine okN T._law_leaves sc__law_leaves (fun vs H Q E h => ?_) (fun cdv A outer s H vs Q E hr h => ?_)
  · obtain ⟨a, bs, x, y, r, k, ns, rs, rfl, _⟩ := h
    rfl
  · obtain ⟨a, bs, x, y, r, k, ns, rs, rfl, hb, hx, hy, hsum, hnl, hr', hro, hrl, hbl, z⟩ := h
    have hsz : sizeLine = 16777216 := sizeLine_eq
    obtain ⟨t, rfl, ht⟩ := dp_nums hy
    refine ⟨_, (pss_cons (ps_par (by rfl) sc__law_leaves.nd (i := 4) (j := 5) rfl rfl (by decide) rfl rfl (pa_cons (pe_lst pa_nil) (pa_cons (pe_lst pa_nil) pa_nil)) (by rfl))
      (pss_cons (ps_for PassesOwn.never rfl (pi_enumT (by rfl) T.b_enumerate (pa_cons (pv 2) pa_nil)) (pg_tup rfl (pgs_cons (pg_name (i := 6) sc__law_leaves.nd rfl (by first | exact Or.inl rfl | exact Or.inr rfl)) (pgs_cons (pg_name (i := 7) sc__law_leaves.nd rfl (by first | exact Or.inl rfl | exact Or.inr rfl)) pgs_nil)))
      (pss_one (ps_set (i := 4) sc__law_leaves.nd rfl (by first | exact Or.inl rfl | exact Or.inr rfl) (pe_op op_cat (pv 4) (pe_op op_rep (pe_lst (pa_cons (pv 6) pa_nil)) (pv 7))))))
      (pss_cons (ps_set (i := 8) sc__law_leaves.nd rfl (by first | exact Or.inl rfl | exact Or.inr rfl) (pe_call (ok__law_order T) (hr.mono (by decide)) (by rfl) T.g__law_order T._law_order.kp (b__law_order T) .nil pass0 (pa_cons (pv 0) (pa_cons (pv 3) pa_nil))))
      (pss_cons (ps_for PassesOwn.never rfl (pi_zip (by rfl) T.b_zip (pa_cons (pv 8) (pa_cons (pe_slice sl_list (pv 8) (po_some pe_int) po_none) pa_nil))) (pg_tup rfl (pgs_cons (pg_name (i := 9) sc__law_leaves.nd rfl (by first | exact Or.inl rfl | exact Or.inr rfl)) (pgs_cons (pg_name (i := 10) sc__law_leaves.nd rfl (by first | exact Or.inl rfl | exact Or.inr rfl)) pgs_nil)))
      (pss_cons (ps_par (by rfl) sc__law_leaves.nd (i := 11) (j := 12) rfl rfl (by decide) rfl rfl (pa_cons (pe_callB (call_min2 rfl) (by rfl) T.b_min (by decide +kernel) (pa_cons (pe_ix ix_list (pv 4) (pv 9) (fun _ _ => rfl)) (pa_cons (pe_ix ix_list (pv 4) (pv 10) (fun _ _ => rfl)) pa_nil))) (pa_cons (pe_callB (call_max2 rfl) (by rfl) T.b_max (by decide +kernel) (pa_cons (pe_ix ix_list (pv 4) (pv 9) (fun _ _ => rfl)) (pa_cons (pe_ix ix_list (pv 4) (pv 10) (fun _ _ => rfl)) pa_nil))) pa_nil)) (by rfl))
      (pss_cons (ps_set (i := 7) sc__law_leaves.nd rfl (by first | exact Or.inl rfl | exact Or.inr rfl) (pe_bm PySem.F.plainAttrs_list PySem.F.slot_list_count PySem.F.type_list_count (mt_lcountD (units65 hr)) (pe_lc (own := [("page", 6)]) (g := (gName 6)) (tt := tYes) (by rfl) sc__law_leaves.nd (pi_range2 (by rfl) T.b_range (pa_cons (pv 11) (pa_cons (pv 12) pa_nil))) (blkOk_by (own := [("page", 6)]) (N := ["bars", "desk", "thing", "repeats", "pages", "found", "page", "many", "order", "one", "other", "low", "high"]) (sc := defScope s__law_leaves) (by decide +kernel)) (fun _ _ _ _ _ => (pg_name (i := 6) sc__law_leaves.nd rfl (by first | exact Or.inl rfl | exact Or.inr rfl))) (fun _ _ _ _ _ => pts_nil) (fun _ _ _ _ _ => (pe_call (ok__law_side T) (hr.mono (by decide)) (by rfl) T.g__law_side T._law_side.kp (b__law_side T) .nil pass0 (pa_cons (pv 1) (pa_cons (pv 6) pa_nil))))) (pa_cons pe_str pa_nil)))
      (pss_one (ps_if (pt_cmpR op_gt (pv 7) pe_int (nomark _)) (pss_one (ps_expr (pe_bm PySem.F.plainAttrs_list PySem.F.slot_list_append PySem.F.type_list_append mt_append (pv 5) (pa_cons (pe_tup (pa_cons (pv 9) (pa_cons (pv 10) (pa_cons (pv 7) (pa_cons (pe_op op_add (pe_call (ok__law_run T) (hr.mono (by decide)) (by rfl) T.g__law_run T._law_run.kp (b__law_run T) .nil pass0 (pa_cons (pe_revL (pe_slice sl_list (pv 0) po_none (po_some (pe_op op_add (pv 9) pe_int)))) pa_nil)) (pe_call (ok__law_run T) (hr.mono (by decide)) (by rfl) T.g__law_run T._law_run.kp (b__law_run T) .nil pass0 (pa_cons (pe_slice sl_list (pv 0) (po_some (pv 10)) po_none) pa_nil))) pa_nil))))) pa_nil)))) pss_nil)))))
      (pss_one (ps_ret (pv 5))))))), ?_⟩
    refine ⟨by show (0 : Nat) ≤ sizeLine; decide, fun P0 nP0 => ⟨by show (0 : Nat) ≤ sizeLine; decide, fun F nF => ⟨_, _, rfl, ?_⟩⟩⟩
    have sP0 := same_upd (o := .lst []) nP0
    have sF := same_upd (o := .lst []) nF
    have s2 := sP0.trans sF
    have nF0 : H F = none := sP0.free nF
    have hP2 : (upd (upd H P0 (.lst [])) F (.lst [])) P0 = some (.lst []) := sF _ _ upd_same
    have hF2 : (upd (upd H P0 (.lst [])) F (.lst [])) F = some (.lst []) := upd_same
    generalize (upd (upd H P0 (.lst [])) F (.lst [])) = H2 at s2 hP2 hF2 ⊢
    refine ⟨_, rfl, t, _, rfl, same_sqt s2 ht, ?_⟩
    refine for_enumT (K := K) (a := t) (xs := numsV ns) (fun i σ H' => Same H H' ∧ H' F = some (.lst []) ∧ ∃ (Pg : Addr) (y6 y7 y8 y9 y10 y11 y12 : Option V), H' Pg = some (.lst (numsV (pagesN (ns.take i) 0))) ∧ σ = [some (.ref a), some x, some (.ref t), some r, some (.ref Pg), some (.ref F), y6, y7, y8, y9, y10, y11, y12]) ⟨s2, hF2, P0, none, none, none, none, none, none, none, hP2, rfl⟩ ?_ ?_ ?_
    · rintro i σ H1 _ ⟨s1, _⟩
      exact same_sqt s1 ht
    · rintro i v σ H3 Tp hv ⟨s3, hF3, Pg, y6, y7, y8, y9, y10, y11, y12, hPg, rfl⟩ nT
      have hi : i < ns.length := by
        have := (List.getElem?_eq_some_iff.mp hv).1
        rw [List.length_map] at this
        exact this
      obtain ⟨m, hm, rfl⟩ : ∃ m, ns[i]? = some m ∧ v = .int (m : Int) := by
        rw [List.getElem?_map] at hv
        cases e : ns[i]? with
        | none =>
          rw [e] at hv
          cases hv
        | some m =>
          rw [e] at hv
          exact ⟨m, rfl, (Option.some.inj hv).symm⟩
      have sT := same_upd (o := .tup [V.int (i : Int), .int (m : Int)]) nT
      refine ⟨Tp, _, rfl, .of upd_same, rfl, _, _, rfl, _, _, rfl, rfl, ?_⟩
      have hml : m ≤ bs.length := by
        have h7 := sum_take_le ns (i + 1)
        rw [take_at hm, List.sum_append] at h7
        have h8 : [m].sum = m := by simp
        omega
      refine ⟨_, rfl, _, rfl, by show (1 : Nat) ≤ sizeLine; decide, fun L nL => ?_⟩
      have sL := same_upd (o := .lst [V.int (i : Int)]) nL
      have etk : pagesN (ns.take (i + 1)) 0 = pagesN (ns.take i) 0 ++ List.replicate m i := by
        rw [take_at hm, pagesN_snoc, Nat.zero_add, List.length_take, Nat.min_eq_left (by omega)]
      have hpl : (pagesN (ns.take i) 0).length ≤ bs.length := by
        rw [pagesN_len, ← hsum]
        exact sum_take_le ns i
      refine ⟨_, rfl, L, (m : Int), [V.int (i : Int)], rfl, rfl, upd_same, by omega, by omega, ?_, fun M nM => ?_⟩
      · show 1 * ((m : Int).toNat) ≤ sizeLine
        omega
      rw [Int.toNat_natCast, rep_flat]
      have sM := same_upd (o := .lst (numsV (List.replicate m i))) nM
      have s35 := (sT.trans sL).trans sM
      refine ⟨Pg, M, _, _, rfl, rfl, s35 _ _ hPg, upd_same, ?_, fun N nN => ?_⟩
      · rw [List.length_map, List.length_map, List.length_replicate]
        omega
      have sN := same_upd (o := .lst (numsV (pagesN (ns.take i) 0) ++ numsV (List.replicate m i))) nN
      refine ⟨(s3.trans s35).trans sN, sN _ _ (s35 _ _ hF3), N, _, _, _, _, _, _, _, ?_, rfl⟩
      rw [upd_same, etk]
      show _ = some (HO.lst (List.map _ (_ ++ _)))
      rw [List.map_append]
    · rintro σ H3 ⟨s3, hF3', Pg, y6, y7, y8, y9, y10, y11, y12, hPg, rfl⟩
      rw [List.length_map, List.take_length] at hPg
      refine ⟨_, rfl, _, rfl, a, bs, r, rs, rfl, dp_same s3 hb, dp_same s3 hr', hro, hrl, hbl, fun O H4 s4' nO hO => ?_⟩
      have s04 := s3.trans s4'
      have hF4 := s4' _ _ hF3'
      have hPg4 := s4' _ _ hPg
      have hol := order_len hro
      have hlt := order_lt hro
      unfold leavesL at z
      generalize orderOf bs.length 0 rs = ord at hO hol hlt z
      refine ⟨_, rfl, _, rfl, _, rfl, O, _, rfl, .of hO, fun O2 nO2 => ?_⟩
      rw [show cutV (numsV ord) (some 1) none = (numsV ord).drop 1 from cut_drop (k := 1)]
      have sO2 := same_upd (o := .lst ((numsV ord).drop 1)) nO2
      have s5 := s04.trans sO2
      have hO5 := sO2 _ _ hO
      have hO25 : (upd H4 O2 (.lst ((numsV ord).drop 1))) O2 = some (.lst ((numsV ord).drop 1)) := upd_same
      have hF5 := sO2 _ _ hF4
      have hPg5 := sO2 _ _ hPg4
      have nOF : O ≠ F := fun e => by
        rw [e, hF3'] at nO
        cases nO
      have nO2F : O2 ≠ F := fun e => by
        rw [e, hF4] at nO2
        cases nO2
      generalize (upd H4 O2 (.lst ((numsV ord).drop 1))) = H5 at s5 hO5 hO25 hF5 hPg5 ⊢
      have hzl : (ord.zip ord.tail).length = min (numsV ord).length ((numsV ord).drop 1).length := by
        rw [List.length_zip, List.length_map, List.length_drop, List.length_map, List.length_tail]
      refine ⟨O, O2, _, _, rfl, .of hO5, .of hO25, for_it (walk_zip hzl) (fun i σ H' => Fr [F] H5 H' ∧ Same H H' ∧ LeavesL K H' F (leavesP bs k ns ((ord.zip ord.tail).take i)) ∧ ∃ y6 y7 y9 y10 y11 y12, σ = [some (.ref a), some x, some (.ref t), some r, some (.ref Pg), some (.ref F), y6, y7, some (.ref O), y9, y10, y11, y12]) ⟨Fr.refl _ _, s5, ⟨[], hF5, .nil⟩, _, _, _, _, _, _, rfl⟩ ?_ ?_ ?_⟩
      · rintro i σ H' _ ⟨f, _⟩
        exact ⟨.of (f.keep _ _ (by simp [nOF]) hO5), .of (f.keep _ _ (by simp [nO2F]) hO25)⟩
      · rintro i v σ H6 H6' hi ⟨f6, s6, hL6, y6, y7, y9, y10, y11, y12, rfl⟩ ⟨Tt, v1, v2, rfl, nT, rfl, hv1, hv2⟩
        dsimp only at hv1 hv2
        obtain ⟨one, hone, rfl⟩ : ∃ one, ord[i]? = some one ∧ v1 = .int (one : Int) := by
          rw [List.getElem?_map] at hv1
          cases e : ord[i]? with
          | none =>
            rw [e] at hv1
            cases hv1
          | some m =>
            rw [e] at hv1
            exact ⟨m, rfl, (Option.some.inj hv1).symm⟩
        obtain ⟨oth, hoth, rfl⟩ : ∃ oth, ord.tail[i]? = some oth ∧ v2 = .int (oth : Int) := by
          rw [← List.map_drop, List.getElem?_map, List.drop_one] at hv2
          cases e : ord.tail[i]? with
          | none =>
            rw [e] at hv2
            cases hv2
          | some m =>
            rw [e] at hv2
            exact ⟨m, rfl, (Option.some.inj hv2).symm⟩
        have hone1 := hlt one (List.mem_of_getElem? hone)
        have hoth1 := hlt oth (List.mem_of_mem_tail (List.mem_of_getElem? hoth))
        have hpair : (ord.zip ord.tail)[i]? = some (one, oth) := by
          rw [List.getElem?_zip_eq_some]
          exact ⟨hone, hoth⟩
        have nPgF : Pg ≠ F := fun e => by
          have h9 : (numsV (pagesN ns 0)).length = 0 := by
            rw [e, hF5] at hPg5
            have := HO.lst.inj (Option.some.inj hPg5)
            rw [← this]
            rfl
          rw [List.length_map, pagesN_len] at h9
          omega
        have sT := same_upd (o := .tup [V.int (one : Int), .int (oth : Int)]) nT
        have s6T := s6.trans sT
        have f6T := f6.trans (Fr.of sT _)
        obtain ⟨lw, hlw, hld⟩ := hL6
        have hlwT := sT _ _ hlw
        have hldT := dpa_same sT hld
        have htt : (upd H6 Tt (.tup [V.int (one : Int), .int (oth : Int)])) Tt = some (.tup [V.int (one : Int), .int (oth : Int)]) := upd_same
        generalize (upd H6 Tt (.tup [V.int (one : Int), .int (oth : Int)])) = H7 at s6T f6T hlwT hldT htt ⊢
        refine ⟨Tt, _, rfl, .of htt, rfl, _, _, rfl, _, _, rfl, rfl, ?_⟩
        have hPg7 := f6T.keep _ _ (by simp [nPgF]) hPg5
        have hat1 : (numsV (pagesN ns 0))[one]? = some (.int ((pageOf ns one : Nat) : Int)) := by
          rw [List.getElem?_map, pagesN_at (by omega), Nat.zero_add]
          rfl
        have hat2 : (numsV (pagesN ns 0))[oth]? = some (.int ((pageOf ns oth : Nat) : Int)) := by
          rw [List.getElem?_map, pagesN_at (by omega), Nat.zero_add]
          rfl
        refine ⟨_, rfl, _, rfl, Pg, _, _, _, rfl, rfl, .of hPg7, atI_nat hat1, _, rfl, _, rfl, Pg, _, _, _, rfl, rfl, .of hPg7, atI_nat hat2, _, _, rfl, ?_⟩
        refine ⟨_, rfl, _, rfl, Pg, _, _, _, rfl, rfl, .of hPg7, atI_nat hat1, _, rfl, _, rfl, Pg, _, _, _, rfl, rfl, .of hPg7, atI_nat hat2, _, _, rfl, _, _, rfl, ?_⟩
        have hpg1 : pageOf ns one ≤ ns.length := pageOf_le ns one
        have hpg2 : pageOf ns oth ≤ ns.length := pageOf_le ns oth
        obtain ⟨lo, elo⟩ : ∃ lo, lo = min (pageOf ns one) (pageOf ns oth) := ⟨_, rfl⟩
        obtain ⟨hiP, ehi⟩ : ∃ h, h = max (pageOf ns one) (pageOf ns oth) := ⟨_, rfl⟩
        rw [show (if ((pageOf ns oth : Nat) : Int) < ((pageOf ns one : Nat) : Int) then ((pageOf ns oth : Nat) : Int) else ((pageOf ns one : Nat) : Int)) = (lo : Int) by rw [elo]; split <;> omega]
        rw [show (if ((pageOf ns oth : Nat) : Int) > ((pageOf ns one : Nat) : Int) then ((pageOf ns oth : Nat) : Int) else ((pageOf ns one : Nat) : Int)) = (hiP : Int) by rw [ehi]; split <;> omega]
        refine ⟨_, rfl, _, rfl, (lo : Int), (hiP : Int), rfl, ⟨by omega, by omega, by omega, by omega⟩, fun D nD => ?_⟩
        refine lc_range (lo := (lo : Int)) (n := ((hiP : Int) - (lo : Int)).toNat) (fun j H' => Same H7 H' ∧ H' D = some (.lst ((List.range' lo j).map fun p => V.str (sideS (isRight k p))))) ⟨same_upd nD, upd_same⟩ ?_ ?_
        · rintro j H' hj ⟨s', e⟩
          have hr1 : List.range' lo (j + 1) = List.range' lo j ++ [lo + j] := by
            rw [List.range'_concat]
            simp
          refine ⟨rfl, _, rfl, _, rfl, x, k, lo + j, rfl, dp_same (s6T.trans s') hx, fun H8 s8 => ⟨_, s8 _ _ e, ?_, same_updR (s'.trans s8) nD, ?_⟩⟩
          · rw [List.length_map, List.length_range']
            omega
          · rw [upd_same, hr1, List.map_append]
            rfl
        · rintro H8 ⟨s8, e8⟩
          rw [show ((hiP : Int) - (lo : Int)).toNat = hiP - lo by omega] at e8
          have s68 := s6T.trans s8
          have f68 := f6T.trans (Fr.of s8 _)
          have hlw8 := s8 _ _ hlwT
          have hld8 := dpa_same s8 hldT
          refine ⟨.inl ⟨rfl, _, .of e8⟩, D, _, (List.range' lo (hiP - lo)).map (fun p => .str (sideS (isRight k p))), .str (Str.ofString "right"), rfl, rfl, .lst (.of e8) (dpa_sides k _), .str _, (shp_sides k _).ok (by decide), (shp_str (n := 0) (by decide +kernel)).ok (by decide), ?_⟩
          rw [count_sides]
          have hmany : ((List.range' lo (hiP - lo)).filter (isRight k)).length = (leafOf bs k ns (one, oth)).many := by
            rw [elo, ehi]
            rfl
          rw [hmany]
          have htk := leavesP_take (bs := bs) (k := k) (ns := ns) hpair
          refine ⟨_, rfl, _, _, rfl, rfl, _, rfl, ite2P (fun hgt => ?_) (fun hn => ?_)⟩
          · rw [if_pos (show 0 < (leafOf bs k ns (one, oth)).many by omega)] at htk
            obtain ⟨vs, h2, h3⟩ := lst_bars (dp_same s68 hb)
            refine ⟨_, rfl, .inl ⟨rfl, _, .of hlw8⟩, _, rfl, _, rfl, _, rfl, _, rfl, _, rfl, _, _, rfl, rfl, _, rfl, a, vs, rfl, h2, fun c nc => ?_⟩
            rw [show cutV vs none (some ((one : Int) + 1)) = vs.take (one + 1) from cut_take (k := one + 1)]
            have g1 := same_upd (o := .lst (vs.take (one + 1))) nc
            refine ⟨c, _, rfl, .of upd_same, fun e ne => ?_⟩
            have g2 := g1.trans (same_upd (o := .lst (vs.take (one + 1)).reverse) ne)
            refine ⟨e, (bs.take (one + 1)).reverse, rfl, .lst (.of upd_same) ?_, ?_⟩
            · show DpAll K _ _ (((bs.take (one + 1)).reverse).map barD)
              rw [List.map_reverse, List.map_take]
              exact dpa_rev (dpa_take (one + 1) (dpa_same g2 h3))
            refine ⟨_, rfl, _, rfl, _, rfl, a, vs, rfl, g2.seq h2, fun g ng => ?_⟩
            rw [cut_drop]
            have g3 := g2.trans (same_upd (o := .lst (vs.drop oth)) ng)
            refine ⟨g, bs.drop oth, rfl, .lst (.of upd_same) ?_, _, _, rfl, rfl, by show (4 : Nat) ≤ sizeLine; decide, fun cc ncc => ?_⟩
            · show DpAll K _ _ ((bs.drop oth).map barD)
              rw [List.map_drop]
              exact dpa_drop oth (dpa_same g3 h3)
            have scc := same_upd (o := .tup (leafV (leafOf bs k ns (one, oth)))) ncc
            have g4 := g3.trans scc
            have hlw9 := g4 _ _ hlw8
            have hld9 := dpa_same g4 hld8
            refine ⟨F, lw, _, rfl, rfl, hlw9, ?_, ?_⟩
            · rw [dpa_len hld8, List.length_map]
              have h4 := leavesP_len bs k ns ((ord.zip ord.tail).take i)
              rw [List.length_take] at h4
              have h5 : (ord.zip ord.tail).length ≤ ord.length := by
                rw [List.length_zip]
                exact Nat.min_le_left _ _
              omega
            have fu : Fr [F] _ (upd (upd (upd (upd (upd H8 c (.lst (vs.take (one + 1)))) e (.lst (vs.take (one + 1)).reverse)) g (.lst (vs.drop oth))) cc (.tup (leafV (leafOf bs k ns (one, oth))))) F (.lst (lw ++ [.ref cc]))) := Fr.upd hlw9 trivial (by simp)
            refine ⟨(f68.trans (Fr.of g4 _)).trans fu, same_updR (s68.trans g4) nF0, ⟨_, upd_same, ?_⟩, _, _, _, _, _, _, rfl⟩
            rw [htk, List.map_append]
            exact dpa_snoc (fu.dpa hld9 (isTs_leaves _)) (.tup (fu.sqt (.of upd_same)) (.cons (.int _) (.cons (.int _) (.cons (.int _) (.cons (.int _) .nil)))))
          · rw [if_neg (show ¬ 0 < (leafOf bs k ns (one, oth)).many by omega), List.append_nil] at htk
            refine ⟨f68, s68, ?_, _, _, _, _, _, _, rfl⟩
            rw [htk]
            exact ⟨lw, hlw8, hld8⟩
      · rintro σ H6 ⟨f6, s6, hL6, y6, y7, y9, y10, y11, y12, rfl⟩
        rw [List.take_length] at hL6
        exact ⟨_, rfl, z F H6 s6 nF0 hL6⟩
theorem sc_has_time : FnScope ["part", "desk", "layout", "repeats", "one", "other", "many", "time"] ["part", "desk", "layout", "repeats"] (defScope s_has_time) := ⟨rfl, rfl, rfl, by decide +kernel, rfl, by decide +kernel, by decide +kernel⟩
section
variable {K : PySem.W.Frag} {mg : Str → Option Value}
theorem b_has_time (T : Txt K mg) : Binds K (fdOf K ("has_time", none)) ["part", "desk", "layout", "repeats"] [] := T.has_time.bindsN fun _ _ _ _ _ _ us hl => match us, hl with | [_, _, _, _], _ => rfl
end
theorem leaf_at {K : PySem.W.Frag} {H : Hp} {v : V} {x : Leaf} (h : Dp K H v (leafD x)) : ∃ c, v = .ref c ∧ SqT K H c (leafV x) := by
  cases h with
  | tup s a =>
    cases a with
    | cons d0 r =>
      cases r with
      | cons d1 r =>
        cases r with
        | cons d2 r =>
          cases r with
          | cons d3 r =>
            cases r
            cases d0
            cases d1
            cases d2
            cases d3
            exact ⟨_, rfl, s⟩
theorem leavesL_len (bs : List Bar) (k : Desk) (ns : List Nat) {rs : List (Nat × Nat)} (h : RepOk bs.length 0 rs) : (leavesL bs k ns rs).length ≤ 2 * bs.length := by
  unfold leavesL
  refine Nat.le_trans (leavesP_len _ _ _ _) ?_
  rw [List.length_zip]
  have := order_len h
  omega
def sp_has_time (K : PySem.W.Frag) : Sp := fun vs H Q _ => ∃ (p q : Addr) (bs : List Bar) (past : List (List Bar)) (x y r : V) (k : Desk) (ns : List Nat) (rs : List (Nat × Nat)), vs = [.ref p, x, y, r] ∧ PartX K H p q bs past ∧ Dp K H x (deskD k) ∧ DeskOk k ∧ Dp K H y (.tuple (numsD ns)) ∧ ns.sum = bs.length ∧ ns.length ≤ 10000 ∧ Dp K H r (.tuple (repsD rs)) ∧ RepOk bs.length 0 rs ∧ bs.length ≤ 1000 ∧
  ∀ H', Same H H' → Q (.bl (playsL bs k ns rs)) H'
theorem ok_has_time {P : Program} {w : World} {K : PySem.W.Frag} {mg : Str → Option Value} {base : Heap} (T : Txt K mg) : OkF P w K mg base CX0 5 ("has_time", none) ["part", "desk", "layout", "repeats"] (sp_has_time K) := by
  refine okN T.has_time sc_has_time (fun vs H Q E h => ?_) (fun cdv A outer s H vs Q E hr h => ?_)
  · obtain ⟨p, q, bs, past, x, y, r, k, ns, rs, rfl, _⟩ := h
    rfl
  · obtain ⟨p, q, bs, past, x, y, r, k, ns, rs, rfl, hp, hx, ok, hy, hsum, hnl, hr', hro, hbl, z⟩ := h
    have hsz : sizeLine = 16777216 := sizeLine_eq
    obtain ⟨dk, rfl, hdk⟩ := dp_desk hx
    refine ⟨_, (pss_one (ps_ret (pe_callB (cr_all rfl) (by rfl) T.b_all (by decide +kernel) (pa_cons (pe_lc (own := [("one", 4), ("other", 5), ("many", 6), ("time", 7)]) (g := (gTup K 4 (gCons (gName 4) (gCons (gName 5) (gCons (gName 6) (gCons (gName 7) gNil)))))) (tt := tYes) (by rfl) sc_has_time.nd (pi_list (pe_call (ok_turned T) (hr.mono (by decide)) (by rfl) T.g_turned T.turned.kp (b_turned T) .nil pass0 (pa_cons (pv 0) (pa_cons (pv 1) (pa_cons (pv 2) (pa_cons (pv 3) pa_nil)))))) (blkOk_by (own := [("one", 4), ("other", 5), ("many", 6), ("time", 7)]) (N := ["part", "desk", "layout", "repeats", "one", "other", "many", "time"]) (sc := defScope s_has_time) (by decide +kernel)) (fun _ _ _ _ _ => (pg_tup rfl (pgs_cons (pg_name (i := 4) sc_has_time.nd rfl (by first | exact Or.inl rfl | exact Or.inr rfl)) (pgs_cons (pg_name (i := 5) sc_has_time.nd rfl (by first | exact Or.inl rfl | exact Or.inr rfl)) (pgs_cons (pg_name (i := 6) sc_has_time.nd rfl (by first | exact Or.inl rfl | exact Or.inr rfl)) (pgs_cons (pg_name (i := 7) sc_has_time.nd rfl (by first | exact Or.inl rfl | exact Or.inr rfl)) pgs_nil)))))) (fun _ _ _ _ _ => pts_nil) (fun _ _ _ _ _ => (pe_cmpR op_le (pe_op op_mul (pv 6) (pe_ix (r := rIxT K) ix_tup (pv 1) pe_int (fun _ _ => rfl))) (pv 7) (nomark _)))) pa_nil)))), ?_⟩
    refine ⟨_, rfl, _, rfl, _, rfl, _, rfl, p, q, bs, past, _, y, r, k, ns, rs, rfl, hp, hx, hy, hsum, hnl, hr', hro, hbl, fun V1 H1 s1 nV1 hV1 => ?_⟩
    obtain ⟨lw, hlw, hld⟩ := hV1
    have hll := leavesL_len bs k ns hro
    unfold playsL at z
    generalize leavesL bs k ns rs = ls at hld hll z
    have hl := dpa_len hld
    rw [List.length_map] at hl
    have ht0 := ok.t0
    have ht1 := ok.t1
    refine ⟨V1, rfl, ⟨_, .of hlw⟩, fun D nD => lc_list (K := K) (a := V1) (xs := lw) (fun i H' => Same H1 H' ∧ H' D = some (.lst (((ls.take i).map fun x => decide ((x.many : Int) * k.turn ≤ x.time)).map V.bl))) ⟨same_upd nD, upd_same⟩ ?_ ?_ ?_⟩
    · rintro i H' _ ⟨s', _⟩
      exact .of (s' _ _ hlw)
    · rintro i v H' hv ⟨s', e⟩
      obtain ⟨dd, hd1, hd2⟩ := dpa_at hld hv
      rw [List.getElem?_map] at hd1
      cases hli : ls[i]? with
      | none =>
        rw [hli] at hd1
        cases hd1
      | some lf =>
        rw [hli] at hd1
        have e1 : leafD lf = dd := Option.some.inj hd1
        subst e1
        obtain ⟨c, rfl, hc⟩ := leaf_at (dp_same s' hd2)
        refine ⟨c, _, rfl, hc, rfl, _, _, rfl, _, _, rfl, _, _, rfl, _, _, rfl, rfl, rfl, _, rfl, _, rfl, dk, _, _, _, rfl, rfl, same_sqt (s1.trans s') hdk, rfl, _, _, rfl, rfl, .inr ⟨by omega, by omega⟩, _, rfl, _, _, rfl, rfl, ?_⟩
        refine ⟨_, e, ?_, same_updR s' nD, ?_⟩
        · rw [List.length_map, List.length_map, List.length_take]
          omega
        · rw [upd_same, take_at hli, List.map_append, List.map_append]
          rfl
    · rintro H2 ⟨s2, e2⟩
      rw [hl, List.take_length] at e2
      refine ⟨D, _, rfl, .of e2, ?_⟩
      rw [List.all_map]
      exact z _ (s1.trans s2)
theorem sc__law_plays : FnScope ["bars", "desk", "thing", "repeats", "row"] ["bars", "desk", "thing", "repeats"] (defScope s__law_plays) := ⟨rfl, rfl, rfl, by decide +kernel, rfl, by decide +kernel, by decide +kernel⟩
section
variable {K : PySem.W.Frag} {mg : Str → Option Value}
theorem b__law_plays (T : Txt K mg) : Binds K (fdOf K ("_law_plays", none)) ["bars", "desk", "thing", "repeats"] [] := T._law_plays.bindsN fun _ _ _ _ _ _ us hl => match us, hl with | [_, _, _, _], _ => rfl
end
def sp__law_plays (K : PySem.W.Frag) : Sp := fun vs H Q _ => ∃ (a : Addr) (bs : List Bar) (x y r : V) (k : Desk) (ns : List Nat) (rs : List (Nat × Nat)), vs = [.ref a, x, y, r] ∧ Dp K H (.ref a) (.list (barsD bs)) ∧ Dp K H x (deskD k) ∧ DeskOk k ∧ Dp K H y (.tuple (numsD ns)) ∧ ns.sum = bs.length ∧ ns.length ≤ 10000 ∧ Dp K H r (.tuple (repsD rs)) ∧ RepOk bs.length 0 rs ∧ rs.length ≤ 6 ∧ bs.length ≤ 1000 ∧
  ∀ H', Same H H' → Q (.bl (playsL bs k ns rs)) H'
theorem shp_leaves (l : List Leaf) : Shp 2 (.list (l.map leafD)) := shp_list (shpA_all fun d hd => by
  obtain ⟨x, _, rfl⟩ := List.mem_map.mp hd
  exact shp_tup (shpA_cons (shp_int _) (shpA_cons (shp_int _) (shpA_cons (shp_int _) (shpA_cons (shp_int _) shpA_nil)))))
theorem ok__law_plays {P : Program} {w : World} {K : PySem.W.Frag} {mg : Str → Option Value} {base : Heap} (T : Txt K mg) : OkF P w K mg base CX0 5 ("_law_plays", none) ["bars", "desk", "thing", "repeats"] (sp__law_plays K) := by
  refine okN T._law_plays sc__law_plays (fun vs H Q E h => ?_) (fun cdv A outer s H vs Q E hr h => ?_)
  · obtain ⟨a, bs, x, y, r, k, ns, rs, rfl, _⟩ := h
    rfl
  · obtain ⟨a, bs, x, y, r, k, ns, rs, rfl, hb, hx, ok, hy, hsum, hnl, hr', hro, hrl, hbl, z⟩ := h
    have hsz : sizeLine = 16777216 := sizeLine_eq
    obtain ⟨dk, rfl, hdk⟩ := dp_desk hx
    refine ⟨_, (pss_one (ps_ret (pe_cmpR (op_eqD hr.units) (pe_lc (own := [("row", 4)]) (g := (gName 4))  (by rfl) sc__law_plays.nd (pi_list (pe_call (ok__law_leaves T) (hr.mono (by decide)) (by rfl) T.g__law_leaves T._law_leaves.kp (b__law_leaves T) .nil pass0 (pa_cons (pv 0) (pa_cons (pv 1) (pa_cons (pv 2) (pa_cons (pv 3) pa_nil)))))) (blkOk_by (own := [("row", 4)]) (N := ["bars", "desk", "thing", "repeats", "row"]) (sc := defScope s__law_plays) (by decide +kernel)) (fun _ _ _ _ _ => (pg_name (i := 4) sc__law_plays.nd rfl (by first | exact Or.inl rfl | exact Or.inr rfl))) (fun _ _ _ _ _ => (pts_one (pt_cmpR op_lt (pe_ix (r := rIxT K) ix_tup (pv 4) pe_int (fun _ _ => rfl)) (pe_op op_mul (pe_ix (r := rIxT K) ix_tup (pv 4) pe_int (fun _ _ => rfl)) (pe_ix (r := rIxT K) ix_tup (pv 1) pe_int (fun _ _ => rfl))) (nomark _)))) (fun _ _ _ _ _ => (pv 4))) (pe_lst pa_nil) (nomark _)))), ?_⟩
    refine ⟨_, rfl, _, rfl, _, rfl, _, rfl, a, bs, _, y, r, k, ns, rs, rfl, hb, hx, hy, hsum, hnl, hr', hro, hrl, hbl, fun V1 H1 s1 nV1 hV1 => ?_⟩
    obtain ⟨lw, hlw, hld⟩ := hV1
    have hll := leavesL_len bs k ns hro
    unfold playsL at z
    generalize leavesL bs k ns rs = ls at hld hll z
    have hl := dpa_len hld
    rw [List.length_map] at hl
    have ht0 := ok.t0
    have ht1 := ok.t1
    refine ⟨V1, rfl, ⟨_, .of hlw⟩, fun D nD => lc_list (K := K) (a := V1) (xs := lw) (fun i H' => Same H1 H' ∧ ∃ ws, H' D = some (.lst ws) ∧ DpAll K H' ws (((ls.take i).filter fun x => decide (x.time < (x.many : Int) * k.turn)).map leafD)) ⟨same_upd nD, [], upd_same, .nil⟩ ?_ ?_ ?_⟩
    · rintro i H' _ ⟨s', _⟩
      exact .of (s' _ _ hlw)
    · rintro i v H' hv ⟨s', ws, e, hws⟩
      obtain ⟨dd, hd1, hd2⟩ := dpa_at hld hv
      rw [List.getElem?_map] at hd1
      cases hli : ls[i]? with
      | none =>
        rw [hli] at hd1
        cases hd1
      | some lf =>
        rw [hli] at hd1
        have e1 : leafD lf = dd := Option.some.inj hd1
        subst e1
        have hi := (List.getElem?_eq_some_iff.mp hli).1
        obtain ⟨c, rfl, hc⟩ := leaf_at (dp_same s' hd2)
        refine ⟨rfl, _, rfl, c, _, _, _, rfl, rfl, hc, rfl, _, rfl, c, _, _, _, rfl, rfl, hc, rfl, _, rfl, dk, _, _, _, rfl, rfl, same_sqt (s1.trans s') hdk, rfl, _, _, rfl, rfl, .inr ⟨by omega, by omega⟩, _, _, rfl, rfl, _, rfl, ?_⟩
        refine ite2P (fun hlt => ⟨_, rfl, ws, e, ?_, same_updR s' nD, ws ++ [.ref c], upd_same, ?_⟩) (fun hn => ⟨s', ws, e, ?_⟩)
        · rw [dpa_len hws, List.length_map]
          have h1 := List.length_filter_le (fun x : Leaf => decide (x.time < (x.many : Int) * k.turn)) (ls.take i)
          rw [List.length_take] at h1
          omega
        · have f5 : Fr [D] H' (upd H' D (.lst (ws ++ [.ref c]))) := Fr.upd e trivial (by simp)
          rw [take_at hli, List.filter_append, show List.filter (fun x : Leaf => decide (x.time < (x.many : Int) * k.turn)) [lf] = [lf] by
            rw [List.filter_cons, decide_eq_true hlt]; rfl, List.map_append]
          exact dpa_snoc (f5.dpa hws (isTs_leaves _)) (f5.dp (dp_same s' hd2) rfl)
        · rw [take_at hli, List.filter_append, show List.filter (fun x : Leaf => decide (x.time < (x.many : Int) * k.turn)) [lf] = [] by
            rw [List.filter_cons, decide_eq_false hn]; rfl, List.append_nil]
          exact hws
    · rintro H2 ⟨s2, ws, e2, hws⟩
      rw [hl, List.take_length] at hws
      refine ⟨by show (0 : Nat) ≤ sizeLine; decide, fun c0 nc0 => ?_⟩
      have sc0 := same_upd (o := .lst []) nc0
      refine ⟨_, .list [], .lst (.of (sc0 _ _ e2)) (dpa_same sc0 hws), .lst (.of upd_same) .nil, (shp_leaves _).ok (by decide), (shp_nil (n := 0)).ok (by decide), ?_⟩
      have e3 : PyData.eqv (.list ((ls.filter fun x => decide (x.time < (x.many : Int) * k.turn)).map leafD)) (.list []) = ls.all fun x => decide ((x.many : Int) * k.turn ≤ x.time) := by
        cases hfl : ls.filter fun x => decide (x.time < (x.many : Int) * k.turn) with
        | nil =>
          show true = _
          refine (List.all_eq_true.mpr fun x hx => ?_).symm
          have := List.filter_eq_nil_iff.mp hfl x hx
          have h2 : ¬ x.time < (x.many : Int) * k.turn := by simpa using this
          exact decide_eq_true (by omega)
        | cons x1 r1 =>
          show false = _
          have h9 : x1 ∈ ls.filter fun x => decide (x.time < (x.many : Int) * k.turn) := by rw [hfl]; exact List.mem_cons_self
          obtain ⟨h10, h11⟩ := List.mem_filter.mp h9
          have h12 := of_decide_eq_true h11
          refine (List.all_eq_false.mpr ⟨x1, h10, ?_⟩).symm
          rw [decide_eq_true_iff]
          omega
      rw [e3]
      exact z _ ((s1.trans s2).trans sc0)
/-! ### states, steps, paths -/
structure Sta where
  bar : Nat
  right : Bool
  used : Nat
  deriving DecidableEq
def stateD (s : Sta) : PyData := .tuple [.int (s.bar : Int), .str (sideS s.right), .int (s.used : Int)]
def stateV (s : Sta) : List V := [.int (s.bar : Int), .str (sideS s.right), .int (s.used : Int)]
def mayTurn (bs : List Bar) (k : Desk) (right : Bool) (bar : Nat) : Bool := !right || (decide (bar = bs.length) || decide (k.turn ≤ restOf bs bar))
def oneStep (s : Sta) (e : Nat) : Nat × Sta := (e - s.bar, ⟨e, !s.right, s.used⟩)
def fits (bs : List Bar) (k : Desk) (s : Sta) (e : Nat) : Bool := decide (wideOf bs s.bar e ≤ k.room)
def someSteps (bs : List Bar) (k : Desk) (s : Sta) (from_ : Nat) : List (Nat × Sta) := (((rngS from_ (bs.length + 1)).takeWhile (fits bs k s)).filter (mayTurn bs k s.right)).map (oneStep s)
where rngS (a b : Nat) : List Nat := List.range' a (b - a)
def zeroStep (bs : List Bar) (k : Desk) (s : Sta) : List (Nat × Sta) := if s.bar < bs.length ∧ (s.used : Int) < k.empty ∧ mayTurn bs k s.right s.bar = true then [(0, ⟨s.bar, !s.right, s.used + 1⟩)] else []
def stepsL (bs : List Bar) (k : Desk) (s : Sta) : List (Nat × Sta) := zeroStep bs k s ++ someSteps bs k s (s.bar + 1)
theorem rngS_cons {a b : Nat} (h : a < b) : someSteps.rngS a b = a :: someSteps.rngS (a + 1) b := by
  unfold someSteps.rngS
  rw [show b - a = (b - (a + 1)) + 1 by omega, List.range'_succ]
theorem rngS_nil {a b : Nat} (h : b ≤ a) : someSteps.rngS a b = [] := by
  unfold someSteps.rngS
  rw [show b - a = 0 by omega]
  rfl
theorem some_end {bs : List Bar} {k : Desk} {s : Sta} {e : Nat} (h : ¬ e ≤ bs.length) : someSteps bs k s e = [] := by
  unfold someSteps
  rw [rngS_nil (by omega)]
  rfl
theorem some_wide {bs : List Bar} {k : Desk} {s : Sta} {e : Nat} (h : e ≤ bs.length) (hw : fits bs k s e = false) : someSteps bs k s e = [] := by
  unfold someSteps
  rw [rngS_cons (by omega), List.takeWhile_cons, hw, if_neg Bool.false_ne_true]
  rfl
theorem some_next {bs : List Bar} {k : Desk} {s : Sta} {e : Nat} (h : e ≤ bs.length) (hw : fits bs k s e = true) : someSteps bs k s e = (if mayTurn bs k s.right e = true then [oneStep s e] else []) ++ someSteps bs k s (e + 1) := by
  unfold someSteps
  rw [rngS_cons (by omega), List.takeWhile_cons, hw, if_pos rfl, List.filter_cons]
  split <;> rfl
theorem mem_takeWhile {α : Type} {p : α → Bool} {x : α} : ∀ {l : List α}, x ∈ l.takeWhile p → x ∈ l ∧ p x = true
  | [], h => by cases h
  | y :: l, h => by
    rw [List.takeWhile_cons] at h
    cases e : p y with
    | false =>
      rw [e, if_neg Bool.false_ne_true] at h
      cases h
    | true =>
      rw [e, if_pos rfl] at h
      rcases List.mem_cons.mp h with h | h
      · rw [h]
        exact ⟨List.mem_cons_self, e⟩
      · have := mem_takeWhile h
        exact ⟨List.mem_cons_of_mem _ this.1, this.2⟩
/-- what a step is -/
theorem step_of {bs : List Bar} {k : Desk} {s t : Sta} {m : Nat} (h : (m, t) ∈ stepsL bs k s) : t.bar = s.bar + m ∧ t.right = !s.right ∧ s.bar < bs.length ∧ t.bar ≤ bs.length ∧ mayTurn bs k s.right t.bar = true ∧
    ((m = 0 ∧ t.used = s.used + 1 ∧ (s.used : Int) < k.empty) ∨ (0 < m ∧ t.used = s.used ∧ wideOf bs s.bar t.bar ≤ k.room)) := by
  rcases List.mem_append.mp h with h | h
  · unfold zeroStep at h
    split at h
    · rename_i hc
      have e : (m, t) = (0, ⟨s.bar, !s.right, s.used + 1⟩) := by simpa using h
      cases e
      exact ⟨rfl, rfl, hc.1, Nat.le_of_lt hc.1, hc.2.2, .inl ⟨rfl, rfl, hc.2.1⟩⟩
    · cases h
  · obtain ⟨e, he, eq⟩ := List.mem_map.mp h
    obtain ⟨h1, h2⟩ := List.mem_filter.mp he
    obtain ⟨h3, h4⟩ := mem_takeWhile h1
    have h5 : e ∈ List.range' (s.bar + 1) (bs.length + 1 - (s.bar + 1)) := h3
    rw [List.mem_range'_1] at h5
    have e1 : m = e - s.bar := (congrArg Prod.fst eq).symm
    have e2 : t = ⟨e, !s.right, s.used⟩ := (congrArg Prod.snd eq).symm
    subst e2
    refine ⟨?_, rfl, by omega, ?_, h2, .inr ⟨by omega, rfl, of_decide_eq_true h4⟩⟩
    · show e = s.bar + m
      omega
    · show e ≤ bs.length
      omega
theorem mem_takeWhile_rng {p : Nat → Bool} {b : Nat} : ∀ {n a : Nat}, (∀ e, a ≤ e → e ≤ b → p e = true) → a ≤ b → b < a + n → b ∈ (List.range' a n).takeWhile p
  | 0, a, _, h1, h2 => by omega
  | n + 1, a, hp, h1, h2 => by
    rw [List.range'_succ, List.takeWhile_cons, hp a (Nat.le_refl _) h1, if_pos rfl]
    by_cases e : a = b
    · rw [e]
      exact List.mem_cons_self
    · exact List.mem_cons_of_mem _ (mem_takeWhile_rng (fun e h3 h4 => hp e (by omega) h4) (by omega) (by omega))
theorem wide_mono {bs : List Bar} {b e e' : Nat} (ok : ∀ x ∈ bs, BarOk x) (h : e ≤ e') : wideOf bs b e ≤ wideOf bs b e' := by
  unfold wideOf
  have h1 : ((bs.drop b).take (e' - b)) = ((bs.drop b).take (e - b)) ++ (((bs.drop b).drop (e - b)).take (e' - b - (e - b))) := by
    rw [show e' - b = (e - b) + (e' - b - (e - b)) by omega, List.take_add, show (e - b) + (e' - b - (e - b)) - (e - b) = e' - b - (e - b) by omega]
  rw [h1, List.map_append, List.sum_append]
  have h2 : ∀ l : List Bar, (∀ x ∈ l, BarOk x) → 0 ≤ (l.map Bar.w).sum := by
    intro l
    induction l with
    | nil => intro _; exact Int.le_refl _
    | cons x r ih =>
      intro hl
      have := ih fun y hy => hl y (List.mem_cons_of_mem _ hy)
      have hx := (hl x List.mem_cons_self).1
      rw [List.map_cons, List.sum_cons]
      omega
  have := h2 (((bs.drop b).drop (e - b)).take (e' - b - (e - b))) fun x hx => ok x (List.mem_of_mem_drop (List.mem_of_mem_drop (List.mem_of_mem_take hx)))
  omega
/-- what makes a step -/
theorem of_step {bs : List Bar} {k : Desk} {s t : Sta} {m : Nat} (ok : ∀ x ∈ bs, BarOk x) (h1 : t.bar = s.bar + m) (h2 : t.right = !s.right) (h3 : s.bar < bs.length) (h4 : t.bar ≤ bs.length) (h5 : mayTurn bs k s.right t.bar = true)
    (h6 : (m = 0 ∧ t.used = s.used + 1 ∧ (s.used : Int) < k.empty) ∨ (0 < m ∧ t.used = s.used ∧ wideOf bs s.bar t.bar ≤ k.room)) : (m, t) ∈ stepsL bs k s := by
  obtain ⟨b, r, u⟩ := t
  dsimp only at h1 h2 h4 h5 h6
  subst h2
  rcases h6 with ⟨e1, e2, e3⟩ | ⟨e1, e2, e3⟩
  · subst e1 e2
    have e4 : b = s.bar := h1
    subst e4
    refine List.mem_append_left _ ?_
    unfold zeroStep
    rw [if_pos ⟨h3, e3, h5⟩]
    exact List.mem_singleton.mpr rfl
  · subst e2
    refine List.mem_append_right _ (List.mem_map.mpr ⟨b, List.mem_filter.mpr ⟨?_, h5⟩, ?_⟩)
    · refine mem_takeWhile_rng (fun e he1 he2 => ?_) (by omega) (by omega)
      exact decide_eq_true (Int.le_trans (wide_mono ok he2) e3)
    · unfold oneStep
      rw [show b - s.bar = m by omega]
inductive Path (bs : List Bar) (k : Desk) : Sta → List Nat → Sta → Prop
  | nil (s : Sta) : Path bs k s [] s
  | cons {s t u : Sta} {m : Nat} {row : List Nat} : (m, t) ∈ stepsL bs k s → Path bs k t row u → Path bs k s (m :: row) u
theorem Path.snoc {bs : List Bar} {k : Desk} {s t u : Sta} {row : List Nat} {m : Nat} (h : Path bs k s row t) (e : (m, u) ∈ stepsL bs k t) : Path bs k s (row ++ [m]) u := by
  induction h with
  | nil s => exact .cons e (.nil _)
  | cons h1 h2 ih => exact .cons h1 (ih e)
theorem Path.app {bs : List Bar} {k : Desk} {s t u : Sta} {row row' : List Nat} (h : Path bs k s row t) (h' : Path bs k t row' u) : Path bs k s (row ++ row') u := by
  induction h with
  | nil s => exact h'
  | cons h1 h2 ih => exact .cons h1 (ih h')
/-- states within bounds -/
structure StaOk (bs : List Bar) (k : Desk) (s : Sta) : Prop where
  bar : s.bar ≤ bs.length
  used : (s.used : Int) ≤ k.empty
theorem StaOk.step {bs : List Bar} {k : Desk} {s t : Sta} {m : Nat} (h : StaOk bs k s) (e : (m, t) ∈ stepsL bs k s) : StaOk bs k t := by
  obtain ⟨_, _, _, h4, _, h6⟩ := step_of e
  refine ⟨h4, ?_⟩
  have := h.used
  rcases h6 with ⟨_, h, h'⟩ | ⟨_, h, _⟩ <;> omega
theorem StaOk.path {bs : List Bar} {k : Desk} {s t : Sta} {row : List Nat} (h : StaOk bs k s) (p : Path bs k s row t) : StaOk bs k t := by
  induction p with
  | nil s => exact h
  | cons e _ ih => exact ih (h.step e)
theorem path_bar {bs : List Bar} {k : Desk} {s t : Sta} {row : List Nat} (p : Path bs k s row t) : t.bar = s.bar + row.sum := by
  induction p with
  | nil s => rfl
  | cons e _ ih =>
    have := (step_of e).1
    rw [List.sum_cons]
    omega
theorem sub_len {α : Type} [DecidableEq α] : ∀ {l r : List α}, l.Nodup → (∀ x ∈ l, x ∈ r) → l.length ≤ r.length
  | [], r, _, _ => Nat.zero_le _
  | x :: l, r, hn, hs => by
    obtain ⟨h1, h2⟩ := List.nodup_cons.mp hn
    have hx := hs x List.mem_cons_self
    have := sub_len (r := r.erase x) h2 fun y hy => by
      refine (List.mem_erase_of_ne ?_).mpr (hs y (List.mem_cons_of_mem _ hy))
      intro e
      subst e
      exact h1 hy
    rw [List.length_erase_of_mem hx] at this
    have := List.length_pos_of_mem hx
    rw [List.length_cons]
    omega
/-- all states there are -/
def allSta (n e : Nat) : List Sta := (List.range (n + 1)).flatMap fun b => (List.range (e + 1)).flatMap fun u => [⟨b, false, u⟩, ⟨b, true, u⟩]
theorem allSta_mem {n e : Nat} {s : Sta} (h1 : s.bar ≤ n) (h2 : s.used ≤ e) : s ∈ allSta n e := by
  obtain ⟨b, r, u⟩ := s
  unfold allSta
  rw [List.mem_flatMap]
  refine ⟨b, List.mem_range.mpr (by dsimp only at h1; omega), ?_⟩
  rw [List.mem_flatMap]
  refine ⟨u, List.mem_range.mpr (by dsimp only at h2; omega), ?_⟩
  cases r <;> simp
theorem allSta_len (n e : Nat) : (allSta n e).length = (n + 1) * ((e + 1) * 2) := by
  unfold allSta
  rw [List.length_flatMap]
  have h1 : ∀ b : Nat, ((List.range (e + 1)).flatMap fun u => ([⟨b, false, u⟩, ⟨b, true, u⟩] : List Sta)).length = (e + 1) * 2 := by
    intro b
    rw [List.length_flatMap]
    show ((List.range (e + 1)).map fun _ => 2).sum = _
    rw [List.map_const', List.sum_replicate_nat, List.length_range]
  rw [show (List.range (n + 1)).map (fun b => ((List.range (e + 1)).flatMap fun u => ([⟨b, false, u⟩, ⟨b, true, u⟩] : List Sta)).length) = (List.range (n + 1)).map fun _ => (e + 1) * 2 from List.map_congr_left fun b _ => h1 b]
  rw [List.map_const', List.sum_replicate_nat, List.length_range]
section
variable {K : PySem.W.Frag} {H : Hp}
theorem dp_state {v : V} {s : Sta} (h : Dp K H v (stateD s)) : ∃ p, v = .ref p ∧ SqT K H p (stateV s) := by
  cases h with
  | tup s a =>
    obtain ⟨v0, v1, v2, rfl, h0, h1, h2⟩ := dpa3 a
    cases h0
    cases h1
    cases h2
    exact ⟨_, rfl, s⟩
theorem dp_state_of {p : Addr} {s : Sta} (h : SqT K H p (stateV s)) : Dp K H (.ref p) (stateD s) := .tup h (.cons (.int _) (.cons (.str _) (.cons (.int _) .nil)))
end
theorem sideS_inj {a b : Bool} (h : sideS a = sideS b) : a = b := by
  cases a <;> cases b
  · rfl
  · exact absurd h (by decide +kernel)
  · exact absurd h (by decide +kernel)
  · rfl
/-! ### the walk through the states, as the program walks -/
theorem nodup1 {α : Type} (x : α) : [x].Nodup := List.nodup_cons.mpr ⟨by simp, List.nodup_nil⟩
abbrev Ent := Sta × (Nat × List Nat)
abbrev keysE (f : List Ent) : List Sta := f.map (·.1)
def look (f : List Ent) (s : Sta) : Option (Nat × List Nat) := (f.find? fun e => decide (e.1 = s)).map (·.2)
def bfsAdd (p : Nat) (row : List Nat) : List Ent → List Sta → List (Nat × Sta) → List Ent × List Sta
  | f, td, [] => (f, td)
  | f, td, (m, s) :: r => if s ∈ keysE f then bfsAdd p row f td r else bfsAdd p row (f ++ [(s, (p + 1, row ++ [m]))]) (td ++ [s]) r
inductive Bfs (bs : List Bar) (k : Desk) : List Ent → List Sta → List Ent → Prop
  | done (f : List Ent) : Bfs bs k f [] f
  | step {f g : List Ent} {td : List Sta} {s : Sta} {p : Nat} {row : List Nat} : look f s = some (p, row) → Bfs bs k (bfsAdd p row f td (stepsL bs k s)).1 (bfsAdd p row f td (stepsL bs k s)).2 g → Bfs bs k f (s :: td) g
theorem Bfs.det {bs : List Bar} {k : Desk} {f g g' : List Ent} {td : List Sta} (h : Bfs bs k f td g) (h' : Bfs bs k f td g') : g = g' := by
  induction h with
  | done f => cases h'; rfl
  | step e1 _ ih =>
    cases h' with
    | step e2 h2 =>
      rw [e1] at e2
      cases e2
      exact ih h2
theorem look_mem {f : List Ent} {s : Sta} {x : Nat × List Nat} (h : look f s = some x) : (s, x) ∈ f := by
  unfold look at h
  obtain ⟨e, he, e2⟩ := Option.map_eq_some_iff.mp h
  have h1 := List.mem_of_find?_eq_some he
  have h2 := List.find?_some he
  have h3 : e.1 = s := of_decide_eq_true h2
  obtain ⟨a, b⟩ := e
  dsimp only at h3 e2
  rw [← h3, ← e2]
  exact h1
theorem look_of {f : List Ent} {s : Sta} {x : Nat × List Nat} (nd : (keysE f).Nodup) (h : (s, x) ∈ f) : look f s = some x := by
  unfold look
  induction f with
  | nil => cases h
  | cons e r ih =>
    obtain ⟨n1, n2⟩ := List.nodup_cons.mp nd
    rw [List.find?_cons]
    rcases List.mem_cons.mp h with h | h
    · subst h
      rw [decide_eq_true rfl]
      rfl
    · have ne : e.1 ≠ s := fun z => n1 (List.mem_map.mpr ⟨(s, x), h, z.symm⟩)
      rw [decide_eq_false ne]
      exact ih n2 h
theorem look_key {f : List Ent} {s : Sta} (h : s ∈ keysE f) : ∃ x, look f s = some x := by
  obtain ⟨e, he, rfl⟩ := List.mem_map.mp h
  unfold look
  cases q : f.find? fun e' => decide (e'.1 = e.1) with
  | none =>
    have := List.find?_eq_none.mp q e he
    exact absurd (decide_eq_true rfl) this
  | some y => exact ⟨y.2, rfl⟩
/-- what holds on the way -/
structure Walk1 (bs : List Bar) (k : Desk) (b : Sta) (f : List Ent) (dn td : List Sta) : Prop where
  keys : keysE f = dn ++ td
  nd : (keysE f).Nodup
  path : ∀ e ∈ f, Path bs k b e.2.2 e.1 ∧ e.2.2.length = e.2.1
  first : (b, (0, [])) ∈ f
  sorted : f.Pairwise fun x y => x.2.1 ≤ y.2.1
  near : ∀ s p row, s ∈ td.head? → (s, (p, row)) ∈ f → ∀ e ∈ f, e.2.1 ≤ p + 1
  closed : ∀ s ∈ dn, ∀ p row, (s, (p, row)) ∈ f → ∀ m t, (m, t) ∈ stepsL bs k s → ∃ e ∈ f, e.1 = t ∧ e.2.1 ≤ p + 1
theorem bfsAdd_mono {p : Nat} {row : List Nat} : ∀ {l : List (Nat × Sta)} {f : List Ent} {td : List Sta}, ∀ e ∈ f, e ∈ (bfsAdd p row f td l).1
  | [], f, td, e, he => he
  | (m, s) :: r, f, td, e, he => by
    unfold bfsAdd
    split
    · exact bfsAdd_mono e he
    · exact bfsAdd_mono e (List.mem_append_left _ he)
theorem bfsAdd_has {p : Nat} {row : List Nat} : ∀ {l : List (Nat × Sta)} {f : List Ent} {td : List Sta}, ∀ m s, (m, s) ∈ l → s ∈ keysE (bfsAdd p row f td l).1
  | [], f, td, m, s, h => by cases h
  | (m', s') :: r, f, td, m, s, h => by
    unfold bfsAdd
    rcases List.mem_cons.mp h with h | h
    · cases h
      split
      · rename_i hk
        obtain ⟨e, he, e2⟩ := List.mem_map.mp hk
        exact List.mem_map.mpr ⟨e, bfsAdd_mono e he, e2⟩
      · exact List.mem_map.mpr ⟨(s', (p + 1, row ++ [m'])), bfsAdd_mono _ (by simp), rfl⟩
    · split
      · exact bfsAdd_has m s h
      · exact bfsAdd_has m s h
/-- what is added -/
theorem bfsAdd_grow {p : Nat} {row : List Nat} : ∀ {l : List (Nat × Sta)} {f : List Ent} {td : List Sta}, (keysE f).Nodup → ∃ new : List Ent, (bfsAdd p row f td l).1 = f ++ new ∧ (bfsAdd p row f td l).2 = td ++ keysE new ∧ (keysE (f ++ new)).Nodup ∧ ∀ e ∈ new, ∃ m, (m, e.1) ∈ l ∧ e.2 = (p + 1, row ++ [m])
  | [], f, td, nd => ⟨[], by simp [bfsAdd], by simp [bfsAdd], by simpa using nd, fun e he => by cases he⟩
  | (m, s) :: r, f, td, nd => by
    unfold bfsAdd
    split
    · obtain ⟨new, h1, h2, h3, h4⟩ := bfsAdd_grow (p := p) (row := row) (l := r) (td := td) nd
      exact ⟨new, h1, h2, h3, fun e he => let ⟨m', a, b⟩ := h4 e he; ⟨m', List.mem_cons_of_mem _ a, b⟩⟩
    · rename_i hk
      have nd2 : (keysE (f ++ [(s, (p + 1, row ++ [m]))])).Nodup := by
        rw [show keysE (f ++ [(s, (p + 1, row ++ [m]))]) = keysE f ++ [s] from List.map_append]
        rw [List.nodup_append]
        refine ⟨nd, nodup1 _, fun a ha b hb => ?_⟩
        rw [List.mem_singleton.mp hb]
        intro e
        rw [e] at ha
        exact hk ha
      obtain ⟨new, h1, h2, h3, h4⟩ := bfsAdd_grow (p := p) (row := row) (l := r) (td := td ++ [s]) nd2
      refine ⟨(s, (p + 1, row ++ [m])) :: new, ?_, ?_, ?_, fun e he => ?_⟩
      · rw [h1, List.append_assoc]
        rfl
      · rw [h2, List.append_assoc]
        rfl
      · rw [List.append_assoc] at h3
        exact h3
      · rcases List.mem_cons.mp he with he | he
        · subst he
          exact ⟨m, List.mem_cons_self, rfl⟩
        · obtain ⟨m', a, b⟩ := h4 e he
          exact ⟨m', List.mem_cons_of_mem _ a, b⟩
theorem key_uniq {f : List Ent} (nd : (keysE f).Nodup) {s : Sta} {x y : Nat × List Nat} (h1 : (s, x) ∈ f) (h2 : (s, y) ∈ f) : x = y := by
  have e1 := look_of nd h1
  have e2 := look_of nd h2
  rw [e1] at e2
  exact Option.some.inj e2
theorem Walk1.start (bs : List Bar) (k : Desk) (b : Sta) : Walk1 bs k b [(b, (0, []))] [] [b] where
  keys := rfl
  nd := nodup1 _
  path := fun e he => by
    rw [List.mem_singleton.mp he]
    exact ⟨.nil _, rfl⟩
  first := List.mem_singleton.mpr rfl
  sorted := List.pairwise_singleton _ _
  near := fun s p row _ h e he => by
    rw [List.mem_singleton.mp he]
    exact Nat.zero_le _
  closed := fun s hs => by cases hs
theorem Walk1.next {bs : List Bar} {k : Desk} {b s : Sta} {f : List Ent} {dn td : List Sta} {p : Nat} {row : List Nat} (w : Walk1 bs k b f dn (s :: td)) (hl : look f s = some (p, row)) :
    Walk1 bs k b (bfsAdd p row f td (stepsL bs k s)).1 (dn ++ [s]) (bfsAdd p row f td (stepsL bs k s)).2 := by
  obtain ⟨new, h1, h2, h3, h4⟩ := bfsAdd_grow (p := p) (row := row) (l := stepsL bs k s) (td := td) w.nd
  have hs := look_mem hl
  have hpath := w.path _ hs
  have mono : ∀ e ∈ f, e ∈ f ++ new := fun e he => List.mem_append_left _ he
  have up : ∀ e ∈ f ++ new, e.2.1 ≤ p + 1 := by
    intro e he
    rcases List.mem_append.mp he with he | he
    · exact w.near s p row rfl hs e he
    · obtain ⟨m, _, e2⟩ := h4 e he
      rw [e2]
      exact Nat.le_refl _
  have has : ∀ m t, (m, t) ∈ stepsL bs k s → t ∈ keysE (f ++ new) := by
    intro m t hm
    rw [← h1]
    exact bfsAdd_has m t hm
  rw [h1, h2]
  refine ⟨?_, h3, ?_, mono _ w.first, ?_, ?_, ?_⟩
  · rw [show keysE (f ++ new) = keysE f ++ keysE new from List.map_append, w.keys]
    simp
  · intro e he
    rcases List.mem_append.mp he with he | he
    · exact w.path e he
    · obtain ⟨m, hm, e2⟩ := h4 e he
      rw [e2]
      refine ⟨hpath.1.snoc hm, ?_⟩
      show (row ++ [m]).length = p + 1
      rw [List.length_append, hpath.2]
      rfl
  · rw [List.pairwise_append]
    refine ⟨w.sorted, ?_, ?_⟩
    · refine List.Pairwise.imp_of_mem (R := fun _ _ => True) (fun {x y} hx hy _ => ?_) (List.pairwise_of_forall (fun _ _ => trivial))
      obtain ⟨m, _, e2⟩ := h4 x hx
      obtain ⟨m', _, e3⟩ := h4 y hy
      rw [e2, e3]
      exact Nat.le_refl _
    · intro x hx y hy
      obtain ⟨m, _, e2⟩ := h4 y hy
      rw [e2]
      exact w.near s p row rfl hs x hx
  · intro s' p' row' hh hm e he
    -- the next state's pages are no fewer than these
    have hge : p ≤ p' := by
      rcases List.mem_append.mp hm with hm1 | hm1
      · -- s stands ahead of s' in f, or they are one
        have hk : keysE f = dn ++ s :: td := w.keys
        by_cases es : s' = s
        · subst es
          have := key_uniq w.nd hm1 hs
          cases this
          exact Nat.le_refl _
        · have hs' : s' ∈ td := by
            cases td with
            | nil =>
              exfalso
              cases new with
              | nil => cases hh
              | cons n0 r =>
                have e0 : n0.1 = s' := by simpa using hh
                have : s' ∈ keysE f := List.mem_map.mpr ⟨(s', (p', row')), hm1, rfl⟩
                rw [show keysE (f ++ n0 :: r) = keysE f ++ keysE (n0 :: r) from List.map_append, List.nodup_append] at h3
                exact h3.2.2 s' this s' (List.mem_map.mpr ⟨n0, List.mem_cons_self, e0⟩) rfl
            | cons t0 r =>
              have e0 : t0 = s' := by simpa using hh
              rw [e0]
              exact List.mem_cons_self
          -- positions
          obtain ⟨f1, f2, hf, hk1, hk2⟩ : ∃ f1 f2, f = f1 ++ f2 ∧ keysE f1 = dn ∧ keysE f2 = s :: td := List.map_eq_append_iff.mp hk
          have m2 : (s', (p', row')) ∈ f2 := by
            rw [hf] at hm1
            rcases List.mem_append.mp hm1 with hm2 | hm2
            · exfalso
              have nd := w.nd
              rw [w.keys, List.nodup_append] at nd
              have : s' ∈ dn := by
                rw [← hk1]
                exact List.mem_map.mpr ⟨(s', (p', row')), hm2, rfl⟩
              exact nd.2.2 s' this s' (List.mem_cons_of_mem _ hs') rfl
            · exact hm2
          cases f2 with
          | nil => cases m2
          | cons e0 r2 =>
            have ek : e0.1 = s := (List.cons.inj hk2).1
            have e0in : (s, e0.2) ∈ f := by
              rw [hf, ← ek]
              exact List.mem_append_right _ List.mem_cons_self
            have e0p := key_uniq w.nd e0in hs
            rcases List.mem_cons.mp m2 with m2 | m2
            · exfalso
              apply es
              rw [← ek, ← m2]
            · have srt := w.sorted
              rw [hf, List.pairwise_append] at srt
              have := (List.pairwise_cons.mp srt.2.1).1 _ m2
              rw [e0p] at this
              exact this
      · obtain ⟨m, _, e2⟩ := h4 _ hm1
        have e3 : p' = p + 1 := congrArg Prod.fst e2
        omega
    have := up e he
    omega
  · intro s' hs' p' row' hm m t hst
    rcases List.mem_append.mp hs' with hs' | hs'
    · have hk : s' ∈ keysE f := by
        rw [w.keys]
        exact List.mem_append_left _ hs'
      obtain ⟨e0, he0, ek⟩ := List.mem_map.mp hk
      have hin : (s', e0.2) ∈ f := by
        rw [← ek]
        exact he0
      have := key_uniq h3 (mono _ hin) hm
      rw [this] at hin
      obtain ⟨e, he, h5, h6⟩ := w.closed s' hs' p' row' hin m t hst
      exact ⟨e, mono e he, h5, h6⟩
    · have es : s' = s := List.mem_singleton.mp hs'
      subst es
      have := key_uniq h3 (mono _ hs) hm
      cases this
      obtain ⟨e, he, ek⟩ := List.mem_map.mp (has m t hst)
      exact ⟨e, he, ek, up e he⟩
/-- what the walk gives -/
structure Found (bs : List Bar) (k : Desk) (b : Sta) (f : List Ent) : Prop where
  nd : (keysE f).Nodup
  path : ∀ e ∈ f, Path bs k b e.2.2 e.1 ∧ e.2.2.length = e.2.1
  least : ∀ row s, Path bs k b row s → ∃ e ∈ f, e.1 = s ∧ e.2.1 ≤ row.length
theorem Walk1.found {bs : List Bar} {k : Desk} {b : Sta} {f : List Ent} {dn : List Sta} (w : Walk1 bs k b f dn []) : Found bs k b f := by
  refine ⟨w.nd, w.path, fun row s p => ?_⟩
  have go : ∀ (x y : Sta) (row : List Nat), Path bs k x row y → ∀ e ∈ f, e.1 = x → ∃ e' ∈ f, e'.1 = y ∧ e'.2.1 ≤ e.2.1 + row.length := by
    intro x y row p
    induction p with
    | nil s => exact fun e he ek => ⟨e, he, ek, Nat.le_refl _⟩
    | @cons s t u m row hm hp ih =>
      intro e he ek
      have hdn : s ∈ dn := by
        have : s ∈ keysE f := List.mem_map.mpr ⟨e, he, ek⟩
        rw [w.keys, List.append_nil] at this
        exact this
      obtain ⟨e1, he1, k1, k2⟩ := w.closed s hdn e.2.1 e.2.2 (by rw [← ek]; exact he) m t hm
      obtain ⟨e2, he2, k3, k4⟩ := ih e1 he1 k1
      refine ⟨e2, he2, k3, ?_⟩
      rw [List.length_cons]
      omega
  obtain ⟨e, he, k1, k2⟩ := go b s row p _ w.first rfl
  refine ⟨e, he, k1, ?_⟩
  have : ((b, (0, [])) : Ent).2.1 = 0 := rfl
  omega
theorem Walk1.ok {bs : List Bar} {k : Desk} {b : Sta} {f : List Ent} {dn td : List Sta} (w : Walk1 bs k b f dn td) (h : StaOk bs k b) (he : k.empty ≤ 3) : f.length ≤ (bs.length + 1) * 8 := by
  have h1 := sub_len (r := allSta bs.length 3) w.nd fun s hs => by
    obtain ⟨e, hm, rfl⟩ := List.mem_map.mp hs
    have ok := h.path (w.path e hm).1
    refine allSta_mem ok.bar ?_
    have := ok.used
    omega
  rw [allSta_len, List.length_map] at h1
  omega
/-! ### all layouts, number by number -/
def mea (bs : List Bar) (k : Desk) (s : Sta) : Nat := (bs.length - s.bar) + (k.empty.toNat - s.used)
def allL (bs : List Bar) (k : Desk) : Nat → List Nat → Sta → List (List Nat)
  | 0, row, s => if s.bar = bs.length then [row] else []
  | n + 1, row, s => if s.bar = bs.length then [row] else (stepsL bs k s).flatMap fun x => allL bs k n (row ++ [x.1]) x.2
theorem mea_step {bs : List Bar} {k : Desk} {s t : Sta} {m : Nat} (h : (m, t) ∈ stepsL bs k s) : mea bs k t < mea bs k s := by
  obtain ⟨h1, _, h3, h4, _, h6⟩ := step_of h
  unfold mea
  rcases h6 with ⟨a, b, c⟩ | ⟨a, b, c⟩ <;> omega
theorem allL_sound {bs : List Bar} {k : Desk} : ∀ {n : Nat} {row : List Nat} {s : Sta} {r : List Nat}, r ∈ allL bs k n row s → ∃ row' t, r = row ++ row' ∧ Path bs k s row' t ∧ t.bar = bs.length
  | 0, row, s, r, h => by
    unfold allL at h
    split at h
    · rename_i e
      exact ⟨[], s, by rw [List.append_nil]; exact List.mem_singleton.mp h, .nil s, e⟩
    · cases h
  | n + 1, row, s, r, h => by
    unfold allL at h
    split at h
    · rename_i e
      exact ⟨[], s, by rw [List.append_nil]; exact List.mem_singleton.mp h, .nil s, e⟩
    · obtain ⟨x, hx, hr⟩ := List.mem_flatMap.mp h
      obtain ⟨row', t, e1, e2, e3⟩ := allL_sound hr
      refine ⟨x.1 :: row', t, ?_, .cons hx e2, e3⟩
      rw [e1, List.append_assoc]
      rfl
theorem allL_all {bs : List Bar} {k : Desk} {row' : List Nat} {s t : Sta} (p : Path bs k s row' t) (e : t.bar = bs.length) : ∀ (n : Nat) (row : List Nat), mea bs k s ≤ n → row ++ row' ∈ allL bs k n row s := by
  induction p with
  | nil s =>
    intro n row hm
    rw [List.append_nil]
    cases n <;> (unfold allL; rw [if_pos e]; exact List.mem_singleton.mpr rfl)
  | @cons s u t m row' h1 h2 ih =>
    intro n row hm
    obtain ⟨_, _, h3, h4, _⟩ := step_of h1
    have hlt := mea_step h1
    cases n with
    | zero => omega
    | succ n =>
      unfold allL
      rw [if_neg (by omega)]
      refine List.mem_flatMap.mpr ⟨(m, u), h1, ?_⟩
      have := ih e n (row ++ [m]) (by omega)
      rw [List.append_assoc] at this
      exact this
theorem some_sum {bs : List Bar} {k : Desk} {s : Sta} : ∀ (n e : Nat), bs.length + 1 - e = n → 2 * ((someSteps bs k s e).map fun x => 3 ^ mea bs k x.2).sum ≤ 3 ^ (n + (k.empty.toNat - s.used))
  | 0, e, h => by
    rw [some_end (by omega)]
    exact Nat.zero_le _
  | n + 1, e, h => by
    have hp : 0 < 3 ^ (n + 1 + (k.empty.toNat - s.used)) := Nat.pos_pow_of_pos' _
    cases hw : fits bs k s e with
    | false =>
      rw [some_wide (by omega) hw]
      exact Nat.zero_le _
    | true =>
      rw [some_next (by omega) hw, List.map_append, List.sum_append]
      have ih := some_sum (bs := bs) (k := k) (s := s) n (e + 1) (by omega)
      have e1 : 3 ^ (n + 1 + (k.empty.toNat - s.used)) = 3 * 3 ^ (n + (k.empty.toNat - s.used)) := by
        rw [show n + 1 + (k.empty.toNat - s.used) = (n + (k.empty.toNat - s.used)) + 1 by omega, Nat.pow_succ, Nat.mul_comm]
      have e2 : mea bs k (oneStep s e).2 = n + (k.empty.toNat - s.used) := by
        show (bs.length - e) + (k.empty.toNat - s.used) = _
        omega
      have e3 : ((if mayTurn bs k s.right e = true then [oneStep s e] else []).map fun x : Nat × Sta => 3 ^ mea bs k x.2).sum ≤ 3 ^ (n + (k.empty.toNat - s.used)) := by
        split
        · show 3 ^ mea bs k (oneStep s e).2 + 0 ≤ _
          rw [e2]
          omega
        · exact Nat.zero_le _
      omega
where Nat.pos_pow_of_pos' (n : Nat) : 0 < 3 ^ n := Nat.pow_pos (by decide)
theorem steps_sum {bs : List Bar} {k : Desk} {s : Sta} (h : s.bar < bs.length) : ((stepsL bs k s).map fun x => 3 ^ mea bs k x.2).sum ≤ 3 ^ mea bs k s := by
  unfold stepsL
  rw [List.map_append, List.sum_append]
  have h1 := some_sum (bs := bs) (k := k) (s := s) (bs.length - s.bar) (s.bar + 1) (by omega)
  have h2 : 3 * ((zeroStep bs k s).map fun x => 3 ^ mea bs k x.2).sum ≤ 3 ^ mea bs k s := by
    unfold zeroStep
    split
    · rename_i hc
      obtain ⟨c1, c2, _⟩ := hc
      show 3 * (3 ^ mea bs k ⟨s.bar, !s.right, s.used + 1⟩ + 0) ≤ _
      have e : mea bs k s = mea bs k ⟨s.bar, !s.right, s.used + 1⟩ + 1 := by
        unfold mea
        dsimp only
        omega
      rw [e, Nat.pow_succ, Nat.mul_comm, Nat.add_zero]
      exact Nat.le_refl _
    · exact Nat.zero_le _
  have e : 3 ^ mea bs k s = 3 ^ (bs.length - s.bar + (k.empty.toNat - s.used)) := rfl
  omega
theorem flat_sum {α β : Type} (f : α → List β) (w : α → Nat) : ∀ l : List α, (∀ x ∈ l, (f x).length ≤ w x) → (l.flatMap f).length ≤ (l.map w).sum
  | [], _ => Nat.le_refl _
  | x :: l, h => by
    rw [List.flatMap_cons, List.length_append, List.map_cons, List.sum_cons]
    have := flat_sum f w l fun y hy => h y (List.mem_cons_of_mem _ hy)
    have := h x List.mem_cons_self
    omega
theorem allL_len {bs : List Bar} {k : Desk} : ∀ {n : Nat} {row : List Nat} {s : Sta}, s.bar ≤ bs.length → (allL bs k n row s).length ≤ 3 ^ mea bs k s
  | 0, row, s, hs => by
    have hp := some_sum.Nat.pos_pow_of_pos' (mea bs k s)
    unfold allL
    split
    · show 1 ≤ _
      omega
    · exact Nat.zero_le _
  | n + 1, row, s, hs => by
    have hp := some_sum.Nat.pos_pow_of_pos' (mea bs k s)
    unfold allL
    split
    · show 1 ≤ _
      omega
    · refine Nat.le_trans (flat_sum _ (fun x => 3 ^ mea bs k x.2) _ fun x hx => allL_len (step_of hx).2.2.2.1) (steps_sum (by omega))
theorem flat_take {α β : Type} (f : α → List β) {l : List α} {i : Nat} {x : α} (h : l[i]? = some x) : (l.take (i + 1)).flatMap f = (l.take i).flatMap f ++ f x := by
  rw [List.take_add_one, h, List.flatMap_append]
  simp
theorem flat_take_len {α β : Type} (f : α → List β) (l : List α) (i : Nat) : ((l.take i).flatMap f).length ≤ (l.flatMap f).length := by
  have e : l.flatMap f = (l.take i).flatMap f ++ (l.drop i).flatMap f := by rw [← List.flatMap_append, List.take_append_drop]
  rw [e, List.length_append]
  omega
abbrev rowsD (rs : List (List Nat)) : List PyData := rs.map fun r => .tuple (numsD r)
theorem small100k {n : Nat} (h : n ≤ 100000) : n ≤ sizeLine := by
  rw [sizeLine_eq]
  omega
theorem numsV_snoc (row : List Nat) (m : Nat) : numsV (row ++ [m]) = numsV row ++ [.int (m : Int)] := by
  show List.map _ _ = _
  rw [List.map_append]
  rfl
theorem lst_of {K : PySem.W.Frag} {H : Hp} {a : Addr} {ds : List PyData} (h : Dp K H (.ref a) (.list ds)) : ∃ vs, SqL K H a vs ∧ DpAll K H vs ds := by
  cases h with
  | lst s d => exact ⟨_, s, d⟩
/-! ### steps that are tracked -/
def StepAt (H : Hp) (v : V) (x : Nat × Sta) : Prop := ∃ t o, v = .ref t ∧ H t = some (.tup [.int (x.1 : Int), .ref o]) ∧ H o = some (.tup (stateV x.2))
def StepsAt (H : Hp) : List V → List (Nat × Sta) → Prop
  | [], [] => True
  | v :: vs, x :: xs => StepAt H v x ∧ StepsAt H vs xs
  | _, _ => False
theorem StepAt.keep {H H' : Hp} {v : V} {x : Nat × Sta} (h : StepAt H v x) (ht : ∀ b ys, H b = some (.tup ys) → H' b = some (.tup ys)) : StepAt H' v x := by
  obtain ⟨t, o, e, h1, h2⟩ := h
  exact ⟨t, o, e, ht _ _ h1, ht _ _ h2⟩
theorem StepsAt.keep {H H' : Hp} (ht : ∀ b ys, H b = some (.tup ys) → H' b = some (.tup ys)) : ∀ {vs : List V} {xs : List (Nat × Sta)}, StepsAt H vs xs → StepsAt H' vs xs
  | [], [], _ => trivial
  | _ :: _, _ :: _, h => ⟨h.1.keep ht, StepsAt.keep ht h.2⟩
  | [], _ :: _, h => h.elim
  | _ :: _, [], h => h.elim
theorem StepsAt.len {H : Hp} : ∀ {vs : List V} {xs : List (Nat × Sta)}, StepsAt H vs xs → vs.length = xs.length
  | [], [], _ => rfl
  | _ :: _, _ :: _, h => congrArg Nat.succ (StepsAt.len h.2)
  | [], _ :: _, h => h.elim
  | _ :: _, [], h => h.elim
theorem StepsAt.at {H : Hp} : ∀ {vs : List V} {xs : List (Nat × Sta)} {i : Nat} {v : V}, StepsAt H vs xs → vs[i]? = some v → ∃ x, xs[i]? = some x ∧ StepAt H v x
  | [], [], _, _, _, e => by simp at e
  | _ :: _, x :: _, 0, _, h, e => by
    simp at e
    subst e
    exact ⟨x, rfl, h.1⟩
  | _ :: _, _ :: _, i + 1, v, h, e => by
    obtain ⟨x, e1, e2⟩ := StepsAt.at (i := i) (v := v) h.2 (by simpa using e)
    exact ⟨x, by simpa using e1, e2⟩
  | [], _ :: _, _, _, h, _ => h.elim
  | _ :: _, [], _, _, h, _ => h.elim
theorem StepsAt.snoc {H : Hp} : ∀ {vs : List V} {xs : List (Nat × Sta)} {v : V} {x : Nat × Sta}, StepsAt H vs xs → StepAt H v x → StepsAt H (vs ++ [v]) (xs ++ [x])
  | [], [], _, _, _, h => ⟨h, trivial⟩
  | _ :: _, _ :: _, _, _, h, h' => ⟨h.1, StepsAt.snoc h.2 h'⟩
  | [], _ :: _, _, _, h, _ => h.elim
  | _ :: _, [], _, _, h, _ => h.elim
def stepD (x : Nat × Sta) : PyData := .tuple [.int (x.1 : Int), stateD x.2]
theorem StepAt.dp {K : PySem.W.Frag} {H : Hp} {v : V} {x : Nat × Sta} (h : StepAt H v x) : Dp K H v (stepD x) := by
  obtain ⟨t, o, rfl, h1, h2⟩ := h
  exact .tup (.of h1) (.cons (.int _) (.cons (dp_state_of (.of h2)) .nil))
theorem StepsAt.dpa {K : PySem.W.Frag} {H : Hp} : ∀ {vs : List V} {xs : List (Nat × Sta)}, StepsAt H vs xs → DpAll K H vs (xs.map stepD)
  | [], [], _ => .nil
  | _ :: _, _ :: _, h => .cons h.1.dp (StepsAt.dpa h.2)
  | [], _ :: _, h => h.elim
  | _ :: _, [], h => h.elim
/-- a list of steps, all of it tracked -/
def StepsL (H : Hp) (a : Addr) (xs : List (Nat × Sta)) : Prop := ∃ vs, H a = some (.lst vs) ∧ StepsAt H vs xs
theorem StepsL.app {H H' : Hp} {a t o : Addr} {xs : List (Nat × Sta)} {x : Nat × Sta} {vs : List V} (h1 : H a = some (.lst vs)) (h2 : StepsAt H vs xs) (ht : H t = some (.tup [.int (x.1 : Int), .ref o])) (ho : H o = some (.tup (stateV x.2))) : StepsL (upd H a (.lst (vs ++ [.ref t]))) a (xs ++ [x]) := by
  have keep : ∀ b ys, H b = some (.tup ys) → upd H a (.lst (vs ++ [.ref t])) b = some (.tup ys) := fun b ys e => by
    rw [upd_ne (ne_of e h1 (fun z => nomatch z))]
    exact e
  exact ⟨_, upd_same, (h2.keep keep).snoc ⟨t, o, rfl, keep _ _ ht, keep _ _ ho⟩⟩
/-! ### the steps, as the laws make them -/
def lawOne (s : Sta) (m : Nat) : Nat × Sta := (m, ⟨s.bar + m, !s.right, s.used⟩)
def lawZero (k : Desk) (s : Sta) : List (Nat × Sta) := if (s.used : Int) < k.empty then [(0, ⟨s.bar, !s.right, s.used + 1⟩)] else []
def lawSome (bs : List Bar) (k : Desk) (s : Sta) (n : Nat) : List (Nat × Sta) := ((List.range' 1 n).filter fun m => fits bs k s (s.bar + m)).map (lawOne s)
theorem while_filter {p : Nat → Bool} (hp : ∀ e e', e ≤ e' → p e' = true → p e = true) : ∀ n a : Nat, (List.range' a n).takeWhile p = (List.range' a n).filter p
  | 0, a => rfl
  | n + 1, a => by
    rw [List.range'_succ, List.takeWhile_cons, List.filter_cons, while_filter hp n (a + 1)]
    cases e : p a with
    | true => rfl
    | false =>
      rw [if_neg Bool.false_ne_true, if_neg Bool.false_ne_true]
      symm
      rw [List.filter_eq_nil_iff]
      intro x hx h
      rw [List.mem_range'_1] at hx
      have := hp a x (by omega) h
      rw [e] at this
      cases this
theorem law_steps_eq {bs : List Bar} {k : Desk} {s : Sta} (ok : ∀ x ∈ bs, BarOk x) (h : s.bar < bs.length) : (lawZero k s ++ lawSome bs k s (bs.length - s.bar)).filter (fun x => mayTurn bs k s.right x.2.bar) = stepsL bs k s := by
  unfold stepsL
  rw [List.filter_append]
  congr 1
  · unfold lawZero zeroStep
    by_cases h1 : (s.used : Int) < k.empty
    · rw [if_pos h1, List.filter_cons]
      show (if mayTurn bs k s.right s.bar = true then _ else _) = _
      by_cases h2 : mayTurn bs k s.right s.bar = true
      · rw [if_pos h2, if_pos ⟨h, h1, h2⟩]
        rfl
      · rw [if_neg h2, if_neg (fun z => h2 z.2.2)]
        rfl
    · rw [if_neg h1, if_neg (fun z => h1 z.2.1)]
      rfl
  · unfold someSteps lawSome
    show _ = (((List.range' (s.bar + 1) (bs.length + 1 - (s.bar + 1))).takeWhile (fits bs k s)).filter (mayTurn bs k s.right)).map (oneStep s)
    rw [while_filter (p := fits bs k s) (fun e e' he hf => decide_eq_true (Int.le_trans (wide_mono ok he) (of_decide_eq_true hf)))]
    have e1 : List.range' (s.bar + 1) (bs.length + 1 - (s.bar + 1)) = (List.range' 1 (bs.length - s.bar)).map (s.bar + ·) := by
      rw [List.map_add_range', show bs.length + 1 - (s.bar + 1) = bs.length - s.bar by omega]
    rw [e1, List.filter_map, List.filter_map, List.filter_map, List.map_map, List.filter_filter, List.filter_filter]
    have e2 : ∀ m : Nat, (oneStep s ∘ (s.bar + ·)) m = lawOne s m := by
      intro m
      show ((s.bar + m) - s.bar, _) = _
      rw [Nat.add_sub_cancel_left]
      rfl
    rw [show (oneStep s ∘ (s.bar + ·)) = lawOne s from funext e2]
    rfl
theorem mem_lawZero {k : Desk} {s t : Sta} {m : Nat} (h : (m, t) ∈ lawZero k s) : t.bar = s.bar := by
  unfold lawZero at h
  by_cases c : (s.used : Int) < k.empty
  · rw [if_pos c] at h
    have e : (m, t) = (0, ⟨s.bar, !s.right, s.used + 1⟩) := by simpa using h
    cases e
    rfl
  · rw [if_neg c] at h
    cases h
theorem mem_lawSome {bs : List Bar} {k : Desk} {s t : Sta} {m n : Nat} (h : (m, t) ∈ lawSome bs k s n) : t.bar ≤ s.bar + n := by
  obtain ⟨m', hm', e5⟩ := List.mem_map.mp h
  have h1 := (List.mem_filter.mp hm').1
  rw [List.mem_range'_1] at h1
  have e6 : t = ⟨s.bar + m', !s.right, s.used⟩ := (congrArg Prod.snd e5).symm
  rw [e6]
  show s.bar + m' ≤ _
  omega
theorem sc__law_width : FnScope ["bars", "bar"] ["bars"] (defScope s__law_width) := ⟨rfl, rfl, rfl, by decide +kernel, rfl, by decide +kernel, by decide +kernel⟩
section
variable {K : PySem.W.Frag} {mg : Str → Option Value}
theorem b__law_width (T : Txt K mg) : Binds K (fdOf K ("_law_width", none)) ["bars"] [] := T._law_width.bindsN fun _ _ _ _ _ _ us hl => match us, hl with | [_], _ => rfl
end
def sp__law_width (K : PySem.W.Frag) : Sp := fun vs H Q _ => ∃ (a : Addr) (bs : List Bar), vs = [.ref a] ∧ Dp K H (.ref a) (.list (barsD bs)) ∧ bs.length ≤ 1000 ∧ ∀ H', Same H H' → Q (.int (bs.map Bar.w).sum) H'
theorem ok__law_width {P : Program} {w : World} {K : PySem.W.Frag} {mg : Str → Option Value} {base : Heap} (T : Txt K mg) : OkF P w K mg base CX0 1 ("_law_width", none) ["bars"] (sp__law_width K) := by
  refine okN T._law_width sc__law_width (fun vs H Q E h => ?_) (fun cdv A outer s H vs Q E hr h => ?_)
  · obtain ⟨a, bs, rfl, _⟩ := h
    rfl
  · obtain ⟨a, bs, rfl, hd, hl, z⟩ := h
    obtain ⟨vs, h2, h3⟩ := lst_bars hd
    refine ⟨_, (pss_one (ps_ret (pe_callB (cr_sum rfl) (by rfl) T.b_sum (by decide +kernel) (pa_cons (pe_lc (own := [("bar", 1)]) (g := (gName 1)) (tt := tYes) (by rfl) sc__law_width.nd (pi_list (pv 0)) (blkOk_by (own := [("bar", 1)]) (N := ["bars", "bar"]) (sc := defScope s__law_width) (by decide +kernel)) (fun _ _ _ _ _ => (pg_name (i := 1) sc__law_width.nd rfl (by first | exact Or.inl rfl | exact Or.inr rfl))) (fun _ _ _ _ _ => pts_nil) (fun _ _ _ _ _ => (pe_ix (r := rIxT K) ix_tup (pv 1) pe_int (fun _ _ => rfl)))) pa_nil)))), ?_⟩
    refine ⟨_, rfl, a, rfl, ⟨_, h2⟩, fun D hD => lc_list (K := K) (a := a) (xs := vs) (fun i H' => Same H H' ∧ H' D = some (.lst (((bs.take i).map Bar.w).map V.int))) ⟨same_upd hD, ?_⟩ ?_ ?_ ?_⟩
    · rw [upd_same]
      rfl
    · rintro i H' _ ⟨s, _⟩
      exact s.seq h2
    · rintro i v H' hv ⟨s, e1⟩
      obtain ⟨x, t, hx, rfl, ht⟩ := bar_at h3 hv
      refine ⟨rfl, _, rfl, t, _, _, _, rfl, rfl, same_sqt s ht, rfl, _, e1, ?_, same_updR s hD, ?_⟩
      · rw [List.length_map, List.length_map, List.length_take]
        exact small1000 (by omega)
      · rw [upd_same, take_at hx, List.map_append, List.map_append]
        rfl
    · rintro H1 ⟨s2, e1⟩
      rw [bars_len h3, List.take_length] at e1
      exact ⟨D, _, rfl, .of e1, z _ s2⟩
theorem sc__law_rest : FnScope ["bars", "at"] ["bars", "at"] (defScope s__law_rest) := ⟨rfl, rfl, rfl, by decide +kernel, rfl, by decide +kernel, by decide +kernel⟩
section
variable {K : PySem.W.Frag} {mg : Str → Option Value}
theorem b__law_rest (T : Txt K mg) : Binds K (fdOf K ("_law_rest", none)) ["bars", "at"] [] := T._law_rest.bindsN fun _ _ _ _ _ _ us hl => match us, hl with | [_, _], _ => rfl
end
def sp__law_rest (K : PySem.W.Frag) : Sp := fun vs H Q _ => ∃ (a : Addr) (bs : List Bar) (k : Nat), vs = [.ref a, .int (k : Int)] ∧ Dp K H (.ref a) (.list (barsD bs)) ∧ ∀ H', Same H H' → Q (.int (restOf bs k)) H'
theorem ok__law_rest {P : Program} {w : World} {K : PySem.W.Frag} {mg : Str → Option Value} {base : Heap} (T : Txt K mg) : OkF P w K mg base CX0 2 ("_law_rest", none) ["bars", "at"] (sp__law_rest K) := by
  refine okN T._law_rest sc__law_rest (fun vs H Q E h => ?_) (fun cdv A outer s H vs Q E hr h => ?_)
  · obtain ⟨a, bs, k, rfl, _⟩ := h
    rfl
  · obtain ⟨a, bs, k, rfl, hd, z⟩ := h
    obtain ⟨vs, h2, h3⟩ := lst_bars hd
    refine ⟨_, (pss_one (ps_ret (pe_op op_add (pe_call (ok__law_run T) (hr.mono (by decide)) (by rfl) T.g__law_run T._law_run.kp (b__law_run T) .nil pass0 (pa_cons (pe_revL (pe_slice sl_list (pv 0) po_none (po_some (pv 1)))) pa_nil)) (pe_call (ok__law_run T) (hr.mono (by decide)) (by rfl) T.g__law_run T._law_run.kp (b__law_run T) .nil pass0 (pa_cons (pe_slice sl_list (pv 0) (po_some (pv 1)) po_none) pa_nil))))), ?_⟩
    refine ⟨_, rfl, _, rfl, _, rfl, a, vs, rfl, h2, fun c nc => ?_⟩
    rw [cut_take]
    have s1 : Same H (upd H c (.lst (vs.take k))) := same_upd nc
    refine ⟨c, _, rfl, .of upd_same, fun e ne => ?_⟩
    have s2 := s1.trans (same_upd (o := .lst (vs.take k).reverse) ne)
    refine ⟨e, (bs.take k).reverse, rfl, .lst (.of upd_same) ?_, ?_⟩
    · show DpAll K _ _ (((bs.take k).reverse).map barD)
      rw [List.map_reverse, List.map_take]
      exact dpa_rev (dpa_take k (dpa_same s2 h3))
    refine ⟨_, rfl, _, rfl, _, rfl, a, vs, rfl, s2.seq h2, fun g ng => ?_⟩
    rw [cut_drop]
    have s3 := s2.trans (same_upd (o := .lst (vs.drop k)) ng)
    refine ⟨g, bs.drop k, rfl, .lst (.of upd_same) ?_, _, _, rfl, rfl, z _ s3⟩
    show DpAll K _ _ ((bs.drop k).map barD)
    rw [List.map_drop]
    exact dpa_drop k (dpa_same s3 h3)
theorem StepsL.same {H H' : Hp} {a : Addr} {xs : List (Nat × Sta)} (h : StepsL H a xs) (s : Same H H') : StepsL H' a xs := by
  obtain ⟨vs, e, t⟩ := h
  exact ⟨vs, s _ _ e, t.keep fun b ys z => s _ _ z⟩
theorem steps_len (bs : List Bar) (k : Desk) (s : Sta) : (stepsL bs k s).length ≤ bs.length + 1 := by
  unfold stepsL
  rw [List.length_append]
  have h1 : (zeroStep bs k s).length ≤ 1 := by
    unfold zeroStep
    split <;> simp
  have h2 : (someSteps bs k s (s.bar + 1)).length ≤ bs.length := by
    unfold someSteps
    rw [List.length_map]
    refine Nat.le_trans (List.length_filter_le _ _) (Nat.le_trans (List.Sublist.length_le (List.takeWhile_sublist _)) ?_)
    show (List.range' _ _).length ≤ _
    rw [List.length_range']
    omega
  omega
theorem ite_side {r : Bool} {A B : Prop} (h : if r = true then A else B) : if decide (V.str (sideS r) = V.str (Str.ofString "right")) = true then A else B := by
  rw [show decide (V.str (sideS r) = V.str (Str.ofString "right")) = r by cases r <;> decide +kernel]
  exact h
theorem ite2B {c : Bool} {A B : Prop} (h1 : c = true → A) (h2 : c = false → B) : if c = true then A else B := by
  cases c with
  | true => exact iteT (h1 rfl)
  | false => exact iteF (h2 rfl)
theorem sc__law_steps : FnScope ["bars", "desk", "state", "at", "side", "used", "other", "found", "many", "good", "then"] ["bars", "desk", "state"] (defScope s__law_steps) := ⟨rfl, rfl, rfl, by decide +kernel, rfl, by decide +kernel, by decide +kernel⟩
section
variable {K : PySem.W.Frag} {mg : Str → Option Value}
theorem b__law_steps (T : Txt K mg) : Binds K (fdOf K ("_law_steps", none)) ["bars", "desk", "state"] [] := T._law_steps.bindsN fun _ _ _ _ _ _ us hl => match us, hl with | [_, _, _], _ => rfl
end
def sp__law_steps (K : PySem.W.Frag) : Sp := fun vs H Q _ => ∃ (a : Addr) (bs : List Bar) (x y : V) (k : Desk) (s : Sta), vs = [.ref a, x, y] ∧ Dp K H (.ref a) (.list (barsD bs)) ∧ Dp K H x (deskD k) ∧ Dp K H y (stateD s) ∧ s.bar ≤ bs.length ∧ bs.length ≤ 1000 ∧ (∀ b ∈ bs, BarOk b) ∧
  ∀ v H', Same H H' → H v = none → StepsL H' v (stepsL bs k s) → Q (.ref v) H'
theorem ite_sideL {r : Bool} {A B : Prop} (h : if r = true then B else A) : if decide (V.str (sideS r) = V.str (Str.ofString "left")) = true then A else B := by
  cases r with
  | true =>
    rw [show decide (V.str (sideS true) = V.str (Str.ofString "left")) = false by decide +kernel]
    exact iteF h
  | false =>
    rw [show decide (V.str (sideS false) = V.str (Str.ofString "left")) = true by decide +kernel]
    exact iteT h
theorem ok__law_steps {P : Program} {w : World} {K : PySem.W.Frag} {mg : Str → Option Value} {base : Heap} (T : Txt K mg) : OkF P w K mg base CX0 4 ("_law_steps", none) ["bars", "desk", "state"] (sp__law_steps K) := by
  refine okN T._law_steps sc__law_steps (fun vs H Q E h => ?_) (fun cdv A outer s H vs Q E hr h => ?_)
  · obtain ⟨a, bs, x, y, k, s, rfl, _⟩ := h
    rfl
  · obtain ⟨a, bs, x, y, k, st, rfl, hb, hx, hy, hsb, hbl, hbo, z⟩ := h
    obtain ⟨dk, rfl, hdk⟩ := dp_desk hx
    obtain ⟨sa, rfl, hsa0⟩ := dp_state hy
    obtain ⟨bv, hbv, hbd⟩ := lst_bars hb
    obtain ⟨sb, sr, su⟩ := st
    dsimp only at hsb
    have hsa : SqT K H sa [.int (sb : Int), .str (sideS sr), .int (su : Int)] := hsa0
    have hbl2 := bars_len hbd
    refine ⟨_, (pss_cons (ps_asg (pv 2) (pg_tup rfl (pgs_cons (pg_name (i := 3) sc__law_steps.nd rfl (by first | exact Or.inl rfl | exact Or.inr rfl)) (pgs_cons (pg_name (i := 4) sc__law_steps.nd rfl (by first | exact Or.inl rfl | exact Or.inr rfl)) (pgs_cons (pg_name (i := 5) sc__law_steps.nd rfl (by first | exact Or.inl rfl | exact Or.inr rfl)) pgs_nil)))))
      (pss_cons (ps_if (pt_cmpR op_eq (pv 3) (pe_callB call_len (by rfl) T.b_len PySem.boot_len (pa_cons (pv 0) pa_nil)) (nomark _)) (pss_one (ps_ret (pe_lst pa_nil))) pss_nil)
      (pss_cons (ps_set (i := 6) sc__law_steps.nd rfl (by first | exact Or.inl rfl | exact Or.inr rfl) (pe_ifExp (pt_cmpR op_eq (pv 4) pe_str (nomark _)) pe_str pe_str))
      (pss_cons (ps_set (i := 7) sc__law_steps.nd rfl (by first | exact Or.inl rfl | exact Or.inr rfl) (pe_ifExp (pt_cmpR op_lt (pv 5) (pe_ix ix_tup (pv 1) pe_int (fun _ _ => rfl)) (nomark _)) (pe_lst (pa_cons (pe_tup (pa_cons pe_int (pa_cons (pe_tup (pa_cons (pv 3) (pa_cons (pv 6) (pa_cons (pe_op op_add (pv 5) pe_int) pa_nil)))) pa_nil))) pa_nil)) (pe_lst pa_nil)))
      (pss_cons (ps_for PassesOwn.never rfl (pi_range2 (by rfl) T.b_range (pa_cons pe_int (pa_cons (pe_op op_add (pe_op op_sub (pe_callB call_len (by rfl) T.b_len PySem.boot_len (pa_cons (pv 0) pa_nil)) (pv 3)) pe_int) pa_nil))) (pg_name (i := 8) sc__law_steps.nd rfl (by first | exact Or.inl rfl | exact Or.inr rfl))
      (pss_one (ps_if (pt_cmpR op_le (pe_call (ok__law_width T) (hr.mono (by decide)) (by rfl) T.g__law_width T._law_width.kp (b__law_width T) .nil pass0 (pa_cons (pe_slice sl_list (pv 0) (po_some (pv 3)) (po_some (pe_op op_add (pv 3) (pv 8)))) pa_nil)) (pe_ix ix_tup (pv 1) pe_int (fun _ _ => rfl)) (nomark _)) (pss_one (ps_expr (pe_bm PySem.F.plainAttrs_list PySem.F.slot_list_append PySem.F.type_list_append mt_append (pv 7) (pa_cons (pe_tup (pa_cons (pv 8) (pa_cons (pe_tup (pa_cons (pe_op op_add (pv 3) (pv 8)) (pa_cons (pv 6) (pa_cons (pv 5) pa_nil)))) pa_nil))) pa_nil)))) pss_nil)))
      (pss_cons (ps_set (i := 9) sc__law_steps.nd rfl (by first | exact Or.inl rfl | exact Or.inr rfl) (pe_lst pa_nil))
      (pss_cons (ps_for PassesOwn.never rfl (pi_list (pv 7)) (pg_tup rfl (pgs_cons (pg_name (i := 8) sc__law_steps.nd rfl (by first | exact Or.inl rfl | exact Or.inr rfl)) (pgs_cons (pg_name (i := 10) sc__law_steps.nd rfl (by first | exact Or.inl rfl | exact Or.inr rfl)) pgs_nil)))
      (pss_one (ps_if (PW.pt (pw_or (pt_cmpR op_eq (pv 4) pe_str (nomark _)) (pw_or (pt_cmpR op_eq (pe_ix ix_tup (pv 10) pe_int (fun _ _ => rfl)) (pe_callB call_len (by rfl) T.b_len PySem.boot_len (pa_cons (pv 0) pa_nil)) (nomark _)) (pw_or1 (pt_cmpR op_ge (pe_call (ok__law_rest T) (hr.mono (by decide)) (by rfl) T.g__law_rest T._law_rest.kp (b__law_rest T) .nil pass0 (pa_cons (pv 0) (pa_cons (pe_ix ix_tup (pv 10) pe_int (fun _ _ => rfl)) pa_nil))) (pe_ix ix_tup (pv 1) pe_int (fun _ _ => rfl)) (nomark _)))))) (pss_one (ps_expr (pe_bm PySem.F.plainAttrs_list PySem.F.slot_list_append PySem.F.type_list_append mt_append (pv 9) (pa_cons (pe_tup (pa_cons (pv 8) (pa_cons (pv 10) pa_nil))) pa_nil)))) pss_nil)))
      (pss_one (ps_ret (pv 9)))))))))), ?_⟩
    refine ⟨_, rfl, sa, _, rfl, hsa, rfl, _, _, rfl, _, _, rfl, _, _, rfl, rfl, ?_⟩
    refine ⟨_, rfl, _, rfl, _, _, rfl, .inl ⟨_, hbv, rfl⟩, rfl, _, rfl, ?_⟩
    rw [hbl2]
    refine ite2Q (fun e => ?_) (fun ne => ?_)
    · -- nothing
      refine ⟨by show (0 : Nat) ≤ sizeLine; decide, fun c nc => z c _ (same_upd nc) nc ?_⟩
      have e2 : stepsL bs k ⟨sb, sr, su⟩ = [] := by
        unfold stepsL zeroStep
        rw [if_neg (fun h => by have h' : sb < bs.length := h.1; omega), some_end (by show ¬ sb + 1 ≤ _; omega)]
        rfl
      rw [e2]
      exact ⟨[], upd_same, trivial⟩
    have hlt : sb < bs.length := by omega
    have heq := law_steps_eq (k := k) (s := ⟨sb, sr, su⟩) hbo hlt
    dsimp only at heq
    cases sr
    case false =>
      refine ⟨_, rfl, rfl, _, rfl, ite_sideL ?_⟩
      first | refine iteT ?_ | refine iteF ?_
      -- found
      refine ⟨_, rfl, _, rfl, dk, _, _, _, rfl, rfl, hdk, rfl, _, _, rfl, rfl, _, rfl, ite2P (fun c1 => ?_) (fun c1 => ?_)⟩
      rotate_left
      refine ⟨by show (0 : Nat) ≤ sizeLine; decide, fun F nF => ?_⟩
      have sG : Same H (upd H F (.lst [])) := same_upd nF
      have hG : StepsL (upd H F (.lst [])) F (lawZero k ⟨sb, false, su⟩) := by
        unfold lawZero
        rw [if_neg c1]
        exact ⟨[], upd_same, trivial⟩
      generalize (upd H F (.lst [])) = G at sG hG ⊢
      rotate_right
      refine ⟨_, rfl, _, rfl, _, rfl, _, _, rfl, rfl, by show (3 : Nat) ≤ sizeLine; decide, fun o no => ⟨by show (2 : Nat) ≤ sizeLine; decide, fun t nt => ⟨by show (1 : Nat) ≤ sizeLine; decide, fun F nF0 => ?_⟩⟩⟩
      have i1 := same_upd (o := .tup (stateV ⟨sb, !false, su + 1⟩)) no
      have i2 := same_upd (o := .tup [.int 0, .ref o]) nt
      have i3 := same_upd (o := .lst [.ref t]) nF0
      have nF : H F = none := (i1.trans i2).free nF0
      have sG : Same H (upd (upd (upd H o (.tup (stateV ⟨sb, !false, su + 1⟩))) t (.tup [.int 0, .ref o])) F (.lst [.ref t])) := (i1.trans i2).trans i3
      have hG : StepsL (upd (upd (upd H o (.tup (stateV ⟨sb, !false, su + 1⟩))) t (.tup [.int 0, .ref o])) F (.lst [.ref t])) F (lawZero k ⟨sb, false, su⟩) := by
        unfold lawZero
        rw [if_pos c1]
        exact ⟨_, upd_same, ⟨t, o, rfl, i3 _ _ upd_same, i3 _ _ (i2 _ _ upd_same)⟩, trivial⟩
      all_goals
        have hbG := sG.seq hbv
        have hz1 : (lawZero k ⟨sb, false, su⟩).length ≤ 1 := by
          unfold lawZero
          split <;> simp
        refine ⟨_, rfl, _, _, rfl, .inl ⟨_, hbG, rfl⟩, _, rfl, _, _, rfl, rfl, _, _, rfl, rfl, 1, _, rfl, ⟨by omega, by omega, by omega, by omega⟩, ?_⟩
        refine for_range (lo := 1) (n := ((bv.length : Int) - (sb : Int) + 1 - 1).toNat) (fun j σ H' => Same H H' ∧ StepsL H' F (lawZero k ⟨sb, false, su⟩ ++ lawSome bs k ⟨sb, false, su⟩ j) ∧ ∃ y8, σ = [some (.ref a), some (.ref dk), some (.ref sa), some (.int (sb : Int)), some (.str (sideS false)), some (.int (su : Int)), some (.str (sideS (!false))), some (.ref F), y8, none, none]) ⟨sG, by rw [show lawSome bs k ⟨sb, false, su⟩ 0 = [] from rfl, List.append_nil]; exact hG, none, rfl⟩ ?_ ?_
        · rintro j σ H1 hj ⟨s1, hF1, y8, rfl⟩
          have hj2 : sb + (1 + j) ≤ bs.length := by omega
          have hsome : lawSome bs k ⟨sb, false, su⟩ (j + 1) = lawSome bs k ⟨sb, false, su⟩ j ++ (if fits bs k ⟨sb, false, su⟩ (sb + (1 + j)) = true then [lawOne ⟨sb, false, su⟩ (1 + j)] else []) := by
            unfold lawSome
            rw [List.range'_1_concat, List.filter_append, List.map_append]
            congr 1
            show List.map _ (List.filter _ [1 + j]) = _
            rw [List.filter_cons]
            show List.map _ (if fits bs k ⟨sb, false, su⟩ (sb + (1 + j)) = true then _ else _) = _
            split <;> rfl
          -- _law_width(bars[at:at + many]) <= desk[0]
          refine ⟨_, rfl, _, rfl, _, rfl, _, rfl, _, rfl, _, _, rfl, rfl, _, rfl, a, bv, rfl, s1.seq hbv, fun c nc => ?_⟩
          rw [show (sb : Int) + (1 + (j : Int)) = ((sb + (1 + j) : Nat) : Int) by omega, cut_both (by omega)]
          have sc := same_upd (o := .lst ((bv.drop sb).take (sb + (1 + j) - sb))) nc
          have hc : DpAll K (upd H1 c (.lst ((bv.drop sb).take (sb + (1 + j) - sb)))) ((bv.drop sb).take (sb + (1 + j) - sb)) (barsD ((bs.drop sb).take (sb + (1 + j) - sb))) := by
            show DpAll K _ _ (((bs.drop sb).take (sb + (1 + j) - sb)).map barD)
            rw [List.map_take, List.map_drop]
            exact dpa_take _ (dpa_drop sb (dpa_same (s1.trans sc) hbd))
          refine ⟨c, (bs.drop sb).take (sb + (1 + j) - sb), rfl, .lst (.of upd_same) hc, ?_, fun H4 s4 => ?_⟩
          · rw [List.length_take, List.length_drop]
            omega
          have s14 := sc.trans s4
          have s04 := s1.trans s14
          refine ⟨_, rfl, dk, _, _, _, rfl, rfl, same_sqt s04 hdk, rfl, _, _, rfl, rfl, _, rfl, ite2P (fun hw => ?_) (fun hw => ?_)⟩
          · obtain ⟨fv, hf1, hf2⟩ := hF1.same s14
            have hfit : fits bs k ⟨sb, false, su⟩ (sb + (1 + j)) = true := decide_eq_true hw
            rw [hfit, if_pos rfl] at hsome
            refine ⟨_, rfl, .inl ⟨rfl, _, .of hf1⟩, _, rfl, _, rfl, _, rfl, _, _, rfl, rfl, _, rfl, _, rfl, by show (3 : Nat) ≤ sizeLine; decide, fun o no => ?_⟩
            have so := same_upd (o := .tup [.int ((sb : Int) + (1 + (j : Int))), .str (sideS (!false)), .int (su : Int)]) no
            refine ⟨by show (2 : Nat) ≤ sizeLine; decide, fun t nt => ?_⟩
            have st2 := same_upd (o := .tup [.int (1 + (j : Int)), .ref o]) nt
            have s6 := so.trans st2
            refine ⟨F, fv, _, rfl, rfl, s6 _ _ hf1, ?_, same_updR (s04.trans s6) nF, ?_, _, rfl⟩
            · rw [hf2.len, List.length_append]
              have : (lawSome bs k ⟨sb, false, su⟩ j).length ≤ j := by
                unfold lawSome
                rw [List.length_map]
                refine Nat.le_trans (List.length_filter_le _ _) ?_
                rw [List.length_range']
                exact Nat.le_refl _
              exact small5000 (by omega)
            · rw [hsome]
              have eI : (1 + (j : Int)) = ((1 + j : Nat) : Int) := by omega
              have eJ : (sb : Int) + (1 + (j : Int)) = ((sb + (1 + j) : Nat) : Int) := by omega
              rw [← List.append_assoc]
              refine StepsL.app (x := lawOne ⟨sb, false, su⟩ (1 + j)) (o := o) (H' := H) (s6 _ _ hf1) (hf2.keep fun b ys z => s6 _ _ z) ?_ ?_
              · rw [upd_same, eI]
                rfl
              · rw [st2 _ _ upd_same]
                show some (HO.tup [V.int ((sb : Int) + (1 + (j : Int))), V.str (sideS (!false)), V.int (su : Int)]) = _
                rw [eJ]
                rfl
          · have hfit : fits bs k ⟨sb, false, su⟩ (sb + (1 + j)) = false := decide_eq_false hw
            rw [hfit, if_neg Bool.false_ne_true, List.append_nil] at hsome
            refine ⟨s04, ?_, _, rfl⟩
            rw [hsome]
            exact hF1.same s14
        · rintro σ H1 ⟨s1, hF1, y8, rfl⟩
          have en : ((bv.length : Int) - (sb : Int) + 1 - 1).toNat = bs.length - sb := by omega
          rw [en] at hF1
          obtain ⟨fv, hf1, hf2⟩ := hF1
          generalize hl : lawZero k ⟨sb, false, su⟩ ++ lawSome bs k ⟨sb, false, su⟩ (bs.length - sb) = l at hf2
          have heq2 : l.filter (fun x => mayTurn bs k false x.2.bar) = stepsL bs k ⟨sb, false, su⟩ := by
            rw [← hl]
            exact heq
          have hll : l.length ≤ 1001 := by
            rw [← hl, List.length_append]
            have : (lawSome bs k ⟨sb, false, su⟩ (bs.length - sb)).length ≤ bs.length - sb := by
              unfold lawSome
              rw [List.length_map]
              refine Nat.le_trans (List.length_filter_le _ _) ?_
              rw [List.length_range']
              exact Nat.le_refl _
            omega
          -- good = []
          refine ⟨by show (0 : Nat) ≤ sizeLine; decide, fun G2 nG2 => ?_⟩
          have sg := same_upd (o := .lst []) nG2
          have nGF : G2 ≠ F := fun e => by
            rw [e, hf1] at nG2
            cases nG2
          have nGH : H G2 = none := s1.free nG2
          refine ⟨_, rfl, F, rfl, ⟨_, .of (sg _ _ hf1)⟩, for_list (xs := fv) (fun i σ H' => Fr [G2] (upd H1 G2 (.lst [])) H' ∧ Same H H' ∧ StepsL H' G2 ((l.take i).filter fun x => mayTurn bs k false x.2.bar) ∧ ∃ y8 y10, σ = [some (.ref a), some (.ref dk), some (.ref sa), some (.int (sb : Int)), some (.str (sideS false)), some (.int (su : Int)), some (.str (sideS (!false))), some (.ref F), y8, some (.ref G2), y10]) ⟨Fr.refl _ _, s1.trans sg, ⟨[], upd_same, trivial⟩, y8, none, rfl⟩ ?_ ?_ ?_⟩
          · rintro i σ H' _ ⟨fr, _⟩
            exact .of (fr.keep _ _ (by simp [nGF.symm]) (sg _ _ hf1))
          · rintro i v σ H2 hv ⟨fr, s2, hG2, y8, y10, rfl⟩
            obtain ⟨xx, hxx, t, o, rfl, ht, ho⟩ := hf2.at hv
            obtain ⟨m, tt⟩ := xx
            have ht2 := fr.tu _ _ (sg _ _ ht)
            have ho2 := fr.tu _ _ (sg _ _ ho)
            have tf : (l.take (i + 1)).filter (fun x => mayTurn bs k false x.2.bar) = (l.take i).filter (fun x => mayTurn bs k false x.2.bar) ++ (if mayTurn bs k false tt.bar = true then [(m, tt)] else []) := by
              rw [take_at hxx, List.filter_append]
              rw [List.filter_cons]
              rfl
            have hil : i < l.length := (List.getElem?_eq_some_iff.mp hxx).1
            refine ⟨t, _, rfl, .of ht2, rfl, _, _, rfl, _, _, rfl, rfl, ?_⟩
            refine ⟨_, rfl, rfl, _, rfl, ite_sideL (r := false) (iteF (iteT ?_))⟩
            have hmt : mayTurn bs k false tt.bar = true := rfl
            have sq := Same.refl H2
            obtain ⟨gv, hg1, hg2⟩ := hG2.same sq
            rw [hmt, if_pos rfl] at tf
            refine ⟨_, rfl, .inl ⟨rfl, _, .of hg1⟩, _, rfl, _, rfl, by show (2 : Nat) ≤ sizeLine; decide, fun t2 nt2 => ?_⟩
            have st3 := same_upd (o := .tup [.int (m : Int), .ref o]) nt2
            have fq := Fr.of (sq.trans st3) [G2]
            have f3 := Fr.upd (u := .lst (gv ++ [.ref t2])) (ds := [G2]) (st3 _ _ hg1) trivial (by simp)
            refine ⟨G2, gv, _, rfl, rfl, st3 _ _ hg1, ?_, (fr.trans fq).trans f3, same_updR ((s2.trans sq).trans st3) nGH, ?_, _, _, rfl⟩
            · rw [hg2.len]
              have h1 := List.length_filter_le (fun x : Nat × Sta => mayTurn bs k false x.2.bar) (l.take i)
              rw [List.length_take] at h1
              exact small5000 (by omega)
            · rw [tf]
              exact StepsL.app (x := (m, tt)) (o := o) (H' := H) (st3 _ _ hg1) (hg2.keep fun b ys z => st3 _ _ z) upd_same (st3 _ _ (sq _ _ ho2))
          · rintro σ H2 ⟨fr, s2, hG2, y8, y10, rfl⟩
            rw [hf2.len, List.take_length, heq2] at hG2
            exact ⟨_, rfl, z _ _ s2 nGH hG2⟩
    case true =>
      refine ⟨_, rfl, rfl, _, rfl, ite_sideL ?_⟩
      first | refine iteT ?_ | refine iteF ?_
      -- found
      refine ⟨_, rfl, _, rfl, dk, _, _, _, rfl, rfl, hdk, rfl, _, _, rfl, rfl, _, rfl, ite2P (fun c1 => ?_) (fun c1 => ?_)⟩
      rotate_left
      refine ⟨by show (0 : Nat) ≤ sizeLine; decide, fun F nF => ?_⟩
      have sG : Same H (upd H F (.lst [])) := same_upd nF
      have hG : StepsL (upd H F (.lst [])) F (lawZero k ⟨sb, true, su⟩) := by
        unfold lawZero
        rw [if_neg c1]
        exact ⟨[], upd_same, trivial⟩
      generalize (upd H F (.lst [])) = G at sG hG ⊢
      rotate_right
      refine ⟨_, rfl, _, rfl, _, rfl, _, _, rfl, rfl, by show (3 : Nat) ≤ sizeLine; decide, fun o no => ⟨by show (2 : Nat) ≤ sizeLine; decide, fun t nt => ⟨by show (1 : Nat) ≤ sizeLine; decide, fun F nF0 => ?_⟩⟩⟩
      have i1 := same_upd (o := .tup (stateV ⟨sb, !true, su + 1⟩)) no
      have i2 := same_upd (o := .tup [.int 0, .ref o]) nt
      have i3 := same_upd (o := .lst [.ref t]) nF0
      have nF : H F = none := (i1.trans i2).free nF0
      have sG : Same H (upd (upd (upd H o (.tup (stateV ⟨sb, !true, su + 1⟩))) t (.tup [.int 0, .ref o])) F (.lst [.ref t])) := (i1.trans i2).trans i3
      have hG : StepsL (upd (upd (upd H o (.tup (stateV ⟨sb, !true, su + 1⟩))) t (.tup [.int 0, .ref o])) F (.lst [.ref t])) F (lawZero k ⟨sb, true, su⟩) := by
        unfold lawZero
        rw [if_pos c1]
        exact ⟨_, upd_same, ⟨t, o, rfl, i3 _ _ upd_same, i3 _ _ (i2 _ _ upd_same)⟩, trivial⟩
      all_goals
        have hbG := sG.seq hbv
        have hz1 : (lawZero k ⟨sb, true, su⟩).length ≤ 1 := by
          unfold lawZero
          split <;> simp
        refine ⟨_, rfl, _, _, rfl, .inl ⟨_, hbG, rfl⟩, _, rfl, _, _, rfl, rfl, _, _, rfl, rfl, 1, _, rfl, ⟨by omega, by omega, by omega, by omega⟩, ?_⟩
        refine for_range (lo := 1) (n := ((bv.length : Int) - (sb : Int) + 1 - 1).toNat) (fun j σ H' => Same H H' ∧ StepsL H' F (lawZero k ⟨sb, true, su⟩ ++ lawSome bs k ⟨sb, true, su⟩ j) ∧ ∃ y8, σ = [some (.ref a), some (.ref dk), some (.ref sa), some (.int (sb : Int)), some (.str (sideS true)), some (.int (su : Int)), some (.str (sideS (!true))), some (.ref F), y8, none, none]) ⟨sG, by rw [show lawSome bs k ⟨sb, true, su⟩ 0 = [] from rfl, List.append_nil]; exact hG, none, rfl⟩ ?_ ?_
        · rintro j σ H1 hj ⟨s1, hF1, y8, rfl⟩
          have hj2 : sb + (1 + j) ≤ bs.length := by omega
          have hsome : lawSome bs k ⟨sb, true, su⟩ (j + 1) = lawSome bs k ⟨sb, true, su⟩ j ++ (if fits bs k ⟨sb, true, su⟩ (sb + (1 + j)) = true then [lawOne ⟨sb, true, su⟩ (1 + j)] else []) := by
            unfold lawSome
            rw [List.range'_1_concat, List.filter_append, List.map_append]
            congr 1
            show List.map _ (List.filter _ [1 + j]) = _
            rw [List.filter_cons]
            show List.map _ (if fits bs k ⟨sb, true, su⟩ (sb + (1 + j)) = true then _ else _) = _
            split <;> rfl
          -- _law_width(bars[at:at + many]) <= desk[0]
          refine ⟨_, rfl, _, rfl, _, rfl, _, rfl, _, rfl, _, _, rfl, rfl, _, rfl, a, bv, rfl, s1.seq hbv, fun c nc => ?_⟩
          rw [show (sb : Int) + (1 + (j : Int)) = ((sb + (1 + j) : Nat) : Int) by omega, cut_both (by omega)]
          have sc := same_upd (o := .lst ((bv.drop sb).take (sb + (1 + j) - sb))) nc
          have hc : DpAll K (upd H1 c (.lst ((bv.drop sb).take (sb + (1 + j) - sb)))) ((bv.drop sb).take (sb + (1 + j) - sb)) (barsD ((bs.drop sb).take (sb + (1 + j) - sb))) := by
            show DpAll K _ _ (((bs.drop sb).take (sb + (1 + j) - sb)).map barD)
            rw [List.map_take, List.map_drop]
            exact dpa_take _ (dpa_drop sb (dpa_same (s1.trans sc) hbd))
          refine ⟨c, (bs.drop sb).take (sb + (1 + j) - sb), rfl, .lst (.of upd_same) hc, ?_, fun H4 s4 => ?_⟩
          · rw [List.length_take, List.length_drop]
            omega
          have s14 := sc.trans s4
          have s04 := s1.trans s14
          refine ⟨_, rfl, dk, _, _, _, rfl, rfl, same_sqt s04 hdk, rfl, _, _, rfl, rfl, _, rfl, ite2P (fun hw => ?_) (fun hw => ?_)⟩
          · obtain ⟨fv, hf1, hf2⟩ := hF1.same s14
            have hfit : fits bs k ⟨sb, true, su⟩ (sb + (1 + j)) = true := decide_eq_true hw
            rw [hfit, if_pos rfl] at hsome
            refine ⟨_, rfl, .inl ⟨rfl, _, .of hf1⟩, _, rfl, _, rfl, _, rfl, _, _, rfl, rfl, _, rfl, _, rfl, by show (3 : Nat) ≤ sizeLine; decide, fun o no => ?_⟩
            have so := same_upd (o := .tup [.int ((sb : Int) + (1 + (j : Int))), .str (sideS (!true)), .int (su : Int)]) no
            refine ⟨by show (2 : Nat) ≤ sizeLine; decide, fun t nt => ?_⟩
            have st2 := same_upd (o := .tup [.int (1 + (j : Int)), .ref o]) nt
            have s6 := so.trans st2
            refine ⟨F, fv, _, rfl, rfl, s6 _ _ hf1, ?_, same_updR (s04.trans s6) nF, ?_, _, rfl⟩
            · rw [hf2.len, List.length_append]
              have : (lawSome bs k ⟨sb, true, su⟩ j).length ≤ j := by
                unfold lawSome
                rw [List.length_map]
                refine Nat.le_trans (List.length_filter_le _ _) ?_
                rw [List.length_range']
                exact Nat.le_refl _
              exact small5000 (by omega)
            · rw [hsome]
              have eI : (1 + (j : Int)) = ((1 + j : Nat) : Int) := by omega
              have eJ : (sb : Int) + (1 + (j : Int)) = ((sb + (1 + j) : Nat) : Int) := by omega
              rw [← List.append_assoc]
              refine StepsL.app (x := lawOne ⟨sb, true, su⟩ (1 + j)) (o := o) (H' := H) (s6 _ _ hf1) (hf2.keep fun b ys z => s6 _ _ z) ?_ ?_
              · rw [upd_same, eI]
                rfl
              · rw [st2 _ _ upd_same]
                show some (HO.tup [V.int ((sb : Int) + (1 + (j : Int))), V.str (sideS (!true)), V.int (su : Int)]) = _
                rw [eJ]
                rfl
          · have hfit : fits bs k ⟨sb, true, su⟩ (sb + (1 + j)) = false := decide_eq_false hw
            rw [hfit, if_neg Bool.false_ne_true, List.append_nil] at hsome
            refine ⟨s04, ?_, _, rfl⟩
            rw [hsome]
            exact hF1.same s14
        · rintro σ H1 ⟨s1, hF1, y8, rfl⟩
          have en : ((bv.length : Int) - (sb : Int) + 1 - 1).toNat = bs.length - sb := by omega
          rw [en] at hF1
          obtain ⟨fv, hf1, hf2⟩ := hF1
          generalize hl : lawZero k ⟨sb, true, su⟩ ++ lawSome bs k ⟨sb, true, su⟩ (bs.length - sb) = l at hf2
          have heq2 : l.filter (fun x => mayTurn bs k true x.2.bar) = stepsL bs k ⟨sb, true, su⟩ := by
            rw [← hl]
            exact heq
          have hll : l.length ≤ 1001 := by
            rw [← hl, List.length_append]
            have : (lawSome bs k ⟨sb, true, su⟩ (bs.length - sb)).length ≤ bs.length - sb := by
              unfold lawSome
              rw [List.length_map]
              refine Nat.le_trans (List.length_filter_le _ _) ?_
              rw [List.length_range']
              exact Nat.le_refl _
            omega
          -- good = []
          refine ⟨by show (0 : Nat) ≤ sizeLine; decide, fun G2 nG2 => ?_⟩
          have sg := same_upd (o := .lst []) nG2
          have nGF : G2 ≠ F := fun e => by
            rw [e, hf1] at nG2
            cases nG2
          have nGH : H G2 = none := s1.free nG2
          refine ⟨_, rfl, F, rfl, ⟨_, .of (sg _ _ hf1)⟩, for_list (xs := fv) (fun i σ H' => Fr [G2] (upd H1 G2 (.lst [])) H' ∧ Same H H' ∧ StepsL H' G2 ((l.take i).filter fun x => mayTurn bs k true x.2.bar) ∧ ∃ y8 y10, σ = [some (.ref a), some (.ref dk), some (.ref sa), some (.int (sb : Int)), some (.str (sideS true)), some (.int (su : Int)), some (.str (sideS (!true))), some (.ref F), y8, some (.ref G2), y10]) ⟨Fr.refl _ _, s1.trans sg, ⟨[], upd_same, trivial⟩, y8, none, rfl⟩ ?_ ?_ ?_⟩
          · rintro i σ H' _ ⟨fr, _⟩
            exact .of (fr.keep _ _ (by simp [nGF.symm]) (sg _ _ hf1))
          · rintro i v σ H2 hv ⟨fr, s2, hG2, y8, y10, rfl⟩
            obtain ⟨xx, hxx, t, o, rfl, ht, ho⟩ := hf2.at hv
            obtain ⟨m, tt⟩ := xx
            have ht2 := fr.tu _ _ (sg _ _ ht)
            have ho2 := fr.tu _ _ (sg _ _ ho)
            have tf : (l.take (i + 1)).filter (fun x => mayTurn bs k true x.2.bar) = (l.take i).filter (fun x => mayTurn bs k true x.2.bar) ++ (if mayTurn bs k true tt.bar = true then [(m, tt)] else []) := by
              rw [take_at hxx, List.filter_append]
              rw [List.filter_cons]
              rfl
            have hil : i < l.length := (List.getElem?_eq_some_iff.mp hxx).1
            refine ⟨t, _, rfl, .of ht2, rfl, _, _, rfl, _, _, rfl, rfl, ?_⟩
            refine ⟨_, rfl, rfl, _, rfl, ite_sideL (r := true) (iteT ?_)⟩
            refine ⟨_, rfl, o, _, _, _, rfl, rfl, .of ho2, rfl, _, rfl, _, _, rfl, .inl ⟨_, s2.seq hbv, rfl⟩, rfl, _, rfl, ?_⟩
            rw [hbl2]
            refine ite2Q (fun e1 => iteT ?_) (fun e1 => ?_)
            rotate_left
            have hob : tt.bar ≤ bs.length := by
              have hm : (m, tt) ∈ l := List.mem_of_getElem? hxx
              rw [← hl] at hm
              rcases List.mem_append.mp hm with hm | hm
              · have := mem_lawZero hm
                rw [this]
                exact hsb
              · have h5 : tt.bar ≤ sb + (bs.length - sb) := mem_lawSome hm
                omega
            refine ⟨_, rfl, _, rfl, o, _, _, _, rfl, rfl, .of ho2, rfl, a, bs, tt.bar, rfl, dp_same s2 hb, fun H7 s7 => ?_⟩
            refine ⟨_, rfl, dk, _, _, _, rfl, rfl, same_sqt (s2.trans s7) hdk, rfl, _, _, rfl, rfl, _, rfl, ite2P (fun hw => ?_) (fun hw => ?_)⟩
            rotate_left
            have hmt : mayTurn bs k true tt.bar = false := by
              unfold mayTurn
              rw [decide_eq_false (fun h => e1 (show (tt.bar : Int) = _ by omega)), decide_eq_false hw]
              rfl
            rw [hmt, if_neg Bool.false_ne_true, List.append_nil] at tf
            refine ⟨fr.trans (Fr.of s7 _), s2.trans s7, ?_, _, _, rfl⟩
            rw [tf]
            exact hG2.same s7
            have hmt : mayTurn bs k true tt.bar = true := by
              unfold mayTurn
              rw [decide_eq_true (show tt.bar = bs.length from Int.ofNat.inj e1)]
              simp
            have sq := Same.refl H2
            obtain ⟨gv, hg1, hg2⟩ := hG2.same sq
            rw [hmt, if_pos rfl] at tf
            refine ⟨_, rfl, .inl ⟨rfl, _, .of hg1⟩, _, rfl, _, rfl, by show (2 : Nat) ≤ sizeLine; decide, fun t2 nt2 => ?_⟩
            have st3 := same_upd (o := .tup [.int (m : Int), .ref o]) nt2
            have fq := Fr.of (sq.trans st3) [G2]
            have f3 := Fr.upd (u := .lst (gv ++ [.ref t2])) (ds := [G2]) (st3 _ _ hg1) trivial (by simp)
            refine ⟨G2, gv, _, rfl, rfl, st3 _ _ hg1, ?_, (fr.trans fq).trans f3, same_updR ((s2.trans sq).trans st3) nGH, ?_, _, _, rfl⟩
            · rw [hg2.len]
              have h1 := List.length_filter_le (fun x : Nat × Sta => mayTurn bs k true x.2.bar) (l.take i)
              rw [List.length_take] at h1
              exact small5000 (by omega)
            · rw [tf]
              exact StepsL.app (x := (m, tt)) (o := o) (H' := H) (st3 _ _ hg1) (hg2.keep fun b ys z => st3 _ _ z) upd_same (st3 _ _ (sq _ _ ho2))
            have hmt : mayTurn bs k true tt.bar = true := by
              unfold mayTurn
              rw [decide_eq_true hw]
              simp
            have sq := s7
            obtain ⟨gv, hg1, hg2⟩ := hG2.same sq
            rw [hmt, if_pos rfl] at tf
            refine ⟨_, rfl, .inl ⟨rfl, _, .of hg1⟩, _, rfl, _, rfl, by show (2 : Nat) ≤ sizeLine; decide, fun t2 nt2 => ?_⟩
            have st3 := same_upd (o := .tup [.int (m : Int), .ref o]) nt2
            have fq := Fr.of (sq.trans st3) [G2]
            have f3 := Fr.upd (u := .lst (gv ++ [.ref t2])) (ds := [G2]) (st3 _ _ hg1) trivial (by simp)
            refine ⟨G2, gv, _, rfl, rfl, st3 _ _ hg1, ?_, (fr.trans fq).trans f3, same_updR ((s2.trans sq).trans st3) nGH, ?_, _, _, rfl⟩
            · rw [hg2.len]
              have h1 := List.length_filter_le (fun x : Nat × Sta => mayTurn bs k true x.2.bar) (l.take i)
              rw [List.length_take] at h1
              exact small5000 (by omega)
            · rw [tf]
              exact StepsL.app (x := (m, tt)) (o := o) (H' := H) (st3 _ _ hg1) (hg2.keep fun b ys z => st3 _ _ z) upd_same (st3 _ _ (sq _ _ ho2))
          · rintro σ H2 ⟨fr, s2, hG2, y8, y10, rfl⟩
            rw [hf2.len, List.take_length, heq2] at hG2
            exact ⟨_, rfl, z _ _ s2 nGH hG2⟩
theorem sc__law_all : FnScope ["bars", "desk", "row", "state", "found", "many", "then"] ["bars", "desk", "row", "state"] (defScope s__law_all) := ⟨rfl, rfl, rfl, by decide +kernel, rfl, by decide +kernel, by decide +kernel⟩
section
variable {K : PySem.W.Frag} {mg : Str → Option Value}
theorem b__law_all (T : Txt K mg) : Binds K (fdOf K ("_law_all", none)) ["bars", "desk", "row", "state"] [] := T._law_all.bindsN fun _ _ _ _ _ _ us hl => match us, hl with | [_, _, _, _], _ => rfl
end
def sp__law_all (K : PySem.W.Frag) (n : Nat) : Sp := fun vs H Q _ => ∃ (a : Addr) (bs : List Bar) (x r y : V) (k : Desk) (row : List Nat) (s : Sta), vs = [.ref a, x, r, y] ∧ Dp K H (.ref a) (.list (barsD bs)) ∧ Dp K H x (deskD k) ∧ Dp K H r (.tuple (numsD row)) ∧ Dp K H y (stateD s) ∧ s.bar ≤ bs.length ∧ bs.length ≤ 7 ∧ k.empty ≤ 3 ∧ (∀ b ∈ bs, BarOk b) ∧ mea bs k s < n ∧ row.length + n ≤ 1000 ∧
  ∀ v vs H', Same H H' → H' v = some (.lst vs) → DpAll K H' vs (rowsD (allL bs k n row s)) → Q (.ref v) H'
theorem ok__law_all {P : Program} {w : World} {K : PySem.W.Frag} {mg : Str → Option Value} {base : Heap} (T : Txt K mg) : ∀ n, OkF P w K mg base CX0 (5 + n) ("_law_all", none) ["bars", "desk", "row", "state"] (sp__law_all K n) := by
  intro n
  induction n with
  | zero =>
    refine okN T._law_all sc__law_all (fun vs H Q E h => ?_) (fun cdv A outer s H vs Q E hr h => ?_)
    · obtain ⟨a, bs, x, r, y, k, row, s, rfl, _⟩ := h
      rfl
    · obtain ⟨a, bs, x, r, y, k, row, st, rfl, hb, hx, hrow, hy, hsb, hbl, hke, hbo, hm, hrl, z⟩ := h
      exact absurd hm (Nat.not_lt_zero _)
  | succ n ih =>
    refine okN T._law_all sc__law_all (fun vs H Q E h => ?_) (fun cdv A outer s H vs Q E hr h => ?_)
    · obtain ⟨a, bs, x, r, y, k, row, s, rfl, _⟩ := h
      rfl
    · obtain ⟨a, bs, x, r, y, k, row, st, rfl, hb, hx, hrow, hy, hsb, hbl, hke, hbo, hm, hrl, z⟩ := h
      refine ⟨_, (pss_cons (ps_if (pt_cmpR op_eq (pe_ix ix_tup (pv 3) pe_int (fun _ _ => rfl)) (pe_callB call_len (by rfl) T.b_len PySem.boot_len (pa_cons (pv 0) pa_nil)) (nomark _)) (pss_one (ps_ret (pe_lst (pa_cons (pv 2) pa_nil)))) pss_nil)
      (pss_cons (ps_set (i := 4) sc__law_all.nd rfl (by first | exact Or.inl rfl | exact Or.inr rfl) (pe_lst pa_nil))
      (pss_cons (ps_for PassesOwn.never rfl (pi_list (pe_call (ok__law_steps T) (hr.mono (by first | decide | (simp only [Nat.add_eq]; omega))) (by rfl) T.g__law_steps T._law_steps.kp (b__law_steps T) .nil pass0 (pa_cons (pv 0) (pa_cons (pv 1) (pa_cons (pv 3) pa_nil))))) (pg_tup rfl (pgs_cons (pg_name (i := 5) sc__law_all.nd rfl (by first | exact Or.inl rfl | exact Or.inr rfl)) (pgs_cons (pg_name (i := 6) sc__law_all.nd rfl (by first | exact Or.inl rfl | exact Or.inr rfl)) pgs_nil)))
      (pss_one (ps_set (i := 4) sc__law_all.nd rfl (by first | exact Or.inl rfl | exact Or.inr rfl) (pe_op op_cat (pv 4) (pe_call ((fun _ => ih) T) (hr.mono (by first | decide | (simp only [Nat.add_eq]; omega))) (by rfl) T.g__law_all T._law_all.kp (b__law_all T) .nil pass0 (pa_cons (pv 0) (pa_cons (pv 1) (pa_cons (pe_op op_catU (pv 2) (pe_tup (pa_cons (pv 5) pa_nil))) (pa_cons (pv 6) pa_nil)))))))))
      (pss_one (ps_ret (pv 4)))))), ?_⟩
      obtain ⟨sa, rfl, hsa0⟩ := dp_state hy
      obtain ⟨bv, hbv, hbd⟩ := lst_bars hb
      obtain ⟨tr, rfl, htr⟩ := dp_nums hrow
      have hbl2 := bars_len hbd
      refine ⟨_, rfl, sa, _, _, _, rfl, rfl, hsa0, rfl, _, rfl, _, _, rfl, .inl ⟨_, hbv, rfl⟩, rfl, _, rfl, ?_⟩
      rw [hbl2]
      refine ite2Q (fun e => ?_) (fun ne => ?_)
      · refine ⟨_, rfl, by show (1 : Nat) ≤ sizeLine; decide, fun L nL => ?_⟩
        have sL := same_upd (o := .lst [.ref tr]) nL
        have e2 : allL bs k (n + 1) row st = [row] := by
          unfold allL
          rw [if_pos (by omega)]
        refine z L _ _ sL upd_same ?_
        rw [e2]
        exact .cons (dp_same sL hrow) .nil
      · have e2 : allL bs k (n + 1) row st = (stepsL bs k st).flatMap fun x => allL bs k n (row ++ [x.1]) x.2 := by
          rw [allL, if_neg (by omega)]
        have hal := allL_len (bs := bs) (k := k) (n := n + 1) (row := row) hsb
        have h39 : 3 ^ mea bs k st ≤ 3 ^ 10 := Nat.pow_le_pow_right (by decide) (by unfold mea; omega)
        rw [e2] at hal z
        refine ⟨by show (0 : Nat) ≤ sizeLine; decide, fun F nF => ?_⟩
        have sF := same_upd (o := .lst []) nF
        refine ⟨_, rfl, _, rfl, _, rfl, a, bs, x, _, k, st, rfl, dp_same sF hb, dp_same sF hx, dp_same sF hy, hsb, by omega, hbo, fun SL H2 s2 nSL hSL => ?_⟩
        obtain ⟨sv, hsl, hstp⟩ := hSL
        refine ⟨SL, rfl, ⟨_, .of hsl⟩, for_list (xs := sv) (fun i σ H' => Same H2 H' ∧ ∃ (F : Addr) (y5 y6 : Option V), σ = [some (.ref a), some x, some (.ref tr), some (.ref sa), some (.ref F), y5, y6] ∧ ∃ fv, H' F = some (.lst fv) ∧ DpAll K H' fv (rowsD (((stepsL bs k st).take i).flatMap fun x => allL bs k n (row ++ [x.1]) x.2))) ⟨Same.refl _, F, none, none, rfl, _, s2 _ _ upd_same, .nil⟩ ?_ ?_ ?_⟩
        · rintro j σ H' _ ⟨fr, _⟩
          exact .of (fr _ _ hsl)
        · rintro j v σ H3 hvj ⟨s3, F3, y5, y6, rfl, fv, hfv3, hfd3⟩
          obtain ⟨xx, hxx, t1, o1, rfl, ht1, ho1⟩ := hstp.at hvj
          obtain ⟨many, oth⟩ := xx
          have ht3 := s3 _ _ ht1
          have ho3 := s3 _ _ ho1
          have s03 := (sF.trans s2).trans s3
          have hstep := List.mem_of_getElem? hxx
          refine ⟨t1, _, rfl, .of ht3, rfl, _, _, rfl, _, _, rfl, rfl, ?_⟩
          refine ⟨_, rfl, _, rfl, _, rfl, _, rfl, _, rfl, by show (1 : Nat) ≤ sizeLine; decide, fun t nt => ?_⟩
          have st4 := same_upd (o := .tup [.int (many : Int)]) nt
          refine ⟨tr, t, _, _, rfl, rfl, same_sqt (s03.trans st4) htr, .of upd_same, ?_, fun c H5 s5 hc => ?_⟩
          · rw [List.length_map]
            show row.length + 1 ≤ sizeLine
            exact small100k (by omega)
          have s05 := (s03.trans st4).trans s5
          have s35 := st4.trans s5
          refine ⟨_, rfl, a, bs, x, _, _, k, row ++ [many], oth, rfl, dp_same s05 hb, dp_same s05 hx, ?_, dp_state_of (.of (s35 _ _ ho3)), (step_of hstep).2.2.2.1, hbl, hke, hbo, ?_, ?_, fun v gv H6 s6 hgv hgd => ?_⟩
          · exact dp_nums_of (by rw [numsV_snoc]; exact hc)
          · have := mea_step hstep
            omega
          · rw [List.length_append]
            show row.length + 1 + n ≤ 1000
            omega
          have hfv := (s35.trans s6) _ _ hfv3
          have hfd := dpa_same (s35.trans s6) hfd3
          have hl := flat_take_len (fun x : Nat × Sta => allL bs k n (row ++ [x.1]) x.2) (stepsL bs k st) (j + 1)
          rw [flat_take _ hxx, List.length_append] at hl
          dsimp only at hl
          refine ⟨F3, v, fv, gv, rfl, rfl, hfv, hgv, ?_, fun c2 nc2 => ?_⟩
          · rw [dpa_len hfd, dpa_len hgd, List.length_map, List.length_map]
            exact small100k (by omega)
          have s7 := same_upd (o := .lst (fv ++ gv)) nc2
          refine ⟨((s3.trans s35).trans s6).trans s7, c2, _, _, rfl, _, upd_same, ?_⟩
          rw [flat_take _ hxx]
          show DpAll K _ _ (List.map _ (_ ++ _))
          rw [List.map_append]
          exact dpa_app (dpa_same s7 hfd) (dpa_same s7 hgd)
        · rintro σ H3 ⟨s3, F3, y5, y6, rfl, fv, hfv3, hfd3⟩
          rw [hstp.len, List.take_length] at hfd3
          exact ⟨_, rfl, z F3 _ _ ((sF.trans s2).trans s3) hfv3 hfd3⟩
theorem sc__law_first : FnScope ["desk"] ["desk"] (defScope s__law_first) := ⟨rfl, rfl, rfl, by decide +kernel, rfl, by decide +kernel, by decide +kernel⟩
section
variable {K : PySem.W.Frag} {mg : Str → Option Value}
theorem b__law_first (T : Txt K mg) : Binds K (fdOf K ("_law_first", none)) ["desk"] [] := T._law_first.bindsN fun _ _ _ _ _ _ us hl => match us, hl with | [_], _ => rfl
end
def sp__law_first (K : PySem.W.Frag) : Sp := fun vs H Q _ => ∃ (x : V) (k : Desk), vs = [x] ∧ Dp K H x (deskD k) ∧ ∀ c, H c = none → Q (.ref c) (upd H c (.tup (stateV ⟨0, k.side, 0⟩)))
theorem ok__law_first {P : Program} {w : World} {K : PySem.W.Frag} {mg : Str → Option Value} {base : Heap} (T : Txt K mg) : OkF P w K mg base CX0 1 ("_law_first", none) ["desk"] (sp__law_first K) := by
  refine okN T._law_first sc__law_first (fun vs H Q E h => ?_) (fun cdv A outer s H vs Q E hr h => ?_)
  · obtain ⟨x, k, rfl, _⟩ := h
    rfl
  · obtain ⟨x, k, rfl, hx, z⟩ := h
    obtain ⟨dk, rfl, hdk⟩ := dp_desk hx
    refine ⟨_, (pss_one (ps_ret (pe_tup (pa_cons pe_int (pa_cons (pe_ix ix_tup (pv 0) pe_int (fun _ _ => rfl)) (pa_cons pe_int pa_nil)))))), ?_⟩
    exact ⟨_, rfl, dk, _, _, _, rfl, rfl, hdk, rfl, by show (3 : Nat) ≤ sizeLine; decide, fun c nc => z c nc⟩
theorem sc_begin_of : FnScope ["desk"] ["desk"] (defScope s_begin_of) := ⟨rfl, rfl, rfl, by decide +kernel, rfl, by decide +kernel, by decide +kernel⟩
section
variable {K : PySem.W.Frag} {mg : Str → Option Value}
theorem b_begin_of (T : Txt K mg) : Binds K (fdOf K ("begin_of", none)) ["desk"] [] := T.begin_of.bindsN fun _ _ _ _ _ _ us hl => match us, hl with | [_], _ => rfl
end
def first (k : Desk) : Sta := ⟨0, k.side, 0⟩
theorem first_ok {bs : List Bar} {k : Desk} (h : DeskOk k) : StaOk bs k (first k) := ⟨Nat.zero_le _, h.e0⟩
def sp_begin_of (K : PySem.W.Frag) : Sp := fun vs H Q _ => ∃ (x : V) (k : Desk), vs = [x] ∧ Dp K H x (deskD k) ∧ ∀ c, H c = none → Q (.ref c) (upd H c (.tup (stateV (first k))))
theorem ok_begin_of {P : Program} {w : World} {K : PySem.W.Frag} {mg : Str → Option Value} {base : Heap} (T : Txt K mg) : OkF P w K mg base CX0 1 ("begin_of", none) ["desk"] (sp_begin_of K) := by
  refine okN T.begin_of sc_begin_of (fun vs H Q E h => ?_) (fun cdv A outer s H vs Q E hr h => ?_)
  · obtain ⟨x, k, rfl, _⟩ := h
    rfl
  · obtain ⟨x, k, rfl, hx, z⟩ := h
    obtain ⟨dk, rfl, hdk⟩ := dp_desk hx
    refine ⟨_, (pss_one (ps_ret (pe_tup (pa_cons pe_int (pa_cons (pe_ix ix_tup (pv 0) pe_int (fun _ _ => rfl)) (pa_cons pe_int pa_nil)))))), ?_⟩
    exact ⟨_, rfl, dk, _, _, _, rfl, rfl, hdk, rfl, by show (3 : Nat) ≤ sizeLine; decide, fun c nc => z c nc⟩
/-! ### all rows, level by level -/
def nextR (bs : List Bar) (k : Desk) (x : List Nat × Sta) : List (List Nat × Sta) := (stepsL bs k x.2).map fun y => (x.1 ++ [y.1], y.2)
def levelR (bs : List Bar) (k : Desk) : Nat → List (List Nat × Sta)
  | 0 => [([], first k)]
  | p + 1 => (levelR bs k p).flatMap (nextR bs k)
def wgt (bs : List Bar) (k : Desk) (l : List (List Nat × Sta)) : Nat := (l.map fun x => 3 ^ mea bs k x.2).sum
theorem wgt_len (bs : List Bar) (k : Desk) : ∀ l : List (List Nat × Sta), l.length ≤ wgt bs k l
  | [] => Nat.le_refl _
  | x :: r => by
    have := wgt_len bs k r
    have h3 : 0 < 3 ^ mea bs k x.2 := Nat.pow_pos (by decide)
    show r.length + 1 ≤ 3 ^ mea bs k x.2 + wgt bs k r
    omega
theorem wgt_app (bs : List Bar) (k : Desk) (l m : List (List Nat × Sta)) : wgt bs k (l ++ m) = wgt bs k l + wgt bs k m := by
  unfold wgt
  rw [List.map_append, List.sum_append]
theorem wgt_next {bs : List Bar} {k : Desk} (x : List Nat × Sta) : wgt bs k (nextR bs k x) ≤ 3 ^ mea bs k x.2 := by
  unfold wgt nextR
  rw [List.map_map]
  by_cases h : x.2.bar < bs.length
  · exact steps_sum h
  · have e : stepsL bs k x.2 = [] := by
      cases hs : stepsL bs k x.2 with
      | nil => rfl
      | cons y r =>
        have := (step_of (bs := bs) (k := k) (s := x.2) (t := y.2) (m := y.1) (by rw [hs]; exact List.mem_cons_self)).2.2.1
        exact absurd this h
    rw [e]
    exact Nat.zero_le _
theorem wgt_flat {bs : List Bar} {k : Desk} : ∀ l : List (List Nat × Sta), wgt bs k (l.flatMap (nextR bs k)) ≤ wgt bs k l
  | [] => Nat.le_refl _
  | x :: r => by
    rw [List.flatMap_cons, wgt_app]
    have h1 := wgt_next (bs := bs) (k := k) x
    have h2 := wgt_flat (bs := bs) (k := k) r
    show _ ≤ 3 ^ mea bs k x.2 + wgt bs k r
    omega
theorem wgt_level (bs : List Bar) (k : Desk) : ∀ p, wgt bs k (levelR bs k p) ≤ 3 ^ mea bs k (first k)
  | 0 => by
    show 3 ^ mea bs k (first k) + 0 ≤ _
    omega
  | p + 1 => Nat.le_trans (wgt_flat _) (wgt_level bs k p)
theorem level_sound {bs : List Bar} {k : Desk} : ∀ {p : Nat} {x : List Nat × Sta}, x ∈ levelR bs k p → Path bs k (first k) x.1 x.2 ∧ x.1.length = p ∧ mea bs k x.2 + p ≤ mea bs k (first k)
  | 0, x, h => by
    have e : x = ([], first k) := List.mem_singleton.mp h
    subst e
    exact ⟨.nil _, rfl, Nat.le_refl _⟩
  | p + 1, x, h => by
    obtain ⟨y, hy, hx⟩ := List.mem_flatMap.mp h
    obtain ⟨h1, h2, h3⟩ := level_sound hy
    obtain ⟨w, hw, rfl⟩ := List.mem_map.mp hx
    refine ⟨h1.snoc hw, ?_, ?_⟩
    · rw [List.length_append, h2]
      rfl
    · have := mea_step (m := w.1) (t := w.2) hw
      show mea bs k w.2 + (p + 1) ≤ _
      omega
theorem path_split {bs : List Bar} {k : Desk} : ∀ {row : List Nat} {m : Nat} {s t : Sta}, Path bs k s (row ++ [m]) t → ∃ u, Path bs k s row u ∧ (m, t) ∈ stepsL bs k u
  | [], m, s, t, h => by
    cases h with
    | cons h1 h2 =>
      cases h2
      exact ⟨s, .nil _, h1⟩
  | a :: r, m, s, t, h => by
    cases h with
    | cons h1 h2 =>
      obtain ⟨u, h3, h4⟩ := path_split (row := r) h2
      exact ⟨u, .cons h1 h3, h4⟩
theorem level_all {bs : List Bar} {k : Desk} : ∀ (p : Nat) {row : List Nat} {t : Sta}, Path bs k (first k) row t → row.length = p → (row, t) ∈ levelR bs k p
  | 0, row, t, h, e => by
    have e0 : row = [] := List.eq_nil_of_length_eq_zero e
    subst e0
    cases h
    exact List.mem_singleton.mpr rfl
  | p + 1, row, t, h, e => by
    obtain ⟨init, m, rfl⟩ : ∃ init m, row = init ++ [m] := by
      rcases List.eq_nil_or_concat row with e1 | ⟨i, m, e1⟩
      · rw [e1] at e
        cases e
      · exact ⟨i, m, by rw [e1, List.concat_eq_append]⟩
    obtain ⟨u, h1, h2⟩ := path_split h
    rw [List.length_append] at e
    have e2 : init.length = p := by
      have : [m].length = 1 := rfl
      omega
    exact List.mem_flatMap.mpr ⟨(init, u), level_all p h1 e2, List.mem_map.mpr ⟨(m, t), h2, rfl⟩⟩
/-- the fewest pages of those that play -/
def LeastP (bs : List Bar) (k : Desk) (rs : List (Nat × Nat)) : Option Nat → Prop
  | none => ∀ row s, Path bs k (first k) row s → s.bar = bs.length → playsL bs k row rs = false
  | some n => (∃ row s, Path bs k (first k) row s ∧ s.bar = bs.length ∧ playsL bs k row rs = true ∧ row.length = n) ∧ ∀ row s, Path bs k (first k) row s → s.bar = bs.length → playsL bs k row rs = true → n ≤ row.length
theorem LeastP.uniq {bs : List Bar} {k : Desk} {rs : List (Nat × Nat)} {x y : Option Nat} (h1 : LeastP bs k rs x) (h2 : LeastP bs k rs y) : x = y := by
  cases x with
  | none =>
    cases y with
    | none => rfl
    | some n =>
      obtain ⟨⟨row, s, a, b, c, _⟩, _⟩ := h2
      rw [h1 row s a b] at c
      cases c
  | some m =>
    cases y with
    | none =>
      obtain ⟨⟨row, s, a, b, c, _⟩, _⟩ := h1
      rw [h2 row s a b] at c
      cases c
    | some n =>
      obtain ⟨⟨row, s, a, b, c, e⟩, h1'⟩ := h1
      obtain ⟨⟨row', s', a', b', c', e'⟩, h2'⟩ := h2
      have := h1' row' s' a' b' c'
      have := h2' row s a b c
      have : m = n := by omega
      rw [this]
/-- pairs of a row and a state -/
def PairsAt (K : PySem.W.Frag) (H : Hp) : List V → List (List Nat × Sta) → Prop
  | [], [] => True
  | v :: vs, x :: xs => (∃ c r b, v = .ref c ∧ H c = some (.tup [r, .ref b]) ∧ Dp K H r (.tuple (numsD x.1)) ∧ H b = some (.tup (stateV x.2))) ∧ PairsAt K H vs xs
  | _, _ => False
section
variable {K : PySem.W.Frag} {H H' : Hp}
theorem PairsAt.same (s : Same H H') : ∀ {vs : List V} {xs : List (List Nat × Sta)}, PairsAt K H vs xs → PairsAt K H' vs xs
  | [], [], _ => trivial
  | _ :: _, _ :: _, h => ⟨let ⟨c, r, b, e, h1, h2, h3⟩ := h.1; ⟨c, r, b, e, s _ _ h1, dp_same s h2, s _ _ h3⟩, PairsAt.same s h.2⟩
  | [], _ :: _, h => h.elim
  | _ :: _, [], h => h.elim
theorem PairsAt.fr {ds : List Addr} (s : Fr ds H H') : ∀ {vs : List V} {xs : List (List Nat × Sta)}, PairsAt K H vs xs → PairsAt K H' vs xs
  | [], [], _ => trivial
  | _ :: _, _ :: _, h => ⟨let ⟨c, r, b, e, h1, h2, h3⟩ := h.1; ⟨c, r, b, e, s.tu _ _ h1, s.dp h2 (isTs_nums _), s.tu _ _ h3⟩, PairsAt.fr s h.2⟩
  | [], _ :: _, h => h.elim
  | _ :: _, [], h => h.elim
theorem PairsAt.len : ∀ {vs : List V} {xs : List (List Nat × Sta)}, PairsAt K H vs xs → vs.length = xs.length
  | [], [], _ => rfl
  | _ :: _, _ :: _, h => congrArg Nat.succ (PairsAt.len h.2)
  | [], _ :: _, h => h.elim
  | _ :: _, [], h => h.elim
theorem PairsAt.at : ∀ {vs : List V} {xs : List (List Nat × Sta)} {i : Nat} {v : V}, PairsAt K H vs xs → vs[i]? = some v → ∃ x c r b, xs[i]? = some x ∧ v = .ref c ∧ H c = some (.tup [r, .ref b]) ∧ Dp K H r (.tuple (numsD x.1)) ∧ H b = some (.tup (stateV x.2))
  | [], [], _, _, _, e => by simp at e
  | _ :: _, x :: _, 0, _, h, e => by
    simp at e
    subst e
    obtain ⟨c, r, b, h1, h2, h3, h4⟩ := h.1
    exact ⟨x, c, r, b, rfl, h1, h2, h3, h4⟩
  | _ :: _, _ :: _, i + 1, v, h, e => by
    obtain ⟨x, c, r, b, e1, e2⟩ := PairsAt.at (i := i) (v := v) h.2 (by simpa using e)
    exact ⟨x, c, r, b, by simpa using e1, e2⟩
  | [], _ :: _, _, _, h, _ => h.elim
  | _ :: _, [], _, _, h, _ => h.elim
theorem PairsAt.app : ∀ {vs ws : List V} {xs ys : List (List Nat × Sta)}, PairsAt K H vs xs → PairsAt K H ws ys → PairsAt K H (vs ++ ws) (xs ++ ys)
  | [], _, [], _, _, h => h
  | _ :: _, _, _ :: _, _, h, h' => ⟨h.1, PairsAt.app h.2 h'⟩
  | [], _, _ :: _, _, h, _ => h.elim
  | _ :: _, _, [], _, h, _ => h.elim
def pairD (x : List Nat × Sta) : PyData := .tuple [.tuple (numsD x.1), stateD x.2]
theorem PairsAt.dpa : ∀ {vs : List V} {xs : List (List Nat × Sta)}, PairsAt K H vs xs → DpAll K H vs (xs.map pairD)
  | [], [], _ => .nil
  | _ :: _, _ :: _, h => let ⟨c, r, b, e, h1, h2, h3⟩ := h.1; .cons (by rw [e]; exact .tup (.of h1) (.cons h2 (.cons (dp_state_of (.of h3)) .nil))) (PairsAt.dpa h.2)
  | [], _ :: _, h => h.elim
  | _ :: _, [], h => h.elim
end
theorem sc_need_desk : FnScope ["thing"] ["thing"] (defScope s_need_desk) := ⟨rfl, rfl, rfl, by decide +kernel, rfl, by decide +kernel, by decide +kernel⟩
section
variable {K : PySem.W.Frag} {mg : Str → Option Value}
theorem b_need_desk (T : Txt K mg) : Binds K (fdOf K ("need_desk", none)) ["thing"] [] := T.need_desk.bindsN fun _ _ _ _ _ _ us hl => match us, hl with | [_], _ => rfl
end
def sp_need_desk (K : PySem.W.Frag) : Sp := fun vs H Q _ => ∃ (x : V) (k : Desk), vs = [x] ∧ Dp K H x (deskD k) ∧ DeskOk k ∧ Q .non H
theorem ok_need_desk {P : Program} {w : World} {K : PySem.W.Frag} {mg : Str → Option Value} {base : Heap} (T : Txt K mg) : OkF P w K mg base CX0 2 ("need_desk", none) ["thing"] (sp_need_desk K) := by
  refine okN T.need_desk sc_need_desk (fun vs H Q E h => ?_) (fun cdv A outer s H vs Q E hr h => ?_)
  · obtain ⟨x, k, rfl, _⟩ := h
    rfl
  · obtain ⟨x, k, rfl, hd, ok, q⟩ := h
    obtain ⟨p, rfl, hs⟩ := dp_desk hd
    refine ⟨_, (pss_cons (ps_if (PW.pt (pw_or (pt_not (pt_val (pe_callB call_isi (by rfl) T.b_isinstance (by decide +kernel) (pa_cons (pv 0) (pa_cons (pe_bltn (v := .ty "tuple") (by rfl) T.b_tuple (by decide +kernel) rfl) pa_nil))))) (pw_or (pt_cmpR op_ne (pe_callB call_len (by rfl) T.b_len PySem.boot_len (pa_cons (pv 0) pa_nil)) pe_int (nomark _)) (pw_or1 (pt_not (pt_val (pe_call (ok_is_number T) (hr.mono (by decide)) (by rfl) T.g_is_number T.is_number.kp (b_is_number T) .nil pass0 (pa_cons (pe_ix ix_tup (pv 0) pe_int (fun _ _ => rfl)) (pa_cons pe_int (pa_cons pe_int pa_nil)))))))))) pss_never pss_nil)
      (pss_cons (ps_if (PW.pt (pw_or (pt_not (pt_val (pe_call (ok_is_number T) (hr.mono (by decide)) (by rfl) T.g_is_number T.is_number.kp (b_is_number T) .nil pass0 (pa_cons (pe_ix ix_tup (pv 0) pe_int (fun _ _ => rfl)) (pa_cons pe_int (pa_cons pe_int pa_nil)))))) (pw_or (pt_not (pt_val (pe_callB call_isi (by rfl) T.b_isinstance (by decide +kernel) (pa_cons (pe_ix ix_tup (pv 0) pe_int (fun _ _ => rfl)) (pa_cons (pe_bltn (v := .ty "str") (by rfl) T.b_str (by decide +kernel) rfl) pa_nil))))) (pw_or1 (pt_cmpR op_notIn_seq (pe_ix ix_tup (pv 0) pe_int (fun _ _ => rfl)) (pe_glob (v := .ref (He.ga K "SIDES")) (by rfl) T.g_SIDES rfl) (by rfl)))))) pss_never pss_nil)
      (pss_one (ps_if (pt_not (pt_val (pe_call (ok_is_number T) (hr.mono (by decide)) (by rfl) T.g_is_number T.is_number.kp (b_is_number T) .nil pass0 (pa_cons (pe_ix ix_tup (pv 0) pe_int (fun _ _ => rfl)) (pa_cons pe_int (pa_cons pe_int pa_nil)))))) pss_never pss_nil)))), ?_⟩
    refine ⟨_, rfl, _, _, _, _, _, rfl, .ty _, dp_ty hd, kit_tup _, _, rfl, iteF ⟨_, rfl, _, _, rfl, .inr ⟨_, hs, rfl⟩, rfl, _, rfl, iteNNQ rfl ?_⟩⟩
    refine ⟨_, rfl, p, _, _, _, rfl, rfl, hs, rfl, _, .int k.room, _, _, rfl, .int _, _, rfl, ?_⟩
    rw [isNum_of ok.r0 ok.r1]
    refine iteF ⟨_, rfl, p, _, _, _, rfl, rfl, hs, rfl, _, .int k.turn, _, _, rfl, .int _, _, rfl, ?_⟩
    rw [isNum_of ok.t0 ok.t1]
    refine iteF ⟨_, rfl, p, _, _, _, rfl, rfl, hs, rfl, _, _, _, _, _, rfl, .ty _, dp_ty (.str _), kit_str (.str (sideS k.side)), _, rfl, iteF ?_⟩
    refine ⟨_, rfl, p, _, _, _, rfl, rfl, hs, rfl, _, _, rfl, .inr (tupIs_ok T.t_SIDES _), rfl, rfl, _, rfl, ?_⟩
    have e : (!inV (V.str (sideS k.side)) [.str (Str.ofString "left"), .str (Str.ofString "right")]) = false := by
      cases k.side <;> decide +kernel
    show if (!inV (V.str (sideS k.side)) [.str (Str.ofString "left"), .str (Str.ofString "right")]) = true then _ else _
    rw [e]
    refine iteF ⟨_, rfl, p, _, _, _, rfl, rfl, hs, rfl, _, .int k.empty, _, _, rfl, .int _, _, rfl, ?_⟩
    rw [isNum_of ok.e0 ok.e1]
    exact iteF q
theorem sc_need_repeats : FnScope ["part", "thing", "ahead", "one"] ["part", "thing"] (defScope s_need_repeats) := ⟨rfl, rfl, rfl, by decide +kernel, rfl, by decide +kernel, by decide +kernel⟩
section
variable {K : PySem.W.Frag} {mg : Str → Option Value}
theorem b_need_repeats (T : Txt K mg) : Binds K (fdOf K ("need_repeats", none)) ["part", "thing"] [] := T.need_repeats.bindsN fun _ _ _ _ _ _ us hl => match us, hl with | [_, _], _ => rfl
end
def sp_need_repeats (K : PySem.W.Frag) : Sp := fun vs H Q _ => ∃ (p q : Addr) (bs : List Bar) (past : List (List Bar)) (y : V) (rs : List (Nat × Nat)), vs = [.ref p, y] ∧ PartX K H p q bs past ∧ Dp K H y (.tuple (repsD rs)) ∧ RepOk bs.length 0 rs ∧ rs.length ≤ 6 ∧ bs.length ≤ 1000 ∧ Q .non H
theorem ok_need_repeats {P : Program} {w : World} {K : PySem.W.Frag} {mg : Str → Option Value} {base : Heap} (T : Txt K mg) : OkF P w K mg base CX0 3 ("need_repeats", none) ["part", "thing"] (sp_need_repeats K) := by
  refine okN T.need_repeats sc_need_repeats (fun vs H Q E h => ?_) (fun cdv A outer s H vs Q E hr h => ?_)
  · obtain ⟨p, q, bs, past, y, rs, rfl, _⟩ := h
    rfl
  · obtain ⟨p, q, bs, past, y, rs, rfl, hp, hy, ok, hrl, hbl, z⟩ := h
    obtain ⟨t, vs, rfl, ht, ha⟩ : ∃ t vs, y = .ref t ∧ SqT K H t vs ∧ DpAll K H vs (repsD rs) := by
      cases hy with
      | tup s a => exact ⟨_, _, rfl, s, a⟩
    have hvl : vs.length = rs.length := by rw [dpa_len ha, List.length_map]
    obtain ⟨dx, r, ws, h1, _⟩ := id hp
    refine ⟨_, (pss_cons (ps_if (PW.pt (pw_or (pt_not (pt_val (pe_callB call_isi (by rfl) T.b_isinstance (by decide +kernel) (pa_cons (pv 1) (pa_cons (pe_bltn (v := .ty "tuple") (by rfl) T.b_tuple (by decide +kernel) rfl) pa_nil))))) (pw_or1 (pt_cmpR op_gt (pe_callB call_len (by rfl) T.b_len PySem.boot_len (pa_cons (pv 1) pa_nil)) pe_int (nomark _))))) pss_never pss_nil)
      (pss_cons (ps_set (i := 2) sc_need_repeats.nd rfl (by first | exact Or.inl rfl | exact Or.inr rfl) (pe_un un_neg pe_int))
      (pss_one (ps_for PassesOwn.never rfl (pi_tup (pv 1)) (pg_name (i := 3) sc_need_repeats.nd rfl (by first | exact Or.inl rfl | exact Or.inr rfl))
      (pss_cons (ps_if (PW.pt (pw_or (pt_not (pt_val (pe_callB call_isi (by rfl) T.b_isinstance (by decide +kernel) (pa_cons (pv 3) (pa_cons (pe_bltn (v := .ty "tuple") (by rfl) T.b_tuple (by decide +kernel) rfl) pa_nil))))) (pw_or (pt_cmpR op_ne (pe_callB call_len (by rfl) T.b_len PySem.boot_len (pa_cons (pv 3) pa_nil)) pe_int (nomark _)) (pw_or1 (pt_not (pt_val (pe_call (ok_is_number T) (hr.mono (by decide)) (by rfl) T.g_is_number T.is_number.kp (b_is_number T) .nil pass0 (pa_cons (pe_ix ix_tup (pv 3) pe_int (fun _ _ => rfl)) (pa_cons (pe_op op_add (pv 2) pe_int) (pa_cons (pe_op op_sub (pe_callB (call_lenP T (ok_Part_len T) (hr.mono (by decide))) (by rfl) T.b_len PySem.boot_len (pa_cons (pv 0) pa_nil)) pe_int) pa_nil)))))))))) pss_never pss_nil)
      (pss_cons (ps_if (pt_not (pt_val (pe_call (ok_is_number T) (hr.mono (by decide)) (by rfl) T.g_is_number T.is_number.kp (b_is_number T) .nil pass0 (pa_cons (pe_ix ix_tup (pv 3) pe_int (fun _ _ => rfl)) (pa_cons (pe_ix ix_tup (pv 3) pe_int (fun _ _ => rfl)) (pa_cons (pe_op op_sub (pe_callB (call_lenP T (ok_Part_len T) (hr.mono (by decide))) (by rfl) T.b_len PySem.boot_len (pa_cons (pv 0) pa_nil)) pe_int) pa_nil)))))) pss_never pss_nil)
      (pss_one (ps_set (i := 2) sc_need_repeats.nd rfl (by first | exact Or.inl rfl | exact Or.inr rfl) (pe_ix ix_tup (pv 3) pe_int (fun _ _ => rfl)))))))))), ?_⟩
    refine ⟨_, rfl, _, _, _, _, _, rfl, .ty _, dp_ty hy, kit_tup _, _, rfl, iteF ⟨_, rfl, _, _, rfl, .inr ⟨_, ht, rfl⟩, _, _, rfl, rfl, _, rfl, iteN (by omega) ?_⟩⟩
    refine ⟨_, rfl, ?_⟩
    refine ⟨_, rfl, t, rfl, ⟨_, ht⟩, for_tup (xs := vs) (fun i σ H' => H = H' ∧ ∃ (k : Nat) (y3 : Option V), RepOk bs.length k (rs.drop i) ∧ σ = [some (.ref p), some (.ref t), some (.int ((k : Int) - 1)), y3]) ⟨rfl, 0, none, ok, rfl⟩ ?_ ?_ ?_⟩
    · rintro i σ H' _ ⟨rfl, _⟩
      exact ht
    · rintro i v σ H' hv ⟨rfl, k, y3, hk, rfl⟩
      obtain ⟨x, hx, hvx⟩ := rep_at ha hv
      rw [drop_at hx] at hk
      obtain ⟨k1, k2, k3, k4⟩ := hk
      obtain ⟨o, rfl, ho⟩ := dp_rep hvx
      refine ⟨_, rfl, _, _, _, _, _, rfl, .ty _, dp_ty hvx, kit_tup _, _, rfl, iteF ⟨_, rfl, _, _, rfl, .inr ⟨_, ho, rfl⟩, rfl, _, rfl, iteNNQ rfl ?_⟩⟩
      refine ⟨_, rfl, o, _, _, _, rfl, rfl, ho, rfl, _, rfl, _, _, rfl, rfl, _, rfl, p, dx, _, rfl, h1, p, q, bs, past, rfl, hp, bs.length, rfl, by omega, _, _, rfl, rfl, _, .int (x.1 : Int), _, _, rfl, .int _, _, rfl, ?_⟩
      rw [isNum_of (by omega) (by omega)]
      refine iteF ?_
      refine ⟨_, rfl, o, _, _, _, rfl, rfl, ho, rfl, _, rfl, o, _, _, _, rfl, rfl, ho, rfl, _, rfl, p, dx, _, rfl, h1, p, q, bs, past, rfl, hp, bs.length, rfl, by omega, _, _, rfl, rfl, _, .int (x.2 : Int), _, _, rfl, .int _, _, rfl, ?_⟩
      rw [isNum_of (by omega) (by omega)]
      refine iteF ?_
      refine ⟨_, rfl, o, _, _, _, rfl, rfl, ho, rfl, rfl, x.2 + 1, some (.ref o), k4, ?_⟩
      rw [show ((x.2 + 1 : Nat) : Int) - 1 = (x.2 : Int) by omega]
      rfl
    · rintro σ H' ⟨rfl, k, y3, _, rfl⟩
      exact z
theorem sc_Part_rest : FnScope ["self", "at"] ["self", "at"] (defScope s_Part_rest) := ⟨rfl, rfl, rfl, by decide +kernel, rfl, by decide +kernel, by decide +kernel⟩
section
variable {K : PySem.W.Frag} {mg : Str → Option Value}
theorem b_Part_rest (T : Txt K mg) : Binds K (fdOf K ("Part", some "rest")) ["self", "at"] [] := T.Part_rest.bindsN fun _ _ _ _ _ _ us hl => match us, hl with | [_, _], _ => rfl
end
def sp_Part_rest (K : PySem.W.Frag) : Sp := fun vs H Q _ => ∃ (p q : Addr) (k : Nat) (bs : List Bar) (past : List (List Bar)), vs = [.ref p, .int (k : Int)] ∧ PartX K H p q bs past ∧ k ≤ bs.length ∧ ∀ H', Same H H' → Q (.int (restOf bs k)) H'
theorem isNum_nat {k n : Nat} (h : k ≤ n) : isNum (.int (k : Int)) 0 (n : Int) = true := by
  show (decide ((0 : Int) ≤ (k : Int)) && decide ((k : Int) ≤ (n : Int))) = true
  rw [decide_eq_true (by omega), decide_eq_true (by omega)]
  rfl
theorem ok_Part_rest {P : Program} {w : World} {K : PySem.W.Frag} {mg : Str → Option Value} {base : Heap} (T : Txt K mg) : OkF P w K mg base CX0 3 ("Part", some "rest") ["self", "at"] (sp_Part_rest K) := by
  refine okN T.Part_rest sc_Part_rest (fun vs H Q E h => ?_) (fun cdv A outer s H vs Q E hr h => ?_)
  · obtain ⟨p, q, k, bs, past, rfl, _⟩ := h
    rfl
  · obtain ⟨p, q, k, bs, past, rfl, hp, hk, z⟩ := h
    obtain ⟨dx, r, ws, h1, n, ⟨vs, h2, h3⟩, _⟩ := id hp
    refine ⟨_, (pss_cons (ps_if (pt_not (pt_val (pe_call (ok_is_number T) (hr.mono (by decide)) (by rfl) T.g_is_number T.is_number.kp (b_is_number T) .nil pass0 (pa_cons (pv 1) (pa_cons pe_int (pa_cons (pe_callB call_len (by rfl) T.b_len PySem.boot_len (pa_cons (pe_fld (pv 0) rfl) pa_nil)) pa_nil)))))) pss_never pss_nil)
      (pss_one (ps_ret (pe_op op_add (pe_meth (pv 0) T.cl_Part T.m_Part_ahead (ok_Part_ahead T) (hr.mono (by decide)) (b_Part_ahead T) .nil pass0 (pa_cons (pv 1) pa_nil)) (pe_meth (pv 0) T.cl_Part T.m_Part_behind (ok_Part_behind T) (hr.mono (by decide)) (b_Part_behind T) .nil pass0 (pa_cons (pv 1) pa_nil)))))), ?_⟩
    refine ⟨_, rfl, _, rfl, p, _, dx, _, _, rfl, h1, T.cl_Part, T.n_row, pf_row, _, _, rfl, .inl ⟨_, .of h2, rfl⟩, _, .int (k : Int), _, _, rfl, .int _, _, rfl, ?_⟩
    rw [bars_len h3, isNum_nat hk]
    refine iteF ⟨_, rfl, p, dx, _, rfl, h1, pf_no (by decide +kernel) (by decide +kernel), _, rfl, p, q, k, bs, past, rfl, hp, fun H1 s1 => ?_⟩
    refine ⟨_, rfl, p, dx, _, rfl, s1 _ _ h1, pf_no (by decide +kernel) (by decide +kernel), _, rfl, p, q, k, bs, past, rfl, hp.same s1, fun H2 s2 => ?_⟩
    exact ⟨_, _, rfl, rfl, z _ (s1.trans s2)⟩
theorem sc_may_turn : FnScope ["part", "desk", "side", "bar"] ["part", "desk", "side", "bar"] (defScope s_may_turn) := ⟨rfl, rfl, rfl, by decide +kernel, rfl, by decide +kernel, by decide +kernel⟩
section
variable {K : PySem.W.Frag} {mg : Str → Option Value}
theorem b_may_turn (T : Txt K mg) : Binds K (fdOf K ("may_turn", none)) ["part", "desk", "side", "bar"] [] := T.may_turn.bindsN fun _ _ _ _ _ _ us hl => match us, hl with | [_, _, _, _], _ => rfl
end
def sp_may_turn (K : PySem.W.Frag) : Sp := fun vs H Q _ => ∃ (p q : Addr) (bs : List Bar) (past : List (List Bar)) (x : V) (k : Desk) (r : Bool) (b : Nat), vs = [.ref p, x, .str (sideS r), .int (b : Int)] ∧ PartX K H p q bs past ∧ Dp K H x (deskD k) ∧ b ≤ bs.length ∧ bs.length ≤ 1000 ∧
  ∀ H', Same H H' → Q (.bl (mayTurn bs k r b)) H'
theorem ok_may_turn {P : Program} {w : World} {K : PySem.W.Frag} {mg : Str → Option Value} {base : Heap} (T : Txt K mg) : OkF P w K mg base CX0 4 ("may_turn", none) ["part", "desk", "side", "bar"] (sp_may_turn K) := by
  refine okN T.may_turn sc_may_turn (fun vs H Q E h => ?_) (fun cdv A outer s H vs Q E hr h => ?_)
  · obtain ⟨p, q, bs, past, x, k, r, b, rfl, _⟩ := h
    rfl
  · obtain ⟨p, q, bs, past, x, k, r, b, rfl, hp, hx, hb, hbl, z⟩ := h
    obtain ⟨dk, rfl, hdk⟩ := dp_desk hx
    obtain ⟨dx, rr, ws, h1, _⟩ := id hp
    refine ⟨_, (pss_one (ps_ret (pe_or (pe_cmpR op_eq (pv 2) pe_str (nomark _)) (pe_or (pe_cmpR op_eq (pv 3) (pe_callB (call_lenP T (ok_Part_len T) (hr.mono (by decide))) (by rfl) T.b_len PySem.boot_len (pa_cons (pv 0) pa_nil)) (nomark _)) (pe_one (pe_cmpR op_ge (pe_meth (pv 0) T.cl_Part T.m_Part_rest (ok_Part_rest T) (hr.mono (by decide)) (b_Part_rest T) .nil pass0 (pa_cons (pv 3) pa_nil)) (pe_ix ix_tup (pv 1) pe_int (fun _ _ => rfl)) (nomark _))))))), ?_⟩
    refine ⟨_, rfl, rfl, _, rfl, ?_⟩
    cases r with
    | false =>
      rw [show decide (V.str (sideS false) = V.str (Str.ofString "left")) = true by decide +kernel]
      exact iteT (z _ (Same.refl _))
    | true =>
      rw [show decide (V.str (sideS true) = V.str (Str.ofString "left")) = false by decide +kernel]
      refine iteF ⟨_, rfl, _, rfl, p, dx, _, rfl, h1, p, q, bs, past, rfl, hp, bs.length, rfl, by omega, rfl, _, rfl, ?_⟩
      refine ite2Q (fun e => ?_) (fun ne => ?_)
      · have z1 := z H (Same.refl _)
        have eb : b = bs.length := by omega
        rw [show mayTurn bs k true b = true by unfold mayTurn; rw [decide_eq_true eb]; rfl] at z1
        exact z1
      · refine ⟨_, rfl, p, dx, _, rfl, h1, pf_no (by decide +kernel) (by decide +kernel), _, rfl, p, q, b, bs, past, rfl, hp, hb, fun H2 s2 => ?_⟩
        refine ⟨_, rfl, dk, _, _, _, rfl, rfl, same_sqt s2 hdk, rfl, _, _, rfl, rfl, ?_⟩
        have z1 := z H2 s2
        have eb : ¬ b = bs.length := by omega
        rw [show mayTurn bs k true b = decide (k.turn ≤ restOf bs b) by unfold mayTurn; rw [decide_eq_false eb]; rfl] at z1
        exact z1
theorem sc_Part_wide : FnScope ["self", "begin", "end", "width", "beats", "rests"] ["self", "begin", "end"] (defScope s_Part_wide) := ⟨rfl, rfl, rfl, by decide +kernel, rfl, by decide +kernel, by decide +kernel⟩
section
variable {K : PySem.W.Frag} {mg : Str → Option Value}
theorem b_Part_wide (T : Txt K mg) : Binds K (fdOf K ("Part", some "wide")) ["self", "begin", "end"] [] := T.Part_wide.bindsN fun _ _ _ _ _ _ us hl => match us, hl with | [_, _, _], _ => rfl
end
def sp_Part_wide (K : PySem.W.Frag) : Sp := fun vs H Q _ => ∃ (p q : Addr) (b e : Nat) (bs : List Bar) (past : List (List Bar)), vs = [.ref p, .int (b : Int), .int (e : Int)] ∧ PartX K H p q bs past ∧ b ≤ e ∧ bs.length ≤ 1000 ∧ ∀ H', Same H H' → Q (.int (wideOf bs b e)) H'
theorem ok_Part_wide {P : Program} {w : World} {K : PySem.W.Frag} {mg : Str → Option Value} {base : Heap} (T : Txt K mg) : OkF P w K mg base CX0 1 ("Part", some "wide") ["self", "begin", "end"] (sp_Part_wide K) := by
  refine okN T.Part_wide sc_Part_wide (fun vs H Q E h => ?_) (fun cdv A outer s H vs Q E hr h => ?_)
  · obtain ⟨p, q, b, e, bs, past, rfl, _⟩ := h
    rfl
  · obtain ⟨p, q, b, e, bs, past, rfl, hp, hbe, hl, z⟩ := h
    obtain ⟨dx, r, ws, h1, n, ⟨vs, h2, h3⟩, _⟩ := hp
    refine ⟨_, (pss_one (ps_ret (pe_callB (cr_sum rfl) (by rfl) T.b_sum (by decide +kernel) (pa_cons (pe_lc (own := [("width", 3), ("beats", 4), ("rests", 5)]) (g := (gTup K 3 (gCons (gName 3) (gCons (gName 4) (gCons (gName 5) gNil))))) (tt := tYes) (by rfl) sc_Part_wide.nd (pi_list (pe_slice sl_list (pe_fld (pv 0) rfl) (po_some (pv 1)) (po_some (pv 2)))) (blkOk_by (own := [("width", 3), ("beats", 4), ("rests", 5)]) (N := ["self", "begin", "end", "width", "beats", "rests"]) (sc := defScope s_Part_wide) (by decide +kernel)) (fun _ _ _ _ _ => (pg_tup rfl (pgs_cons (pg_name (i := 3) sc_Part_wide.nd rfl (by first | exact Or.inl rfl | exact Or.inr rfl)) (pgs_cons (pg_name (i := 4) sc_Part_wide.nd rfl (by first | exact Or.inl rfl | exact Or.inr rfl)) (pgs_cons (pg_name (i := 5) sc_Part_wide.nd rfl (by first | exact Or.inl rfl | exact Or.inr rfl)) pgs_nil))))) (fun _ _ _ _ _ => pts_nil) (fun _ _ _ _ _ => (pv 3))) pa_nil)))), ?_⟩
    refine ⟨_, rfl, p, _, dx, _, _, rfl, h1, T.cl_Part, T.n_row, pf_row, _, rfl, _, rfl, _, rfl, _, rfl, r, vs, rfl, .of h2, fun c nc => ?_⟩
    rw [cut_both hbe]
    have s1 : Same H (upd H c (.lst ((vs.drop b).take (e - b)))) := same_upd nc
    have h4 : DpAll K (upd H c (.lst ((vs.drop b).take (e - b)))) ((vs.drop b).take (e - b)) (barsD ((bs.drop b).take (e - b))) := by
      show DpAll K _ _ (((bs.drop b).take (e - b)).map barD)
      rw [List.map_take, List.map_drop]
      exact dpa_take _ (dpa_drop b (dpa_same s1 h3))
    have hlen := bars_len h4
    have hle : ((bs.drop b).take (e - b)).length ≤ 1000 := by
      rw [List.length_take, List.length_drop]
      omega
    refine ⟨c, rfl, ⟨_, .of upd_same⟩, fun D hD => lc_list (K := K) (a := c) (xs := (vs.drop b).take (e - b)) (fun i H' => Same (upd H c (.lst ((vs.drop b).take (e - b)))) H' ∧ H' D = some (.lst (((((bs.drop b).take (e - b)).take i).map Bar.w).map V.int))) ⟨same_upd hD, ?_⟩ ?_ ?_ ?_⟩
    · rw [upd_same]
      rfl
    · rintro i H' _ ⟨s, _⟩
      exact .of (s _ _ upd_same)
    · rintro i v H' hv ⟨s, e1⟩
      obtain ⟨x, t, hx, rfl, ht⟩ := bar_at h4 hv
      refine ⟨t, _, rfl, same_sqt s ht, rfl, _, _, rfl, _, _, rfl, _, _, rfl, rfl, rfl, _, rfl, _, e1, ?_, same_updR s hD, ?_⟩
      · rw [List.length_map, List.length_map, List.length_take]
        exact small1000 (by omega)
      · rw [upd_same, take_at hx, List.map_append, List.map_append]
        rfl
    · rintro H1 ⟨s2, e1⟩
      rw [hlen, List.take_length] at e1
      exact ⟨D, _, rfl, .of e1, z _ (s1.trans s2)⟩
theorem sc_steps : FnScope ["part", "desk", "state", "bar", "side", "used", "other", "found", "end"] ["part", "desk", "state"] (defScope s_steps) := ⟨rfl, rfl, rfl, by decide +kernel, rfl, by decide +kernel, by decide +kernel⟩
section
variable {K : PySem.W.Frag} {mg : Str → Option Value}
theorem b_steps (T : Txt K mg) : Binds K (fdOf K ("steps", none)) ["part", "desk", "state"] [] := T.steps.bindsN fun _ _ _ _ _ _ us hl => match us, hl with | [_, _, _], _ => rfl
end
def sp_steps (K : PySem.W.Frag) : Sp := fun vs H Q _ => ∃ (p q : Addr) (bs : List Bar) (past : List (List Bar)) (x y : V) (k : Desk) (s : Sta), vs = [.ref p, x, y] ∧ PartX K H p q bs past ∧ Dp K H x (deskD k) ∧ Dp K H y (stateD s) ∧ s.bar ≤ bs.length ∧ bs.length ≤ 1000 ∧
  ∀ v H', Same H H' → H v = none → StepsL H' v (stepsL bs k s) → Q (.ref v) H'
theorem ok_steps {P : Program} {w : World} {K : PySem.W.Frag} {mg : Str → Option Value} {base : Heap} (T : Txt K mg) : OkF P w K mg base CX0 5 ("steps", none) ["part", "desk", "state"] (sp_steps K) := by
  refine okN T.steps sc_steps (fun vs H Q E h => ?_) (fun cdv A outer s H vs Q E hr h => ?_)
  · obtain ⟨p, q, bs, past, x, y, k, s, rfl, _⟩ := h
    rfl
  · obtain ⟨p, q, bs, past, x, y, k, st, rfl, hp, hx, hy, hsb, hbl, z⟩ := h
    obtain ⟨dk, rfl, hdk⟩ := dp_desk hx
    obtain ⟨sa, rfl, hsa⟩ := dp_state hy
    obtain ⟨dx, rr, ws, h1, _⟩ := id hp
    have hln := steps_len bs k st
    refine ⟨_, (pss_cons (ps_asg (pv 2) (pg_tup rfl (pgs_cons (pg_name (i := 3) sc_steps.nd rfl (by first | exact Or.inl rfl | exact Or.inr rfl)) (pgs_cons (pg_name (i := 4) sc_steps.nd rfl (by first | exact Or.inl rfl | exact Or.inr rfl)) (pgs_cons (pg_name (i := 5) sc_steps.nd rfl (by first | exact Or.inl rfl | exact Or.inr rfl)) pgs_nil)))))
      (pss_cons (ps_set (i := 6) sc_steps.nd rfl (by first | exact Or.inl rfl | exact Or.inr rfl) (pe_ifExp (pt_cmpR op_eq (pv 4) pe_str (nomark _)) pe_str pe_str))
      (pss_cons (ps_set (i := 7) sc_steps.nd rfl (by first | exact Or.inl rfl | exact Or.inr rfl) (pe_lst pa_nil))
      (pss_cons (ps_if (PW.pt (pw_and (pt_cmpR op_lt (pv 3) (pe_callB (call_lenP T (ok_Part_len T) (hr.mono (by decide))) (by rfl) T.b_len PySem.boot_len (pa_cons (pv 0) pa_nil)) (nomark _)) (pw_and (pt_cmpR op_lt (pv 5) (pe_ix ix_tup (pv 1) pe_int (fun _ _ => rfl)) (nomark _)) (pw_and1 (pt_val (pe_call (ok_may_turn T) (hr.mono (by decide)) (by rfl) T.g_may_turn T.may_turn.kp (b_may_turn T) .nil pass0 (pa_cons (pv 0) (pa_cons (pv 1) (pa_cons (pv 4) (pa_cons (pv 3) pa_nil)))))))))) (pss_one (ps_expr (pe_bm PySem.F.plainAttrs_list PySem.F.slot_list_append PySem.F.type_list_append mt_append (pv 7) (pa_cons (pe_tup (pa_cons pe_int (pa_cons (pe_tup (pa_cons (pv 3) (pa_cons (pv 6) (pa_cons (pe_op op_add (pv 5) pe_int) pa_nil)))) pa_nil))) pa_nil)))) pss_nil)
      (pss_cons (ps_set (i := 8) sc_steps.nd rfl (by first | exact Or.inl rfl | exact Or.inr rfl) (pe_op op_add (pv 3) pe_int))
      (pss_cons (ps_while PassesOwn.never (PW.pt (pw_and (pt_cmpR op_le (pv 8) (pe_callB (call_lenP T (ok_Part_len T) (hr.mono (by decide))) (by rfl) T.b_len PySem.boot_len (pa_cons (pv 0) pa_nil)) (nomark _)) (pw_and1 (pt_cmpR op_le (pe_meth (pv 0) T.cl_Part T.m_Part_wide (ok_Part_wide T) (hr.mono (by decide)) (b_Part_wide T) .nil pass0 (pa_cons (pv 3) (pa_cons (pv 8) pa_nil))) (pe_ix ix_tup (pv 1) pe_int (fun _ _ => rfl)) (nomark _)))))
      (pss_cons (ps_if (pt_val (pe_call (ok_may_turn T) (hr.mono (by decide)) (by rfl) T.g_may_turn T.may_turn.kp (b_may_turn T) .nil pass0 (pa_cons (pv 0) (pa_cons (pv 1) (pa_cons (pv 4) (pa_cons (pv 8) pa_nil)))))) (pss_one (ps_expr (pe_bm PySem.F.plainAttrs_list PySem.F.slot_list_append PySem.F.type_list_append mt_append (pv 7) (pa_cons (pe_tup (pa_cons (pe_op op_sub (pv 8) (pv 3)) (pa_cons (pe_tup (pa_cons (pv 8) (pa_cons (pv 6) (pa_cons (pv 5) pa_nil)))) pa_nil))) pa_nil)))) pss_nil)
      (pss_one (ps_set (i := 8) sc_steps.nd rfl (by first | exact Or.inl rfl | exact Or.inr rfl) (pe_op op_add (pv 8) pe_int)))))
      (pss_one (ps_ret (pv 7))))))))), ?_⟩
    refine ⟨_, rfl, sa, _, rfl, hsa, rfl, _, _, rfl, _, _, rfl, _, _, rfl, rfl, ?_⟩
    obtain ⟨sb, sr, su⟩ := st
    dsimp only at hsb
    cases sr
    case false =>
      refine ⟨_, rfl, rfl, _, rfl, ite_side ?_⟩
      first | refine iteT ?_ | refine iteF ?_
      -- found = []
      refine ⟨by decide, fun F nF => ?_⟩
      have sF := same_upd (o := .lst []) nF
      have hF0 : StepsL (upd H F (.lst [])) F [] := ⟨[], upd_same, trivial⟩
      generalize (upd H F (.lst [])) = HF at sF hF0 ⊢
      refine ⟨_, rfl, _, rfl, p, dx, _, rfl, sF _ _ h1, p, q, bs, past, rfl, hp.same sF, bs.length, rfl, by omega, _, _, rfl, rfl, _, rfl, ite2P (fun c1 => ?_) (fun c1 => iteF ?_)⟩
      rotate_left
      have sG := sF
      have hG : StepsL HF F [] := hF0
      have hpre : stepsL bs k ⟨sb, false, su⟩ = [] ++ someSteps bs k ⟨sb, false, su⟩ (sb + 1) := by
        unfold stepsL zeroStep
        rw [if_neg (fun h => c1 (by have h' : sb < bs.length := h.1; omega))]
      generalize HF = G at sG hG ⊢
      generalize ([] : List (Nat × Sta)) = pre at hG hpre
      rotate_right
      refine ⟨_, rfl, _, rfl, dk, _, _, _, rfl, rfl, same_sqt sF hdk, rfl, _, _, rfl, rfl, _, rfl, ite2P (fun c2 => ?_) (fun c2 => iteF ?_)⟩
      rotate_left
      have sG := sF
      have hG : StepsL HF F [] := hF0
      have hpre : stepsL bs k ⟨sb, false, su⟩ = [] ++ someSteps bs k ⟨sb, false, su⟩ (sb + 1) := by
        unfold stepsL zeroStep
        rw [if_neg (fun h => c2 h.2.1)]
      generalize HF = G at sG hG ⊢
      generalize ([] : List (Nat × Sta)) = pre at hG hpre
      rotate_right
      refine ⟨_, rfl, _, rfl, _, rfl, _, rfl, p, q, bs, past, _, k, false, sb, rfl, hp.same sF, dp_same sF hx, by omega, hbl, fun H2 s2 => ⟨_, rfl, ite2B (fun c3 => ?_) (fun c3 => ?_)⟩⟩
      rotate_left
      have sG := sF.trans s2
      have hG : StepsL H2 F [] := hF0.same s2
      have hpre : stepsL bs k ⟨sb, false, su⟩ = [] ++ someSteps bs k ⟨sb, false, su⟩ (sb + 1) := by
        unfold stepsL zeroStep
        rw [if_neg (fun h => by rw [c3] at h; exact Bool.false_ne_true h.2.2)]
      generalize H2 = G at sG hG ⊢
      generalize ([] : List (Nat × Sta)) = pre at hG hpre
      rotate_right
      obtain ⟨fv, hf1, hf2⟩ := hF0.same s2
      refine ⟨_, rfl, .inl ⟨rfl, _, .of hf1⟩, _, rfl, _, rfl, _, rfl, _, _, rfl, rfl, by show (3 : Nat) ≤ sizeLine; decide, fun o no => ?_⟩
      have so := same_upd (o := .tup (stateV ⟨sb, !false, su + 1⟩)) no
      refine ⟨by show (2 : Nat) ≤ sizeLine; decide, fun t nt => ?_⟩
      have st2 := same_upd (o := .tup [.int 0, .ref o]) nt
      have s3 := so.trans st2
      refine ⟨F, fv, _, rfl, rfl, s3 _ _ hf1, ?_, ?_⟩
      · rw [hf2.len]
        exact small1000 (Nat.zero_le _)
      have sG : Same H (upd (upd (upd H2 o (.tup (stateV ⟨sb, !false, su + 1⟩))) t (.tup [.int 0, .ref o])) F (.lst (fv ++ [.ref t]))) := same_updR ((sF.trans s2).trans s3) nF
      have hG : StepsL (upd (upd (upd H2 o (.tup (stateV ⟨sb, !false, su + 1⟩))) t (.tup [.int 0, .ref o])) F (.lst (fv ++ [.ref t]))) F ([] ++ [(0, ⟨sb, !false, su + 1⟩)]) := StepsL.app (x := (0, ⟨sb, !false, su + 1⟩)) (o := o) (H' := H) (s3 _ _ hf1) (hf2.keep fun b ys z => s3 _ _ z) upd_same (st2 _ _ upd_same)
      have hpre : stepsL bs k ⟨sb, false, su⟩ = ([] ++ [(0, ⟨sb, !false, su + 1⟩)]) ++ someSteps bs k ⟨sb, false, su⟩ (sb + 1) := by
        unfold stepsL zeroStep
        rw [if_pos ⟨by have h : (sb : Int) < (bs.length : Int) := c1; show sb < bs.length; omega, c2, c3⟩]
        rfl
      generalize ([] : List (Nat × Sta)) ++ [(0, ⟨sb, !false, su + 1⟩)] = pre at hG hpre
      all_goals
        refine ⟨_, rfl, _, _, rfl, rfl, ?_⟩
        refine ⟨(fun m σ' H' => ∃ (e : Nat) (pre : List (Nat × Sta)), σ' = [some (.ref p), some (.ref dk), some (.ref sa), some (.int (sb : Int)), some (.str (sideS false)), some (.int (su : Int)), some (.str (sideS (!false))), some (.ref F), some (.int (e : Int))] ∧ Same H H' ∧ StepsL H' F pre ∧ stepsL bs k ⟨sb, false, su⟩ = pre ++ someSteps bs k ⟨sb, false, su⟩ e ∧ e ≤ bs.length + 1 ∧ sb + 1 ≤ e ∧ m = bs.length + 1 - e), ⟨_, sb + 1, pre, rfl, sG, hG, hpre, by omega, Nat.le_refl _, rfl⟩, ?_⟩
        rintro m σ H3 ⟨e, pre3, rfl, s3, hF3, hp3, he1, he2, hm⟩
        refine ⟨_, rfl, _, rfl, p, dx, _, rfl, s3 _ _ h1, p, q, bs, past, rfl, hp.same s3, bs.length, rfl, by omega, _, _, rfl, rfl, _, rfl, ite2P (fun c4 => ?_) (fun c4 => iteF ?_)⟩
        rotate_left
        rw [some_end (by omega), List.append_nil] at hp3
        refine ⟨_, rfl, z _ _ s3 nF ?_⟩
        rw [hp3]
        exact hF3
        refine ⟨_, rfl, p, dx, _, rfl, s3 _ _ h1, pf_no (by decide +kernel) (by decide +kernel), _, rfl, _, rfl, p, q, sb, e, bs, past, rfl, hp.same s3, by omega, hbl, fun H4 s4 => ?_⟩
        have s34 := s3.trans s4
        refine ⟨_, rfl, dk, _, _, _, rfl, rfl, same_sqt s34 hdk, rfl, _, _, rfl, rfl, _, rfl, ite2P (fun c5 => ?_) (fun c5 => ?_)⟩
        rotate_left
        rw [some_wide (by omega) (decide_eq_false c5), List.append_nil] at hp3
        refine ⟨_, rfl, z _ _ s34 nF ?_⟩
        rw [hp3]
        exact hF3.same s4
        rw [some_next (by omega) (decide_eq_true c5)] at hp3
        refine ⟨(fun σ' H' => ∃ m', m' < m ∧ ∃ (e : Nat) (pre : List (Nat × Sta)), σ' = [some (.ref p), some (.ref dk), some (.ref sa), some (.int (sb : Int)), some (.str (sideS false)), some (.int (su : Int)), some (.str (sideS (!false))), some (.ref F), some (.int (e : Int))] ∧ Same H H' ∧ StepsL H' F pre ∧ stepsL bs k ⟨sb, false, su⟩ = pre ++ someSteps bs k ⟨sb, false, su⟩ e ∧ e ≤ bs.length + 1 ∧ sb + 1 ≤ e ∧ m' = bs.length + 1 - e), fun _ _ h => h, ?_⟩
        refine ⟨_, rfl, _, rfl, _, rfl, _, rfl, p, q, bs, past, _, k, false, e, rfl, hp.same s34, dp_same s34 hx, by omega, hbl, fun H5 s5 => ⟨_, rfl, ite2B (fun c6 => ?_) (fun c6 => ?_)⟩⟩
        rotate_left
        rw [show mayTurn bs k (Sta.mk sb false su).right e = false from c6, if_neg Bool.false_ne_true, List.nil_append] at hp3
        refine ⟨_, rfl, _, _, rfl, rfl, m - 1, by omega, e + 1, pre3, rfl, s34.trans s5, (hF3.same s4).same s5, hp3, by omega, by omega, by omega⟩
        rw [show mayTurn bs k (Sta.mk sb false su).right e = true from c6, if_pos rfl, ← List.append_assoc] at hp3
        obtain ⟨fv3, hf31, hf32⟩ := (hF3.same s4).same s5
        refine ⟨_, rfl, .inl ⟨rfl, _, .of hf31⟩, _, rfl, _, rfl, _, _, rfl, rfl, ?_⟩
        have eI : (e : Int) - (sb : Int) = ((e - sb : Nat) : Int) := by omega
        refine ⟨_, rfl, _, rfl, _, rfl, by show (3 : Nat) ≤ sizeLine; decide, fun o3 no3 => ?_⟩
        have so3 := same_upd (o := .tup (stateV ⟨e, !false, su⟩)) no3
        refine ⟨by show (2 : Nat) ≤ sizeLine; decide, fun t3 nt3 => ?_⟩
        have st3 := same_upd (o := .tup [.int ((e : Int) - (sb : Int)), .ref o3]) nt3
        have s6 := so3.trans st3
        refine ⟨F, fv3, _, rfl, rfl, s6 _ _ hf31, ?_, ?_⟩
        · rw [hf32.len]
          have := congrArg List.length hp3
          rw [List.length_append, List.length_append] at this
          exact small5000 (by omega)
        refine ⟨_, rfl, _, _, rfl, rfl, m - 1, by omega, e + 1, _, rfl, same_updR ((s34.trans s5).trans s6) nF, StepsL.app (x := oneStep ⟨sb, false, su⟩ e) (o := o3) (H' := H) (s6 _ _ hf31) (hf32.keep fun b ys z => s6 _ _ z) (by rw [upd_same]; show some (HO.tup [V.int ((e : Int) - (sb : Int)), V.ref o3]) = _; rw [eI]; rfl) (st3 _ _ upd_same), hp3, by omega, by omega, by omega⟩
    case true =>
      refine ⟨_, rfl, rfl, _, rfl, ite_side ?_⟩
      first | refine iteT ?_ | refine iteF ?_
      -- found = []
      refine ⟨by decide, fun F nF => ?_⟩
      have sF := same_upd (o := .lst []) nF
      have hF0 : StepsL (upd H F (.lst [])) F [] := ⟨[], upd_same, trivial⟩
      generalize (upd H F (.lst [])) = HF at sF hF0 ⊢
      refine ⟨_, rfl, _, rfl, p, dx, _, rfl, sF _ _ h1, p, q, bs, past, rfl, hp.same sF, bs.length, rfl, by omega, _, _, rfl, rfl, _, rfl, ite2P (fun c1 => ?_) (fun c1 => iteF ?_)⟩
      rotate_left
      have sG := sF
      have hG : StepsL HF F [] := hF0
      have hpre : stepsL bs k ⟨sb, true, su⟩ = [] ++ someSteps bs k ⟨sb, true, su⟩ (sb + 1) := by
        unfold stepsL zeroStep
        rw [if_neg (fun h => c1 (by have h' : sb < bs.length := h.1; omega))]
      generalize HF = G at sG hG ⊢
      generalize ([] : List (Nat × Sta)) = pre at hG hpre
      rotate_right
      refine ⟨_, rfl, _, rfl, dk, _, _, _, rfl, rfl, same_sqt sF hdk, rfl, _, _, rfl, rfl, _, rfl, ite2P (fun c2 => ?_) (fun c2 => iteF ?_)⟩
      rotate_left
      have sG := sF
      have hG : StepsL HF F [] := hF0
      have hpre : stepsL bs k ⟨sb, true, su⟩ = [] ++ someSteps bs k ⟨sb, true, su⟩ (sb + 1) := by
        unfold stepsL zeroStep
        rw [if_neg (fun h => c2 h.2.1)]
      generalize HF = G at sG hG ⊢
      generalize ([] : List (Nat × Sta)) = pre at hG hpre
      rotate_right
      refine ⟨_, rfl, _, rfl, _, rfl, _, rfl, p, q, bs, past, _, k, true, sb, rfl, hp.same sF, dp_same sF hx, by omega, hbl, fun H2 s2 => ⟨_, rfl, ite2B (fun c3 => ?_) (fun c3 => ?_)⟩⟩
      rotate_left
      have sG := sF.trans s2
      have hG : StepsL H2 F [] := hF0.same s2
      have hpre : stepsL bs k ⟨sb, true, su⟩ = [] ++ someSteps bs k ⟨sb, true, su⟩ (sb + 1) := by
        unfold stepsL zeroStep
        rw [if_neg (fun h => by rw [c3] at h; exact Bool.false_ne_true h.2.2)]
      generalize H2 = G at sG hG ⊢
      generalize ([] : List (Nat × Sta)) = pre at hG hpre
      rotate_right
      obtain ⟨fv, hf1, hf2⟩ := hF0.same s2
      refine ⟨_, rfl, .inl ⟨rfl, _, .of hf1⟩, _, rfl, _, rfl, _, rfl, _, _, rfl, rfl, by show (3 : Nat) ≤ sizeLine; decide, fun o no => ?_⟩
      have so := same_upd (o := .tup (stateV ⟨sb, !true, su + 1⟩)) no
      refine ⟨by show (2 : Nat) ≤ sizeLine; decide, fun t nt => ?_⟩
      have st2 := same_upd (o := .tup [.int 0, .ref o]) nt
      have s3 := so.trans st2
      refine ⟨F, fv, _, rfl, rfl, s3 _ _ hf1, ?_, ?_⟩
      · rw [hf2.len]
        exact small1000 (Nat.zero_le _)
      have sG : Same H (upd (upd (upd H2 o (.tup (stateV ⟨sb, !true, su + 1⟩))) t (.tup [.int 0, .ref o])) F (.lst (fv ++ [.ref t]))) := same_updR ((sF.trans s2).trans s3) nF
      have hG : StepsL (upd (upd (upd H2 o (.tup (stateV ⟨sb, !true, su + 1⟩))) t (.tup [.int 0, .ref o])) F (.lst (fv ++ [.ref t]))) F ([] ++ [(0, ⟨sb, !true, su + 1⟩)]) := StepsL.app (x := (0, ⟨sb, !true, su + 1⟩)) (o := o) (H' := H) (s3 _ _ hf1) (hf2.keep fun b ys z => s3 _ _ z) upd_same (st2 _ _ upd_same)
      have hpre : stepsL bs k ⟨sb, true, su⟩ = ([] ++ [(0, ⟨sb, !true, su + 1⟩)]) ++ someSteps bs k ⟨sb, true, su⟩ (sb + 1) := by
        unfold stepsL zeroStep
        rw [if_pos ⟨by have h : (sb : Int) < (bs.length : Int) := c1; show sb < bs.length; omega, c2, c3⟩]
        rfl
      generalize ([] : List (Nat × Sta)) ++ [(0, ⟨sb, !true, su + 1⟩)] = pre at hG hpre
      all_goals
        refine ⟨_, rfl, _, _, rfl, rfl, ?_⟩
        refine ⟨(fun m σ' H' => ∃ (e : Nat) (pre : List (Nat × Sta)), σ' = [some (.ref p), some (.ref dk), some (.ref sa), some (.int (sb : Int)), some (.str (sideS true)), some (.int (su : Int)), some (.str (sideS (!true))), some (.ref F), some (.int (e : Int))] ∧ Same H H' ∧ StepsL H' F pre ∧ stepsL bs k ⟨sb, true, su⟩ = pre ++ someSteps bs k ⟨sb, true, su⟩ e ∧ e ≤ bs.length + 1 ∧ sb + 1 ≤ e ∧ m = bs.length + 1 - e), ⟨_, sb + 1, pre, rfl, sG, hG, hpre, by omega, Nat.le_refl _, rfl⟩, ?_⟩
        rintro m σ H3 ⟨e, pre3, rfl, s3, hF3, hp3, he1, he2, hm⟩
        refine ⟨_, rfl, _, rfl, p, dx, _, rfl, s3 _ _ h1, p, q, bs, past, rfl, hp.same s3, bs.length, rfl, by omega, _, _, rfl, rfl, _, rfl, ite2P (fun c4 => ?_) (fun c4 => iteF ?_)⟩
        rotate_left
        rw [some_end (by omega), List.append_nil] at hp3
        refine ⟨_, rfl, z _ _ s3 nF ?_⟩
        rw [hp3]
        exact hF3
        refine ⟨_, rfl, p, dx, _, rfl, s3 _ _ h1, pf_no (by decide +kernel) (by decide +kernel), _, rfl, _, rfl, p, q, sb, e, bs, past, rfl, hp.same s3, by omega, hbl, fun H4 s4 => ?_⟩
        have s34 := s3.trans s4
        refine ⟨_, rfl, dk, _, _, _, rfl, rfl, same_sqt s34 hdk, rfl, _, _, rfl, rfl, _, rfl, ite2P (fun c5 => ?_) (fun c5 => ?_)⟩
        rotate_left
        rw [some_wide (by omega) (decide_eq_false c5), List.append_nil] at hp3
        refine ⟨_, rfl, z _ _ s34 nF ?_⟩
        rw [hp3]
        exact hF3.same s4
        rw [some_next (by omega) (decide_eq_true c5)] at hp3
        refine ⟨(fun σ' H' => ∃ m', m' < m ∧ ∃ (e : Nat) (pre : List (Nat × Sta)), σ' = [some (.ref p), some (.ref dk), some (.ref sa), some (.int (sb : Int)), some (.str (sideS true)), some (.int (su : Int)), some (.str (sideS (!true))), some (.ref F), some (.int (e : Int))] ∧ Same H H' ∧ StepsL H' F pre ∧ stepsL bs k ⟨sb, true, su⟩ = pre ++ someSteps bs k ⟨sb, true, su⟩ e ∧ e ≤ bs.length + 1 ∧ sb + 1 ≤ e ∧ m' = bs.length + 1 - e), fun _ _ h => h, ?_⟩
        refine ⟨_, rfl, _, rfl, _, rfl, _, rfl, p, q, bs, past, _, k, true, e, rfl, hp.same s34, dp_same s34 hx, by omega, hbl, fun H5 s5 => ⟨_, rfl, ite2B (fun c6 => ?_) (fun c6 => ?_)⟩⟩
        rotate_left
        rw [show mayTurn bs k (Sta.mk sb true su).right e = false from c6, if_neg Bool.false_ne_true, List.nil_append] at hp3
        refine ⟨_, rfl, _, _, rfl, rfl, m - 1, by omega, e + 1, pre3, rfl, s34.trans s5, (hF3.same s4).same s5, hp3, by omega, by omega, by omega⟩
        rw [show mayTurn bs k (Sta.mk sb true su).right e = true from c6, if_pos rfl, ← List.append_assoc] at hp3
        obtain ⟨fv3, hf31, hf32⟩ := (hF3.same s4).same s5
        refine ⟨_, rfl, .inl ⟨rfl, _, .of hf31⟩, _, rfl, _, rfl, _, _, rfl, rfl, ?_⟩
        have eI : (e : Int) - (sb : Int) = ((e - sb : Nat) : Int) := by omega
        refine ⟨_, rfl, _, rfl, _, rfl, by show (3 : Nat) ≤ sizeLine; decide, fun o3 no3 => ?_⟩
        have so3 := same_upd (o := .tup (stateV ⟨e, !true, su⟩)) no3
        refine ⟨by show (2 : Nat) ≤ sizeLine; decide, fun t3 nt3 => ?_⟩
        have st3 := same_upd (o := .tup [.int ((e : Int) - (sb : Int)), .ref o3]) nt3
        have s6 := so3.trans st3
        refine ⟨F, fv3, _, rfl, rfl, s6 _ _ hf31, ?_, ?_⟩
        · rw [hf32.len]
          have := congrArg List.length hp3
          rw [List.length_append, List.length_append] at this
          exact small5000 (by omega)
        refine ⟨_, rfl, _, _, rfl, rfl, m - 1, by omega, e + 1, _, rfl, same_updR ((s34.trans s5).trans s6) nF, StepsL.app (x := oneStep ⟨sb, true, su⟩ e) (o := o3) (H' := H) (s6 _ _ hf31) (hf32.keep fun b ys z => s6 _ _ z) (by rw [upd_same]; show some (HO.tup [V.int ((e : Int) - (sb : Int)), V.ref o3]) = _; rw [eI]; rfl) (st3 _ _ upd_same), hp3, by omega, by omega, by omega⟩
/-! ### {k: v} with a tuple for a key -/
def tDisp1T (tk tv : TE) : TE := fun σ H Q => ∀ p, H p = none → tPairs [(tk, tv)] σ (upd H p (.dT [])) fun ps H2 => H2 p = some (.dT []) ∧ ∃ k b y, ps = [(.ref b, y)] ∧ H2 b = some (.tup (k.map kV)) ∧ Q (.ref p) (upd H2 p (.dT [(k, y)]))
theorem pe_disp1T {X : Cx} {pos : Pos} {ke ve : Expr} {tk tv : TE} (hu : X.A.units + 1 < cLine) (hk : PE X ke tk) (hv : PE X ve tv) : PE X (.Dict [some ke] [ve] pos) (tDisp1T tk tv) := by
  refine ⟨fun pins s σ H Q I q => ?_⟩
  have hn := I.hok.fresh (Nat.le_refl s.heap.objs.size)
  have I1 := I.laid (a := s.heap.objs.size) (o := .dT []) (h' := s.heap.push { cls := .type "dict", data := .dict #[] }) (t' := s.toks) (fun _ _ q => Heap.get?_push_of_some _ q) (Nat.le_refl _) (dt_empty s.heap I.big)
  refine wpAny_Dict_any rfl rfl (by simp) (by simp) (thn ((pps_cons hk hv pps_nil).run pins _ σ _ _ I1 (q _ hn)) fun ws s2 ⟨ps, H2, I2, rel, e, k, b, y, ep, eb, q2⟩ => ?_)
  subst ep
  cases rel with
  | @cons p0 w0 ps0 ws0 r0 t0 =>
    cases t0
    obtain ⟨u1, u2⟩ := w0
    obtain ⟨r1, r2⟩ := r0
    cases (show u1 = Value.ref b from r1)
    obtain ⟨z, hd, xs, kt, dd⟩ := dt_of I2.hok e
    cases kt
    refine wpAny_storeAllH (knd := tupleKind (mixKind X.prog X.w)) (Nat.lt_of_le_of_lt (Nat.le_succ _) hu) _ [(k, b, u2)] [] s2 _ ⟨rfl, rfl, key_of I2.hok eb, trivial⟩ dd (by rw [sizeLine_eq]; simp) fun h' tk dd' hs => ⟨.ref s.heap.objs.size, _, ?_, rfl, q2⟩
    obtain ⟨o', es, ep, hq, h2, h3, h4, _, h5⟩ := dd'
    refine d_write I2 (by rw [e]; exact True.intro) hs ⟨o', hq⟩ ⟨by rw [sizeLine_eq]; simp, hd, [(k, b, u2)], .cons ⟨rfl, ?_, r2⟩ .nil, o', es, ep, hq, h2, h3, h4, h5⟩
    rw [upd_ne (ne_of eb e (fun z => nomatch z))]
    exact eb
/-! ### states as keys -/
def keyS (s : Sta) : List Key := [.inl (s.bar : Int), .inr (sideS s.right), .inl (s.used : Int)]
theorem keyS_V (s : Sta) : (keyS s).map kV = stateV s := rfl
theorem keyS_inj {s t : Sta} (h : keyS s = keyS t) : s = t := by
  obtain ⟨a, b, c⟩ := s
  obtain ⟨a', b', c'⟩ := t
  injection h with h1 h2
  injection h2 with h2 h3
  injection h3 with h3 _
  have e1 : (a : Int) = (a' : Int) := Sum.inl.inj h1
  have e2 : sideS b = sideS b' := Sum.inr.inj h2
  have e3 : (c : Int) = (c' : Int) := Sum.inl.inj h3
  rw [sideS_inj e2, Int.ofNat.inj e1, Int.ofNat.inj e3]
/-- what a state leads to -/
def entD (x : Nat × List Nat) : PyData := .tuple [.int (x.1 : Int), .tuple (numsD x.2)]
def EntsAt (K : PySem.W.Frag) (H : Hp) : List (List Key × V) → List Ent → Prop
  | [], [] => True
  | kv :: kvs, e :: es => kv.1 = keyS e.1 ∧ Dp K H kv.2 (entD e.2) ∧ EntsAt K H kvs es
  | _, _ => False
theorem isT_ent (x : Nat × List Nat) : isT (entD x) = true := by
  show (isT (.int (x.1 : Int)) && (isTs (numsD x.2) && true)) = true
  rw [isTs_nums]
  rfl
section
variable {K : PySem.W.Frag} {H H' : Hp}
theorem EntsAt.keep (hk : ∀ v d, Dp K H v d → isT d = true → Dp K H' v d) : ∀ {kvs : List (List Key × V)} {f : List Ent}, EntsAt K H kvs f → EntsAt K H' kvs f
  | [], [], _ => trivial
  | _ :: _, _ :: _, h => ⟨h.1, hk _ _ h.2.1 (isT_ent _), EntsAt.keep hk h.2.2⟩
  | [], _ :: _, h => h.elim
  | _ :: _, [], h => h.elim
theorem EntsAt.len : ∀ {kvs : List (List Key × V)} {f : List Ent}, EntsAt K H kvs f → kvs.length = f.length
  | [], [], _ => rfl
  | _ :: _, _ :: _, h => congrArg Nat.succ (EntsAt.len h.2.2)
  | [], _ :: _, h => h.elim
  | _ :: _, [], h => h.elim
theorem EntsAt.snoc : ∀ {kvs : List (List Key × V)} {f : List Ent} {v : V} {e : Ent}, EntsAt K H kvs f → Dp K H v (entD e.2) → EntsAt K H (kvs ++ [(keyS e.1, v)]) (f ++ [e])
  | [], [], _, _, _, h => ⟨rfl, h, trivial⟩
  | _ :: _, _ :: _, _, _, h, h' => ⟨h.1, h.2.1, EntsAt.snoc h.2.2 h'⟩
  | [], _ :: _, _, _, h, _ => h.elim
  | _ :: _, [], _, _, h, _ => h.elim
theorem EntsAt.val : ∀ {kvs : List (List Key × V)} {f : List Ent} (s : Sta), EntsAt K H kvs f → (valV kvs (keyS s) = none ∧ look f s = none) ∨ ∃ v x, valV kvs (keyS s) = some v ∧ look f s = some x ∧ Dp K H v (entD x)
  | [], [], _, _ => .inl ⟨rfl, rfl⟩
  | kv :: kvs, e :: f, s, h => by
    by_cases es : e.1 = s
    · refine .inr ⟨kv.2, e.2, valV_pos (by rw [h.1, es]), ?_, h.2.1⟩
      unfold look
      rw [List.find?_cons, decide_eq_true es]
      rfl
    · have ek : ¬ kv.1 = keyS s := fun z => es (keyS_inj (h.1.symm.trans z))
      have e1 := valV_neg (r := kvs) ek
      have e2 : look (e :: f) s = look f s := by
        unfold look
        rw [List.find?_cons, decide_eq_false es]
      rw [e1, e2]
      exact EntsAt.val s h.2.2
  | [], _ :: _, _, h => h.elim
  | _ :: _, [], _, h => h.elim
theorem look_none {f : List Ent} {s : Sta} : look f s = none ↔ s ∉ keysE f := by
  constructor
  · intro h hk
    obtain ⟨x, hx⟩ := look_key hk
    rw [h] at hx
    cases hx
  · intro h
    cases q : look f s with
    | none => rfl
    | some x => exact absurd (List.mem_map.mpr ⟨_, look_mem q, rfl⟩) h
/-- a dict of states -/
def DictAt (K : PySem.W.Frag) (H : Hp) (d : Addr) (f : List Ent) : Prop := ∃ kvs, H d = some (.dT kvs) ∧ EntsAt K H kvs f
end
/-- a list of states, tracked -/
def StatesAt (H : Hp) : List V → List Sta → Prop
  | [], [] => True
  | v :: vs, s :: ss => (∃ o, v = .ref o ∧ H o = some (.tup (stateV s))) ∧ StatesAt H vs ss
  | _, _ => False
section
variable {H H' : Hp}
theorem StatesAt.keep (ht : ∀ b ys, H b = some (.tup ys) → H' b = some (.tup ys)) : ∀ {vs : List V} {ss : List Sta}, StatesAt H vs ss → StatesAt H' vs ss
  | [], [], _ => trivial
  | _ :: _, _ :: _, h => ⟨let ⟨o, e, z⟩ := h.1; ⟨o, e, ht _ _ z⟩, StatesAt.keep ht h.2⟩
  | [], _ :: _, h => h.elim
  | _ :: _, [], h => h.elim
theorem StatesAt.len : ∀ {vs : List V} {ss : List Sta}, StatesAt H vs ss → vs.length = ss.length
  | [], [], _ => rfl
  | _ :: _, _ :: _, h => congrArg Nat.succ (StatesAt.len h.2)
  | [], _ :: _, h => h.elim
  | _ :: _, [], h => h.elim
theorem StatesAt.snoc : ∀ {vs : List V} {ss : List Sta} {o : Addr} {s : Sta}, StatesAt H vs ss → H o = some (.tup (stateV s)) → StatesAt H (vs ++ [.ref o]) (ss ++ [s])
  | [], [], o, _, _, h => ⟨⟨o, rfl, h⟩, trivial⟩
  | _ :: _, _ :: _, _, _, h, h' => ⟨h.1, StatesAt.snoc h.2 h'⟩
  | [], _ :: _, _, _, h, _ => h.elim
  | _ :: _, [], _, _, h, _ => h.elim
theorem StatesAt.at : ∀ {vs : List V} {ss : List Sta} {i : Nat} {v : V}, StatesAt H vs ss → vs[i]? = some v → ∃ s, ss[i]? = some s ∧ ∃ o, v = .ref o ∧ H o = some (.tup (stateV s))
  | [], [], _, _, _, e => by simp at e
  | _ :: _, x :: _, 0, _, h, e => by
    simp at e
    subst e
    exact ⟨x, rfl, h.1⟩
  | _ :: _, _ :: _, i + 1, v, h, e => by
    obtain ⟨x, e1, e2⟩ := StatesAt.at (i := i) (v := v) h.2 (by simpa using e)
    exact ⟨x, by simpa using e1, e2⟩
  | [], _ :: _, _, _, h, _ => h.elim
  | _ :: _, [], _, _, h, _ => h.elim
theorem small10k {n : Nat} (h : n ≤ 10000) : n < sizeLine := by
  have : sizeLine = 16777216 := sizeLine_eq
  omega
theorem StatesAt.dpa {K : PySem.W.Frag} : ∀ {vs : List V} {ss : List Sta}, StatesAt H vs ss → DpAll K H vs (ss.map stateD)
  | [], [], _ => .nil
  | _ :: _, _ :: _, h => let ⟨_, e, z⟩ := h.1; .cons (by rw [e]; exact dp_state_of (.of z)) (StatesAt.dpa h.2)
  | [], _ :: _, h => h.elim
  | _ :: _, [], h => h.elim
end
theorem sideS_ok (b : Bool) : PyData.strOk (sideS b) = true := by cases b <;> decide +kernel
theorem shp_state (s : Sta) : Shp 1 (stateD s) := shp_tup (shpA_cons (shp_int _) (shpA_cons (shp_str (sideS_ok _)) (shpA_cons (shp_int _) shpA_nil)))
theorem shp_states (ss : List Sta) : Shp 2 (.list (ss.map stateD)) := shp_list (shpA_all fun d hd => by
  obtain ⟨s, _, rfl⟩ := List.mem_map.mp hd
  exact shp_state s)
theorem sc_fewest_for : FnScope ["part", "desk", "repeats", "rows", "pages", "more", "row", "state", "many", "other"] ["part", "desk", "repeats"] (defScope s_fewest_for) := ⟨rfl, rfl, rfl, by decide +kernel, rfl, by decide +kernel, by decide +kernel⟩
section
variable {K : PySem.W.Frag} {mg : Str → Option Value}
theorem b_fewest_for (T : Txt K mg) : Binds K (fdOf K ("fewest_for", none)) ["part", "desk", "repeats"] [] := T.fewest_for.bindsN fun _ _ _ _ _ _ us hl => match us, hl with | [_, _, _], _ => rfl
end
theorem shp_pairs (l : List (List Nat × Sta)) : Shp 3 (.list (l.map pairD)) := shp_list (shpA_all fun d hd => by
  obtain ⟨x, _, rfl⟩ := List.mem_map.mp hd
  exact shp_tup (shpA_cons ((shp_nums _).mono (by decide)) (shpA_cons ((shp_state _).mono (by decide)) shpA_nil)))
theorem seq_cont0 {t u : TS} {D : Ends} {σ : L2.St} {H : Hp} (C : L2.St → Hp → Prop) (h1 : (∀ σ' H', C σ' H' → u D σ' H') → t { D with nx := u D } σ H) (h2 : ∀ σ' H', C σ' H' → u D σ' H') : tSeq t u D σ H := h1 h2
def natO : Option Nat → V
  | none => .non
  | some n => .int (n : Int)
def sp_fewest_for (K : PySem.W.Frag) : Sp := fun vs H Q _ => ∃ (p q : Addr) (bs : List Bar) (past : List (List Bar)) (x r : V) (k : Desk) (rs : List (Nat × Nat)), vs = [.ref p, x, r] ∧ PartX K H p q bs past ∧ Dp K H x (deskD k) ∧ DeskOk k ∧ Dp K H r (.tuple (repsD rs)) ∧ RepOk bs.length 0 rs ∧ rs.length ≤ 6 ∧ bs.length ≤ 7 ∧
  ∀ n H', Same H H' → LeastP bs k rs n → Q (natO n) H'
theorem ok_fewest_for {P : Program} {w : World} {K : PySem.W.Frag} {mg : Str → Option Value} {base : Heap} (T : Txt K mg) : OkF P w K mg base CX0 6 ("fewest_for", none) ["part", "desk", "repeats"] (sp_fewest_for K) := by
  refine okN T.fewest_for sc_fewest_for (fun vs H Q E h => ?_) (fun cdv A outer s H vs Q E hr h => ?_)
  · obtain ⟨p, q, bs, past, x, r, k, rs, rfl, _⟩ := h
    rfl
  · obtain ⟨p, q, bs, past, x, r, k, rs, rfl, hp, hx, ok, hr', hro, hrl, hbl, z⟩ := h
    obtain ⟨dx, rr, ws0, h1, _⟩ := id hp
    have hsz : sizeLine = 16777216 := sizeLine_eq
    have hke := ok.e1
    have hke0 := ok.e0
    have hm10 : mea bs k (first k) ≤ 10 := by
      show bs.length - 0 + (k.empty.toNat - 0) ≤ 10
      omega
    have h310 : 3 ^ mea bs k (first k) ≤ 3 ^ 10 := Nat.pow_le_pow_right (by decide) hm10
    have hlv : ∀ p', (levelR bs k p').length ≤ 59049 := fun p' => by
      have h2 := wgt_len bs k (levelR bs k p')
      have h3 := wgt_level bs k p'
      have h4 : (3 : Nat) ^ 10 = 59049 := by decide
      omega
    refine ⟨_, (pss_cons (ps_expr (pe_call (ok_need_desk T) (hr.mono (by decide)) (by rfl) T.g_need_desk T.need_desk.kp (b_need_desk T) .nil pass0 (pa_cons (pv 1) pa_nil)))
      (pss_cons (ps_expr (pe_call (ok_need_repeats T) (hr.mono (by decide)) (by rfl) T.g_need_repeats T.need_repeats.kp (b_need_repeats T) .nil pass0 (pa_cons (pv 0) (pa_cons (pv 2) pa_nil))))
      (pss_cons (ps_set (i := 3) sc_fewest_for.nd rfl (by first | exact Or.inl rfl | exact Or.inr rfl) (pe_lst (pa_cons (pe_tup (pa_cons (pe_tup pa_nil) (pa_cons (pe_call (ok_begin_of T) (hr.mono (by decide)) (by rfl) T.g_begin_of T.begin_of.kp (b_begin_of T) .nil pass0 (pa_cons (pv 1) pa_nil)) pa_nil))) pa_nil)))
      (pss_cons (ps_set (i := 4) sc_fewest_for.nd rfl (by first | exact Or.inl rfl | exact Or.inr rfl) pe_int)
      (pss_cons (ps_while PassesOwn.never (pt_cmpR (op_neD hr.units) (pv 3) (pe_lst pa_nil) (nomark _))
      (pss_cons (ps_set (i := 5) sc_fewest_for.nd rfl (by first | exact Or.inl rfl | exact Or.inr rfl) (pe_lst pa_nil))
      (pss_cons (ps_for PassesOwn.never rfl (pi_list (pv 3)) (pg_tup rfl (pgs_cons (pg_name (i := 6) sc_fewest_for.nd rfl (by first | exact Or.inl rfl | exact Or.inr rfl)) (pgs_cons (pg_name (i := 7) sc_fewest_for.nd rfl (by first | exact Or.inl rfl | exact Or.inr rfl)) pgs_nil)))
      (pss_cons (ps_if (PW.pt (pw_and (pt_cmpR op_eq (pe_ix ix_tup (pv 7) pe_int (fun _ _ => rfl)) (pe_callB (call_lenP T (ok_Part_len T) (hr.mono (by decide))) (by rfl) T.b_len PySem.boot_len (pa_cons (pv 0) pa_nil)) (nomark _)) (pw_and1 (pt_val (pe_call (ok_has_time T) (hr.mono (by decide)) (by rfl) T.g_has_time T.has_time.kp (b_has_time T) .nil pass0 (pa_cons (pv 0) (pa_cons (pv 1) (pa_cons (pv 6) (pa_cons (pv 2) pa_nil))))))))) (pss_one (ps_ret (pv 4))) pss_nil)
      (pss_one (ps_set (i := 5) sc_fewest_for.nd rfl (by first | exact Or.inl rfl | exact Or.inr rfl) (pe_op op_cat (pv 5) (pe_lc (own := [("many", 8), ("other", 9)]) (g := (gTup K 2 (gCons (gName 8) (gCons (gName 9) gNil)))) (tt := tYes) (by rfl) sc_fewest_for.nd (pi_list (pe_call (ok_steps T) (hr.mono (by decide)) (by rfl) T.g_steps T.steps.kp (b_steps T) .nil pass0 (pa_cons (pv 0) (pa_cons (pv 1) (pa_cons (pv 7) pa_nil))))) (blkOk_by (own := [("many", 8), ("other", 9)]) (N := ["part", "desk", "repeats", "rows", "pages", "more", "row", "state", "many", "other"]) (sc := defScope s_fewest_for) (by decide +kernel)) (fun _ _ _ _ _ => (pg_tup rfl (pgs_cons (pg_name (i := 8) sc_fewest_for.nd rfl (by first | exact Or.inl rfl | exact Or.inr rfl)) (pgs_cons (pg_name (i := 9) sc_fewest_for.nd rfl (by first | exact Or.inl rfl | exact Or.inr rfl)) pgs_nil)))) (fun _ _ _ _ _ => pts_nil) (fun _ _ _ _ _ => (pe_tup (pa_cons (pe_op (r := rCatU K) op_catU (pv 6) (pe_tup (pa_cons (pv 8) pa_nil))) (pa_cons (pv 9) pa_nil))))))))))
      (pss_cons (ps_set (i := 3) sc_fewest_for.nd rfl (by first | exact Or.inl rfl | exact Or.inr rfl) (pv 5))
      (pss_one (ps_set (i := 4) sc_fewest_for.nd rfl (by first | exact Or.inl rfl | exact Or.inr rfl) (pe_op op_add (pv 4) pe_int)))))))
      (pss_one (ps_ret pe_non))))))), ?_⟩
    refine ⟨_, rfl, x, k, rfl, hx, ok, ?_⟩
    refine ⟨_, rfl, _, rfl, p, q, bs, past, r, rs, rfl, hp, hr', hro, hrl, by omega, ?_⟩
    -- rows = [((), begin_of(desk))]
    refine ⟨by show (0 : Nat) ≤ sizeLine; decide, fun c0 nc0 => ?_⟩
    have sc0 := same_upd (o := .tup []) nc0
    refine ⟨_, rfl, x, k, rfl, dp_same sc0 hx, fun c nc => ?_⟩
    have sc := same_upd (o := .tup (stateV (first k))) nc
    refine ⟨by show (2 : Nat) ≤ sizeLine; decide, fun c2 nc2 => ⟨by show (1 : Nat) ≤ sizeLine; decide, fun R0 nR0 => ?_⟩⟩
    have sc2 := same_upd (o := .tup [.ref c0, .ref c]) nc2
    have sR0 := same_upd (o := .lst [.ref c2]) nR0
    have s1 := ((sc0.trans sc).trans sc2).trans sR0
    have hpair : PairsAt K (upd (upd (upd (upd H c0 (.tup [])) c (.tup (stateV (first k)))) c2 (.tup [.ref c0, .ref c])) R0 (.lst [.ref c2])) [.ref c2] (levelR bs k 0) := ⟨⟨c2, .ref c0, c, rfl, sR0 _ _ upd_same, dp_nums_of (ns := []) (.of ((sc.trans (sc2.trans sR0)) _ _ upd_same)), (sc2.trans sR0) _ _ upd_same⟩, trivial⟩
    have hR0 : (upd (upd (upd (upd H c0 (.tup [])) c (.tup (stateV (first k)))) c2 (.tup [.ref c0, .ref c])) R0 (.lst [.ref c2])) R0 = some (.lst [.ref c2]) := upd_same
    generalize (upd (upd (upd (upd H c0 (.tup [])) c (.tup (stateV (first k)))) c2 (.tup [.ref c0, .ref c])) R0 (.lst [.ref c2])) = H1 at s1 hpair hR0 ⊢
    refine ⟨fun m σ H' => Same H H' ∧ ∃ (pg : Nat) (Rw : Addr) (rw_ : List V) (y5 y6 y7 y8 y9 : Option V), σ = [some (.ref p), some x, some r, some (.ref Rw), some (.int (pg : Int)), y5, y6, y7, y8, y9] ∧ H' Rw = some (.lst rw_) ∧ PairsAt K H' rw_ (levelR bs k pg) ∧ (∀ pg', pg' < pg → ∀ y ∈ levelR bs k pg', y.2.bar = bs.length → playsL bs k y.1 rs = false) ∧ pg ≤ 11 ∧ m = 12 - pg,
      ⟨_, s1, 0, R0, [.ref c2], _, _, _, _, _, rfl, hR0, hpair, fun _ h => absurd h (Nat.not_lt_zero _), by decide, rfl⟩, ?_⟩
    rintro m σ H2 ⟨s2, pg, Rw, rw_, y5, y6, y7, y8, y9, rfl, hRw, hprs, hno, hpg, hm⟩
    refine ⟨_, rfl, by show (0 : Nat) ≤ sizeLine; decide, fun ce nce => ?_⟩
    have sce := same_upd (o := .lst []) nce
    refine ⟨_, .list [], .lst (.of (sce _ _ hRw)) (dpa_same sce hprs.dpa), .lst (.of upd_same) .nil, (shp_pairs _).ok (by decide), (shp_nil (n := 0)).ok (by decide), _, rfl, ?_⟩
    have s3 := s2.trans sce
    have hRw3 := sce _ _ hRw
    have hprs3 := hprs.same sce
    generalize (upd H2 ce (.lst [])) = H3 at s3 hRw3 hprs3 ⊢
    by_cases hlev : levelR bs k pg = []
    · rw [show PyData.eqv (.list ((levelR bs k pg).map pairD)) (.list []) = true by rw [hlev]; rfl]
      refine iteF (z none H3 s3 ?_)
      intro row s hpt hb
      have hin := level_all row.length hpt rfl
      rcases Nat.lt_or_ge row.length pg with h | h
      · exact hno _ h _ hin hb
      · exfalso
        have hem : ∀ j, levelR bs k (pg + j) = [] := fun j => by
          induction j with
          | zero => exact hlev
          | succ j ih =>
            show (levelR bs k (pg + j)).flatMap _ = []
            rw [ih]
            rfl
        have := hem (row.length - pg)
        rw [show pg + (row.length - pg) = row.length by omega] at this
        rw [this] at hin
        cases hin
    · have hpg10 : pg ≤ 10 := by
        obtain ⟨z0, hz0⟩ := List.exists_mem_of_ne_nil _ hlev
        have := (level_sound hz0).2.2
        omega
      rw [show PyData.eqv (.list ((levelR bs k pg).map pairD)) (.list []) = false by
        cases hl : levelR bs k pg with
        | nil => exact absurd hl hlev
        | cons a r => rfl]
      refine iteT ⟨fun σ' H' => ∃ m', m' < m ∧ Same H H' ∧ ∃ (pg : Nat) (Rw : Addr) (rw_ : List V) (y5 y6 y7 y8 y9 : Option V), σ' = [some (.ref p), some x, some r, some (.ref Rw), some (.int (pg : Int)), y5, y6, y7, y8, y9] ∧ H' Rw = some (.lst rw_) ∧ PairsAt K H' rw_ (levelR bs k pg) ∧ (∀ pg', pg' < pg → ∀ y ∈ levelR bs k pg', y.2.bar = bs.length → playsL bs k y.1 rs = false) ∧ pg ≤ 11 ∧ m' = 12 - pg, fun _ _ h => h, ?_⟩
      refine ⟨by show (0 : Nat) ≤ sizeLine; decide, fun M0 nM0 => ?_⟩
      have sM0 := same_upd (o := .lst []) nM0
      have hRw4 := sM0 _ _ hRw3
      have hprs4 := hprs3.same sM0
      have hM4 : (upd H3 M0 (.lst [])) M0 = some (.lst []) := upd_same
      have s4 := s3.trans sM0
      generalize (upd H3 M0 (.lst [])) = H4 at hRw4 hprs4 hM4 s4 ⊢
      have hll := hprs4.len
      refine ⟨_, rfl, Rw, rfl, ⟨_, .of hRw4⟩, for_list (xs := rw_) (fun i σ H' => Same H4 H' ∧ (∀ y ∈ (levelR bs k pg).take i, y.2.bar = bs.length → playsL bs k y.1 rs = false) ∧ ∃ (M : Addr) (mw : List V) (y6 y7 y8 y9 : Option V), σ = [some (.ref p), some x, some r, some (.ref Rw), some (.int (pg : Int)), some (.ref M), y6, y7, y8, y9] ∧ H' M = some (.lst mw) ∧ PairsAt K H' mw (((levelR bs k pg).take i).flatMap (nextR bs k))) ⟨Same.refl _, fun _ h => by simp at h, M0, [], _, _, _, _, rfl, hM4, trivial⟩ ?_ ?_ ?_⟩
      · rintro i σ H' _ ⟨s', _⟩
        exact .of (s' _ _ hRw4)
      · rintro i v σ H5 hv ⟨s5, hnp, M, mw, y6, y7, y8, y9, rfl, hM5, hmw5⟩
        obtain ⟨⟨row, st⟩, c, rv, b, hxi, rfl, hc, hrv, hb⟩ := hprs4.at hv
        dsimp only at hrv hb
        have hin := List.mem_of_getElem? hxi
        obtain ⟨hpt, hrl', hme⟩ := level_sound hin
        dsimp only at hpt hrl' hme
        have okst := (first_ok (bs := bs) ok).path hpt
        have s05 := s4.trans s5
        refine ⟨c, _, rfl, .of (s5 _ _ hc), rfl, _, _, rfl, _, _, rfl, rfl, ?_⟩
        have hb5 := s5 _ _ hb
        have hrv5 := dp_same s5 hrv
        have hsum : row.sum = st.bar := by
          have := path_bar hpt
          have e0 : (first k).bar = 0 := rfl
          omega
        have hp5 := hp.same s05
        have hx5 := dp_same s05 hx
        have hr5 := dp_same s05 hr'
        obtain ⟨rt, rfl, hrt⟩ := dp_nums hrv5
        with_reducible refine seq_cont0 (fun σ' G => σ' = [some (.ref p), some x, some r, some (.ref Rw), some (.int (pg : Int)), some (.ref M), some (.ref rt), some (.ref b), y8, y9] ∧ Same H5 G ∧ (st.bar = bs.length → playsL bs k row rs = false)) (fun cont => ?_) ?_
        · refine ⟨_, rfl, b, _, _, _, rfl, rfl, .of hb5, rfl, _, rfl, p, dx, _, rfl, s05 _ _ h1, p, q, bs, past, rfl, hp5, bs.length, rfl, by omega, rfl, _, rfl, ite2Q (fun eq => ?_) (fun ne => iteF (cont _ _ ⟨rfl, Same.refl _, fun e => absurd e (by omega)⟩))⟩
          refine ⟨_, rfl, _, rfl, _, rfl, _, rfl, p, q, bs, past, x, _, r, k, row, rs, rfl, hp5, hx5, ok, hrv5, by omega, by omega, hr5, hro, by omega, fun H6 s6 => ?_⟩
          cases hpl : playsL bs k row rs with
          | true =>
            refine ⟨_, rfl, iteT ⟨_, rfl, ?_⟩⟩
            have zz := z (some pg) H6 (s05.trans s6) ⟨⟨row, st, hpt, by omega, hpl, hrl'⟩, fun row' s' hp' hb' hpl' => ?_⟩
            · exact zz
            · rcases Nat.lt_or_ge row'.length pg with h | h
              · have := hno _ h _ (level_all row'.length hp' rfl) hb'
                dsimp only at this
                rw [hpl'] at this
                cases this
              · exact h
          | false => exact ⟨_, rfl, iteF (cont _ _ ⟨rfl, s6, fun _ => hpl⟩)⟩
        rintro σ' G ⟨rfl, sG, hnpl⟩
        have s0G := s05.trans sG
        have hbG := sG _ _ hb5
        refine ⟨_, rfl, _, rfl, _, rfl, _, rfl, p, q, bs, past, x, _, k, st, rfl, hp.same s0G, dp_same s0G hx, dp_state_of (.of hbG), okst.bar, by omega, fun SL G2 s2' nSL hSL => ?_⟩
        obtain ⟨sv, hsl, hstp⟩ := hSL
        have s0G2 := s0G.trans s2'
        have hjl := steps_len bs k st
        refine ⟨SL, rfl, ⟨_, .of hsl⟩, fun D nD => lc_list (K := K) (a := SL) (xs := sv) (fun j H' => Same G2 H' ∧ ∃ ws, H' D = some (.lst ws) ∧ PairsAt K H' ws (((stepsL bs k st).take j).map fun y => (row ++ [y.1], y.2))) ⟨same_upd nD, [], upd_same, trivial⟩ ?_ ?_ ?_⟩
        · rintro j H' _ ⟨s', _⟩
          exact .of (s' _ _ hsl)
        · rintro j v H' hvj ⟨s', ws, e, hws⟩
          obtain ⟨xx, hxx, t1, o1, rfl, ht1, ho1⟩ := hstp.at hvj
          obtain ⟨mm, oth⟩ := xx
          have hjj := (List.getElem?_eq_some_iff.mp hxx).1
          refine ⟨t1, _, rfl, .of (s' _ _ ht1), rfl, _, _, rfl, _, _, rfl, rfl, rfl, _, rfl, _, rfl, by show (1 : Nat) ≤ sizeLine; decide, fun c1 nc1 => ?_⟩
          have sc1 := same_upd (o := .tup [.int (mm : Int)]) nc1
          have hrt1 := same_sqt ((sG.trans s2').trans (s'.trans sc1)) hrt
          refine ⟨rt, c1, _, _, rfl, rfl, hrt1, .of upd_same, ?_, fun c3 G3 s3' q3 => ⟨_, rfl, by show (2 : Nat) ≤ sizeLine; decide, fun c4 nc4 => ?_⟩⟩
          · rw [List.length_map]
            show row.length + 1 ≤ sizeLine
            omega
          have sc4 := same_upd (o := .tup [.ref c3, .ref o1]) nc4
          have s'4 := (sc1.trans s3').trans sc4
          have e4 := s'4 _ _ e
          have hws4 := hws.same s'4
          have hc34 : Dp K (upd G3 c4 (.tup [.ref c3, .ref o1])) (.ref c3) (.tuple (numsD (row ++ [mm]))) := dp_nums_of (by
            rw [numsV_snoc]
            exact same_sqt sc4 q3)
          have ho4 := s'4 _ _ (s' _ _ ho1)
          have hc4 : (upd G3 c4 (.tup [.ref c3, .ref o1])) c4 = some (.tup [.ref c3, .ref o1]) := upd_same
          have sG4 := s'.trans s'4
          generalize (upd G3 c4 (.tup [.ref c3, .ref o1])) = G4 at e4 hws4 hc34 ho4 hc4 sG4 ⊢
          have fu : Fr [D] G4 (upd G4 D (.lst (ws ++ [.ref c4]))) := Fr.upd e4 trivial (by simp)
          refine ⟨ws, e4, ?_, same_updR sG4 nD, ws ++ [.ref c4], upd_same, ?_⟩
          · rw [hws.len, List.length_map, List.length_take]
            omega
          · rw [take_at hxx, List.map_append]
            exact (hws4.fr fu).app ⟨⟨c4, .ref c3, o1, rfl, fu.tu _ _ hc4, fu.dp hc34 (isTs_nums _), fu.tu _ _ ho4⟩, trivial⟩
        · rintro G5 ⟨s5', ws, e5, hws⟩
          rw [hstp.len, List.take_length] at hws
          have s55 := (sG.trans s2').trans s5'
          have hM6 := s55 _ _ hM5
          have hmw6 := hmw5.same s55
          have hxt : (levelR bs k pg).take (i + 1) = (levelR bs k pg).take i ++ [(row, st)] := take_at hxi
          refine ⟨M, D, _, _, rfl, rfl, hM6, e5, ?_, fun N nN => ?_⟩
          · rw [hmw6.len, hws.len, List.length_map]
            have h7 : (((levelR bs k pg).take i).flatMap (nextR bs k)).length ≤ (levelR bs k (pg + 1)).length := flat_take_len (nextR bs k) (levelR bs k pg) i
            have h8 := hlv (pg + 1)
            omega
          have sN := same_upd (o := .lst (mw ++ ws)) nN
          refine ⟨(s5.trans s55).trans sN, fun y hy hyb => ?_, N, mw ++ ws, _, _, _, _, rfl, upd_same, ?_⟩
          · rw [hxt] at hy
            rcases List.mem_append.mp hy with hy | hy
            · exact hnp y hy hyb
            · rw [List.mem_singleton.mp hy] at hyb ⊢
              exact hnpl hyb
          · rw [hxt, List.flatMap_append]
            have e9 : [(row, st)].flatMap (nextR bs k) = (stepsL bs k st).map fun y => (row ++ [y.1], y.2) := by
              rw [List.flatMap_cons, List.flatMap_nil, List.append_nil]
              rfl
            rw [e9]
            exact (hmw6.same sN).app (hws.same sN)
      · rintro σ H5 ⟨s5, hnp, M, mw, y6, y7, y8, y9, rfl, hM5, hmw5⟩
        rw [hll, List.take_length] at hnp hmw5
        refine ⟨_, rfl, _, rfl, _, _, rfl, rfl, 12 - (pg + 1), by omega, s4.trans s5, pg + 1, M, mw, _, _, _, _, _, rfl, hM5, hmw5, fun pg' hlt y hy hyb => ?_, by omega, rfl⟩
        rcases Nat.lt_or_ge pg' pg with h | h
        · exact hno pg' h y hy hyb
        · have e : pg' = pg := by omega
          subst e
          exact hnp y hy hyb
theorem sc_reached : FnScope ["part", "desk", "begin", "found", "todo", "state", "pages", "row", "many", "other"] ["part", "desk", "begin"] (defScope s_reached) := ⟨rfl, rfl, rfl, by decide +kernel, rfl, by decide +kernel, by decide +kernel⟩
section
variable {K : PySem.W.Frag} {mg : Str → Option Value}
theorem b_reached (T : Txt K mg) : Binds K (fdOf K ("reached", none)) ["part", "desk", "begin"] [] := T.reached.bindsN fun _ _ _ _ _ _ us hl => match us, hl with | [_, _, _], _ => rfl
end
def sp_reached (K : PySem.W.Frag) : Sp := fun vs H Q _ => ∃ (p q : Addr) (bs : List Bar) (past : List (List Bar)) (x : V) (k : Desk) (b : Sta) (ba : Addr), vs = [.ref p, x, .ref ba] ∧ PartX K H p q bs past ∧ Dp K H x (deskD k) ∧ H ba = some (.tup (stateV b)) ∧ StaOk bs k b ∧ k.empty ≤ 3 ∧ bs.length ≤ 100 ∧
  ∀ d H' g, Same H H' → H d = none → DictAt K H' d g → Found bs k b g → Bfs bs k [(b, (0, []))] [b] g → Q (.ref d) H'
theorem path_len {bs : List Bar} {k : Desk} {s t : Sta} {row : List Nat} (p : Path bs k s row t) : row.length + s.bar + s.used ≤ t.bar + t.used := by
  induction p with
  | nil s =>
    show 0 + _ + _ ≤ _
    omega
  | cons e _ ih =>
    obtain ⟨h1, _, _, _, _, h6⟩ := step_of e
    rw [List.length_cons]
    rcases h6 with ⟨a, b, _⟩ | ⟨a, b, _⟩ <;> omega
theorem seq0 (n : Nat) : seqIndex? 0 (n + 1) = some 0 := by
  simp [seqIndex?]
theorem bfsAdd_in {p : Nat} {row : List Nat} {f : List Ent} {td : List Sta} {m : Nat} {s : Sta} {r : List (Nat × Sta)} (h : s ∈ keysE f) : bfsAdd p row f td ((m, s) :: r) = bfsAdd p row f td r := by
  show (if s ∈ keysE f then _ else _) = _
  rw [if_pos h]
theorem bfsAdd_out {p : Nat} {row : List Nat} {f : List Ent} {td : List Sta} {m : Nat} {s : Sta} {r : List (Nat × Sta)} (h : s ∉ keysE f) : bfsAdd p row f td ((m, s) :: r) = bfsAdd p row (f ++ [(s, (p + 1, row ++ [m]))]) (td ++ [s]) r := by
  show (if s ∈ keysE f then _ else _) = _
  rw [if_neg h]
theorem ok_reached {P : Program} {w : World} {K : PySem.W.Frag} {mg : Str → Option Value} {base : Heap} (T : Txt K mg) : OkF P w K mg base CX0 6 ("reached", none) ["part", "desk", "begin"] (sp_reached K) := by
  refine okN T.reached sc_reached (fun vs H Q E h => ?_) (fun cdv A outer s H vs Q E hr h => ?_)
  · obtain ⟨p, q, bs, past, x, k, b, ba, rfl, _⟩ := h
    rfl
  · obtain ⟨p, q, bs, past, x, k, b, ba, rfl, hp, hx, hb, okb, hke, hbl, z⟩ := h
    refine ⟨_, (pss_cons (ps_set (i := 3) sc_reached.nd rfl (by first | exact Or.inl rfl | exact Or.inr rfl) (pe_disp1T (hu_of hr) (pv 2) (pe_tup (pa_cons pe_int (pa_cons (pe_tup pa_nil) pa_nil)))))
      (pss_cons (ps_set (i := 4) sc_reached.nd rfl (by first | exact Or.inl rfl | exact Or.inr rfl) (pe_lst (pa_cons (pv 2) pa_nil)))
      (pss_cons (ps_while PassesOwn.never (pt_cmpR (op_neD hr.units) (pv 4) (pe_lst pa_nil) (nomark _))
      (pss_cons (ps_set (i := 5) sc_reached.nd rfl (by first | exact Or.inl rfl | exact Or.inr rfl) (pe_bm PySem.F.plainAttrs_list PySem.F.slot_list_pop PySem.F.type_list_pop mt_popAt (pv 4) (pa_cons pe_int pa_nil)))
      (pss_cons (ps_asg (pe_dget (hu_of hr) (pv 3) (pv 5) (fun _ _ => rfl)) (pg_tup rfl (pgs_cons (pg_name (i := 6) sc_reached.nd rfl (by first | exact Or.inl rfl | exact Or.inr rfl)) (pgs_cons (pg_name (i := 7) sc_reached.nd rfl (by first | exact Or.inl rfl | exact Or.inr rfl)) pgs_nil))))
      (pss_one (ps_for PassesOwn.never rfl (pi_list (pe_call (ok_steps T) (hr.mono (by decide)) (by rfl) T.g_steps T.steps.kp (b_steps T) .nil pass0 (pa_cons (pv 0) (pa_cons (pv 1) (pa_cons (pv 5) pa_nil))))) (pg_tup rfl (pgs_cons (pg_name (i := 8) sc_reached.nd rfl (by first | exact Or.inl rfl | exact Or.inr rfl)) (pgs_cons (pg_name (i := 9) sc_reached.nd rfl (by first | exact Or.inl rfl | exact Or.inr rfl)) pgs_nil)))
      (pss_one (ps_if (pt_cmp (pc_dnotin (hu_of hr) (pv 9) (pv 3))) (pss_cons (ps_asg (pe_tup (pa_cons (pe_op op_add (pv 6) pe_int) (pa_cons (pe_op op_catU (pv 7) (pe_tup (pa_cons (pv 8) pa_nil))) pa_nil))) (pg_sub (pv 3) (pv 9) (set_dict (hu_of hr))))
      (pss_one (ps_expr (pe_bm PySem.F.plainAttrs_list PySem.F.slot_list_append PySem.F.type_list_append mt_append (pv 4) (pa_cons (pv 9) pa_nil))))) pss_nil)))))))
      (pss_one (ps_ret (pv 3)))))), ?_⟩
    -- found = {begin: (0, ())}
    refine fun d nd => ⟨_, rfl, by show (0 : Nat) ≤ sizeLine; decide, fun e0 ne0 => ⟨by show (2 : Nat) ≤ sizeLine; decide, fun t0 nt0 => ?_⟩⟩
    have i1 := same_upd (o := .dT []) nd
    have i2 := same_upd (o := .tup []) ne0
    have i3 := same_upd (o := .tup [.int 0, .ref e0]) nt0
    have i13 := (i1.trans i2).trans i3
    refine ⟨i3 _ _ (i2 _ _ upd_same), keyS b, ba, _, rfl, i13 _ _ hb, ?_⟩
    have f4 : Fr [d] _ (upd (upd (upd (upd H d (.dT [])) e0 (.tup [])) t0 (.tup [.int 0, .ref e0])) d (.dT [(keyS b, .ref t0)])) := Fr.upd (i3 _ _ (i2 _ _ upd_same)) trivial (by simp)
    have s4 : Same H (upd (upd (upd (upd H d (.dT [])) e0 (.tup [])) t0 (.tup [.int 0, .ref e0])) d (.dT [(keyS b, .ref t0)])) := same_updR i13 nd
    have hd4 : (upd (upd (upd (upd H d (.dT [])) e0 (.tup [])) t0 (.tup [.int 0, .ref e0])) d (.dT [(keyS b, .ref t0)])) d = some (.dT [(keyS b, .ref t0)]) := upd_same
    have he4 : EntsAt K (upd (upd (upd (upd H d (.dT [])) e0 (.tup [])) t0 (.tup [.int 0, .ref e0])) d (.dT [(keyS b, .ref t0)])) [(keyS b, .ref t0)] [(b, (0, []))] :=
      ⟨rfl, f4.dp (.tup (.of upd_same) (.cons (.int _) (.cons (dp_same i3 (.tup (.of upd_same) .nil)) .nil))) rfl, trivial⟩
    generalize (upd (upd (upd (upd H d (.dT [])) e0 (.tup [])) t0 (.tup [.int 0, .ref e0])) d (.dT [(keyS b, .ref t0)])) = H4 at f4 s4 hd4 he4 ⊢
    -- todo = [begin]
    refine ⟨_, rfl, by show (1 : Nat) ≤ sizeLine; decide, fun Tl nT => ?_⟩
    have i5 := same_upd (o := .lst [.ref ba]) nT
    have nTd : Tl ≠ d := fun e => by
      rw [e, hd4] at nT
      cases nT
    have nTH : H Tl = none := s4.free nT
    refine ⟨fun m σ H' => Same H H' ∧ ∃ (f : List Ent) (dn td : List Sta) (kvs : List (List Key × V)) (tv : List V) (y5 y6 y7 y8 y9 : Option V), σ = [some (.ref p), some x, some (.ref ba), some (.ref d), some (.ref Tl), y5, y6, y7, y8, y9] ∧ H' d = some (.dT kvs) ∧ EntsAt K H' kvs f ∧ H' Tl = some (.lst tv) ∧ StatesAt H' tv td ∧ Walk1 bs k b f dn td ∧ (∀ g, Bfs bs k f td g → Bfs bs k [(b, (0, []))] [b] g) ∧ m + dn.length = (bs.length + 1) * 8,
      ⟨(bs.length + 1) * 8, s4.trans i5, [(b, (0, []))], [], [b], _, _, none, none, none, none, none, rfl, i5 _ _ hd4, he4.keep (fun v d h _ => dp_same i5 h), upd_same, ⟨⟨ba, rfl, i5 _ _ (s4 _ _ hb)⟩, trivial⟩, Walk1.start bs k b, fun _ h => h, rfl⟩, ?_⟩
    rintro m σ H1 ⟨s1, f, dn, td, kvs, tv, y5, y6, y7, y8, y9, rfl, hd, hes, hT, hts, wk, hbf, hm⟩
    have hfl := wk.ok okb hke
    have hkl := congrArg List.length wk.keys
    rw [List.length_map, List.length_append] at hkl
    refine ⟨_, rfl, by show (0 : Nat) ≤ sizeLine; decide, fun c nc => ?_⟩
    have sc := same_upd (o := .lst []) nc
    refine ⟨_, .list [], .lst (.of (sc _ _ hT)) (dpa_same sc hts.dpa), .lst (.of upd_same) .nil, (shp_states td).ok (by decide), (shp_nil (n := 0)).ok (by decide), _, rfl, ?_⟩
    cases td with
    | nil =>
      refine iteF ⟨_, rfl, z d _ f (s1.trans sc) nd ⟨kvs, sc _ _ hd, hes.keep (fun v d h _ => dp_same sc h)⟩ wk.found (hbf _ (.done f))⟩
    | cons s td =>
      obtain ⟨v0, tv', rfl⟩ : ∃ v0 tv', tv = v0 :: tv' := by
        cases tv with
        | nil => exact hts.elim
        | cons a r => exact ⟨a, r, rfl⟩
      obtain ⟨⟨sa, rfl, hsa⟩, hts'⟩ := hts
      refine iteT ⟨fun σ' H' => ∃ m', m' < m ∧ Same H H' ∧ ∃ (f : List Ent) (dn td : List Sta) (kvs : List (List Key × V)) (tv : List V) (y5 y6 y7 y8 y9 : Option V), σ' = [some (.ref p), some x, some (.ref ba), some (.ref d), some (.ref Tl), y5, y6, y7, y8, y9] ∧ H' d = some (.dT kvs) ∧ EntsAt K H' kvs f ∧ H' Tl = some (.lst tv) ∧ StatesAt H' tv td ∧ Walk1 bs k b f dn td ∧ (∀ g, Bfs bs k f td g → Bfs bs k [(b, (0, []))] [b] g) ∧ m' + dn.length = (bs.length + 1) * 8, fun _ _ h => h, ?_⟩
      have s1c := s1.trans sc
      have hTc := sc _ _ hT
      have f2 : Fr [Tl] _ (upd (upd H1 c (.lst [])) Tl (.lst tv')) := Fr.upd hTc trivial (by simp)
      have s2 : Same H (upd (upd H1 c (.lst [])) Tl (.lst tv')) := same_updR s1c nTH
      -- state = todo.pop(0)
      refine ⟨_, rfl, .inl ⟨rfl, _, .of hTc⟩, Tl, _, 0, 0, _, rfl, rfl, hTc, by decide, by decide, seq0 _, rfl, ?_⟩
      show tSeq _ _ _ _ (upd (upd H1 c (.lst [])) Tl (.lst tv'))
      have hd2 := f2.keep _ _ (by simp [nTd.symm]) (sc _ _ hd)
      have hes2 : EntsAt K (upd (upd H1 c (.lst [])) Tl (.lst tv')) kvs f := hes.keep (fun v d h t => f2.dp (dp_same sc h) t)
      have hsa2 := f2.tu _ _ (sc _ _ hsa)
      have hts2 : StatesAt (upd (upd H1 c (.lst [])) Tl (.lst tv')) tv' td := hts'.keep fun b ys e => f2.tu _ _ (sc _ _ e)
      have hT2 : (upd (upd H1 c (.lst [])) Tl (.lst tv')) Tl = some (.lst tv') := upd_same
      generalize (upd (upd H1 c (.lst [])) Tl (.lst tv')) = H2 at f2 s2 hd2 hes2 hsa2 hts2 hT2 ⊢
      -- pages, row = found[state]
      have sk : s ∈ keysE f := by
        rw [wk.keys]
        simp
      obtain ⟨x0, hx0⟩ := look_key sk
      obtain ⟨pg, row⟩ := x0
      obtain ⟨v, hv, hvd⟩ : ∃ v, valV kvs (keyS s) = some v ∧ Dp K H2 v (entD (pg, row)) := by
        rcases hes2.val s with ⟨_, h⟩ | ⟨v, x, h1, h2, h3⟩
        · rw [hx0] at h
          cases h
        · rw [hx0] at h2
          cases h2
          exact ⟨v, h1, h3⟩
      obtain ⟨vt, ra, rfl, hvt, hra⟩ : ∃ vt ra, v = .ref vt ∧ SqT K H2 vt [.int (pg : Int), .ref ra] ∧ SqT K H2 ra (numsV row) := by
        cases hvd with
        | tup s1 a1 =>
          obtain ⟨v0, v1, rfl, h0, h1⟩ := dpa2 a1
          cases h0
          obtain ⟨ra, rfl, hra⟩ := dp_nums h1
          exact ⟨_, ra, rfl, s1, hra⟩
      refine ⟨_, rfl, _, rfl, d, .ref vt, rfl, (by rw [← hv]; exact .t hd2 hsa2), vt, _, rfl, hvt, rfl, _, _, rfl, _, _, rfl, rfl, ?_⟩
      -- for many, other in steps(part, desk, state)
      have hso := (wk.path _ (look_mem hx0))
      have oks := okb.path hso.1
      refine ⟨_, rfl, _, rfl, _, rfl, p, q, bs, past, _, _, k, s, rfl, hp.same s2, dp_same s2 hx, dp_state_of (.of hsa2), oks.bar, by omega, fun SL H3 s3 nSL hSL => ?_⟩
      obtain ⟨sv, hsl, hst⟩ := hSL
      have nSd : SL ≠ d := fun e => by
        rw [e, hd2] at nSL
        cases nSL
      have nST : SL ≠ Tl := fun e => by
        rw [e, hT2] at nSL
        cases nSL
      have hstl := hst.len
      have hsln := steps_len bs k s
      have s03 := s2.trans s3
      have tdl : td.length ≤ f.length := by
        have h := hkl
        rw [List.length_cons] at h
        omega
      refine ⟨SL, rfl, ⟨_, .of hsl⟩, for_list (xs := sv) (fun i σ H' => Fr [d, Tl] H3 H' ∧ Same H H' ∧ ∃ (f' : List Ent) (td' : List Sta) (kvs' : List (List Key × V)) (tv' : List V) (y8 y9 : Option V), H' d = some (.dT kvs') ∧ EntsAt K H' kvs' f' ∧ H' Tl = some (.lst tv') ∧ StatesAt H' tv' td' ∧ bfsAdd pg row f td (stepsL bs k s) = bfsAdd pg row f' td' ((stepsL bs k s).drop i) ∧ f'.length ≤ f.length + i ∧ td'.length ≤ td.length + i ∧
        σ = [some (.ref p), some x, some (.ref ba), some (.ref d), some (.ref Tl), some (.ref sa), some (.int (pg : Int)), some (.ref ra), y8, y9]) ⟨Fr.refl _ _, s03, f, td, kvs, tv', y8, y9, s3 _ _ hd2, hes2.keep (fun v d h _ => dp_same s3 h), s3 _ _ hT2, hts2.keep fun b ys e => s3 _ _ e, rfl, Nat.le_refl _, Nat.le_refl _, rfl⟩ ?_ ?_ ?_⟩
      · rintro i σ H' _ ⟨f', _⟩
        exact .of (f'.keep _ _ (by simp [nSd, nST]) hsl)
      · rintro i v σ H' hvi ⟨fr, s', f', td', kvs', tv'', y8, y9, hd', hes', hT', hts', hadd, hfl', htl', rfl⟩
        obtain ⟨xx, hxx, t1, o1, rfl, ht1, ho1⟩ := hst.at hvi
        obtain ⟨many, oth⟩ := xx
        have hil : i < (stepsL bs k s).length := (List.getElem?_eq_some_iff.mp hxx).1
        rw [drop_at hxx] at hadd
        have ht1' := fr.tu _ _ ht1
        have ho1' := fr.tu _ _ ho1
        have hra' := fr.sqt (same_sqt s3 hra)
        refine ⟨t1, _, rfl, .of ht1', rfl, _, _, rfl, _, _, rfl, rfl, ?_⟩
        rcases hes'.val oth with ⟨hv1, hv2⟩ | ⟨v1, x1, hv1, hv2, _⟩
        · -- new
          rw [bfsAdd_out (look_none.mp hv2)] at hadd
          refine ⟨_, rfl, _, rfl, d, none, rfl, (by rw [← hv1]; exact .t hd' ho1'), _, rfl, iteT ?_⟩
          refine ⟨_, rfl, _, _, rfl, rfl, _, rfl, _, rfl, by show (1 : Nat) ≤ sizeLine; decide, fun c1 n1 => ?_⟩
          have j1 := same_upd (o := .tup [.int (many : Int)]) n1
          refine ⟨ra, c1, _, _, rfl, rfl, same_sqt j1 hra', .of upd_same, ?_, fun c2 H5 j2 h5 => ?_⟩
          · rw [List.length_map]
            have hob : s.bar ≤ bs.length := oks.bar
            have hou : (s.used : Int) ≤ k.empty := oks.used
            have h3 : row.length + b.bar + b.used ≤ s.bar + s.used := path_len hso.1
            exact Nat.le_of_lt (small1000 (by simp; omega))
          have j12 := j1.trans j2
          refine ⟨by show (2 : Nat) ≤ sizeLine; decide, fun c3 n3 => ?_⟩
          have j3 := same_upd (o := .tup [.int ((pg : Int) + 1), .ref c2]) n3
          have j13 := j12.trans j3
          have hesl := hes'.len
          refine ⟨_, rfl, _, rfl, d, _, rfl, .t (k := keyS oth) (j13 _ _ hd') (j13 _ _ ho1') (by rw [hesl]; exact small10k (by omega)), ?_⟩
          rw [putK_new _ hv1]
          have j4 : Fr [d] _ (upd (upd H5 c3 (.tup [.int ((pg : Int) + 1), .ref c2])) d (.dT (kvs' ++ [(keyS oth, .ref c3)]))) := Fr.upd (j13 _ _ hd') trivial (by simp)
          have hent : Dp K (upd (upd H5 c3 (.tup [.int ((pg : Int) + 1), .ref c2])) d (.dT (kvs' ++ [(keyS oth, .ref c3)]))) (.ref c3) (entD (pg + 1, row ++ [many])) := by
            refine j4.dp (.tup (.of upd_same) (.cons (.int _) (.cons (dp_nums_of ?_) .nil))) (isT_ent _)
            show SqT K _ c2 (List.map _ (row ++ [many]))
            rw [List.map_append]
            exact same_sqt j3 h5
          have hes4 : EntsAt K (upd (upd H5 c3 (.tup [.int ((pg : Int) + 1), .ref c2])) d (.dT (kvs' ++ [(keyS oth, .ref c3)]))) (kvs' ++ [(keyS oth, .ref c3)]) (f' ++ [(oth, (pg + 1, row ++ [many]))]) :=
            EntsAt.snoc (e := (oth, (pg + 1, row ++ [many]))) (hes'.keep fun v d h t => j4.dp (dp_same j13 h) t) hent
          have hT4 := j4.keep _ _ (by simp [nTd]) (j13 _ _ hT')
          have ho4 := j4.tu _ _ (j13 _ _ ho1')
          have hts4 : StatesAt (upd (upd H5 c3 (.tup [.int ((pg : Int) + 1), .ref c2])) d (.dT (kvs' ++ [(keyS oth, .ref c3)]))) tv'' td' := hts'.keep fun b ys e => j4.tu _ _ (j13 _ _ e)
          have s4' : Same H (upd (upd H5 c3 (.tup [.int ((pg : Int) + 1), .ref c2])) d (.dT (kvs' ++ [(keyS oth, .ref c3)]))) := same_updR (s'.trans j13) nd
          have hd4' : (upd (upd H5 c3 (.tup [.int ((pg : Int) + 1), .ref c2])) d (.dT (kvs' ++ [(keyS oth, .ref c3)]))) d = some (.dT (kvs' ++ [(keyS oth, .ref c3)])) := upd_same
          have fr4 : Fr [d, Tl] H3 (upd (upd H5 c3 (.tup [.int ((pg : Int) + 1), .ref c2])) d (.dT (kvs' ++ [(keyS oth, .ref c3)]))) := (fr.trans (Fr.of j13 _)).trans (j4.mono (by simp))
          generalize (upd (upd H5 c3 (.tup [.int ((pg : Int) + 1), .ref c2])) d (.dT (kvs' ++ [(keyS oth, .ref c3)]))) = H6 at hes4 hT4 ho4 hts4 s4' hd4' fr4 ⊢
          -- todo.append(other)
          refine ⟨_, rfl, .inl ⟨rfl, _, .of hT4⟩, _, rfl, Tl, _, _, rfl, rfl, hT4, ?_, ?_⟩
          · rw [hts4.len]
            exact small10k (by omega)
          have j5 : Fr [Tl] H6 (upd H6 Tl (.lst (tv'' ++ [.ref o1]))) := Fr.upd hT4 trivial (by simp)
          refine ⟨fr4.trans (j5.mono (by simp)), same_updR s4' nTH, f' ++ [(oth, (pg + 1, row ++ [many]))], td' ++ [oth], _, _, _, _, j5.keep _ _ (by simp [nTd.symm]) hd4', hes4.keep (fun v d h t => j5.dp h t), upd_same, (hts4.keep fun b ys e => j5.tu _ _ e).snoc (j5.tu _ _ ho4), hadd, ?_, ?_, rfl⟩
          · rw [List.length_append]
            show f'.length + 1 ≤ _
            omega
          · rw [List.length_append]
            show td'.length + 1 ≤ _
            omega
        · have hk : oth ∈ keysE f' := List.mem_map.mpr ⟨_, look_mem hv2, rfl⟩
          rw [bfsAdd_in hk] at hadd
          refine ⟨_, rfl, _, rfl, d, some v1, rfl, (by rw [← hv1]; exact .t hd' ho1'), _, rfl, iteF ?_⟩
          exact ⟨fr, s', f', td', kvs', tv'', _, _, hd', hes', hT', hts', hadd, by omega, by omega, rfl⟩
      · rintro σ H' ⟨fr, s', f', td', kvs', tv'', y8, y9, hd', hes', hT', hts', hadd, hfl', htl', rfl⟩
        rw [hstl, List.drop_length] at hadd
        have e1 : (bfsAdd pg row f td (stepsL bs k s)).1 = f' := by rw [hadd]; rfl
        have e2 : (bfsAdd pg row f td (stepsL bs k s)).2 = td' := by rw [hadd]; rfl
        have wk2 := wk.next hx0
        rw [e1, e2] at wk2
        refine ⟨m - 1, ?_, s', f', dn ++ [s], td', kvs', tv'', _, _, _, _, _, rfl, hd', hes', hT', hts', wk2, fun g hg => hbf g (.step hx0 (by rw [e1, e2]; exact hg)), ?_⟩
        · rw [List.length_cons] at hkl
          omega
        · rw [List.length_cons] at hkl
          rw [List.length_append]
          simp only [List.length_cons, List.length_nil]
          omega
open PySem.W in
/-- min of a list of alike data -/
def rMinD (K : PySem.W.Frag) : List V → Hp → VK → Prop := fun vs H Q => ∃ (a : Addr) (ws : List V) (d : PyData) (ds : List PyData), vs = [V.ref a] ∧ SqL K H a ws ∧ DpAll K H ws (d :: ds) ∧ AlikeAll (d :: ds) ∧ PyData.depthAll (d :: ds) ≤ 60 ∧ ∀ v, Dp K H v (minD d ds) → Q v H
theorem vals_at : ∀ {xs : List V} {us : List Value} {i : Nat} {u : Value}, Vals xs us → us[i]? = some u → ∃ x, xs[i]? = some x ∧ RelV x u
  | _, _, _, _, .nil, e => by simp at e
  | _, _, 0, _, .cons r _, e => by
    simp at e
    subst e
    exact ⟨_, rfl, r⟩
  | _, _, i + 1, u, .cons _ t, e => by
    obtain ⟨x, e1, e2⟩ := vals_at (i := i) (u := u) t (by simpa using e)
    exact ⟨x, by simpa using e1, e2⟩
open PySem.W in
theorem cr_minD {X : Cx} (hc : X.calm = true) (hu : X.A.units + 65 < cLine) : CallR X (.builtin "min") (rMinD X.K) := by
  intro pins s σ H vs us Q I r h
  obtain ⟨a, ws, d, ds, rfl, hs, hd, ha, hdep, q⟩ := h
  obtain ⟨its, rv, hl, _⟩ := I.list hs
  rw [Vals.ref1 r]
  obtain ⟨as, hr⟩ := Dp.readsAll I (d :: ds) ws its hd rv
  have hr' : ReadsAll s.heap its.toArray.toList (d :: ds) as := by simpa using hr
  have hn : its.toArray.size = ds.length + 1 := readsAll_len hr'
  refine call_min_walkH (iter_listW (A := X.A.in1) (I.ok.hd hc) hl.isList fun s₂ e W st hfp hw hk => ?_)
  refine ⟨_, _, _, _, _, _, _, s.heap, _, rfl, W, st, hfp, by omega, hw, hk, cmpIn_lt (A := X.A.in1) hr' ha (by show X.A.units + 1 + _ < _; omega), fun v s' hP m => ?_⟩
  obtain ⟨h', tk, rfl, hk'⟩ := moved_old e rfl m
  have e1 : its.toArray.size - 1 = ds.length := by omega
  have e2 := (argBest_fold dataLt PyData.none d ds ds.length (Nat.le_refl _)).2
  rw [List.take_length] at e2
  rw [e1] at hP
  have hP2 := hP
  rw [List.getElem?_toArray] at hP2
  obtain ⟨x, hx, rx⟩ := vals_at rv hP2
  obtain ⟨dd, hdd, hxd⟩ := dpa_at hd hx
  refine ⟨x, H, I.kept hk', rx, q x ?_⟩
  rw [show minD d ds = dd by
    unfold minD
    rw [← e2, List.getD_eq_getElem?_getD, hdd]
    rfl]
  exact hxd
/-- the least of rows of pages -/
def ltE (x y : Nat × List Nat) : Bool := PySem.W.dataLt (entD x) (entD y)
def minE (x : Nat × List Nat) (xs : List (Nat × List Nat)) : Nat × List Nat := xs.foldl (fun a y => if ltE y a then y else a) x
theorem minE_D (x : Nat × List Nat) : ∀ xs : List (Nat × List Nat), PySem.W.minD (entD x) (xs.map entD) = entD (minE x xs) := by
  intro xs
  unfold PySem.W.minD minE
  induction xs generalizing x with
  | nil => rfl
  | cons y r ih =>
    rw [List.map_cons, List.foldl_cons, List.foldl_cons, ← ih]
    congr 1
    show (if ltE y x = true then entD y else entD x) = entD (if ltE y x = true then y else x)
    split <;> rfl
theorem alike_nums : ∀ xs ys : List Nat, PySem.W.alikeAll (numsD xs) (numsD ys) = true
  | [], _ => by simp [PySem.W.alikeAll]
  | _ :: _, [] => by simp [PySem.W.alikeAll]
  | x :: xs, y :: ys => by
    show PySem.W.alikeAll (PyData.int x :: numsD xs) (PyData.int y :: numsD ys) = true
    rw [PySem.W.alikeAll, alike_nums xs ys]
    rfl
theorem alike_ent (x y : Nat × List Nat) : PySem.W.alike (entD x) (entD y) = true := by
  show PySem.W.alike (.tuple [.int x.1, .tuple (numsD x.2)]) (.tuple [.int y.1, .tuple (numsD y.2)]) = true
  simp only [PySem.W.alike, PySem.W.alikeAll, alike_nums, Bool.and_self]
theorem ltE_fst {x y : Nat × List Nat} : (ltE x y = true → x.1 ≤ y.1) ∧ (ltE x y = false → y.1 ≤ x.1) := by
  unfold ltE entD
  rw [PySem.W.dataLt_pair (by simp [PySem.W.alike]) (by simp only [PySem.W.alike]; exact alike_nums _ _), PySem.W.dataLt_int]
  by_cases h : x.1 = y.1
  · rw [if_pos (by rw [h]; simp [PyData.eqv])]
    exact ⟨fun _ => by omega, fun _ => by omega⟩
  · rw [if_neg (by simp [PyData.eqv]; omega)]
    exact ⟨fun e => by have := of_decide_eq_true e; omega, fun e => by have := of_decide_eq_false e; omega⟩
theorem minE_mem (x : Nat × List Nat) : ∀ xs : List (Nat × List Nat), minE x xs ∈ x :: xs := by
  intro xs
  unfold minE
  induction xs generalizing x with
  | nil => exact List.mem_cons_self
  | cons y r ih =>
    rw [List.foldl_cons]
    have := ih (if ltE y x = true then y else x)
    rcases List.mem_cons.mp this with h | h
    · rw [h]
      split
      · exact List.mem_cons_of_mem _ List.mem_cons_self
      · exact List.mem_cons_self
    · exact List.mem_cons_of_mem _ (List.mem_cons_of_mem _ h)
theorem minE_le (x : Nat × List Nat) : ∀ xs : List (Nat × List Nat), ∀ y ∈ x :: xs, (minE x xs).1 ≤ y.1 := by
  intro xs
  unfold minE
  induction xs generalizing x with
  | nil =>
    intro y hy
    rw [List.mem_singleton.mp hy]
    exact Nat.le_refl _
  | cons z r ih =>
    intro y hy
    rw [List.foldl_cons]
    have ih2 := ih (if ltE z x = true then z else x)
    have hz : (if ltE z x = true then z else x).1 ≤ z.1 ∧ (if ltE z x = true then z else x).1 ≤ x.1 := by
      cases e : ltE z x with
      | true => exact ⟨Nat.le_refl _, ltE_fst.1 e⟩
      | false => exact ⟨ltE_fst.2 e, Nat.le_refl _⟩
    have h0 := ih2 _ List.mem_cons_self
    rcases List.mem_cons.mp hy with h | hy
    · rw [h]
      omega
    · rcases List.mem_cons.mp hy with h | hy
      · rw [h]
        omega
      · exact ih2 y (List.mem_cons_of_mem _ hy)
/-- the program's best row -/
def endsOf (n : Nat) (g : List Ent) : List (Nat × List Nat) := (g.filter fun e => decide (e.1.bar = n)).map (·.2)
def bestOf (n : Nat) (g : List Ent) : Option (List Nat) := match endsOf n g with
  | [] => none
  | x :: xs => some (minE x xs).2
def optD : Option (List Nat) → PyData
  | none => .none
  | some row => .tuple (numsD row)
theorem best_none {bs : List Bar} {k : Desk} {b : Sta} {g : List Ent} {n : Nat} (h : Found bs k b g) (e : bestOf n g = none) : ∀ row s, Path bs k b row s → s.bar ≠ n := by
  intro row s p hs
  obtain ⟨e1, he, k1, _⟩ := h.least row s p
  have hm : e1.2 ∈ endsOf n g := List.mem_map.mpr ⟨e1, List.mem_filter.mpr ⟨he, decide_eq_true (by rw [k1]; exact hs)⟩, rfl⟩
  unfold bestOf at e
  cases q : endsOf n g with
  | nil =>
    rw [q] at hm
    cases hm
  | cons x xs =>
    rw [q] at e
    cases e
theorem best_some {bs : List Bar} {k : Desk} {b : Sta} {g : List Ent} {n : Nat} {row : List Nat} (h : Found bs k b g) (e : bestOf n g = some row) : (∃ s, Path bs k b row s ∧ s.bar = n) ∧ ∀ row' s', Path bs k b row' s' → s'.bar = n → row.length ≤ row'.length := by
  unfold bestOf at e
  cases q : endsOf n g with
  | nil =>
    rw [q] at e
    cases e
  | cons x xs =>
    rw [q] at e
    have e1 : (minE x xs).2 = row := Option.some.inj e
    have hm := minE_mem x xs
    rw [← q] at hm
    obtain ⟨en, hen, e2⟩ := List.mem_map.mp hm
    obtain ⟨h1, h2⟩ := List.mem_filter.mp hen
    obtain ⟨p1, p2⟩ := h.path en h1
    rw [e2] at p1 p2
    rw [e1] at p1 p2
    refine ⟨⟨en.1, p1, of_decide_eq_true h2⟩, fun row' s' p' hs => ?_⟩
    obtain ⟨en', he', k1, k2⟩ := h.least row' s' p'
    have hm' : en'.2 ∈ endsOf n g := List.mem_map.mpr ⟨en', List.mem_filter.mpr ⟨he', decide_eq_true (by rw [k1]; exact hs)⟩, rfl⟩
    rw [q] at hm'
    have := minE_le x xs _ hm'
    omega
theorem sqt_lock {K : PySem.W.Frag} {H : Hp} {d a : Addr} {kvs : List (List Key × V)} {o : HO} {xs : List V} (hd : H d = some (.dT kvs)) (h : SqT K H a xs) : SqT K (upd H d o) a xs := by
  rcases h with (h | ⟨ob, h⟩) | h
  · exact .inl (.inl (by rw [upd_ne (ne_of h hd (fun z => nomatch z))]; exact h))
  · exact .inl (.inr ⟨ob, by rw [upd_ne (ne_of h hd (fun z => nomatch z))]; exact h⟩)
  · exact .inr h
theorem sqt_unlock {K : PySem.W.Frag} {H : Hp} {d a : Addr} {od : Obj} {kvs : List (List Key × V)} {o : HO} {xs : List V} (hd : H d = some (.frz od (.dT kvs))) (h : SqT K H a xs) : SqT K (upd H d o) a xs := by
  rcases h with (h | ⟨ob, h⟩) | h
  · exact .inl (.inl (by rw [upd_ne (ne_of h hd (fun z => nomatch z))]; exact h))
  · refine .inl (.inr ⟨ob, ?_⟩)
    rw [upd_ne (ne_of h hd (fun z => by injection z with z1 z2; cases z2))]
    exact h
  · exact .inr h
theorem EntsAt.at {K : PySem.W.Frag} {H : Hp} : ∀ {kvs : List (List Key × V)} {f : List Ent} {i : Nat} {kv : List Key × V}, EntsAt K H kvs f → kvs[i]? = some kv → ∃ e, f[i]? = some e ∧ kv.1 = keyS e.1 ∧ Dp K H kv.2 (entD e.2)
  | [], [], _, _, _, e => by simp at e
  | _ :: _, x :: _, 0, _, h, e => by
    simp at e
    subst e
    exact ⟨x, rfl, h.1, h.2.1⟩
  | _ :: _, _ :: _, i + 1, kv, h, e => by
    obtain ⟨x, e1, e2⟩ := EntsAt.at (i := i) (kv := kv) h.2.2 (by simpa using e)
    exact ⟨x, by simpa using e1, e2⟩
  | [], _ :: _, _, _, h, _ => h.elim
  | _ :: _, [], _, _, h, _ => h.elim
theorem EntsAt.valAt {K : PySem.W.Frag} {H : Hp} : ∀ {kvs : List (List Key × V)} {f : List Ent} {i : Nat} {s : Sta} {v : V}, EntsAt K H kvs f → (keysE f).Nodup → kvs[i]? = some (keyS s, v) → valV kvs (keyS s) = some v
  | [], [], _, _, _, _, _, e => by simp at e
  | kv :: _, x :: _, 0, s, v, h, _, e => by
    have e2 : kv = (keyS s, v) := by simpa using e
    subst e2
    exact valV_pos rfl
  | kv :: kvs, x :: f, i + 1, s, v, h, nd, e => by
    have e2 : kvs[i]? = some (keyS s, v) := by simpa using e
    obtain ⟨n1, n2⟩ := List.nodup_cons.mp nd
    obtain ⟨y, hy, hk, _⟩ := h.2.2.at e2
    have ys : y.1 = s := keyS_inj hk.symm
    have ne : ¬ kv.1 = keyS s := fun z => n1 (List.mem_map.mpr ⟨y, List.mem_of_getElem? hy, by rw [ys]; exact keyS_inj (z.symm.trans h.1)⟩)
    rw [valV_neg ne]
    exact EntsAt.valAt h.2.2 n2 e2
  | [], _ :: _, _, _, _, h, _, _ => h.elim
  | _ :: _, [], _, _, _, h, _, _ => h.elim
theorem shp_ent (x : Nat × List Nat) : Shp 2 (entD x) := shp_tup (shpA_cons (shp_int _) (shpA_cons (shp_nums x.2) shpA_nil))
theorem shp_ents (xs : List (Nat × List Nat)) : Shp 3 (.list (xs.map entD)) := shp_list (shpA_all fun d hd => by
  obtain ⟨s, _, rfl⟩ := List.mem_map.mp hd
  exact shp_ent s)
theorem isTs_ents : ∀ xs : List (Nat × List Nat), isTs (xs.map entD) = true
  | [] => rfl
  | x :: r => by
    show (isT (entD x) && isTs (r.map entD)) = true
    rw [isTs_ents r, isT_ent]
    rfl
theorem sc_best_from : FnScope ["part", "desk", "begin", "found", "ends", "state"] ["part", "desk", "begin"] (defScope s_best_from) := ⟨rfl, rfl, rfl, by decide +kernel, rfl, by decide +kernel, by decide +kernel⟩
section
variable {K : PySem.W.Frag} {mg : Str → Option Value}
theorem b_best_from (T : Txt K mg) : Binds K (fdOf K ("best_from", none)) ["part", "desk", "begin"] [] := T.best_from.bindsN fun _ _ _ _ _ _ us hl => match us, hl with | [_, _, _], _ => rfl
end
def sp_best_from (K : PySem.W.Frag) : Sp := fun vs H Q _ => ∃ (p q : Addr) (bs : List Bar) (past : List (List Bar)) (x : V) (k : Desk) (b : Sta) (ba : Addr), vs = [.ref p, x, .ref ba] ∧ PartX K H p q bs past ∧ Dp K H x (deskD k) ∧ H ba = some (.tup (stateV b)) ∧ StaOk bs k b ∧ k.empty ≤ 3 ∧ bs.length ≤ 100 ∧
  ∀ v H' g, Same H H' → Found bs k b g → Bfs bs k [(b, (0, []))] [b] g → Dp K H' v (optD (bestOf bs.length g)) → Q v H'
theorem ok_best_from {P : Program} {w : World} {K : PySem.W.Frag} {mg : Str → Option Value} {base : Heap} (T : Txt K mg) : OkF P w K mg base CX0 7 ("best_from", none) ["part", "desk", "begin"] (sp_best_from K) := by
  refine okN T.best_from sc_best_from (fun vs H Q E h => ?_) (fun cdv A outer s H vs Q E hr h => ?_)
  · obtain ⟨p, q, bs, past, x, k, b, ba, rfl, _⟩ := h
    rfl
  · obtain ⟨p, q, bs, past, x, k, b, ba, rfl, hp, hx, hb, okb, hke, hbl, z⟩ := h
    obtain ⟨dx, rr, ws0, h1, _⟩ := id hp
    refine ⟨_, (pss_cons (ps_set (i := 3) sc_best_from.nd rfl (by first | exact Or.inl rfl | exact Or.inr rfl) (pe_call (ok_reached T) (hr.mono (by decide)) (by rfl) T.g_reached T.reached.kp (b_reached T) .nil pass0 (pa_cons (pv 0) (pa_cons (pv 1) (pa_cons (pv 2) pa_nil)))))
      (pss_cons (ps_lock (ps_setLc (i := 4) (own := [("state", 5)]) (g := (gName 5))  (by rfl) sc_best_from.nd rfl rfl (sw_true rfl rfl rfl (by decide +kernel)) (pi_keys (pv 3)) (blkOk_by (own := [("state", 5)]) (N := ["part", "desk", "begin", "found", "ends", "state"]) (sc := defScope s_best_from) (by decide +kernel)) (fun _ _ _ _ _ => (pg_name (i := 5) sc_best_from.nd rfl (by first | exact Or.inl rfl | exact Or.inr rfl))) (fun _ _ _ _ _ => (pts_one (pt_cmpR op_eq (pe_ix (r := rIxT K) ix_tup (pv 5) pe_int (fun _ _ => rfl)) (pe_callB (r := rLenP K (sp_Part_len K)) (call_lenP T (ok_Part_len T) (hr.mono (by decide))) (by rfl) T.b_len PySem.boot_len (pa_cons (pv 0) pa_nil)) (nomark _)))) (fun _ _ _ _ _ => (pe_dget (hu_of hr) (pv 3) (pv 5) (fun _ _ => rfl)))))
      (pss_one (ps_ret (pe_ifExp (pt_cmpR (op_neD hr.units) (pv 4) (pe_lst pa_nil) (nomark _)) (pe_ix ix_tup (pe_callB (cr_minD rfl (units65 hr)) (by rfl) T.b_min (by decide +kernel) (pa_cons (pv 4) pa_nil)) pe_int (fun _ _ => rfl)) pe_non))))), ?_⟩
    refine ⟨_, rfl, _, rfl, _, rfl, p, q, bs, past, x, k, b, ba, rfl, hp, hx, hb, okb, hke, hbl, fun d H1 g s1 nd hdict hfound hbfs => ?_⟩
    obtain ⟨kvs, hd, hes⟩ := hdict
    have hlen := hes.len
    have gl : g.length ≤ 808 := by
      have h1 := sub_len (r := allSta bs.length 3) hfound.nd fun s hs => by
        obtain ⟨e, hm, rfl⟩ := List.mem_map.mp hs
        have ok := okb.path (hfound.path e hm).1
        refine allSta_mem ok.bar ?_
        have := ok.used
        omega
      rw [allSta_len, List.length_map] at h1
      omega
    refine ⟨d, .dT kvs, hd, trivial, fun od => ?_⟩
    have sf : Same H (upd H1 d (.frz od (.dT kvs))) := same_updR s1 nd
    have hesf : EntsAt K (upd H1 d (.frz od (.dT kvs))) kvs g := hes.keep fun v e h t => dp_tu (fun a xs z => sqt_lock hd z) h t
    have hdf : (upd H1 d (.frz od (.dT kvs))) d = some (.frz od (.dT kvs)) := upd_same
    generalize (upd H1 d (.frz od (.dT kvs))) = Hf at sf hesf hdf ⊢
    refine ⟨_, rfl, d, od, rfl, .inr ⟨kvs, hdf, fun D hD => lc_it walk_keysT (fun i H' => Same Hf H' ∧ ∃ ws, H' D = some (.lst ws) ∧ DpAll K H' ws ((endsOf bs.length (g.take i)).map entD)) ⟨same_upd hD, [], upd_same, .nil⟩ ?_ ?_ ?_⟩⟩
    · rintro i H' _ ⟨s', _⟩
      exact s' _ _ hdf
    · rintro i v H' H'' hi ⟨s', ws, hw, hws⟩ ⟨rfl, kk, vv, qa, hkv, rfl, hqa⟩
      obtain ⟨e, he, hk, hvd⟩ := hesf.at hkv
      dsimp only at hk hvd
      subst hk
      have hval : valV kvs (keyS e.1) = some vv := hesf.valAt hfound.nd hkv
      have s0 := sf.trans s'
      have tf : endsOf bs.length (g.take (i + 1)) = endsOf bs.length (g.take i) ++ (if e.1.bar = bs.length then [e.2] else []) := by
        unfold endsOf
        rw [take_at he, List.filter_append, List.map_append]
        congr 1
        by_cases hb : e.1.bar = bs.length
        · rw [if_pos hb, List.filter_cons, decide_eq_true hb]
          rfl
        · rw [if_neg hb, List.filter_cons, decide_eq_false hb]
          rfl
      refine ⟨rfl, _, rfl, qa, _, _, _, rfl, rfl, .of hqa, rfl, _, rfl, p, dx, _, rfl, s0 _ _ h1, p, q, bs, past, rfl, hp.same s0, bs.length, rfl, by omega, rfl, _, rfl, ite2Q (fun eq => ?_) (fun ne => ⟨s', ws, hw, ?_⟩)⟩
      · have eq2 : e.1.bar = bs.length := by omega
        have f5 : Fr [D] H'' (upd H'' D (.lst (ws ++ [vv]))) := Fr.upd hw trivial (by simp)
        refine ⟨_, rfl, _, rfl, d, vv, rfl, .inr ⟨kvs, keyS e.1, qa, .inr ⟨od, s' _ _ hdf⟩, rfl, hqa, hval.symm⟩, ws, hw, ?_, same_updR s' hD, ws ++ [vv], upd_same, ?_⟩
        · rw [dpa_len hws, List.length_map]
          have h2 : (endsOf bs.length (g.take i)).length ≤ g.length := by
            unfold endsOf
            rw [List.length_map]
            refine Nat.le_trans (List.length_filter_le _ _) ?_
            rw [List.length_take]
            omega
          exact small1000 (by omega)
        · rw [tf, if_pos eq2, List.map_append]
          exact dpa_snoc (f5.dpa hws (isTs_ents _)) (f5.dp (dp_same s' hvd) (isT_ent _))
      · have ne2 : ¬ e.1.bar = bs.length := by omega
        rw [tf, if_neg ne2, List.append_nil]
        exact hws
    · rintro H2 ⟨s2, ws, hw, hws⟩
      rw [hlen, List.take_length] at hws
      have hd2 := s2 _ _ hdf
      refine ⟨hd2, ?_⟩
      have hDd : D ≠ d := fun e => by
        rw [e, hdf] at hD
        cases hD
      have s3 : Same H (upd H2 d (.dT kvs)) := same_updR (sf.trans s2) nd
      have hw3 : (upd H2 d (.dT kvs)) D = some (.lst ws) := by
        rw [upd_ne hDd]
        exact hw
      have hws3 : DpAll K (upd H2 d (.dT kvs)) ws ((endsOf bs.length g).map entD) := dpa_tu (fun a xs z => sqt_unlock hd2 z) hws (isTs_ents _)
      generalize (upd H2 d (.dT kvs)) = H3 at s3 hw3 hws3 ⊢
      have zz := fun v H' s' => z v H' g s' hfound hbfs
      refine ⟨_, rfl, by show (0 : Nat) ≤ sizeLine; decide, fun c nc => ?_⟩
      have sc := same_upd (o := .lst []) nc
      refine ⟨_, .list [], .lst (.of (sc _ _ hw3)) (dpa_same sc hws3), .lst (.of upd_same) .nil, (shp_ents _).ok (by decide), (shp_nil (n := 0)).ok (by decide), _, rfl, ?_⟩
      cases he : endsOf bs.length g with
      | nil =>
        have eb : bestOf bs.length g = none := by
          unfold bestOf
          rw [he]
        rw [eb] at zz
        exact iteF (zz _ _ (s3.trans sc) .non)
      | cons y ys =>
        have eb : bestOf bs.length g = some (minE y ys).2 := by
          unfold bestOf
          rw [he]
        rw [eb] at zz
        rw [he] at hws3
        refine iteT ⟨_, rfl, D, ws, entD y, ys.map entD, rfl, .of (sc _ _ hw3), dpa_same sc hws3, ⟨?_, ?_⟩, ?_, fun v hv => ?_⟩
        · intro a ha b hb
          obtain ⟨a', _, rfl⟩ := List.mem_map.mp (show a ∈ (y :: ys).map entD from ha)
          obtain ⟨b', _, rfl⟩ := List.mem_map.mp (show b ∈ (y :: ys).map entD from hb)
          exact alike_ent _ _
        · intro a ha e
          obtain ⟨a', _, rfl⟩ := List.mem_map.mp (show a ∈ (y :: ys).map entD from ha)
          cases e
        · exact Nat.le_trans (shpA_all (n := 2) fun d hd => by
            obtain ⟨a', _, rfl⟩ := List.mem_map.mp (show d ∈ (y :: ys).map entD from hd)
            exact shp_ent a').2 (by decide)
        · rw [minE_D] at hv
          cases hv with
          | tup st at_ =>
            obtain ⟨v0, v1, rfl, _, h1⟩ := dpa2 at_
            exact ⟨_, _, _, _, rfl, rfl, st, rfl, zz _ _ (s3.trans sc) h1⟩
theorem sc_fewest : FnScope ["part", "desk", "found"] ["part", "desk"] (defScope s_fewest) := ⟨rfl, rfl, rfl, by decide +kernel, rfl, by decide +kernel, by decide +kernel⟩
section
variable {K : PySem.W.Frag} {mg : Str → Option Value}
theorem b_fewest (T : Txt K mg) : Binds K (fdOf K ("fewest", none)) ["part", "desk"] [] := T.fewest.bindsN fun _ _ _ _ _ _ us hl => match us, hl with | [_, _], _ => rfl
end
def lenOV : Option (List Nat) → V
  | none => .non
  | some row => .int (row.length : Int)
def sp_fewest (K : PySem.W.Frag) : Sp := fun vs H Q _ => ∃ (p q : Addr) (bs : List Bar) (past : List (List Bar)) (x : V) (k : Desk), vs = [.ref p, x] ∧ PartX K H p q bs past ∧ Dp K H x (deskD k) ∧ DeskOk k ∧ bs.length ≤ 100 ∧
  ∀ H' g, Same H H' → Found bs k (first k) g → Bfs bs k [(first k, (0, []))] [first k] g → Q (lenOV (bestOf bs.length g)) H'
theorem ok_fewest {P : Program} {w : World} {K : PySem.W.Frag} {mg : Str → Option Value} {base : Heap} (T : Txt K mg) : OkF P w K mg base CX0 8 ("fewest", none) ["part", "desk"] (sp_fewest K) := by
  refine okN T.fewest sc_fewest (fun vs H Q E h => ?_) (fun cdv A outer s H vs Q E hr h => ?_)
  · obtain ⟨p, q, bs, past, x, k, rfl, _⟩ := h
    rfl
  · obtain ⟨p, q, bs, past, x, k, rfl, hp, hx, ok, hbl, z⟩ := h
    refine ⟨_, (pss_cons (ps_expr (pe_call (ok_need_desk T) (hr.mono (by decide)) (by rfl) T.g_need_desk T.need_desk.kp (b_need_desk T) .nil pass0 (pa_cons (pv 1) pa_nil)))
      (pss_cons (ps_set (i := 2) sc_fewest.nd rfl (by first | exact Or.inl rfl | exact Or.inr rfl) (pe_call (ok_best_from T) (hr.mono (by decide)) (by rfl) T.g_best_from T.best_from.kp (b_best_from T) .nil pass0 (pa_cons (pv 0) (pa_cons (pv 1) (pa_cons (pe_call (ok_begin_of T) (hr.mono (by decide)) (by rfl) T.g_begin_of T.begin_of.kp (b_begin_of T) .nil pass0 (pa_cons (pv 1) pa_nil)) pa_nil)))))
      (pss_one (ps_ret (pe_ifExp (pt_cmp (pc_isN (pv 2))) pe_non (pe_callB call_len (by rfl) T.b_len PySem.boot_len (pa_cons (pv 2) pa_nil))))))), ?_⟩
    refine ⟨_, rfl, x, k, rfl, hx, ok, ?_⟩
    refine ⟨_, rfl, _, rfl, _, rfl, x, k, rfl, hx, fun c nc => ?_⟩
    have sc := same_upd (o := .tup (stateV (first k))) nc
    refine ⟨p, q, bs, past, x, k, first k, c, rfl, hp.same sc, dp_same sc hx, upd_same, first_ok ok, ok.e1, hbl, fun v H' g s' hf hb hv => ?_⟩
    have zz := z H' g (sc.trans s') hf hb
    cases hbo : bestOf bs.length g with
    | none =>
      rw [hbo] at hv zz
      have ev : v = .non := by
        cases hv
        rfl
      subst ev
      exact ⟨_, rfl, _, rfl, iteT zz⟩
    | some row =>
      rw [hbo] at hv zz
      obtain ⟨t, rfl, ht⟩ := dp_nums hv
      refine ⟨_, rfl, _, rfl, iteF ⟨_, rfl, _, _, rfl, .inr ⟨_, ht, rfl⟩, ?_⟩⟩
      rw [List.length_map]
      exact zz
/-! ### a way through the states is a layout -/
theorem isRight_next (k : Desk) (i : Nat) : isRight k (i + 1) = !isRight k i := by
  unfold isRight
  rcases Nat.mod_two_eq_zero_or_one i with h | h
  · rw [decide_eq_true h, decide_eq_false (show ¬ (i + 1) % 2 = 0 by omega)]
    cases k.side <;> rfl
  · rw [decide_eq_false (show ¬ i % 2 = 0 by omega), decide_eq_true (show (i + 1) % 2 = 0 by omega)]
    cases k.side <;> rfl
theorem wide_none (bs : List Bar) (b : Nat) : wideOf bs b b = 0 := by
  unfold wideOf
  rw [Nat.sub_self]
  rfl
theorem path_from {bs : List Bar} {k : Desk} (ok : DeskOk k) {s t : Sta} {r : List Nat} (p : Path bs k s r t) : ∀ (pre : List Nat), t.bar = bs.length → s.bar = pre.sum → s.right = isRight k pre.length → s.used = pre.count 0 → faultFrom bs k (pre ++ r) pre.length r.length = none := by
  induction p with
  | nil s => intro pre _ _ _ _; rfl
  | @cons s u t m r hm hp ih =>
    intro pre ht hb hr hu
    obtain ⟨h1, h2, h3, h4, h5, h6⟩ := step_of hm
    have ih2 := ih (pre ++ [m]) ht (by rw [List.sum_append, h1, hb]; simp) (by rw [h2, hr, List.length_append]; show _ = isRight k (pre.length + 1); rw [isRight_next]) (by
      rw [List.count_append]
      rcases h6 with ⟨a, c, _⟩ | ⟨a, c, _⟩
      · rw [c, hu, a]
        rfl
      · rw [c, hu, show [m].count 0 = 0 by rw [List.count_cons]; simp; omega]
        rfl)
    rw [List.append_assoc, List.length_append] at ih2
    have ih3 : faultFrom bs k (pre ++ m :: r) (pre.length + 1) r.length = none := ih2
    have e1 : (pre ++ m :: r).take (pre.length + 1) = pre ++ [m] := by
      rw [show pre ++ m :: r = (pre ++ [m]) ++ r by simp, List.take_append_of_le_length (by simp)]
      exact List.take_of_length_le (by simp)
    have e2 : (pre ++ m :: r).getD pre.length 0 = m := by
      rw [List.getD_eq_getElem?_getD, List.getElem?_append_right (Nat.le_refl _), Nat.sub_self]
      rfl
    have e3 : (pre ++ m :: r).length = pre.length + 1 + r.length := by
      rw [List.length_append, List.length_cons]
      omega
    have e4 : (pre ++ [m]).sum = s.bar + m := by
      rw [List.sum_append, hb]
      simp
    have last : r = [] → u.bar = bs.length := by
      intro e
      subst e
      cases hp
      exact ht
    have more : u.bar = bs.length → r = [] := by
      intro e
      cases hp with
      | nil => rfl
      | cons hm2 _ =>
        have := (step_of hm2).2.2.1
        omega
    have pf : pageFault bs k (pre ++ m :: r) pre.length = none := by
      unfold pageFault
      dsimp only
      rw [e1, e2, e3, e4, Nat.add_sub_cancel]
      have w1 : ¬ wideOf bs s.bar (s.bar + m) > k.room := by
        rcases h6 with ⟨a, _, _⟩ | ⟨_, _, c⟩
        · rw [a, Nat.add_zero, wide_none]
          have := ok.r0
          omega
        · rw [h1] at c
          omega
      rw [if_neg w1, if_neg, if_neg]
      · rintro ⟨a, c, d⟩
        unfold mayTurn at h5
        rw [hr, a, h1] at h5
        have nl : ¬ s.bar + m = bs.length := fun e => c (by rw [more (by rw [h1]; exact e)]; rfl)
        rw [decide_eq_false nl] at h5
        have : k.turn ≤ restOf bs (s.bar + m) := by simpa using h5
        omega
      · rintro ⟨a, c⟩
        subst a
        rcases h6 with ⟨_, _, c2⟩ | ⟨c1, _⟩
        · rcases c with c | c
          · have := last (List.length_eq_zero_iff.mp (by omega))
            omega
          · rw [List.count_append, ← hu] at c
            have : ([0] : List Nat).count 0 = 1 := rfl
            omega
        · omega
    show (match pageFault bs k (pre ++ m :: r) pre.length with | some x => some x | none => faultFrom bs k (pre ++ m :: r) (pre.length + 1) r.length) = none
    rw [pf]
    exact ih3
theorem path_layout {bs : List Bar} {k : Desk} (ok : DeskOk k) {t : Sta} {row : List Nat} (p : Path bs k (first k) row t) (ht : t.bar = bs.length) : faultG bs k (.tuple (numsD row)) = none := by
  unfold faultG
  rw [if_pos (areNums_nums row), natsOf_nums]
  unfold faultN
  have hs := path_bar p
  rw [ht] at hs
  rw [if_pos (by have : (first k).bar = 0 := rfl; omega)]
  exact path_from ok p [] ht rfl (by show k.side = isRight k 0; unfold isRight; cases k.side <;> rfl) rfl
theorem pageOf_spec : ∀ {ns : List Nat} {b : Nat}, b < ns.sum → pageOf ns b < ns.length ∧ (ns.take (pageOf ns b)).sum ≤ b ∧ b < (ns.take (pageOf ns b + 1)).sum
  | [], b, h => by simp at h
  | n :: r, b, h => by
    rw [List.sum_cons] at h
    unfold pageOf
    by_cases hb : b < n
    · rw [if_pos hb]
      refine ⟨by simp, by simp, ?_⟩
      simpa using hb
    · rw [if_neg hb]
      obtain ⟨h1, h2, h3⟩ := pageOf_spec (ns := r) (b := b - n) (by omega)
      refine ⟨by rw [List.length_cons]; omega, ?_, ?_⟩
      · rw [List.take_succ_cons, List.sum_cons]
        omega
      · rw [List.take_succ_cons, List.sum_cons]
        omega
theorem fault_none {bs : List Bar} {k : Desk} {ns : List Nat} : ∀ {m p : Nat}, faultFrom bs k ns p m = none → ∀ j, p ≤ j → j < p + m → pageFault bs k ns j = none
  | 0, p, _, j, h1, h2 => by omega
  | m + 1, p, h, j, h1, h2 => by
    rw [faultFrom_step] at h
    cases hp : pageFault bs k ns p with
    | some x =>
      rw [hp] at h
      cases h
    | none =>
      rw [hp] at h
      by_cases e : j = p
      · rw [e]
        exact hp
      · exact fault_none (m := m) (p := p + 1) h j (by omega) (by omega)
theorem take_sum_succ {ns : List Nat} {i : Nat} (h : i < ns.length) : (ns.take (i + 1)).sum = (ns.take i).sum + ns[i] := by
  rw [List.take_add_one, List.getElem?_eq_getElem h, List.sum_append]
  simp
/-- a layout without empty pages plays, where nothing is repeated -/
theorem plays_plain {bs : List Bar} {k : Desk} {ns : List Nat} (hf : faultG bs k (.tuple (numsD ns)) = none) (h0 : 0 ∉ ns) : playsL bs k ns [] = true := by
  unfold faultG at hf
  rw [if_pos (areNums_nums ns), natsOf_nums] at hf
  unfold faultN at hf
  by_cases hsum : ns.sum = bs.length
  · rw [if_pos hsum] at hf
    unfold playsL
    rw [List.all_eq_true]
    intro x hx
    unfold leavesL leavesP at hx
    obtain ⟨h1, h2⟩ := List.mem_filter.mp hx
    obtain ⟨⟨b, c⟩, hbc, rfl⟩ := List.mem_map.mp h1
    have hm := of_decide_eq_true h2
    have hzip : c = b + 1 ∧ b + 1 < bs.length := by
      obtain ⟨i, hi⟩ := List.getElem?_of_mem hbc
      rw [List.getElem?_zip_eq_some] at hi
      obtain ⟨e1, e2⟩ := hi
      have e1' : (List.range' 0 (bs.length - 0))[i]? = some b := e1
      have e2' : (List.range' 0 (bs.length - 0)).tail[i]? = some c := e2
      rw [List.getElem?_tail] at e2'
      rw [List.getElem?_eq_some_iff] at e1' e2'
      obtain ⟨l1, g1⟩ := e1'
      obtain ⟨l2, g2⟩ := e2'
      rw [List.getElem_range'] at g1 g2
      rw [List.length_range'] at l1 l2
      omega
    obtain ⟨rfl, hb1⟩ := hzip
    obtain ⟨a1, a2, a3⟩ := pageOf_spec (ns := ns) (b := b) (by omega)
    have hpos : ∀ i (h : i < ns.length), 0 < ns[i] := fun i h => by
      rcases Nat.eq_zero_or_pos ns[i] with e | e
      · exact absurd (by rw [← e]; exact List.getElem_mem h) h0
      · exact e
    by_cases hin : b + 1 < (ns.take (pageOf ns b + 1)).sum
    · have e := pageOf_eq (ns := ns) (i := pageOf ns b) (b := b + 1) (by omega) hin
      have hm' : 0 < rightsIn k (min (pageOf ns b) (pageOf ns (b + 1))) (max (pageOf ns b) (pageOf ns (b + 1))) := hm
      rw [e, Nat.min_self, Nat.max_self] at hm'
      unfold rightsIn at hm'
      rw [Nat.sub_self] at hm'
      simp at hm'
    · have hlt : pageOf ns b + 1 < ns.length := by
        rcases Nat.lt_or_ge (pageOf ns b + 1) ns.length with h | h
        · exact h
        · rw [List.take_of_length_le h] at hin
          omega
      have hs2 := take_sum_succ (ns := ns) (i := pageOf ns b + 1) hlt
      have hp2 := hpos (pageOf ns b + 1) hlt
      have e := pageOf_eq (ns := ns) (i := pageOf ns b + 1) (b := b + 1) (by omega) (by omega)
      have hm' : 0 < rightsIn k (min (pageOf ns b) (pageOf ns (b + 1))) (max (pageOf ns b) (pageOf ns (b + 1))) := hm
      have hpf := fault_none hf (pageOf ns b) (Nat.zero_le _) (by omega)
      rw [e, show min (pageOf ns b) (pageOf ns b + 1) = pageOf ns b by omega, show max (pageOf ns b) (pageOf ns b + 1) = pageOf ns b + 1 by omega] at hm'
      unfold rightsIn at hm'
      rw [show pageOf ns b + 1 - pageOf ns b = 1 by omega] at hm'
      have hr : isRight k (pageOf ns b) = true := by
        cases hR : isRight k (pageOf ns b) with
        | true => rfl
        | false =>
          rw [show List.range' (pageOf ns b) 1 = [pageOf ns b] from rfl, List.filter_cons, hR] at hm'
          simp at hm'
      have hmany : (leafOf bs k ns (b, b + 1)).many = 1 := by
        show rightsIn k (min (pageOf ns b) (pageOf ns (b + 1))) (max (pageOf ns b) (pageOf ns (b + 1))) = 1
        rw [e, show min (pageOf ns b) (pageOf ns b + 1) = pageOf ns b by omega, show max (pageOf ns b) (pageOf ns b + 1) = pageOf ns b + 1 by omega]
        unfold rightsIn
        rw [show pageOf ns b + 1 - pageOf ns b = 1 by omega, show List.range' (pageOf ns b) 1 = [pageOf ns b] from rfl, List.filter_cons, hr]
        rfl
      refine decide_eq_true ?_
      rw [hmany]
      unfold pageFault at hpf
      dsimp only at hpf
      have he : (ns.take (pageOf ns b + 1)).sum = b + 1 := by omega
      rw [he] at hpf
      split at hpf
      · cases hpf
      · split at hpf
        · cases hpf
        · split at hpf
          · cases hpf
          · rename_i _ _ h3
            have h4 : ¬ restOf bs (b + 1) < k.turn := fun h => h3 ⟨hr, by omega, h⟩
            have h5 : restOf bs (b + 1) = (leafOf bs k ns (b, b + 1)).time := rfl
            omega
  · rw [if_neg hsum] at hf
    cases hf
theorem eqv_bar (a b : Bar) : PyData.eqv (barD a) (barD b) = true ↔ a = b := by
  obtain ⟨w, x, r⟩ := a
  obtain ⟨w', x', r'⟩ := b
  simp [barD, PyData.eqv, PyData.eqvAll]
theorem eqv_bars (xs ys : List Bar) : PyData.eqv (.list (barsD xs)) (.list (barsD ys)) = decide (xs = ys) := by
  rw [Bool.eq_iff_iff, decide_eq_true_iff]
  exact eqv_listM eqv_bar xs ys
theorem shp_bar (b : Bar) : Shp 1 (barD b) := shp_tup (shpA_cons (shp_int _) (shpA_cons (shp_int _) (shpA_cons (shp_bool _) shpA_nil)))
theorem shp_bars (bs : List Bar) : Shp 2 (.list (barsD bs)) := shp_list (shpA_all fun d hd => by
  obtain ⟨b, _, rfl⟩ := List.mem_map.mp hd
  exact shp_bar b)
theorem sc_law : FnScope ["script", "dice", "bars", "desk", "part", "repeats", "good", "found", "bar", "one"] ["script"] (defScope s_law) := ⟨rfl, rfl, rfl, by decide +kernel, rfl, by decide +kernel, by decide +kernel⟩
theorem path_no0 {bs : List Bar} {k : Desk} (he : k.empty = 0) {s t : Sta} {row : List Nat} (p : Path bs k s row t) : 0 ∉ row := by
  induction p with
  | nil s => simp
  | @cons s u t m row' h1 h2 ih =>
    intro hm
    rcases List.mem_cons.mp hm with e | e
    · obtain ⟨_, _, _, _, _, h6⟩ := step_of h1
      rcases h6 with ⟨a, b, c⟩ | ⟨a, b, c⟩ <;> omega
    · exact ih e
/-- with no empty pages and nothing repeated each layout plays -/
theorem least_plain {bs : List Bar} {k : Desk} {n : Option Nat} {g : List Ent} (ok : DeskOk k) (he : k.empty = 0) (hn : LeastP bs k [] n) (hf : Found bs k (first k) g) : natO n = lenOV (bestOf bs.length g) := by
  have hpl : ∀ row t, Path bs k (first k) row t → t.bar = bs.length → playsL bs k row [] = true := fun row t h1 h2 => plays_plain (path_layout ok h1 h2) (path_no0 he h1)
  cases hb : bestOf bs.length g with
  | none =>
    cases n with
    | none => rfl
    | some m =>
      obtain ⟨⟨row, t, h1, h2, _⟩, _⟩ := hn
      exact absurd h2 (best_none hf hb _ _ h1)
  | some best =>
    obtain ⟨⟨t, h1, h2⟩, h3⟩ := best_some hf hb
    have h4 := hpl _ _ h1 h2
    cases n with
    | none =>
      rw [hn _ _ h1 h2] at h4
      cases h4
    | some m =>
      obtain ⟨⟨row, t', g1, g2, g3, g4⟩, g5⟩ := hn
      have h5 := g5 _ _ h1 h2 h4
      have h6 := h3 _ _ g1 g2
      show V.int (m : Int) = V.int (best.length : Int)
      rw [show m = best.length by omega]
theorem Rnd.ext' {H H' : Hp} {R : Addr} {ds : List Addr} (h : Rnd H R ds) (e : Same H H') : Rnd H' R ds := ⟨e _ _ h.1, fun d hd => ⟨(h.2 d hd).1.same e, (h.2 d hd).2⟩⟩
theorem ok_law {P : Program} {w : World} {K : PySem.W.Frag} {mg : Str → Option Value} {base : Heap} (T : Txt K mg) : OkF P w K mg base CX0 20 ("law", none) ["script"] (sp_law K) := by
  refine okN T.law sc_law (fun vs H Q E h => ?_) (fun cdv A outer s H vs Q E hr h => ?_)
  · obtain ⟨a, ns, rfl, _⟩ := h
    rfl
  · obtain ⟨a, ns, rfl, hS, hlen, z⟩ := h
    refine ⟨_, (pss_cons (ps_for PassesOwn.never rfl (pi_list (pe_call (ok__law_rounds T) (hr.mono (by decide)) (by rfl) T.g__law_rounds T._law_rounds.kp (b__law_rounds T) .nil pass0 (pa_cons (pv 0) (pa_cons pe_int pa_nil)))) (pg_name (i := 1) sc_law.nd rfl (by first | exact Or.inl rfl | exact Or.inr rfl))
      (pss_cons (ps_asg (pe_tup (pa_cons (pe_call (ok__law_row T) (hr.mono (by decide)) (by rfl) T.g__law_row T._law_row.kp (b__law_row T) .nil pass0 (pa_cons (pv 1) (pa_cons pe_int pa_nil))) (pa_cons (pe_call (ok__law_stand T) (hr.mono (by decide)) (by rfl) T.g__law_stand T._law_stand.kp (b__law_stand T) .nil pass0 (pa_cons (pv 1) pa_nil)) pa_nil))) (pg_tup rfl (pgs_cons (pg_name (i := 2) sc_law.nd rfl (by first | exact Or.inl rfl | exact Or.inr rfl)) (pgs_cons (pg_name (i := 3) sc_law.nd rfl (by first | exact Or.inl rfl | exact Or.inr rfl)) pgs_nil))))
      (pss_cons (ps_if (pt_cmpR op_gt (pe_call (ok__law_roll T) (hr.mono (by decide)) (by rfl) T.g__law_roll T._law_roll.kp (b__law_roll T) .nil pass0 (pa_cons (pv 1) (pa_cons pe_int pa_nil))) pe_int (nomark _)) (pss_cons (ps_set (i := 2) sc_law.nd rfl (by first | exact Or.inl rfl | exact Or.inr rfl) (pe_lc (own := [("bar", 8)]) (g := (gName 8)) (tt := tYes) (by rfl) sc_law.nd (pi_list (pv 2)) (blkOk_by (own := [("bar", 8)]) (N := ["script", "dice", "bars", "desk", "part", "repeats", "good", "found", "bar", "one"]) (sc := defScope s_law) (by decide +kernel)) (fun _ _ _ _ _ => (pg_name (i := 8) sc_law.nd rfl (by first | exact Or.inl rfl | exact Or.inr rfl))) (fun _ _ _ _ _ => pts_nil) (fun _ _ _ _ _ => (pe_op (r := rCatU K) op_catU (pe_tup (pa_cons (pe_op op_add pe_int (pe_op op_mod (pe_ix (r := rIxT K) ix_tup (pv 8) pe_int (fun _ _ => rfl)) pe_int)) pa_nil)) (pe_slice (r := rSlU K) sl_tupU (pv 8) (po_some pe_int) po_none)))))
      (pss_one (ps_set (i := 3) sc_law.nd rfl (by first | exact Or.inl rfl | exact Or.inr rfl) (pe_op op_catU (pe_tup (pa_cons (pe_op op_add pe_int (pe_call (ok__law_roll T) (hr.mono (by decide)) (by rfl) T.g__law_roll T._law_roll.kp (b__law_roll T) .nil pass0 (pa_cons (pv 1) (pa_cons pe_int pa_nil)))) (pa_cons (pe_op op_add pe_int (pe_call (ok__law_roll T) (hr.mono (by decide)) (by rfl) T.g__law_roll T._law_roll.kp (b__law_roll T) .nil pass0 (pa_cons (pv 1) (pa_cons pe_int pa_nil)))) pa_nil))) (pe_slice sl_tupU (pv 3) (po_some pe_int) po_none))))) pss_nil)
      (pss_cons (ps_asg (pe_tup (pa_cons (pe_make T.mk_Part (ok_Part_init T) (hr.mono (by decide)) (by rfl) T.g_Part (b1_Part T) .nil pass0 (pa_cons (pv 2) pa_nil)) (pa_cons (pe_call (ok__law_repeats T) (hr.mono (by decide)) (by rfl) T.g__law_repeats T._law_repeats.kp (b__law_repeats T) .nil pass0 (pa_cons (pv 1) (pa_cons (pv 2) pa_nil))) pa_nil))) (pg_tup rfl (pgs_cons (pg_name (i := 4) sc_law.nd rfl (by first | exact Or.inl rfl | exact Or.inr rfl)) (pgs_cons (pg_name (i := 5) sc_law.nd rfl (by first | exact Or.inl rfl | exact Or.inr rfl)) pgs_nil))))
      (pss_cons (ps_if (PW.pt (pw_and (pt_cmpR (op_eqD hr.units) (pv 5) (pe_tup pa_nil) (nomark _)) (pw_and1 (pt_cmpR (op_neD hr.units) (pv 2) (pe_lst pa_nil) (nomark _))))) (pss_one (ps_set (i := 5) sc_law.nd rfl (by first | exact Or.inl rfl | exact Or.inr rfl) (pe_tup (pa_cons (pe_tup (pa_cons (pe_call (ok__law_roll T) (hr.mono (by decide)) (by rfl) T.g__law_roll T._law_roll.kp (b__law_roll T) .nil pass0 (pa_cons (pv 1) (pa_cons (pe_callB call_len (by rfl) T.b_len PySem.boot_len (pa_cons (pv 2) pa_nil)) pa_nil))) (pa_cons (pe_op op_sub (pe_callB call_len (by rfl) T.b_len PySem.boot_len (pa_cons (pv 2) pa_nil)) pe_int) pa_nil))) pa_nil)))) pss_nil)
      (pss_cons (ps_setLc (i := 6) (own := [("one", 9)]) (g := (gName 9))  (by rfl) sc_law.nd rfl rfl (sw_true rfl rfl rfl (by decide +kernel)) (pi_list (pe_call ((fun T => ok__law_all T 11) T) (hr.mono (by decide)) (by rfl) T.g__law_all T._law_all.kp (b__law_all T) .nil pass0 (pa_cons (pv 2) (pa_cons (pv 3) (pa_cons (pe_tup pa_nil) (pa_cons (pe_call (ok__law_first T) (hr.mono (by decide)) (by rfl) T.g__law_first T._law_first.kp (b__law_first T) .nil pass0 (pa_cons (pv 3) pa_nil)) pa_nil)))))) (blkOk_by (own := [("one", 9)]) (N := ["script", "dice", "bars", "desk", "part", "repeats", "good", "found", "bar", "one"]) (sc := defScope s_law) (by decide +kernel)) (fun _ _ _ _ _ => (pg_name (i := 9) sc_law.nd rfl (by first | exact Or.inl rfl | exact Or.inr rfl))) (fun _ _ _ _ _ => (pts_one (pt_val (pe_call (ok__law_plays T) (hr.mono (by decide)) (by rfl) T.g__law_plays T._law_plays.kp (b__law_plays T) .nil pass0 (pa_cons (pv 2) (pa_cons (pv 3) (pa_cons (pv 9) (pa_cons (pv 5) pa_nil)))))))) (fun _ _ _ _ _ => (pe_callB (r := rLenK K) call_len (by rfl) T.b_len PySem.boot_len (pa_cons (pv 9) pa_nil))))
      (pss_cons (ps_set (i := 7) sc_law.nd rfl (by first | exact Or.inl rfl | exact Or.inr rfl) (pe_call (ok_fewest_for T) (hr.mono (by decide)) (by rfl) T.g_fewest_for T.fewest_for.kp (b_fewest_for T) .nil pass0 (pa_cons (pv 4) (pa_cons (pv 3) (pa_cons (pv 5) pa_nil)))))
      (pss_cons (ps_if (PW.pt (pw_or (pt_cmpR op_ne (pv 7) (pe_ifExp (pt_cmpR (op_neD hr.units) (pv 6) (pe_lst pa_nil) (nomark _)) (pe_callB (cr_min rfl) (by rfl) T.b_min (by decide +kernel) (pa_cons (pv 6) pa_nil)) pe_non) (nomark _)) (pw_or1 (pt_val (pe_callB call_isi (by rfl) T.b_isinstance (by decide +kernel) (pa_cons (pv 7) (pa_cons (pe_bltn (v := .ty "bool") (by rfl) T.b_bool (by decide +kernel) rfl) pa_nil))))))) (pss_one (ps_ret pe_bl)) pss_nil)
      (pss_cons (ps_if (PW.pt (pw_and (pt_cmp (pc_notN (pv 7))) (pw_and1 (pt_cmpR op_lt (pv 7) (pe_call (ok_fewest T) (hr.mono (by decide)) (by rfl) T.g_fewest T.fewest.kp (b_fewest T) .nil pass0 (pa_cons (pv 4) (pa_cons (pv 3) pa_nil))) (nomark _))))) (pss_one (ps_ret pe_bl)) pss_nil)
      (pss_one (ps_if (pt_cmpR op_ne (pe_call (ok_fewest_for T) (hr.mono (by decide)) (by rfl) T.g_fewest_for T.fewest_for.kp (b_fewest_for T) .nil pass0 (pa_cons (pv 4) (pa_cons (pe_op op_catU (pe_slice sl_tupU (pv 3) po_none (po_some pe_int)) (pe_tup (pa_cons pe_int pa_nil))) (pa_cons (pe_tup pa_nil) pa_nil)))) (pe_call (ok_fewest T) (hr.mono (by decide)) (by rfl) T.g_fewest T.fewest.kp (b_fewest T) .nil pass0 (pa_cons (pv 4) (pa_cons (pe_op op_catU (pe_slice sl_tupU (pv 3) po_none (po_some pe_int)) (pe_tup (pa_cons pe_int pa_nil))) pa_nil))) (nomark _)) (pss_one (ps_ret pe_bl)) pss_nil)))))))))))
      (pss_one (ps_ret pe_bl))), ?_⟩
    refine ⟨_, rfl, a, ns, 2, rfl, hS, hlen, by decide, fun H1 R ds s1 nR hR hds hdl => ?_⟩
    refine ⟨R, rfl, ⟨_, .of hR⟩, for_list (xs := ds.map V.ref) (fun i σ H' => Rnd H' R ds ∧ ∃ y1 y2 y3 y4 y5 y6 y7 y8 y9, σ = [some (.ref a), y1, y2, y3, y4, y5, y6, y7, y8, y9]) ⟨⟨hR, hds⟩, none, none, none, none, none, none, none, none, none, rfl⟩ ?_ ?_ ?_⟩
    · rintro i σ H' _ ⟨h, _⟩
      exact .of h.1
    · rintro i v σ H0 hv ⟨hRnd, y1, y2, y3, y4, y5, y6, y7, y8, y9, rfl⟩
      obtain ⟨d, rfl, hd, hD0⟩ := hRnd.at hv
      refine ⟨_, rfl, d, 7, rfl, hD0, by decide, fun H2 B bs f2 hD2 nB row2 hbo hbl => ?_⟩
      have nBd : B ≠ d := new_ne hD0 nB
      refine ⟨_, rfl, d, rfl, hD2, fun x H3' k f3 hD3' hx' hk => ⟨by show (2 : Nat) ≤ sizeLine; decide, fun tp ntp => ⟨tp, _, rfl, .of upd_same, rfl, _, _, rfl, _, _, rfl, rfl, ?_⟩⟩⟩
      have stp := same_upd (o := .tup [.ref B, x]) ntp
      have row3 := (row2.fr f3 (by simp [nBd])).same stp
      have hD3 := hD3'.same stp
      have hx := dp_same stp hx'
      have f03 := (f2.trans f3).then stp
      generalize (upd H3' tp (.tup [.ref B, x])) = H3 at row3 hD3 hx f03 ⊢
      obtain ⟨dk3, rfl, hdk3⟩ := dp_desk hx
      with_reducible refine seq_cont (fun σ' G => ∃ (B : Addr) (bs : List Bar) (dk : Addr) (k : Desk) (z8 : Option V), σ' = [some (.ref a), some (.ref d), some (.ref B), some (.ref dk), y4, y5, y6, y7, z8, y9] ∧ DeskOk k ∧ Dp K G (.ref dk) (deskD k) ∧ Fr [d] H0 G ∧ Dice G d ∧ RowAt K G B bs ∧ B ≠ d ∧ (∀ b ∈ bs, BarOk b) ∧ bs.length ≤ 7) (fun cont => ?_) ?_
      · refine ⟨_, rfl, d, 3, rfl, hD3, by decide, by decide, fun H4 r4 f4 hD4 a4 b4 => ⟨_, _, rfl, rfl, _, rfl, ite2P (fun e0 => ?_) (fun e0 => cont _ _ ⟨B, bs, dk3, k, _, rfl, hk, f4.dp hx (isT_desk k), f03.trans f4, hD4, row3.fr f4 (by simp [nBd]), nBd, hbo, by omega⟩)⟩⟩
        obtain ⟨bv, hb1, hb2⟩ := id (row3.fr f4 (by simp [nBd]))
        have hbl2 := bars_len hb2
        refine ⟨_, rfl, B, rfl, ⟨_, .of hb1⟩, fun D nD => lc_list (K := K) (a := B) (xs := bv) (fun i H' => Same H4 H' ∧ RowAt K H' D ((bs.take i).map fun b => ⟨1 + b.w % 5, b.b, b.r⟩)) ⟨same_upd nD, [], upd_same, .nil⟩ ?_ ?_ ?_⟩
        · rintro i H' _ ⟨s', _⟩
          exact .of (s' _ _ hb1)
        · rintro i v H' hv ⟨s', ws, e, hws⟩
          obtain ⟨xb, pb, hxb, rfl, hpb⟩ := bar_at hb2 hv
          have okb := hbo xb (List.mem_of_getElem? hxb)
          have hi := (List.getElem?_eq_some_iff.mp hxb).1
          refine ⟨rfl, _, rfl, pb, _, _, _, rfl, rfl, same_sqt s' hpb, rfl, _, _, rfl, rfl, by show (0 : Int) < 5; decide, _, _, rfl, rfl, by show (1 : Nat) ≤ sizeLine; decide, fun c1 nc1 => ?_⟩
          have sc1 := same_upd (o := .tup [.int (1 + xb.w % 5)]) nc1
          refine ⟨_, rfl, _, rfl, pb, _, rfl, same_sqt (s'.trans sc1) hpb, fun c2 G2 s2' q2 => ?_⟩
          rw [show cutV (barV xb) (some 1) none = [.int xb.b, .bl xb.r] from rfl] at q2
          refine ⟨c1, c2, _, _, rfl, rfl, same_sqt s2' (.of upd_same), q2, by show (3 : Nat) ≤ sizeLine; decide, fun c3 G3 s3' q3 => ?_⟩
          have s'3 := (sc1.trans s2').trans s3'
          have e3 := s'3 _ _ e
          obtain ⟨row4, f4'⟩ := row_app (b := ⟨1 + xb.w % 5, xb.b, xb.r⟩) e3 (dpa_same s'3 hws) (dp_bar_of (x := ⟨1 + xb.w % 5, xb.b, xb.r⟩) q3)
          refine ⟨ws, e3, ?_, same_updR (s'.trans s'3) nD, ?_⟩
          · rw [bars_len hws, List.length_map, List.length_take]
            exact small5000 (by omega)
          · rw [take_at hxb, List.map_append]
            exact row4
        · rintro H5 ⟨s5, rowD⟩
          rw [hbl2, List.take_length] at rowD
          have hD5 := hD4.same s5
          have nDd : D ≠ d := new_ne hD4 nD
          refine ⟨_, rfl, d, 10, rfl, hD5, by decide, by decide, fun H6 r6 f6 hD6 a6 b6 => ⟨_, _, rfl, rfl, _, rfl, d, 20, rfl, hD6, by decide, by decide, fun H7 r7 f7 hD7 a7 b7 => ⟨_, _, rfl, rfl, by show (2 : Nat) ≤ sizeLine; decide, fun c nc => ?_⟩⟩⟩
          have sc := same_upd (o := .tup [.int (4 + r6), .int (1 + r7)]) nc
          have f57 := f6.trans f7
          have hdk7 := f57.sqt (same_sqt s5 (f4.sqt hdk3))
          refine ⟨_, rfl, _, rfl, dk3, _, rfl, same_sqt sc hdk7, fun c8 H8 s8 q8 => ⟨c, c8, _, _, rfl, rfl, same_sqt s8 (.of upd_same), q8, by show (4 : Nat) ≤ sizeLine; decide, fun c9 H9 s9 q9 => ?_⟩⟩
          have s79 := (sc.trans s8).trans s9
          refine cont _ _ ⟨D, _, c9, ⟨4 + r6, 1 + r7, k.side, k.empty⟩, _, rfl, ⟨by show 1 ≤ 4 + r6; omega, by show 4 + r6 ≤ 200; omega, by show 0 ≤ 1 + r7; omega, by show 1 + r7 ≤ 99; omega, hk.e0, hk.e1⟩, dp_desk_of q9, (((f03.trans f4).then s5).trans f57).then s79, hD7.same s79, (rowD.fr f57 (by simp [nDd])).same s79, nDd, fun b hb => ?_, ?_⟩
          · obtain ⟨b0, hb0, rfl⟩ := List.mem_map.mp hb
            have okb := hbo b0 hb0
            have h1 := Int.emod_nonneg b0.w (show (5 : Int) ≠ 0 by decide)
            have h2 := Int.emod_lt_of_pos b0.w (show (0 : Int) < 5 by decide)
            exact ⟨by show 1 ≤ 1 + b0.w % 5; omega, by show 1 + b0.w % 5 ≤ 40; omega, okb.2.2.1, okb.2.2.2⟩
          · rw [List.length_map]
            omega
      rintro σ' G ⟨B, bs, dk, k, z8, rfl, hk, hxG, f0G, hDG, rowG, nBd, hbo, hbl⟩
      -- part, repeats
      refine ⟨_, rfl, make_part (.inr ⟨B, rfl, rowG.dp⟩) hbo (by omega) fun G1 p q s1' np nq npq hp1 => ?_⟩
      have hD1 := hDG.same s1'
      refine ⟨_, rfl, _, rfl, d, B, bs, rfl, hD1, rowG.same s1', nBd, by omega, fun r0 G2 rs0 f2' hD2' hr0 hro0 hrl0 => ⟨by show (2 : Nat) ≤ sizeLine; decide, fun tq ntq => ⟨tq, _, rfl, .of upd_same, rfl, _, _, rfl, _, _, rfl, rfl, ?_⟩⟩⟩
      have stq := same_upd (o := .tup [.ref p, r0]) ntq
      have f13 := f2'.then stq
      have hp3 := hp1.fr hD1 f13
      have row3' := (rowG.same s1').fr f13 (by simp [nBd])
      have hx3' := f13.dp (dp_same s1' hxG) (isT_desk k)
      have hr3 := dp_same stq hr0
      have hD3' := hD2'.same stq
      have f0G3 := (f0G.then s1').trans f13
      generalize (upd G2 tq (.tup [.ref p, r0])) = G3 at f13 hp3 row3' hx3' hr3 hD3' f0G3 ⊢
      -- if repeats == () and bars != []
      with_reducible refine seq_cont (fun σ' G => ∃ (r : V) (rs : List (Nat × Nat)), σ' = [some (.ref a), some (.ref d), some (.ref B), some (.ref dk), some (.ref p), some r, y6, y7, z8, y9] ∧ Fr [d] G3 G ∧ Dice G d ∧ Dp K G r (.tuple (repsD rs)) ∧ RepOk bs.length 0 rs ∧ rs.length ≤ 6) (fun cont => ?_) ?_
      · refine ⟨_, rfl, by show (0 : Nat) ≤ sizeLine; decide, fun ce nce => ?_⟩
        have sce := same_upd (o := .tup []) nce
        refine ⟨_, .tuple [], dp_same sce hr3, .tup (.of upd_same) .nil, (shp_reps rs0).ok (by decide), (shp_tup (n := 0) shpA_nil).ok (by decide), _, rfl, ?_⟩
        cases rs0 with
        | cons q0 qr => exact iteF (iteF (cont _ _ ⟨_, q0 :: qr, rfl, Fr.of sce _, hD3'.same sce, dp_same sce hr3, hro0, by omega⟩))
        | nil =>
          refine iteT ⟨_, rfl, by show (0 : Nat) ≤ sizeLine; decide, fun c2 nc2 => ?_⟩
          have s2e := sce.trans (same_upd (o := .lst []) nc2)
          refine ⟨_, .list [], (row3'.same s2e).dp, .lst (.of upd_same) .nil, (shp_bars bs).ok (by decide), (shp_nil (n := 0)).ok (by decide), _, rfl, ?_⟩
          have hrE := dp_same s2e hr3
          have rowE := row3'.same s2e
          have hDE := hD3'.same s2e
          generalize (upd (upd G3 ce (.tup [])) c2 (.lst [])) = GE at s2e hrE rowE hDE ⊢
          by_cases hne : bs = []
          · rw [show PyData.eqv (.list (barsD bs)) (.list []) = true from eqv_nil.mpr (by rw [hne]; rfl)]
            exact iteF (cont _ _ ⟨_, [], rfl, Fr.of s2e _, hDE, hrE, hro0, by decide⟩)
          · rw [show PyData.eqv (.list (barsD bs)) (.list []) = false from Bool.eq_false_iff.mpr fun z => hne (List.map_eq_nil_iff.mp (eqv_nil.mp z))]
            have hpos : 0 < bs.length := List.length_pos_iff.mpr hne
            obtain ⟨bv, hb1, hb2⟩ := id rowE
            have hbl2 := bars_len hb2
            refine iteT ⟨_, rfl, _, rfl, _, _, rfl, .inl ⟨_, .of hb1, rfl⟩, d, _, rfl, hDE, by omega, by omega, fun G5 r5 f5 hD5 a5 b5 => ?_⟩
            obtain ⟨bv', hb1', hb2'⟩ := id (rowE.fr f5 (by simp [nBd]))
            have hbl3 := bars_len hb2'
            obtain ⟨rn, rfl⟩ := Int.eq_ofNat_of_zero_le a5
            have en : ((bv'.length : Nat) : Int) - 1 = ((bs.length - 1 : Nat) : Int) := by omega
            refine ⟨_, rfl, _, _, rfl, .inl ⟨_, .of hb1', rfl⟩, _, _, rfl, rfl, by show (2 : Nat) ≤ sizeLine; decide, fun c3 nc3 => ⟨by show (1 : Nat) ≤ sizeLine; decide, fun c4 nc4 => ?_⟩⟩
            have s3' := same_upd (o := .tup [.int (rn : Int), .int (((bv'.length : Nat) : Int) - 1)]) nc3
            have s4' := same_upd (o := .tup [.ref c3]) nc4
            refine cont _ _ ⟨.ref c4, [(rn, bs.length - 1)], rfl, ((Fr.of s2e [d]).trans f5).then (s3'.trans s4'), hD5.same (s3'.trans s4'), .tup (.of upd_same) (.cons (.tup (.of (s4' _ _ upd_same)) (.cons (.int _) (.cons ?_ .nil))) .nil), ⟨Nat.zero_le _, by omega, by omega, trivial⟩, by show (1 : Nat) ≤ 6; decide⟩
            show Dp K _ (.int (((bv'.length : Nat) : Int) - 1)) (.int ((bs.length - 1 : Nat) : Int))
            rw [en]
            exact .int _
      rintro σ' G4 ⟨r, rs, rfl, f34, hD4', hr4, hro, hrl⟩
      have hp4 := hp3.fr hD3' f34
      have row4 := row3'.fr f34 (by simp [nBd])
      have hx4 := f34.dp hx3' (isT_desk k)
      have f04 := f0G3.trans f34
      have hsz : sizeLine = 16777216 := sizeLine_eq
      clear hp3 row3' hx3' f0G3 hr3 hD3'
      have hke := hk.e1
      have hke0 := hk.e0
      have hm10 : mea bs k (first k) ≤ 10 := by
        show bs.length - 0 + (k.empty.toNat - 0) ≤ 10
        omega
      -- good
      with_reducible refine seq_cont (fun σ' G => ∃ (D : Addr) (gs : List (List Nat)) (y9 : Option V), σ' = [some (.ref a), some (.ref d), some (.ref B), some (.ref dk), some (.ref p), some r, some (.ref D), y7, z8, y9] ∧ Same G4 G ∧ G D = some (.lst ((gs.map fun x => ((x.length : Nat) : Int)).map V.int)) ∧ ∀ x, x ∈ gs ↔ ∃ t, Path bs k (first k) x t ∧ t.bar = bs.length ∧ playsL bs k x rs = true) (fun cont => ?_) ?_
      rotate_left
      · rintro σ' G6 ⟨D, gs, y9, rfl, s46, e6, hin⟩
        have hp6 := hp4.same s46
        have hx6 := dp_same s46 hx4
        have hr6 := dp_same s46 hr4
        have hR6 := hRnd.turn hd (f04.then s46) (hD4'.same s46)
        clear hp4 hx4 hr4 row4
        with_reducible refine seq_cont (fun σ' G => ∃ n, σ' = [some (.ref a), some (.ref d), some (.ref B), some (.ref dk), some (.ref p), some r, some (.ref D), some (natO n), z8, y9] ∧ Same G6 G ∧ LeastP bs k rs n) (fun cont => ?_) ?_
        · exact ⟨_, rfl, _, rfl, _, rfl, p, q, bs, [], _, r, k, rs, rfl, hp6, hx6, hk, hr6, hro, hrl, by omega, fun n G7 s7 hn => cont _ _ ⟨n, rfl, s7, hn⟩⟩
        rintro σ' G7 ⟨n, rfl, s7, hn⟩
        with_reducible refine seq_cont (fun σ' G => σ' = [some (.ref a), some (.ref d), some (.ref B), some (.ref dk), some (.ref p), some r, some (.ref D), some (natO n), z8, y9] ∧ Same G7 G) (fun cont => ?_) ?_
        · have hN : (n = none ∧ gs = []) ∨ ∃ m, n = some m ∧ gs ≠ [] ∧ ∀ j : Int, j ∈ (gs.map fun x => ((x.length : Nat) : Int)) → (∀ y, y ∈ (gs.map fun x => ((x.length : Nat) : Int)) → j ≤ y) → j = (m : Int) := by
            cases n with
            | none =>
              refine .inl ⟨rfl, List.eq_nil_iff_forall_not_mem.mpr fun x hx => ?_⟩
              obtain ⟨t, h1, h2, h3⟩ := (hin x).mp hx
              rw [hn x t h1 h2] at h3
              cases h3
            | some m =>
              obtain ⟨⟨row, t, h1, h2, h3, h4⟩, h5⟩ := hn
              have hm := (hin row).mpr ⟨t, h1, h2, h3⟩
              refine .inr ⟨m, rfl, (fun e => by rw [e] at hm; cases hm), fun j hj hle => ?_⟩
              obtain ⟨x, hx, rfl⟩ := List.mem_map.mp hj
              obtain ⟨t', g1, g2, g3⟩ := (hin x).mp hx
              have h6 := h5 x t' g1 g2 g3
              have h7 := hle _ (List.mem_map.mpr ⟨row, hm, rfl⟩)
              omega
          refine ⟨_, rfl, _, rfl, by show (0 : Nat) ≤ sizeLine; decide, fun c nc => ?_⟩
          have sc := same_upd (o := .lst []) nc
          refine ⟨_, .list [], .lst (.of (sc _ _ (s7 _ _ e6))) (dpa_ints _), .lst (.of upd_same) .nil, (shp_ints _).ok (by decide), (shp_nil (n := 0)).ok (by decide), _, rfl, ?_⟩
          rcases hN with ⟨rfl, rfl⟩ | ⟨m, rfl, hne, hmin⟩
          · exact iteF ⟨rfl, _, rfl, iteNN rfl ⟨_, rfl, _, _, _, _, _, rfl, .ty _, dp_ty .non, kit_bool _, _, rfl, iteF (cont _ _ ⟨rfl, sc⟩)⟩⟩
          · rw [show PyData.eqv (.list ((gs.map fun x => ((x.length : Nat) : Int)).map PyData.int)) (.list []) = false from Bool.eq_false_iff.mpr fun z => hne (List.map_eq_nil_iff.mp (List.map_eq_nil_iff.mp (eqv_nil.mp z)))]
            refine iteT ⟨_, rfl, D, _, rfl, .of (sc _ _ (s7 _ _ e6)), by rw [List.length_map]; exact List.length_pos_iff.mpr hne, fun j hj hle => ?_⟩
            have ej := hmin j hj hle
            subst ej
            exact ⟨rfl, _, rfl, iteNN rfl ⟨_, rfl, _, _, _, _, _, rfl, .ty _, dp_ty (.int _), kit_bool _, _, rfl, iteF (cont _ _ ⟨rfl, sc⟩)⟩⟩
        rintro σ' G8 ⟨rfl, s8⟩
        have s68 := s7.trans s8
        have hp8 := hp6.same s68
        have hx8 := dp_same s68 hx6
        have hR8 : Rnd G8 R ds := hRnd.turn hd (f04.then (s46.trans s68)) (hD4'.same (s46.trans s68))
        -- found is not None and found < fewest(part, desk)
        with_reducible refine seq_cont (fun σ' G => σ' = [some (.ref a), some (.ref d), some (.ref B), some (.ref dk), some (.ref p), some r, some (.ref D), some (natO n), z8, y9] ∧ Same G8 G) (fun cont => ?_) ?_
        · cases n with
          | none => exact ⟨_, rfl, _, rfl, iteF (iteF (cont _ _ ⟨rfl, Same.refl _⟩))⟩
          | some m =>
            refine ⟨_, rfl, _, rfl, iteT ⟨_, rfl, _, rfl, _, rfl, p, q, bs, [], _, k, rfl, hp8, hx8, hk, by omega, fun G9 g s9 hf hb => ?_⟩⟩
            obtain ⟨⟨row, t, h1, h2, h3, h4⟩, h5⟩ := hn
            cases hbo2 : bestOf bs.length g with
            | none => exact absurd h2 (best_none hf hbo2 _ _ h1)
            | some best =>
              have hle := (best_some hf hbo2).2 _ _ h1 h2
              refine ⟨_, _, rfl, rfl, _, rfl, iteN (by omega) (cont _ _ ⟨rfl, s9⟩)⟩
        rintro σ' G9 ⟨rfl, s9⟩
        have hp9 := hp8.same s9
        have hx9 := dp_same s9 hx8
        obtain ⟨dk', edk, hdk⟩ := dp_desk hx9
        cases edk
        -- no empty pages, nothing repeated
        have hk0 : DeskOk { k with empty := 0 } := by
          obtain ⟨a1, a2, a3, a4, a5, a6⟩ := hk
          exact ⟨a1, a2, a3, a4, Int.le_refl 0, by show (0 : Int) ≤ 3; decide⟩
        refine ⟨_, rfl, _, rfl, _, rfl, dk, _, rfl, hdk, fun c1 K1 t1 q1 => ⟨by show (1 : Nat) ≤ sizeLine; decide, fun c2 nc2 => ⟨c1, c2, _, _, rfl, rfl, same_sqt (same_upd nc2) q1, .of upd_same, by show (4 : Nat) ≤ sizeLine; decide, fun c3 K3 t3 q3 => ⟨by show (0 : Nat) ≤ sizeLine; decide, fun c4 nc4 => ?_⟩⟩⟩⟩
        have t93 := (t1.trans (same_upd nc2)).trans t3
        have t4 := same_upd (o := .tup []) nc4
        have t94 := t93.trans t4
        refine ⟨p, q, bs, [], _, _, { k with empty := 0 }, [], rfl, hp9.same t94, dp_desk_of (k := { k with empty := 0 }) (same_sqt t4 q3), hk0, .tup (.of upd_same) .nil, trivial, by decide, by omega, fun n0 K5 t5 hn0 => ?_⟩
        have t95 := t94.trans t5
        refine ⟨_, rfl, _, rfl, _, rfl, dk, _, rfl, same_sqt t95 hdk, fun c5 K6 t6 q6 => ⟨by show (1 : Nat) ≤ sizeLine; decide, fun c6 nc6 => ⟨c5, c6, _, _, rfl, rfl, same_sqt (same_upd nc6) q6, .of upd_same, by show (4 : Nat) ≤ sizeLine; decide, fun c7 K7 t7 q7 => ?_⟩⟩⟩
        have t97 := ((t95.trans t6).trans (same_upd nc6)).trans t7
        refine ⟨p, q, bs, [], _, { k with empty := 0 }, rfl, hp9.same t97, dp_desk_of (k := { k with empty := 0 }) q7, hk0, by omega, fun K8 g t8 hf hb => ?_⟩
        have en : natO n0 = lenOV (bestOf bs.length g) := least_plain hk0 rfl hn0 hf
        rw [en]
        have hRZ : Rnd K8 R ds := hR8.ext' (s9.trans (t97.trans t8))
        cases bestOf bs.length g with
        | none => exact ⟨rfl, _, rfl, iteNN rfl ⟨hRZ, _, _, _, _, _, _, _, _, _, rfl⟩⟩
        | some best => exact ⟨rfl, _, rfl, iteNN rfl ⟨hRZ, _, _, _, _, _, _, _, _, _, rfl⟩⟩
      refine ⟨_, rfl, _, rfl, by show (0 : Nat) ≤ sizeLine; decide, fun t0 nt0 => ?_⟩
      have st0 := same_upd (o := .tup []) nt0
      refine ⟨_, rfl, _, k, rfl, dp_same st0 hx4, fun c nc => ?_⟩
      have sc := same_upd (o := .tup (stateV ⟨0, k.side, 0⟩)) nc
      have s4c := st0.trans sc
      refine ⟨B, bs, _, _, _, k, [], first k, rfl, (row4.same s4c).dp, dp_same s4c hx4, .tup (.of (sc _ _ upd_same)) .nil, dp_state_of (.of upd_same), Nat.zero_le _, by omega, by omega, hbo, by omega, by decide, fun V1 vv G5 s5 hV1 hvv => ?_⟩
      have s45 := s4c.trans s5
      have hal : (allL bs k 11 [] (first k)).length ≤ 59049 := by
        refine Nat.le_trans (allL_len (Nat.zero_le _)) ?_
        have h4 : (3 : Nat) ^ 10 = 59049 := by decide
        rw [← h4]
        exact Nat.pow_le_pow_right (by decide) hm10
      have hvl := dpa_len hvv
      rw [List.length_map] at hvl
      refine ⟨V1, rfl, ⟨_, .of hV1⟩, fun D nD => lc_list (K := K) (a := V1) (xs := vv) (fun i H' => Same G5 H' ∧ H' D = some (.lst (((((allL bs k 11 [] (first k)).take i).filter fun x => playsL bs k x rs).map fun x => ((x.length : Nat) : Int)).map V.int))) ⟨same_upd nD, upd_same⟩ ?_ ?_ ?_⟩
      · rintro i H' _ ⟨s', _⟩
        exact .of (s' _ _ hV1)
      · rintro i v H' hv ⟨s', e⟩
        obtain ⟨dd, hd1, hd2⟩ := dpa_at hvv hv
        rw [List.getElem?_map] at hd1
        cases hrow : (allL bs k 11 [] (first k))[i]? with
        | none =>
          rw [hrow] at hd1
          cases hd1
        | some row =>
          rw [hrow] at hd1
          have e1 : PyData.tuple (numsD row) = dd := Option.some.inj hd1
          subst e1
          obtain ⟨row', t, er, hpt, htb⟩ := allL_sound (List.mem_of_getElem? hrow)
          rw [List.nil_append] at er
          subst er
          have hsum := path_bar hpt
          have hpl := path_len hpt
          have hst := (first_ok hk).path hpt
          have hu1 := hst.used
          have hz0 : (first k).bar = 0 := rfl
          have s4' := s45.trans s'
          obtain ⟨tv, rfl, htv⟩ := dp_nums (dp_same s' hd2)
          have tf : ((((allL bs k 11 [] (first k)).take (i + 1)).filter fun x => playsL bs k x rs).map fun x => ((x.length : Nat) : Int)) = ((((allL bs k 11 [] (first k)).take i).filter fun x => playsL bs k x rs).map fun x => ((x.length : Nat) : Int)) ++ (if playsL bs k row rs = true then [((row.length : Nat) : Int)] else []) := by
            rw [take_at hrow, List.filter_append, List.map_append]
            congr 1
            cases hpl2 : playsL bs k row rs with
            | true =>
              rw [if_pos rfl, List.filter_cons, hpl2]
              rfl
            | false =>
              rw [if_neg Bool.false_ne_true, List.filter_cons, hpl2]
              rfl
          refine ⟨rfl, _, rfl, _, rfl, _, rfl, _, rfl, B, bs, _, _, r, k, row, rs, rfl, (row4.same s4').dp, dp_same s4' hx4, hk, dp_same s' hd2, by omega, by omega, dp_same s4' hr4, hro, hrl, by omega, fun H6 s6 => ?_⟩
          cases hpl2 : playsL bs k row rs with
          | false =>
            refine ⟨_, rfl, iteF ⟨s'.trans s6, ?_⟩⟩
            rw [tf, hpl2, if_neg Bool.false_ne_true, List.append_nil]
            exact s6 _ _ e
          | true =>
            refine ⟨_, rfl, iteT ⟨_, rfl, _, _, rfl, .inr ⟨_, same_sqt s6 htv, rfl⟩, _, s6 _ _ e, ?_, same_updR (s'.trans s6) nD, ?_⟩⟩
            · rw [List.length_map, List.length_map]
              have h1 := List.length_filter_le (fun x => playsL bs k x rs) ((allL bs k 11 [] (first k)).take i)
              rw [List.length_take] at h1
              omega
            · rw [upd_same, tf, hpl2, if_pos rfl, List.map_append, List.length_map]
              rfl
      · rintro G6 ⟨s6, e6⟩
        rw [hvl, List.take_length] at e6
        have hin : ∀ x, x ∈ ((allL bs k 11 [] (first k)).filter fun x => playsL bs k x rs) ↔ ∃ t, Path bs k (first k) x t ∧ t.bar = bs.length ∧ playsL bs k x rs = true := by
          intro x
          rw [List.mem_filter]
          constructor
          · rintro ⟨h1, h2⟩
            obtain ⟨row', t, e1, e2, e3⟩ := allL_sound h1
            rw [List.nil_append] at e1
            subst e1
            exact ⟨t, e2, e3, h2⟩
          · rintro ⟨t, h1, h2, h3⟩
            have h4 := allL_all h1 h2 11 [] (by omega)
            rw [List.nil_append] at h4
            exact ⟨h4, h3⟩
        exact cont _ _ ⟨D, _, _, rfl, s45.trans s6, e6, hin⟩
    · rintro σ H' ⟨_, y1, y2, y3, y4, y5, y6, y7, y8, y9, rfl⟩
      exact z _
abbrev R : PySem.W.OpenRow := PySem.W.OpenLaw.row PySem.Challenge.rw_turnedleaves_k72_whole_fewest_that_play
def tf : List He.Defn := []
abbrev hk : PySem.W.Hook := He.hookX 6 fa fn [] tf ex
def ob (s : PySem.W.SharedT) : He.AlX := He.obsX 6 fa fn [] tf ex (HandSHeadRun.getT s)
theorem ob_eq (s : PySem.W.SharedT) : ob s = hk.obs s.abs := He.obsX_eq (HandSHeadRun.getT_eq s)
theorem run (w : World) : HandSHeadRun.RunEq R (PySem.W.view R.prog [51]) hk ob 20000 loose w := by
  intro os
  kernel_rfl
end TL
open PySem PySem.W PySem.Calls PyProof.Rows
set_option maxRecDepth 100000 in
set_option maxHeartbeats 0 in
theorem PySem.Challenge.cw_turnedleaves_k72_whole_fewest_that_play_holds : PySem.Challenge.rw_turnedleaves_k72_whole_fewest_that_play.Holds := by
  w_on; o_law
  refine HandSHeadRun.head_any (r := OpenLaw.row PySem.Challenge.rw_turnedleaves_k72_whole_fewest_that_play) (q := view (OpenLaw.row PySem.Challenge.rw_turnedleaves_k72_whole_fewest_that_play).prog [51]) (H := TL.hk) (ob := TL.ob) (M := 20000) (loose := TL.loose) (d := HandSHeadRun.topDef (OpenLaw.row PySem.Challenge.rw_turnedleaves_k72_whole_fewest_that_play).prog 51) (kwd := []) TL.ob_eq
    (by kernel_rfl) (fun s => by kernel_rfl) TL.run (by kernel_rfl) (by kernel_rfl) (by kernel_rfl) (by rfl) (by first | assumption | decide +kernel) (by decide +kernel) ⟨rfl, rfl, rfl, rfl, rfl, by decide +kernel⟩ ?hw ?hc
  case hw => w_witness2
  case hc =>
    refine L2.walk_ofE (l := PySem.Challenge.rw_turnedleaves_k72_whole_fewest_that_play) (n := 63) (k := 20) (x := "script") (CX := L2.CX0) rfl (by decide) (by kernel_rfl) ⟨rfl, by decide, by decide⟩ ?F (fun _ _ _ _ z => z)
    intro w mg fa h Y G hmg0
    obtain ⟨K, KX, c⟩ := Y
    have hmg : mg ("law" : PySem.Str) = some (.ref fa) := by
      have e : (HandSHeadRun.topDef (OpenLaw.row PySem.Challenge.rw_turnedleaves_k72_whole_fewest_that_play).prog 51).name = ("law" : PySem.Str) := by kernel_rfl
      rw [← e]
      exact hmg0
    have T : TL.Txt K mg := TL.txt_of KX G c
    have e := hmg.symm.trans T.g_law
    cases e
    have b := L2.FunD.bindsA (ps := ["script"]) T.law fun _ _ _ _ _ _ us hl => match us, hl with | [_], _ => rfl
    exact ⟨K, TL.fdOf K ("law", none), TL.sp_law K, KX, fun s v => b s [v] rfl, fun H a ns hl _ hS => ⟨a, ns, rfl, hS, hl, fun _ => rfl⟩, fun base _ _ => TL.ok_law T⟩
