import PyProof.Rows.All
import Wide.All
import OpenK.AllK
import Wide.FinOn
import KE.KStateDown
import Lean
import HandS.ForMost
import HandS.Exc
import HandS.TryOnly
import HandS.ExcOwn
import HandS.WordsExc
import HandS.More
import HandS.Flow
import HandS.Style
import HandS.IsInst
import HandS.Deep
import HandS.TupAny
import HandS.TupLe
import HandS.Wide
import HandS.FStr
import HandS.Zip
import HandS.Conv
import HandS.Codes
import HandS.OwnEq
import HandS.SortOrd
import HandS.DictTup
import HandS.Defaults
import HandS.Head0
import HandS.Head1
import HandS.Head2
import HandS.HeadEnd
import HandS.HeadHook1
import HandS.HeadHook2
import HandS.HeadHook3
import HandS.HeadHook4
import PySem.Challenge.RW_turnedleaves_k12_whole_rests
set_option Elab.async false
set_option linter.all false
set_option maxRecDepth 100000
set_option maxHeartbeats 4000000
namespace TL
open PySem PySem.Spec PyProof.Rows L2
/-! ### defs by name -/
def fdOf (K : PySem.W.Frag) (p : Str × Option Str) : FuncData := match K.lookup (He.fAd K p) with
  | some ⟨_, _, .func fd, _⟩ => fd
  | _ => PySem.W.fnOf "" "" { posonlyargs := [], args := [], vararg := none, kwonlyargs := [], kw_defaults := [], kwarg := none, defaults := [] } [] { kind := .function, names := [], isGenerator := false, isCoroutine := false } .none .none .none .none none .none .none
abbrev Df (K : PySem.W.Frag) (p : Str × Option Str) (x q : Str) (st : Stmt) (dv : List V) : Prop := FunD K x q (defArgs st) (defBody st) (defScope st) dv [] (He.fAd K p) (fdOf K p)
theorem df_of {K : PySem.W.Frag} {p : Str × Option Str} {x q : Str} {pa : Arguments} {bd : List Stmt} {sc : Scope} {dv : List V} {kw : List (Str × V)} (h : ∃ fd, FunD K x q pa bd sc dv kw (He.fAd K p) fd) : FunD K x q pa bd sc dv kw (He.fAd K p) (fdOf K p) := by
  obtain ⟨fd, F⟩ := h
  obtain ⟨oc, od, dV, kV, doc, pm, an, cdv, ct, osl, e, lk, _⟩ := id F.ex
  have e2 : fdOf K p = fd := by
    unfold fdOf
    rw [lk]
  rw [e2]
  exact F
abbrev OkF (P : Program) (w : World) (K : PySem.W.Frag) (mg : Str → Option Value) (base : Heap) (CX : CXT) (k : Nat) (p : Str × Option Str) (ps : List Str) (sp : Sp) : Prop := FnOk P w K mg base CX k (He.fAd K p) (fdOf K p) ps sp
section
variable {P : Program} {w : World} {K : PySem.W.Frag} {mg : Str → Option Value} {base : Heap} {x qual : Str} {params : Arguments} {body : List Stmt} {scope : Scope} {dvs : List V} {kws : List (Str × V)} {f : Addr} {fd : FuncData}
theorem okN {N ps : List Str} {k : Nat} {sp : Sp} (F : FunD K x qual params body scope dvs kws f fd) (S : FnScope N ps scope) (len : ∀ vs H Q E, sp vs H Q E → vs.length = ps.length)
    (hbody : ∀ (cdv : Value) (A : Around) (outer : List Env) (s : Shared) (H : Hp) (vs : List V) (Q : VK) (E : XK), Room k (A.deeper (envOfC qual scope s.heap.objs.size f cdv)) → sp vs H Q E →
      ∃ t, PSs (cxOf CX0 P w K mg base N qual scope f cdv A outer s H E).nox body t ∧ t { nx := fun _ H' => Q .non H', rt := Q } (start N vs) H) : FnOk P w K mg base CX0 (k + 1) f fd ps sp := by
  refine F.ok S len fun cdv A outer s H vs Q E hr hsp => ?_
  obtain ⟨t, h, q⟩ := hbody cdv A outer s H vs Q E hr hsp
  exact ⟨t, h.nox, q⟩
end
/-! ### heaps -/
theorem same_upd {H : Hp} {p : Addr} {o : HO} (h : H p = none) : Same H (upd H p o) := fun b x e => by
  rw [upd_ne (ne_of_none e h)]
  exact e
theorem same_updR {H H1 : Hp} {p : Addr} {o : HO} (s : Same H H1) (h : H p = none) : Same H (upd H1 p o) := fun b x e => by
  rw [upd_ne (ne_of_none e h)]
  exact s b x e
theorem same_sqt {K : PySem.W.Frag} {H H' : Hp} {a : Addr} {xs : List V} (e : Same H H') (h : SqT K H a xs) : SqT K H' a xs := by
  rcases h with (h | ⟨o, h⟩) | h
  · exact .inl (.inl (e _ _ h))
  · exact .inl (.inr ⟨o, e _ _ h⟩)
  · exact .inr h
/-- all that was tracked is as it was but at ds; tuples and what is locked stay -/
structure Fr (ds : List Addr) (H H' : Hp) : Prop where
  keep : ∀ b o, b ∉ ds → H b = some o → H' b = some o
  tu : ∀ b xs, H b = some (.tup xs) → H' b = some (.tup xs)
  fz : ∀ b o u, H b = some (.frz o u) → H' b = some (.frz o u)
theorem Fr.of {H H' : Hp} (s : Same H H') (ds : List Addr) : Fr ds H H' := ⟨fun b o _ e => s b o e, fun b xs e => s b _ e, fun b o u e => s b _ e⟩
theorem Fr.refl (ds : List Addr) (H : Hp) : Fr ds H H := Fr.of (Same.refl H) ds
theorem Fr.trans {ds : List Addr} {H H1 H2 : Hp} (a : Fr ds H H1) (b : Fr ds H1 H2) : Fr ds H H2 := ⟨fun c o n e => b.keep c o n (a.keep c o n e), fun c xs e => b.tu c xs (a.tu c xs e), fun c o u e => b.fz c o u (a.fz c o u e)⟩
theorem Fr.mono {ds es : List Addr} {H H1 : Hp} (a : Fr ds H H1) (h : ∀ d ∈ ds, d ∈ es) : Fr es H H1 := ⟨fun c o n e => a.keep c o (fun z => n (h c z)) e, a.tu, a.fz⟩
theorem Fr.same {H H' : Hp} (a : Fr [] H H') : Same H H' := fun b o e => a.keep b o (by simp) e
theorem Fr.upd {d : Addr} {ds : List Addr} {H : Hp} {o u : HO} (h : H d = some o) (m : Mut (some o)) (hd : d ∈ ds) : Fr ds H (L2.upd H d u) := by
  have ne : ∀ b v, H b = some v → ¬ Mut (some v) → b ≠ d := fun b v e nm z => by
    subst z
    rw [h] at e
    cases e
    exact nm m
  refine ⟨fun b v n e => ?_, fun b xs e => ?_, fun b ob w e => ?_⟩
  · rw [upd_ne (show b ≠ d from fun z => n (by rw [z]; exact hd))]
    exact e
  · rw [upd_ne (ne b _ e fun z => z)]
    exact e
  · rw [upd_ne (ne b _ e fun z => z)]
    exact e
theorem Fr.sqt {K : PySem.W.Frag} {ds : List Addr} {H H' : Hp} {a : Addr} {xs : List V} (e : Fr ds H H') (h : SqT K H a xs) : SqT K H' a xs := by
  rcases h with (h | ⟨o, h⟩) | h
  · exact .inl (.inl (e.tu _ _ h))
  · exact .inl (.inr ⟨o, e.fz _ _ _ h⟩)
  · exact .inr h
/-! ### data -/
mutual
/-- no list in it -/
def isT : PyData → Bool
  | .none => true
  | .bool _ => true
  | .int _ => true
  | .str _ => true
  | .list _ => false
  | .tuple xs => isTs xs
  | .dict _ => false
def isTs : List PyData → Bool
  | [] => true
  | x :: xs => isT x && isTs xs
end
section
variable {K : PySem.W.Frag} {H H' : Hp}
mutual
theorem dp_tu (e : ∀ a xs, SqT K H a xs → SqT K H' a xs) : ∀ {v : V} {d : PyData}, Dp K H v d → isT d = true → Dp K H' v d
  | _, _, .non, _ => .non
  | _, _, .bl b, _ => .bl b
  | _, _, .int i, _ => .int i
  | _, _, .str x, _ => .str x
  | _, _, .lst _ _, h => by cases h
  | _, _, .tup s a, h => .tup (e _ _ s) (dpa_tu e a h)
theorem dpa_tu (e : ∀ a xs, SqT K H a xs → SqT K H' a xs) : ∀ {vs : List V} {ds : List PyData}, DpAll K H vs ds → isTs ds = true → DpAll K H' vs ds
  | _, _, .nil, _ => .nil
  | _, _, .cons d r, h => by
    obtain ⟨h1, h2⟩ := Bool.and_eq_true_iff.mp h
    exact .cons (dp_tu e d h1) (dpa_tu e r h2)
end
mutual
theorem dp_same (e : Same H H') : ∀ {v : V} {d : PyData}, Dp K H v d → Dp K H' v d
  | _, _, .non => .non
  | _, _, .bl b => .bl b
  | _, _, .int i => .int i
  | _, _, .str x => .str x
  | _, _, .lst s a => .lst (e.seq s) (dpa_same e a)
  | _, _, .tup s a => .tup (same_sqt e s) (dpa_same e a)
theorem dpa_same (e : Same H H') : ∀ {vs : List V} {ds : List PyData}, DpAll K H vs ds → DpAll K H' vs ds
  | _, _, .nil => .nil
  | _, _, .cons d r => .cons (dp_same e d) (dpa_same e r)
end
theorem Fr.dp {ds : List Addr} (e : Fr ds H H') {v : V} {d : PyData} (h : Dp K H v d) (t : isT d = true) : Dp K H' v d := dp_tu (fun _ _ z => e.sqt z) h t
theorem Fr.dpa {ds : List Addr} (e : Fr ds H H') {vs : List V} {xs : List PyData} (h : DpAll K H vs xs) (t : isTs xs = true) : DpAll K H' vs xs := dpa_tu (fun _ _ z => e.sqt z) h t
theorem dpa_len : ∀ {vs : List V} {ds : List PyData}, DpAll K H vs ds → vs.length = ds.length
  | _, _, .nil => rfl
  | _, _, .cons _ r => congrArg Nat.succ (dpa_len r)
theorem dpa_at : ∀ {vs : List V} {ds : List PyData} {i : Nat} {v : V}, DpAll K H vs ds → vs[i]? = some v → ∃ d, ds[i]? = some d ∧ Dp K H v d
  | _, _, _, _, .nil, e => by simp at e
  | _, _, 0, _, .cons d r, e => by simp at e; subst e; exact ⟨_, rfl, d⟩
  | _, _, i + 1, v, .cons d r, e => by
    obtain ⟨d', h1, h2⟩ := dpa_at (i := i) (v := v) r (by simpa using e)
    exact ⟨d', by simpa using h1, h2⟩
theorem dpa_atD : ∀ {vs : List V} {ds : List PyData} {i : Nat} {d : PyData}, DpAll K H vs ds → ds[i]? = some d → ∃ v, vs[i]? = some v ∧ Dp K H v d
  | _, _, _, _, .nil, e => by simp at e
  | _, _, 0, _, .cons d r, e => by simp at e; subst e; exact ⟨_, rfl, d⟩
  | _, _, i + 1, v, .cons d r, e => by
    obtain ⟨d', h1, h2⟩ := dpa_atD (i := i) (d := v) r (by simpa using e)
    exact ⟨d', by simpa using h1, h2⟩
theorem dpa_app : ∀ {vs ws : List V} {ds es : List PyData}, DpAll K H vs ds → DpAll K H ws es → DpAll K H (vs ++ ws) (ds ++ es)
  | _, _, _, _, .nil, h => h
  | _, _, _, _, .cons d r, h => .cons d (dpa_app r h)
theorem dpa_snoc {vs : List V} {ds : List PyData} {v : V} {d : PyData} (h : DpAll K H vs ds) (e : Dp K H v d) : DpAll K H (vs ++ [v]) (ds ++ [d]) := dpa_app h (.cons e .nil)
theorem dpa_take : ∀ {vs : List V} {ds : List PyData} (n : Nat), DpAll K H vs ds → DpAll K H (vs.take n) (ds.take n)
  | _, _, 0, _ => .nil
  | _, _, _ + 1, .nil => .nil
  | _, _, n + 1, .cons d r => .cons d (dpa_take n r)
theorem dpa_drop : ∀ {vs : List V} {ds : List PyData} (n : Nat), DpAll K H vs ds → DpAll K H (vs.drop n) (ds.drop n)
  | _, _, 0, h => h
  | _, _, _ + 1, .nil => .nil
  | _, _, n + 1, .cons d r => dpa_drop n r
theorem dpa_rev : ∀ {vs : List V} {ds : List PyData}, DpAll K H vs ds → DpAll K H vs.reverse ds.reverse
  | _, _, .nil => .nil
  | _, _, .cons d r => by
    rw [List.reverse_cons, List.reverse_cons]
    exact dpa_snoc (dpa_rev r) d
theorem dpa1 {xs : List V} {d0 : PyData} (h : DpAll K H xs [d0]) : ∃ v0, xs = [v0] ∧ Dp K H v0 d0 := by
  cases h with
  | cons h0 r =>
    cases r
    exact ⟨_, rfl, h0⟩
theorem dpa2 {xs : List V} {d0 d1 : PyData} (h : DpAll K H xs [d0, d1]) : ∃ v0 v1, xs = [v0, v1] ∧ Dp K H v0 d0 ∧ Dp K H v1 d1 := by
  cases h with
  | cons h0 r =>
    cases r with
    | cons h1 r =>
      cases r
      exact ⟨_, _, rfl, h0, h1⟩
theorem dpa3 {xs : List V} {d0 d1 d2 : PyData} (h : DpAll K H xs [d0, d1, d2]) : ∃ v0 v1 v2, xs = [v0, v1, v2] ∧ Dp K H v0 d0 ∧ Dp K H v1 d1 ∧ Dp K H v2 d2 := by
  cases h with
  | cons h0 r =>
    cases r with
    | cons h1 r =>
      cases r with
      | cons h2 r =>
        cases r
        exact ⟨_, _, _, rfl, h0, h1, h2⟩
theorem dpa4 {xs : List V} {d0 d1 d2 d3 : PyData} (h : DpAll K H xs [d0, d1, d2, d3]) : ∃ v0 v1 v2 v3, xs = [v0, v1, v2, v3] ∧ Dp K H v0 d0 ∧ Dp K H v1 d1 ∧ Dp K H v2 d2 ∧ Dp K H v3 d3 := by
  cases h with
  | cons h0 r =>
    cases r with
    | cons h1 r =>
      cases r with
      | cons h2 r =>
        cases r with
        | cons h3 r =>
          cases r
          exact ⟨_, _, _, _, rfl, h0, h1, h2, h3⟩
theorem len3 {α : Type} {l : List α} (h : l.length = 3) : ∃ a b c, l = [a, b, c] := by
  match l, h with
  | [a, b, c], _ => exact ⟨a, b, c, rfl⟩
theorem len2 {α : Type} {l : List α} (h : l.length = 2) : ∃ a b, l = [a, b] := by
  match l, h with
  | [a, b], _ => exact ⟨a, b, rfl⟩
theorem len4 {α : Type} {l : List α} (h : l.length = 4) : ∃ a b c d, l = [a, b, c, d] := by
  match l, h with
  | [a, b, c, d], _ => exact ⟨a, b, c, d, rfl⟩
/-- the type's name -/
def tyD : PyData → String
  | .none => "NoneType"
  | .bool _ => "bool"
  | .int _ => "int"
  | .str _ => "str"
  | .list _ => "list"
  | .tuple _ => "tuple"
  | .dict _ => "dict"
theorem dp_ty {v : V} {d : PyData} (h : Dp K H v d) : TyX K H v (.type (tyD d)) := by
  cases h with
  | non => exact .base .non
  | bl b => exact .base (.bl b)
  | int i => exact .base (.int i)
  | str x => exact .base (.str x)
  | lst s a =>
    rcases s with (s | ⟨o, s⟩) | ⟨o, its, n, k, c, _⟩
    · exact .base (.lst s)
    · exact .base (.frz s)
    · exact .kList k c
  | tup s a =>
    rcases s with (s | ⟨o, s⟩) | ⟨o, its, n, k, c, _⟩
    · exact .base (.tup s)
    · exact .fTuple s
    · exact .kTuple k c
end
/-! ### tests of numbers -/
section
variable {A B : Prop} {i j : Int}
theorem iteEQ (h : i = j) (x : A) : if decide (V.int i = V.int j) = true then A else B := by
  rw [decide_eq_true (congrArg V.int h)]
  exact iteT x
theorem iteNQ (h : i ≠ j) (x : B) : if decide (V.int i = V.int j) = true then A else B := by
  rw [decide_eq_false (fun e => h (V.int.inj e))]
  exact iteF x
theorem iteNEQ (h : i ≠ j) (x : A) : if (!decide (V.int i = V.int j)) = true then A else B := by
  rw [decide_eq_false (fun e => h (V.int.inj e))]
  exact iteT x
theorem iteNNQ (h : i = j) (x : B) : if (!decide (V.int i = V.int j)) = true then A else B := by
  rw [decide_eq_true (congrArg V.int h)]
  exact iteF x
theorem ite2Q (h1 : i = j → A) (h2 : i ≠ j → B) : if decide (V.int i = V.int j) = true then A else B := by
  by_cases h : i = j
  · exact iteEQ h (h1 h)
  · exact iteNQ h (h2 h)
theorem ite2NQ (h1 : i ≠ j → A) (h2 : i = j → B) : if (!decide (V.int i = V.int j)) = true then A else B := by
  by_cases h : i = j
  · exact iteNNQ h (h2 h)
  · exact iteNEQ h (h1 h)
theorem iteP {c : Prop} [Decidable c] (h : c) (x : A) : if decide c = true then A else B := by
  rw [decide_eq_true h]
  exact iteT x
theorem iteN {c : Prop} [Decidable c] (h : ¬ c) (x : B) : if decide c = true then A else B := by
  rw [decide_eq_false h]
  exact iteF x
theorem ite2P {c : Prop} [Decidable c] (h1 : c → A) (h2 : ¬ c → B) : if decide c = true then A else B := by
  by_cases h : c
  · exact iteP h (h1 h)
  · exact iteN h (h2 h)
theorem iteNP {c : Prop} [Decidable c] (h : ¬ c) (x : A) : if (!decide c) = true then A else B := by
  rw [decide_eq_false h]
  exact iteT x
theorem iteNN {c : Prop} [Decidable c] (h : c) (x : B) : if (!decide c) = true then A else B := by
  rw [decide_eq_true h]
  exact iteF x
end
/-! ### isinstance -/
def isIntB : PyData → Bool
  | .int _ => true
  | .bool _ => true
  | _ => false
def isBoolB : PyData → Bool
  | .bool _ => true
  | _ => false
def isTupB : PyData → Bool
  | .tuple _ => true
  | _ => false
def isLstB : PyData → Bool
  | .list _ => true
  | _ => false
def isStrB : PyData → Bool
  | .str _ => true
  | _ => false
section
variable {K : PySem.W.Frag}
theorem kit_int : ∀ d : PyData, PySem.W.kitOne K (.type (tyD d)) (.type "int") = some (isIntB d)
  | .none => kit_ty (a := "NoneType") (b := "int") (r := false) (by decide +kernel)
  | .bool _ => kit_ty (a := "bool") (b := "int") (r := true) (by decide +kernel)
  | .int _ => kit_ty (a := "int") (b := "int") (r := true) (by decide +kernel)
  | .str _ => kit_ty (a := "str") (b := "int") (r := false) (by decide +kernel)
  | .list _ => kit_ty (a := "list") (b := "int") (r := false) (by decide +kernel)
  | .tuple _ => kit_ty (a := "tuple") (b := "int") (r := false) (by decide +kernel)
  | .dict _ => kit_ty (a := "dict") (b := "int") (r := false) (by decide +kernel)
theorem kit_bool : ∀ d : PyData, PySem.W.kitOne K (.type (tyD d)) (.type "bool") = some (isBoolB d)
  | .none => kit_ty (a := "NoneType") (b := "bool") (r := false) (by decide +kernel)
  | .bool _ => kit_ty (a := "bool") (b := "bool") (r := true) (by decide +kernel)
  | .int _ => kit_ty (a := "int") (b := "bool") (r := false) (by decide +kernel)
  | .str _ => kit_ty (a := "str") (b := "bool") (r := false) (by decide +kernel)
  | .list _ => kit_ty (a := "list") (b := "bool") (r := false) (by decide +kernel)
  | .tuple _ => kit_ty (a := "tuple") (b := "bool") (r := false) (by decide +kernel)
  | .dict _ => kit_ty (a := "dict") (b := "bool") (r := false) (by decide +kernel)
theorem kit_tup : ∀ d : PyData, PySem.W.kitOne K (.type (tyD d)) (.type "tuple") = some (isTupB d)
  | .none => kit_ty (a := "NoneType") (b := "tuple") (r := false) (by decide +kernel)
  | .bool _ => kit_ty (a := "bool") (b := "tuple") (r := false) (by decide +kernel)
  | .int _ => kit_ty (a := "int") (b := "tuple") (r := false) (by decide +kernel)
  | .str _ => kit_ty (a := "str") (b := "tuple") (r := false) (by decide +kernel)
  | .list _ => kit_ty (a := "list") (b := "tuple") (r := false) (by decide +kernel)
  | .tuple _ => kit_ty (a := "tuple") (b := "tuple") (r := true) (by decide +kernel)
  | .dict _ => kit_ty (a := "dict") (b := "tuple") (r := false) (by decide +kernel)
theorem kit_lst : ∀ d : PyData, PySem.W.kitOne K (.type (tyD d)) (.type "list") = some (isLstB d)
  | .none => kit_ty (a := "NoneType") (b := "list") (r := false) (by decide +kernel)
  | .bool _ => kit_ty (a := "bool") (b := "list") (r := false) (by decide +kernel)
  | .int _ => kit_ty (a := "int") (b := "list") (r := false) (by decide +kernel)
  | .str _ => kit_ty (a := "str") (b := "list") (r := false) (by decide +kernel)
  | .list _ => kit_ty (a := "list") (b := "list") (r := true) (by decide +kernel)
  | .tuple _ => kit_ty (a := "tuple") (b := "list") (r := false) (by decide +kernel)
  | .dict _ => kit_ty (a := "dict") (b := "list") (r := false) (by decide +kernel)
theorem kit_str : ∀ d : PyData, PySem.W.kitOne K (.type (tyD d)) (.type "str") = some (isStrB d)
  | .none => kit_ty (a := "NoneType") (b := "str") (r := false) (by decide +kernel)
  | .bool _ => kit_ty (a := "bool") (b := "str") (r := false) (by decide +kernel)
  | .int _ => kit_ty (a := "int") (b := "str") (r := false) (by decide +kernel)
  | .str _ => kit_ty (a := "str") (b := "str") (r := true) (by decide +kernel)
  | .list _ => kit_ty (a := "list") (b := "str") (r := false) (by decide +kernel)
  | .tuple _ => kit_ty (a := "tuple") (b := "str") (r := false) (by decide +kernel)
  | .dict _ => kit_ty (a := "dict") (b := "str") (r := false) (by decide +kernel)
theorem isi {H : Hp} {x : V} {d : PyData} {n : String} {b : Bool} {Q : VK} (hd : Dp K H x d) (hk : PySem.W.kitOne K (.type (tyD d)) (.type n) = some b) (q : Q (.bl b) H) : rIsi K [x, .ty n] H Q := ⟨x, .ty n, _, _, b, rfl, .ty _, dp_ty hd, hk, q⟩
end
/-- a tuple of the written part -/
def tupIs (K : PySem.W.Frag) (a : Addr) (vs : List V) : Bool := match K.lookup a with
  | some ⟨.type c, _, .seq its _, _⟩ => decide (c = "tuple") && (decide (its.size ≤ sizeLine) && He.relAll vs its.toList)
  | _ => false
theorem tupIs_ok {K : PySem.W.Frag} {a : Addr} {vs : List V} (h : tupIs K a vs = true) (H : Hp) : SqT K H a vs := by
  unfold tupIs at h
  cases q : K.lookup a with
  | none =>
    rw [q] at h
    cases h
  | some o =>
    obtain ⟨oc, od, dt, osl⟩ := o
    rw [q] at h
    cases oc with
    | type c =>
      cases dt with
      | seq its n =>
        obtain ⟨h1, h2⟩ := He.ba h
        obtain ⟨h3, h4⟩ := He.ba h2
        exact .inr ⟨_, its, n, q, congrArg Value.type (of_decide_eq_true h1), rfl, of_decide_eq_true h3, He.relAll_ok h4⟩
      | _ => cases h
    | _ => cases dt <;> cases h
def topS (i : Nat) : Stmt := PySem.Challenge.pw_turnedleaves_k12_whole_rests.main.body.getD i (.Pass ⟨0, 0, 0, 0⟩)
abbrev s__wall : Stmt := topS 0
abbrev s_is_number : Stmt := topS 8
abbrev s_is_bar : Stmt := topS 9
abbrev s_beats_of : Stmt := topS 10
abbrev s_Part_init : Stmt := inClass (topS 11) 0
abbrev s_Part_len : Stmt := inClass (topS 11) 1
abbrev s_Part_eq : Stmt := inClass (topS 11) 2
abbrev s_Part_str : Stmt := inClass (topS 11) 3
abbrev s_Part_bars : Stmt := inClass (topS 11) 4
abbrev s_Part_becomes : Stmt := inClass (topS 11) 5
abbrev s_Part_put : Stmt := inClass (topS 11) 6
abbrev s_Part_drop : Stmt := inClass (topS 11) 7
abbrev s_Part_take_back : Stmt := inClass (topS 11) 8
abbrev s_Part_ahead : Stmt := inClass (topS 11) 9
abbrev s_Part_behind : Stmt := inClass (topS 11) 10
abbrev s_Part_rest : Stmt := inClass (topS 11) 11
abbrev s_Part_wide : Stmt := inClass (topS 11) 12
abbrev s__law_cell : Stmt := topS 13
abbrev s__law_drawn : Stmt := topS 14
abbrev s__law_roll : Stmt := topS 15
abbrev s__law_rounds : Stmt := topS 16
abbrev s__law_run : Stmt := topS 17
abbrev s__law_rest : Stmt := topS 18
abbrev s_law : Stmt := topS 19
def dd_is_number : He.DefD := ⟨("is_number", none), "is_number", "is_number", defArgs s_is_number, defBody s_is_number, defScope s_is_number, [], []⟩
def dd_is_bar : He.DefD := ⟨("is_bar", none), "is_bar", "is_bar", defArgs s_is_bar, defBody s_is_bar, defScope s_is_bar, [], []⟩
def dd_beats_of : He.DefD := ⟨("beats_of", none), "beats_of", "beats_of", defArgs s_beats_of, defBody s_beats_of, defScope s_beats_of, [], []⟩
def dd_Part_init : He.DefD := ⟨("Part", some "__init__"), "__init__", "Part.__init__", defArgs s_Part_init, defBody s_Part_init, defScope s_Part_init, [.non], []⟩
def dd_Part_len : He.DefD := ⟨("Part", some "__len__"), "__len__", "Part.__len__", defArgs s_Part_len, defBody s_Part_len, defScope s_Part_len, [], []⟩
def dd_Part_eq : He.DefD := ⟨("Part", some "__eq__"), "__eq__", "Part.__eq__", defArgs s_Part_eq, defBody s_Part_eq, defScope s_Part_eq, [], []⟩
def dd_Part_str : He.DefD := ⟨("Part", some "__str__"), "__str__", "Part.__str__", defArgs s_Part_str, defBody s_Part_str, defScope s_Part_str, [], []⟩
def dd_Part_bars : He.DefD := ⟨("Part", some "bars"), "bars", "Part.bars", defArgs s_Part_bars, defBody s_Part_bars, defScope s_Part_bars, [], []⟩
def dd_Part_becomes : He.DefD := ⟨("Part", some "becomes"), "becomes", "Part.becomes", defArgs s_Part_becomes, defBody s_Part_becomes, defScope s_Part_becomes, [], []⟩
def dd_Part_put : He.DefD := ⟨("Part", some "put"), "put", "Part.put", defArgs s_Part_put, defBody s_Part_put, defScope s_Part_put, [], []⟩
def dd_Part_drop : He.DefD := ⟨("Part", some "drop"), "drop", "Part.drop", defArgs s_Part_drop, defBody s_Part_drop, defScope s_Part_drop, [], []⟩
def dd_Part_ahead : He.DefD := ⟨("Part", some "ahead"), "ahead", "Part.ahead", defArgs s_Part_ahead, defBody s_Part_ahead, defScope s_Part_ahead, [], []⟩
def dd_Part_behind : He.DefD := ⟨("Part", some "behind"), "behind", "Part.behind", defArgs s_Part_behind, defBody s_Part_behind, defScope s_Part_behind, [], []⟩
def dd_Part_rest : He.DefD := ⟨("Part", some "rest"), "rest", "Part.rest", defArgs s_Part_rest, defBody s_Part_rest, defScope s_Part_rest, [], []⟩
def dd__law_cell : He.DefD := ⟨("_law_cell", none), "_law_cell", "_law_cell", defArgs s__law_cell, defBody s__law_cell, defScope s__law_cell, [], []⟩
def dd__law_drawn : He.DefD := ⟨("_law_drawn", none), "_law_drawn", "_law_drawn", defArgs s__law_drawn, defBody s__law_drawn, defScope s__law_drawn, [], []⟩
def dd__law_roll : He.DefD := ⟨("_law_roll", none), "_law_roll", "_law_roll", defArgs s__law_roll, defBody s__law_roll, defScope s__law_roll, [], []⟩
def dd__law_rounds : He.DefD := ⟨("_law_rounds", none), "_law_rounds", "_law_rounds", defArgs s__law_rounds, defBody s__law_rounds, defScope s__law_rounds, [], []⟩
def dd__law_run : He.DefD := ⟨("_law_run", none), "_law_run", "_law_run", defArgs s__law_run, defBody s__law_run, defScope s__law_run, [], []⟩
def dd__law_rest : He.DefD := ⟨("_law_rest", none), "_law_rest", "_law_rest", defArgs s__law_rest, defBody s__law_rest, defScope s__law_rest, [], []⟩
def dd_law : He.DefD := ⟨("law", none), "law", "law", defArgs s_law, defBody s_law, defScope s_law, [], []⟩
def fn_0 : List He.DefD := [dd_is_number, dd_is_bar, dd_beats_of, dd_Part_init, dd_Part_len, dd_Part_eq, dd_Part_str, dd_Part_bars, dd_Part_becomes, dd_Part_put, dd_Part_drop, dd_Part_ahead, dd_Part_behind, dd_Part_rest, dd__law_cell, dd__law_drawn, dd__law_roll, dd__law_rounds, dd__law_run, dd__law_rest, dd_law]
def fn : List He.DefD := fn_0
def fa_0 : List He.Fa := [.glo "is_number", .glo "is_bar", .glo "beats_of", .glo "_law_cell", .glo "_law_drawn", .glo "_law_roll", .glo "_law_rounds", .glo "_law_run", .glo "_law_rest", .glo "law", .free "len", .free "isinstance", .free "range", .free "list", .free "all", .free "int", .free "bool", .free "str", .free "tuple", .free "max", .free "min", .free "ValueError", .int "MOST" 40, .glo "LeafError", .glo "BadBar"]
def fa_1 : List He.Fa := [.glo "BadPlace", .glo "Full", .cls "Part", .mkr "Part", .noat "Part" "row", .noat "Part" "past", .meth "Part" "__init__", .meth "Part" "__len__", .meth "Part" "__eq__", .meth "Part" "__str__", .meth "Part" "bars", .meth "Part" "becomes", .meth "Part" "put", .meth "Part" "drop", .meth "Part" "ahead", .meth "Part" "behind", .meth "Part" "rest", .glo "Part"]
def fa : List He.Fa := fa_0 ++ fa_1
def exs_0 : List (PySem.W.Frag → Bool) := [(fun K => He.eqO (PySem.W.findIn K (.ref (He.ga K "Part")) "__class__") (some (some (.builtin "object.__class__")))), (fun K => He.eqO (PySem.W.specialIn K (.builtin "object.__class__") "__get__") (some (some (.builtin "getset_descriptor.__get__")))), (fun K => decide (PySem.W.takesIn K (.builtin "object.__class__") = some true)), (fun K => decide (PySem.W.mroIn K (He.ga K "Part") (.type "object") = some true)), (fun K => decide (PySem.W.kitOne K (.ref (He.ga K "Part")) (.ref (He.ga K "Part")) = some true)), (fun K => decide (PySem.W.kitOne K (.type "NoneType") (.ref (He.ga K "Part")) = some false)), (fun K => decide (PySem.W.kitOne K (.type "bool") (.ref (He.ga K "Part")) = some false)), (fun K => decide (PySem.W.kitOne K (.type "int") (.ref (He.ga K "Part")) = some false)), (fun K => decide (PySem.W.kitOne K (.type "str") (.ref (He.ga K "Part")) = some false)), (fun K => decide (PySem.W.kitOne K (.type "list") (.ref (He.ga K "Part")) = some false)), (fun K => decide (PySem.W.kitOne K (.type "tuple") (.ref (He.ga K "Part")) = some false)), (fun K => decide (PySem.W.kitOne K (.ref (He.ga K "Part")) (.type "list") = some false)), (fun K => decide (PySem.W.kitOne K (.ref (He.ga K "Part")) (.type "tuple") = some false)), (fun K => decide (PySem.W.kitOne K (.ref (He.ga K "Part")) (.type "int") = some false)), (fun K => decide (PySem.W.kitOne K (.ref (He.ga K "Part")) (.type "bool") = some false)), (fun K => decide (PySem.W.kitOne K (.ref (He.ga K "Part")) (.type "str") = some false)), (fun K => He.eqO (PySem.W.findIn K (.ref (He.ga K "Part")) "__ne__") (some (some (.builtin "object.__ne__")))), (fun K => PySem.W.notFirst K (He.ga K "Part") (.type "NoneType")), (fun K => PySem.W.notFirst K (He.ga K "Part") (.type "bool")), (fun K => PySem.W.notFirst K (He.ga K "Part") (.type "int")), (fun K => PySem.W.notFirst K (He.ga K "Part") (.type "str")), (fun K => PySem.W.notFirst K (He.ga K "Part") (.type "list")), (fun K => PySem.W.notFirst K (He.ga K "Part") (.type "tuple"))]
def exs : List (PySem.W.Frag → Bool) := exs_0
def loose_0 : List PySem.Str := ["_wall", "LeafError", "BadBar", "BadPlace", "Full", "MOST", "is_number", "is_bar", "beats_of", "Part", "_law_cell", "_law_drawn", "_law_roll", "_law_rounds", "_law_run", "_law_rest"]
def loose : List PySem.Str := loose_0
structure Txt (K : PySem.W.Frag) (mg : Str → Option Value) : Prop where
  is_number : Df K ("is_number", none) "is_number" "is_number" s_is_number []
  is_bar : Df K ("is_bar", none) "is_bar" "is_bar" s_is_bar []
  beats_of : Df K ("beats_of", none) "beats_of" "beats_of" s_beats_of []
  Part_init : Df K ("Part", some "__init__") "__init__" "Part.__init__" s_Part_init [.non]
  Part_len : Df K ("Part", some "__len__") "__len__" "Part.__len__" s_Part_len []
  Part_eq : Df K ("Part", some "__eq__") "__eq__" "Part.__eq__" s_Part_eq []
  Part_str : Df K ("Part", some "__str__") "__str__" "Part.__str__" s_Part_str []
  Part_bars : Df K ("Part", some "bars") "bars" "Part.bars" s_Part_bars []
  Part_becomes : Df K ("Part", some "becomes") "becomes" "Part.becomes" s_Part_becomes []
  Part_put : Df K ("Part", some "put") "put" "Part.put" s_Part_put []
  Part_drop : Df K ("Part", some "drop") "drop" "Part.drop" s_Part_drop []
  Part_ahead : Df K ("Part", some "ahead") "ahead" "Part.ahead" s_Part_ahead []
  Part_behind : Df K ("Part", some "behind") "behind" "Part.behind" s_Part_behind []
  Part_rest : Df K ("Part", some "rest") "rest" "Part.rest" s_Part_rest []
  _law_cell : Df K ("_law_cell", none) "_law_cell" "_law_cell" s__law_cell []
  _law_drawn : Df K ("_law_drawn", none) "_law_drawn" "_law_drawn" s__law_drawn []
  _law_roll : Df K ("_law_roll", none) "_law_roll" "_law_roll" s__law_roll []
  _law_rounds : Df K ("_law_rounds", none) "_law_rounds" "_law_rounds" s__law_rounds []
  _law_run : Df K ("_law_run", none) "_law_run" "_law_run" s__law_run []
  _law_rest : Df K ("_law_rest", none) "_law_rest" "_law_rest" s__law_rest []
  law : Df K ("law", none) "law" "law" s_law []
  g_is_number : mg "is_number" = some (.ref (He.fAd K ("is_number", none)))
  g_is_bar : mg "is_bar" = some (.ref (He.fAd K ("is_bar", none)))
  g_beats_of : mg "beats_of" = some (.ref (He.fAd K ("beats_of", none)))
  g__law_cell : mg "_law_cell" = some (.ref (He.fAd K ("_law_cell", none)))
  g__law_drawn : mg "_law_drawn" = some (.ref (He.fAd K ("_law_drawn", none)))
  g__law_roll : mg "_law_roll" = some (.ref (He.fAd K ("_law_roll", none)))
  g__law_rounds : mg "_law_rounds" = some (.ref (He.fAd K ("_law_rounds", none)))
  g__law_run : mg "_law_run" = some (.ref (He.fAd K ("_law_run", none)))
  g__law_rest : mg "_law_rest" = some (.ref (He.fAd K ("_law_rest", none)))
  g_law : mg "law" = some (.ref (He.fAd K ("law", none)))
  b_len : mg "len" = none
  b_isinstance : mg "isinstance" = none
  b_range : mg "range" = none
  b_list : mg "list" = none
  b_all : mg "all" = none
  b_int : mg "int" = none
  b_bool : mg "bool" = none
  b_str : mg "str" = none
  b_tuple : mg "tuple" = none
  b_max : mg "max" = none
  b_min : mg "min" = none
  b_ValueError : mg "ValueError" = none
  c_MOST : ∃ t, mg "MOST" = some (.int 40 t)
  g_LeafError : mg "LeafError" = some (.ref (He.ga K "LeafError"))
  g_BadBar : mg "BadBar" = some (.ref (He.ga K "BadBar"))
  g_BadPlace : mg "BadPlace" = some (.ref (He.ga K "BadPlace"))
  g_Full : mg "Full" = some (.ref (He.ga K "Full"))
  cl_Part : Cls K (He.ga K "Part")
  mk_Part : Mk K (He.ga K "Part") (He.fAd K ("Part", some "__init__"))
  n_row : NoAttr K (He.ga K "Part") "row"
  n_past : NoAttr K (He.ga K "Part") "past"
  m_Part_init : Meth K (He.ga K "Part") "__init__" (He.fAd K ("Part", some "__init__"))
  m_Part_len : Meth K (He.ga K "Part") "__len__" (He.fAd K ("Part", some "__len__"))
  m_Part_eq : Meth K (He.ga K "Part") "__eq__" (He.fAd K ("Part", some "__eq__"))
  m_Part_str : Meth K (He.ga K "Part") "__str__" (He.fAd K ("Part", some "__str__"))
  m_Part_bars : Meth K (He.ga K "Part") "bars" (He.fAd K ("Part", some "bars"))
  m_Part_becomes : Meth K (He.ga K "Part") "becomes" (He.fAd K ("Part", some "becomes"))
  m_Part_put : Meth K (He.ga K "Part") "put" (He.fAd K ("Part", some "put"))
  m_Part_drop : Meth K (He.ga K "Part") "drop" (He.fAd K ("Part", some "drop"))
  m_Part_ahead : Meth K (He.ga K "Part") "ahead" (He.fAd K ("Part", some "ahead"))
  m_Part_behind : Meth K (He.ga K "Part") "behind" (He.fAd K ("Part", some "behind"))
  m_Part_rest : Meth K (He.ga K "Part") "rest" (He.fAd K ("Part", some "rest"))
  k_class : PySem.W.findIn K (.ref (He.ga K "Part")) "__class__" = some (some (.builtin "object.__class__"))
  k_get : PySem.W.specialIn K (.builtin "object.__class__") "__get__" = some (some (.builtin "getset_descriptor.__get__"))
  k_takes : PySem.W.takesIn K (.builtin "object.__class__") = some true
  k_mro : PySem.W.mroIn K (He.ga K "Part") (.type "object") = some true
  k_self : PySem.W.kitOne K (.ref (He.ga K "Part")) (.ref (He.ga K "Part")) = some true
  k_NoneType : PySem.W.kitOne K (.type "NoneType") (.ref (He.ga K "Part")) = some false
  k_bool : PySem.W.kitOne K (.type "bool") (.ref (He.ga K "Part")) = some false
  k_int : PySem.W.kitOne K (.type "int") (.ref (He.ga K "Part")) = some false
  k_str : PySem.W.kitOne K (.type "str") (.ref (He.ga K "Part")) = some false
  k_list : PySem.W.kitOne K (.type "list") (.ref (He.ga K "Part")) = some false
  k_tuple : PySem.W.kitOne K (.type "tuple") (.ref (He.ga K "Part")) = some false
  k_nolist : PySem.W.kitOne K (.ref (He.ga K "Part")) (.type "list") = some false
  k_notuple : PySem.W.kitOne K (.ref (He.ga K "Part")) (.type "tuple") = some false
  k_noint : PySem.W.kitOne K (.ref (He.ga K "Part")) (.type "int") = some false
  k_nobool : PySem.W.kitOne K (.ref (He.ga K "Part")) (.type "bool") = some false
  k_nostr : PySem.W.kitOne K (.ref (He.ga K "Part")) (.type "str") = some false
  k_ne : PySem.W.findIn K (.ref (He.ga K "Part")) "__ne__" = some (some (.builtin "object.__ne__"))
  k_first_NoneType : PySem.W.notFirst K (He.ga K "Part") (.type "NoneType") = true
  k_first_bool : PySem.W.notFirst K (He.ga K "Part") (.type "bool") = true
  k_first_int : PySem.W.notFirst K (He.ga K "Part") (.type "int") = true
  k_first_str : PySem.W.notFirst K (He.ga K "Part") (.type "str") = true
  k_first_list : PySem.W.notFirst K (He.ga K "Part") (.type "list") = true
  k_first_tuple : PySem.W.notFirst K (He.ga K "Part") (.type "tuple") = true
  g_Part : mg "Part" = some (.ref (He.ga K "Part"))
def ex (K : PySem.W.Frag) : Bool := exs.all fun f => f K
theorem exAt {K : PySem.W.Frag} (h : ex K = true) (i : Nat) {f : PySem.W.Frag → Bool} (e : exs[i]? = some f) : f K = true := List.all_eq_true.mp h f (List.mem_of_getElem? e)
theorem txt_of {tf : List He.Defn} {w : World} {h h0 : Heap} {K : PySem.W.Frag} {mg : Str → Option Value} (X : K.In h) (G : h.Ns mainGlobals mg) (c : He.SaysX fa fn [] tf ex w h0 K) : Txt K mg := ⟨df_of (c.t.d.defs (d := dd_is_number) (by simp [fn, fn_0])),
  df_of (c.t.d.defs (d := dd_is_bar) (by simp [fn, fn_0])),
  df_of (c.t.d.defs (d := dd_beats_of) (by simp [fn, fn_0])),
  df_of (c.t.d.defs (d := dd_Part_init) (by simp [fn, fn_0])),
  df_of (c.t.d.defs (d := dd_Part_len) (by simp [fn, fn_0])),
  df_of (c.t.d.defs (d := dd_Part_eq) (by simp [fn, fn_0])),
  df_of (c.t.d.defs (d := dd_Part_str) (by simp [fn, fn_0])),
  df_of (c.t.d.defs (d := dd_Part_bars) (by simp [fn, fn_0])),
  df_of (c.t.d.defs (d := dd_Part_becomes) (by simp [fn, fn_0])),
  df_of (c.t.d.defs (d := dd_Part_put) (by simp [fn, fn_0])),
  df_of (c.t.d.defs (d := dd_Part_drop) (by simp [fn, fn_0])),
  df_of (c.t.d.defs (d := dd_Part_ahead) (by simp [fn, fn_0])),
  df_of (c.t.d.defs (d := dd_Part_behind) (by simp [fn, fn_0])),
  df_of (c.t.d.defs (d := dd_Part_rest) (by simp [fn, fn_0])),
  df_of (c.t.d.defs (d := dd__law_cell) (by simp [fn, fn_0])),
  df_of (c.t.d.defs (d := dd__law_drawn) (by simp [fn, fn_0])),
  df_of (c.t.d.defs (d := dd__law_roll) (by simp [fn, fn_0])),
  df_of (c.t.d.defs (d := dd__law_rounds) (by simp [fn, fn_0])),
  df_of (c.t.d.defs (d := dd__law_run) (by simp [fn, fn_0])),
  df_of (c.t.d.defs (d := dd__law_rest) (by simp [fn, fn_0])),
  df_of (c.t.d.defs (d := dd_law) (by simp [fn, fn_0])),
  He.glo_ok X G (c.t.d.facts (f := .glo "is_number") (by simp [fa, fa_0])),
  He.glo_ok X G (c.t.d.facts (f := .glo "is_bar") (by simp [fa, fa_0])),
  He.glo_ok X G (c.t.d.facts (f := .glo "beats_of") (by simp [fa, fa_0])),
  He.glo_ok X G (c.t.d.facts (f := .glo "_law_cell") (by simp [fa, fa_0])),
  He.glo_ok X G (c.t.d.facts (f := .glo "_law_drawn") (by simp [fa, fa_0])),
  He.glo_ok X G (c.t.d.facts (f := .glo "_law_roll") (by simp [fa, fa_0])),
  He.glo_ok X G (c.t.d.facts (f := .glo "_law_rounds") (by simp [fa, fa_0])),
  He.glo_ok X G (c.t.d.facts (f := .glo "_law_run") (by simp [fa, fa_0])),
  He.glo_ok X G (c.t.d.facts (f := .glo "_law_rest") (by simp [fa, fa_0])),
  He.glo_ok X G (c.t.d.facts (f := .glo "law") (by simp [fa, fa_0])),
  He.free_ok X G (c.t.d.facts (f := .free "len") (by simp [fa, fa_0])),
  He.free_ok X G (c.t.d.facts (f := .free "isinstance") (by simp [fa, fa_0])),
  He.free_ok X G (c.t.d.facts (f := .free "range") (by simp [fa, fa_0])),
  He.free_ok X G (c.t.d.facts (f := .free "list") (by simp [fa, fa_0])),
  He.free_ok X G (c.t.d.facts (f := .free "all") (by simp [fa, fa_0])),
  He.free_ok X G (c.t.d.facts (f := .free "int") (by simp [fa, fa_0])),
  He.free_ok X G (c.t.d.facts (f := .free "bool") (by simp [fa, fa_0])),
  He.free_ok X G (c.t.d.facts (f := .free "str") (by simp [fa, fa_0])),
  He.free_ok X G (c.t.d.facts (f := .free "tuple") (by simp [fa, fa_0])),
  He.free_ok X G (c.t.d.facts (f := .free "max") (by simp [fa, fa_0])),
  He.free_ok X G (c.t.d.facts (f := .free "min") (by simp [fa, fa_0])),
  He.free_ok X G (c.t.d.facts (f := .free "ValueError") (by simp [fa, fa_0])),
  He.int_ok X G (c.t.d.facts (f := .int "MOST" 40) (by simp [fa, fa_0])),
  He.glo_ok X G (c.t.d.facts (f := .glo "LeafError") (by simp [fa, fa_0])),
  He.glo_ok X G (c.t.d.facts (f := .glo "BadBar") (by simp [fa, fa_0])),
  He.glo_ok X G (c.t.d.facts (f := .glo "BadPlace") (by simp [fa, fa_1])),
  He.glo_ok X G (c.t.d.facts (f := .glo "Full") (by simp [fa, fa_1])),
  He.cls_ok (c.t.d.facts (f := .cls "Part") (by simp [fa, fa_1])),
  He.mkr_ok (c.t.d.facts (f := .mkr "Part") (by simp [fa, fa_1])),
  He.noat_ok (c.t.d.facts (f := .noat "Part" "row") (by simp [fa, fa_1])),
  He.noat_ok (c.t.d.facts (f := .noat "Part" "past") (by simp [fa, fa_1])),
  He.meth_ok (c.t.d.facts (f := .meth "Part" "__init__") (by simp [fa, fa_1])),
  He.meth_ok (c.t.d.facts (f := .meth "Part" "__len__") (by simp [fa, fa_1])),
  He.meth_ok (c.t.d.facts (f := .meth "Part" "__eq__") (by simp [fa, fa_1])),
  He.meth_ok (c.t.d.facts (f := .meth "Part" "__str__") (by simp [fa, fa_1])),
  He.meth_ok (c.t.d.facts (f := .meth "Part" "bars") (by simp [fa, fa_1])),
  He.meth_ok (c.t.d.facts (f := .meth "Part" "becomes") (by simp [fa, fa_1])),
  He.meth_ok (c.t.d.facts (f := .meth "Part" "put") (by simp [fa, fa_1])),
  He.meth_ok (c.t.d.facts (f := .meth "Part" "drop") (by simp [fa, fa_1])),
  He.meth_ok (c.t.d.facts (f := .meth "Part" "ahead") (by simp [fa, fa_1])),
  He.meth_ok (c.t.d.facts (f := .meth "Part" "behind") (by simp [fa, fa_1])),
  He.meth_ok (c.t.d.facts (f := .meth "Part" "rest") (by simp [fa, fa_1])),
  He.eqO_ok (exAt c.more 0 rfl),
  He.eqO_ok (exAt c.more 1 rfl),
  of_decide_eq_true (exAt c.more 2 rfl),
  of_decide_eq_true (exAt c.more 3 rfl),
  of_decide_eq_true (exAt c.more 4 rfl),
  of_decide_eq_true (exAt c.more 5 rfl),
  of_decide_eq_true (exAt c.more 6 rfl),
  of_decide_eq_true (exAt c.more 7 rfl),
  of_decide_eq_true (exAt c.more 8 rfl),
  of_decide_eq_true (exAt c.more 9 rfl),
  of_decide_eq_true (exAt c.more 10 rfl),
  of_decide_eq_true (exAt c.more 11 rfl),
  of_decide_eq_true (exAt c.more 12 rfl),
  of_decide_eq_true (exAt c.more 13 rfl),
  of_decide_eq_true (exAt c.more 14 rfl),
  of_decide_eq_true (exAt c.more 15 rfl),
  He.eqO_ok (exAt c.more 16 rfl),
  (exAt c.more 17 rfl),
  (exAt c.more 18 rfl),
  (exAt c.more 19 rfl),
  (exAt c.more 20 rfl),
  (exAt c.more 21 rfl),
  (exAt c.more 22 rfl),
  He.glo_ok X G (c.t.d.facts (f := .glo "Part") (by simp [fa, fa_1]))⟩
/-! ### bars -/
structure Bar where
  w : Int
  b : Int
  r : Bool
  deriving DecidableEq
def barD (x : Bar) : PyData := .tuple [.int x.w, .int x.b, .bool x.r]
def barV (x : Bar) : List V := [.int x.w, .int x.b, .bl x.r]
def BarOk (x : Bar) : Prop := 1 ≤ x.w ∧ x.w ≤ 40 ∧ 1 ≤ x.b ∧ x.b ≤ 16
abbrev barsD (bs : List Bar) : List PyData := bs.map barD
theorem isT_bar (x : Bar) : isT (barD x) = true := rfl
theorem isTs_bars : ∀ bs : List Bar, isTs (barsD bs) = true
  | [] => rfl
  | x :: r => by
    show (isT (barD x) && isTs (barsD r)) = true
    rw [isTs_bars r]
    rfl
section
variable {K : PySem.W.Frag} {H H' : Hp}
theorem dp_bar {v : V} {x : Bar} (h : Dp K H v (barD x)) : ∃ p, v = .ref p ∧ SqT K H p (barV x) := by
  cases h with
  | tup s a =>
    cases a with
    | cons d0 r =>
      cases r with
      | cons d1 r =>
        cases r with
        | cons d2 r =>
          cases r
          cases d0
          cases d1
          cases d2
          exact ⟨_, rfl, s⟩
theorem dp_bar_of {p : Addr} {x : Bar} (h : SqT K H p (barV x)) : Dp K H (.ref p) (barD x) := .tup h (.cons (.int _) (.cons (.int _) (.cons (.bl _) .nil)))
theorem bar_at {vs : List V} {bs : List Bar} {i : Nat} {v : V} (h : DpAll K H vs (barsD bs)) (e : vs[i]? = some v) : ∃ x p, bs[i]? = some x ∧ v = .ref p ∧ SqT K H p (barV x) := by
  obtain ⟨d, e1, hd⟩ := dpa_at h e
  rw [List.getElem?_map] at e1
  cases q : bs[i]? with
  | none =>
    rw [q] at e1
    cases e1
  | some x =>
    rw [q] at e1
    have e2 : barD x = d := Option.some.inj e1
    subst e2
    obtain ⟨p, rfl, s⟩ := dp_bar hd
    exact ⟨x, p, rfl, rfl, s⟩
/-- a list of bars at an address -/
def RowAt (K : PySem.W.Frag) (H : Hp) (r : Addr) (bs : List Bar) : Prop := ∃ vs, H r = some (.lst vs) ∧ DpAll K H vs (barsD bs)
theorem RowAt.dp {r : Addr} {bs : List Bar} (h : RowAt K H r bs) : Dp K H (.ref r) (.list (barsD bs)) := by
  obtain ⟨vs, e, a⟩ := h
  exact .lst (.of e) a
theorem RowAt.same {r : Addr} {bs : List Bar} (h : RowAt K H r bs) (s : Same H H') : RowAt K H' r bs := by
  obtain ⟨vs, e, a⟩ := h
  exact ⟨vs, s _ _ e, dpa_same s a⟩
theorem RowAt.fr {ds : List Addr} {r : Addr} {bs : List Bar} (h : RowAt K H r bs) (s : Fr ds H H') (n : r ∉ ds) : RowAt K H' r bs := by
  obtain ⟨vs, e, a⟩ := h
  exact ⟨vs, s.keep _ _ n e, s.dpa a (isTs_bars bs)⟩
theorem lst_bars {a : Addr} {bs : List Bar} (h : Dp K H (.ref a) (.list (barsD bs))) : ∃ vs, SqL K H a vs ∧ DpAll K H vs (barsD bs) := by
  cases h with
  | lst s d => exact ⟨_, s, d⟩
theorem bars_len {vs : List V} {bs : List Bar} (h : DpAll K H vs (barsD bs)) : vs.length = bs.length := by
  rw [dpa_len h, List.length_map]
end
/-- the beats of the first bars, as long as they rest -/
def beatsOf : List Bar → Int
  | [] => 0
  | x :: r => if x.r = true then x.b + beatsOf r else 0
def restOf (bs : List Bar) (k : Nat) : Int := beatsOf (bs.take k).reverse + beatsOf (bs.drop k)
theorem drop_at {α : Type} {l : List α} {i : Nat} {x : α} (h : l[i]? = some x) : l.drop i = x :: l.drop (i + 1) := by
  obtain ⟨hi, e⟩ := List.getElem?_eq_some_iff.mp h
  rw [List.drop_eq_getElem_cons hi, e]
theorem take_at {α : Type} {l : List α} {i : Nat} {x : α} (h : l[i]? = some x) : l.take (i + 1) = l.take i ++ [x] := by
  rw [List.take_add_one, h]
  rfl
/-! ### parts -/
abbrev pC (K : PySem.W.Frag) : Addr := He.ga K "Part"
def pf (r q : Addr) : List (Str × V) := [("row", .ref r), ("past", .ref q)]
theorem pf_row {r q : Addr} : (pf r q).lookup ("row" : Str) = some (.ref r) := rfl
theorem pf_past {r q : Addr} : (pf r q).lookup ("past" : Str) = some (.ref q) := by
  show (match (("past" : Str) == ("row" : Str)) with | true => some (V.ref r) | false => ([("past", .ref q)] : List (Str × V)).lookup ("past" : Str)) = some (.ref q)
  rw [show (("past" : Str) == ("row" : Str)) = false by decide +kernel]
  rfl
theorem pf_no {r q : Addr} {x : Str} (h1 : (x == ("row" : Str)) = false) (h2 : (x == ("past" : Str)) = false) : (pf r q).lookup x = none := by
  show (match (x == ("row" : Str)) with | true => some (V.ref r) | false => (match (x == ("past" : Str)) with | true => some (V.ref q) | false => none)) = none
  rw [h1, h2]
theorem pf_len {r q : Addr} : (pf r q).length < 1000 := by
  show (2 : Nat) < 1000
  decide
theorem put_row {r q r' : Addr} : putF ("row" : Str) (.ref r') (pf r q) = pf r' q := rfl
section
variable {K : PySem.W.Frag} {H H' : Hp}
def Rows (K : PySem.W.Frag) (H : Hp) (q : Addr) : List V → List (List Bar) → Prop := Paired fun v bs => ∃ r, v = .ref r ∧ r ≠ q ∧ RowAt K H r bs
/-- the part at p: its bars, what it was (its list at q) -/
def PartX (K : PySem.W.Frag) (H : Hp) (p q : Addr) (bs : List Bar) (past : List (List Bar)) : Prop :=
  ∃ dx r ws, H p = some (.ins (pC K) dx (pf r q)) ∧ r ≠ q ∧ RowAt K H r bs ∧ H q = some (.lst ws) ∧ Rows K H q ws past
theorem Rows.imp {q : Addr} {ws : List V} {past : List (List Bar)} (h : Rows K H q ws past) (f : ∀ r bs, r ≠ q → RowAt K H r bs → RowAt K H' r bs) : Rows K H' q ws past :=
  Paired.mapP h fun v bs ⟨r, e, n, z⟩ => ⟨r, e, n, f r bs n z⟩
theorem Rows.snoc {q : Addr} {r : Addr} {bs : List Bar} : ∀ {ws : List V} {past : List (List Bar)}, Rows K H q ws past → r ≠ q → RowAt K H r bs → Rows K H q (ws ++ [.ref r]) (past ++ [bs])
  | _, _, .nil, n, h => .cons ⟨r, rfl, n, h⟩ .nil
  | _, _, .cons a t, n, h => .cons a (Rows.snoc t n h)
theorem Rows.len {q : Addr} {ws : List V} {past : List (List Bar)} (h : Rows K H q ws past) : ws.length = past.length := Paired.length h
theorem PartX.same {p q : Addr} {bs : List Bar} {past : List (List Bar)} (h : PartX K H p q bs past) (s : Same H H') : PartX K H' p q bs past := by
  obtain ⟨dx, r, ws, h1, n, h2, h3, h4⟩ := h
  exact ⟨dx, r, ws, s _ _ h1, n, h2.same s, s _ _ h3, h4.imp fun _ _ _ z => z.same s⟩
/-- a die -/
def Dice (H : Hp) (d : Addr) : Prop := ∃ a b : Int, H d = some (.lst [.int a, .int b])
theorem RowAt.ne_dice {r d : Addr} {bs : List Bar} (h : RowAt K H r bs) (hd : Dice H d) : r ≠ d := by
  obtain ⟨vs, e, a⟩ := h
  obtain ⟨i, j, e2⟩ := hd
  intro z
  subst z
  rw [e] at e2
  injection e2 with e3
  injection e3 with e4
  subst e4
  cases bs with
  | nil => cases a
  | cons b r =>
    cases a with
    | cons d _ => cases d
theorem PartX.fr {p q d : Addr} {bs : List Bar} {past : List (List Bar)} (h : PartX K H p q bs past) (hd : Dice H d) (s : Fr [d] H H') : PartX K H' p q bs past := by
  obtain ⟨dx, r, ws, h1, n, h2, h3, h4⟩ := h
  obtain ⟨i, j, e2⟩ := id hd
  have np : p ≠ d := ne_of h1 e2 (by intro z; cases z)
  have nq : q ≠ d := by
    intro z
    subst z
    rw [h3] at e2
    injection e2 with e3
    injection e3 with e4
    subst e4
    cases h4 with
    | cons a _ =>
      obtain ⟨r, e, _⟩ := a
      cases e
  exact ⟨dx, r, ws, s.keep _ _ (by simp [np]) h1, n, h2.fr s (by simp [h2.ne_dice hd]), s.keep _ _ (by simp [nq]) h3, h4.imp fun r bs _ z => z.fr s (by simp [z.ne_dice hd])⟩
theorem Fr.step {ds es : List Addr} {H0 H1 H2 : Hp} (a : Fr ds H0 H1) (b : Fr es H1 H2) (h : ∀ e ∈ es, H0 e = none ∨ e ∈ ds) : Fr ds H0 H2 := by
  refine ⟨fun c o n e => b.keep c o (fun z => ?_) (a.keep c o n e), fun c xs e => b.tu c xs (a.tu c xs e), fun c o u e => b.fz c o u (a.fz c o u e)⟩
  rcases h c z with q | q
  · rw [q] at e
    cases e
  · exact n q
end
theorem cut_take {xs : List V} {k : Nat} : cutV xs none (some (k : Int)) = xs.take k := by
  unfold cutV
  rw [HT.sIx_none, HT.sIx_nat]
  show (xs.drop 0).take (min k xs.length - 0) = xs.take k
  rw [List.drop_zero, Nat.sub_zero, List.take_eq_take_min]
  all_goals simp
theorem cut_drop {xs : List V} {k : Nat} : cutV xs (some (k : Int)) none = xs.drop k := by
  unfold cutV
  rw [HT.sIx_none, HT.sIx_nat]
  by_cases h : k ≤ xs.length
  · rw [Nat.min_eq_left h, List.take_of_length_le (by rw [List.length_drop]; omega)]
  · rw [Nat.min_eq_right (by omega), List.drop_length, List.drop_eq_nil_of_le (by omega)]
    exact List.take_nil
theorem sc_is_number : FnScope ["thing", "low", "high"] ["thing", "low", "high"] (defScope s_is_number) := ⟨rfl, rfl, rfl, by decide +kernel, rfl, by decide +kernel, by decide +kernel⟩
section
variable {K : PySem.W.Frag} {mg : Str → Option Value}
theorem b_is_number (T : Txt K mg) : Binds K (fdOf K ("is_number", none)) ["thing", "low", "high"] [] := T.is_number.bindsN fun _ _ _ _ _ _ us hl => match us, hl with | [_, _, _], _ => rfl
end
/-- a whole number between -/
def isNum : PyData → Int → Int → Bool
  | .int i, lo, hi => decide (lo ≤ i) && decide (i ≤ hi)
  | _, _, _ => false
def sp_is_number (K : PySem.W.Frag) : Sp := fun vs H Q _ => ∃ (x : V) (d : PyData) (lo hi : Int), vs = [x, .int lo, .int hi] ∧ Dp K H x d ∧ Q (.bl (isNum d lo hi)) H
theorem ok_is_number {P : Program} {w : World} {K : PySem.W.Frag} {mg : Str → Option Value} {base : Heap} (T : Txt K mg) : OkF P w K mg base CX0 1 ("is_number", none) ["thing", "low", "high"] (sp_is_number K) := by
  refine okN T.is_number sc_is_number (fun vs H Q E h => ?_) (fun cdv A outer s H vs Q E hr h => ?_)
  · obtain ⟨x, d, lo, hi, rfl, _⟩ := h
    rfl
  · obtain ⟨x, d, lo, hi, rfl, hd, q⟩ := h
    refine ⟨_, (pss_one (ps_ret (pe_and (pe_callB call_isi (by rfl) T.b_isinstance (by decide +kernel) (pa_cons (pv 0) (pa_cons (pe_bltn (v := .ty "int") (by rfl) T.b_int (by decide +kernel) rfl) pa_nil))) (pe_and (pe_not (pe_callB call_isi (by rfl) T.b_isinstance (by decide +kernel) (pa_cons (pv 0) (pa_cons (pe_bltn (v := .ty "bool") (by rfl) T.b_bool (by decide +kernel) rfl) pa_nil)))) (pe_one (pe_chain op_le op_le (pv 1) (pv 0) (pv 2))))))), ?_⟩
    refine ⟨_, rfl, _, _, _, _, _, rfl, .ty _, dp_ty hd, kit_int d, _, rfl, ?_⟩
    cases d with
    | int i =>
      cases hd
      refine iteT ⟨_, rfl, _, _, _, _, _, rfl, .ty _, dp_ty (.int i), kit_bool (.int i), _, rfl, _, rfl, iteT ⟨_, rfl, _, rfl, _, _, rfl, rfl, _, rfl, ?_⟩⟩
      replace q : Q (.bl (decide (lo ≤ i) && decide (i ≤ hi))) H := q
      refine ite2 (fun h => ?_) (fun h => ?_)
      · rw [h] at q
        exact ⟨_, rfl, _, _, rfl, rfl, q⟩
      · rw [Bool.eq_false_iff.mpr h] at q
        exact q
    | bool b =>
      cases hd
      exact iteT ⟨_, rfl, _, _, _, _, _, rfl, .ty _, dp_ty (.bl b), kit_bool (.bool b), _, rfl, _, rfl, iteF q⟩
    | _ => exact iteF q
theorem sc_is_bar : FnScope ["thing"] ["thing"] (defScope s_is_bar) := ⟨rfl, rfl, rfl, by decide +kernel, rfl, by decide +kernel, by decide +kernel⟩
section
variable {K : PySem.W.Frag} {mg : Str → Option Value}
theorem b_is_bar (T : Txt K mg) : Binds K (fdOf K ("is_bar", none)) ["thing"] [] := T.is_bar.bindsN fun _ _ _ _ _ _ us hl => match us, hl with | [_], _ => rfl
end
def isBar : PyData → Bool
  | .tuple [a, b, .bool _] => isNum a 1 40 && isNum b 1 16
  | _ => false
theorem isBar_len {ds : List PyData} (h : ds.length ≠ 3) : isBar (.tuple ds) = false := by
  unfold isBar
  split
  · rename_i e
    injection e with e
    subst e
    exact absurd rfl h
  · rfl
theorem isBar_bar {x : Bar} (h : BarOk x) : isBar (barD x) = true := by
  obtain ⟨h1, h2, h3, h4⟩ := h
  show ((decide (1 ≤ x.w) && decide (x.w ≤ 40)) && (decide (1 ≤ x.b) && decide (x.b ≤ 16))) = true
  rw [decide_eq_true h1, decide_eq_true h2, decide_eq_true h3, decide_eq_true h4]
  rfl
def sp_is_bar (K : PySem.W.Frag) : Sp := fun vs H Q _ => ∃ (x : V) (d : PyData), vs = [x] ∧ Dp K H x d ∧ Q (.bl (isBar d)) H
theorem ok_is_bar {P : Program} {w : World} {K : PySem.W.Frag} {mg : Str → Option Value} {base : Heap} (T : Txt K mg) : OkF P w K mg base CX0 2 ("is_bar", none) ["thing"] (sp_is_bar K) := by
  refine okN T.is_bar sc_is_bar (fun vs H Q E h => ?_) (fun cdv A outer s H vs Q E hr h => ?_)
  · obtain ⟨x, d, rfl, _⟩ := h
    rfl
  · obtain ⟨x, d, rfl, hd, q⟩ := h
    refine ⟨_, (pss_cons (ps_if (PW.pt (pw_or (pt_not (pt_val (pe_callB call_isi (by rfl) T.b_isinstance (by decide +kernel) (pa_cons (pv 0) (pa_cons (pe_bltn (v := .ty "tuple") (by rfl) T.b_tuple (by decide +kernel) rfl) pa_nil))))) (pw_or (pt_cmpR op_ne (pe_callB call_len (by rfl) T.b_len PySem.boot_len (pa_cons (pv 0) pa_nil)) pe_int (nomark _)) (pw_or1 (pt_not (pt_val (pe_callB call_isi (by rfl) T.b_isinstance (by decide +kernel) (pa_cons (pe_ix ix_tup (pv 0) pe_int (fun _ _ => rfl)) (pa_cons (pe_bltn (v := .ty "bool") (by rfl) T.b_bool (by decide +kernel) rfl) pa_nil))))))))) (pss_one (ps_ret pe_bl)) pss_nil)
      (pss_one (ps_ret (pe_and (pe_call (ok_is_number T) (hr.mono (by decide)) (by rfl) T.g_is_number T.is_number.kp (b_is_number T) .nil pass0 (pa_cons (pe_ix ix_tup (pv 0) pe_int (fun _ _ => rfl)) (pa_cons pe_int (pa_cons pe_int pa_nil)))) (pe_one (pe_call (ok_is_number T) (hr.mono (by decide)) (by rfl) T.g_is_number T.is_number.kp (b_is_number T) .nil pass0 (pa_cons (pe_ix ix_tup (pv 0) pe_int (fun _ _ => rfl)) (pa_cons pe_int (pa_cons pe_int pa_nil))))))))), ?_⟩
    refine ⟨_, rfl, _, _, _, _, _, rfl, .ty _, dp_ty hd, kit_tup d, _, rfl, ?_⟩
    cases d with
    | tuple ds =>
      cases hd with
      | tup hs ha =>
        refine iteF ⟨_, rfl, _, _, rfl, .inr ⟨_, hs, rfl⟩, rfl, _, rfl, ?_⟩
        by_cases hl : ds.length = 3
        · obtain ⟨d0, d1, d2, rfl⟩ := len3 hl
          obtain ⟨v0, v1, v2, rfl, h0, h1, h2⟩ := dpa3 ha
          refine iteNNQ rfl ⟨_, rfl, _, _, _, _, rfl, rfl, hs, rfl, _, _, _, _, _, rfl, .ty _, dp_ty h2, kit_bool d2, _, rfl, ?_⟩
          cases d2 with
          | bool r =>
            refine iteF ⟨_, rfl, _, _, _, _, rfl, rfl, hs, rfl, _, d0, _, _, rfl, h0, _, rfl, ?_⟩
            replace q : Q (.bl (isNum d0 1 40 && isNum d1 1 16)) H := q
            refine ite2 (fun e => ?_) (fun e => ?_)
            · rw [e] at q
              exact ⟨_, rfl, _, _, _, _, rfl, rfl, hs, rfl, _, d1, _, _, rfl, h1, q⟩
            · rw [Bool.eq_false_iff.mpr e] at q
              exact q
          | _ => exact iteT q
        · rw [isBar_len hl] at q
          exact iteNEQ (by rw [dpa_len ha]; omega) q
    | _ => exact iteT q
theorem sc_Part_init : FnScope ["self", "bars", "one"] ["self", "bars"] (defScope s_Part_init) := ⟨rfl, rfl, rfl, by decide +kernel, rfl, by decide +kernel, by decide +kernel⟩
section
variable {K : PySem.W.Frag} {mg : Str → Option Value}
theorem b1_Part (T : Txt K mg) : Binds K (fdOf K ("Part", some "__init__")) ["self", "bars"] [] := by
  obtain ⟨ds, v, b⟩ := T.Part_init.binds1 (ps := ["self", "bars"]) 2 1 (by simp) rfl fun T kV doc pm an cdv ct us its h1 h2 => match us, its, h1, h2 with | [_, _], [_], _, _ => ⟨_, rfl, rfl⟩
  cases v
  exact b
theorem b0_Part (T : Txt K mg) : ∃ ds, Vals [.non] ds ∧ Binds K (fdOf K ("Part", some "__init__")) ["self", "bars"] ds :=
  T.Part_init.binds1 (ps := ["self", "bars"]) 1 0 (by simp) rfl fun T kV doc pm an cdv ct us its h1 h2 => match us, its, h1, h2 with | [_], [_], _, _ => ⟨_, rfl, rfl⟩
end
def sp_Part_init (K : PySem.W.Frag) : Sp := fun vs H Q _ => ∃ (x dx : Addr) (v : V) (bs : List Bar), vs = [.ref x, v] ∧ H x = some (.ins (pC K) dx []) ∧ (v = .non ∧ bs = [] ∨ ∃ a, v = .ref a ∧ Dp K H (.ref a) (.list (barsD bs))) ∧ (∀ b ∈ bs, BarOk b) ∧ bs.length ≤ 40 ∧
  ∀ H' q, Fr [x] H H' → H q = none → PartX K H' x q bs [] → Q .non H'
theorem isBars : ∀ {bs : List Bar}, (∀ b ∈ bs, BarOk b) → (bs.map fun b => isBar (barD b)).all id = true
  | [], _ => rfl
  | x :: r, h => by
    show (isBar (barD x) && ((r.map fun b => isBar (barD b)).all id)) = true
    rw [isBar_bar (h x List.mem_cons_self), isBars fun b hb => h b (List.mem_cons_of_mem _ hb)]
    rfl
theorem ok_Part_init {P : Program} {w : World} {K : PySem.W.Frag} {mg : Str → Option Value} {base : Heap} (T : Txt K mg) : OkF P w K mg base CX0 3 ("Part", some "__init__") ["self", "bars"] (sp_Part_init K) := by
  refine okN T.Part_init sc_Part_init (fun vs H Q E h => ?_) (fun cdv A outer s H vs Q E hr h => ?_)
  · obtain ⟨x, dx, v, bs, rfl, _⟩ := h
    rfl
  · obtain ⟨x, dx, v, bs, rfl, hx, hv, ok, hl, z⟩ := h
    refine ⟨_, (pss_cons (ps_if (PW.pt (pw_and (pt_cmp (pc_notN (pv 1))) (pw_and1 (PW.pt (pw_or (pt_not (pt_val (pe_callB call_isi (by rfl) T.b_isinstance (by decide +kernel) (pa_cons (pv 1) (pa_cons (pe_bltn (v := .ty "list") (by rfl) T.b_list (by decide +kernel) rfl) pa_nil))))) (pw_or1 (pt_not (pt_val (pe_callB (cr_all rfl) (by rfl) T.b_all (by decide +kernel) (pa_cons (pe_lc (own := [("one", 2)]) (g := (gName 2)) (tt := tYes) (by rfl) sc_Part_init.nd (pi_list (pv 1)) (blkOk_by (own := [("one", 2)]) (N := ["self", "bars", "one"]) (sc := defScope s_Part_init) (by decide +kernel)) (fun _ _ _ _ _ => (pg_name (i := 2) sc_Part_init.nd rfl (by first | exact Or.inl rfl | exact Or.inr rfl))) (fun _ _ _ _ _ => pts_nil) (fun _ _ _ _ _ => (pe_call (ok_is_bar T) (hr.mono (by decide)) (by rfl) T.g_is_bar T.is_bar.kp (b_is_bar T) .nil pass0 (pa_cons (pv 2) pa_nil)))) pa_nil)))))))))) pss_never pss_nil)
      (pss_cons (ps_fld (pv 0) (pe_ifExp (pt_cmp (pc_notN (pv 1))) (pe_callTy call_list_of (by rfl) T.b_list (by decide +kernel) (pa_cons (pv 1) pa_nil)) (pe_lst pa_nil)) rfl)
      (pss_cons (ps_if (pt_cmpR op_gt (pe_callB call_len (by rfl) T.b_len PySem.boot_len (pa_cons (pe_fld (pv 0) rfl) pa_nil)) (pe_glob (v := .int 40) (by rfl) T.c_MOST.choose_spec ⟨_, rfl⟩) (nomark _)) pss_never pss_nil)
      (pss_one (ps_fld (pv 0) (pe_lst pa_nil) rfl))))), ?_⟩
    -- what follows the row's store
    have tail : ∀ (H1 : Hp) (r : Addr) (vs : List V), Fr [x] H H1 → H1 x = some (.ins (pC K) dx []) → H r = none → H1 r = some (.lst vs) → DpAll K H1 vs (barsD bs) →
        ∀ (H2 : Hp), H2 = upd H1 x (.ins (pC K) dx [("row", .ref r)]) → (H2 x = some (.ins (pC K) dx [("row", .ref r)]) ∧ H2 r = some (.lst vs) ∧ Fr [x] H H2 ∧ DpAll K H2 vs (barsD bs)) := by
      intro H1 r vs f h1 nr h2 h3 H2 e
      subst e
      have f2 : Fr [x] H1 (upd H1 x (.ins (pC K) dx [("row", .ref r)])) := Fr.upd h1 trivial (by simp)
      refine ⟨upd_same, ?_, f.trans f2, f2.dpa h3 (isTs_bars bs)⟩
      rw [upd_ne (ne_of h2 h1 (by intro z; cases z))]
      exact h2
    have fin : ∀ (H2 : Hp) (r q : Addr) (vs : List V), H2 x = some (.ins (pC K) dx [("row", .ref r)]) → H2 r = some (.lst vs) → Fr [x] H H2 → DpAll K H2 vs (barsD bs) → H2 q = none →
        Q .non (upd (upd H2 q (.lst [])) x (.ins (pC K) dx (pf r q))) := by
      intro H2 r q vs h1 h2 f h3 nq
      have s : Same H2 (upd H2 q (.lst [])) := same_upd nq
      have nqx : x ≠ q := ne_of_none h1 nq
      have nqr : r ≠ q := ne_of_none h2 nq
      have h1' : (upd H2 q (.lst [])) x = some (.ins (pC K) dx [("row", .ref r)]) := s _ _ h1
      have f2 : Fr [x] (upd H2 q (.lst [])) (upd (upd H2 q (.lst [])) x (.ins (pC K) dx (pf r q))) := Fr.upd h1' trivial (by simp)
      have f3 := (f.trans (Fr.of s _)).trans f2
      have nq0 : H q = none := by
        cases e : H q with
        | none => rfl
        | some o =>
          have := f.keep q o (by simp [nqx.symm]) e
          rw [nq] at this
          cases this
      refine z _ q f3 nq0 ⟨dx, r, [], upd_same, nqr, ⟨vs, ?_, f2.dpa (dpa_same s h3) (isTs_bars bs)⟩, ?_, .nil⟩
      · rw [upd_ne (ne_of (s _ _ h2) h1' (by intro z; cases z))]
        exact s _ _ h2
      · rw [upd_ne nqx.symm, upd_same]
    rcases hv with ⟨rfl, rfl⟩ | ⟨a, rfl, hd⟩
    · refine ⟨_, rfl, _, rfl, ?_⟩
      refine iteF ⟨_, rfl, _, rfl, iteF ⟨by decide, fun r nr => ?_⟩⟩
      have s : Same H (upd H r (.lst [])) := same_upd nr
      refine ⟨_, rfl, x, _, dx, _, rfl, s _ _ hx, T.cl_Part, T.n_row, by decide, ?_⟩
      obtain ⟨h1, h2, h3, h4⟩ := tail _ r [] (Fr.of s _) (s _ _ hx) nr upd_same .nil _ rfl
      refine ⟨_, rfl, x, _, dx, _, _, rfl, h1, T.cl_Part, T.n_row, rfl, _, _, rfl, .inl ⟨_, .of h2, rfl⟩, _, _, rfl, rfl, _, rfl, iteN (by decide) ?_⟩
      exact ⟨by decide, fun q nq => ⟨_, rfl, x, _, dx, [("row", .ref r)], rfl, by rw [upd_ne (ne_of_none h1 nq)]; exact h1, T.cl_Part, T.n_past, by show (1 : Nat) < 1000; decide, fin _ r q [] h1 h2 h3 h4 nq⟩⟩
    · obtain ⟨vs, hs, ha⟩ := lst_bars hd
      refine ⟨_, rfl, _, rfl, ?_⟩
      refine iteT ⟨_, rfl, _, _, _, _, _, rfl, .ty _, dp_ty hd, kit_lst _, _, rfl, iteF ?_⟩
      refine ⟨_, rfl, a, rfl, ⟨_, hs⟩, fun D hD => lc_list (K := K) (a := a) (xs := vs) (fun i H' => Same H H' ∧ H' D = some (.lst (((bs.take i).map fun b => isBar (barD b)).map V.bl))) ⟨same_upd hD, ?_⟩ ?_ ?_ ?_⟩
      · rw [upd_same]
        rfl
      · rintro i H' _ ⟨s, _⟩
        exact s.seq hs
      · rintro i v H' hv ⟨s, e⟩
        obtain ⟨b, p, hb, rfl, hp⟩ := bar_at ha hv
        refine ⟨rfl, _, rfl, _, _, rfl, dp_bar_of (same_sqt s hp), _, e, ?_, ?_, ?_⟩
        · rw [List.length_map, List.length_map, List.length_take]
          exact small1000 (by omega)
        · exact same_updR s hD
        · rw [upd_same, take_at hb, List.map_append, List.map_append]
          rfl
      · rintro H1 ⟨s1, e1⟩
        rw [bars_len ha, List.take_length] at e1
        refine ⟨D, _, rfl, .of e1, _, rfl, ?_⟩
        rw [isBars ok]
        refine iteF ⟨_, rfl, _, rfl, iteT ⟨_, rfl, a, vs, rfl, .inl (s1.seq hs), fun r nr => ?_⟩⟩
        have s2 := s1.trans (same_upd (o := .lst vs) nr)
        refine ⟨_, rfl, x, _, dx, _, rfl, s2 _ _ hx, T.cl_Part, T.n_row, by decide, ?_⟩
        obtain ⟨h1, h2, h3, h4⟩ := tail _ r vs (Fr.of s2 _) (s2 _ _ hx) (s1.free nr) upd_same (dpa_same s2 ha) _ rfl
        refine ⟨_, rfl, x, _, dx, _, _, rfl, h1, T.cl_Part, T.n_row, rfl, _, _, rfl, .inl ⟨_, .of h2, rfl⟩, _, _, rfl, rfl, _, rfl, iteN (by rw [bars_len ha]; omega) ?_⟩
        exact ⟨by decide, fun q nq => ⟨_, rfl, x, _, dx, [("row", .ref r)], rfl, by rw [upd_ne (ne_of_none h1 nq)]; exact h1, T.cl_Part, T.n_past, by show (1 : Nat) < 1000; decide, fin _ r q vs h1 h2 h3 h4 nq⟩⟩
/-! ### the shape of data -/
def Shp (n : Nat) (d : PyData) : Prop := d.canLay0 = true ∧ d.depth ≤ n
def ShpA (n : Nat) (ds : List PyData) : Prop := PyData.canLayAll0 ds = true ∧ PyData.depthAll ds ≤ n
theorem shpA_nil {n : Nat} : ShpA n [] := ⟨by simp [PyData.canLayAll0], by simp [PyData.depthAll]⟩
theorem shpA_cons {n : Nat} {d : PyData} {ds : List PyData} (h : Shp n d) (t : ShpA n ds) : ShpA n (d :: ds) := by
  refine ⟨?_, ?_⟩
  · simp only [PyData.canLayAll0, h.1, t.1, Bool.and_self]
  · simp only [PyData.depthAll]
    exact Nat.max_le.mpr ⟨h.2, t.2⟩
theorem shpA_all {n : Nat} : ∀ {ds : List PyData}, (∀ d ∈ ds, Shp n d) → ShpA n ds
  | [], _ => shpA_nil
  | d :: ds, h => shpA_cons (h d List.mem_cons_self) (shpA_all fun e he => h e (List.mem_cons_of_mem _ he))
theorem shp_list {n : Nat} {ds : List PyData} (h : ShpA n ds) : Shp (n + 1) (.list ds) := ⟨by simp only [PyData.canLay0]; exact h.1, by simp only [PyData.depth]; exact Nat.succ_le_succ h.2⟩
theorem shp_tup {n : Nat} {ds : List PyData} (h : ShpA n ds) : Shp (n + 1) (.tuple ds) := ⟨by simp only [PyData.canLay0]; exact h.1, by simp only [PyData.depth]; exact Nat.succ_le_succ h.2⟩
theorem shp_int {n : Nat} (i : Int) : Shp n (.int i) := ⟨by simp [PyData.canLay0], by simp [PyData.depth]⟩
theorem shp_bool {n : Nat} (b : Bool) : Shp n (.bool b) := ⟨by simp [PyData.canLay0], by simp [PyData.depth]⟩
theorem shp_none {n : Nat} : Shp n .none := ⟨by simp [PyData.canLay0], by simp [PyData.depth]⟩
theorem shp_str {n : Nat} {x : Str} (h : PyData.strOk x = true) : Shp n (.str x) := ⟨by simp only [PyData.canLay0]; exact h, by simp [PyData.depth]⟩
theorem Shp.ok {n : Nat} {d : PyData} (h : Shp n d) (hn : n ≤ 64) : SeqAt.shaped d = true := by
  unfold SeqAt.shaped
  rw [h.1, decide_eq_true (Nat.le_trans h.2 hn)]
  rfl
theorem Shp.mono {n m : Nat} {d : PyData} (h : Shp n d) (hn : n ≤ m) : Shp m d := ⟨h.1, Nat.le_trans h.2 hn⟩
theorem ShpA.mono {n m : Nat} {ds : List PyData} (h : ShpA n ds) (hn : n ≤ m) : ShpA m ds := ⟨h.1, Nat.le_trans h.2 hn⟩
/-! ### == of lists by their items -/
theorem eqvAll_map {α : Type} {f : α → PyData} (hf : ∀ a b : α, PyData.eqv (f a) (f b) = true ↔ a = b) : ∀ xs ys : List α, PyData.eqvAll (xs.map f) (ys.map f) = true ↔ xs = ys
  | [], [] => by simp [PyData.eqvAll]
  | [], _ :: _ => by simp [PyData.eqvAll]
  | _ :: _, [] => by simp [PyData.eqvAll]
  | x :: xs, y :: ys => by
    simp only [List.map_cons, PyData.eqvAll, Bool.and_eq_true, hf x y, eqvAll_map hf xs ys, List.cons.injEq]
theorem eqv_listM {α : Type} {f : α → PyData} (hf : ∀ a b : α, PyData.eqv (f a) (f b) = true ↔ a = b) (xs ys : List α) : PyData.eqv (.list (xs.map f)) (.list (ys.map f)) = true ↔ xs = ys := by
  simp only [PyData.eqv]
  exact eqvAll_map hf xs ys
theorem eqv_tupM {α : Type} {f : α → PyData} (hf : ∀ a b : α, PyData.eqv (f a) (f b) = true ↔ a = b) (xs ys : List α) : PyData.eqv (.tuple (xs.map f)) (.tuple (ys.map f)) = true ↔ xs = ys := by
  simp only [PyData.eqv]
  exact eqvAll_map hf xs ys
theorem eqv_int (i j : Int) : PyData.eqv (.int i) (.int j) = true ↔ i = j := by simp [PyData.eqv]
theorem eqv_nil {xs : List PyData} : PyData.eqv (.list xs) (.list []) = true ↔ xs = [] := by
  cases xs <;> simp [PyData.eqv, PyData.eqvAll]
theorem dpa_ints {K : PySem.W.Frag} {H : Hp} : ∀ ns : List Int, DpAll K H (ns.map V.int) (ns.map PyData.int)
  | [] => .nil
  | n :: r => .cons (.int n) (dpa_ints r)
theorem shp_ints (ns : List Int) : Shp 1 (.list (ns.map PyData.int)) := shp_list (shpA_all fun d hd => by
  obtain ⟨i, _, rfl⟩ := List.mem_map.mp hd
  exact shp_int i)
theorem shp_nil {n : Nat} : Shp (n + 1) (.list []) := shp_list shpA_nil
theorem sc__law_cell : FnScope ["script", "k"] ["script", "k"] (defScope s__law_cell) := ⟨rfl, rfl, rfl, by decide +kernel, rfl, by decide +kernel, by decide +kernel⟩
section
variable {K : PySem.W.Frag} {mg : Str → Option Value}
theorem b__law_cell (T : Txt K mg) : Binds K (fdOf K ("_law_cell", none)) ["script", "k"] [] := T._law_cell.bindsN fun _ _ _ _ _ _ us hl => match us, hl with | [_, _], _ => rfl
end
def sp__law_cell (K : PySem.W.Frag) : Sp := fun vs H Q _ => ∃ (a : Addr) (ns : List Int) (k : Nat), vs = [.ref a, .int (k : Int)] ∧ SqL K H a (ns.map V.int) ∧ ns.length ≤ 63 ∧ k ≤ 1000 ∧ ∀ H' i, Same H H' → Q (.int i) H'
theorem ok__law_cell {P : Program} {w : World} {K : PySem.W.Frag} {mg : Str → Option Value} {base : Heap} (T : Txt K mg) : OkF P w K mg base CX0 1 ("_law_cell", none) ["script", "k"] (sp__law_cell K) := by
  refine okN T._law_cell sc__law_cell (fun vs H Q E h => ?_) (fun cdv A outer s H vs Q E hr h => ?_)
  · obtain ⟨a, ns, k, rfl, _⟩ := h
    rfl
  · obtain ⟨a, ns, k, rfl, hs, hl, hk, z⟩ := h
    refine ⟨_, (pss_cons (ps_if (pt_cmpR (op_eqD hr.units) (pv 0) (pe_lst pa_nil) (nomark _)) (pss_one (ps_ret (pe_op op_mul (pv 1) pe_int))) pss_nil)
      (pss_one (ps_ret (pe_op op_add (pe_ix ix_list (pv 0) (pe_op op_mod (pv 1) (pe_callB call_len (by rfl) T.b_len PySem.boot_len (pa_cons (pv 0) pa_nil))) (fun _ _ => rfl)) (pe_op op_mul (pe_op op_fdiv (pv 1) (pe_callB call_len (by rfl) T.b_len PySem.boot_len (pa_cons (pv 0) pa_nil))) pe_int))))), ?_⟩
    refine ⟨_, rfl, by decide, fun e ne => ?_⟩
    have s1 : Same H (upd H e (.lst [])) := same_upd ne
    refine ⟨_, _, .lst (s1.seq hs) (dpa_ints ns), .lst (.of upd_same) .nil, (shp_ints ns).ok (by decide), (shp_nil (n := 0)).ok (by decide), _, rfl, ?_⟩
    refine ite2 (fun h => ?_) (fun h => ?_)
    · exact ⟨_, rfl, _, _, rfl, rfl, .inr ⟨by decide, by decide⟩, z _ _ s1⟩
    · have hn : ns ≠ [] := fun e => h (eqv_nil.mpr (by rw [e]; rfl))
      have hpos : 0 < ns.length := List.length_pos_iff.mpr hn
      have hb := Int.emod_nonneg (k : Int) (b := (ns.length : Int)) (by omega)
      have hb2 := Int.emod_lt_of_pos (k : Int) (b := (ns.length : Int)) (by omega)
      have hi : ((k : Int) % (ns.length : Int)).toNat < ns.length := by omega
      refine ⟨_, rfl, _, rfl, _, rfl, _, _, rfl, .inl ⟨_, s1.seq hs, rfl⟩, _, _, rfl, rfl, by rw [List.length_map]; omega, ?_⟩
      rw [List.length_map]
      refine ⟨a, _, _, .int ns[((k : Int) % (ns.length : Int)).toNat], rfl, rfl, s1.seq hs, at_of (j := ((k : Int) % (ns.length : Int)).toNat) (by omega) (by rw [List.getElem?_map, List.getElem?_eq_getElem hi]; rfl), ?_⟩
      refine ⟨_, rfl, _, rfl, _, _, rfl, .inl ⟨_, s1.seq hs, rfl⟩, _, _, rfl, rfl, ⟨by rw [List.length_map]; omega, by rw [List.length_map]; omega⟩, ?_⟩
      exact ⟨_, _, rfl, rfl, .inr ⟨by decide, by decide⟩, _, _, rfl, rfl, z _ _ s1⟩
theorem sc__law_rounds : FnScope ["script", "most", "k"] ["script", "most"] (defScope s__law_rounds) := ⟨rfl, rfl, rfl, by decide +kernel, rfl, by decide +kernel, by decide +kernel⟩
section
variable {K : PySem.W.Frag} {mg : Str → Option Value}
theorem b__law_rounds (T : Txt K mg) : Binds K (fdOf K ("_law_rounds", none)) ["script", "most"] [] := T._law_rounds.bindsN fun _ _ _ _ _ _ us hl => match us, hl with | [_, _], _ => rfl
end
def sp__law_rounds (K : PySem.W.Frag) : Sp := fun vs H Q _ => ∃ (a : Addr) (ns : List Int) (most : Nat), vs = [.ref a, .int (most : Int)] ∧ SqL K H a (ns.map V.int) ∧ ns.length ≤ 63 ∧ most ≤ 1000 ∧
  ∀ H' (R : Addr) (ds : List Addr), Same H H' → H R = none → H' R = some (.lst (ds.map V.ref)) → (∀ d ∈ ds, Dice H' d ∧ d ≠ R) → ds.length ≤ 1000 → Q (.ref R) H'
theorem ok__law_rounds {P : Program} {w : World} {K : PySem.W.Frag} {mg : Str → Option Value} {base : Heap} (T : Txt K mg) : OkF P w K mg base CX0 2 ("_law_rounds", none) ["script", "most"] (sp__law_rounds K) := by
  refine okN T._law_rounds sc__law_rounds (fun vs H Q E h => ?_) (fun cdv A outer s H vs Q E hr h => ?_)
  · obtain ⟨a, ns, most, rfl, _⟩ := h
    rfl
  · obtain ⟨a, ns, most, rfl, hs, hl, hm, z⟩ := h
    refine ⟨_, (pss_one (ps_ret (pe_lc (own := [("k", 2)]) (g := (gName 2)) (tt := tYes) (by rfl) sc__law_rounds.nd (pi_range1 (by rfl) T.b_range (pa_cons (pe_callB (call_max2 rfl) (by rfl) T.b_max (by decide +kernel) (pa_cons pe_int (pa_cons (pe_callB (call_min2 rfl) (by rfl) T.b_min (by decide +kernel) (pa_cons (pv 1) (pa_cons (pe_callB call_len (by rfl) T.b_len PySem.boot_len (pa_cons (pv 0) pa_nil)) pa_nil))) pa_nil))) pa_nil)) (blkOk_by (own := [("k", 2)]) (N := ["script", "most", "k"]) (sc := defScope s__law_rounds) (by decide +kernel)) (fun _ _ _ _ _ => (pg_name (i := 2) sc__law_rounds.nd rfl (by first | exact Or.inl rfl | exact Or.inr rfl))) (fun _ _ _ _ _ => pts_nil) (fun _ _ _ _ _ => (pe_lst (pa_cons (pe_call (ok__law_cell T) (hr.mono (by decide)) (by rfl) T.g__law_cell T._law_cell.kp (b__law_cell T) .nil pass0 (pa_cons (pv 0) (pa_cons (pv 2) pa_nil))) (pa_cons pe_int pa_nil))))))), ?_⟩
    refine ⟨_, rfl, _, rfl, _, _, rfl, .inl ⟨_, hs, rfl⟩, _, _, rfl, _, _, rfl, _, rfl, ?_⟩
    rw [List.length_map]
    have hb : ∃ n : Nat, (if (if (ns.length : Int) < (most : Int) then (ns.length : Int) else (most : Int)) > 1 then (if (ns.length : Int) < (most : Int) then (ns.length : Int) else (most : Int)) else 1) = (n : Int) ∧ n ≤ 1000 := by
      by_cases h1 : (ns.length : Int) < (most : Int)
      · rw [if_pos h1]
        by_cases h2 : (ns.length : Int) > 1
        · exact ⟨ns.length, if_pos h2, by omega⟩
        · exact ⟨1, if_neg h2, by omega⟩
      · rw [if_neg h1]
        by_cases h2 : (most : Int) > 1
        · exact ⟨most, if_pos h2, by omega⟩
        · exact ⟨1, if_neg h2, by omega⟩
    obtain ⟨n, en, hn⟩ := hb
    rw [en]
    refine ⟨by omega, by omega, fun D hD => lc_range (lo := 0) (n := n) (fun i H' => Same H H' ∧ ∃ ds : List Addr, H' D = some (.lst (ds.map V.ref)) ∧ ds.length = i ∧ ∀ d ∈ ds, Dice H' d ∧ d ≠ D) ⟨same_upd hD, [], upd_same, rfl, fun _ h => nomatch h⟩ ?_ ?_⟩
    · rintro i H1 hi ⟨s1, ds, e1, hlen, hds⟩
      refine ⟨rfl, _, rfl, _, rfl, a, ns, i, ?_, s1.seq hs, hl, by omega, fun H2 c s2 => ⟨by show (2 : Nat) ≤ sizeLine; decide, fun d nd => ?_⟩⟩
      · show [V.ref a, V.int (0 + (i : Int))] = [V.ref a, V.int (i : Int)]
        rw [Int.zero_add]
      have s3 := s2.trans (same_upd (o := .lst [.int c, .int 0]) nd)
      have e3 := s3 _ _ e1
      refine ⟨_, e3, ?_, ?_, ds ++ [d], ?_, ?_, ?_⟩
      · rw [List.length_map]
        exact small1000 (by omega)
      · exact same_updR (s1.trans s3) hD
      · rw [upd_same, List.map_append]
        rfl
      · rw [List.length_append, hlen]
        rfl
      · intro x hx
        have nD : d ≠ D := fun e => by
          rw [e] at nd
          rw [s2 _ _ e1] at nd
          cases nd
        rcases List.mem_append.mp hx with hx | hx
        · obtain ⟨⟨p, q, hp⟩, nx⟩ := hds x hx
          exact ⟨⟨p, q, by rw [upd_ne nx]; exact s3 _ _ hp⟩, nx⟩
        · have ex : x = d := by simpa using hx
          subst ex
          exact ⟨⟨c, 0, by rw [upd_ne nD, upd_same]⟩, nD⟩
    · rintro H1 ⟨s1, ds, e1, hlen, hds⟩
      exact z H1 D ds s1 hD e1 hds (by omega)
theorem sc__law_drawn : FnScope ["cell", "k", "more"] ["cell", "k"] (defScope s__law_drawn) := ⟨rfl, rfl, rfl, by decide +kernel, rfl, by decide +kernel, by decide +kernel⟩
section
variable {K : PySem.W.Frag} {mg : Str → Option Value}
theorem b__law_drawn (T : Txt K mg) : Binds K (fdOf K ("_law_drawn", none)) ["cell", "k"] [] := T._law_drawn.bindsN fun _ _ _ _ _ _ us hl => match us, hl with | [_, _], _ => rfl
end
theorem mod_abs {x M : Int} {a : Nat} (h : 0 < M) (hM : M.natAbs < 2 ^ a) : (x % M).natAbs < 2 ^ a := by
  have h1 := Int.emod_nonneg x (b := M) (by omega)
  have h2 := Int.emod_lt_of_pos x h
  exact Nat.lt_of_le_of_lt (by omega) hM
theorem mod1_abs {x M : Int} {a : Nat} (h : 0 < M) (hM : M.natAbs < 2 ^ a) : (x % M + 1).natAbs < 2 ^ a := by
  have h1 := Int.emod_nonneg x (b := M) (by omega)
  have h2 := Int.emod_lt_of_pos x h
  exact Nat.lt_of_le_of_lt (by omega) hM
theorem div1_abs {x M P : Int} {a : Nat} (h : 0 < M) (hP : 0 < P) (hM : M.natAbs < 2 ^ a) : (x % M / P + 1).natAbs < 2 ^ a := by
  have h1 := Int.emod_nonneg x (b := M) (by omega)
  have h2 := Int.emod_lt_of_pos x h
  have h3 : 0 ≤ x % M / P := Int.ediv_nonneg h1 (by omega)
  have h4 : x % M / P ≤ x % M := Int.ediv_le_self P h1
  exact Nat.lt_of_le_of_lt (by omega) hM
def sp__law_drawn : Sp := fun vs H Q _ => ∃ c k : Int, vs = [.int c, .int k] ∧ ∀ r : Int, Q (.int r) H
theorem ok__law_drawn {P : Program} {w : World} {K : PySem.W.Frag} {mg : Str → Option Value} {base : Heap} (T : Txt K mg) : OkF P w K mg base CX0 1 ("_law_drawn", none) ["cell", "k"] sp__law_drawn := by
  refine okN T._law_drawn sc__law_drawn (fun vs H Q E h => ?_) (fun cdv A outer s H vs Q E hr h => ?_)
  · obtain ⟨c, k, rfl, _⟩ := h
    rfl
  · obtain ⟨c, k, rfl, z⟩ := h
    refine ⟨_, (pss_cons (ps_set (i := 2) sc__law_drawn.nd rfl (by first | exact Or.inl rfl | exact Or.inr rfl) (pe_op op_mod (pe_op op_add (pe_op op_mul (pv 0) pe_int) (pe_op op_mul (pe_op op_add (pv 1) pe_int) pe_int)) pe_int))
      (pss_cons (ps_set (i := 2) sc__law_drawn.nd rfl (by first | exact Or.inl rfl | exact Or.inr rfl) (pe_op op_mod (pe_op op_mulW (pv 2) (pv 2)) pe_int))
      (pss_cons (ps_set (i := 2) sc__law_drawn.nd rfl (by first | exact Or.inl rfl | exact Or.inr rfl) (pe_op op_mulW (pe_op op_mulW (pe_op op_add (pe_op op_mod (pv 2) pe_int) pe_int) (pe_op op_add (pe_op op_fdivW (pv 2) pe_int) pe_int)) (pv 2)))
      (pss_one (ps_ret (pe_op op_mod (pv 2) pe_int)))))), ?_⟩
    refine ⟨_, rfl, _, _, rfl, rfl, .inr ⟨by decide, by decide⟩, _, rfl, _, _, rfl, rfl, _, _, rfl, rfl, .inr ⟨by decide, by decide⟩, _, _, rfl, rfl, _, _, rfl, rfl, (by show (0 : Int) < 340282366920938463463374607431768211507; decide), ?_⟩
    refine ⟨_, rfl, _, rfl, _, _, rfl, rfl, wide_mul (a := 129) (b := 129) (mod_abs (by decide) (by decide)) (mod_abs (by decide) (by decide)) (by decide) (by decide) (by decide), _, _, rfl, rfl, (by show (0 : Int) < 340282366920938463463374607431768211297; decide), ?_⟩
    refine ⟨_, rfl, _, _, rfl, rfl, (by show (0 : Int) < 18446744073709551557; decide), _, _, rfl, rfl, _, rfl, _, _, rfl, rfl, ⟨by decide, by decide +kernel⟩, _, _, rfl, rfl, _, _, rfl, rfl, ?_, ?_⟩
    · exact wide_mul (a := 129) (b := 129) (mod1_abs (by decide) (by decide)) (div1_abs (by decide) (by decide) (by decide)) (by decide) (by decide) (by decide)
    · refine ⟨_, rfl, _, _, rfl, rfl, wide_mul (a := 258) (b := 129) (wide_lt (a := 129) (b := 129) (mod1_abs (by decide) (by decide)) (div1_abs (by decide) (by decide) (by decide))) (mod_abs (by decide) (by decide)) (by decide) (by decide) (by decide), ?_⟩
      exact ⟨_, rfl, _, _, rfl, rfl, (by show (0 : Int) < 340282366920938463463374607431768211507; decide), z _⟩
theorem sc__law_roll : FnScope ["dice", "many", "told"] ["dice", "many"] (defScope s__law_roll) := ⟨rfl, rfl, rfl, by decide +kernel, rfl, by decide +kernel, by decide +kernel⟩
section
variable {K : PySem.W.Frag} {mg : Str → Option Value}
theorem b__law_roll (T : Txt K mg) : Binds K (fdOf K ("_law_roll", none)) ["dice", "many"] [] := T._law_roll.bindsN fun _ _ _ _ _ _ us hl => match us, hl with | [_, _], _ => rfl
end
def sp__law_roll : Sp := fun vs H Q _ => ∃ (d : Addr) (many : Int), vs = [.ref d, .int many] ∧ Dice H d ∧ 0 < many ∧ many < 1073741824 ∧ ∀ H' (r : Int), Fr [d] H H' → Dice H' d → 0 ≤ r → r < many → Q (.int r) H'
theorem ok__law_roll {P : Program} {w : World} {K : PySem.W.Frag} {mg : Str → Option Value} {base : Heap} (T : Txt K mg) : OkF P w K mg base CX0 2 ("_law_roll", none) ["dice", "many"] sp__law_roll := by
  refine okN T._law_roll sc__law_roll (fun vs H Q E h => ?_) (fun cdv A outer s H vs Q E hr h => ?_)
  · obtain ⟨d, many, rfl, _⟩ := h
    rfl
  · obtain ⟨d, many, rfl, ⟨a, b, hd⟩, h1, h2, z⟩ := h
    refine ⟨_, (pss_cons (ps_if (pt_cmpR op_ge (pe_ix ix_list (pv 0) pe_int (fun _ _ => rfl)) (pe_op op_pow pe_int pe_int) (nomark _)) (pss_cons (ps_set (i := 2) sc__law_roll.nd rfl (by first | exact Or.inl rfl | exact Or.inr rfl) (pe_op op_mod (pe_ix ix_list (pv 0) pe_int (fun _ _ => rfl)) (pv 1)))
      (pss_cons (ps_asg (pe_op op_fdiv (pe_ix ix_list (pv 0) pe_int (fun _ _ => rfl)) (pv 1)) (pg_sub (pv 0) pe_int set_list))
      (pss_one (ps_ret (pv 2))))) pss_nil)
      (pss_cons (ps_asg (pe_op op_add (pe_ix ix_list (pv 0) pe_int (fun _ _ => rfl)) pe_int) (pg_sub (pv 0) pe_int set_list))
      (pss_one (ps_ret (pe_op op_mod (pe_op op_fdiv (pe_call (ok__law_drawn T) (hr.mono (by decide)) (by rfl) T.g__law_drawn T._law_drawn.kp (b__law_drawn T) .nil pass0 (pa_cons (pe_ix ix_list (pv 0) pe_int (fun _ _ => rfl)) (pa_cons (pe_ix ix_list (pv 0) pe_int (fun _ _ => rfl)) pa_nil))) pe_int) (pv 1)))))), ?_⟩
    refine ⟨_, rfl, d, _, _, _, rfl, rfl, .of hd, rfl, _, _, rfl, rfl, ⟨by decide, by decide, by decide⟩, _, _, rfl, rfl, _, rfl, ?_⟩
    refine ite2 (fun h => ?_) (fun h => ?_)
    · refine ⟨_, rfl, d, _, _, _, rfl, rfl, .of hd, rfl, _, rfl, _, _, rfl, rfl, h1, ?_⟩
      refine ⟨_, rfl, d, _, _, _, rfl, rfl, .of hd, rfl, _, rfl, _, _, rfl, rfl, ⟨h1, h2⟩, _, rfl, d, _, _, 0, rfl, rfl, hd, rfl, ?_⟩
      exact ⟨_, rfl, z _ _ (Fr.upd hd trivial (by simp)) ⟨_, _, upd_same⟩ (Int.emod_nonneg _ (by omega)) (Int.emod_lt_of_pos _ h1)⟩
    · refine ⟨_, rfl, d, _, _, _, rfl, rfl, .of hd, rfl, _, _, rfl, rfl, _, rfl, d, _, _, 1, rfl, rfl, hd, rfl, ?_⟩
      refine ⟨_, rfl, d, _, _, _, rfl, rfl, .of upd_same, rfl, _, rfl, d, _, _, _, rfl, rfl, .of upd_same, rfl, _, _, rfl, fun r => ?_⟩
      exact ⟨_, _, rfl, rfl, ⟨by decide, by decide⟩, _, rfl, _, _, rfl, rfl, h1, z _ _ (Fr.upd hd trivial (by simp)) ⟨_, _, upd_same⟩ (Int.emod_nonneg _ (by omega)) (Int.emod_lt_of_pos _ h1)⟩
def sp_law (K : PySem.W.Frag) : Sp := fun vs H Q _ => ∃ (a : Addr) (ns : List Int), vs = [.ref a] ∧ SqL K H a (ns.map V.int) ∧ ns.length ≤ 63 ∧ ∀ H', Q (.bl true) H'
/-- the dice of all rounds -/
def Rnd (H : Hp) (R : Addr) (ds : List Addr) : Prop := H R = some (.lst (ds.map V.ref)) ∧ ∀ d ∈ ds, Dice H d ∧ d ≠ R
theorem Rnd.turn {H0 H1 : Hp} {R d : Addr} {ds : List Addr} (h : Rnd H0 R ds) (hd : d ∈ ds) (f : Fr [d] H0 H1) (hd1 : Dice H1 d) : Rnd H1 R ds := by
  obtain ⟨h1, h2⟩ := h
  refine ⟨f.keep _ _ (by simp [(h2 d hd).2.symm]) h1, fun x hx => ⟨?_, (h2 x hx).2⟩⟩
  by_cases e : x = d
  · rw [e]
    exact hd1
  · obtain ⟨⟨a, b, z⟩, _⟩ := h2 x hx
    exact ⟨a, b, f.keep _ _ (by simp [e]) z⟩
theorem Rnd.at {H : Hp} {R : Addr} {ds : List Addr} (h : Rnd H R ds) {i : Nat} {v : V} (e : (ds.map V.ref)[i]? = some v) : ∃ d, v = .ref d ∧ d ∈ ds ∧ Dice H d := by
  rw [List.getElem?_map] at e
  cases q : ds[i]? with
  | none =>
    rw [q] at e
    cases e
  | some d =>
    rw [q] at e
    exact ⟨d, (Option.some.inj e).symm, List.mem_of_getElem? q, (h.2 d (List.mem_of_getElem? q)).1⟩
theorem Dice.fr {H H' : Hp} {d x : Addr} (h : Dice H x) (f : Fr [d] H H') (n : x ≠ d) : Dice H' x := by
  obtain ⟨a, b, z⟩ := h
  exact ⟨a, b, f.keep _ _ (by simp [n]) z⟩
theorem Dice.same {H H' : Hp} {d : Addr} (h : Dice H d) (s : Same H H') : Dice H' d := by
  obtain ⟨a, b, z⟩ := h
  exact ⟨a, b, s _ _ z⟩
theorem Fr.then {ds : List Addr} {H0 H1 H2 : Hp} (a : Fr ds H0 H1) (s : Same H1 H2) : Fr ds H0 H2 := a.trans (Fr.of s ds)
theorem Dice.keep {H H' : Hp} {d : Addr} {es : List Addr} (h : Dice H d) (f : Fr es H H') (n : d ∉ es) : Dice H' d := by
  obtain ⟨a, b, z⟩ := h
  exact ⟨a, b, f.keep _ _ n z⟩
/-- a new part -/
theorem make_part {K : PySem.W.Frag} {H : Hp} {v : V} {bs : List Bar} {Q : Addr → Hp → Prop} (hv : v = .non ∧ bs = [] ∨ ∃ a, v = .ref a ∧ Dp K H (.ref a) (.list (barsD bs))) (ok : ∀ b ∈ bs, BarOk b) (hl : bs.length ≤ 40)
    (k : ∀ H' p q, Same H H' → H p = none → H q = none → p ≠ q → PartX K H' p q bs [] → Q p H') :
    ∀ x dx, H x = none → H dx = none → dx ≠ x → sp_Part_init K [.ref x, v] (upd (upd H dx (.own x)) x (.ins (pC K) dx [])) (fun v H2 => v = .non ∧ Q x H2) E0 := by
  intro x dx nx nd ne
  have s : Same H (upd (upd H dx (.own x)) x (.ins (pC K) dx [])) := fun b o e => by
    rw [upd_ne (ne_of_none e nx), upd_ne (ne_of_none e nd)]
    exact e
  refine ⟨x, dx, v, bs, rfl, upd_same, ?_, ok, hl, fun H' q f nq hp => ?_⟩
  · rcases hv with h | ⟨a, e, h⟩
    · exact .inl h
    · exact .inr ⟨a, e, dp_same s h⟩
  · have nqx : x ≠ q := fun e => by
      rw [← e, upd_same] at nq
      cases nq
    have nq0 : H q = none := s.free nq
    exact ⟨rfl, k H' x q (fun b o e => f.keep b o (by simp [ne_of_none e nx]) (s b o e)) nx nq0 nqx hp⟩
/-- a bar appended -/
theorem row_app {K : PySem.W.Frag} {H : Hp} {B : Addr} {bs : List Bar} {v : V} {b : Bar} {vs : List V} (h1 : H B = some (.lst vs)) (h2 : DpAll K H vs (barsD bs)) (hv : Dp K H v (barD b)) : RowAt K (upd H B (.lst (vs ++ [v]))) B (bs ++ [b]) ∧ Fr [B] H (upd H B (.lst (vs ++ [v]))) := by
  have f : Fr [B] H (upd H B (.lst (vs ++ [v]))) := Fr.upd h1 trivial (by simp)
  refine ⟨⟨_, upd_same, ?_⟩, f⟩
  show DpAll K _ _ ((bs ++ [b]).map barD)
  rw [List.map_append]
  exact dpa_app (f.dpa h2 (isTs_bars bs)) (.cons (f.dp hv (isT_bar b)) .nil)
section
variable {X : Cx}
/-- a def run within, around A' -/
theorem run_at {n : Nat} {f : Addr} {fd : FuncData} {ps : List Str} {sp : Sp} {pins : List (Addr × Obj)} {σ : L2.St} {H : Hp} {s : Shared} {A' : Around} {vs : List V} {us : List Value} {Q : VK} {E : XK} {E' : Value → Shared → Prop}
    (F : FnOk X.prog X.w X.K X.mg X.base CX0 n f fd ps sp) (hb : Binds X.K fd ps []) (I : Inv X pins σ H s) (hr : Room n A') (hf : A'.frames = X.A.frames) (rv : Vals vs us) (hsp : sp vs H Q E) :
    wpAny (model X.prog X.w) A' (call (.ref f) us) (EP X pins σ Q) E' s := by
  have e0 : Env0 X.prog X.w X.K X.mg X.base A' X.stack s H := by
    have e := I.env0
    exact ⟨by rw [hf]; exact e.frames, e.mod, e.bs, e.bsz, e.funs, e.frf, e.hok, e.bare⟩
  have hl := F.len _ _ _ _ hsp
  have hl2 := rv.length
  refine wpAny_call (codeAny_mono (F.run A' X.stack s H ⟨us, []⟩ us vs Q E hr e0 (by
    have := hb s us I.kIn (by simp; omega)
    simpa using this) rv hsp) fun r s' hq => ?_)
  cases r with
  | error e => exact hq.elim
  | ok fl =>
    cases fl with
    | ret w => exact I.after hq
    | next => exact False.elim hq
    | brk => exact False.elim hq
    | cont => exact False.elim hq
end
section
open PySem.W
variable {prog : Program} {w : World} {A : Around} {E : Value → Shared → Prop} {s : Shared} {K : Frag} {x C f : Addr} {ox : Obj} {od : Option Obj} {b tb : Value}
/-- a built-in slot of an object of a class of K, by its name, bound -/
theorem slot_bound {M : Model} {self : Value} {name : PySem.Str} {id : String} {args : List Value} {Q : Option Value → Shared → Prop} (sp : Looks M s.heap (specialOf self name) (some (.builtin id))) (hb : bindSpecial (.builtin id) self = pure (.builtin id, [self]))
    (hc : wpAny M A (call (.builtin id) ([self] ++ args)) (fun v => Q (some v)) E s) : wpAny M A (callSpecialIfBound? self name args) Q E s := by
  simp only [callSpecialIfBound?, bindSpecialIfBound?]
  refine wpAny_holding (wpAny_bind (wpAny_bind (sp.here ?_)))
  refine wpAny_bind (wpAny_askSetting (wpAny_ite ?_))
  have fin : wpAny M A (call (.builtin id) ([self] ++ args) >>= fun v => pure (some v)) Q E s := wpAny_bind (wpAny_mono hc (fun v s' h' => wpAny_pure h') fun _ _ h' => h')
  split
  · exact wpAny_bind (wpAny_of_eq hb (wpAny_pure (by exact fin)))
  · exact wpAny_tryCatch (wpAny_bind (wpAny_of_eq hb (wpAny_pure (by exact fin))))
/-- x != b where only == is one's own -/
theorem ne_K {Q : Value → Shared → Prop} (hu : A.units + 1 < cLine) (X : K.In s.heap) (I : InstAt s.heap x ox C od) (hb : Looks (model prog w) s.heap (typeOf b) tb) (hn : notFirst K C tb = true)
    (hs : findIn K (.ref C) "__ne__" = some (some (.builtin "object.__ne__"))) (hm : mroIn K C (.type "object") = some true) (he : findIn K (.ref C) "__eq__" = some (some (.ref f))) (hf : isFn K (.ref f) = true)
    (h : wpAny (model prog w) A.in1 (call (.ref f) [.ref x, b]) (fun v s' => ∃ k, v = .bool k ∧ Q (.bool (!k)) s') E s) : wpAny (model prog w) A (richCompare .NotEq (.ref x) b) Q E s := by
  have body : wpAny (model prog w) A.in1 (Builtin.«object.__ne__» ⟨[.ref x, b], []⟩) (fun fin s' => ∃ v, fin = .done (.ret v) ∧ v ≠ .notImplemented ∧ Q v s') E s := by
    unfold Builtin.«object.__ne__»
    repeat (first
      | with_reducible refine wpAny_cRoomFor hu ?_
      | (refine wpAny_bind (m := callSpecialIfBound? (.ref x) (Str.ofString "__eq__") [b])
          (ifBound_K X I he hf (wpAny_mono h (fun r s' hr => by
            obtain ⟨k, rfl, hq⟩ := hr
            repeat (first | exact ⟨_, rfl, by simp, hq⟩ | exact wpAny_pure ⟨_, rfl, by simp, hq⟩ | exact wpAny_truthy_bool ⟨_, rfl, by simp, hq⟩ | (refine wpAny_bind (m := truthy (.bool _)) (wpAny_truthy_bool ?_)) | wp_step)) fun _ _ e => e)))
      | wp_step)
  have one : wpAny (model prog w) A (tryCompare (.ref x) "__ne__" b) (fun r s' => ∃ v, r = some v ∧ Q v s') E s := by
    unfold tryCompare
    refine wpAny_bind (slot_bound (I.type.andThen (looks_findIn X hs)) (PySem.F.cmp_object.ne.bind _) (wpAny_call (codeAny_call_builtin PySem.F.cmp_object.ne.plain PySem.F.cmpEntry_ne
      (check_slot (i := "object.__ne__") (owner := "object") (n := "__ne__") PySem.F.cmpKind_ne PySem.F.cmpSplit_ne (I.type.andThen (looks_mroIn X hm)) (PySem.F.cmpArgs_ne _ _) (wpAny_mono body (fun fin s' z => ?_) fun _ _ e => e)))))
    obtain ⟨v, rfl, nv, hq⟩ := z
    cases v <;> first | exact absurd rfl nv | exact wpAny_pure ⟨_, rfl, hq⟩
  unfold richCompare
  simp only [oneThing_ref]
  refine wpAny_holding (wpAny_bind (wpAny_cRoomFor (by omega) ?_))
  refine wpAny_bind (I.type.here (wpAny_bind (hb.here ?_)))
  split
  · rename_i q
    have e : subIn K tb (.ref C) = some false := by
      rcases Bool.or_eq_true_iff.mp hn with e | e
      · rw [beq_iff_eq.mp e] at q; simp at q
      · exact beq_iff_eq.mp e
    refine wpAny_bind ((looks_subIn X e).here ?_)
    simp only [Bool.false_eq_true, if_false]
    refine wpAny_bind (wpAny_mono one (fun r s' z => ?_) fun _ _ e => e)
    obtain ⟨v, rfl, hq⟩ := z
    exact wpAny_pure hq
  · refine wpAny_bind (wpAny_pure ?_)
    simp only [Bool.false_eq_true, if_false]
    refine wpAny_bind (wpAny_mono one (fun r s' z => ?_) fun _ _ e => e)
    obtain ⟨v, rfl, hq⟩ := z
    exact wpAny_pure hq
end
/-! ### bars as texts -/
theorem str_len (a b : Str) : (a ++ b).length = a.length + b.length := by
  show (a.cps ++ b.cps).size = a.cps.size + b.cps.size
  exact Array.size_append
def numS (i : Int) : Str := Str.ofString (toString i)
def barS (x : Bar) : Str := Str.empty ++ numS x.w ++ Str.ofString "x" ++ numS x.b ++ (if x.r = true then Str.ofString "r" else Str.ofString "")
theorem num_len41 : ∀ n : _root_.Fin 41, (numS ((n : Nat) : Int)).length ≤ 2 := by decide +kernel
theorem num_len {i : Int} (h0 : 0 ≤ i) (h1 : i ≤ 40) : (numS i).length ≤ 2 := by
  have h := num_len41 ⟨i.toNat, by omega⟩
  have e : (((⟨i.toNat, by omega⟩ : _root_.Fin 41) : Nat) : Int) = i := Int.toNat_of_nonneg h0
  rw [e] at h
  exact h
theorem num_log {i : Int} (h0 : 0 ≤ i) (h1 : i ≤ 40) : i.natAbs.log2 < 1920 := by
  have h : i.natAbs < 2 ^ 6 := by omega
  exact Nat.lt_of_lt_of_le (PySem.Flt.log2_lt_of (by decide) h) (by decide)
theorem bar_len {x : Bar} (h : BarOk x) : (barS x).length ≤ 6 := by
  obtain ⟨h1, h2, h3, h4⟩ := h
  unfold barS
  rw [str_len, str_len, str_len, str_len]
  have a := num_len (i := x.w) (by omega) h2
  have b := num_len (i := x.b) (by omega) (by omega)
  have c : Str.empty.length = 0 := rfl
  have d : (Str.ofString "x").length = 1 := by decide
  have e : (if x.r = true then Str.ofString "r" else Str.ofString "").length ≤ 1 := by
    split <;> decide
  omega
theorem bars_lens : ∀ {bs : List Bar}, (∀ b ∈ bs, BarOk b) → ((bs.map barS).map (·.length)).sum ≤ 6 * bs.length
  | [], _ => by simp
  | x :: r, h => by
    have h1 := bar_len (h x List.mem_cons_self)
    have h2 := bars_lens (bs := r) fun b hb => h b (List.mem_cons_of_mem _ hb)
    simp only [List.map_cons, List.sum_cons, List.length_cons]
    omega
def barsS (bs : List Bar) : Str := Txt.join (Str.ofString " ") (bs.map barS)
theorem sc_Part_str : FnScope ["self", "width", "beats", "rests"] ["self"] (defScope s_Part_str) := ⟨rfl, rfl, rfl, by decide +kernel, rfl, by decide +kernel, by decide +kernel⟩
section
variable {K : PySem.W.Frag} {mg : Str → Option Value}
theorem b_Part_str (T : Txt K mg) : Binds K (fdOf K ("Part", some "__str__")) ["self"] [] := T.Part_str.bindsN fun _ _ _ _ _ _ us hl => match us, hl with | [_], _ => rfl
end
def sp_Part_str (K : PySem.W.Frag) : Sp := fun vs H Q _ => ∃ (p q : Addr) (bs : List Bar) (past : List (List Bar)), vs = [.ref p] ∧ PartX K H p q bs past ∧ (∀ b ∈ bs, BarOk b) ∧ bs.length ≤ 1000 ∧ ∀ H', Same H H' → Q (.str (barsS bs)) H'
theorem ok_Part_str {P : Program} {w : World} {K : PySem.W.Frag} {mg : Str → Option Value} {base : Heap} (T : Txt K mg) : OkF P w K mg base CX0 1 ("Part", some "__str__") ["self"] (sp_Part_str K) := by
  refine okN T.Part_str sc_Part_str (fun vs H Q E h => ?_) (fun cdv A outer s H vs Q E hr h => ?_)
  · obtain ⟨p, q, bs, past, rfl, _⟩ := h
    rfl
  · obtain ⟨p, q, bs, past, rfl, hp, ok, hl, k⟩ := h
    obtain ⟨dx, r, ws, h1, n, ⟨vs, h2, h3⟩, _⟩ := hp
    refine ⟨_, (pss_one (ps_ret (pe_join pe_str (pe_lc (own := [("width", 1), ("beats", 2), ("rests", 3)]) (g := (gTup K 3 (gCons (gName 1) (gCons (gName 2) (gCons (gName 3) gNil))))) (tt := tYes) (by rfl) sc_Part_str.nd (pi_list (pe_fld (pv 0) rfl)) (blkOk_by (own := [("width", 1), ("beats", 2), ("rests", 3)]) (N := ["self", "width", "beats", "rests"]) (sc := defScope s_Part_str) (by decide +kernel)) (fun _ _ _ _ _ => (pg_tup rfl (pgs_cons (pg_name (i := 1) sc_Part_str.nd rfl (by first | exact Or.inl rfl | exact Or.inr rfl)) (pgs_cons (pg_name (i := 2) sc_Part_str.nd rfl (by first | exact Or.inl rfl | exact Or.inr rfl)) (pgs_cons (pg_name (i := 3) sc_Part_str.nd rfl (by first | exact Or.inl rfl | exact Or.inr rfl)) pgs_nil))))) (fun _ _ _ _ _ => pts_nil) (fun _ _ _ _ _ => (pe_op op_add_str (pe_joined (PJ.cons (pe_fmt (pv 1)) (PJ.cons pe_str (PJ.cons (pe_fmt (pv 2)) PJ.nil)))) (pe_ifExp (pt_val (pv 3)) pe_str pe_str))))))), ?_⟩
    refine ⟨⟨_, rfl⟩, _, rfl, p, _, dx, _, _, rfl, h1, T.cl_Part, T.n_row, pf_row, r, rfl, ⟨_, .of h2⟩, fun D hD => lc_list (K := K) (a := r) (xs := vs) (fun i H' => Same H H' ∧ H' D = some (.lst (((bs.take i).map barS).map V.str))) ⟨same_upd hD, ?_⟩ ?_ ?_ ?_⟩
    · rw [upd_same]
      rfl
    · rintro i H' _ ⟨s, _⟩
      exact .of (s _ _ h2)
    · rintro i v H' hv ⟨s, e⟩
      obtain ⟨b, t, hb, rfl, ht⟩ := bar_at h3 hv
      have okb := ok b (List.mem_of_getElem? hb)
      obtain ⟨o1, o2, o3, o4⟩ := id okb
      have lw := num_len (i := b.w) (by omega) o2
      have lb := num_len (i := b.b) (by omega) (by omega)
      have le : Str.empty.length = 0 := rfl
      have lx : (Str.ofString "x").length = 1 := by decide
      have hsz : 1000 < sizeLine := by decide
      refine ⟨t, _, rfl, same_sqt s ht, rfl, _, _, rfl, _, _, rfl, _, _, rfl, rfl, rfl, ?_⟩
      refine ⟨_, rfl, .inr ⟨_, rfl, num_log (by omega) o2, _, rfl, ?_, _, rfl, ?_, _, rfl, .inr ⟨_, rfl, num_log (by omega) (by omega), _, rfl, ?_, ?_⟩⟩⟩
      · show (Str.empty ++ numS b.w).length ≤ sizeLine
        rw [str_len]
        omega
      · show (Str.empty ++ numS b.w ++ Str.ofString "x").length ≤ sizeLine
        rw [str_len, str_len]
        omega
      · show (Str.empty ++ numS b.w ++ Str.ofString "x" ++ numS b.b).length ≤ sizeLine
        rw [str_len, str_len, str_len]
        omega
      · refine ⟨_, rfl, _, rfl, ?_⟩
        have hlen : ((bs.take i).map barS).length ≤ 1000 := by
          rw [List.length_map, List.length_take]
          omega
        have fin : ∀ y : Str, (if b.r = true then Str.ofString "r" else Str.ofString "") = y → Same H (upd H' D (.lst (((bs.take i).map barS).map V.str ++ [V.str (Str.empty ++ numS b.w ++ Str.ofString "x" ++ numS b.b ++ y)]))) ∧
            (upd H' D (.lst (((bs.take i).map barS).map V.str ++ [V.str (Str.empty ++ numS b.w ++ Str.ofString "x" ++ numS b.b ++ y)]))) D = some (.lst (((bs.take (i + 1)).map barS).map V.str)) := by
          intro y hy
          refine ⟨same_updR s hD, ?_⟩
          rw [upd_same, take_at hb, List.map_append, List.map_append, ← hy]
          rfl
        have lr : (Str.ofString "r").length = 1 := by decide
        have l0 : (Str.ofString "").length = 0 := by decide
        cases hr : b.r with
        | true =>
          refine iteT ⟨_, _, rfl, rfl, ?_, _, e, ?_, fin (Str.ofString "r") (by rw [hr]; rfl)⟩
          · show (Str.empty ++ numS b.w ++ Str.ofString "x" ++ numS b.b).length + (Str.ofString "r").length ≤ sizeLine
            rw [str_len, str_len, str_len]
            omega
          · rw [List.length_map]
            exact small1000 hlen
        | false =>
          refine iteF ⟨_, _, rfl, rfl, ?_, _, e, ?_, fin (Str.ofString "") (by rw [hr]; rfl)⟩
          · show (Str.empty ++ numS b.w ++ Str.ofString "x" ++ numS b.b).length + (Str.ofString "").length ≤ sizeLine
            rw [str_len, str_len, str_len]
            omega
          · rw [List.length_map]
            exact small1000 hlen
    · rintro H1 ⟨s1, e1⟩
      rw [bars_len h3, List.take_length] at e1
      refine ⟨_, D, bs.map barS, rfl, rfl, .inl (.of e1), ?_, k _ s1⟩
      have h := bars_lens ok
      rw [List.length_map]
      have lx : (Str.ofString " ").length = 1 := by decide
      rw [lx]
      omega
section
variable {X : Cx}
def rStrP (K : PySem.W.Frag) (sp : Sp) : List V → Hp → VK → Prop := fun xs H Q => ∃ p dx fs, xs = [.ref p] ∧ H p = some (.ins (pC K) dx fs) ∧ sp [.ref p] H (fun v H' => ∃ z, v = .str z ∧ Q (.str z) H') E0
theorem call_strP {n : Nat} {sp : Sp} (T : Txt X.K X.mg) (F : FnOk X.prog X.w X.K X.mg X.base CX0 n (He.fAd X.K ("Part", some "__str__")) (fdOf X.K ("Part", some "__str__")) ["self"] sp) (hr : Room (n + 2) X.A) : CallR X (.type "str") (rStrP X.K sp) := by
  intro pins s σ H xs us Q I r h
  obtain ⟨p, dx, fs, rfl, hp, hs⟩ := h
  obtain ⟨u, rfl, e⟩ := vals1 r
  cases e
  obtain ⟨mA, J, _⟩ := ins_get I.hok hp
  obtain ⟨od, J, _⟩ := J.look
  refine PySem.W.kso_call hr.in1.in1.units0 I.kIn J T.m_Part_str.at_ T.m_Part_str.fn ?_
  refine wpAny_mono (run_at (vs := [.ref p]) (Q := fun v H' => ∃ z, v = .str z ∧ Q (.str z) H') (E := E0) F (b_Part_str T) I hr.in1.in1 rfl (.cons rfl .nil) hs) (fun r s' z => ?_) fun _ _ z => z
  obtain ⟨v', H', I', r', b, rfl, q⟩ := z
  obtain ⟨t, rfl⟩ := r'
  exact ⟨.str b, H', I', ⟨t, rfl⟩, q⟩
end
theorem sc__law_run : FnScope ["row", "found", "bar"] ["row"] (defScope s__law_run) := ⟨rfl, rfl, rfl, by decide +kernel, rfl, by decide +kernel, by decide +kernel⟩
section
variable {K : PySem.W.Frag} {mg : Str → Option Value}
theorem b__law_run (T : Txt K mg) : Binds K (fdOf K ("_law_run", none)) ["row"] [] := T._law_run.bindsN fun _ _ _ _ _ _ us hl => match us, hl with | [_], _ => rfl
end
def sp__law_run (K : PySem.W.Frag) : Sp := fun vs H Q _ => ∃ (a : Addr) (bs : List Bar), vs = [.ref a] ∧ Dp K H (.ref a) (.list (barsD bs)) ∧ Q (.int (beatsOf bs)) H
theorem ok__law_run {P : Program} {w : World} {K : PySem.W.Frag} {mg : Str → Option Value} {base : Heap} (T : Txt K mg) : OkF P w K mg base CX0 1 ("_law_run", none) ["row"] (sp__law_run K) := by
  refine okN T._law_run sc__law_run (fun vs H Q E h => ?_) (fun cdv A outer s H vs Q E hr h => ?_)
  · obtain ⟨a, bs, rfl, _⟩ := h
    rfl
  · obtain ⟨a, bs, rfl, hd, q⟩ := h
    obtain ⟨xs, hs, ha⟩ := lst_bars hd
    refine ⟨_, (pss_cons (ps_set (i := 1) sc__law_run.nd rfl (by first | exact Or.inl rfl | exact Or.inr rfl) pe_int)
      (pss_cons (ps_for PassesOwn.never rfl (pi_list (pv 0)) (pg_name (i := 2) sc__law_run.nd rfl (by first | exact Or.inl rfl | exact Or.inr rfl))
      (pss_cons (ps_if (pt_not (pt_val (pe_ix ix_tup (pv 2) pe_int (fun _ _ => rfl)))) (pss_one (ps_ret (pv 1))) pss_nil)
      (pss_one (ps_set (i := 1) sc__law_run.nd rfl (by first | exact Or.inl rfl | exact Or.inr rfl) (pe_op op_add (pv 1) (pe_ix ix_tup (pv 2) pe_int (fun _ _ => rfl)))))))
      (pss_one (ps_ret (pv 1))))), ?_⟩
    refine ⟨_, rfl, a, rfl, ⟨_, hs⟩, for_list (xs := xs) (fun i σ H' => H' = H ∧ ∃ f y2, σ = [some (.ref a), some (.int f), y2] ∧ f + beatsOf (bs.drop i) = beatsOf bs) ⟨rfl, 0, none, rfl, ?_⟩ ?_ ?_ ?_⟩
    · show 0 + beatsOf bs = beatsOf bs
      omega
    · rintro i σ H' _ ⟨rfl, _⟩
      exact hs
    · rintro i x σ H' hx ⟨rfl, f, y2, rfl, e⟩
      obtain ⟨b, p, hb, rfl, hp⟩ := bar_at ha hx
      rw [drop_at hb] at e
      refine ⟨_, rfl, p, _, _, _, rfl, rfl, hp, rfl, _, rfl, ?_⟩
      replace e : f + (if b.r = true then b.b + beatsOf (bs.drop (i + 1)) else 0) = beatsOf bs := e
      cases hr : b.r with
      | true =>
        rw [hr, if_pos rfl] at e
        refine iteF ⟨_, rfl, _, rfl, p, _, _, _, rfl, rfl, hp, rfl, _, _, rfl, rfl, rfl, _, _, rfl, ?_⟩
        omega
      | false =>
        rw [hr, if_neg Bool.false_ne_true] at e
        refine iteT ⟨_, rfl, ?_⟩
        rw [show f = beatsOf bs by omega]
        exact q
    · rintro σ H' ⟨rfl, f, y2, rfl, e⟩
      rw [bars_len ha, List.drop_length] at e
      refine ⟨_, rfl, ?_⟩
      rw [show f = beatsOf bs by
        have e2 : f + 0 = beatsOf bs := e
        omega]
      exact q
theorem sc__law_rest : FnScope ["bars", "at"] ["bars", "at"] (defScope s__law_rest) := ⟨rfl, rfl, rfl, by decide +kernel, rfl, by decide +kernel, by decide +kernel⟩
section
variable {K : PySem.W.Frag} {mg : Str → Option Value}
theorem b__law_rest (T : Txt K mg) : Binds K (fdOf K ("_law_rest", none)) ["bars", "at"] [] := T._law_rest.bindsN fun _ _ _ _ _ _ us hl => match us, hl with | [_, _], _ => rfl
end
def sp__law_rest (K : PySem.W.Frag) : Sp := fun vs H Q _ => ∃ (a : Addr) (bs : List Bar) (k : Nat), vs = [.ref a, .int (k : Int)] ∧ Dp K H (.ref a) (.list (barsD bs)) ∧ ∀ H', Same H H' → Q (.int (restOf bs k)) H'
theorem ok__law_rest {P : Program} {w : World} {K : PySem.W.Frag} {mg : Str → Option Value} {base : Heap} (T : Txt K mg) : OkF P w K mg base CX0 2 ("_law_rest", none) ["bars", "at"] (sp__law_rest K) := by
  refine okN T._law_rest sc__law_rest (fun vs H Q E h => ?_) (fun cdv A outer s H vs Q E hr h => ?_)
  · obtain ⟨a, bs, k, rfl, _⟩ := h
    rfl
  · obtain ⟨a, bs, k, rfl, hd, z⟩ := h
    obtain ⟨vs, h2, h3⟩ := lst_bars hd
    refine ⟨_, (pss_one (ps_ret (pe_op op_add (pe_call (ok__law_run T) (hr.mono (by decide)) (by rfl) T.g__law_run T._law_run.kp (b__law_run T) .nil pass0 (pa_cons (pe_revL (pe_slice sl_list (pv 0) po_none (po_some (pv 1)))) pa_nil)) (pe_call (ok__law_run T) (hr.mono (by decide)) (by rfl) T.g__law_run T._law_run.kp (b__law_run T) .nil pass0 (pa_cons (pe_slice sl_list (pv 0) (po_some (pv 1)) po_none) pa_nil))))), ?_⟩
    refine ⟨_, rfl, _, rfl, _, rfl, a, vs, rfl, h2, fun c nc => ?_⟩
    rw [cut_take]
    have s1 : Same H (upd H c (.lst (vs.take k))) := same_upd nc
    refine ⟨c, _, rfl, .of upd_same, fun e ne => ?_⟩
    have s2 := s1.trans (same_upd (o := .lst (vs.take k).reverse) ne)
    refine ⟨e, (bs.take k).reverse, rfl, .lst (.of upd_same) ?_, ?_⟩
    · show DpAll K _ _ (((bs.take k).reverse).map barD)
      rw [List.map_reverse, List.map_take]
      exact dpa_rev (dpa_take k (dpa_same s2 h3))
    refine ⟨_, rfl, _, rfl, _, rfl, a, vs, rfl, s2.seq h2, fun g ng => ?_⟩
    rw [cut_drop]
    have s3 := s2.trans (same_upd (o := .lst (vs.drop k)) ng)
    refine ⟨g, bs.drop k, rfl, .lst (.of upd_same) ?_, _, _, rfl, rfl, z _ s3⟩
    show DpAll K _ _ ((bs.drop k).map barD)
    rw [List.map_drop]
    exact dpa_drop k (dpa_same s3 h3)
theorem sc_Part_eq : FnScope ["self", "other"] ["self", "other"] (defScope s_Part_eq) := ⟨rfl, rfl, rfl, by decide +kernel, rfl, by decide +kernel, by decide +kernel⟩
section
variable {K : PySem.W.Frag} {mg : Str → Option Value}
theorem b_Part_eq (T : Txt K mg) : Binds K (fdOf K ("Part", some "__eq__")) ["self", "other"] [] := T.Part_eq.bindsN fun _ _ _ _ _ _ us hl => match us, hl with | [_, _], _ => rfl
end
theorem eqv_bar (a b : Bar) : PyData.eqv (barD a) (barD b) = true ↔ a = b := by
  obtain ⟨w, x, r⟩ := a
  obtain ⟨w', x', r'⟩ := b
  simp [barD, PyData.eqv, PyData.eqvAll]
theorem eqv_bars (xs ys : List Bar) : PyData.eqv (.list (barsD xs)) (.list (barsD ys)) = decide (xs = ys) := by
  rw [Bool.eq_iff_iff, decide_eq_true_iff]
  exact eqv_listM eqv_bar xs ys
theorem shp_bar (b : Bar) : Shp 1 (barD b) := shp_tup (shpA_cons (shp_int _) (shpA_cons (shp_int _) (shpA_cons (shp_bool _) shpA_nil)))
theorem shp_bars (bs : List Bar) : Shp 2 (.list (barsD bs)) := shp_list (shpA_all fun d hd => by
  obtain ⟨b, _, rfl⟩ := List.mem_map.mp hd
  exact shp_bar b)
def sp_Part_eq (K : PySem.W.Frag) : Sp := fun vs H Q _ => ∃ (p q : Addr) (bs : List Bar) (past : List (List Bar)) (y : V), vs = [.ref p, y] ∧ PartX K H p q bs past ∧
  ((∃ (p' q' : Addr) (bs' : List Bar) (past' : List (List Bar)), y = .ref p' ∧ PartX K H p' q' bs' past' ∧ Q (.bl (decide (bs = bs'))) H) ∨ ∃ d, Dp K H y d ∧ Q (.bl false) H)
theorem part_ty {K : PySem.W.Frag} {mg : Str → Option Value} (T : Txt K mg) {H : Hp} {p dx : Addr} {fs : List (Str × V)} (h : H p = some (.ins (pC K) dx fs)) : TyX K H (.ref p) (.ref (pC K)) := .base (.ins h T.cl_Part T.k_class T.k_get T.k_takes T.k_mro)
theorem kit_part {K : PySem.W.Frag} {mg : Str → Option Value} (T : Txt K mg) {H : Hp} {v : V} {d : PyData} (h : Dp K H v d) : PySem.W.kitOne K (.type (tyD d)) (.ref (pC K)) = some false := by
  cases h with
  | non => exact T.k_NoneType
  | bl b => exact T.k_bool
  | int i => exact T.k_int
  | str x => exact T.k_str
  | lst _ _ => exact T.k_list
  | tup _ _ => exact T.k_tuple
theorem first_part {K : PySem.W.Frag} {mg : Str → Option Value} (T : Txt K mg) {H : Hp} {v : V} {d : PyData} (h : Dp K H v d) : PySem.W.notFirst K (pC K) (.type (tyD d)) = true := by
  cases h with
  | non => exact T.k_first_NoneType
  | bl b => exact T.k_first_bool
  | int i => exact T.k_first_int
  | str x => exact T.k_first_str
  | lst _ _ => exact T.k_first_list
  | tup _ _ => exact T.k_first_tuple
theorem ok_Part_eq {P : Program} {w : World} {K : PySem.W.Frag} {mg : Str → Option Value} {base : Heap} (T : Txt K mg) : OkF P w K mg base CX0 1 ("Part", some "__eq__") ["self", "other"] (sp_Part_eq K) := by
  refine okN T.Part_eq sc_Part_eq (fun vs H Q E h => ?_) (fun cdv A outer s H vs Q E hr h => ?_)
  · obtain ⟨p, q, bs, past, y, rfl, _⟩ := h
    rfl
  · obtain ⟨p, q, bs, past, y, rfl, hp, hy⟩ := h
    obtain ⟨dx, r, ws, h1, n, h2, _⟩ := hp
    refine ⟨_, (pss_one (ps_ret (pe_and (pe_callB call_isi (by rfl) T.b_isinstance (by decide +kernel) (pa_cons (pv 1) (pa_cons (pe_glob (v := .ref (He.ga K "Part")) (by rfl) T.g_Part rfl) pa_nil))) (pe_one (pe_cmpR (op_eqD hr.units) (pe_fld (pv 0) rfl) (pe_fld (pv 1) rfl) (nomark _)))))), ?_⟩
    rcases hy with ⟨p', q', bs', past', rfl, hp', k⟩ | ⟨d, hd, k⟩
    · obtain ⟨dx', r', ws', h1', n', h2', _⟩ := hp'
      refine ⟨_, rfl, _, _, _, _, _, rfl, .own _, part_ty T h1', T.k_self, _, rfl, ?_⟩
      refine iteT ⟨_, rfl, p, _, dx, _, _, rfl, h1, T.cl_Part, T.n_row, pf_row, _, rfl, p', _, dx', _, _, rfl, h1', T.cl_Part, T.n_row, pf_row, _, _, h2.dp, h2'.dp, (shp_bars bs).ok (by decide), (shp_bars bs').ok (by decide), ?_⟩
      rw [eqv_bars]
      exact k
    · refine ⟨_, rfl, _, _, _, _, _, rfl, .own _, dp_ty hd, kit_part T hd, _, rfl, iteF k⟩
section
variable {X : Cx}
/-- what == asks of the other one -/
def OthP (K : PySem.W.Frag) (H : Hp) (y : V) : Prop := (∃ b dy gs, y = .ref b ∧ H b = some (.ins (pC K) dy gs)) ∨ ∃ d, Dp K H y d
theorem oth_ty (T : Txt X.K X.mg) {pins : List (Addr × Obj)} {σ : L2.St} {H : Hp} {s : Shared} {y : V} {u : Value} (I : Inv X pins σ H s) (r : RelV y u) (h : OthP X.K H y) : ∃ tb, PySem.W.Looks (model X.prog X.w) s.heap (typeOf u) tb ∧ PySem.W.notFirst X.K (pC X.K) tb = true := by
  rcases h with ⟨b, dy, gs, rfl, hb⟩ | ⟨d, hd⟩
  · obtain ⟨P, Z, p, _⟩ := kit_of I r (part_ty T hb)
    exact ⟨_, Z.ty _ _ I.kIn p, by simp [PySem.W.notFirst]⟩
  · obtain ⟨P, Z, p, _⟩ := kit_of I r (dp_ty hd)
    exact ⟨_, Z.ty _ _ I.kIn p, first_part T hd⟩
def rEqP (K : PySem.W.Frag) (sp : Sp) : R2 := fun x y H Q => ∃ p dx fs, x = .ref p ∧ H p = some (.ins (pC K) dx fs) ∧ OthP K H y ∧ sp [x, y] H (fun v H' => ∃ b, v = .bl b ∧ Q (.bl b) H') E0
def rNeP (K : PySem.W.Frag) (sp : Sp) : R2 := fun x y H Q => ∃ p dx fs, x = .ref p ∧ H p = some (.ins (pC K) dx fs) ∧ OthP K H y ∧ sp [x, y] H (fun v H' => ∃ b, v = .bl b ∧ Q (.bl (!b)) H') E0
theorem b_eq2 (T : Txt X.K X.mg) : Binds X.K (fdOf X.K ("Part", some "__eq__")) ["self", "other"] [] := b_Part_eq T
theorem op_eqP {n : Nat} {sp : Sp} (T : Txt X.K X.mg) (F : FnOk X.prog X.w X.K X.mg X.base CX0 n (He.fAd X.K ("Part", some "__eq__")) (fdOf X.K ("Part", some "__eq__")) ["self", "other"] sp) (hr : Room n X.A) : OpR X (compareOp .Eq) (rEqP X.K sp) := by
  intro pins s σ H x y v u Q I rx ry h
  obtain ⟨p, dx, fs, rfl, hp, ho, hs⟩ := h
  cases rx
  obtain ⟨mA, J, _⟩ := ins_get I.hok hp
  obtain ⟨od, J, _⟩ := J.look
  obtain ⟨tb, hb, hn⟩ := oth_ty T I ry ho
  obtain ⟨m, hF⟩ := I.fr
  show wpAny (model X.prog X.w) X.A (richCompare .Eq (.ref p) u) (EP X pins σ Q) X.xe s
  refine PySem.W.cmp_K (op := .Eq) hr.units0 hF I.ok.mod.kin J hb hn T.m_Part_eq.at_ T.m_Part_eq.fn ?_
  refine wpAny_mono (run_at (vs := [.ref p, y]) (Q := fun v H' => ∃ b, v = .bl b ∧ Q (.bl b) H') (E := E0) F (b_eq2 T) I hr rfl (.cons rfl (.cons ry .nil)) hs) (fun r s' z => ?_) fun _ _ z => z
  obtain ⟨v', H', I', r', b, rfl, q⟩ := z
  cases r'
  exact ⟨.bl b, H', I', rfl, q⟩
theorem op_neP {n : Nat} {sp : Sp} (T : Txt X.K X.mg) (F : FnOk X.prog X.w X.K X.mg X.base CX0 n (He.fAd X.K ("Part", some "__eq__")) (fdOf X.K ("Part", some "__eq__")) ["self", "other"] sp) (hr : Room (n + 1) X.A) : OpR X (compareOp .NotEq) (rNeP X.K sp) := by
  intro pins s σ H x y v u Q I rx ry h
  obtain ⟨p, dx, fs, rfl, hp, ho, hs⟩ := h
  cases rx
  obtain ⟨mA, J, _⟩ := ins_get I.hok hp
  obtain ⟨od, J, _⟩ := J.look
  obtain ⟨tb, hb, hn⟩ := oth_ty T I ry ho
  show wpAny (model X.prog X.w) X.A (richCompare .NotEq (.ref p) u) (EP X pins σ Q) X.xe s
  refine ne_K (hu_of hr) I.kIn J hb hn T.k_ne T.k_mro T.m_Part_eq.at_ T.m_Part_eq.fn ?_
  refine wpAny_mono (run_at (vs := [.ref p, y]) (Q := fun v H' => ∃ b, v = .bl b ∧ Q (.bl (!b)) H') (E := E0) F (b_eq2 T) I hr.in1 rfl (.cons rfl (.cons ry .nil)) hs) (fun r s' z => ?_) fun _ _ z => z
  obtain ⟨v', H', I', r', b, rfl, q⟩ := z
  cases r'
  exact ⟨b, rfl, .bl (!b), H', I', rfl, q⟩
end
theorem sc_Part_becomes : FnScope ["self", "row"] ["self", "row"] (defScope s_Part_becomes) := ⟨rfl, rfl, rfl, by decide +kernel, rfl, by decide +kernel, by decide +kernel⟩
section
variable {K : PySem.W.Frag} {mg : Str → Option Value}
theorem b_Part_becomes (T : Txt K mg) : Binds K (fdOf K ("Part", some "becomes")) ["self", "row"] [] := T.Part_becomes.bindsN fun _ _ _ _ _ _ us hl => match us, hl with | [_, _], _ => rfl
end
def sp_Part_becomes (K : PySem.W.Frag) : Sp := fun vs H Q _ => ∃ (p q r' : Addr) (bs bs' : List Bar) (past : List (List Bar)), vs = [.ref p, .ref r'] ∧ PartX K H p q bs past ∧ r' ≠ q ∧ RowAt K H r' bs' ∧ past.length < 1000 ∧
  ∀ H', Fr [p, q] H H' → PartX K H' p q bs' (past ++ [bs]) → Q .non H'
theorem ok_Part_becomes {P : Program} {w : World} {K : PySem.W.Frag} {mg : Str → Option Value} {base : Heap} (T : Txt K mg) : OkF P w K mg base CX0 1 ("Part", some "becomes") ["self", "row"] (sp_Part_becomes K) := by
  refine okN T.Part_becomes sc_Part_becomes (fun vs H Q E h => ?_) (fun cdv A outer s H vs Q E hr h => ?_)
  · obtain ⟨p, q, r', bs, bs', past, rfl, _⟩ := h
    rfl
  · obtain ⟨p, q, r', bs, bs', past, rfl, hp, nr, hr', hl, k⟩ := h
    obtain ⟨dx, r, ws, h1, n, h2, h3, h4⟩ := hp
    refine ⟨_, (pss_cons (ps_expr (pe_bm PySem.F.plainAttrs_list PySem.F.slot_list_append PySem.F.type_list_append mt_append (pe_fld (pv 0) rfl) (pa_cons (pe_fld (pv 0) rfl) pa_nil)))
      (pss_one (ps_fld (pv 0) (pv 1) rfl))), ?_⟩
    have npq : p ≠ q := ne_of h1 h3 (by intro z; cases z)
    have f1 : Fr [p, q] H (upd H q (.lst (ws ++ [.ref r]))) := Fr.upd h3 trivial (by simp)
    have h1' : (upd H q (.lst (ws ++ [.ref r]))) p = some (.ins (pC K) dx (pf r q)) := by
      rw [upd_ne npq]
      exact h1
    refine ⟨_, rfl, p, _, dx, _, _, rfl, h1, T.cl_Part, T.n_past, pf_past, .inl ⟨rfl, _, .of h3⟩, _, rfl, p, _, dx, _, _, rfl, h1, T.cl_Part, T.n_row, pf_row, q, ws, _, rfl, rfl, h3, ?_, ?_⟩
    · rw [h4.len]
      exact small1000 (by omega)
    · refine ⟨_, rfl, _, rfl, p, _, dx, _, rfl, h1', T.cl_Part, T.n_row, pf_len, ?_⟩
      have f2 : Fr [p, q] (upd H q (.lst (ws ++ [.ref r]))) (upd (upd H q (.lst (ws ++ [.ref r]))) p (.ins (pC K) dx (pf r' q))) := Fr.upd h1' trivial (by simp)
      have np : ∀ r bs, RowAt K H r bs → r ≠ p := fun r bs ⟨vs, z, _⟩ => ne_of z h1 (by intro z; cases z)
      have f := f1.trans f2
      refine k _ f ⟨dx, r', ws ++ [.ref r], upd_same, nr, hr'.fr f ?_, ?_, ?_⟩
      · simp [nr, np _ _ hr']
      · rw [upd_ne npq.symm, upd_same]
      · refine Rows.imp (h4.snoc n h2) fun r bs nq z => z.fr f ?_
        simp [nq, np _ _ z]
theorem sc_beats_of : FnScope ["row", "found", "width", "beats", "rests"] ["row"] (defScope s_beats_of) := ⟨rfl, rfl, rfl, by decide +kernel, rfl, by decide +kernel, by decide +kernel⟩
section
variable {K : PySem.W.Frag} {mg : Str → Option Value}
theorem b_beats_of (T : Txt K mg) : Binds K (fdOf K ("beats_of", none)) ["row"] [] := T.beats_of.bindsN fun _ _ _ _ _ _ us hl => match us, hl with | [_], _ => rfl
end
def sp_beats_of (K : PySem.W.Frag) : Sp := fun vs H Q _ => ∃ (a : Addr) (bs : List Bar), vs = [.ref a] ∧ Dp K H (.ref a) (.list (barsD bs)) ∧ Q (.int (beatsOf bs)) H
theorem ok_beats_of {P : Program} {w : World} {K : PySem.W.Frag} {mg : Str → Option Value} {base : Heap} (T : Txt K mg) : OkF P w K mg base CX0 1 ("beats_of", none) ["row"] (sp_beats_of K) := by
  refine okN T.beats_of sc_beats_of (fun vs H Q E h => ?_) (fun cdv A outer s H vs Q E hr h => ?_)
  · obtain ⟨a, bs, rfl, _⟩ := h
    rfl
  · obtain ⟨a, bs, rfl, hd, q⟩ := h
    obtain ⟨xs, hs, ha⟩ := lst_bars hd
    refine ⟨_, (pss_cons (ps_set (i := 1) sc_beats_of.nd rfl (by first | exact Or.inl rfl | exact Or.inr rfl) pe_int)
      (pss_cons (ps_for PassesOwn.never rfl (pi_list (pv 0)) (pg_tup rfl (pgs_cons (pg_name (i := 2) sc_beats_of.nd rfl (by first | exact Or.inl rfl | exact Or.inr rfl)) (pgs_cons (pg_name (i := 3) sc_beats_of.nd rfl (by first | exact Or.inl rfl | exact Or.inr rfl)) (pgs_cons (pg_name (i := 4) sc_beats_of.nd rfl (by first | exact Or.inl rfl | exact Or.inr rfl)) pgs_nil))))
      (pss_cons (ps_if (pt_not (pt_val (pv 4))) (pss_one (ps_ret (pv 1))) pss_nil)
      (pss_one (ps_set (i := 1) sc_beats_of.nd rfl (by first | exact Or.inl rfl | exact Or.inr rfl) (pe_op op_add (pv 1) (pv 3))))))
      (pss_one (ps_ret (pv 1))))), ?_⟩
    refine ⟨_, rfl, a, rfl, ⟨_, hs⟩, for_list (xs := xs) (fun i σ H' => H' = H ∧ ∃ f y2 y3 y4, σ = [some (.ref a), some (.int f), y2, y3, y4] ∧ f + beatsOf (bs.drop i) = beatsOf bs) ⟨rfl, 0, none, none, none, rfl, ?_⟩ ?_ ?_ ?_⟩
    · show 0 + beatsOf bs = beatsOf bs
      omega
    · rintro i σ H' _ ⟨rfl, _⟩
      exact hs
    · rintro i x σ H' hx ⟨rfl, f, y2, y3, y4, rfl, e⟩
      obtain ⟨b, p, hb, rfl, hp⟩ := bar_at ha hx
      refine ⟨p, _, rfl, hp, rfl, _, _, rfl, _, _, rfl, _, _, rfl, rfl, ?_⟩
      rw [drop_at hb] at e
      refine ⟨_, rfl, _, rfl, ?_⟩
      replace e : f + (if b.r = true then b.b + beatsOf (bs.drop (i + 1)) else 0) = beatsOf bs := e
      cases hr : b.r with
      | true =>
        rw [hr, if_pos rfl] at e
        refine iteF ⟨_, rfl, _, rfl, _, _, rfl, rfl, rfl, _, _, _, _, rfl, ?_⟩
        omega
      | false =>
        rw [hr, if_neg Bool.false_ne_true] at e
        refine iteT ⟨_, rfl, ?_⟩
        rw [show f = beatsOf bs by omega]
        exact q
    · rintro σ H' ⟨rfl, f, y2, y3, y4, rfl, e⟩
      rw [bars_len ha, List.drop_length] at e
      refine ⟨_, rfl, ?_⟩
      rw [show f = beatsOf bs by
        have e2 : f + 0 = beatsOf bs := e
        omega]
      exact q
theorem sc_Part_ahead : FnScope ["self", "at"] ["self", "at"] (defScope s_Part_ahead) := ⟨rfl, rfl, rfl, by decide +kernel, rfl, by decide +kernel, by decide +kernel⟩
section
variable {K : PySem.W.Frag} {mg : Str → Option Value}
theorem b_Part_ahead (T : Txt K mg) : Binds K (fdOf K ("Part", some "ahead")) ["self", "at"] [] := T.Part_ahead.bindsN fun _ _ _ _ _ _ us hl => match us, hl with | [_, _], _ => rfl
end
def sp_Part_ahead (K : PySem.W.Frag) : Sp := fun vs H Q _ => ∃ (p q : Addr) (k : Nat) (bs : List Bar) (past : List (List Bar)), vs = [.ref p, .int (k : Int)] ∧ PartX K H p q bs past ∧ ∀ H', Same H H' → Q (.int (beatsOf (bs.take k).reverse)) H'
theorem ok_Part_ahead {P : Program} {w : World} {K : PySem.W.Frag} {mg : Str → Option Value} {base : Heap} (T : Txt K mg) : OkF P w K mg base CX0 2 ("Part", some "ahead") ["self", "at"] (sp_Part_ahead K) := by
  refine okN T.Part_ahead sc_Part_ahead (fun vs H Q E h => ?_) (fun cdv A outer s H vs Q E hr h => ?_)
  · obtain ⟨p, q, k, bs, past, rfl, _⟩ := h
    rfl
  · obtain ⟨p, q, k, bs, past, rfl, hp, z⟩ := h
    obtain ⟨dx, r, ws, h1, n, ⟨vs, h2, h3⟩, _⟩ := hp
    refine ⟨_, (pss_one (ps_ret (pe_call (ok_beats_of T) (hr.mono (by decide)) (by rfl) T.g_beats_of T.beats_of.kp (b_beats_of T) .nil pass0 (pa_cons (pe_revL (pe_slice sl_list (pe_fld (pv 0) rfl) po_none (po_some (pv 1)))) pa_nil)))), ?_⟩
    refine ⟨_, rfl, p, _, dx, _, _, rfl, h1, T.cl_Part, T.n_row, pf_row, _, rfl, _, rfl, r, vs, rfl, .of h2, fun c nc => ?_⟩
    rw [cut_take]
    have s1 : Same H (upd H c (.lst (vs.take k))) := same_upd nc
    refine ⟨c, _, rfl, .of upd_same, fun e ne => ?_⟩
    have s2 := s1.trans (same_upd (o := .lst (vs.take k).reverse) ne)
    refine ⟨e, (bs.take k).reverse, rfl, .lst (.of upd_same) ?_, z _ s2⟩
    show DpAll K _ _ (((bs.take k).reverse).map barD)
    rw [List.map_reverse, List.map_take]
    exact dpa_rev (dpa_take k (dpa_same s2 h3))
theorem sc_Part_behind : FnScope ["self", "at"] ["self", "at"] (defScope s_Part_behind) := ⟨rfl, rfl, rfl, by decide +kernel, rfl, by decide +kernel, by decide +kernel⟩
section
variable {K : PySem.W.Frag} {mg : Str → Option Value}
theorem b_Part_behind (T : Txt K mg) : Binds K (fdOf K ("Part", some "behind")) ["self", "at"] [] := T.Part_behind.bindsN fun _ _ _ _ _ _ us hl => match us, hl with | [_, _], _ => rfl
end
def sp_Part_behind (K : PySem.W.Frag) : Sp := fun vs H Q _ => ∃ (p q : Addr) (k : Nat) (bs : List Bar) (past : List (List Bar)), vs = [.ref p, .int (k : Int)] ∧ PartX K H p q bs past ∧ ∀ H', Same H H' → Q (.int (beatsOf (bs.drop k))) H'
theorem ok_Part_behind {P : Program} {w : World} {K : PySem.W.Frag} {mg : Str → Option Value} {base : Heap} (T : Txt K mg) : OkF P w K mg base CX0 2 ("Part", some "behind") ["self", "at"] (sp_Part_behind K) := by
  refine okN T.Part_behind sc_Part_behind (fun vs H Q E h => ?_) (fun cdv A outer s H vs Q E hr h => ?_)
  · obtain ⟨p, q, k, bs, past, rfl, _⟩ := h
    rfl
  · obtain ⟨p, q, k, bs, past, rfl, hp, z⟩ := h
    obtain ⟨dx, r, ws, h1, n, ⟨vs, h2, h3⟩, _⟩ := hp
    refine ⟨_, (pss_one (ps_ret (pe_call (ok_beats_of T) (hr.mono (by decide)) (by rfl) T.g_beats_of T.beats_of.kp (b_beats_of T) .nil pass0 (pa_cons (pe_slice sl_list (pe_fld (pv 0) rfl) (po_some (pv 1)) po_none) pa_nil)))), ?_⟩
    refine ⟨_, rfl, p, _, dx, _, _, rfl, h1, T.cl_Part, T.n_row, pf_row, _, rfl, _, rfl, r, vs, rfl, .of h2, fun c nc => ?_⟩
    rw [cut_drop]
    have s1 : Same H (upd H c (.lst (vs.drop k))) := same_upd nc
    refine ⟨c, bs.drop k, rfl, .lst (.of upd_same) ?_, z _ s1⟩
    show DpAll K _ _ ((bs.drop k).map barD)
    rw [List.map_drop]
    exact dpa_drop k (dpa_same s1 h3)
theorem sc_Part_rest : FnScope ["self", "at"] ["self", "at"] (defScope s_Part_rest) := ⟨rfl, rfl, rfl, by decide +kernel, rfl, by decide +kernel, by decide +kernel⟩
section
variable {K : PySem.W.Frag} {mg : Str → Option Value}
theorem b_Part_rest (T : Txt K mg) : Binds K (fdOf K ("Part", some "rest")) ["self", "at"] [] := T.Part_rest.bindsN fun _ _ _ _ _ _ us hl => match us, hl with | [_, _], _ => rfl
end
def sp_Part_rest (K : PySem.W.Frag) : Sp := fun vs H Q _ => ∃ (p q : Addr) (k : Nat) (bs : List Bar) (past : List (List Bar)), vs = [.ref p, .int (k : Int)] ∧ PartX K H p q bs past ∧ k ≤ bs.length ∧ ∀ H', Same H H' → Q (.int (restOf bs k)) H'
theorem isNum_nat {k n : Nat} (h : k ≤ n) : isNum (.int (k : Int)) 0 (n : Int) = true := by
  show (decide ((0 : Int) ≤ (k : Int)) && decide ((k : Int) ≤ (n : Int))) = true
  rw [decide_eq_true (by omega), decide_eq_true (by omega)]
  rfl
theorem ok_Part_rest {P : Program} {w : World} {K : PySem.W.Frag} {mg : Str → Option Value} {base : Heap} (T : Txt K mg) : OkF P w K mg base CX0 3 ("Part", some "rest") ["self", "at"] (sp_Part_rest K) := by
  refine okN T.Part_rest sc_Part_rest (fun vs H Q E h => ?_) (fun cdv A outer s H vs Q E hr h => ?_)
  · obtain ⟨p, q, k, bs, past, rfl, _⟩ := h
    rfl
  · obtain ⟨p, q, k, bs, past, rfl, hp, hk, z⟩ := h
    obtain ⟨dx, r, ws, h1, n, ⟨vs, h2, h3⟩, _⟩ := id hp
    refine ⟨_, (pss_cons (ps_if (pt_not (pt_val (pe_call (ok_is_number T) (hr.mono (by decide)) (by rfl) T.g_is_number T.is_number.kp (b_is_number T) .nil pass0 (pa_cons (pv 1) (pa_cons pe_int (pa_cons (pe_callB call_len (by rfl) T.b_len PySem.boot_len (pa_cons (pe_fld (pv 0) rfl) pa_nil)) pa_nil)))))) pss_never pss_nil)
      (pss_one (ps_ret (pe_op op_add (pe_meth (pv 0) T.cl_Part T.m_Part_ahead (ok_Part_ahead T) (hr.mono (by decide)) (b_Part_ahead T) .nil pass0 (pa_cons (pv 1) pa_nil)) (pe_meth (pv 0) T.cl_Part T.m_Part_behind (ok_Part_behind T) (hr.mono (by decide)) (b_Part_behind T) .nil pass0 (pa_cons (pv 1) pa_nil)))))), ?_⟩
    refine ⟨_, rfl, _, rfl, p, _, dx, _, _, rfl, h1, T.cl_Part, T.n_row, pf_row, _, _, rfl, .inl ⟨_, .of h2, rfl⟩, _, .int (k : Int), _, _, rfl, .int _, _, rfl, ?_⟩
    rw [bars_len h3, isNum_nat hk]
    refine iteF ⟨_, rfl, p, dx, _, rfl, h1, pf_no (by decide +kernel) (by decide +kernel), _, rfl, p, q, k, bs, past, rfl, hp, fun H1 s1 => ?_⟩
    refine ⟨_, rfl, p, dx, _, rfl, s1 _ _ h1, pf_no (by decide +kernel) (by decide +kernel), _, rfl, p, q, k, bs, past, rfl, hp.same s1, fun H2 s2 => ?_⟩
    exact ⟨_, _, rfl, rfl, z _ (s1.trans s2)⟩
theorem sc_Part_put : FnScope ["self", "at", "bar"] ["self", "at", "bar"] (defScope s_Part_put) := ⟨rfl, rfl, rfl, by decide +kernel, rfl, by decide +kernel, by decide +kernel⟩
section
variable {K : PySem.W.Frag} {mg : Str → Option Value}
theorem b_Part_put (T : Txt K mg) : Binds K (fdOf K ("Part", some "put")) ["self", "at", "bar"] [] := T.Part_put.bindsN fun _ _ _ _ _ _ us hl => match us, hl with | [_, _, _], _ => rfl
end
def sp_Part_put (K : PySem.W.Frag) : Sp := fun vs H Q _ => ∃ (p q : Addr) (k : Nat) (v : V) (b : Bar) (bs : List Bar) (past : List (List Bar)), vs = [.ref p, .int (k : Int), v] ∧ PartX K H p q bs past ∧ k ≤ bs.length ∧ Dp K H v (barD b) ∧ BarOk b ∧ bs.length < 40 ∧ past.length < 1000 ∧
  ∀ H', Fr [p, q] H H' → PartX K H' p q (bs.take k ++ [b] ++ bs.drop k) (past ++ [bs]) → Q .non H'
theorem ok_Part_put {P : Program} {w : World} {K : PySem.W.Frag} {mg : Str → Option Value} {base : Heap} (T : Txt K mg) : OkF P w K mg base CX0 3 ("Part", some "put") ["self", "at", "bar"] (sp_Part_put K) := by
  refine okN T.Part_put sc_Part_put (fun vs H Q E h => ?_) (fun cdv A outer s H vs Q E hr h => ?_)
  · obtain ⟨p, q, k, v, b, bs, past, rfl, _⟩ := h
    rfl
  · obtain ⟨p, q, k, v, b, bs, past, rfl, hp, hk, hb, ok, hl, hpl, z⟩ := h
    obtain ⟨dx, r, ws, h1, n, ⟨vs, h2, h3⟩, h4, h5⟩ := id hp
    have hlv := bars_len h3
    refine ⟨_, (pss_cons (ps_if (pt_not (pt_val (pe_call (ok_is_number T) (hr.mono (by decide)) (by rfl) T.g_is_number T.is_number.kp (b_is_number T) .nil pass0 (pa_cons (pv 1) (pa_cons pe_int (pa_cons (pe_callB call_len (by rfl) T.b_len PySem.boot_len (pa_cons (pe_fld (pv 0) rfl) pa_nil)) pa_nil)))))) pss_never pss_nil)
      (pss_cons (ps_if (pt_not (pt_val (pe_call (ok_is_bar T) (hr.mono (by decide)) (by rfl) T.g_is_bar T.is_bar.kp (b_is_bar T) .nil pass0 (pa_cons (pv 2) pa_nil)))) pss_never pss_nil)
      (pss_cons (ps_if (pt_cmpR op_eq (pe_callB call_len (by rfl) T.b_len PySem.boot_len (pa_cons (pe_fld (pv 0) rfl) pa_nil)) (pe_glob (v := .int 40) (by rfl) T.c_MOST.choose_spec ⟨_, rfl⟩) (nomark _)) pss_never pss_nil)
      (pss_one (ps_expr (pe_meth (pv 0) T.cl_Part T.m_Part_becomes (ok_Part_becomes T) (hr.mono (by decide)) (b_Part_becomes T) .nil pass0 (pa_cons (pe_op op_cat (pe_op op_cat (pe_slice sl_list (pe_fld (pv 0) rfl) po_none (po_some (pv 1))) (pe_lst (pa_cons (pv 2) pa_nil))) (pe_slice sl_list (pe_fld (pv 0) rfl) (po_some (pv 1)) po_none)) pa_nil))))))), ?_⟩
    refine ⟨_, rfl, _, rfl, p, _, dx, _, _, rfl, h1, T.cl_Part, T.n_row, pf_row, _, _, rfl, .inl ⟨_, .of h2, rfl⟩, _, .int (k : Int), _, _, rfl, .int _, _, rfl, ?_⟩
    rw [hlv, isNum_nat hk]
    refine iteF ⟨_, rfl, _, _, rfl, hb, _, rfl, ?_⟩
    rw [isBar_bar ok]
    refine iteF ⟨_, rfl, p, _, dx, _, _, rfl, h1, T.cl_Part, T.n_row, pf_row, _, _, rfl, .inl ⟨_, .of h2, rfl⟩, rfl, _, rfl, ?_⟩
    refine iteNQ (by rw [hlv]; omega) ?_
    refine ⟨_, rfl, p, dx, _, rfl, h1, pf_no (by decide +kernel) (by decide +kernel), ?_⟩
    refine ⟨_, rfl, p, _, dx, _, _, rfl, h1, T.cl_Part, T.n_row, pf_row, _, rfl, _, rfl, r, vs, rfl, .of h2, fun c1 n1 => ?_⟩
    rw [cut_take]
    have s1 : Same H (upd H c1 (.lst (vs.take k))) := same_upd n1
    refine ⟨_, rfl, by show (1 : Nat) ≤ sizeLine; decide, fun c2 n2 => ?_⟩
    have s2 := s1.trans (same_upd (o := .lst [v]) n2)
    have ne12 : c1 ≠ c2 := ne_of_none upd_same n2
    refine ⟨c1, c2, vs.take k, [v], rfl, rfl, by rw [upd_ne ne12, upd_same], upd_same, ?_, fun c3 n3 => ?_⟩
    · rw [List.length_take]
      show min k vs.length + 1 ≤ sizeLine
      exact Nat.le_of_lt (small1000 (by omega))
    have s3 := s2.trans (same_upd (o := .lst (vs.take k ++ [v])) n3)
    refine ⟨_, rfl, p, _, dx, _, _, rfl, s3 _ _ h1, T.cl_Part, T.n_row, pf_row, _, rfl, _, rfl, r, vs, rfl, .of (s3 _ _ h2), fun c4 n4 => ?_⟩
    rw [cut_drop]
    have s4 := s3.trans (same_upd (o := .lst (vs.drop k)) n4)
    have ne34 : c3 ≠ c4 := ne_of_none upd_same n4
    refine ⟨c3, c4, vs.take k ++ [v], vs.drop k, rfl, rfl, by rw [upd_ne ne34, upd_same], upd_same, ?_, fun c5 n5 => ?_⟩
    · rw [List.length_append, List.length_take, List.length_drop]
      show min k vs.length + 1 + (vs.length - k) ≤ sizeLine
      exact Nat.le_of_lt (small1000 (by omega))
    have s5 := s4.trans (same_upd (o := .lst (vs.take k ++ [v] ++ vs.drop k)) n5)
    refine ⟨p, q, c5, bs, bs.take k ++ [b] ++ bs.drop k, past, rfl, hp.same s5, ?_, ⟨_, upd_same, ?_⟩, hpl, fun H' f hp' => z H' ?_ hp'⟩
    · exact fun e => by
        have e5 := s5.free (l := c5) 
        have := s4 _ _ h4
        rw [← e, n5] at this
        cases this
    · show DpAll K _ _ ((bs.take k ++ [b] ++ bs.drop k).map barD)
      rw [List.map_append, List.map_append, List.map_take, List.map_drop]
      exact dpa_app (dpa_app (dpa_take k (dpa_same s5 h3)) (.cons (dp_same s5 hb) .nil)) (dpa_drop k (dpa_same s5 h3))
    · exact (Fr.of s5 _).trans f
theorem sc_Part_drop : FnScope ["self", "at"] ["self", "at"] (defScope s_Part_drop) := ⟨rfl, rfl, rfl, by decide +kernel, rfl, by decide +kernel, by decide +kernel⟩
section
variable {K : PySem.W.Frag} {mg : Str → Option Value}
theorem b_Part_drop (T : Txt K mg) : Binds K (fdOf K ("Part", some "drop")) ["self", "at"] [] := T.Part_drop.bindsN fun _ _ _ _ _ _ us hl => match us, hl with | [_, _], _ => rfl
end
def sp_Part_drop (K : PySem.W.Frag) : Sp := fun vs H Q _ => ∃ (p q : Addr) (k : Nat) (bs : List Bar) (past : List (List Bar)), vs = [.ref p, .int (k : Int)] ∧ PartX K H p q bs past ∧ k < bs.length ∧ bs.length ≤ 40 ∧ past.length < 1000 ∧
  ∀ H', Fr [p, q] H H' → PartX K H' p q (bs.take k ++ bs.drop (k + 1)) (past ++ [bs]) → Q .non H'
theorem ok_Part_drop {P : Program} {w : World} {K : PySem.W.Frag} {mg : Str → Option Value} {base : Heap} (T : Txt K mg) : OkF P w K mg base CX0 3 ("Part", some "drop") ["self", "at"] (sp_Part_drop K) := by
  refine okN T.Part_drop sc_Part_drop (fun vs H Q E h => ?_) (fun cdv A outer s H vs Q E hr h => ?_)
  · obtain ⟨p, q, k, bs, past, rfl, _⟩ := h
    rfl
  · obtain ⟨p, q, k, bs, past, rfl, hp, hk, hl, hpl, z⟩ := h
    obtain ⟨dx, r, ws, h1, n, ⟨vs, h2, h3⟩, h4, h5⟩ := id hp
    have hlv := bars_len h3
    refine ⟨_, (pss_cons (ps_if (pt_not (pt_val (pe_call (ok_is_number T) (hr.mono (by decide)) (by rfl) T.g_is_number T.is_number.kp (b_is_number T) .nil pass0 (pa_cons (pv 1) (pa_cons pe_int (pa_cons (pe_op op_sub (pe_callB call_len (by rfl) T.b_len PySem.boot_len (pa_cons (pe_fld (pv 0) rfl) pa_nil)) pe_int) pa_nil)))))) pss_never pss_nil)
      (pss_one (ps_expr (pe_meth (pv 0) T.cl_Part T.m_Part_becomes (ok_Part_becomes T) (hr.mono (by decide)) (b_Part_becomes T) .nil pass0 (pa_cons (pe_op op_cat (pe_slice sl_list (pe_fld (pv 0) rfl) po_none (po_some (pv 1))) (pe_slice sl_list (pe_fld (pv 0) rfl) (po_some (pe_op op_add (pv 1) pe_int)) po_none)) pa_nil))))), ?_⟩
    refine ⟨_, rfl, _, rfl, p, _, dx, _, _, rfl, h1, T.cl_Part, T.n_row, pf_row, _, _, rfl, .inl ⟨_, .of h2, rfl⟩, _, _, rfl, rfl, _, .int (k : Int), _, _, rfl, .int _, _, rfl, ?_⟩
    rw [hlv, show ((bs.length : Nat) : Int) - 1 = ((bs.length - 1 : Nat) : Int) by omega, isNum_nat (by omega)]
    refine iteF ⟨_, rfl, p, dx, _, rfl, h1, pf_no (by decide +kernel) (by decide +kernel), ?_⟩
    refine ⟨_, rfl, p, _, dx, _, _, rfl, h1, T.cl_Part, T.n_row, pf_row, _, rfl, _, rfl, r, vs, rfl, .of h2, fun c1 n1 => ?_⟩
    rw [cut_take]
    have s1 : Same H (upd H c1 (.lst (vs.take k))) := same_upd n1
    refine ⟨_, rfl, p, _, dx, _, _, rfl, s1 _ _ h1, T.cl_Part, T.n_row, pf_row, _, rfl, _, _, rfl, rfl, _, rfl, r, vs, rfl, .of (s1 _ _ h2), fun c2 n2 => ?_⟩
    rw [show (k : Int) + 1 = ((k + 1 : Nat) : Int) by omega, cut_drop]
    have s2 := s1.trans (same_upd (o := .lst (vs.drop (k + 1))) n2)
    have ne12 : c1 ≠ c2 := ne_of_none upd_same n2
    refine ⟨c1, c2, vs.take k, vs.drop (k + 1), rfl, rfl, by rw [upd_ne ne12, upd_same], upd_same, ?_, fun c3 n3 => ?_⟩
    · rw [List.length_take, List.length_drop]
      exact Nat.le_of_lt (small1000 (by omega))
    have s3 := s2.trans (same_upd (o := .lst (vs.take k ++ vs.drop (k + 1))) n3)
    refine ⟨p, q, c3, bs, bs.take k ++ bs.drop (k + 1), past, rfl, hp.same s3, ?_, ⟨_, upd_same, ?_⟩, hpl, fun H' f hp' => z H' ?_ hp'⟩
    · exact fun e => by
        have := s2 _ _ h4
        rw [← e, n3] at this
        cases this
    · show DpAll K _ _ ((bs.take k ++ bs.drop (k + 1)).map barD)
      rw [List.map_append, List.map_take, List.map_drop]
      exact dpa_app (dpa_take k (dpa_same s3 h3)) (dpa_drop (k + 1) (dpa_same s3 h3))
    · exact (Fr.of s3 _).trans f
theorem sc_law : FnScope ["script", "dice", "bars", "turn", "part", "other", "at", "found", "ahead", "behind"] ["script"] (defScope s_law) := ⟨rfl, rfl, rfl, by decide +kernel, rfl, by decide +kernel, by decide +kernel⟩
theorem beats_cons_no {x : Bar} {r : List Bar} (h : x.r = false) : beatsOf (x :: r) = 0 := by
  show (if x.r = true then x.b + beatsOf r else 0) = 0
  rw [h]
  rfl
def bar110 : Bar := ⟨1, 1, false⟩
theorem put_at {bs : List Bar} {k : Nat} (hk : k ≤ bs.length) (b : Bar) : (bs.take k ++ [b] ++ bs.drop k).take k = bs.take k ∧ (bs.take k ++ [b] ++ bs.drop k).drop k = b :: bs.drop k := by
  have hl : (bs.take k).length = k := by rw [List.length_take]; omega
  refine ⟨?_, ?_⟩
  · rw [List.append_assoc, List.take_append_of_le_length (by omega)]
    exact List.take_of_length_le (by omega)
  · rw [List.append_assoc, List.drop_append_of_le_length (by omega)]
    rw [List.drop_of_length_le (by omega)]
    rfl
theorem put_at1 {bs : List Bar} {k : Nat} (hk : k ≤ bs.length) (b : Bar) : (bs.take k ++ [b] ++ bs.drop k).take (k + 1) = bs.take k ++ [b] ∧ (bs.take k ++ [b] ++ bs.drop k).drop (k + 1) = bs.drop k := by
  have hl : (bs.take k ++ [b]).length = k + 1 := by rw [List.length_append, List.length_take]; simp; omega
  refine ⟨?_, ?_⟩
  · rw [List.take_append_of_le_length (by omega)]
    exact List.take_of_length_le (by omega)
  · rw [List.drop_append_of_le_length (by omega), List.drop_of_length_le (by omega)]
    rfl
theorem rest_put {bs : List Bar} {k : Nat} (hk : k ≤ bs.length) : restOf (bs.take k ++ [bar110] ++ bs.drop k) k = beatsOf (bs.take k).reverse := by
  unfold restOf
  rw [(put_at hk bar110).1, (put_at hk bar110).2, beats_cons_no rfl]
  omega
theorem rest_put1 {bs : List Bar} {k : Nat} (hk : k ≤ bs.length) : restOf (bs.take k ++ [bar110] ++ bs.drop k) (k + 1) = beatsOf (bs.drop k) := by
  unfold restOf
  rw [(put_at1 hk bar110).1, (put_at1 hk bar110).2, List.reverse_append]
  show beatsOf (bar110 :: (bs.take k).reverse) + _ = _
  rw [beats_cons_no rfl]
  omega
theorem ok_law {P : Program} {w : World} {K : PySem.W.Frag} {mg : Str → Option Value} {base : Heap} (T : Txt K mg) : OkF P w K mg base CX0 20 ("law", none) ["script"] (sp_law K) := by
  refine okN T.law sc_law (fun vs H Q E h => ?_) (fun cdv A outer s H vs Q E hr h => ?_)
  · obtain ⟨a, ns, rfl, _⟩ := h
    rfl
  · obtain ⟨a, ns, rfl, hS, hlen, z⟩ := h
    refine ⟨_, (pss_cons (ps_for PassesOwn.never rfl (pi_list (pe_call (ok__law_rounds T) (hr.mono (by decide)) (by rfl) T.g__law_rounds T._law_rounds.kp (b__law_rounds T) .nil pass0 (pa_cons (pv 0) (pa_cons pe_int pa_nil)))) (pg_name (i := 1) sc_law.nd rfl (by first | exact Or.inl rfl | exact Or.inr rfl))
      (pss_cons (ps_set (i := 2) sc_law.nd rfl (by first | exact Or.inl rfl | exact Or.inr rfl) (pe_lst pa_nil))
      (pss_cons (ps_for PassesOwn.never rfl (pi_range1 (by rfl) T.b_range (pa_cons (pe_call (ok__law_roll T) (hr.mono (by decide)) (by rfl) T.g__law_roll T._law_roll.kp (b__law_roll T) .nil pass0 (pa_cons (pv 1) (pa_cons pe_int pa_nil))) pa_nil)) (pg_name (i := 3) sc_law.nd rfl (by first | exact Or.inl rfl | exact Or.inr rfl))
      (pss_one (ps_expr (pe_bm PySem.F.plainAttrs_list PySem.F.slot_list_append PySem.F.type_list_append mt_append (pv 2) (pa_cons (pe_tup (pa_cons (pe_op op_add pe_int (pe_call (ok__law_roll T) (hr.mono (by decide)) (by rfl) T.g__law_roll T._law_roll.kp (b__law_roll T) .nil pass0 (pa_cons (pv 1) (pa_cons pe_int pa_nil)))) (pa_cons (pe_op op_add pe_int (pe_call (ok__law_roll T) (hr.mono (by decide)) (by rfl) T.g__law_roll T._law_roll.kp (b__law_roll T) .nil pass0 (pa_cons (pv 1) (pa_cons pe_int pa_nil)))) (pa_cons (pe_cmpR op_gt (pe_call (ok__law_roll T) (hr.mono (by decide)) (by rfl) T.g__law_roll T._law_roll.kp (b__law_roll T) .nil pass0 (pa_cons (pv 1) (pa_cons pe_int pa_nil))) pe_int (nomark _)) pa_nil)))) pa_nil)))))
      (pss_cons (ps_par (by rfl) sc_law.nd (i := 4) (j := 5) rfl rfl (by decide) rfl rfl (pa_cons (pe_make T.mk_Part (ok_Part_init T) (hr.mono (by decide)) (by rfl) T.g_Part (b1_Part T) .nil pass0 (pa_cons (pv 2) pa_nil)) (pa_cons (pe_make T.mk_Part (ok_Part_init T) (hr.mono (by decide)) (by rfl) T.g_Part (b1_Part T) .nil pass0 (pa_cons (pe_callTy call_list_of (by rfl) T.b_list (by decide +kernel) (pa_cons (pv 2) pa_nil)) pa_nil)) pa_nil)) (by rfl))
      (pss_cons (ps_for PassesOwn.never rfl (pi_range1 (by rfl) T.b_range (pa_cons (pe_op op_add (pe_callB call_len (by rfl) T.b_len PySem.boot_len (pa_cons (pv 2) pa_nil)) pe_int) pa_nil)) (pg_name (i := 6) sc_law.nd rfl (by first | exact Or.inl rfl | exact Or.inr rfl))
      (pss_cons (ps_set (i := 7) sc_law.nd rfl (by first | exact Or.inl rfl | exact Or.inr rfl) (pe_meth (pv 4) T.cl_Part T.m_Part_rest (ok_Part_rest T) (hr.mono (by decide)) (b_Part_rest T) .nil pass0 (pa_cons (pv 6) pa_nil)))
      (pss_one (ps_if (PW.pt (pw_or (pt_cmpR op_ne (pv 7) (pe_call (ok__law_rest T) (hr.mono (by decide)) (by rfl) T.g__law_rest T._law_rest.kp (b__law_rest T) .nil pass0 (pa_cons (pv 2) (pa_cons (pv 6) pa_nil))) (nomark _)) (pw_or1 (pt_val (pe_callB call_isi (by rfl) T.b_isinstance (by decide +kernel) (pa_cons (pv 7) (pa_cons (pe_bltn (v := .ty "bool") (by rfl) T.b_bool (by decide +kernel) rfl) pa_nil))))))) (pss_one (ps_ret pe_bl)) pss_nil))))
      (pss_cons (ps_if (PW.pt (pw_or (pt_not (pt_cmpR (op_eqP T (ok_Part_eq T) (hr.mono (by decide))) (pv 4) (pv 5) (nomark _))) (pw_or (pt_cmpR (op_neP T (ok_Part_eq T) (hr.mono (by decide))) (pv 4) (pv 5) (nomark _)) (pw_or (pt_cmpR (op_eqP T (ok_Part_eq T) (hr.mono (by decide))) (pv 4) (pv 2) (nomark _)) (pw_or1 (pt_cmpR (op_eqP T (ok_Part_eq T) (hr.mono (by decide))) (pv 4) (pe_callTy (call_strP T (ok_Part_str T) (hr.mono (by decide))) (by rfl) T.b_str (by decide +kernel) (pa_cons (pv 4) pa_nil)) (nomark _))))))) (pss_one (ps_ret pe_bl)) pss_nil)
      (pss_cons (ps_set (i := 6) sc_law.nd rfl (by first | exact Or.inl rfl | exact Or.inr rfl) (pe_call (ok__law_roll T) (hr.mono (by decide)) (by rfl) T.g__law_roll T._law_roll.kp (b__law_roll T) .nil pass0 (pa_cons (pv 1) (pa_cons (pe_op op_add (pe_callB call_len (by rfl) T.b_len PySem.boot_len (pa_cons (pv 2) pa_nil)) pe_int) pa_nil))))
      (pss_cons (ps_par (by rfl) sc_law.nd (i := 8) (j := 9) rfl rfl (by decide) rfl rfl (pa_cons (pe_call (ok__law_run T) (hr.mono (by decide)) (by rfl) T.g__law_run T._law_run.kp (b__law_run T) .nil pass0 (pa_cons (pe_revL (pe_slice sl_list (pv 2) po_none (po_some (pv 6)))) pa_nil)) (pa_cons (pe_call (ok__law_run T) (hr.mono (by decide)) (by rfl) T.g__law_run T._law_run.kp (b__law_run T) .nil pass0 (pa_cons (pe_slice sl_list (pv 2) (po_some (pv 6)) po_none) pa_nil)) pa_nil)) (by rfl))
      (pss_cons (ps_expr (pe_meth (pv 5) T.cl_Part T.m_Part_put (ok_Part_put T) (hr.mono (by decide)) (b_Part_put T) .nil pass0 (pa_cons (pv 6) (pa_cons (pe_tup (pa_cons pe_int (pa_cons pe_int (pa_cons pe_bl pa_nil)))) pa_nil))))
      (pss_cons (ps_if (PW.pt (pw_or (pt_cmpR (op_eqP T (ok_Part_eq T) (hr.mono (by decide))) (pv 4) (pv 5) (nomark _)) (pw_or (pt_cmpR op_ne (pe_meth (pv 5) T.cl_Part T.m_Part_rest (ok_Part_rest T) (hr.mono (by decide)) (b_Part_rest T) .nil pass0 (pa_cons (pv 6) pa_nil)) (pv 8) (nomark _)) (pw_or (pt_cmpR op_ne (pe_meth (pv 5) T.cl_Part T.m_Part_rest (ok_Part_rest T) (hr.mono (by decide)) (b_Part_rest T) .nil pass0 (pa_cons (pe_op op_add (pv 6) pe_int) pa_nil)) (pv 9) (nomark _)) (pw_or1 (pt_cmpR op_ne (pe_meth (pv 4) T.cl_Part T.m_Part_rest (ok_Part_rest T) (hr.mono (by decide)) (b_Part_rest T) .nil pass0 (pa_cons (pv 6) pa_nil)) (pe_op op_add (pv 8) (pv 9)) (nomark _))))))) (pss_one (ps_ret pe_bl)) pss_nil)
      (pss_cons (ps_expr (pe_meth (pv 5) T.cl_Part T.m_Part_drop (ok_Part_drop T) (hr.mono (by decide)) (b_Part_drop T) .nil pass0 (pa_cons (pv 6) pa_nil)))
      (pss_one (ps_if (pt_not (pt_cmpR (op_eqP T (ok_Part_eq T) (hr.mono (by decide))) (pv 4) (pv 5) (nomark _))) (pss_one (ps_ret pe_bl)) pss_nil)))))))))))))
      (pss_one (ps_ret pe_bl))), ?_⟩
    refine ⟨_, rfl, a, ns, 4, rfl, hS, hlen, by decide, fun H1 R ds s1 nR hR hds hdl => ?_⟩
    refine ⟨R, rfl, ⟨_, .of hR⟩, for_list (xs := ds.map V.ref) (fun i σ H' => Rnd H' R ds ∧ ∃ y1 y2 y3 y4 y5 y6 y7 y8 y9, σ = [some (.ref a), y1, y2, y3, y4, y5, y6, y7, y8, y9]) ⟨⟨hR, hds⟩, none, none, none, none, none, none, none, none, none, rfl⟩ ?_ ?_ ?_⟩
    · rintro i σ H' _ ⟨h, _⟩
      exact .of h.1
    · rintro i v σ H0 hv ⟨hRnd, y1, y2, y3, y4, y5, y6, y7, y8, y9, rfl⟩
      obtain ⟨d, rfl, hd, hD0⟩ := hRnd.at hv
      -- bars = []
      refine ⟨by decide, fun B nB => ?_⟩
      have sB : Same H0 (upd H0 B (.lst [])) := same_upd nB
      -- the roll of how many
      refine ⟨_, rfl, d, 15, rfl, hD0.same sB, by decide, by decide, fun H2 r f2 hD2 r0 r1 => ⟨r, rfl, by omega, by omega, ?_⟩⟩
      have fr2 : Fr [d] H0 H2 := (Fr.of sB _).trans f2
      have nBd : B ≠ d := fun e => by
        obtain ⟨i, j, q⟩ := hD0
        rw [e, q] at nB
        cases nB
      have row2 : RowAt K H2 B [] := ⟨[], f2.keep _ _ (by simp [nBd]) upd_same, .nil⟩
      refine for_range (lo := 0) (n := r.toNat) (fun j σ H' => Fr [d] H0 H' ∧ Dice H' d ∧ ∃ (bs : List Bar) (y3 : Option V), bs.length = j ∧ (∀ b ∈ bs, BarOk b) ∧ RowAt K H' B bs ∧ σ = [some (.ref a), some (.ref d), some (.ref B), y3, y4, y5, y6, y7, y8, y9]) ⟨fr2, hD2, [], y3, rfl, fun _ h => (nomatch h), row2, rfl⟩ ?_ ?_
      · rintro j σ H3 hj ⟨f3, hD3, bs, y3, hbl, hbo, hrow, rfl⟩
        have step : ∀ (Ha Hb : Hp), Fr [d] H0 Ha → RowAt K Ha B bs → Dice Ha d → Fr [d] Ha Hb → Fr [d] H0 Hb ∧ RowAt K Hb B bs := fun Ha Hb fa ra da fb => ⟨fa.trans fb, ra.fr fb (by simp [nBd])⟩
        refine ⟨_, rfl, .inl ⟨rfl, _, .of hrow.choose_spec.1⟩, ?_⟩
        refine ⟨_, rfl, d, 9, rfl, hD3, by decide, by decide, fun H4 w f4 hD4 w0 w1 => ⟨_, _, rfl, rfl, ?_⟩⟩
        obtain ⟨g4, row4⟩ := step _ _ f3 hrow hD3 f4
        refine ⟨_, rfl, d, 16, rfl, hD4, by decide, by decide, fun H5 x f5 hD5 x0 x1 => ⟨_, _, rfl, rfl, ?_⟩⟩
        obtain ⟨g5, row5⟩ := step _ _ g4 row4 hD4 f5
        refine ⟨_, rfl, d, 3, rfl, hD5, by decide, by decide, fun H6 u f6 hD6 u0 u1 => ⟨_, _, rfl, rfl, by show (3 : Nat) ≤ sizeLine; decide, fun t nt => ?_⟩⟩
        obtain ⟨g6, row6⟩ := step _ _ g5 row5 hD5 f6
        have st : Same H6 (upd H6 t (.tup [.int (1 + w), .int (1 + x), .bl (decide (0 < u))])) := same_upd nt
        obtain ⟨vs, q1, q2⟩ := row6.same st
        obtain ⟨row7, f7⟩ := row_app (b := ⟨1 + w, 1 + x, decide (0 < u)⟩) q1 q2 (dp_bar_of (.of upd_same))
        refine ⟨B, vs, _, rfl, rfl, q1, ?_, ?_, ?_, bs ++ [⟨1 + w, 1 + x, decide (0 < u)⟩], _, ?_, ?_, row7, rfl⟩
        · rw [bars_len q2]
          exact small1000 (by omega)
        · exact (g6.trans (Fr.of st _)).step f7 (by simp [nB])
        · exact (hD6.same st).keep f7 (by simp [nBd.symm])
        · rw [List.length_append, hbl]
          rfl
        · intro b hb
          rcases List.mem_append.mp hb with hb | hb
          · exact hbo b hb
          · have e : b = ⟨1 + w, 1 + x, decide (0 < u)⟩ := by simpa using hb
            subst e
            exact ⟨by show 1 ≤ 1 + w; omega, by show 1 + w ≤ 40; omega, by show 1 ≤ 1 + x; omega, by show 1 + x ≤ 16; omega⟩
      · rintro σ H3 ⟨f3, hD3, bs, y3, hbl, hbo, hrow, rfl⟩
        have hb15 : bs.length < 15 := by omega
        -- part, other = Part(bars), Part(list(bars))
        refine ⟨_, rfl, make_part (.inr ⟨B, rfl, hrow.dp⟩) hbo (by omega) fun H4 p q s4 np nq npq hp => ?_⟩
        have row4 := hrow.same s4
        refine ⟨_, rfl, B, _, rfl, .inl (.of row4.choose_spec.1), fun C nC => ?_⟩
        have sC := same_upd (o := .lst row4.choose) nC
        have row5 : RowAt K (upd H4 C (.lst row4.choose)) C bs := ⟨_, upd_same, dpa_same sC row4.choose_spec.2⟩
        refine make_part (.inr ⟨C, rfl, row5.dp⟩) hbo (by omega) fun H6 p2 q2 s6 np2 nq2 npq2 hp2 => ?_
        have s36 : Same H3 H6 := (s4.trans sC).trans s6
        have hp6 : PartX K H6 p q bs [] := (hp.same sC).same s6
        have f6 : Fr [d] H0 H6 := f3.then s36
        have hD6 : Dice H6 d := hD3.same s36
        have row6 : RowAt K H6 B bs := hrow.same s36
        have s46 : Same H4 H6 := sC.trans s6
        refine ⟨_, _, rfl, ?_⟩
        -- for at in range(len(bars) + 1)
        refine ⟨_, rfl, _, _, rfl, .inl ⟨_, .of row6.choose_spec.1, rfl⟩, _, _, rfl, rfl, _, rfl, by omega, ?_, ?_⟩
        · rw [bars_len row6.choose_spec.2]
          omega
        rw [bars_len row6.choose_spec.2]
        refine for_range (lo := 0) (n := ((bs.length : Int) + 1).toNat) (fun j σ H' => Same H6 H' ∧ ∃ y6 y7, σ = [some (.ref a), some (.ref d), some (.ref B), y3, some (.ref p), some (.ref p2), y6, y7, y8, y9]) ⟨Same.refl _, y6, y7, rfl⟩ ?_ ?_
        · rintro j σ H7 hj ⟨s7, y6, y7, rfl⟩
          have hp7 := hp6.same s7
          obtain ⟨dx, rr, ws, h1, _⟩ := id hp7
          rw [Int.zero_add]
          refine ⟨_, rfl, p, dx, _, rfl, h1, pf_no (by decide +kernel) (by decide +kernel), _, rfl, p, q, j, bs, [], rfl, hp7, by omega, fun H8 s8 => ?_⟩
          refine ⟨_, rfl, _, rfl, _, rfl, B, bs, j, rfl, (row6.same (s7.trans s8)).dp, fun H9 s9 => ⟨rfl, _, rfl, ?_⟩⟩
          refine iteNNQ rfl ⟨_, rfl, _, _, _, _, _, rfl, .ty _, dp_ty (.int _), kit_bool (.int (restOf bs j)), _, rfl, iteF ?_⟩
          exact ⟨(s7.trans s8).trans s9, _, _, rfl⟩
        · rintro σ H7 ⟨s7, y6, y7, rfl⟩
          have hp7 := hp6.same s7
          have hq7 := hp2.same s7
          obtain ⟨dx, rr, ws, h1, _⟩ := id hp7
          obtain ⟨dx2, rr2, ws2, h12, _⟩ := id hq7
          have row7 := row6.same s7
          have f7 := f6.then s7
          have hD7 := hD6.same s7
          -- if not part == other or part != other or part == bars or part == str(part)
          refine ⟨_, rfl, _, rfl, p, dx, _, rfl, h1, .inl ⟨p2, _, _, rfl, h12⟩, ⟨p, q, bs, [], _, rfl, hp7, .inl ⟨p2, q2, bs, [], rfl, hq7, _, rfl, _, rfl, ?_⟩⟩⟩
          rw [decide_eq_true (show bs = bs from rfl)]
          refine iteF ⟨_, rfl, _, rfl, p, dx, _, rfl, h1, .inl ⟨p2, _, _, rfl, h12⟩, ⟨p, q, bs, [], _, rfl, hp7, .inl ⟨p2, q2, bs, [], rfl, hq7, _, rfl, _, rfl, ?_⟩⟩⟩
          rw [decide_eq_true (show bs = bs from rfl)]
          refine iteF ⟨_, rfl, _, rfl, p, dx, _, rfl, h1, .inr ⟨_, row7.dp⟩, ⟨p, q, bs, [], _, rfl, hp7, .inr ⟨_, row7.dp, _, rfl, _, rfl, iteF ?_⟩⟩⟩
          refine ⟨_, rfl, _, rfl, p, dx, _, rfl, h1, p, q, bs, [], rfl, hp7, hbo, by omega, fun H8 s8 => ⟨_, rfl, ?_⟩⟩
          have hp8 := hp7.same s8
          refine ⟨p, dx, _, rfl, s8 _ _ h1, .inr ⟨_, .str _⟩, ⟨p, q, bs, [], _, rfl, hp8, .inr ⟨_, .str _, _, rfl, _, rfl, iteF ?_⟩⟩⟩
          -- at = roll
          have row8 := row7.same s8
          refine ⟨_, rfl, _, rfl, _, _, rfl, .inl ⟨_, .of row8.choose_spec.1, rfl⟩, _, _, rfl, rfl, d, _, rfl, hD7.same s8, ?_, ?_, fun H9 k0 f9 hD9 k1 k2 => ?_⟩
          · rw [bars_len row8.choose_spec.2]
            omega
          · rw [bars_len row8.choose_spec.2]
            omega
          rw [bars_len row8.choose_spec.2] at k2
          obtain ⟨k, rfl⟩ : ∃ k : Nat, k0 = (k : Int) := ⟨k0.toNat, by omega⟩
          have hk : k ≤ bs.length := by omega
          have hp9 := hp8.fr (hD7.same s8) f9
          have hq9 := (hq7.same s8).fr (hD7.same s8) f9
          have row9 : RowAt K H9 B bs := row8.fr f9 (by simp [nBd])
          have g9 : Fr [d] H0 H9 := (f7.then s8).trans f9
          -- ahead, behind
          obtain ⟨vs, v1, v2⟩ := id row9
          refine ⟨_, rfl, _, rfl, _, rfl, B, vs, rfl, .of v1, fun c1 n1 => ?_⟩
          rw [cut_take]
          have t1 := same_upd (o := .lst (vs.take k)) n1
          refine ⟨c1, _, rfl, .of upd_same, fun c2 n2 => ?_⟩
          have t2 := t1.trans (same_upd (o := .lst (vs.take k).reverse) n2)
          refine ⟨c2, (bs.take k).reverse, rfl, .lst (.of upd_same) ?_, ?_⟩
          · show DpAll K _ _ (((bs.take k).reverse).map barD)
            rw [List.map_reverse, List.map_take]
            exact dpa_rev (dpa_take k (dpa_same t2 v2))
          refine ⟨_, rfl, _, rfl, _, rfl, B, vs, rfl, .of (t2 _ _ v1), fun c3 n3 => ?_⟩
          rw [cut_drop]
          have t3 := t2.trans (same_upd (o := .lst (vs.drop k)) n3)
          refine ⟨c3, bs.drop k, rfl, .lst (.of upd_same) ?_, _, _, rfl, ?_⟩
          · show DpAll K _ _ ((bs.drop k).map barD)
            rw [List.map_drop]
            exact dpa_drop k (dpa_same t3 v2)
          -- other.put(at, (1, 1, False))
          have hp10 := hp9.same t3
          have hq10 := hq9.same t3
          obtain ⟨dx2, rr2, ws2, h12, _⟩ := id hq10
          refine ⟨_, rfl, p2, dx2, _, rfl, h12, pf_no (by decide +kernel) (by decide +kernel), _, rfl, by show (3 : Nat) ≤ sizeLine; decide, fun c4 n4 => ?_⟩
          have t4 := t3.trans (same_upd (o := .tup [.int 1, .int 1, .bl false]) n4)
          refine ⟨p2, q2, k, _, bar110, bs, [], rfl, hq9.same t4, hk, dp_bar_of (x := bar110) (.of upd_same), ⟨by decide, by decide, by decide, by decide⟩, by omega, by decide, fun H11 f11 hq11 => ?_⟩
          -- what was there ahead of other's making
          have c411 : Fr [d] H4 H11 := (((((Fr.of s46 [d]).then s7).then s8).trans f9).then t4).step f11 (by
            intro e he
            rcases List.mem_cons.mp he with e1 | he
            · rw [e1]
              exact .inl (sC.free np2)
            · have e1 : e = q2 := by simpa using he
              rw [e1]
              exact .inl (sC.free nq2))
          have hp11 : PartX K H11 p q bs [] := hp.fr (hD3.same s4) c411
          have hD11 : Dice H11 d := by
            have hDt := hD9.same t4
            refine hDt.keep f11 ?_
            obtain ⟨i, j, hij⟩ := hD3.same s4
            have e1 : d ≠ p2 := ne_of_none (sC _ _ hij) np2
            have e2 : d ≠ q2 := ne_of_none (sC _ _ hij) nq2
            simp [e1, e2]
          have c011 : Fr [d] H0 H11 := (f3.then s4).trans c411
          obtain ⟨dxa, rra, wsa, h1a, _⟩ := id hp11
          obtain ⟨dxb, rrb, wsb, h1b, _⟩ := id hq11
          have neq : bs ≠ bs.take k ++ [bar110] ++ bs.drop k := fun e => by
            have e2 := congrArg List.length e
            rw [List.length_append, List.length_append, List.length_take, List.length_drop] at e2
            simp at e2
            omega
          refine ⟨_, rfl, _, rfl, p, dxa, _, rfl, h1a, .inl ⟨p2, _, _, rfl, h1b⟩, ⟨p, q, bs, [], _, rfl, hp11, .inl ⟨p2, q2, _, _, rfl, hq11, _, rfl, _, rfl, ?_⟩⟩⟩
          rw [decide_eq_false neq]
          have hl11 : (bs.take k ++ [bar110] ++ bs.drop k).length = bs.length + 1 := by
            rw [List.length_append, List.length_append, List.length_take, List.length_drop]
            simp
            omega
          refine iteF ⟨_, rfl, p2, dxb, _, rfl, h1b, pf_no (by decide +kernel) (by decide +kernel), _, rfl, p2, q2, k, _, _, rfl, hq11, by omega, fun H12 s12 => ⟨_, rfl, rfl, _, rfl, ?_⟩⟩
          rw [rest_put hk]
          refine iteNNQ rfl ?_
          refine ⟨_, rfl, p2, dxb, _, rfl, s12 _ _ h1b, pf_no (by decide +kernel) (by decide +kernel), _, rfl, _, _, rfl, rfl, p2, q2, k + 1, _, _, rfl, hq11.same s12, by omega, fun H13 s13 => ⟨_, rfl, rfl, _, rfl, ?_⟩⟩
          rw [rest_put1 hk]
          refine iteNNQ rfl ?_
          have s113 := s12.trans s13
          refine ⟨_, rfl, p, dxa, _, rfl, s113 _ _ h1a, pf_no (by decide +kernel) (by decide +kernel), _, rfl, p, q, k, _, _, rfl, hp11.same s113, hk, fun H14 s14 => ⟨_, rfl, _, rfl, _, _, rfl, rfl, rfl, _, rfl, ?_⟩⟩
          refine iteNNQ rfl ?_
          -- other.drop(at)
          have s114 := s113.trans s14
          refine ⟨_, rfl, p2, dxb, _, rfl, s114 _ _ h1b, pf_no (by decide +kernel) (by decide +kernel), _, rfl, p2, q2, k, _, _, rfl, hq11.same s114, by omega, by omega, by show (1 : Nat) < 1000; decide, fun H15 f15 hq15 => ?_⟩
          rw [(put_at hk bar110).1, (put_at1 hk bar110).2, List.take_append_drop] at hq15
          have c415 : Fr [d] H4 H15 := (c411.then s114).step f15 (by
            intro e he
            rcases List.mem_cons.mp he with e1 | he
            · rw [e1]
              exact .inl (sC.free np2)
            · have e1 : e = q2 := by simpa using he
              rw [e1]
              exact .inl (sC.free nq2))
          have hp15 : PartX K H15 p q bs [] := hp.fr (hD3.same s4) c415
          have hD15 : Dice H15 d := by
            refine (hD11.same s114).keep f15 ?_
            obtain ⟨i, j, hij⟩ := hD3.same s4
            have e1 : d ≠ p2 := ne_of_none (sC _ _ hij) np2
            have e2 : d ≠ q2 := ne_of_none (sC _ _ hij) nq2
            simp [e1, e2]
          obtain ⟨dxc, rrc, wsc, h1c, _⟩ := id hp15
          obtain ⟨dxe, rre, wse, h1e, _⟩ := id hq15
          refine ⟨_, rfl, _, rfl, p, dxc, _, rfl, h1c, .inl ⟨p2, _, _, rfl, h1e⟩, ⟨p, q, bs, [], _, rfl, hp15, .inl ⟨p2, q2, bs, _, rfl, hq15, _, rfl, _, rfl, ?_⟩⟩⟩
          rw [decide_eq_true (show bs = bs from rfl)]
          refine iteF ⟨hRnd.turn hd ((f3.then s4).trans c415) hD15, _, _, _, _, _, _, _, _, _, rfl⟩
    · rintro σ H' ⟨_, y1, y2, y3, y4, y5, y6, y7, y8, y9, rfl⟩
      exact z _
abbrev R : PySem.W.OpenRow := PySem.W.OpenLaw.row PySem.Challenge.rw_turnedleaves_k12_whole_rests
def tf : List He.Defn := []
abbrev hk : PySem.W.Hook := He.hookX 6 fa fn [] tf ex
def ob (s : PySem.W.SharedT) : He.AlX := He.obsX 6 fa fn [] tf ex (HandSHeadRun.getT s)
theorem ob_eq (s : PySem.W.SharedT) : ob s = hk.obs s.abs := He.obsX_eq (HandSHeadRun.getT_eq s)
theorem run (w : World) : HandSHeadRun.RunEq R (PySem.W.view R.prog [19]) hk ob 20000 loose w := by
  intro os
  kernel_rfl
end TL
open PySem PySem.W PySem.Calls PyProof.Rows
set_option maxRecDepth 100000 in
set_option maxHeartbeats 0 in
theorem PySem.Challenge.cw_turnedleaves_k12_whole_rests_holds : PySem.Challenge.rw_turnedleaves_k12_whole_rests.Holds := by
  w_on; o_law
  refine HandSHeadRun.head_any (r := OpenLaw.row PySem.Challenge.rw_turnedleaves_k12_whole_rests) (q := view (OpenLaw.row PySem.Challenge.rw_turnedleaves_k12_whole_rests).prog [19]) (H := TL.hk) (ob := TL.ob) (M := 20000) (loose := TL.loose) (d := HandSHeadRun.topDef (OpenLaw.row PySem.Challenge.rw_turnedleaves_k12_whole_rests).prog 19) (kwd := []) TL.ob_eq
    (by kernel_rfl) (fun s => by kernel_rfl) TL.run (by kernel_rfl) (by kernel_rfl) (by kernel_rfl) (by rfl) (by first | assumption | decide +kernel) (by decide +kernel) ⟨rfl, rfl, rfl, rfl, rfl, by decide +kernel⟩ ?hw ?hc
  case hw => w_witness2
  case hc =>
    refine L2.walk_ofE (l := PySem.Challenge.rw_turnedleaves_k12_whole_rests) (n := 63) (k := 20) (x := "script") (CX := L2.CX0) rfl (by decide) (by kernel_rfl) ⟨rfl, by decide, by decide⟩ ?F (fun _ _ _ _ z => z)
    intro w mg fa h Y G hmg0
    obtain ⟨K, KX, c⟩ := Y
    have hmg : mg ("law" : PySem.Str) = some (.ref fa) := by
      have e : (HandSHeadRun.topDef (OpenLaw.row PySem.Challenge.rw_turnedleaves_k12_whole_rests).prog 19).name = ("law" : PySem.Str) := by kernel_rfl
      rw [← e]
      exact hmg0
    have T : TL.Txt K mg := TL.txt_of KX G c
    have e := hmg.symm.trans T.g_law
    cases e
    have b := L2.FunD.bindsA (ps := ["script"]) T.law fun _ _ _ _ _ _ us hl => match us, hl with | [_], _ => rfl
    exact ⟨K, TL.fdOf K ("law", none), TL.sp_law K, KX, fun s v => b s [v] rfl, fun H a ns hl _ hS => ⟨a, ns, rfl, hS, hl, fun _ => rfl⟩, fun base _ _ => TL.ok_law T⟩
