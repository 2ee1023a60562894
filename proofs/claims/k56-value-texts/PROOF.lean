import PyProof.Rows.All
import Wide.All
import OpenK.AllK
import Wide.FinOn
import PyProof.EqAt
import PyProof.EqKinds
import PyProof.TupleCall
import HandS.ForMost
import HandS.ForExc
import HandS.IsInst
import HandS.Codes
import HandS.More
import HandS.Style
import HandS.Walk
import HandS.Wide
import HandS.NoneIn
import HandS.Conv
import HandS.Defaults
import HandS.ExcInit
import HandS.ExcField
import HandS.TryMany
import HandS.TryElse
import HandS.HeadHook2
import HandS.RaiseMore
import HandS.Zip
import HandS.Replace
import HandS.HeadHook3
import HandS.WordsDict
import KE.KStateDown
import HandS.Head0
import HandS.Head1
import HandS.Head2
import HandS.HeadEnd
import HandS.HeadHook1
import HandS.HeadHook4
import PySem.Challenge.RW_madetables_k56_value_texts
set_option Elab.async false
set_option linter.all false
set_option maxRecDepth 100000
set_option maxHeartbeats 4000000
namespace MT
open PySem PySem.Spec PyProof.Rows L2
/-! ### weaker readings -/
section
variable {X : Cx} {e : Expr} {t t' : TE}
theorem pe_imp (h : PE X e t) (f : ∀ σ H Q, t' σ H Q → t σ H Q) : PE X e t' := ⟨fun pins s σ H Q I q => h.run pins s σ H Q I (f σ H Q q)⟩
theorem pt_imp {t t' : TT} (h : PT X e t) (f : ∀ σ H Q, t' σ H Q → t σ H Q) : PT X e t' := ⟨fun pins s σ H Q I q => h.run pins s σ H Q I (f σ H Q q)⟩
theorem opr_imp {f : Value → Value → Sem Value} {r r' : R2} (h : OpR X f r) (k : ∀ x y H Q, r' x y H Q → r x y H Q) : OpR X f r' := fun pins s σ H x y v u Q I rx ry q => h pins s σ H x y v u Q I rx ry (k x y H Q q)
theorem opr_or {f : Value → Value → Sem Value} {r r' : R2} (h : OpR X f r) (h' : OpR X f r') : OpR X f (fun x y H Q => r x y H Q ∨ r' x y H Q) := fun pins s σ H x y v u Q I rx ry q => q.elim (h pins s σ H x y v u Q I rx ry) (h' pins s σ H x y v u Q I rx ry)
theorem callr_imp {f : Value} {r r' : List V → Hp → VK → Prop} (h : CallR X f r) (k : ∀ xs H Q, r' xs H Q → r xs H Q) : CallR X f r' := fun pins s σ H xs us Q I rs q => h pins s σ H xs us Q I rs (k xs H Q q)
theorem ixr_imp {r r' : R2} (h : IxR X r) (k : ∀ x y H Q, r' x y H Q → r x y H Q) : IxR X r' := fun value slice pins s σ H x y v u Q I rx ry q hs => h value slice pins s σ H x y v u Q I rx ry (k x y H Q q) hs
end
/-! ### kinds of values -/
inductive Ty where
  | non | bl | int | str | lst | tup | dct
  deriving DecidableEq
def Ty.nm : Ty → String
  | .non => "NoneType" | .bl => "bool" | .int => "int" | .str => "str" | .lst => "list" | .tup => "tuple" | .dct => "dict"
def tyO : Option HO → Option Ty
  | some (.lst _) => some .lst
  | some (.tup _) => some .tup
  | some (.dK _) => some .dct
  | some (.frz _ (.lst _)) => some .lst
  | _ => none
def tyOf (H : Hp) : V → Option Ty
  | .non => some .non
  | .bl _ => some .bl
  | .int _ => some .int
  | .str _ => some .str
  | .ref a => tyO (H a)
  | _ => none
def isa (t T : Ty) : Bool := decide (t = T) || (decide (t = .bl) && decide (T = .int))
theorem tyX_of {K : PySem.W.Frag} {H : Hp} {x : V} {t : Ty} (h : tyOf H x = some t) : TyX K H x (.type t.nm) := by
  cases x with
  | non => cases h; exact .base .non
  | bl b => cases h; exact .base (.bl b)
  | int i => cases h; exact .base (.int i)
  | str z => cases h; exact .base (.str z)
  | ref a =>
    replace h : tyO (H a) = some t := h
    cases e : H a with
    | none => rw [e] at h; cases h
    | some o =>
      rw [e] at h
      cases o with
      | lst xs => cases h; exact .base (.lst e)
      | tup xs => cases h; exact .base (.tup e)
      | dK kvs => cases h; exact .base (.dK e)
      | frz ob u =>
        cases u with
        | lst xs => cases h; exact .base (.frz e)
        | _ => cases h
      | _ => cases h
  | _ => cases h
theorem isa_kit {K : PySem.W.Frag} {t T : Ty} : PySem.W.kitOne K (.type t.nm) (.type T.nm) = some (isa t T) := by
  refine kit_ty ?_
  cases t <;> cases T <;> decide +kernel
theorem isa_kits {K : PySem.W.Frag} {t : Ty} : ∀ Ts : List Ty, PySem.W.kitAny K (.type t.nm) (Ts.map fun T => .type T.nm) = some (Ts.any fun T => isa t T)
  | [] => rfl
  | T :: Ts => by
    refine kitAny_cons isa_kit (b := isa t T) (fun h => ?_) fun h => ?_
    · rw [List.any_cons, h, Bool.false_or]
      exact isa_kits Ts
    · rw [List.any_cons, h, Bool.true_or]
/-! ### isinstance -/
theorem pe_eq {X : Cx} {e : Expr} {t t' : TE} (h : PE X e t) (q : t = t') : PE X e t' := q ▸ h
/-- isinstance(x, T), T a built-in class -/
def tIs (T : Ty) (tx : TE) : TE := fun σ H Q => tx σ H fun v H1 => ∃ t, tyOf H1 v = some t ∧ Q (.bl (isa t T)) H1
/-- isinstance(x, (T1, T2, ..)): the tuple of classes is not tracked -/
def tIss (Ts : List Ty) (tx : TE) : TE := fun σ H Q => tx σ H fun v H1 => ∃ t, tyOf H1 v = some t ∧ Q (.bl (Ts.any fun T => isa t T)) H1
def rIsM (T : Ty) : List V → Hp → VK → Prop := fun xs H Q => match xs with
  | [v, .ty n] => n = T.nm ∧ ∃ t, tyOf H v = some t ∧ Q (.bl (isa t T)) H
  | _ => False
theorem call_isM {X : Cx} (T : Ty) : CallR X (.builtin "isinstance") (rIsM T) := callr_imp call_isi fun xs H Q h => by
  unfold rIsM at h
  split at h
  · obtain ⟨rfl, t, ht, q⟩ := h
    exact ⟨_, _, _, _, _, rfl, .ty _, tyX_of ht, isa_kit, q⟩
  · exact h.elim
/-- names of built-in classes, evaluated in a row -/
inductive ClsNames (X : Cx) : List Expr → List Ty → Prop
  | nil : ClsNames X [] []
  | cons {n : Str} {p : Pos} {es : List Expr} {T : Ty} {Ts : List Ty} (hm : X.mg n = none) (hg : Gl X n) (hv : bootBuiltins n = some (.type T.nm)) (hn : n ≠ "__name__") (hd : (n == ("__debug__" : Str)) = false)
      (hs : starEach (.Name n p :: es) X.env = (false, eval (.Name n p) X.env) :: starEach es X.env) (r : ClsNames X es Ts) : ClsNames X (.Name n p :: es) (T :: Ts)
theorem ClsNames.run {X : Cx} {pins : List (Addr × Obj)} {σ : L2.St} {H : Hp} {pos : Pos} : ∀ {es : List Expr} {Ts : List Ty} {s : Shared}, ClsNames X es Ts → Inv X pins σ H s →
    wpAny (model X.prog X.w) X.A (spliced (backTo pos (starEach es X.env))) (fun us s' => us = Ts.map (fun T => .type T.nm) ∧ Inv X pins σ H s') X.xe s
  | _, _, s, .nil, I => Calls.spliced_nil ⟨rfl, I⟩
  | _, _, s, .cons (n := n) (p := p) (es := es) (Ts := Ts) hm hg hv hn hd hs r, I => by
    rw [hs]
    show wpAny _ _ (spliced ((false, eval (.Name n p) X.env) :: backTo pos (starEach es X.env))) _ _ s
    refine Calls.spliced_cons (ld_blt I hg hm hv ?_ hn hd)
    refine thn (ClsNames.run r I) fun us s1 ⟨e, I1⟩ => ?_
    exact ⟨by rw [e]; rfl, I1⟩
section
variable {X : Cx} {x : Expr} {es : List Expr} {Ts : List Ty} {tx : TE} {n : Str} {p p2 pos : Pos}
theorem xe_is (T : Ty) (hx : PE X x tx) (hm : X.mg "isinstance" = none) (hmT : X.mg n = none) (hg : Gl X "isinstance" := by rfl) (hgT : Gl X n := by rfl) (hv : bootBuiltins n = some (.type T.nm) := by decide +kernel) (hn : n ≠ "__name__" := by decide) (hdb : (n == ("__debug__" : Str)) = false := by decide)
    (hs : starEach [x, .Name n p2] X.env = (false, eval x X.env) :: starEach [.Name n p2] X.env := by rfl) (hs2 : starEach [.Name n p2] X.env = (false, eval (.Name n p2) X.env) :: starEach [] X.env := by rfl) (hpl : (backTo pos (starEach [.Name n p2] X.env)).any (·.1) = false := by rfl) :
    PE X (.Call (.Name "isinstance" p) [x, .Name n p2] [] pos) (tIs T tx) := by
  have h1 : PE X (.Name n p2) (tC (.ty T.nm)) := pe_bltn hgT hmT hv rfl hn hdb
  refine pe_eq (pe_callB (call_isM T) hg hm (by decide +kernel) (pa_cons hx (pa_cons h1 pa_nil hs2) hs) (by decide) (by decide) hs hpl) ?_
  funext σ H Q
  show tx σ H (fun v H1 => rIsM T [v, .ty T.nm] H1 Q) = tx σ H _
  congr 1
  funext v H1
  exact propext ⟨fun h => h.2, fun h => ⟨rfl, h⟩⟩
theorem xe_iss (Ts : List Ty) {c : Nat} (hx : PE X x tx) (hm : X.mg "isinstance" = none) (hc : ClsNames X es Ts) (hl : es.length ≤ 1000) (hg : Gl X "isinstance" := by rfl)
    (hs : starEach [x, .Tuple es c p2] X.env = (false, eval x X.env) :: starEach [.Tuple es c p2] X.env := by rfl) (hs2 : starEach [.Tuple es c p2] X.env = (false, eval (.Tuple es c p2) X.env) :: starEach [] X.env := by rfl) (hpl : (backTo pos (starEach [.Tuple es c p2] X.env)).any (·.1) = false := by rfl) :
    PE X (.Call (.Name "isinstance" p) [x, .Tuple es c p2] [] pos) (tIss Ts tx) := by
  refine ⟨fun pins s σ H Q I h => ?_⟩
  refine wpAny_Call_Name_kw (ld_blt (u := .builtin "isinstance") I hg hm (by decide +kernel) ?_ (by decide) (by decide))
  refine PyProof.Rows.callWith_builtin1 ?_ hs hpl
  rw [hs, hs2]
  show wpAny _ _ (spliced ((false, eval x X.env) :: (false, eval (.Tuple es c p2) X.env) :: backTo pos (starEach [] X.env))) _ _ s
  refine Calls.spliced_cons (thn (hx.run pins s σ H _ I h) fun v s1 ⟨y, H1, I1, ry, t, ht, q⟩ => ?_)
  refine Calls.spliced_cons (wpAny_Tuple_spliced (thn (ClsNames.run hc I1) fun us s2 ⟨eu, I2⟩ => ?_))
  have hlen : us.length ≤ sizeLine := by
    rw [eu, List.length_map]
    have : ∀ {es : List Expr} {Ts : List Ty}, ClsNames X es Ts → Ts.length = es.length := by
      intro es Ts h
      induction h with
      | nil => rfl
      | cons _ _ _ _ _ _ _ ih => rw [List.length_cons, List.length_cons, ih]
    rw [this hc]
    exact Nat.le_of_lt (small1000 hl)
  refine ⟨hlen, ?_⟩
  have I3 : Inv X pins σ H1 { s2 with heap := s2.heap.push { cls := .type "tuple", data := .seq us.toArray } } := I2.kept (t' := s2.toks) fun b o e => Heap.get?_push_of_some _ e
  refine Calls.spliced_nil ?_
  obtain ⟨P, Z, pz, hne⟩ := kit_of I3 ry (tyX_of ht)
  exact PySem.W.kia_tup Z I3.kIn pz (Heap.get?_push_size _ rfl) (by rw [eu]; exact isa_kits Ts) hne fun tk => ⟨.bl _, H1, I3.tok tk, rfl, q⟩
end
end MT
set_option Elab.async false
set_option linter.all false
set_option maxRecDepth 100000
set_option maxHeartbeats 4000000
namespace MT
open PySem PySem.Spec PyProof.Rows L2
open SX (S)
/-! ### what stands at a value -/
def seqO : Option HO → Option (List V)
  | some (.lst xs) => some xs
  | some (.tup xs) => some xs
  | some (.frz _ (.lst xs)) => some xs
  | _ => none
def seqOf (H : Hp) : V → Option (List V)
  | .ref a => seqO (H a)
  | _ => none
theorem seq_of {K : PySem.W.Frag} {H : Hp} {a : Addr} {xs : List V} (h : seqO (H a) = some xs) : SqL K H a xs ∨ SqT K H a xs := by
  cases e : H a with
  | none => rw [e] at h; cases h
  | some o =>
    rw [e] at h
    cases o with
    | lst ys => cases h; exact .inl (.inl (.inl e))
    | tup ys => cases h; exact .inr (.inl (.inl e))
    | frz ob u =>
      cases u with
      | lst ys => cases h; exact .inl (.inl (.inr ⟨ob, e⟩))
      | _ => cases h
    | _ => cases h
/-! ### readings by cases of the values -/
/-- a + b -/
def rAddM : R2 := fun x y H Q => match x, y with
  | .int i, .int j => Q (.int (i + j)) H
  | .str a, .str b => a.length + b.length ≤ sizeLine ∧ Q (.str (a ++ b)) H
  | .ref p, .ref q => (match H p, H q with
    | some (.lst xs), some (.lst ys) => xs.length + ys.length ≤ sizeLine ∧ ∀ r, H r = none → Q (.ref r) (upd H r (.lst (xs ++ ys)))
    | some (.tup (x :: xs)), some (.tup (y :: ys)) => (x :: xs).length + (y :: ys).length ≤ sizeLine ∧ ∀ r, H r = none → Q (.ref r) (upd H r (.tup ((x :: xs) ++ (y :: ys))))
    | _, _ => False)
  | _, _ => False
theorem op_addM {X : Cx} : OpR X (binaryOp .Add) rAddM := by
  refine opr_imp (opr_or (op_add (X := X)) (opr_or op_add_str (opr_or op_cat op_catT))) fun x y H Q h => ?_
  cases x with
  | int i => cases y with
    | int j => exact .inl ⟨i, j, rfl, rfl, h⟩
    | _ => exact False.elim h
  | str a => cases y with
    | str b => exact .inr (.inl ⟨a, b, rfl, rfl, h.1, h.2⟩)
    | _ => exact False.elim h
  | ref p => cases y with
    | ref q =>
      unfold rAddM at h
      dsimp only at h
      split at h
      · rename_i xs ys h1 h2
        exact .inr (.inr (.inl ⟨p, q, xs, ys, rfl, rfl, h1, h2, h.1, h.2⟩))
      · rename_i x xs y ys h1 h2
        exact .inr (.inr (.inr ⟨p, q, x :: xs, y :: ys, rfl, rfl, .of h1, .of h2, by simp, h.1, (fun e => by cases e), fun _ => h.2⟩))
      · exact h.elim
    | _ => exact False.elim h
  | _ => exact False.elim h
/-- xs[i], t[i], s[i] -/
def rIxM : R2 := fun x y H Q => match x, y with
  | .ref p, .int i => ∃ xs v, seqO (H p) = some xs ∧ atI xs i = some v ∧ Q v H
  | .str z, .int i => z.length ≤ sizeLine ∧ ∃ c, atI z.cps.toList i = some c ∧ Q (.str (S [c])) H
  | _, _ => False
theorem ix_M {X : Cx} : IxR X rIxM := by
  refine ixr_imp ix_seq fun x y H Q h => ?_
  cases x with
  | ref p => cases y with
    | int i =>
      obtain ⟨xs, v, h1, h2, h3⟩ := (show ∃ xs v, seqO (H p) = some xs ∧ atI xs i = some v ∧ Q v H from h)
      rcases seq_of (K := X.K) h1 with q | q
      · exact .inl ⟨p, xs, i, v, rfl, rfl, q, h2, h3⟩
      · exact .inr (.inl ⟨p, xs, i, v, rfl, rfl, q, h2, h3⟩)
    | _ => exact False.elim h
  | str z => cases y with
    | int i =>
      obtain ⟨h0, c, h1, h2⟩ := (show z.length ≤ sizeLine ∧ ∃ c, atI z.cps.toList i = some c ∧ Q (.str (S [c])) H from h)
      exact .inr (.inr ⟨z, i, c, rfl, rfl, h0, h1, h2⟩)
    | _ => exact False.elim h
  | _ => exact False.elim h
/-- slices of lists and texts -/
def rSlM : V → Option Int → Option Int → Hp → VK → Prop := fun x lo hi H Q => match x with
  | .str z => z.length ≤ sizeLine ∧ Q (.str (cutS z lo hi)) H
  | .ref a => (match H a with
    | some (.lst xs) => ∀ p, H p = none → Q (.ref p) (upd H p (.lst (cutV xs lo hi)))
    | some (.frz _ (.lst xs)) => ∀ p, H p = none → Q (.ref p) (upd H p (.lst (cutV xs lo hi)))
    | _ => False)
  | _ => False
theorem sl_M {X : Cx} : SlR X rSlM := by
  refine fun pins s σ H x v vl vu lo hi sl Q I rx hs pl pu h => SlR.or sl_list sl_str pins s σ H x v vl vu lo hi sl Q I rx hs pl pu ?_
  cases x with
  | str z => exact .inr ⟨z, rfl, h.1, h.2⟩
  | ref a =>
    unfold rSlM at h
    dsimp only at h
    split at h
    · rename_i xs e
      exact .inl ⟨a, xs, rfl, .of e, h⟩
    · rename_i o xs e
      exact .inl ⟨a, xs, rfl, .inl (.inr ⟨o, e⟩), h⟩
    · exact h.elim
  | _ => exact False.elim h
/-- len -/
def rLenM : List V → Hp → VK → Prop := fun xs H Q => match xs with
  | [.str z] => z.length ≤ sizeLine ∧ Q (.int z.length) H
  | [.ref p] => ∃ ys, seqO (H p) = some ys ∧ Q (.int ys.length) H
  | _ => False
theorem call_lenM {X : Cx} : CallR X (.builtin "len") rLenM := by
  refine callr_imp call_len fun xs H Q h => ?_
  unfold rLenM at h
  split at h
  · exact ⟨_, _, rfl, ⟨h.1, rfl⟩, h.2⟩
  · rename_i p
    obtain ⟨ys, h1, h2⟩ := h
    refine ⟨_, _, rfl, ?_, h2⟩
    rcases seq_of (K := X.K) h1 with q | q
    · exact .inl ⟨ys, q, rfl⟩
    · exact .inr ⟨ys, q, rfl⟩
  · exact h.elim
/-- c in s, for a sign -/
def rSignIn (neg : Bool) : R2 := fun x y H Q => match x, y with
  | .str a, .str z => ∃ c, a = S [c] ∧ Q (.bl (if neg then !decide (c ∈ z.cps.toList) else decide (c ∈ z.cps.toList))) H
  | _, _ => False
theorem op_signIn {X : Cx} : OpR X (compareOp .In) (rSignIn false) := opr_imp op_in_sign fun x y H Q h => by
  cases x with
  | str a => cases y with
    | str z =>
      obtain ⟨c, rfl, q⟩ := h
      exact ⟨c, z, rfl, rfl, q⟩
    | _ => exact False.elim h
  | _ => exact False.elim h
theorem op_signNotIn {X : Cx} : OpR X (compareOp .NotIn) (rSignIn true) := opr_imp op_notIn_sign fun x y H Q h => by
  cases x with
  | str a => cases y with
    | str z =>
      obtain ⟨c, rfl, q⟩ := h
      exact ⟨c, z, rfl, rfl, q⟩
    | _ => exact False.elim h
  | _ => exact False.elim h
/-- all(xs), any(xs), xs a list of bools -/
def rAllM (f : List Bool → Bool) : List V → Hp → VK → Prop := fun xs H Q => match xs with
  | [.ref p] => ∃ bs : List Bool, H p = some (.lst (bs.map V.bl)) ∧ Q (.bl (f bs)) H
  | _ => False
theorem call_allM {X : Cx} (hc : X.calm = true) : CallR X (.builtin "all") (rAllM fun bs => bs.all id) := callr_imp (cr_all hc) fun xs H Q h => by
  unfold rAllM at h
  split at h
  · obtain ⟨bs, h1, h2⟩ := h
    exact ⟨_, bs, rfl, .of h1, h2⟩
  · exact h.elim
theorem xe_str {X : Cx} {x y : Str} {j pos} (h : x = y) : PE X (.Constant (.str x) j pos) (tC (.str y)) := h ▸ pe_str
end MT
set_option Elab.async false
set_option linter.all false
set_option maxRecDepth 100000
set_option maxHeartbeats 4000000
namespace MT
open PySem PySem.Spec PyProof.Rows L2
open SX (S)
/-! ### heaps that grow: F, what is read as data, within H -/
structure Grow (F H F' H' : Hp) : Prop where
  s : Same F H
  h : Same H H'
  f : Same F F'
  fh : Same F' H'
  nw : ∀ a, H a ≠ none → F a = none → F' a = none
section
variable {F H F' H' F'' H'' H0 F0 : Hp} {p a : Addr} {o u : HO}
theorem same_upd (h : H p = none) : Same H (upd H p o) := fun b x e => by rw [upd_ne (ne_of_none e h)]; exact e
theorem Grow.refl (s : Same F H) : Grow F H F H := ⟨s, .refl _, .refl _, s, fun _ _ h => h⟩
theorem Grow.same (s : Same F H) (t : Same H H') : Grow F H F H' := ⟨s, t, .refl _, s.trans t, fun _ _ h => h⟩
theorem Same.ne (g : Same H H') (h : H a ≠ none) : H' a ≠ none := fun z => h (Same.free g z)
theorem Grow.trans (g : Grow F H F' H') (k : Grow F' H' F'' H'') : Grow F H F'' H'' := ⟨g.s, g.h.trans k.h, g.f.trans k.f, k.fh, fun a h1 h2 => k.nw a (Same.ne g.h h1) (g.nw a h1 h2)⟩
/-- a new object that will be read as data -/
theorem Grow.new (g : Grow F H F' H') (h : H' p = none) : Grow F H (upd F' p o) (upd H' p o) := by
  have hf : F' p = none := Same.free g.fh h
  have hh : H p = none := Same.free g.h h
  refine ⟨g.s, g.h.trans (same_upd h), g.f.trans (same_upd hf), fun b x e => ?_, fun a h1 h2 => ?_⟩
  · by_cases hb : b = p
    · subst hb; rw [upd_same] at e ⊢; exact e
    · rw [upd_ne hb] at e ⊢; exact g.fh _ _ e
  · rw [upd_ne (fun z => h1 (by rw [z]; exact hh))]
    exact g.nw a h1 h2
/-- a new cell, not (yet) data; a cell changes -/
theorem Grow.cell (g : Grow F H F' H') (h : H p = none) (hf : F' p = none) : Grow F H F' (upd H' p o) :=
  ⟨g.s, fun b x e => by rw [upd_ne (ne_of_none e h)]; exact g.h _ _ e, g.f, fun b x e => by rw [upd_ne (ne_of_none e hf)]; exact g.fh _ _ e, g.nw⟩
/-- a cell becomes data -/
theorem Grow.frz (g : Grow F H F' H') (h : H p = none) (hf : F' p = none) (e : H' p = some o) : Grow F H (upd F' p o) H' := by
  refine ⟨g.s, g.h, g.f.trans (same_upd hf), fun b x q => ?_, fun a h1 h2 => ?_⟩
  · by_cases hb : b = p
    · subst hb; rw [upd_same] at q; rw [e]; exact q
    · rw [upd_ne hb] at q; exact g.fh _ _ q
  · rw [upd_ne (fun z => h1 (by rw [z]; exact h))]
    exact g.nw a h1 h2
end
/-! ### data -/
inductive D where
  | non | bl (b : Bool) | int (i : Int) | str (l : List Nat) | lst (xs : List D) | tup (xs : List D) | dct (kvs : List (List Nat × Int))
/-- no list and no text of data is longer -/
abbrev BL : Nat := 1000000
mutual
/-- v is the data d, as F tells -/
inductive Rep (F : Hp) : V → D → Prop
  | non : Rep F .non .non
  | bl (b : Bool) : Rep F (.bl b) (.bl b)
  | int (i : Int) : Rep F (.int i) (.int i)
  | str {l : List Nat} : l.length ≤ BL → Rep F (.str (S l)) (.str l)
  | lst {a : Addr} {xs : List V} {ds : List D} : F a = some (.lst xs) → RepL F xs ds → ds.length ≤ BL → Rep F (.ref a) (.lst ds)
  | tup {a : Addr} {xs : List V} {ds : List D} : F a = some (.tup xs) → RepL F xs ds → ds.length ≤ BL → Rep F (.ref a) (.tup ds)
  | dct {a : Addr} {ds : List (List Nat × Int)} : ds.length ≤ 1 → F a = some (.dK (ds.map fun q => (Sum.inr (S q.1), V.int q.2))) → Rep F (.ref a) (.dct ds)
inductive RepL (F : Hp) : List V → List D → Prop
  | nil : RepL F [] []
  | cons {v : V} {vs : List V} {d : D} {ds : List D} : Rep F v d → RepL F vs ds → RepL F (v :: vs) (d :: ds)
end
mutual
theorem Rep.mono {F F' : Hp} (s : Same F F') : ∀ {v : V} {d : D}, Rep F v d → Rep F' v d
  | _, _, .non => .non
  | _, _, .bl b => .bl b
  | _, _, .int i => .int i
  | _, _, .str h => .str h
  | _, _, .lst h r z => .lst (s _ _ h) (RepL.mono s r) z
  | _, _, .tup h r z => .tup (s _ _ h) (RepL.mono s r) z
  | _, _, .dct z h => .dct z (s _ _ h)
theorem RepL.mono {F F' : Hp} (s : Same F F') : ∀ {v : List V} {d : List D}, RepL F v d → RepL F' v d
  | _, _, .nil => .nil
  | _, _, .cons h r => .cons (Rep.mono s h) (RepL.mono s r)
end
section
variable {F H : Hp} {v : V} {vs ws : List V} {d : D} {ds es : List D} {i : Nat}
theorem RepL.length : ∀ {vs : List V} {ds : List D}, RepL F vs ds → vs.length = ds.length
  | _, _, .nil => rfl
  | _, _, .cons _ r => congrArg (· + 1) r.length
theorem RepL.append : ∀ {vs ws : List V} {ds es : List D}, RepL F vs ds → RepL F ws es → RepL F (vs ++ ws) (ds ++ es)
  | _, _, _, _, .nil, r => r
  | _, _, _, _, .cons h r, q => .cons h (r.append q)
theorem RepL.one (h : Rep F v d) : RepL F [v] [d] := .cons h .nil
theorem RepL.snoc (r : RepL F vs ds) (h : Rep F v d) : RepL F (vs ++ [v]) (ds ++ [d]) := r.append (.one h)
theorem RepL.take : ∀ {vs : List V} {ds : List D} (n : Nat), RepL F vs ds → RepL F (vs.take n) (ds.take n)
  | _, _, 0, _ => .nil
  | _, _, _ + 1, .nil => .nil
  | _, _, n + 1, .cons h r => .cons h (r.take n)
theorem RepL.drop : ∀ {vs : List V} {ds : List D} (n : Nat), RepL F vs ds → RepL F (vs.drop n) (ds.drop n)
  | _, _, 0, r => r
  | _, _, _ + 1, .nil => .nil
  | _, _, n + 1, .cons h r => r.drop n
theorem RepL.get : ∀ {vs : List V} {ds : List D} {i : Nat} {v : V}, RepL F vs ds → vs[i]? = some v → ∃ d, ds[i]? = some d ∧ Rep F v d
  | _, _, _, _, .nil, h => by simp at h
  | _, _, 0, _, .cons r _, h => by simp at h; subst h; exact ⟨_, rfl, r⟩
  | _, _, i + 1, _, .cons _ r, h => by
    obtain ⟨d, e, q⟩ := RepL.get (i := i) r (by simpa using h)
    exact ⟨d, by simpa using e, q⟩
theorem RepL.getD : ∀ {vs : List V} {ds : List D} {i : Nat} {d : D}, RepL F vs ds → ds[i]? = some d → ∃ v, vs[i]? = some v ∧ Rep F v d
  | _, _, _, _, .nil, h => by simp at h
  | _, _, 0, _, .cons r _, h => by simp at h; subst h; exact ⟨_, rfl, r⟩
  | _, _, i + 1, _, .cons _ r, h => by
    obtain ⟨v, e, q⟩ := RepL.getD (i := i) r (by simpa using h)
    exact ⟨v, by simpa using e, q⟩
theorem RepL.of_get : ∀ {vs : List V} {ds : List D}, vs.length = ds.length → (∀ (i : Nat) (v : V) (d : D), vs[i]? = some v → ds[i]? = some d → Rep F v d) → RepL F vs ds
  | [], [], _, _ => .nil
  | [], _ :: _, h, _ => by cases h
  | _ :: _, [], h, _ => by cases h
  | v :: vs, d :: ds, h, k => .cons (k 0 v d rfl rfl) (RepL.of_get (by simpa using h) fun i a b h1 h2 => k (i + 1) a b (by simpa using h1) (by simpa using h2))
theorem RepL.snoc_inv {vs : List V} {ds : List D} {d : D} (r : RepL F vs (ds ++ [d])) : ∃ ws v, vs = ws ++ [v] ∧ RepL F ws ds ∧ Rep F v d := by
  induction ds generalizing vs with
  | nil =>
    cases r with
    | cons h r => cases r; exact ⟨[], _, rfl, .nil, h⟩
  | cons e es ih =>
    cases r with
    | cons h r =>
      obtain ⟨ws, v, rfl, q, z⟩ := ih r
      exact ⟨_ :: ws, v, rfl, .cons h q, z⟩
/-- the kind of data -/
def D.ty : D → Ty
  | .non => .non | .bl _ => .bl | .int _ => .int | .str _ => .str | .lst _ => .lst | .tup _ => .tup | .dct _ => .dct
theorem Rep.ty (s : Same F H) (r : Rep F v d) : tyOf H v = some d.ty := by
  cases r with
  | lst h _ _ => show tyO (H _) = _; rw [s _ _ h]; rfl
  | tup h _ _ => show tyO (H _) = _; rw [s _ _ h]; rfl
  | dct _ h => show tyO (H _) = _; rw [s _ _ h]; rfl
  | _ => rfl
end
/-! ### comprehensions -/
/-- the i-th thing that is walked, the heap as it was -/
theorem walk_fnL {K : PySem.W.Frag} {a : Addr} {xs : List V} : Walk (Itl K a) xs.length (fun H => SqL K H a xs) (YFn fun i => xs.getD i .non) :=
  walk_list.mono (fun _ h => h) fun i H x H' hi _ y => ⟨y.1, by show x = xs.getD i .non; rw [List.getD_eq_getElem?_getD, y.2]; rfl⟩
theorem walk_fnT {K : PySem.W.Frag} {a : Addr} {xs : List V} : Walk (Itt K a) xs.length (fun H => SqT K H a xs) (YFn fun i => xs.getD i .non) :=
  walk_tup.mono (fun _ h => h) fun i H x H' hi _ y => ⟨y.1, by show x = xs.getD i .non; rw [List.getD_eq_getElem?_getD, y.2]; rfl⟩
theorem walk_fnS {l : List Nat} : Walk (Its (S l)) l.length (fun _ => True) (YFn fun i => .str (S [l.getD i 0])) := by
  have e : (S l).cps.size = l.length := by simp [SX.S]
  rw [← e]
  refine walk_str.mono (fun _ h => h) fun i H x H' hi _ y => ?_
  obtain ⟨h1, c, h2, h3⟩ := y
  refine ⟨h1, ?_⟩
  have : l[i]? = some c := by
    have : (l.toArray)[i]? = some c := h2
    simpa using this
  rw [h3]
  show _ = V.str (S [l.getD i 0])
  rw [List.getD_eq_getElem?_getD, this]
  rfl
/-- what stays of a heap without the list that grows -/
def del (H : Hp) (p : Addr) : Hp := fun b => if b = p then none else H b
theorem del_upd {H : Hp} {p : Addr} {o : HO} (h : H p = none) : del (upd H p o) p = H := by
  funext b
  unfold del
  by_cases e : b = p
  · rw [if_pos e, e, h]
  · rw [if_neg e, upd_ne e]
theorem del_same' {H F : Hp} {p : Addr} (s : Same F H) (h : F p = none) : Same F (del H p) := fun b o e => by
  unfold del
  rw [if_neg (ne_of_none e h)]
  exact s _ _ e
theorem del_sub {H : Hp} {p : Addr} : Same (del H p) H := fun b o e => by
  unfold del at e
  split at e
  · cases e
  · exact e
theorem del_self {H : Hp} {p : Addr} : del H p p = none := if_pos rfl
/-- [te for the n things it i, kept where tt says so]; from (F0, H0); the items are told by R over what is data -/
theorem lc_fn {J : It} {n : Nat} {G : Hp → Prop} {it : Nat → V} (w : Walk J n G (YFn it)) {F0 H0 : Hp} {j : Nat} {te : TE} {σ : L2.St} {D : Addr} {Qd : Hp → Prop} (hG : ∀ H', Same H0 H' → G H') (hn : n < sizeLine) (hD : H0 D = none) (s0 : Same F0 H0)
    (R : Nat → V → Hp → Prop) (Rm : ∀ i v A B, Same A B → R i v A → R i v B)
    (he : ∀ i F1 H1 K', i < n → Grow F0 H0 F1 H1 → (∀ y F2 H2, Grow F1 H1 F2 H2 → R i y F2 → K' y H2) → te (σ.set j (some (it i))) H1 K')
    (hd : ∀ F1 H1 ys, Grow F0 H0 F1 H1 → F1 D = none → H1 D = some (.lst ys) → ys.length = n → (∀ i y, ys[i]? = some y → R i y F1) → Qd H1) :
    ∃ W : Nat → Nat → Hp → Prop, (∃ m, W 0 m (upd H0 D (.lst []))) ∧ ∀ i m H, W i m H →
      (J.stop i H ∧ Qd H) ∨ (J.go i H ∧ ∃ Nx : Hp → Prop, (∀ H', Nx H' → ∃ m', m' < m ∧ W (i + 1) m' H') ∧ ∀ x H', J.yld i H x H' → gName j x (wipe σ [j]) H' fun σ2 H2 => wipe σ2 [j] = wipe σ [j] ∧ tYes σ2 H2 fun b H3 =>
        if b = true then te σ2 H3 fun y H4 => ∃ acc, H4 D = some (.lst acc) ∧ acc.length < sizeLine ∧ Nx (upd H4 D (.lst (acc ++ [y]))) else Nx H3) := by
  have hF0 : F0 D = none := Same.free s0 hD
  refine lc_it w (fun i H => ∃ F1 ys, Grow F0 H0 F1 H ∧ F1 D = none ∧ H D = some (.lst ys) ∧ ys.length = i ∧ ∀ i y, ys[i]? = some y → R i y F1)
    ⟨F0, [], (Grow.refl s0).cell hD hF0, hF0, upd_same, rfl, by simp⟩ (fun i H _ h => ?_) (fun i x H H' hi h y => ?_) (fun H h => ?_)
  · obtain ⟨F1, ys, g, _⟩ := h
    exact hG H g.h
  · obtain ⟨F1, ys, g, hF1, hH, hl, hr⟩ := h
    obtain ⟨rfl, rfl⟩ := y
    have e1 : (wipe σ [j]).set j (some (it i)) = σ.set j (some (it i)) := by
      show (σ.set j none).set j _ = _
      rw [List.set_set]
    show wipe ((wipe σ [j]).set j (some (it i))) [j] = wipe σ [j] ∧ _
    refine ⟨?_, ?_⟩
    · rw [e1]
      show (σ.set j (some (it i))).set j none = σ.set j none
      rw [List.set_set]
    · rw [e1]
      refine he i F1 H' _ hi g fun y F2 H2 g2 r => ?_
      have hH2 := g2.h _ _ hH
      have hF2 : F2 D = none := g2.nw D (by rw [hH]; simp) hF1
      refine ⟨ys, hH2, by omega, F2, ys ++ [y], (g.trans g2).cell hD hF2, hF2, upd_same, by rw [List.length_append, hl]; rfl, fun k z hz => ?_⟩
      by_cases hk : k < ys.length
      · rw [List.getElem?_append_left hk] at hz
        exact Rm _ _ _ _ g2.f (hr k z hz)
      · rw [List.getElem?_append_right (by omega)] at hz
        have hk2 : k - ys.length = 0 := by
          cases q : k - ys.length with
          | zero => rfl
          | succ m => rw [q] at hz; simp at hz
        rw [hk2] at hz
        have ez : y = z := by simpa using hz
        subst ez
        have : k = i := by omega
        subst this
        exact r
  · obtain ⟨F1, ys, g, hF1, hH, hl, hr⟩ := h
    exact hd F1 H ys g hF1 hH hl hr
end MT
set_option Elab.async false
set_option linter.all false
set_option maxRecDepth 100000
set_option maxHeartbeats 4000000
namespace MT
open PySem PySem.Spec PyProof.Rows L2
open SX (S)
/-! ### defs -/
/-- the def x of the module keeps sp, by level k -/
structure Cal (P : Program) (w : World) (K : PySem.W.Frag) (mg : Str → Option Value) (base : Heap) (k : Nat) (x : Str) (ps : List Str) (sp : Sp) : Prop where
  ex : ∃ f fd, FnOk P w K mg base (L2.CX P w) k f fd ps sp ∧ mg x = some (.ref f) ∧ PySem.W.keepIn K (.ref f) = true ∧ Binds K fd ps []
theorem Cal.mono {P : Program} {w : World} {K : PySem.W.Frag} {mg : Str → Option Value} {base : Heap} {j k : Nat} {x : Str} {ps : List Str} {sp : Sp} (c : Cal P w K mg base j x ps sp) (h : j ≤ k) : Cal P w K mg base k x ps sp := by
  obtain ⟨f, fd, F, r⟩ := c.ex
  exact ⟨f, fd, F.mono h, r⟩
theorem Cal.imp {P : Program} {w : World} {K : PySem.W.Frag} {mg : Str → Option Value} {base : Heap} {k : Nat} {x : Str} {ps : List Str} {sp sp' : Sp} (c : Cal P w K mg base k x ps sp) (h : ∀ vs H Q E, sp' vs H Q E → sp vs H Q E) : Cal P w K mg base k x ps sp' := by
  obtain ⟨f, fd, F, r⟩ := c.ex
  exact ⟨f, fd, F.imp h, r⟩
/-- the def x of the module, as it stands -/
structure Def (K : PySem.W.Frag) (mg : Str → Option Value) (x : Str) (st : Stmt) : Prop where
  ex : ∃ fd, FunD K x x (defArgs st) (defBody st) (defScope st) [] [] (He.ga K x) fd
  gm : mg x = some (.ref (He.ga K x))
/-- all parameters are given -/
def Plain (x : Str) (st : Stmt) (ps : List Str) : Prop := ∀ (kV doc pm : Value) (an : Option Addr) (cdv ct : Value) (us : List Value), us.length = ps.length → bindArgs (PySem.W.fnOf x x (defArgs st) (defBody st) (defScope st) .none kV doc pm an cdv ct) ⟨us, []⟩ = pure (ps.zip us)
/-- the context of a def's body in which nothing is raised -/
abbrev cxN (P : Program) (w : World) (K : PySem.W.Frag) (mg : Str → Option Value) (base : Heap) (N : List Str) (x : Str) (sc : Scope) (f : Addr) (cdv : Value) (A : Around) (outer : List Env) (s : Shared) (H : Hp) (E : XK) : Cx := (cxOf (L2.CX P w) P w K mg base N x sc f cdv A outer s H E).nox
section
variable {P : Program} {w : World} {K : PySem.W.Frag} {mg : Str → Option Value} {base : Heap} {x : Str} {st : Stmt} {N ps : List Str} {k : Nat} {sp : Sp}
/-- a def that raises nothing -/
theorem mkFn (d : Def K mg x st) (S : FnScope N ps (defScope st)) (b : Plain x st ps) (len : ∀ vs H Q E, sp vs H Q E → vs.length = ps.length)
    {t : TS} (hb : ∀ (f : Addr) (cdv : Value) (A : Around) (outer : List Env) (s : Shared) (H : Hp) (E : XK), Room k (A.deeper (envOfC x (defScope st) s.heap.objs.size f cdv)) → PSs (cxN P w K mg base N x (defScope st) f cdv A outer s H E) (defBody st) t)
    (ht : ∀ (vs : List V) (H : Hp) (Q : VK) (E : XK), sp vs H Q E → t { nx := fun _ H' => Q .non H', rt := Q } (start N vs) H) : Cal P w K mg base (k + 1) x ps sp := by
  obtain ⟨fd, F⟩ := d.ex
  exact ⟨_, fd, F.ok S len fun cdv A outer s H vs Q E hr hs => ⟨t, PSs.nox (hb _ cdv A outer s H E hr), ht vs H Q E hs⟩, d.gm, F.kp, F.bindsN b⟩
/-- a def that may raise -/
theorem mkFnX (d : Def K mg x st) (S : FnScope N ps (defScope st)) (b : Plain x st ps) (len : ∀ vs H Q E, sp vs H Q E → vs.length = ps.length)
    {t : XK → TS} (hb : ∀ (f : Addr) (cdv : Value) (A : Around) (outer : List Env) (s : Shared) (H : Hp) (E : XK), Room k (A.deeper (envOfC x (defScope st) s.heap.objs.size f cdv)) → PSs (cxOf (L2.CX P w) P w K mg base N x (defScope st) f cdv A outer s H E) (defBody st) (t E))
    (ht : ∀ (vs : List V) (H : Hp) (Q : VK) (E : XK), sp vs H Q E → t E { nx := fun _ H' => Q .non H', rt := Q } (start N vs) H) : Cal P w K mg base (k + 1) x ps sp := by
  obtain ⟨fd, F⟩ := d.ex
  exact ⟨_, fd, F.ok S len fun cdv A outer s H vs Q E hr hs => ⟨t E, hb _ cdv A outer s H E hr, ht vs H Q E hs⟩, d.gm, F.kp, F.bindsN b⟩
end
/-- f(e, ..) of such a def -/
def tFn (sp : Sp) (t : TA) : TE := fun σ H Q => t σ H fun vs H1 => sp vs H1 Q E0
section
variable {X : Cx} {x : Str} {p pos : Pos} {e : Expr} {es : List Expr} {t : TA} {k j : Nat} {ps : List Str} {sp : Sp}
theorem xe_call (c : Cal X.prog X.w X.K X.mg X.base k x ps sp) (hr : Room j X.A) (hk : k ≤ j) (ha : PA X (e :: es) t) (hg : Gl X x := by rfl) (hdb : (x == ("__debug__" : Str)) = false := by decide)
    (he : starEach (e :: es) X.env = (false, eval e X.env) :: starEach es X.env := by rfl) (hpl : (backTo pos (starEach es X.env)).any (·.1) = false := by rfl) : PE X (.Call (.Name x p) (e :: es) [] pos) (tFn sp t) := by
  obtain ⟨f, fd, F, hm, hkp, hb⟩ := c.ex
  refine pe_eq (pe_call F (hr.mono hk) hg hm hkp hb .nil (passL (X := X)) ha hdb he hpl) ?_
  funext σ H Q
  show t σ H (fun vs H1 => sp (vs ++ []) H1 Q E0) = t σ H fun vs H1 => sp vs H1 Q E0
  congr 1
  funext vs H1
  rw [List.append_nil]
/-- f(e, ..), what is raised is wished for -/
def tFnX (sp : Sp) (W : WX) (t : TA) : TE := fun σ H Q => t σ H fun vs H1 => sp vs H1 Q (fun cls d H2 => W cls d σ H2)
theorem xe_callX {W : WX} (c : Cal X.prog X.w X.K X.mg X.base k x ps sp) (hr : Room j X.A) (hk : k ≤ j) (hx : ∀ σ, Passes (L2.CX X.prog X.w) X (fun cls d H2 => W cls d σ H2)) (ha : PA X (e :: es) t) (hg : Gl X x := by rfl) (hdb : (x == ("__debug__" : Str)) = false := by decide)
    (he : starEach (e :: es) X.env = (false, eval e X.env) :: starEach es X.env := by rfl) (hpl : (backTo pos (starEach es X.env)).any (·.1) = false := by rfl) : PE X (.Call (.Name x p) (e :: es) [] pos) (tFnX sp W t) := by
  obtain ⟨f, fd, F, hm, hkp, hb⟩ := c.ex
  refine ⟨fun pins s σ H Q I h => ?_⟩
  exact (pe_call F (hr.mono hk) hg hm hkp hb .nil (hx σ) ha hdb he hpl).run pins s σ H Q I (by
    show t σ H (fun vs H1 => sp (vs ++ []) H1 Q _)
    have e : (fun vs H1 => sp (vs ++ []) H1 Q (fun cls d H2 => W cls d σ H2)) = fun vs H1 => sp vs H1 Q (fun cls d H2 => W cls d σ H2) := by
      funext vs H1
      rw [List.append_nil]
    rw [e]
    exact h)
end
end MT
set_option Elab.async false
set_option linter.all false
set_option maxRecDepth 100000
set_option maxHeartbeats 4000000
namespace MT
open PySem PySem.Spec PyProof.Rows L2
open SX (S)
section
variable {X : Cx} {x : Str} {pos : Pos}
theorem xe_gint {i : Int} (h : ∃ t, X.mg x = some (.int i t)) (hg : Gl X x := by rfl) (hd : (x == ("__debug__" : Str)) = false := by decide) : PE X (.Name x pos) (tC (.int i)) := by
  obtain ⟨t, h⟩ := h
  exact pe_glob hg h ⟨t, rfl⟩ hd
theorem xe_gstr {z : Str} (h : ∃ t, X.mg x = some (.str z t)) (hg : Gl X x := by rfl) (hd : (x == ("__debug__" : Str)) = false := by decide) : PE X (.Name x pos) (tC (.str z)) := by
  obtain ⟨t, h⟩ := h
  exact pe_glob hg h ⟨t, rfl⟩ hd
end
/-! ### == and != of flat values -/
def rEqM : R2 := fun x y H Q => match x, y with
  | .int i, .int j => Q (.bl (decide (i = j))) H
  | .str a, .str b => Q (.bl (decide (a = b))) H
  | .bl a, .bl b => Q (.bl (decide (a = b))) H
  | _, _ => False
def rNeM : R2 := fun x y H Q => match x, y with
  | .int i, .int j => Q (.bl (!decide (i = j))) H
  | .str a, .str b => Q (.bl (!decide (a = b))) H
  | .bl a, .bl b => Q (.bl (!decide (a = b))) H
  | _, _ => False
theorem op_eqM {X : Cx} : OpR X (compareOp .Eq) rEqM := opr_imp op_eq fun x y H Q h => by
  unfold rEqM at h
  split at h
  · rename_i i j
    refine ⟨rfl, ?_⟩
    have e : decide (V.int i = V.int j) = decide (i = j) := by simp
    rw [e]; exact h
  · rename_i i j
    refine ⟨rfl, ?_⟩
    have e : decide (V.str i = V.str j) = decide (i = j) := by simp
    rw [e]; exact h
  · rename_i i j
    refine ⟨rfl, ?_⟩
    have e : decide (V.bl i = V.bl j) = decide (i = j) := by simp
    rw [e]; exact h
  · exact h.elim
theorem op_neM {X : Cx} : OpR X (compareOp .NotEq) rNeM := opr_imp op_ne fun x y H Q h => by
  unfold rNeM at h
  split at h
  · rename_i i j
    refine ⟨rfl, ?_⟩
    have e : decide (V.int i = V.int j) = decide (i = j) := by simp
    rw [e]; exact h
  · rename_i i j
    refine ⟨rfl, ?_⟩
    have e : decide (V.str i = V.str j) = decide (i = j) := by simp
    rw [e]; exact h
  · rename_i i j
    refine ⟨rfl, ?_⟩
    have e : decide (V.bl i = V.bl j) = decide (i = j) := by simp
    rw [e]; exact h
  · exact h.elim
/-! ### a list or a tuple is walked -/
def iSq (K : PySem.W.Frag) (tl : TE) : TI := fun σ H R => tl σ H fun x H1 => ∃ a, x = .ref a ∧ ((∃ xs, SqL K H1 a xs ∧ R (Itl K a) H1) ∨ ∃ xs, SqT K H1 a xs ∧ R (Itt K a) H1)
theorem pi_sq {X : Cx} {tg l : Expr} {tl : TE} (hl : PE X l tl) : PI X tg l (iSq X.K tl) := by
  refine ⟨fun pins s σ H R I h => ?_⟩
  refine thn (hl.run pins s σ H _ I h) fun v s1 ⟨x, H1, I1, r1, q1⟩ => ?_
  obtain ⟨a, e, q⟩ := q1
  subst e
  cases r1
  rcases q with ⟨xs, hq, q⟩ | ⟨xs, hq, q⟩
  · obtain ⟨its, rv, p, hz⟩ := I1.list hq
    refine wpAny_pyIter_list p.isList ?_
    refine ⟨s1.heap.objs.size, [s1.heap.objs.size], _, _, H1, rfl, I1.kept (t' := s1.toks) fun b o e => Heap.get?_push_of_some _ e, turn_list a _, ⟨_, Heap.get?_push_size _ rfl, rfl, rfl⟩, fun b hb => ?_, q⟩
    have e : b = s1.heap.objs.size := by simpa using hb
    subst e
    exact I1.fpOk (Nat.le_refl _) (I1.hok.fresh (Nat.le_refl _))
  · obtain ⟨its, rv, p, hz⟩ := I1.tuple hq
    refine wpAny_pyIter_tuple (show s1.heap.IsTuple a its.toArray from p) ?_
    refine ⟨s1.heap.objs.size, [s1.heap.objs.size], _, _, H1, rfl, I1.kept (t' := s1.toks) fun b o e => Heap.get?_push_of_some _ e, turn_tuple a _, ⟨_, Heap.get?_push_size _ rfl, rfl, rfl⟩, fun b hb => ?_, q⟩
    have e : b = s1.heap.objs.size := by simpa using hb
    subst e
    exact I1.fpOk (Nat.le_refl _) (I1.hok.fresh (Nat.le_refl _))
/-! ### calls of built-in classes and functions -/
/-- int(n), int(flag), int(digits) -/
def rInt : List V → Hp → VK → Prop := fun xs H Q => match xs with
  | [.int i] => Q (.int i) H
  | [.bl b] => Q (.int (if b then 1 else 0)) H
  | [.str z] => z.length ≤ 640 ∧ ∃ n, PySem.intText? z = some n ∧ Q (.int n) H
  | _ => False
theorem call_intM {X : Cx} : CallR X (.type "int") rInt := callr_imp (CallR.or call_int1 call_int_str) fun xs H Q h => by
  unfold rInt at h
  split at h
  · exact .inl (.inl ⟨_, rfl, h⟩)
  · exact .inl (.inr ⟨_, rfl, h⟩)
  · obtain ⟨h1, n, h2, h3⟩ := h
    exact .inr ⟨_, n, rfl, h2, h1, h3⟩
  · exact h.elim
def rAbs : List V → Hp → VK → Prop := fun xs H Q => match xs with
  | [.int i] => Q (.int (i.natAbs : Int)) H
  | _ => False
theorem call_absM {X : Cx} : CallR X (.builtin "abs") rAbs := callr_imp call_abs fun xs H Q h => by
  unfold rAbs at h
  split at h
  · rename_i i
    refine ⟨i, rfl, ?_⟩
    have e : (if i < 0 then -i else i) = (i.natAbs : Int) := by split <;> omega
    rw [e]; exact h
  · exact h.elim
/-- str(n) -/
def rStrI : List V → Hp → VK → Prop := fun xs H Q => match xs with
  | [.int i] => i.natAbs.log2 < 1920 ∧ Q (.str (toString i)) H
  | [.str z] => Q (.str z) H
  | _ => False
theorem call_strM {X : Cx} : CallR X (.type "str") rStrI := callr_imp (CallR.or call_str_int SkE.call_str_str) fun xs H Q h => by
  unfold rStrI at h
  split at h
  · exact .inl ⟨_, rfl, h.1, h.2⟩
  · exact .inr ⟨_, rfl, h⟩
  · exact h.elim
def rListM : List V → Hp → VK → Prop := fun xs H Q => match xs with
  | [.ref p] => ∃ ys, seqO (H p) = some ys ∧ ∀ l, H l = none → Q (.ref l) (upd H l (.lst ys))
  | _ => False
theorem call_listM {X : Cx} : CallR X (.type "list") rListM := callr_imp call_list_of fun xs H Q h => by
  unfold rListM at h
  split at h
  · obtain ⟨ys, h1, h2⟩ := h
    exact ⟨_, ys, rfl, seq_of h1, h2⟩
  · exact h.elim
def rTupM : List V → Hp → VK → Prop := fun xs H Q => match xs with
  | [.ref p] => (match H p with
    | some (.lst ys) => ∀ l, H l = none → Q (.ref l) (upd H l (.tup ys))
    | some (.tup _) => Q (.ref p) H
    | _ => False)
  | _ => False
theorem call_tupM {X : Cx} : CallR X (.type "tuple") rTupM := callr_imp call_tuple_of fun xs H Q h => by
  unfold rTupM at h
  split at h
  · split at h
    · rename_i p _ ys e
      exact ⟨p, ys, rfl, .inl ⟨.of e, h⟩⟩
    · rename_i p _ ys e
      exact ⟨p, ys, rfl, .inr ⟨.of e, h⟩⟩
    · exact h.elim
  · exact h.elim
end MT
set_option Elab.async false
set_option linter.all false
set_option maxRecDepth 100000
set_option maxHeartbeats 4000000
namespace MT
open PySem PySem.Spec PyProof.Rows L2
open SX (S)
/-- a comprehension whose items are told by R over what is data -/
theorem tLc_R {J : It} {n : Nat} {G : Hp → Prop} {it : Nat → V} {wi : TI} {F0 H0 : Hp} {j : Nat} {te : TE} {σ : L2.St} {Q : VK} (hsrc : ∀ R : It → Hp → Prop, R J H0 → wi σ H0 R) (w : Walk J n G (YFn it)) (hG : ∀ H', Same H0 H' → G H') (hn : n < sizeLine) (s0 : Same F0 H0)
    (R : Nat → V → Hp → Prop) (Rm : ∀ i v A B, Same A B → R i v A → R i v B)
    (he : ∀ i F1 H1 K', i < n → Grow F0 H0 F1 H1 → (∀ y F2 H2, Grow F1 H1 F2 H2 → R i y F2 → K' y H2) → te (σ.set j (some (it i))) H1 K')
    (hd : ∀ D F1 H1 ys, H0 D = none → Grow F0 H0 F1 H1 → F1 D = none → H1 D = some (.lst ys) → ys.length = n → (∀ i y, ys[i]? = some y → R i y F1) → Q (.ref D) H1) :
    tLc wi (gName j) tYes te [j] σ H0 Q := by
  unfold tLc
  refine hsrc _ fun D hD => ?_
  exact lc_fn w hG hn hD s0 R Rm he fun F1 H1 ys g h1 h2 h3 h4 => hd D F1 H1 ys hD g h1 h2 h3 h4
/-- a comprehension of bools that makes nothing that is kept -/
theorem tLc_B {J : It} {n : Nat} {G : Hp → Prop} {it : Nat → V} {wi : TI} {H0 : Hp} {j : Nat} {te : TE} {σ : L2.St} {Q : VK} (hsrc : ∀ R : It → Hp → Prop, R J H0 → wi σ H0 R) (w : Walk J n G (YFn it)) (hG : ∀ H', Same H0 H' → G H') (hn : n < sizeLine)
    (f : Nat → V) (he : ∀ i H1 K', i < n → Same H0 H1 → (∀ H2, Same H1 H2 → K' (f i) H2) → te (σ.set j (some (it i))) H1 K')
    (hd : ∀ D H1, Same H0 H1 → H1 D = some (.lst ((List.range n).map f)) → Q (.ref D) H1) : tLc wi (gName j) tYes te [j] σ H0 Q := by
  refine tLc_R hsrc w hG hn (Same.refl H0) (fun i y _ => y = f i) (fun _ _ _ _ _ h => h) (fun i F1 H1 K' hi g k => he i H1 K' hi g.h fun H2 s2 => k _ F1 H2 (Grow.same g.fh s2) rfl) fun D F1 H1 ys _ g _ h2 h3 h4 => hd D H1 g.h ?_
  have e : ys = (List.range n).map f := by
    refine List.ext_getElem? fun i => ?_
    by_cases hi : i < n
    · have hi' : i < ys.length := by omega
      rw [List.getElem?_map, List.getElem?_range hi, List.getElem?_eq_getElem hi']
      rw [h4 i _ (List.getElem?_eq_getElem hi')]
      rfl
    · rw [List.getElem?_eq_none (by omega), List.getElem?_eq_none (by rw [List.length_map, List.length_range]; omega)]
  rw [← e]; exact h2
theorem src_str {σ : L2.St} {H : Hp} {t : TE} {l : List Nat} (h : ∀ Q : VK, Q (.str (S l)) H → t σ H Q) : ∀ R : It → Hp → Prop, R (Its (S l)) H → iStr t σ H R := fun R r => h _ ⟨S l, rfl, r⟩
theorem src_varStr {σ : L2.St} {H : Hp} {i : Nat} {l : List Nat} (h : σ[i]? = some (some (.str (S l)))) : ∀ R : It → Hp → Prop, R (Its (S l)) H → iStr (tVar i) σ H R := src_str fun _ q => ⟨_, h, q⟩
/-- what a sequence that is walked is, at an address -/
theorem src_seq {K : PySem.W.Frag} {σ : L2.St} {H : Hp} {t : TE} {a : Addr} {xs : List V} (h : ∀ Q : VK, Q (.ref a) H → t σ H Q) (e : seqO (H a) = some xs) (hn : xs.length < sizeLine) :
    ∃ (J : It) (G : Hp → Prop), (∀ R : It → Hp → Prop, R J H → iSq K t σ H R) ∧ Walk J xs.length G (YFn fun i => xs.getD i .non) ∧ ∀ H', Same H H' → G H' := by
  cases q : H a with
  | none => rw [q] at e; cases e
  | some o =>
    rw [q] at e
    cases o with
    | lst ys =>
      cases e
      exact ⟨_, _, fun R r => h _ ⟨a, rfl, .inl ⟨xs, .of q, r⟩⟩, walk_fnL (K := K), fun H' s => .of (s _ _ q)⟩
    | tup ys =>
      cases e
      exact ⟨_, _, fun R r => h _ ⟨a, rfl, .inr ⟨xs, .of q, r⟩⟩, walk_fnT (K := K), fun H' s => .of (s _ _ q)⟩
    | frz ob u =>
      cases u with
      | lst ys =>
        cases e
        exact ⟨_, _, fun R r => h _ ⟨a, rfl, .inl ⟨xs, .inl (.inr ⟨ob, q⟩), r⟩⟩, walk_fnL (K := K), fun H' s => .inl (.inr ⟨ob, s _ _ q⟩)⟩
      | _ => cases e
    | _ => cases e
theorem map_range_getD {α β : Type} (l : List α) (d : α) (f : α → β) : (List.range l.length).map (fun i => f (l.getD i d)) = l.map f := by
  refine List.ext_getElem? fun i => ?_
  by_cases hi : i < l.length
  · rw [List.getElem?_map, List.getElem?_range hi, List.getElem?_map, List.getElem?_eq_getElem hi, Option.map_some, Option.map_some, List.getD_eq_getElem?_getD, List.getElem?_eq_getElem hi]
    rfl
  · rw [List.getElem?_eq_none (by rw [List.length_map, List.length_range]; omega), List.getElem?_eq_none (by rw [List.length_map]; omega)]
end MT
set_option Elab.async false
set_option linter.all false
set_option maxRecDepth 100000
set_option maxHeartbeats 4000000
namespace MT
open PySem PySem.Spec PyProof.Rows L2
open SX (S)
/-! ### methods of lists -/
theorem tyL {K : PySem.W.Frag} {H : Hp} {a : Addr} {xs : List V} (h : H a = some (.lst xs)) : tyV K "list" (.ref a) H := .inl ⟨rfl, xs, .of h⟩
theorem mtr_imp {X : Cx} {id : String} {r r' : V → List V → Hp → VK → Prop} (h : MtR X id r) (k : ∀ x xs H Q, r' x xs H Q → r x xs H Q) : MtR X id r' := fun pins s σ H x xs v us Q I rx rs q => h pins s σ H x xs v us Q I rx rs (k x xs H Q q)
def rAppendM : V → List V → Hp → VK → Prop := fun x vs H Q => match x, vs with
  | .ref l, [y] => ∃ xs, H l = some (.lst xs) ∧ xs.length < sizeLine ∧ Q .non (upd H l (.lst (xs ++ [y])))
  | _, _ => False
theorem mt_appendM {X : Cx} : MtR X "list.append" rAppendM := mtr_imp (X := X) (r := rAppend) mt_append fun x vs H Q h => by
  unfold rAppendM at h
  split at h
  · obtain ⟨xs, h1, h2, h3⟩ := h
    exact ⟨_, xs, _, rfl, rfl, h1, h2, h3⟩
  · exact h.elim
def rExtendM : V → List V → Hp → VK → Prop := fun x vs H Q => match x, vs with
  | .ref l, [.ref b] => ∃ xs zs, H l = some (.lst xs) ∧ H b = some (.lst zs) ∧ xs.length + zs.length ≤ sizeLine ∧ Q .non (upd H l (.lst (xs ++ zs)))
  | _, _ => False
theorem mt_extendM {X : Cx} : MtR X "list.extend" rExtendM := mtr_imp (X := X) (r := rExtend) mt_extend fun x vs H Q h => by
  unfold rExtendM at h
  split at h
  · obtain ⟨xs, zs, h1, h2, h3, h4⟩ := h
    exact ⟨_, _, xs, zs, rfl, rfl, h1, h2, h3, h4⟩
  · exact h.elim
def rPopM : V → List V → Hp → VK → Prop := fun x vs H Q => match x, vs with
  | .ref l, [] => ∃ xs y, H l = some (.lst (xs ++ [y])) ∧ Q y (upd H l (.lst xs))
  | _, _ => False
theorem mt_popM {X : Cx} : MtR X "list.pop" rPopM := mtr_imp (X := X) (r := rPop) mt_pop fun x vs H Q h => by
  unfold rPopM at h
  split at h
  · obtain ⟨xs, y, h1, h2⟩ := h
    refine ⟨_, xs ++ [y], y, rfl, rfl, h1, by simp, ?_⟩
    rw [List.dropLast_concat]
    exact h2
  · exact h.elim
/-! ### is True, is False -/
def rIsBM : R2 := fun x y H Q => match y with
  | .bl b => (match x with
    | .bl a => Q (.bl (decide (a = b))) H
    | _ => Q (.bl false) H)
  | _ => False
theorem op_isBM {X : Cx} : OpR X (compareOp .Is) rIsBM := by
  intro pins s σ H x y v u Q I rx ry h
  cases y with
  | bl b =>
    cases (show u = Value.bool b from ry)
    cases x with
    | bl a => exact op_isBl pins s σ H (.bl a) (.bl b) v _ Q I rx (show L2.RelV (.bl b) (.bool b) from rfl) ⟨a, b, rfl, rfl, h⟩
    | non => cases (show v = Value.none from rx); exact wpAny_is_other rfl (fun z => by cases z) ⟨.bl false, H, I, rfl, h⟩
    | int i => obtain ⟨t, rfl⟩ := rx; exact wpAny_is_other rfl (fun z => by cases z) ⟨.bl false, H, I, rfl, h⟩
    | str i => obtain ⟨t, rfl⟩ := rx; exact wpAny_is_other rfl (fun z => by cases z) ⟨.bl false, H, I, rfl, h⟩
    | ref i => cases (show v = Value.ref i from rx); exact wpAny_is_other rfl (fun z => by cases z) ⟨.bl false, H, I, rfl, h⟩
    | byt i => obtain ⟨t, rfl⟩ := rx; exact wpAny_is_other rfl (fun z => by cases z) ⟨.bl false, H, I, rfl, h⟩
    | flt i => obtain ⟨t, rfl⟩ := rx; exact wpAny_is_other rfl (fun z => by cases z) ⟨.bl false, H, I, rfl, h⟩
    | ty i => cases (show v = Value.type i from rx); exact wpAny_is_other rfl (fun z => by cases z) ⟨.bl false, H, I, rfl, h⟩
  | _ => exact False.elim h
/-! ### xs == [], xs != []: the new list is not tracked -/
def tEqNil (neg : Bool) (ta : TE) : TE := fun σ H Q => ta σ H fun x H1 => ∃ a xs, x = .ref a ∧ H1 a = some (.lst xs) ∧ Q (.bl (if neg then !xs.isEmpty else xs.isEmpty)) H1
theorem opNil {X : Cx} {pins : List (Addr × Obj)} {s : Shared} {σ : L2.St} {H : Hp} {a : Addr} {xs : List V} (I : Inv X pins σ H s) (h : H a = some (.lst xs)) (hu : X.A.units < cLine) {Q : VK} {b : Addr} (hb : s.heap.IsList b #[]) (hne : a ≠ b) :
    (Q (.bl xs.isEmpty) H → wpAny (model X.prog X.w) X.A (compareOp .Eq (.ref a) (.ref b)) (EP X pins σ Q) X.xe s) ∧ (Q (.bl (!xs.isEmpty)) H → wpAny (model X.prog X.w) X.A (compareOp .NotEq (.ref a) (.ref b)) (EP X pins σ Q) X.xe s) := by
  obtain ⟨z, its, n, r, hl, e⟩ := I.lstM h
  have ha : s.heap.IsList a its.toArray := ⟨_, e, rfl, n, rfl⟩
  cases xs with
  | nil =>
    have e0 : its = [] := by cases its with | nil => rfl | cons => cases hl
    subst e0
    constructor
    · intro q
      exact SeqAt.RcAt.lists (e := fun _ => true) ha hb rfl hu (fun j h1 _ => absurd h1 (Nat.not_lt_zero _)) _ _ _ _ ⟨.bl true, H, I, rfl, q⟩
    · intro q
      exact SeqAt.RcNeAt.lists (e := fun _ => true) ha hb rfl hu (fun j h1 _ => absurd h1 (Nat.not_lt_zero _)) _ _ _ _ ⟨.bl false, H, I, rfl, q⟩
  | cons x xs =>
    have hz : (its.toArray.size != (#[] : Array Value).size) = true := by
      rw [List.size_toArray, ← hl]
      rfl
    constructor
    · intro q
      exact SeqAt.RcAt.lists_lengths ha hb hz hu _ _ _ _ ⟨.bl false, H, I, rfl, q⟩
    · intro q
      exact SeqAt.RcNeAt.lists_lengths ha hb hz hu _ _ _ _ ⟨.bl true, H, I, rfl, q⟩
section
variable {X : Cx} {a : Expr} {ta : TE} {p pos : Pos}
theorem nilAt {s : Shared} {σ : L2.St} {pins : List (Addr × Obj)} {H : Hp} {x : Addr} {xs : List V} (I : Inv X pins σ H s) (h : H x = some (.lst xs)) : Inv X pins σ H { s with heap := s.heap.push { cls := .type "list", data := .seq #[] } } ∧ (s.heap.push { cls := .type "list", data := .seq #[] }).IsList s.heap.objs.size #[] ∧ x ≠ s.heap.objs.size := by
  refine ⟨I.kept (t' := s.toks) fun b o e => Heap.get?_push_of_some _ e, ⟨_, Heap.get?_push_size _ rfl, rfl, 0, rfl⟩, fun e => ?_⟩
  have := I.hok.fresh (Nat.le_refl s.heap.objs.size)
  rw [← e, h] at this
  cases this
theorem xe_eqNil (ha : PE X a ta) (hu : X.A.units < cLine) : PE X (.Compare a [.Eq] [.List [] p] pos) (tEqNil false ta) := by
  refine ⟨fun pins s σ H Q I h => wpAny_Compare1 (thn (ha.run pins s σ H _ I h) fun v s1 ⟨x, H1, I1, r1, b, xs, ex, hb, q⟩ => ?_) rfl⟩
  subst ex
  cases r1
  obtain ⟨I2, hl, hne⟩ := nilAt I1 hb
  exact wpAny_List_spliced (Calls.spliced_nil ⟨Nat.zero_le _, (opNil I2 hb hu hl hne).1 q⟩)
theorem xe_neNil (ha : PE X a ta) (hu : X.A.units < cLine) : PE X (.Compare a [.NotEq] [.List [] p] pos) (tEqNil true ta) := by
  refine ⟨fun pins s σ H Q I h => wpAny_Compare1 (thn (ha.run pins s σ H _ I h) fun v s1 ⟨x, H1, I1, r1, b, xs, ex, hb, q⟩ => ?_) rfl⟩
  subst ex
  cases r1
  obtain ⟨I2, hl, hne⟩ := nilAt I1 hb
  exact wpAny_List_spliced (Calls.spliced_nil ⟨Nat.zero_le _, (opNil I2 hb hu hl hne).2 q⟩)
theorem xt_eqNil (ha : PE X a ta) (hu : X.A.units < cLine) : PT X (.Compare a [.Eq] [.List [] p] pos) (tB (tEqNil false ta)) := by
  refine ⟨fun pins s σ H Q I h => wpAny_isTrue_Compare1 (thn (ha.run pins s σ H _ I h) fun v s1 ⟨x, H1, I1, r1, b, xs, ex, hb, q⟩ => ?_) rfl⟩
  subst ex
  cases r1
  obtain ⟨I2, hl, hne⟩ := nilAt I1 hb
  obtain ⟨c, ec, q⟩ := q
  refine wpAny_List_spliced (Calls.spliced_nil ⟨Nat.zero_le _, thn ((opNil (Q := fun v H' => ∃ c, v = .bl c ∧ Q c H') I2 hb hu hl hne).1 ⟨c, ec, q⟩) fun w s4 ⟨y, H4, I4, r4, d, e4, q4⟩ => ?_⟩)
  subst e4
  cases r4
  exact wpAny_truthy_bool ⟨H4, I4, q4⟩
theorem xt_neNil (ha : PE X a ta) (hu : X.A.units < cLine) : PT X (.Compare a [.NotEq] [.List [] p] pos) (tB (tEqNil true ta)) := by
  refine ⟨fun pins s σ H Q I h => wpAny_isTrue_Compare1 (thn (ha.run pins s σ H _ I h) fun v s1 ⟨x, H1, I1, r1, b, xs, ex, hb, q⟩ => ?_) rfl⟩
  subst ex
  cases r1
  obtain ⟨I2, hl, hne⟩ := nilAt I1 hb
  obtain ⟨c, ec, q⟩ := q
  refine wpAny_List_spliced (Calls.spliced_nil ⟨Nat.zero_le _, thn ((opNil (Q := fun v H' => ∃ c, v = .bl c ∧ Q c H') I2 hb hu hl hne).2 ⟨c, ec, q⟩) fun w s4 ⟨y, H4, I4, r4, d, e4, q4⟩ => ?_⟩)
  subst e4
  cases r4
  exact wpAny_truthy_bool ⟨H4, I4, q4⟩
/-! ### x in (a, b, ..): the tuple is not tracked -/
def tInTup (ta : TE) (te : TA) : TE := fun σ H Q => ta σ H fun x H1 => te σ H1 fun ys H2 => flatV x = true ∧ ys.all flatV = true ∧ ys.length ≤ sizeLine ∧ Q (.bl (inV x ys)) H2
variable {es : List Expr} {te : TA} {k : Nat}
theorem inTup {pins : List (Addr × Obj)} {σ : L2.St} {H : Hp} {s : Shared} {x : V} {ys : List V} {v : Value} {us : List Value} {Q : VK} (I : Inv X pins σ H s) (rx : RelV x v) (r : Vals ys us) (fx : flatV x = true) (fy : ys.all flatV = true) (q : Q (.bl (inV x ys)) H) :
    wpAny (model X.prog X.w) X.A (compareOp .In v (.ref s.heap.objs.size)) (EP X pins σ Q) X.xe { s with heap := s.heap.push { cls := .type "tuple", data := .seq us.toArray } } := by
  have I2 : Inv X pins σ H { s with heap := s.heap.push { cls := .type "tuple", data := .seq us.toArray } } := I.kept (t' := s.toks) fun b o e => Heap.get?_push_of_some _ e
  refine SeqAt.in_tupleAt (eqU x) (IsTup.new s.heap us.toArray) (fun w hw => mem_eqAt rx fx r fy w (by simpa using hw)) ⟨.bl _, H, I2, rfl, ?_⟩
  rw [show us.toArray.any (eqU x) = us.any (eqU x) by simp, any_eqU r fy]
  exact q
theorem xe_inTup (ha : PE X a ta) (he : PA X es te) (hm : behindInMarks .In (.Tuple es k p) = false := by rfl) : PE X (.Compare a [.In] [.Tuple es k p] pos) (tInTup ta te) := by
  refine ⟨fun pins s σ H Q I h => wpAny_Compare1 (thn (ha.run pins s σ H _ I h) fun v s1 ⟨x, H1, I1, r1, q1⟩ => ?_) hm⟩
  refine wpAny_Tuple_spliced (thn (he.run p pins s1 σ H1 _ I1 q1) fun us s2 ⟨ys, H2, I2, r2, fx, fy, z, q⟩ => ⟨by rw [← r2.length]; exact z, inTup I2 r1 r2 fx fy q⟩)
theorem xt_inTup (ha : PE X a ta) (he : PA X es te) (hm : behindInMarks .In (.Tuple es k p) = false := by rfl) : PT X (.Compare a [.In] [.Tuple es k p] pos) (tB (tInTup ta te)) := by
  refine ⟨fun pins s σ H Q I h => wpAny_isTrue_Compare1 (thn (ha.run pins s σ H _ I h) fun v s1 ⟨x, H1, I1, r1, q1⟩ => ?_) hm⟩
  refine wpAny_Tuple_spliced (thn (he.run p pins s1 σ H1 _ I1 q1) fun us s2 ⟨ys, H2, I2, r2, fx, fy, z, c, ec, q⟩ => ⟨by rw [← r2.length]; exact z, ?_⟩)
  refine thn (inTup I2 r1 r2 fx fy (Q := fun v H' => ∃ c, v = .bl c ∧ Q c H') ⟨c, ec, q⟩) fun w s4 ⟨y, H4, I4, r4, d, e4, q4⟩ => ?_
  subst e4
  cases r4
  exact wpAny_truthy_bool ⟨H4, I4, q4⟩
end
end MT
set_option Elab.async false
set_option linter.all false
set_option maxRecDepth 100000
set_option maxHeartbeats 4000000
namespace MT
open PySem PySem.Spec PyProof.Rows L2
open SX (S)
/-! ### a dict of the top with text keys, whole -/
structure KTab (K : PySem.W.Frag) (w : World) (d : Addr) (f : Str → Option V) : Prop where
  ex : ∃ es n, KDict K w d es n
  at_ : ∀ z, (f z = none ∧ PySem.W.nsIn K d z = some none) ∨ ∃ v u, f z = some v ∧ PySem.W.nsIn K d z = some (some u) ∧ RelV v u
def rKd (d : Addr) (f : Str → Option V) (neg : Bool) : R2 := fun x y H Q => y = .ref d ∧ match x with
  | .str z => Q (.bl (if neg then (f z).isNone else (f z).isSome)) H
  | _ => False
def rKdGet (d : Addr) (f : Str → Option V) : R2 := fun x y H Q => x = .ref d ∧ match y with
  | .str z => ∃ v, f z = some v ∧ Q v H
  | _ => False
section
variable {X : Cx} {d : Addr} {f : Str → Option V}
theorem op_inkd (T : KTab X.K X.w d f) : OpR X (compareOp .In) (rKd d f false) := by
  obtain ⟨es, n, D⟩ := T.ex
  refine opr_imp (op_in_kd D) fun x y H Q h => ?_
  obtain ⟨rfl, h⟩ := h
  split at h
  · rename_i z
    rcases T.at_ z with ⟨e, e2⟩ | ⟨v, u, e, e2, r⟩
    · rw [e] at h; exact ⟨z, none, rfl, rfl, e2, h⟩
    · rw [e] at h; exact ⟨z, some u, rfl, rfl, e2, h⟩
  · exact h.elim
theorem op_notinkd (T : KTab X.K X.w d f) : OpR X (compareOp .NotIn) (rKd d f true) := by
  obtain ⟨es, n, D⟩ := T.ex
  refine opr_imp (op_notIn_kd D) fun x y H Q h => ?_
  obtain ⟨rfl, h⟩ := h
  split at h
  · rename_i z
    rcases T.at_ z with ⟨e, e2⟩ | ⟨v, u, e, e2, r⟩
    · rw [e] at h; exact ⟨z, none, rfl, rfl, e2, h⟩
    · rw [e] at h; exact ⟨z, some u, rfl, rfl, e2, h⟩
  · exact h.elim
theorem ix_kd (T : KTab X.K X.w d f) : IxR X (rKdGet d f) := by
  obtain ⟨es, n, D⟩ := T.ex
  refine fun value slice pins s σ H x y v u Q I rx ry h hs => ?_
  obtain ⟨rfl, h⟩ := h
  split at h
  · rename_i z
    obtain ⟨v0, ev, q⟩ := h
    rcases T.at_ z with ⟨e, e2⟩ | ⟨v1, u1, e, e2, r⟩
    · rw [e] at ev; cases ev
    · rw [e] at ev
      cases ev
      have rx' := rx
      cases rx
      exact tail_any (kd_type D I) slot_dict_getitem.lookup (op_item_kd D pins s σ H _ _ _ u Q I rx' ry ⟨z, u1, _, rfl, rfl, e2, r, q⟩) hs
  · exact h.elim
end
/-- from what the head tells -/
theorem ktab_of {K : PySem.W.Frag} {w : World} {d : Addr} {kvs : List (Str × He.Dv)} (h : He.dicW K d = some (He.keysIn w.params (kvs.map (·.1)))) (hv : He.valsB K d kvs = true) : KTab K w d fun z => (kvs.find? fun q => decide (q.1 = z)).map fun q => q.2.v K := by
  refine ⟨He.dicW_ok h, fun z => ?_⟩
  obtain ⟨es, n, D⟩ := He.dicW_ok h
  cases q : kvs.find? fun q => decide (q.1 = z) with
  | some kv =>
    have hm := List.mem_of_find?_eq_some q
    have hz : kv.1 = z := by simpa using List.find?_some q
    obtain ⟨u, h1, h2⟩ := He.valsB_ok hv hm
    rw [hz] at h1
    exact .inr ⟨_, u, rfl, h1, h2⟩
  | none =>
    refine .inl ⟨rfl, ?_⟩
    have keys : ∀ e ∈ es.toList, ∃ x t, e.key = .str x t ∧ x ∈ kvs.map (·.1) := by
      unfold He.dicW at h
      rw [D.at_] at h
      have h2 : (match decide (("dict" : String) = "dict") && ((#[] : Array (Option Value)).isEmpty && !(d == sysModules)) with
        | true => some (es.toList.map He.keyOf)
        | false => none) = some (He.keysIn w.params (kvs.map (·.1))) := h
      rw [D.low] at h2
      have h3 : es.toList.map He.keyOf = He.keysIn w.params (kvs.map (·.1)) := Option.some.inj h2
      intro e he
      have h4 : He.keyOf e ∈ He.keysIn w.params (kvs.map (·.1)) := by rw [← h3]; exact List.mem_map_of_mem he
      unfold He.keysIn at h4
      obtain ⟨k, hk, e5⟩ := List.mem_map.mp h4
      unfold He.keyOf at e5
      split at e5
      · rename_i x t ek
        have := Option.some.inj e5
        injection this with e6 e7
        exact ⟨x, t, ek, by rw [← e6]; exact hk⟩
      · cases e5
    have none_ : es.toList.find? (·.key.isStr z) = none := by
      rw [List.find?_eq_none]
      intro e he hz
      obtain ⟨x, t, ek, hx⟩ := keys e he
      rw [ek] at hz
      have hxz : x = z := by
        have : (Value.str x t).isStr z = true := hz
        simpa [Value.isStr] using this
      obtain ⟨kv, hkv, ekv⟩ := List.mem_map.mp hx
      have := List.find?_eq_none.mp q kv hkv
      exact this (decide_eq_true (by rw [ekv, hxz]))
    have noref : es.toList.any (·.refKey) = false := by
      rw [List.any_eq_false]
      intro e he
      obtain ⟨x, t, ek, hx⟩ := keys e he
      unfold DictEntry.refKey
      rw [ek]
      simp
    unfold PySem.W.nsIn
    rw [D.at_]
    show (match es.toList.find? (·.key.isStr z) with
      | some e => some (some e.val)
      | none => if es.toList.any (·.refKey) then none else some none) = some none
    rw [none_, noref]
    rfl
/-! ### sum, max, min -/
def rSumM : List V → Hp → VK → Prop := fun xs H Q => match xs with
  | [.ref a] => ∃ ns : List Int, H a = some (.lst (ns.map V.int)) ∧ Q (.int ns.sum) H
  | _ => False
theorem call_sumM {X : Cx} (hc : X.calm = true) : CallR X (.builtin "sum") rSumM := callr_imp (cr_sum hc) fun xs H Q h => by
  unfold rSumM at h
  split at h
  · obtain ⟨ns, h1, h2⟩ := h
    exact ⟨_, ns, rfl, .of h1, h2⟩
  · exact h.elim
def rMaxM : List V → Hp → VK → Prop := fun xs H Q => match xs with
  | [.int i, .int j] => Q (.int (max i j)) H
  | _ => False
theorem call_maxM {X : Cx} (hc : X.calm = true) : CallR X (.builtin "max") rMaxM := callr_imp (call_max2 hc) fun xs H Q h => by
  unfold rMaxM at h
  split at h
  · rename_i i j
    refine ⟨i, j, rfl, ?_⟩
    have e : (if j > i then j else i) = max i j := by split <;> omega
    rw [e]; exact h
  · exact h.elim
def rMinM : List V → Hp → VK → Prop := fun xs H Q => match xs with
  | [.int i, .int j] => Q (.int (min i j)) H
  | _ => False
theorem call_minM {X : Cx} (hc : X.calm = true) : CallR X (.builtin "min") rMinM := callr_imp (call_min2 hc) fun xs H Q h => by
  unfold rMinM at h
  split at h
  · rename_i i j
    refine ⟨i, j, rfl, ?_⟩
    have e : (if j < i then j else i) = min i j := by split <;> omega
    rw [e]; exact h
  · exact h.elim
/-! ### texts -/
/-- sep.join(a list of texts) -/
def rJoinM : V → List V → Hp → VK → Prop := fun x xs H Q => match x, xs with
  | .str z, [.ref p] => ∃ (a : List Nat) (ys : List (List Nat)), z = S a ∧ H p = some (.lst (ys.map fun l => V.str (S l))) ∧ (ys.map (·.length)).sum + ys.length * a.length ≤ 16777216 ∧ Q (.str (S (TL.joinL a ys))) H
  | _, _ => False
theorem mt_joinM {X : Cx} : MtR X "str.join" rJoinM := mtr_imp mt_join fun x xs H Q h => by
  unfold rJoinM at h
  split at h
  · obtain ⟨a, ys, rfl, h1, h2, h3⟩ := h
    refine ⟨S a, _, ys.map S, rfl, rfl, .inl ?_, ?_, ?_⟩
    · rw [List.map_map]; exact .of h1
    · rw [SX.lens, List.length_map, SX.S_len]; exact h2
    · rw [SX.join_S]; exact h3
  · exact h.elim
theorem tyS {K : PySem.W.Frag} {H : Hp} {z : Str} : tyV K "str" (.str z) H := rfl
/-- signs.index(sign), found -/
def rIdxM : V → List V → Hp → VK → Prop := fun x xs H Q => match x, xs with
  | .str a, [.str b] => ∃ i rest, Builtin.Str.occurrences a b 0 a.length 1 = i :: rest ∧ Q (.int (i : Nat)) H
  | _, _ => False
theorem mt_idxM {X : Cx} : MtR X "str.index" rIdxM := mtr_imp mt_sindex fun x xs H Q h => by
  unfold rIdxM at h
  split at h
  · obtain ⟨i, rest, h1, h2⟩ := h
    exact ⟨_, _, i, rest, rfl, rfl, h1, h2⟩
  · exact h.elim
/-- text[::-1]: a text as long -/
def tRevS (te : TE) : TE := fun σ H Q => te σ H fun x H1 => ∃ l : List Nat, x = .str (S l) ∧ l.length ≤ sizeLine ∧ ∀ l' : List Nat, l'.length = l.length → Q (.str (S l')) H1
theorem pe_revS {X : Cx} {e : Expr} {te : TE} {k : Nat} {p1 p2 p3 pos : Pos} (he : PE X e te) : PE X (.Subscript e (.Slice none none (some (.UnaryOp .USub (.Constant (.int 1) k p1) p2)) p3) pos) (tRevS te) := by
  refine ⟨fun pins s σ H Q I h => ?_⟩
  refine Subscript_ (thn (he.run pins s σ H _ I h) fun v s1 ⟨x, H1, I1, r1, q1⟩ => ?_)
  obtain ⟨l, ex, hx, q⟩ := q1
  subst ex
  obtain ⟨t, rfl⟩ := r1
  have hst : PO X (some (.UnaryOp .USub (.Constant (.int 1) k p1) p2)) (tPart (tUn (rU fun i => .int (-i)) (tC (.int 1)))) := po_some (pe_un un_neg pe_int)
  refine wpAny_Slice (thn (po_none.run pins s1 σ H1 (fun o H2 => o = none ∧ H2 = H1) I1 ⟨rfl, rfl⟩) fun vl s2 ⟨lo, H2, I2, pl, el, e2⟩ => ?_)
  subst el e2
  refine thn (po_none.run pins s2 σ H2 (fun o H3 => o = none ∧ H3 = H2) I2 ⟨rfl, rfl⟩) fun vu s3 ⟨u, H3, I3, pu, eu, e3⟩ => ?_
  subst eu e3
  refine thn (hst.run pins s3 σ H3 (fun o H4 => o = some (-1) ∧ H4 = H3) I3 ⟨1, rfl, -1, rfl, rfl, rfl⟩) fun vs s4 ⟨o, H4, I4, ps, eo, e4⟩ => ?_
  subst eo e4
  have I5 : Inv X pins σ H4 { s4 with heap := s4.heap.push { cls := .type "slice", data := .fields #[vl, vu, vs] } } := I4.kept (t' := s4.toks) fun b ob q => Heap.get?_push_of_some _ q
  obtain ⟨l0, rfl, hl0⟩ := IsPart.raw pl
  obtain ⟨u0, rfl, hu0⟩ := IsPart.raw pu
  obtain ⟨w0, rfl, hw0⟩ := IsPart.raw ps
  cases l0 with
  | some _ => cases hl0
  | none =>
  cases u0 with
  | some _ => cases hu0
  | none =>
  cases w0 with
  | none => cases hw0
  | some iu =>
  obtain ⟨i, u⟩ := iu
  cases hw0
  refine tail_any (ops := [.str (S l) t, .ref s4.heap.objs.size]) (typeIs_str _ _ _) (F.slot_str_getitem.lookup) ?_ (by with_unfolding_all rfl)
  refine wpAny_getItem_str_slice (l := none) (u := none) (st := some (-1, u)) ⟨_, Heap.get?_push_size _ rfl, rfl, rfl⟩ rfl ?_
  have hn : ¬ ((((some ((-1 : Int), u)).map (·.1)).getD 1 == 1 && (slicePicked (S l) none none (some (-1, u))).length == (S l).length) = true) := by
    have : (((some ((-1 : Int), u)).map (·.1)).getD 1 == 1) = false := rfl
    rw [this]; simp
  have hlen := step_rev_len (S l) u
  unfold Txt.sliceBy at hlen
  rw [if_neg hn] at hlen
  unfold sliceMade
  rw [if_neg hn]
  have hl2 : (SX.S l).length = l.length := SX.S_len l
  refine ⟨by rw [hlen, hl2]; exact hx, .str _, H4, I5.tok _, ⟨_, rfl⟩, ?_⟩
  refine q _ ?_
  have : (⟨((slicePicked (S l) none none (some (-1, u))).filterMap ((S l).cps[·]?)).toArray⟩ : Str).length = l.length := hlen.trans hl2
  simpa [Str.length] using this
end MT
set_option Elab.async false
set_option linter.all false
set_option maxRecDepth 100000
set_option maxHeartbeats 4000000
namespace MT
open PySem PySem.Spec PyProof.Rows L2
open SX (S)
theorem ru1 {k : Nat} {A : Around} (r : Room k A) : A.units + 1 < cLine := by have := r.un; omega
/-- a reading, with any weaker end -/
def tUp (te : TE) : TE := fun σ H Q' => ∃ Q : VK, te σ H Q ∧ ∀ v H1, Q v H1 → Q' v H1
theorem pe_up {X : Cx} {e : Expr} {te : TE} (h : PE X e te) : PE X e (tUp te) := ⟨fun pins s σ H Q' I ⟨Q, q, f⟩ => thn (h.run pins s σ H Q I q) fun u s1 ⟨v, H1, I1, r, z⟩ => ⟨v, H1, I1, r, f v H1 z⟩⟩
/-! ### a def that may raise, of one parameter, called in a try; by position, by name -/
structure CalK (P : Program) (w : World) (K : PySem.W.Frag) (mg : Str → Option Value) (base : Heap) (k : Nat) (x p : Str) (sp : Sp) : Prop where
  ex : ∃ f fd, FnOk P w K mg base (L2.CX P w) k f fd [p] sp ∧ mg x = some (.ref f) ∧ PySem.W.keepIn K (.ref f) = true ∧ Binds K fd [p] [] ∧ ∀ (s : Shared) (u : Value), BindsTo s fd ⟨[], [(p, u)]⟩ [(p, u)]
/-- f(e): what is raised is wished for where the slots are these -/
def tFnW (sp : Sp) (W : WX) (te : TE) : TE := fun σ H Q => te σ H fun v H1 => sp [v] H1 Q (fun cls d H2 => W cls d σ H2)
section
variable {X : Cx} {x q : Str} {p pos kpos : Pos} {e : Expr} {te : TE} {k j : Nat} {sp : Sp} {W : WX}
theorem runW {f : Addr} {fd : FuncData} {ps : List Str} {pins : List (Addr × Obj)} {σ : L2.St} {H : Hp} {s : Shared} {Q : VK} {args : Args} {us : List Value} {vs : List V} (tk : Takes X W) (F : FnOk X.prog X.w X.K X.mg X.base (L2.CX X.prog X.w) k f fd ps sp) (hr : Room k X.A)
    (I : Inv X pins σ H s) (hb : BindsTo s fd args (ps.zip us)) (r : Vals vs us) (h : sp vs H Q (fun cls d H2 => W cls d σ H2)) : codeAny (model X.prog X.w) X.A (.call (.ref f) args) (fun r s' => match r with | .ok (.ret v) => EP X pins σ Q v s' | .ok _ => False | .error e => X.xe e s') s := by
  refine codeAny_mono (F.run X.A X.stack s H args us vs Q _ hr I.env0 hb r h) fun r s' hq => ?_
  cases r with
  | error er => exact tk er s' (XE.of_call I (fun cls d H' z => z) hq)
  | ok fl =>
    cases fl with
    | ret u => exact I.after hq
    | next => exact False.elim hq
    | brk => exact False.elim hq
    | cont => exact False.elim hq
theorem xe_callW (tk : Takes X W) (c : CalK X.prog X.w X.K X.mg X.base k x q sp) (hr : Room j X.A) (hk : k ≤ j) (he : PE X e te) (hg : Gl X x := by rfl) (hdb : (x == ("__debug__" : Str)) = false := by decide)
    (hs : starEach [e] X.env = (false, eval e X.env) :: starEach [] X.env := by rfl) (hpl : (backTo pos (starEach [] X.env)).any (·.1) = false := by rfl) : PE X (.Call (.Name x p) [e] [] pos) (tFnW sp W te) := by
  obtain ⟨f, fd, F, hm, hkp, hb, _⟩ := c.ex
  refine ⟨fun pins s σ H Q I h => wpAny_Call_Name_kw (ld_glob I hg hm ?_ hdb)⟩
  refine PySem.W.callWith_K (h₀ := X.base) I.ok.mod.kin hkp (thn ((pa_cons he pa_nil hs).run pos pins s σ H (fun vs H1 => sp vs H1 Q (fun cls d H2 => W cls d σ H2)) I h) fun us s1 ⟨vs, H1, I1, r, z⟩ => ⟨I1.kIn, ?_⟩) hs hpl
  have hl : us.length = 1 := by rw [← r.length]; exact F.len _ _ _ _ z
  match us, hl with
  | [u], _ => exact wpAny_call (runW (us := [u]) tk F (hr.mono hk) I1 (hb s1 [u] I1.kIn rfl) r z)
theorem xe_callWK (tk : Takes X W) (c : CalK X.prog X.w X.K X.mg X.base k x q sp) (hr : Room j X.A) (hk : k ≤ j) (he : PE X e te) (hg : Gl X x := by rfl) (hdb : (x == ("__debug__" : Str)) = false := by decide)
    (hall : (backToKw pos (keywordEach [⟨some q, e, kpos⟩] X.env)).all (·.1.isSome) = true := by rfl) (hks : (backToKw pos (keywordEach [⟨some q, e, kpos⟩] X.env)).filterMap (·.1) = [q] := by rfl)
    (hpl : ((backTo pos (starEach [] X.env)).any (·.1) || (backToKw pos (keywordEach [⟨some q, e, kpos⟩] X.env)).any (·.1.isNone)) = false := by rfl) : PE X (.Call (.Name x p) [] [⟨some q, e, kpos⟩] pos) (tFnW sp W te) := by
  obtain ⟨f, fd, F, hm, hkp, _, hb⟩ := c.ex
  refine ⟨fun pins s σ H Q I h => wpAny_Call_Name_kw (ld_glob I hg hm ?_ hdb)⟩
  refine PySem.W.callWith_KW0 (h₀ := X.base) I.ok.mod.kin hkp hall (thn ((pk_cons he pk_nil).run pos pins s σ H (fun vs H1 => sp vs H1 Q (fun cls d H2 => W cls d σ H2)) I h) fun ws s1 ⟨vs, H1, I1, r, z⟩ => ⟨I1.kIn, ?_⟩) hpl
  rw [hks]
  have hl : ws.length = 1 := by rw [← r.length]; exact F.len _ _ _ _ z
  match ws, hl with
  | [u], _ => exact wpAny_call (runW (us := [u]) tk F (hr.mono hk) I1 (hb s1 u) r z)
end
/-! ### a display of texts, a key taken at once -/
def dv2 (k1 v1 k2 v2 : Str) : List (Key × V) := [(Sum.inr k1, .str v1), (Sum.inr k2, .str v2)]
def tDispGet (k1 v1 k2 v2 : Str) (te : TE) : TE := fun σ H Q => ∀ p, H p = none → te σ (upd H p (.dK (dv2 k1 v1 k2 v2))) fun y H1 => ∃ a v, V.ref p = .ref a ∧ DGet H1 a y (some v) ∧ Q v H1
theorem dget2 {H : Hp} {p : Addr} {k1 v1 k2 v2 z v : Str} (h : H p = some (.dK (dv2 k1 v1 k2 v2))) (e : (z = k1 ∧ v = v1) ∨ (z ≠ k1 ∧ z = k2 ∧ v = v2)) : DGet H p (.str z) (some (.str v)) := by
  have r : valV (dv2 k1 v1 k2 v2) (Sum.inr z) = some (.str v) := by
    rcases e with ⟨rfl, rfl⟩ | ⟨h1, rfl, rfl⟩
    · simp [valV, dv2]
    · have : ¬ (k1 = z) := fun q => h1 q.symm
      simp [valV, dv2, this]
  rw [← r]
  exact DGet.k (k := Sum.inr z) h
theorem xe_dispGet {X : Cx} {a1 b1 a2 b2 e : Expr} {k1 v1 k2 v2 : Str} {te : TE} {p pos : Pos} (hu : X.A.units + 1 < cLine) (h1 : PE X a1 (tC (.str k1))) (h2 : PE X b1 (tC (.str v1))) (h3 : PE X a2 (tC (.str k2))) (h4 : PE X b2 (tC (.str v2))) (hne : k1 ≠ k2) (he : PE X e te) (hs : NoSl e) :
    PE X (.Subscript (.Dict [some a1, some a2] [b1, b2] p) e pos) (tDispGet k1 v1 k2 v2 te) := by
  refine pe_imp (pe_dget hu (pe_disp (pps_cons h1 h2 (pps_cons h3 h4 pps_nil)) rfl rfl (by simp) (by simp)) he hs) fun σ H Q h q hq => ?_
  refine ⟨upd_same, dv2 k1 v1 k2 v2, rfl, by simp [dv2], ?_⟩
  have em : mergeK [] (dv2 k1 v1 k2 v2) = dv2 k1 v1 k2 v2 := by
    simp [mergeK, dv2, putK, hne]
  rw [L2.upd_upd, em]
  exact h q hq
/-! ### raise C(e), C an own class of the top whose __init__ keeps what it is given -/
/-- what __init__ promises: self.f = given -/
def spInit (C : Addr) (f : Str) : Sp := fun vs H Q _ => ∃ a v, vs = [.ref a, v] ∧ H a = some (exo a C none) ∧ ∀ dx, H dx = none → dx ≠ a → Q .non (upd (upd H dx (exd dx [(f, v)])) a (exo a C (some dx)))
structure ExcO (P : Program) (w : World) (K : PySem.W.Frag) (mg : Str → Option Value) (base : Heap) (k : Nat) (x f : Str) (C : Addr) : Prop where
  o : OexC K C
  no : PySem.W.findIn K (.ref C) f = some none
  xf : XfC K C
  gm : mg x = some (.ref C)
  ini : ∃ fI fd, PySem.W.findIn K (.ref C) "__init__" = some (some (.ref fI)) ∧ PySem.W.typeIn K (.ref fI) = some (.type "function") ∧ FnOk P w K mg base (L2.CX P w) k fI fd ["self", "given"] (spInit C f) ∧ Binds K fd ["self", "given"] []
def tRaiseO (C : Addr) (f : Str) (W : WX) (te : TE) : TS := fun _ σ H => te σ H fun v H1 => ∀ d, H1 d = none → W (.ref C) (some d) σ (upd H1 d (.xd [(f, v)]))
theorem ps_raiseO {X : Cx} {x f : Str} {C : Addr} {k j : Nat} {W : WX} {e : Expr} {te : TE} {p pos pos' : Pos} (hc : X.calm = true) (tk : Takes X W) (E : ExcO X.prog X.w X.K X.mg X.base k x f C) (hr : Room j X.A) (hk : k + 1 ≤ j) (he : PE X e te) (hg : Gl X x := by rfl)
    (hdb : (x == ("__debug__" : Str)) = false := by decide) (hs : starEach [e] X.env = (false, eval e X.env) :: starEach [] X.env := by rfl) (hpl : (backTo pos (starEach [] X.env)).any (·.1) = false := by rfl) :
    PS X (.Raise (some (.Call (.Name x p) [e] [] pos)) none pos') (tRaiseO C f W te) := by
  obtain ⟨fI, fd, i1, i2, F, hb⟩ := E.ini
  have h := ps_raise (pos := pos') hc tk (pmk_oex (pos := pos) (p := p) (ds := []) (dvs := []) E.o i1 i2 F (hr.mono hk) hb .nil (passL (X := X)) hg E.gm (pa_cons (pe_up he) pa_nil hs) hdb hs hpl)
  refine ⟨fun pins s σ H D I q => h.run pins s σ H D I ?_⟩
  have e2 : ∀ v H1, (∀ d, H1 d = none → W (.ref C) (some d) σ (upd H1 d (.xd [(f, v)]))) → ([v] : List V).length ≤ 1000 ∧ ∀ a, H1 a = none → spInit C f (.ref a :: ([v] ++ [])) (upd H1 a (exo a C none))
      (fun v H2 => v = .non ∧ ∃ (d : Addr) (fs : List (Str × V)), H2 a = some (exo a C (some d)) ∧ H2 d = some (exd d fs) ∧ H1 d = none ∧ W (.ref C) (some d) σ (upd (L2.del H2 a) d (.xd fs))) (fun _ _ _ => False) := by
    intro v H1 hq
    refine ⟨by simp, fun a ha => ⟨a, v, rfl, upd_same, fun dx hdx hne => ⟨rfl, dx, [(f, v)], upd_same, ?_, ?_, ?_⟩⟩⟩
    · rw [upd_ne hne]; exact upd_same
    · rw [upd_ne hne] at hdx; exact hdx
    · rw [upd_ne hne] at hdx
      have e3 : upd (L2.del (upd (upd (upd H1 a (exo a C none)) dx (exd dx [(f, v)])) a (exo a C (some dx))) a) dx (.xd [(f, v)]) = upd H1 dx (.xd [(f, v)]) := by
        funext b
        by_cases hb : b = dx
        · rw [hb, upd_same, upd_same]
        · rw [upd_ne hb, upd_ne hb]
          by_cases hba : b = a
          · rw [hba, L2.del_same, ha]
          · rw [L2.del_ne hba, upd_ne hba, upd_ne hb, upd_ne hba]
      rw [e3]
      exact hq dx hdx
  exact ⟨_, q, e2⟩
end MT
set_option Elab.async false
set_option linter.all false
set_option maxRecDepth 100000
set_option maxHeartbeats 4000000
namespace MT
open PySem PySem.Spec PyProof.Rows L2
open SX (S)
/-! ### try .. except X as n .. except Y as n ..: clauses with a name, one after the other -/
abbrev HTS := Addr → Value → Option Addr → TS
/-- the ends of a suite whose name in slot i goes -/
def endsAs (i : Nat) (D : Ends) : Ends := { nx := fun σ' H' => D.nx (σ'.set i none) H', rt := D.rt, bk := fun σ' H' => D.bk (σ'.set i none) H', ct := fun σ' H' => D.ct (σ'.set i none) H' }
def wAsM (K : PySem.W.Frag) (Wout : WX) (D : Ends) : List (Value × Nat × HTS) → WX
  | [] => Wout
  | (c, i, ts) :: r => fun cls d σ H => ∃ b, PySem.W.exmOne K cls c = some b ∧ (b = true → ∀ a, H a = none → ts a cls d (endsAs i D) (σ.set i (some (.ref a))) H) ∧ (b = false → wAsM K Wout D r cls d σ H)
inductive HdsAs (X : Cx) : List ExceptHandler → List (Value × Nat × HTS) → Prop
  | nil : HdsAs X [] []
  | cons {x n : Str} {c : Value} {i : Nat} {ts : HTS} {b₀ : Stmt} {suite : List Stmt} {np pos' : Pos} {hds : List ExceptHandler} {l : List (Value × Nat × HTS)} (hc : Names X x c) (hi : X.N[i]? = some n) (hln : X.env.kindOf n = some .local)
      (hsu : ∀ (a : Addr) (oe : Obj) (cls : Value) (d : Option Addr) (pn : List (Addr × Obj)), Zc cls d oe → (∃ vs, oe.data = .fields vs) → PSs (X.suite a ((a, oe) :: pn)) (b₀ :: suite) (ts a cls d)) (r : HdsAs X hds l) :
      HdsAs X (.ExceptHandler (some (.Name x np)) (some n) (b₀ :: suite) pos' :: hds) ((c, i, ts) :: l)
section
variable {X : Cx} {body : List Stmt} {h₀ : ExceptHandler} {hds : List ExceptHandler} {l : List (Value × Nat × HTS)} {pos : Pos} {tb : WX → TS} {Wout : WX}
/-- behind the body: the clauses are asked, each in its turn -/
theorem hds_run (hs : X.stack = X.env :: X.outer) (hf : X.env.frame = some X.env.locals) (hN : X.N.Nodup) (tk : Takes X Wout) {pins : List (Addr × Obj)} {σ' : L2.St} {H' : Hp} {D : Ends} {sI s' : Shared} {a : Addr} {B : Heap} {cls : Value} {d : Option Addr} {h3 : Heap}
    (ok : X.Ok) (J : Inv X pins σ' H' sI) (nb : ∀ b o, sI.heap.get? b = some o → b ∉ frs X.stack → B.get? b = some o) (up : sI.heap.UpToSlots h3) (na : H' a = none) (os : s'.os = sI.os) (ag : AllBare s'.gens)
    (fl3 : HandSPX.FlyingZ B (X.env :: X.outer) a (Zc cls d) h3) :
    ∀ {hds' : List ExceptHandler} {l' : List (Value × Nat × HTS)}, HdsAs X hds' l' → wAsM X.K Wout D l' cls d σ' H' → wpAny (model X.prog X.w) X.A (handleBy (.ref a) X.env hds') (SP X pins D) X.xe { s' with heap := h3 } := by
  have hfr : X.A.frames = some (X.env :: X.outer) := by rw [ok.frames, hs]
  have J3 : Inv X pins σ' H' { s' with heap := h3 } := J.landed nb fl3.1 up os ag
  obtain ⟨oe3, vs3, he3, hz3, hd3⟩ := fl3.there
  have notFr : ∀ {h : Heap} {o : Obj} {vs : Array Value}, h.FunFrames B (X.env :: X.outer) → h.get? a = some o → o.data = .fields vs → a ∉ frs (X.env :: X.outer) := fun {h o vs} ff e dd hm => by
    obtain ⟨_, o', e', hnf⟩ := ff.mem hm
    rw [e] at e'; cases e'
    exact hnf _ dd
  have nfr := notFr fl3.2.2.1 he3 hd3
  have nL : a ≠ X.env.locals := fun z => nfr (List.mem_filterMap.mpr ⟨X.env, List.mem_cons_self, by rw [hf, z]⟩)
  have nF : a ∉ X.fs := fun hm => by
    obtain ⟨e, he, q⟩ := List.mem_filterMap.mp hm
    exact nfr (List.mem_filterMap.mpr ⟨e, List.mem_cons_of_mem _ he, q⟩)
  have S3 := J3.suite he3 hd3 na nL nF
  intro hds' l' hk
  induction hk with
  | nil =>
    intro w
    refine wpAny_handleBy_nil ?_
    obtain ⟨k1, k2, k3, oe, vs, T, oT, ts', he, hz, hd, h1, hr⟩ := id fl3
    unfold PySem.passOn
    refine wpAny_bind (wpAny_field he hd h1 ?_)
    rw [if_neg (show ¬ ((Value.ref T == Value.none) = true) from by simp)]
    have fin : wpAny (model X.prog X.w) X.A (setFlight (.ref a) X.env.frame) (fun _ s4 => wpAny (model X.prog X.w) X.A (throw (.ref a) : Sem Flow) (SP X pins D) X.xe s4) X.xe { s' with heap := h3 } := by
      rw [hf]
      refine HandSPX.setFlight_upZ fl3 fun h4 hh4 up4 => wpAny_throw (tk _ _ ?_)
      exact ⟨a, B, sI, pins, σ', H', cls, d, rfl, J, nb, up.trans up4, .inr (.inr (by rw [hs]; exact hh4)), na, os, ag, w⟩
    first
      | exact wpAny_bind (wpAny_pure (wpAny_bind fin))
      | exact wpAny_bind fin
  | @cons x n c i ts b₀ suite np pos' hds2 l2 hc hi hln hsu r ih =>
    intro w
    obtain ⟨b, hb1, hyes, hno⟩ := w
    have hloc : Loc X.env.scope n := .inl hln
    refine wpAny_handleBy_cons (codeAny_handlers_test ?_) (by intro q; cases q)
    have LT : PySem.W.Looks (model X.prog X.w) h3 (typeOf (.ref a)) cls := fun A Q E s k q => wpAny_typeOf_ref (k _ _ he3) (by rw [hz3.1]; exact q)
    have LM := PySem.W.exm_one (M := model X.prog X.w) (J3.kIn) LT hb1
    have test : ∀ {Q : Value → Shared → Prop} {E : Value → Shared → Prop}, Q c { s' with heap := h3 } → wpAny (model X.prog X.w) (X.A.mark (some (.ref a))) (eval (.Name x np) X.env) Q E { s' with heap := h3 } := fun {Q E} q => by
      obtain ⟨hg, hdbg, hm | ⟨hm, hv, hnn⟩⟩ := hc
      · exact ld_glob (X := X.suite a ((a, oe3) :: (X.pn ++ pins))) S3 hg hm q hdbg
      · exact ld_blt (X := X.suite a ((a, oe3) :: (X.pn ++ pins))) S3 hg hm hv q hnn hdbg
    refine test (LM.here ?_)
    cases b with
    | true =>
      refine codeAny_handlers_suite_as ?_
      refine HandSPX.lands_againZ fl3 fun h4 fl4 up4 => ?_
      have J4 : Inv X pins σ' H' { s' with heap := h4 } := J.landed nb fl4.1 (up.trans up4) os ag
      obtain ⟨oe4, vs4, he4, hz4, hd4⟩ := fl4.there
      have S4 := J4.suite he4 hd4 na nL nF
      refine store_ok (X := X.suite a ((a, oe4) :: (X.pn ++ pins))) (v := .ref a) S4 hN hi hloc rfl (fun s5 S5 => ?_) (.inr hln)
      refine wpAny_mono ((hsu a oe4 cls d (X.pn ++ pins) hz4 ⟨_, hd4⟩).run [] s5 _ H' _ S5 (hyes rfl a na)) (fun f s6 hsp => ?_) (fun _ _ z => False.elim z)
      have end_ : ∀ {σ6 : L2.St} {H6 : Hp} {Q : Shared → Prop}, Inv (X.suite a ((a, oe4) :: (X.pn ++ pins))) [] σ6 H6 s6 → (∀ s7, Inv X pins (σ6.set i none) H6 s7 → Q s7) →
          wpAny (model X.prog X.w) X.A (do bindName X.env n .none; unbindBehindTheSuite X.env n pos') (fun _ s7 => Q s7) X.xe s6 := fun {σ6 H6 Q} S6 hq => gone_ok (S6.unsuite ok) hN hi hln hq
      cases f with
      | next =>
        obtain ⟨σ6, H6, S6, q6⟩ := hsp
        exact end_ S6 fun s7 J7 => ⟨_, _, J7, q6⟩
      | brk =>
        obtain ⟨σ6, H6, S6, q6⟩ := hsp
        exact end_ S6 fun s7 J7 => ⟨_, _, J7, q6⟩
      | cont =>
        obtain ⟨σ6, H6, S6, q6⟩ := hsp
        exact end_ S6 fun s7 J7 => ⟨_, _, J7, q6⟩
      | ret u =>
        obtain ⟨v6, σ6, H6, S6, r6, q6⟩ := hsp
        exact end_ S6 fun s7 J7 => ⟨_, _, _, J7, r6, q6⟩
    | false =>
      show wpAny _ X.A (handleBy (.ref a) X.env hds2) _ _ _
      exact ih (hno rfl)
theorem ps_try_asM (hs : X.stack = X.env :: X.outer) (hf : X.env.frame = some X.env.locals) (hN : X.N.Nodup) (tk : Takes X Wout)
    (hb : ∀ (W : WX) (pn : List (Addr × Obj)) (xe : Value → Shared → Prop), Takes (X.tr pn xe) W → PassesOwn (model X.prog X.w) X.A X.env xe → PSs (X.tr pn xe) body (tb W))
    (hh : HdsAs X (h₀ :: hds) l) : PS X (.Try body (h₀ :: hds) [] [] pos) (fun D σ H => tb (wAsM X.K Wout D l) D σ H) := by
  refine ⟨fun pins s σ H D I h => ?_⟩
  have ok := I.ok
  have hfr : X.A.frames = some (X.env :: X.outer) := by rw [ok.frames, hs]
  refine wpAny_Try_except ?_
  refine wpAny_mono ((hb (wAsM X.K Wout D l) (X.pn ++ pins) (fun e s₁ => wpAny (model X.prog X.w) X.A (noteFrame e X.env) (fun _ s₂ => wpAny (model X.prog X.w) X.A (setFlight e none) (fun _ s₃ =>
    wpAny (model X.prog X.w) X.A (handleBy e X.env (h₀ :: hds)) (SP X pins D) X.xe s₃) X.xe s₂) X.xe s₁) (fun u s' xx => ?_) PassesOwn.looking).run [] s σ H D (I.toTry _) h) (fun f s1 hsp => ?_) (fun e s1 he => he)
  · obtain ⟨a, B, sI, pins', σ', H', cls, d, rfl, J', nb, up, sky, na, os, ag, w⟩ := xx
    have sky' : Sky B (X.env :: X.outer) a (Zc cls d) X.env.locals s'.heap := by rw [← hs]; exact sky
    show wpAny (model X.prog X.w) X.A (noteFrame (.ref a) X.env) _ _ _
    refine Sky.land Zc.steady hfr hf sky' fun h3 fl3 up3 => ?_
    exact hds_run hs hf hN tk ok (J'.ofTry ok) nb (up.trans up3) na os ag fl3 hh w
  · cases f with
    | next =>
      obtain ⟨σ', H', J', q⟩ := hsp
      exact wpAny_execs_nil ⟨σ', H', J'.ofTry ok, q⟩
    | brk =>
      obtain ⟨σ', H', J', q⟩ := hsp
      exact ⟨σ', H', J'.ofTry ok, q⟩
    | cont =>
      obtain ⟨σ', H', J', q⟩ := hsp
      exact ⟨σ', H', J'.ofTry ok, q⟩
    | ret u =>
      obtain ⟨v, σ', H', J', r, q⟩ := hsp
      exact ⟨v, σ', H', J'.ofTry ok, r, q⟩
end
end MT
set_option Elab.async false
set_option linter.all false
set_option maxRecDepth 100000
set_option maxHeartbeats 4000000
namespace MT
open PySem PySem.Spec PyProof.Rows L2
open SX (S)
/-! ### behind it a token is out -/
structure PEm (X : Cx) (e : Expr) (t : TE) : Prop where
  run : ∀ (pins : List (Addr × Obj)) (s : Shared) (σ : L2.St) (H : Hp) (Q : VK), Inv X pins σ H s → t σ H Q → wpAny (model X.prog X.w) X.A (eval e X.env) (fun u s' => 1 ≤ s'.toks ∧ EP X pins σ Q u s') X.xe s
structure PAm (X : Cx) (es : List Expr) (t : TA) : Prop where
  run : ∀ (pos : Pos) (pins : List (Addr × Obj)) (s : Shared) (σ : L2.St) (H : Hp) (Q : List V → Hp → Prop), Inv X pins σ H s → t σ H Q →
  wpAny (model X.prog X.w) X.A (spliced (backTo pos (starEach es X.env))) (fun u s' => 1 ≤ s'.toks ∧ AP X pins σ Q u s') X.xe s
structure PSm (X : Cx) (st : Stmt) (t : TS) : Prop where
  run : ∀ (pins : List (Addr × Obj)) (s : Shared) (σ : L2.St) (H : Hp) (D : Ends), Inv X pins σ H s → t D σ H → wpAny (model X.prog X.w) X.A (exec st X.env) (fun f s' => 1 ≤ s'.toks ∧ SP X pins D f s') X.xe s
section
variable {X : Cx} {a b e : Expr} {es : List Expr} {ta tb te : TE} {t : TA} {pos : Pos}
theorem tokGo {α : Type} {M : Model} {A : Around} {E : Value → Shared → Prop} {m : Sem α} {Q : α → Shared → Prop} {s : Shared} (h1 : 1 ≤ s.toks) (h : wpAny M A m Q E s) : wpAny M A m (fun a s' => 1 ≤ s'.toks ∧ Q a s') E s :=
  wpAny_mono (PySem.wpAny_toks_of h1 h) (fun _ _ x => x) fun _ _ x => x.2
theorem pam_str {z : Str} {j : Nat} {cp : Pos} (h : PA X es t) (hs : starEach (.Constant (.str z) j cp :: es) X.env = (false, eval (.Constant (.str z) j cp) X.env) :: starEach es X.env := by rfl) : PAm X (.Constant (.str z) j cp :: es) (tCons (tC (.str z)) t) := by
  refine ⟨fun pos pins s σ H Q I q => ?_⟩
  rw [hs]
  show wpAny _ _ (spliced ((false, eval (.Constant (.str z) j cp) X.env) :: backTo pos (starEach es X.env))) _ _ s
  refine Calls.spliced_cons (Calls.Constant_str ?_)
  refine wpAny_mono (tokGo (Nat.succ_le_succ (Nat.zero_le _)) (h.run pos pins { s with toks := s.toks + 1 } σ H (fun xs H2 => Q (.str z :: xs) H2) (I.tok _) q)) (fun us s2 hh => ?_) fun _ _ x => x
  obtain ⟨h1, xs, H2, I2, r2, q2⟩ := hh
  exact ⟨h1, .str z :: xs, H2, I2, .cons ⟨_, rfl⟩ r2, q2⟩
theorem pam_strE {x y : Str} {j : Nat} {cp : Pos} (hxy : x = y) (h : PA X es t) (hs : starEach (.Constant (.str x) j cp :: es) X.env = (false, eval (.Constant (.str x) j cp) X.env) :: starEach es X.env := by rfl) : PAm X (.Constant (.str x) j cp :: es) (tCons (tC (.str y)) t) := by
  subst hxy; exact pam_str h hs
theorem pam_cons (ha : PE X e te) (h : PAm X es t) (hs : starEach (e :: es) X.env = (false, eval e X.env) :: starEach es X.env := by rfl) : PAm X (e :: es) (tCons te t) := by
  refine ⟨fun pos pins s σ H Q I q => ?_⟩
  rw [hs]
  show wpAny _ _ (spliced ((false, eval e X.env) :: backTo pos (starEach es X.env))) _ _ s
  refine Calls.spliced_cons (thn (ha.run pins s σ H _ I q) fun u s1 ⟨x, H1, I1, r1, q1⟩ => ?_)
  refine thn (h.run pos pins s1 σ H1 _ I1 q1) fun us s2 hh => ?_
  obtain ⟨h1, xs, H2, I2, r2, q2⟩ := hh
  exact ⟨h1, x :: xs, H2, I2, .cons r1 r2, q2⟩
theorem pam_one (ha : PEm X e te) (hs : starEach [e] X.env = (false, eval e X.env) :: starEach [] X.env := by rfl) : PAm X [e] (tCons te tNil) := by
  refine ⟨fun pos pins s σ H Q I q => ?_⟩
  rw [hs]
  show wpAny _ _ (spliced ((false, eval e X.env) :: backTo pos (starEach [] X.env))) _ _ s
  refine Calls.spliced_cons (thn (ha.run pins s σ H _ I q) fun u s1 ⟨h1, x, H1, I1, r1, q1⟩ => ?_)
  exact Calls.spliced_nil ⟨h1, [x], H1, I1, .cons r1 .nil, q1⟩
theorem pem_lst (h : PAm X es t) : PEm X (.List es pos) (tLst t) := by
  refine ⟨fun pins s σ H Q I q => ?_⟩
  refine wpAny_List_spliced (thn (h.run pos pins s σ H _ I q) fun us s1 hh => ?_)
  obtain ⟨h1, xs, H1, I1, r, z, q⟩ := hh
  refine ⟨by rw [← r.length]; exact z, h1, .ref s1.heap.objs.size, upd H1 s1.heap.objs.size (.lst xs), I1.laid (t' := s1.toks) (fun b u e => Heap.get?_push_of_some _ e) (Nat.le_refl _) ?_, rfl, q _ (I1.hok.fresh (Nat.le_refl _))⟩
  exact ⟨z, us, 0, r, Heap.get?_push_size _ rfl⟩
theorem pem_ix {r : R2} (hr : IxR X r) (ha : PEm X a ta) (hb : PE X b tb) (hs : PlainIx b) : PEm X (.Subscript a b pos) (tOp r ta tb) := by
  refine ⟨fun pins s σ H Q I h => ?_⟩
  refine Subscript_ (thn (ha.run pins s σ H _ I h) fun v s1 hh => ?_)
  obtain ⟨h1, x, H1, I1, r1, q1⟩ := hh
  refine wpAny_mono (tokGo h1 (hb.run pins s1 σ H1 _ I1 q1)) (fun u s2 hh => ?_) fun _ _ x => x
  obtain ⟨h2, y, H2, I2, r2, q2⟩ := hh
  exact tokGo h2 (hr a b pins s2 σ H2 x y v u Q I2 r1 r2 q2 (hs _ _))
theorem psm_cons {st : Stmt} {rest : List Stmt} {t u : TS} (h1 : PSm X st t) (h2 : PSsT X rest u) : PSs X (st :: rest) (tSeq t u) := by
  refine ⟨fun pins s σ H D I h => wpAny_execs_cons (thn (h1.run pins s σ H { D with nx := u D } I h) fun f s1 q => ?_)⟩
  obtain ⟨hk, q⟩ := q
  cases f with
  | next =>
    obtain ⟨σ', H', I', q⟩ := q
    exact h2 pins s1 σ' H' D hk I' q
  | ret v => exact q
  | brk => exact q
  | cont => exact q
/-- a, b = x, y, behind which a token is out -/
theorem psm_par {i j : Nat} {x y : Str} {ta : TA} {px py pt : Pos} {kt k2 pt2} (hc : X.calm = true) (hN : X.N.Nodup) (hi : X.N[i]? = some x) (hj : X.N[j]? = some y) (hij : i ≠ j)
    (hx : X.env.scope.names.lookup x = some .local) (hy : X.env.scope.names.lookup y = some .local) (ha : PAm X [a, b] ta)
    (hw : swappedStores [.Tuple [.Name x px, .Name y py] kt pt] (.Tuple [a, b] k2 pt2) X.env = pure (some [x, y]))
    (hs : swapsWithSole [.Tuple [.Name x px, .Name y py] kt pt] (.Tuple [a, b] k2 pt2) pos.line X.env = pure false := by rfl) :
    PSm X (.Assign [.Tuple [.Name x px, .Name y py] kt pt] (.Tuple [a, b] k2 pt2) pos) (tPar i j ta) := by
  refine ⟨fun pins s σ H D I h => ?_⟩
  rw [exec_Assign_arm]
  refine wpAny_bind (wpAny_standAt ?_)
  rw [hs]
  refine wpAny_bind (wpAny_pure ?_)
  rw [if_neg (by decide)]
  refine wpAny_bind (Tuple_ (thn (ha.run _ pins s σ H _ I h) fun us s1 hh => ?_))
  obtain ⟨h1, vs, H1, I1, r1, v, w, e1, q1⟩ := hh
  subst e1
  obtain ⟨u1, u2, rfl, rv, rw'⟩ := Vals.two r1
  refine wpAny_newObj_type ?_ (by show 2 ≤ sizeLine; decide)
  have I2 : Inv X pins σ H1 { s1 with heap := s1.heap.push { cls := .type "tuple", data := .seq [u1, u2].toArray } } := I1.kept (t' := s1.toks) fun b o e => Heap.get?_push_of_some _ e
  rw [hw]
  refine wpAny_bind (wpAny_pure ?_)
  refine tokGo (show 1 ≤ s1.toks from h1) ?_
  show wpAny (model X.prog X.w) X.A (do rule "assign.swapped-stores"; let items ← unpackItems (.ref s1.heap.objs.size) 2 none; assignInOrder [fun v => bindName X.env y v, fun v => bindName X.env x v] items.reverse; pure Flow.next) _ _ _
  refine wpAny_bind (wpAny_rule (wpAny_bind (unpackItems_tuple (items := #[u1, u2]) (I.ok.hd hc) (IsTup.new s1.heap _) fun h' hx' => ?_)))
  have I3 := I2.kept (h' := h') (t' := s1.toks) fun b o e => hx' b o (Nat.ne_of_lt (Heap.lt_size e)) e
  show wpAny _ _ (assignInOrder [fun v => bindName X.env y v, fun v => bindName X.env x v] [u2, u1] >>= fun _ => pure Flow.next) _ _ _
  refine wpAny_bind (assignInOrder_cons (wpAny_bindName (store_ok I3 hN hj (.inl hy) rw' (fun s2 I4 => ?_) (.inr hy))))
  refine assignInOrder_cons (wpAny_bindName (store_ok I4 hN hi (.inl hx) rv (fun s3 I5 => assignInOrder_nil (wpAny_pure ?_)) (.inr hx)))
  rw [List.set_comm _ _ (Ne.symm hij)] at I5
  exact ⟨_, H1, I5, q1⟩
/-! ### text.replace(a, b) of two written texts, a token out -/
def tReplC (te : TE) (z : List Nat) : TE := fun σ H Q => te σ H fun x H1 => ∃ l : List Nat, x = .str (S l) ∧ l.length + (l.length + 1) * z.length ≤ 16777216 ∧ ∀ l' : List Nat, l'.length ≤ l.length + (l.length + 1) * z.length → Q (.str (S l')) H1
theorem pet_replC {o : Expr} {to : TE} {y z : Str} {z' : List Nat} (hz : z = S z') (hyz : (y == z) = false) {j0 j1 : Nat} {c0 c1 apos : Pos} (ho : PE X o to)
    (hst : starEach [.Constant (.str y) j0 c0, .Constant (.str z) j1 c1] X.env = [(false, eval (.Constant (.str y) j0 c0) X.env), (false, eval (.Constant (.str z) j1 c1) X.env)] := by rfl)
    (hbase : attributeBase o "replace" X.env (eval o X.env) = eval o X.env := by rfl) (hline : (apos.endLine == pos.line) = true := by rfl) :
    PET X (.Call (.Attribute o "replace" apos) [.Constant (.str y) j0 c0, .Constant (.str z) j1 c1] [] pos) (tReplC to z') := by
  intro pins s σ H Q h0 I h
  refine PySem.Call_method2 hbase hst hline (wpAny_mono (PySem.wpAny_toks_of h0 (ho.run pins s σ H _ I h)) (fun v s1 hh => ?_) fun _ _ x => x.2)
  obtain ⟨h1, x, H1, I1, r1, l, ex, hb, q⟩ := hh
  subst ex
  obtain ⟨tx, rfl⟩ := r1
  refine ⟨"str", _, F.plainAttrs_str, F.slot_str_replace, F.type_str_replace, typeIs_str _ _ _, (fun _ e => nomatch e), Calls.callWith_builtin rfl (Calls.evalArgs_plain (Calls.spliced_cons (Calls.Constant_str ?_)))⟩
  refine Calls.spliced_cons (Calls.Constant_str (Calls.spliced_nil ?_))
  subst hz
  have hb' : (S l).length + ((S l).length + 1) * (S z').length ≤ 16777216 := by rw [SX.S_len, SX.S_len]; exact hb
  refine PySem.SC.replace (u := s1.toks) (v := s1.toks + 1) (show s1.toks ≠ 0 by omega) (show s1.toks + 1 ≠ 0 by omega) (show s1.toks ≠ s1.toks + 1 by omega) hyz hb' fun t' k => ⟨.str (Txt.replace (S l) y (S z')), H1, I1.tok k, ⟨t', rfl⟩, ?_⟩
  have hl := TK.replace_len (S l) y (S z')
  rw [SX.S_len l, SX.S_len z'] at hl
  have e := SX.S_tl (Txt.replace (S l) y (S z'))
  rw [← e]
  refine q _ ?_
  have : (Txt.replace (S l) y (S z')).cps.toList.length = (Txt.replace (S l) y (S z')).length := by simp [Str.length]
  omega
theorem PET.of (h : PE X e te) : PET X e te := fun pins s σ H Q _ I q => h.run pins s σ H Q I q
theorem pet_op {op : Operator} {r : R2} (ho : OpR X (binaryOp op) r) (ha : PE X a ta) (hb : PET X b tb) : PET X (.BinOp a op b pos) (tOp r ta tb) := by
  intro pins s σ H Q h0 I h
  refine wpAny_BinOp (wpAny_mono (PySem.wpAny_toks_of h0 (ha.run pins s σ H _ I h)) (fun v s1 hh => ?_) fun _ _ x => x.2)
  obtain ⟨h1, x, H1, I1, r1, q1⟩ := hh
  refine thn (hb pins s1 σ H1 _ h1 I1 q1) fun u s2 ⟨y, H2, I2, r2, q2⟩ => ?_
  exact ho pins s2 σ H2 x y v u Q I2 r1 r2 q2
theorem pst_asg {tg : Expr} {g : TG} (he : PET X e te) (hg : PG X tg g) (hs : swapsWithSole [tg] e pos.line X.env = pure false := by rfl) (hw : swappedStores [tg] e X.env = pure none := by rfl)
    (h1 : (assignEach [tg] X.env).map (·.2) = [assign tg X.env] := by rfl) : PST X (.Assign [tg] e pos) (tAsg te g) := by
  intro pins s σ H D h0 I h
  refine wpAny_Assign_stores (thn (he pins s σ H _ h0 I h) fun v s1 ⟨x, H1, I1, r1, q1⟩ => ?_) hs hw
  rw [h1]
  exact thn (hg.run pins s1 σ H1 x v _ I1 r1 q1) fun _ s2 q => q
end
end MT
set_option Elab.async false
set_option linter.all false
set_option maxRecDepth 100000
set_option maxHeartbeats 4000000
namespace MT
open PySem PySem.Spec PyProof.Rows L2
/-- how many stand there: of a list, a tuple, a dict -/
def lenO : Option HO → Option Nat
  | some (.lst xs) => some xs.length
  | some (.tup xs) => some xs.length
  | some (.frz _ (.lst xs)) => some xs.length
  | some (.dK kvs) => some kvs.length
  | _ => none
def rLenM2 : List V → Hp → VK → Prop := fun xs H Q => match xs with
  | [.ref p] => ∃ n : Nat, lenO (H p) = some n ∧ Q (.int (n : Int)) H
  | _ => False
theorem call_lenM2 {X : Cx} : CallR X (.builtin "len") rLenM2 := callr_imp (CallR.or call_lenM call_lenD) fun xs H Q h => by
  unfold rLenM2 at h
  split at h
  · rename_i p
    obtain ⟨n, h1, h2⟩ := h
    cases e : H p with
    | none => rw [e] at h1; cases h1
    | some o =>
      rw [e] at h1
      cases o with
      | lst ys => cases h1; exact .inl ⟨ys, by rw [e]; rfl, h2⟩
      | tup ys => cases h1; exact .inl ⟨ys, by rw [e]; rfl, h2⟩
      | dK kvs => cases h1; exact .inr ⟨p, kvs, rfl, e, h2⟩
      | frz ob u =>
        cases u with
        | lst ys => cases h1; exact .inl ⟨ys, by rw [e]; rfl, h2⟩
        | _ => cases h1
      | _ => cases h1
  · exact h.elim
end MT
set_option Elab.async false
set_option linter.all false
set_option maxRecDepth 100000
set_option maxHeartbeats 0
namespace K56
open PySem PySem.Spec PyProof.Rows L2
def top (i : Nat) : Stmt := PySem.Challenge.pw_madetables_k56_value_texts.main.body.getD i (.Pass ⟨0, 0, 0, 0⟩)
def mkD (i : Nat) (x : Str) : He.DefD := ⟨(x, none), x, x, defArgs (top i), defBody (top i), defScope (top i), [], []⟩
def mkI (i : Nat) (x q : Str) : He.DefD := ⟨(x, some "__init__"), "__init__", q, defArgs (inClass (top i) 0), defBody (inClass (top i) 0), defScope (inClass (top i) 0), [], []⟩
def fn : List He.DefD := [mkD 9 "is_integer", mkD 10 "is_between", mkD 11 "is_word", mkD 12 "number_in", mkD 18 "is_plain", mkD 19 "text_of", mkD 20 "value_text", mkD 21 "atom_at", mkD 22 "closed", mkD 23 "value_in", mkD 24 "read_value",
  mkD 26 "_law_cell", mkD 27 "_law_box", mkD 28 "_law_take", mkD 29 "_law_same", mkD 30 "_law_value_text", mkD 31 "_law_alike", mkD 32 "_law_word", mkD 33 "_law_leaf", mkD 34 "_law_value", mkD 35 "_law_deep", mkD 36 "_law_item", mkD 37 "_law_read", mkD 38 "_law_bent", mkD 39 "_law_told", mkD 40 "_law_value_right", mkD 41 "_law_refused", mkD 42 "law",
  mkI 2 "InvalidText" "InvalidText.__init__", mkI 3 "InvalidForm" "InvalidForm.__init__"]
def fa : List He.Fa := [.glo "is_integer", .glo "is_between", .glo "is_word", .glo "number_in", .glo "is_plain", .glo "text_of", .glo "value_text", .glo "atom_at", .glo "closed", .glo "value_in", .glo "read_value",
  .glo "_law_cell", .glo "_law_box", .glo "_law_take", .glo "_law_same", .glo "_law_value_text", .glo "_law_alike", .glo "_law_word", .glo "_law_leaf", .glo "_law_value", .glo "_law_deep", .glo "_law_item", .glo "_law_read", .glo "_law_bent", .glo "_law_told", .glo "_law_value_right", .glo "_law_refused", .glo "law",
  .glo "InvalidText", .glo "InvalidForm", .glo "CLOSERS", .glo "SIGNS",
  .free "abs", .free "all", .free "int", .free "bool", .free "dict", .free "isinstance", .free "len", .free "list", .free "max", .free "min", .free "range", .free "str", .free "sum", .free "tuple", .free "zip",
  .str "LETTERS" "abcdefghijklmnopqrstuvwxyz", .str "DIGITS" "0123456789", .int "MOST_LETTERS" 12, .int "MOST_DIGITS" 20, .int "MOST_DEEP" 80, .int "MOST_INTEGER" (10 ^ 20 - 1)]
def ts : List He.Tab := [((fun K => He.ga K "CLOSERS"), ["(", "["]), ((fun K => He.ga K "SIGNS"), ["+", "-"])]
/-- an own exception class over ValueError with __init__ -/
def oexB (K : PySem.W.Frag) (x f : Str) : Bool := (match K.lookup (He.ga K x) with
  | some ⟨.type "type", _, .cls cd, sl⟩ => (match cd.mro, sl.toList with
    | .ref C' :: bm, [_, _, _, _, some (.builtin n), _] => C' == He.ga K x && (n == "ValueError.__new__" && (!cd.hasDel && (cd.hasDict && PySem.HandSPX.refsVE bm)))
    | _, _ => false)
  | _ => false) && (He.eqO (PySem.W.findIn K (.ref (He.ga K x)) "__setattr__") (some (some (.builtin "object.__setattr__"))) &&
  (decide (PySem.W.subIn K (.ref (He.ga K x)) (.type "BaseException") = some true) && (decide (PySem.W.typeIn K (.ref (He.ga K x)) = some (.type "type")) && (PySem.W.keepIn K (.ref (He.ga K x)) &&
  (He.eqO (PySem.W.findIn K (.ref (He.ga K x)) f) (some none) && (He.eqO (PySem.W.findIn K (.ref (He.ga K x)) "__init__") (some (some (.ref (He.ma K (He.ga K x) "__init__")))) && (decide (PySem.W.typeIn K (.ref (He.ma K (He.ga K x) "__init__")) = some (.type "function")) && xfB K (He.ga K x))))))))
def ex (K : PySem.W.Frag) : Bool := oexB K "InvalidText" "given" && (oexB K "InvalidForm" "given" &&
  (He.valsB K (He.ga K "CLOSERS") [("(", .str ")"), ("[", .str "]")] && (He.valsB K (He.ga K "SIGNS") [("+", .bl true), ("-", .bl false)] &&
  (decide (PySem.W.exmOne K (.ref (He.ga K "InvalidText")) (.ref (He.ga K "InvalidForm")) = some false) && (decide (PySem.W.exmOne K (.ref (He.ga K "InvalidText")) (.ref (He.ga K "InvalidText")) = some true) && decide (PySem.W.exmOne K (.ref (He.ga K "InvalidForm")) (.ref (He.ga K "InvalidForm")) = some true))))))
abbrev R : PySem.W.OpenRow := PySem.W.OpenLaw.row PySem.Challenge.rw_madetables_k56_value_texts
def loose0 : List Str := ["TableError", "InvalidText", "InvalidForm", "LETTERS", "DIGITS", "MOST_LETTERS", "MOST_DIGITS", "is_integer", "is_between", "is_word", "number_in", "CLOSERS", "SIGNS", "MOST_DEEP", "MOST_INTEGER"]
def loose1 : List Str := ["is_plain", "text_of", "value_text", "atom_at", "closed", "value_in", "read_value", "_law_cell", "_law_box", "_law_take", "_law_same", "_law_value_text", "_law_alike", "_law_word", "_law_leaf"]
def loose2 : List Str := ["_law_value", "_law_deep", "_law_item", "_law_read", "_law_bent", "_law_told", "_law_value_right", "_law_refused"]
def loose : List Str := loose0 ++ loose1 ++ loose2

end K56
set_option Elab.async false
set_option linter.all false
set_option maxRecDepth 100000
set_option maxHeartbeats 4000000
namespace K56
open PySem PySem.Spec PyProof.Rows L2 MT
open SX (S)
def t_CLOSERS : Str → Option V := fun z => if z = S [40] then some (.str (S [41])) else if z = S [91] then some (.str (S [93])) else none
def t_SIGNS : Str → Option V := fun z => if z = S [43] then some (.bl true) else if z = S [45] then some (.bl false) else none
/-- what the top has written -/
structure Top (K : PySem.W.Frag) (w : World) (mg : Str → Option Value) : Prop where
  f_isinstance : mg "isinstance" = none
  f_int : mg "int" = none
  f_bool : mg "bool" = none
  f_str : mg "str" = none
  f_list : mg "list" = none
  f_tuple : mg "tuple" = none
  f_dict : mg "dict" = none
  f_len : mg "len" = none
  f_all : mg "all" = none
  f_range : mg "range" = none
  f_sum : mg "sum" = none
  f_abs : mg "abs" = none
  f_max : mg "max" = none
  f_min : mg "min" = none
  f_zip : mg "zip" = none
  g_LETTERS : ∃ t, mg "LETTERS" = some (.str (S [97, 98, 99, 100, 101, 102, 103, 104, 105, 106, 107, 108, 109, 110, 111, 112, 113, 114, 115, 116, 117, 118, 119, 120, 121, 122]) t)
  g_DIGITS : ∃ t, mg "DIGITS" = some (.str (S [48, 49, 50, 51, 52, 53, 54, 55, 56, 57]) t)
  g_MOST_LETTERS : ∃ t, mg "MOST_LETTERS" = some (.int 12 t)
  g_MOST_DIGITS : ∃ t, mg "MOST_DIGITS" = some (.int 20 t)
  g_MOST_DEEP : ∃ t, mg "MOST_DEEP" = some (.int 80 t)
  g_CLOSERS : mg "CLOSERS" = some (.ref (He.ga K "CLOSERS"))
  g_SIGNS : mg "SIGNS" = some (.ref (He.ga K "SIGNS"))
  t_CLOSERS : KTab K w (He.ga K "CLOSERS") t_CLOSERS
  t_SIGNS : KTab K w (He.ga K "SIGNS") t_SIGNS
  g_MOST_INTEGER : ∃ t, mg "MOST_INTEGER" = some (.int (10 ^ 20 - 1) t)
end K56
set_option Elab.async false
set_option linter.all false
set_option maxRecDepth 100000
set_option maxHeartbeats 4000000
namespace K56
open PySem PySem.Spec PyProof.Rows L2 MT
open SX (S)
abbrev s_is_integer : Stmt := top 9
theorem sc_is_integer : FnScope ["value"] ["value"] (defScope s_is_integer) := ⟨rfl, rfl, rfl, by decide +kernel, rfl, by decide +kernel, by decide +kernel⟩
theorem b_is_integer : Plain "is_integer" s_is_integer ["value"] := fun _ _ _ _ _ _ us hl => match us, hl with | [_], _ => rfl
def t_is_integer (K : PySem.W.Frag) : TS := (tRet (tAndV (tIs .int (tVar 0)) (tNotV (tIs .bl (tVar 0)))))
theorem d_is_integer {P : Program} {w : World} {K : PySem.W.Frag} {mg : Str → Option Value} {base : Heap} {k : Nat} (T : Top K w mg) {f : Addr} {cdv : Value} {A : Around} {outer : List Env} {s : Shared} {H : Hp} {E : XK} (hr : Room k (A.deeper (envOfC "is_integer" (defScope s_is_integer) s.heap.objs.size f cdv))) : PSs (cxN P w K mg base ["value"] "is_integer" (defScope s_is_integer) f cdv A outer s H E) (defBody s_is_integer) (t_is_integer K) :=
  (pss_one (ps_ret (pe_and (xe_is .int (pv 0) T.f_isinstance T.f_int) (pe_one (pe_not (xe_is .bl (pv 0) T.f_isinstance T.f_bool))))))

abbrev s_is_between : Stmt := top 10
theorem sc_is_between : FnScope ["value", "least", "most"] ["value", "least", "most"] (defScope s_is_between) := ⟨rfl, rfl, rfl, by decide +kernel, rfl, by decide +kernel, by decide +kernel⟩
theorem b_is_between : Plain "is_between" s_is_between ["value", "least", "most"] := fun _ _ _ _ _ _ us hl => match us, hl with | [_, _, _], _ => rfl
def t_is_between (K : PySem.W.Frag) (sp_is_integer : Sp) : TS := (tRet (tAndV (tFn sp_is_integer (tCons (tVar 0) tNil)) (tChain (rI0 fun i j => .bl (decide (i ≤ j))) (rI0 fun i j => .bl (decide (i ≤ j))) (tVar 1) (tVar 0) (tVar 2))))
theorem d_is_between {P : Program} {w : World} {K : PySem.W.Frag} {mg : Str → Option Value} {base : Heap} {k : Nat} {k_is_integer : Nat} {sp_is_integer : Sp} (T : Top K w mg) (c_is_integer : Cal P w K mg base k_is_integer "is_integer" ["value"] sp_is_integer) (l_is_integer : k_is_integer ≤ k) {f : Addr} {cdv : Value} {A : Around} {outer : List Env} {s : Shared} {H : Hp} {E : XK} (hr : Room k (A.deeper (envOfC "is_between" (defScope s_is_between) s.heap.objs.size f cdv))) : PSs (cxN P w K mg base ["value", "least", "most"] "is_between" (defScope s_is_between) f cdv A outer s H E) (defBody s_is_between) (t_is_between K sp_is_integer) :=
  (pss_one (ps_ret (pe_and (xe_call c_is_integer hr l_is_integer (pa_cons (pv 0) pa_nil)) (pe_one (pe_chain op_le op_le (pv 1) (pv 0) (pv 2))))))

abbrev s_is_word : Stmt := top 11
theorem sc_is_word : FnScope ["value", "sign"] ["value"] (defScope s_is_word) := ⟨rfl, rfl, rfl, by decide +kernel, rfl, by decide +kernel, by decide +kernel⟩
theorem b_is_word : Plain "is_word" s_is_word ["value"] := fun _ _ _ _ _ _ us hl => match us, hl with | [_], _ => rfl
def t_is_word (K : PySem.W.Frag) : TS := (tSeq (tIfS (tOr (tNot (tB (tIs .str (tVar 0)))) (tNot (tTest (tChain (rI0 fun i j => .bl (decide (i ≤ j))) (rI0 fun i j => .bl (decide (i ≤ j))) (tC (.int 1)) (tCB rLenM (tCons (tVar 0) tNil)) (tC (.int (12))))))) (tRet (tC (.bl false))) tNext) (tRet (tCB (rAllM fun bs => bs.all id) (tCons (tLc (iStr (tVar 0)) (gName 1) tYes (tOp (rSignIn false) (tVar 1) (tC (.str (S [97, 98, 99, 100, 101, 102, 103, 104, 105, 106, 107, 108, 109, 110, 111, 112, 113, 114, 115, 116, 117, 118, 119, 120, 121, 122])))) [1]) tNil))))
theorem d_is_word {P : Program} {w : World} {K : PySem.W.Frag} {mg : Str → Option Value} {base : Heap} {k : Nat} (T : Top K w mg) {f : Addr} {cdv : Value} {A : Around} {outer : List Env} {s : Shared} {H : Hp} {E : XK} (hr : Room k (A.deeper (envOfC "is_word" (defScope s_is_word) s.heap.objs.size f cdv))) : PSs (cxN P w K mg base ["value", "sign"] "is_word" (defScope s_is_word) f cdv A outer s H E) (defBody s_is_word) (t_is_word K) :=
  (pss_cons (ps_if (PW.pt (pw_or (pt_not (pt_val (xe_is .str (pv 0) T.f_isinstance T.f_str))) (pw_or1 (pt_not (pt_chain op_le op_le pe_int (pe_callB call_lenM (by rfl) T.f_len (by decide +kernel) (pa_cons (pv 0) pa_nil)) (xe_gint T.g_MOST_LETTERS))))))
  (pss_one (ps_ret pe_bl))
  pss_nil)
  (pss_one (ps_ret (pe_callB (call_allM rfl) (by rfl) T.f_all (by decide +kernel) (pa_cons (pe_lc (own := [("sign", 1)]) (g := (gName 1)) (tt := tYes) rfl sc_is_word.nd (pi_str (pv 0)) (blkOk_by (own := [("sign", 1)]) (N := ["value", "sign"]) (sc := defScope s_is_word) (by decide +kernel)) (fun _ _ _ _ _ => (pg_name (i := 1) sc_is_word.nd rfl (Or.inl rfl))) (fun _ _ _ _ _ => pts_nil) (fun _ _ _ _ _ => (pe_cmpR op_signIn (pv 1) (xe_gstr T.g_LETTERS) (by rfl)))) pa_nil)))))

abbrev s_number_in : Stmt := top 12
theorem sc_number_in : FnScope ["word", "sign"] ["word"] (defScope s_number_in) := ⟨rfl, rfl, rfl, by decide +kernel, rfl, by decide +kernel, by decide +kernel⟩
theorem b_number_in : Plain "number_in" s_number_in ["word"] := fun _ _ _ _ _ _ us hl => match us, hl with | [_], _ => rfl
def t_number_in (K : PySem.W.Frag) : TS := (tSeq (tIfS (tOr (tNot (tTest (tChain (rI0 fun i j => .bl (decide (i ≤ j))) (rI0 fun i j => .bl (decide (i ≤ j))) (tC (.int 1)) (tCB rLenM (tCons (tVar 0) tNil)) (tC (.int (20)))))) (tNot (tB (tCB (rAllM fun bs => bs.all id) (tCons (tLc (iStr (tVar 0)) (gName 1) tYes (tOp (rSignIn false) (tVar 1) (tC (.str (S [48, 49, 50, 51, 52, 53, 54, 55, 56, 57])))) [1]) tNil))))) (tRet (tC .non)) tNext) (tRet (tIf (tAnd (tTest (tOp rEqM (tOp rIxM (tVar 0) (tC (.int 0))) (tC (.str (S [48]))))) (tTest (tOp rNeM (tVar 0) (tC (.str (S [48])))))) (tC .non) (tCB rInt (tCons (tVar 0) tNil)))))
theorem d_number_in {P : Program} {w : World} {K : PySem.W.Frag} {mg : Str → Option Value} {base : Heap} {k : Nat} (T : Top K w mg) {f : Addr} {cdv : Value} {A : Around} {outer : List Env} {s : Shared} {H : Hp} {E : XK} (hr : Room k (A.deeper (envOfC "number_in" (defScope s_number_in) s.heap.objs.size f cdv))) : PSs (cxN P w K mg base ["word", "sign"] "number_in" (defScope s_number_in) f cdv A outer s H E) (defBody s_number_in) (t_number_in K) :=
  (pss_cons (ps_if (PW.pt (pw_or (pt_not (pt_chain op_le op_le pe_int (pe_callB call_lenM (by rfl) T.f_len (by decide +kernel) (pa_cons (pv 0) pa_nil)) (xe_gint T.g_MOST_DIGITS))) (pw_or1 (pt_not (pt_val (pe_callB (call_allM rfl) (by rfl) T.f_all (by decide +kernel) (pa_cons (pe_lc (own := [("sign", 1)]) (g := (gName 1)) (tt := tYes) rfl sc_number_in.nd (pi_str (pv 0)) (blkOk_by (own := [("sign", 1)]) (N := ["word", "sign"]) (sc := defScope s_number_in) (by decide +kernel)) (fun _ _ _ _ _ => (pg_name (i := 1) sc_number_in.nd rfl (Or.inl rfl))) (fun _ _ _ _ _ => pts_nil) (fun _ _ _ _ _ => (pe_cmpR op_signIn (pv 1) (xe_gstr T.g_DIGITS) (by rfl)))) pa_nil)))))))
  (pss_one (ps_ret pe_non))
  pss_nil)
  (pss_one (ps_ret (pe_ifExp (PW.pt (pw_and (pt_cmpR op_eqM (pe_ix ix_M (pv 0) pe_int (fun _ _ => rfl)) (xe_str (by decide +kernel)) (nomark _)) (pw_and1 (pt_cmpR op_neM (pv 0) (xe_str (by decide +kernel)) (nomark _))))) pe_non (pe_callTy call_intM (by rfl) T.f_int (by decide +kernel) (pa_cons (pv 0) pa_nil))))))

abbrev s_is_plain : Stmt := top 18
theorem sc_is_plain : FnScope ["value", "deep", "item"] ["value", "deep"] (defScope s_is_plain) := ⟨rfl, rfl, rfl, by decide +kernel, rfl, by decide +kernel, by decide +kernel⟩
theorem b_is_plain : Plain "is_plain" s_is_plain ["value", "deep"] := fun _ _ _ _ _ _ us hl => match us, hl with | [_, _], _ => rfl
def t_is_plain (K : PySem.W.Frag) (sp_is_plain : Sp) (sp_is_between : Sp) (sp_is_word : Sp) : TS := (tSeq (tIfS (tB (tIss [.tup, .lst] (tVar 0))) (tRet (tAndV (tOp (rI0 fun i j => .bl (decide (i < j))) (tVar 1) (tC (.int (80)))) (tCB (rAllM fun bs => bs.all id) (tCons (tLc (iSq K (tVar 0)) (gName 2) tYes (tFn sp_is_plain (tCons (tVar 2) (tCons (tOp rAddM (tVar 1) (tC (.int 1))) tNil))) [2]) tNil)))) tNext) (tRet (tOrV (tIs .bl (tVar 0)) (tOrV (tFn sp_is_between (tCons (tVar 0) (tCons (tC (.int 0)) (tCons (tC (.int (10 ^ 20 - 1))) tNil)))) (tFn sp_is_word (tCons (tVar 0) tNil))))))
theorem d_is_plain {P : Program} {w : World} {K : PySem.W.Frag} {mg : Str → Option Value} {base : Heap} {k : Nat} {k_is_plain : Nat} {sp_is_plain : Sp} {k_is_between : Nat} {sp_is_between : Sp} {k_is_word : Nat} {sp_is_word : Sp} (T : Top K w mg) (c_is_plain : Cal P w K mg base k_is_plain "is_plain" ["value", "deep"] sp_is_plain) (l_is_plain : k_is_plain ≤ k) (c_is_between : Cal P w K mg base k_is_between "is_between" ["value", "least", "most"] sp_is_between) (l_is_between : k_is_between ≤ k) (c_is_word : Cal P w K mg base k_is_word "is_word" ["value"] sp_is_word) (l_is_word : k_is_word ≤ k) {f : Addr} {cdv : Value} {A : Around} {outer : List Env} {s : Shared} {H : Hp} {E : XK} (hr : Room k (A.deeper (envOfC "is_plain" (defScope s_is_plain) s.heap.objs.size f cdv))) : PSs (cxN P w K mg base ["value", "deep", "item"] "is_plain" (defScope s_is_plain) f cdv A outer s H E) (defBody s_is_plain) (t_is_plain K sp_is_plain sp_is_between sp_is_word) :=
  (pss_cons (ps_if (pt_val (xe_iss [.tup, .lst] (pv 0) T.f_isinstance (.cons T.f_tuple rfl (by decide +kernel) (by decide) (by decide) rfl (.cons T.f_list rfl (by decide +kernel) (by decide) (by decide) rfl .nil)) (by decide)))
  (pss_one (ps_ret (pe_and (pe_cmpR op_lt (pv 1) (xe_gint T.g_MOST_DEEP) (nomark _)) (pe_one (pe_callB (call_allM rfl) (by rfl) T.f_all (by decide +kernel) (pa_cons (pe_lc (own := [("item", 2)]) (g := (gName 2)) (tt := tYes) rfl sc_is_plain.nd (pi_sq (pv 0)) (blkOk_by (own := [("item", 2)]) (N := ["value", "deep", "item"]) (sc := defScope s_is_plain) (by decide +kernel)) (fun _ _ _ _ _ => (pg_name (i := 2) sc_is_plain.nd rfl (Or.inl rfl))) (fun _ _ _ _ _ => pts_nil) (fun _ _ _ _ _ => (xe_call c_is_plain hr l_is_plain (pa_cons (pv 2) (pa_cons (pe_op op_addM (pv 1) pe_int) pa_nil))))) pa_nil))))))
  pss_nil)
  (pss_one (ps_ret (pe_or (xe_is .bl (pv 0) T.f_isinstance T.f_bool) (pe_or (xe_call c_is_between hr l_is_between (pa_cons (pv 0) (pa_cons pe_int (pa_cons (xe_gint T.g_MOST_INTEGER) pa_nil)))) (pe_one (xe_call c_is_word hr l_is_word (pa_cons (pv 0) pa_nil))))))))

end K56
set_option Elab.async false
set_option linter.all false
set_option maxRecDepth 100000
set_option maxHeartbeats 4000000
namespace K56
open PySem PySem.Spec PyProof.Rows L2 MT
open SX (S)
abbrev s_text_of : Stmt := top 19
theorem sc_text_of : FnScope ["value", "item"] ["value"] (defScope s_text_of) := ⟨rfl, rfl, rfl, by decide +kernel, rfl, by decide +kernel, by decide +kernel⟩
theorem b_text_of : Plain "text_of" s_text_of ["value"] := fun _ _ _ _ _ _ us hl => match us, hl with | [_], _ => rfl
def t_text_of (K : PySem.W.Frag) (sp_text_of : Sp) : TS := (tSeq (tIfS (tB (tIs .tup (tVar 0))) (tRet (tOp rAddM (tOp rAddM (tC (.str (S [40]))) (tBM K "str" rJoinM (tC (.str (S [44, 32]))) (tCons (tLc (iSq K (tVar 0)) (gName 1) tYes (tFn sp_text_of (tCons (tVar 1) tNil)) [1]) tNil))) (tC (.str (S [41]))))) tNext) (tSeq (tIfS (tB (tIs .lst (tVar 0))) (tRet (tOp rAddM (tOp rAddM (tC (.str (S [91]))) (tBM K "str" rJoinM (tC (.str (S [44, 32]))) (tCons (tLc (iSq K (tVar 0)) (gName 1) tYes (tFn sp_text_of (tCons (tVar 1) tNil)) [1]) tNil))) (tC (.str (S [93]))))) tNext) (tSeq (tIfS (tB (tIs .bl (tVar 0))) (tRet (tIf (tB (tVar 0)) (tC (.str (S [43]))) (tC (.str (S [45]))))) tNext) (tRet (tCB rStrI (tCons (tVar 0) tNil))))))
theorem d_text_of {P : Program} {w : World} {K : PySem.W.Frag} {mg : Str → Option Value} {base : Heap} {k : Nat} {k_text_of : Nat} {sp_text_of : Sp} (T : Top K w mg) (c_text_of : Cal P w K mg base k_text_of "text_of" ["value"] sp_text_of) (l_text_of : k_text_of ≤ k) {f : Addr} {cdv : Value} {A : Around} {outer : List Env} {s : Shared} {H : Hp} {E : XK} (hr : Room k (A.deeper (envOfC "text_of" (defScope s_text_of) s.heap.objs.size f cdv))) : PSs (cxN P w K mg base ["value", "item"] "text_of" (defScope s_text_of) f cdv A outer s H E) (defBody s_text_of) (t_text_of K sp_text_of) :=
  (pss_cons (ps_if (pt_val (xe_is .tup (pv 0) T.f_isinstance T.f_tuple))
  (pss_one (ps_ret (pe_op op_addM (pe_op op_addM (xe_str (by decide +kernel)) (pe_bm PySem.F.plainAttrs_str PySem.F.slot_str_join PySem.F.type_str_join mt_joinM (xe_str (by decide +kernel)) (pa_cons (pe_lc (own := [("item", 1)]) (g := (gName 1)) (tt := tYes) rfl sc_text_of.nd (pi_sq (pv 0)) (blkOk_by (own := [("item", 1)]) (N := ["value", "item"]) (sc := defScope s_text_of) (by decide +kernel)) (fun _ _ _ _ _ => (pg_name (i := 1) sc_text_of.nd rfl (Or.inl rfl))) (fun _ _ _ _ _ => pts_nil) (fun _ _ _ _ _ => (xe_call c_text_of hr l_text_of (pa_cons (pv 1) pa_nil)))) pa_nil))) (xe_str (by decide +kernel)))))
  pss_nil)
  (pss_cons (ps_if (pt_val (xe_is .lst (pv 0) T.f_isinstance T.f_list))
  (pss_one (ps_ret (pe_op op_addM (pe_op op_addM (xe_str (by decide +kernel)) (pe_bm PySem.F.plainAttrs_str PySem.F.slot_str_join PySem.F.type_str_join mt_joinM (xe_str (by decide +kernel)) (pa_cons (pe_lc (own := [("item", 1)]) (g := (gName 1)) (tt := tYes) rfl sc_text_of.nd (pi_sq (pv 0)) (blkOk_by (own := [("item", 1)]) (N := ["value", "item"]) (sc := defScope s_text_of) (by decide +kernel)) (fun _ _ _ _ _ => (pg_name (i := 1) sc_text_of.nd rfl (Or.inl rfl))) (fun _ _ _ _ _ => pts_nil) (fun _ _ _ _ _ => (xe_call c_text_of hr l_text_of (pa_cons (pv 1) pa_nil)))) pa_nil))) (xe_str (by decide +kernel)))))
  pss_nil)
  (pss_cons (ps_if (pt_val (xe_is .bl (pv 0) T.f_isinstance T.f_bool))
  (pss_one (ps_ret (pe_ifExp (pt_val (pv 0)) (xe_str (by decide +kernel)) (xe_str (by decide +kernel)))))
  pss_nil)
  (pss_one (ps_ret (pe_callTy call_strM (by rfl) T.f_str (by decide +kernel) (pa_cons (pv 0) pa_nil)))))))

abbrev s_atom_at : Stmt := top 21
theorem sc_atom_at : FnScope ["text", "place", "end", "word", "number"] ["text", "place"] (defScope s_atom_at) := ⟨rfl, rfl, rfl, by decide +kernel, rfl, by decide +kernel, by decide +kernel⟩
theorem b_atom_at : Plain "atom_at" s_atom_at ["text", "place"] := fun _ _ _ _ _ _ us hl => match us, hl with | [_, _], _ => rfl
def t_atom_at (K : PySem.W.Frag) (sp_number_in : Sp) (sp_is_word : Sp) : TS := (tSeq (tAsg (tVar 1) (gName 2)) (tSeq (tWhile (tAnd (tTest (tOp (rI0 fun i j => .bl (decide (i < j))) (tVar 2) (tCB rLenM (tCons (tVar 0) tNil)))) (tTest (tOp (rSignIn true) (tOp rIxM (tVar 0) (tVar 2)) (tC (.str (S [40, 41, 91, 93, 44, 32])))))) (tAug 2 (tC (.int 1)) (ipI fun i j => i + j))) (tSeq (tAsg (tSl rSlM (tVar 0) (tPart (tVar 1)) (tPart (tVar 2))) (gName 3)) (tSeq (tAsg (tFn sp_number_in (tCons (tVar 3) tNil)) (gName 4)) (tSeq (tIfS (tB (tNotN (tVar 4))) (tRet (tTup (tCons (tVar 4) (tCons (tVar 2) tNil)))) tNext) (tSeq (tIfS (tTest (tOp (rKd (He.ga K "SIGNS") t_SIGNS false) (tVar 3) (tC (.ref (He.ga K "SIGNS"))))) (tRet (tTup (tCons (tOp (rKdGet (He.ga K "SIGNS") t_SIGNS) (tC (.ref (He.ga K "SIGNS"))) (tVar 3)) (tCons (tVar 2) tNil)))) tNext) (tRet (tIf (tB (tFn sp_is_word (tCons (tVar 3) tNil))) (tTup (tCons (tVar 3) (tCons (tVar 2) tNil))) (tC .non)))))))))
theorem d_atom_at {P : Program} {w : World} {K : PySem.W.Frag} {mg : Str → Option Value} {base : Heap} {k : Nat} {k_number_in : Nat} {sp_number_in : Sp} {k_is_word : Nat} {sp_is_word : Sp} (T : Top K w mg) (c_number_in : Cal P w K mg base k_number_in "number_in" ["word"] sp_number_in) (l_number_in : k_number_in ≤ k) (c_is_word : Cal P w K mg base k_is_word "is_word" ["value"] sp_is_word) (l_is_word : k_is_word ≤ k) {f : Addr} {cdv : Value} {A : Around} {outer : List Env} {s : Shared} {H : Hp} {E : XK} (hr : Room k (A.deeper (envOfC "atom_at" (defScope s_atom_at) s.heap.objs.size f cdv))) : PSs (cxN P w K mg base ["text", "place", "end", "word", "number"] "atom_at" (defScope s_atom_at) f cdv A outer s H E) (defBody s_atom_at) (t_atom_at K sp_number_in sp_is_word) :=
  (pss_cons (ps_set (i := 2) sc_atom_at.nd rfl (.inl rfl) (pv 1))
  (pss_cons (ps_while PassesOwn.never (PW.pt (pw_and (pt_cmpR op_lt (pv 2) (pe_callB call_lenM (by rfl) T.f_len (by decide +kernel) (pa_cons (pv 0) pa_nil)) (nomark _)) (pw_and1 (pt_cmpR op_signNotIn (pe_ix ix_M (pv 0) (pv 2) (fun _ _ => rfl)) (xe_str (by decide +kernel)) (by rfl)))))
  (pss_one (ps_aug (i := 2) sc_atom_at.nd rfl (.inl rfl) pe_int ip_add)))
  (pss_cons (ps_set (i := 3) sc_atom_at.nd rfl (.inl rfl) (pe_slice sl_M (pv 0) (po_some (pv 1)) (po_some (pv 2))))
  (pss_cons (ps_set (i := 4) sc_atom_at.nd rfl (.inl rfl) (xe_call c_number_in hr l_number_in (pa_cons (pv 3) pa_nil)))
  (pss_cons (ps_if (pt_cmp (pc_notN (pv 4)))
  (pss_one (ps_ret (pe_tup (pa_cons (pv 4) (pa_cons (pv 2) pa_nil)))))
  pss_nil)
  (pss_cons (ps_if (pt_cmpR (op_inkd T.t_SIGNS) (pv 3) (pe_glob rfl T.g_SIGNS rfl) (by rfl))
  (pss_one (ps_ret (pe_tup (pa_cons (pe_ix (ix_kd T.t_SIGNS) (pe_glob rfl T.g_SIGNS rfl) (pv 3) (fun _ _ => rfl)) (pa_cons (pv 2) pa_nil)))))
  pss_nil)
  (pss_one (ps_ret (pe_ifExp (pt_val (xe_call c_is_word hr l_is_word (pa_cons (pv 3) pa_nil))) (pe_tup (pa_cons (pv 3) (pa_cons (pv 2) pa_nil))) pe_non)))))))))

abbrev s_closed : Stmt := top 22
theorem sc_closed : FnScope ["text", "place", "stack", "sign", "items"] ["text", "place", "stack"] (defScope s_closed) := ⟨rfl, rfl, rfl, by decide +kernel, rfl, by decide +kernel, by decide +kernel⟩
theorem b_closed : Plain "closed" s_closed ["text", "place", "stack"] := fun _ _ _ _ _ _ us hl => match us, hl with | [_, _, _], _ => rfl
def t_closed (K : PySem.W.Frag) : TS := (tSeq (tWhile (tAnd (tTest (tOp (rI0 fun i j => .bl (decide (j < i))) (tCB rLenM (tCons (tVar 2) tNil)) (tC (.int 1)))) (tTest (tOp rEqM (tSl rSlM (tVar 0) (tPart (tVar 1)) (tPart (tOp rAddM (tVar 1) (tC (.int 1))))) (tOp (rKdGet (He.ga K "CLOSERS") t_CLOSERS) (tC (.ref (He.ga K "CLOSERS"))) (tOp rIxM (tOp rIxM (tVar 2) (tUn (rU fun i => .int (-i)) (tC (.int 1)))) (tC (.int 0))))))) (tSeq (tAsg (tBM0 K "list" rPopM (tVar 2)) (gUnl K 2 (gCons (gName 3) (gCons (gName 4) gNil)))) (tSeq (tDrop (tBM K "list" rAppendM (tOp rIxM (tOp rIxM (tVar 2) (tUn (rU fun i => .int (-i)) (tC (.int 1)))) (tC (.int 1))) (tCons (tIf (tTest (tOp rEqM (tVar 3) (tC (.str (S [40]))))) (tCB rTupM (tCons (tVar 4) tNil)) (tVar 4)) tNil))) (tAug 1 (tC (.int 1)) (ipI fun i j => i + j))))) (tRet (tVar 1)))
theorem d_closed {P : Program} {w : World} {K : PySem.W.Frag} {mg : Str → Option Value} {base : Heap} {k : Nat} (T : Top K w mg) {f : Addr} {cdv : Value} {A : Around} {outer : List Env} {s : Shared} {H : Hp} {E : XK} (hr : Room k (A.deeper (envOfC "closed" (defScope s_closed) s.heap.objs.size f cdv))) : PSs (cxN P w K mg base ["text", "place", "stack", "sign", "items"] "closed" (defScope s_closed) f cdv A outer s H E) (defBody s_closed) (t_closed K) :=
  (pss_cons (ps_while PassesOwn.never (PW.pt (pw_and (pt_cmpR op_gt (pe_callB call_lenM (by rfl) T.f_len (by decide +kernel) (pa_cons (pv 2) pa_nil)) pe_int (nomark _)) (pw_and1 (pt_cmpR op_eqM (pe_slice sl_M (pv 0) (po_some (pv 1)) (po_some (pe_op op_addM (pv 1) pe_int))) (pe_ix (ix_kd T.t_CLOSERS) (pe_glob rfl T.g_CLOSERS rfl) (pe_ix ix_M (pe_ix ix_M (pv 2) (pe_un un_neg pe_int) (fun _ _ => rfl)) pe_int (fun _ _ => rfl)) (fun _ _ => rfl)) (nomark _)))))
  (pss_cons (ps_asg (pe_bm0 PySem.F.plainAttrs_list PySem.F.slot_list_pop PySem.F.type_list_pop mt_popM (pv 2)) (pg_unl rfl (pgs_cons (pg_name (i := 3) sc_closed.nd rfl (.inl rfl)) (pgs_cons (pg_name (i := 4) sc_closed.nd rfl (.inl rfl)) pgs_nil))))
  (pss_cons (ps_expr (pe_bm PySem.F.plainAttrs_list PySem.F.slot_list_append PySem.F.type_list_append mt_appendM (pe_ix ix_M (pe_ix ix_M (pv 2) (pe_un un_neg pe_int) (fun _ _ => rfl)) pe_int (fun _ _ => rfl)) (pa_cons (pe_ifExp (pt_cmpR op_eqM (pv 3) (xe_str (by decide +kernel)) (nomark _)) (pe_callTy call_tupM (by rfl) T.f_tuple (by decide +kernel) (pa_cons (pv 4) pa_nil)) (pv 4)) pa_nil)))
  (pss_one (ps_aug (i := 1) sc_closed.nd rfl (.inl rfl) pe_int ip_add)))))
  (pss_one (ps_ret (pv 1))))

abbrev s_value_in : Stmt := top 23
theorem sc_value_in : FnScope ["text", "place", "stack", "sign", "found", "is_open"] ["text"] (defScope s_value_in) := ⟨rfl, rfl, rfl, by decide +kernel, rfl, by decide +kernel, by decide +kernel⟩
theorem b_value_in : Plain "value_in" s_value_in ["text"] := fun _ _ _ _ _ _ us hl => match us, hl with | [_], _ => rfl
def t_value_in (K : PySem.W.Frag) (sp_atom_at : Sp) (sp_closed : Sp) : TS := (tSeq (tPar 1 2 (tCons (tC (.int 0)) (tCons (tLst (tCons (tLst (tCons (tC (.str (S []))) (tCons (tLst tNil) tNil))) tNil)) tNil))) (tWhile (tB (tC (.bl true))) (tSeq (tAsg (tSl rSlM (tVar 0) (tPart (tVar 1)) (tPart (tOp rAddM (tVar 1) (tC (.int 1))))) (gName 3)) (tSeq (tIfS (tTest (tOp (rKd (He.ga K "CLOSERS") t_CLOSERS false) (tVar 3) (tC (.ref (He.ga K "CLOSERS"))))) (tSeq (tDrop (tBM K "list" rAppendM (tVar 2) (tCons (tLst (tCons (tVar 3) (tCons (tLst tNil) tNil))) tNil))) (tAug 1 (tC (.int 1)) (ipI fun i j => i + j))) (tSeq (tAsg (tFn sp_atom_at (tCons (tVar 0) (tCons (tVar 1) tNil))) (gName 4)) (tSeq (tIfS (tB (tIsN (tVar 4))) (tRet (tC .non)) tNext) (tSeq (tDrop (tBM K "list" rAppendM (tOp rIxM (tOp rIxM (tVar 2) (tUn (rU fun i => .int (-i)) (tC (.int 1)))) (tC (.int 1))) (tCons (tOp rIxM (tVar 4) (tC (.int 0))) tNil))) (tAsg (tOp rIxM (tVar 4) (tC (.int 1))) (gName 1)))))) (tSeq (tIfS (tTest (tOp (rI0 fun i j => .bl (decide (j < i))) (tCB rLenM (tCons (tVar 2) tNil)) (tOp rAddM (tC (.int (80))) (tC (.int 1))))) (tRet (tC .non)) tNext) (tSeq (tAsg (tAndV (tOp (rKd (He.ga K "CLOSERS") t_CLOSERS false) (tVar 3) (tC (.ref (He.ga K "CLOSERS")))) (tOp rNeM (tSl rSlM (tVar 0) (tPart (tVar 1)) (tPart (tOp rAddM (tVar 1) (tC (.int 1))))) (tOp (rKdGet (He.ga K "CLOSERS") t_CLOSERS) (tC (.ref (He.ga K "CLOSERS"))) (tVar 3)))) (gName 5)) (tIfS (tNot (tB (tVar 5))) (tSeq (tAsg (tFn sp_closed (tCons (tVar 0) (tCons (tVar 1) (tCons (tVar 2) tNil)))) (gName 1)) (tSeq (tIfS (tTest (tOp rEqM (tCB rLenM (tCons (tVar 2) tNil)) (tC (.int 1)))) (tRet (tIf (tTest (tOp rEqM (tVar 1) (tCB rLenM (tCons (tVar 0) tNil)))) (tOp rIxM (tOp rIxM (tVar 2) (tC (.int 0))) (tC (.int 1))) (tC .non))) tNext) (tSeq (tIfS (tTest (tOp rNeM (tSl rSlM (tVar 0) (tPart (tVar 1)) (tPart (tOp rAddM (tVar 1) (tC (.int 2))))) (tC (.str (S [44, 32]))))) (tRet (tC .non)) tNext) (tAug 1 (tC (.int 2)) (ipI fun i j => i + j))))) tNext)))))))
theorem d_value_in {P : Program} {w : World} {K : PySem.W.Frag} {mg : Str → Option Value} {base : Heap} {k : Nat} {k_atom_at : Nat} {sp_atom_at : Sp} {k_closed : Nat} {sp_closed : Sp} (T : Top K w mg) (c_atom_at : Cal P w K mg base k_atom_at "atom_at" ["text", "place"] sp_atom_at) (l_atom_at : k_atom_at ≤ k) (c_closed : Cal P w K mg base k_closed "closed" ["text", "place", "stack"] sp_closed) (l_closed : k_closed ≤ k) {f : Addr} {cdv : Value} {A : Around} {outer : List Env} {s : Shared} {H : Hp} {E : XK} (hr : Room k (A.deeper (envOfC "value_in" (defScope s_value_in) s.heap.objs.size f cdv))) : PSs (cxN P w K mg base ["text", "place", "stack", "sign", "found", "is_open"] "value_in" (defScope s_value_in) f cdv A outer s H E) (defBody s_value_in) (t_value_in K sp_atom_at sp_closed) :=
  (pss_cons (ps_par (i := 1) (j := 2) rfl sc_value_in.nd rfl rfl (by decide) rfl rfl (pa_cons pe_int (pa_cons (pe_lst (pa_cons (pe_lst (pa_cons (xe_str (by decide +kernel)) (pa_cons (pe_lst pa_nil) pa_nil))) pa_nil)) pa_nil)) (by rfl))
  (pss_one (ps_while PassesOwn.never (pt_val pe_bl)
  (pss_cons (ps_set (i := 3) sc_value_in.nd rfl (.inl rfl) (pe_slice sl_M (pv 0) (po_some (pv 1)) (po_some (pe_op op_addM (pv 1) pe_int))))
  (pss_cons (ps_if (pt_cmpR (op_inkd T.t_CLOSERS) (pv 3) (pe_glob rfl T.g_CLOSERS rfl) (by rfl))
  (pss_cons (ps_expr (pe_bm PySem.F.plainAttrs_list PySem.F.slot_list_append PySem.F.type_list_append mt_appendM (pv 2) (pa_cons (pe_lst (pa_cons (pv 3) (pa_cons (pe_lst pa_nil) pa_nil))) pa_nil)))
  (pss_one (ps_aug (i := 1) sc_value_in.nd rfl (.inl rfl) pe_int ip_add)))
  (pss_cons (ps_set (i := 4) sc_value_in.nd rfl (.inl rfl) (xe_call c_atom_at hr l_atom_at (pa_cons (pv 0) (pa_cons (pv 1) pa_nil))))
  (pss_cons (ps_if (pt_cmp (pc_isN (pv 4)))
  (pss_one (ps_ret pe_non))
  pss_nil)
  (pss_cons (ps_expr (pe_bm PySem.F.plainAttrs_list PySem.F.slot_list_append PySem.F.type_list_append mt_appendM (pe_ix ix_M (pe_ix ix_M (pv 2) (pe_un un_neg pe_int) (fun _ _ => rfl)) pe_int (fun _ _ => rfl)) (pa_cons (pe_ix ix_M (pv 4) pe_int (fun _ _ => rfl)) pa_nil)))
  (pss_one (ps_set (i := 1) sc_value_in.nd rfl (.inl rfl) (pe_ix ix_M (pv 4) pe_int (fun _ _ => rfl))))))))
  (pss_cons (ps_if (pt_cmpR op_gt (pe_callB call_lenM (by rfl) T.f_len (by decide +kernel) (pa_cons (pv 2) pa_nil)) (pe_op op_addM (xe_gint T.g_MOST_DEEP) pe_int) (nomark _))
  (pss_one (ps_ret pe_non))
  pss_nil)
  (pss_cons (ps_set (i := 5) sc_value_in.nd rfl (.inl rfl) (pe_and (pe_cmpR (op_inkd T.t_CLOSERS) (pv 3) (pe_glob rfl T.g_CLOSERS rfl) (by rfl)) (pe_one (pe_cmpR op_neM (pe_slice sl_M (pv 0) (po_some (pv 1)) (po_some (pe_op op_addM (pv 1) pe_int))) (pe_ix (ix_kd T.t_CLOSERS) (pe_glob rfl T.g_CLOSERS rfl) (pv 3) (fun _ _ => rfl)) (nomark _)))))
  (pss_one (ps_if (pt_not (pt_val (pv 5)))
  (pss_cons (ps_set (i := 1) sc_value_in.nd rfl (.inl rfl) (xe_call c_closed hr l_closed (pa_cons (pv 0) (pa_cons (pv 1) (pa_cons (pv 2) pa_nil)))))
  (pss_cons (ps_if (pt_cmpR op_eqM (pe_callB call_lenM (by rfl) T.f_len (by decide +kernel) (pa_cons (pv 2) pa_nil)) pe_int (nomark _))
  (pss_one (ps_ret (pe_ifExp (pt_cmpR op_eqM (pv 1) (pe_callB call_lenM (by rfl) T.f_len (by decide +kernel) (pa_cons (pv 0) pa_nil)) (nomark _)) (pe_ix ix_M (pe_ix ix_M (pv 2) pe_int (fun _ _ => rfl)) pe_int (fun _ _ => rfl)) pe_non)))
  pss_nil)
  (pss_cons (ps_if (pt_cmpR op_neM (pe_slice sl_M (pv 0) (po_some (pv 1)) (po_some (pe_op op_addM (pv 1) pe_int))) (xe_str (by decide +kernel)) (nomark _))
  (pss_one (ps_ret pe_non))
  pss_nil)
  (pss_one (ps_aug (i := 1) sc_value_in.nd rfl (.inl rfl) pe_int ip_add)))))
  pss_nil)))))))))

end K56
set_option Elab.async false
set_option linter.all false
set_option maxRecDepth 100000
set_option maxHeartbeats 4000000
namespace K56
open PySem PySem.Spec PyProof.Rows L2 MT
open SX (S)
abbrev s_law_cell : Stmt := top 26
theorem sc_law_cell : FnScope ["script", "k"] ["script", "k"] (defScope s_law_cell) := ⟨rfl, rfl, rfl, by decide +kernel, rfl, by decide +kernel, by decide +kernel⟩
theorem b_law_cell : Plain "_law_cell" s_law_cell ["script", "k"] := fun _ _ _ _ _ _ us hl => match us, hl with | [_, _], _ => rfl
def t_law_cell (K : PySem.W.Frag) : TS := (tRet (tIf (tTest (tOp (rI0 fun i j => .bl (decide (i < j))) (tVar 1) (tCB rLenM (tCons (tVar 0) tNil)))) (tOp rIxM (tVar 0) (tVar 1)) (tOp rAddM (tOp (rI CMulW fun i j => .int (i * j)) (tC (.int 10099)) (tVar 1)) (tOp (rI (fun _ j => j ≠ 0) fun i j => .int (i.fmod j)) (tCB rInt (tCons (tCB rSumM (tCons (tSl rSlM (tVar 0) tNoPart (tPart (tC (.int 1)))) tNil)) tNil)) (tC (.int 1000003))))))
theorem d_law_cell {P : Program} {w : World} {K : PySem.W.Frag} {mg : Str → Option Value} {base : Heap} {k : Nat} (T : Top K w mg) {f : Addr} {cdv : Value} {A : Around} {outer : List Env} {s : Shared} {H : Hp} {E : XK} (hr : Room k (A.deeper (envOfC "_law_cell" (defScope s_law_cell) s.heap.objs.size f cdv))) : PSs (cxN P w K mg base ["script", "k"] "_law_cell" (defScope s_law_cell) f cdv A outer s H E) (defBody s_law_cell) (t_law_cell K) :=
  (pss_one (ps_ret (pe_ifExp (pt_cmpR op_lt (pv 1) (pe_callB call_lenM (by rfl) T.f_len (by decide +kernel) (pa_cons (pv 0) pa_nil)) (nomark _)) (pe_ix ix_M (pv 0) (pv 1) (fun _ _ => rfl)) (pe_op op_addM (pe_op op_mulW pe_int (pv 1)) (pe_op op_modN (pe_callTy call_intM (by rfl) T.f_int (by decide +kernel) (pa_cons (pe_callB (call_sumM rfl) (by rfl) T.f_sum (by decide +kernel) (pa_cons (pe_slice sl_M (pv 0) po_none (po_some pe_int)) pa_nil)) pa_nil)) pe_int)))))

abbrev s_law_box : Stmt := top 27
theorem sc_law_box : FnScope ["great"] ["great"] (defScope s_law_box) := ⟨rfl, rfl, rfl, by decide +kernel, rfl, by decide +kernel, by decide +kernel⟩
theorem b_law_box : Plain "_law_box" s_law_box ["great"] := fun _ _ _ _ _ _ us hl => match us, hl with | [_], _ => rfl
def t_law_box (K : PySem.W.Frag) : TS := (tRet (tLst (tCons (tCB rAbs (tCons (tVar 0) tNil)) (tCons (tOp (rI0 fun i j => .bl (decide (j ≤ i))) (tCB rAbs (tCons (tVar 0) tNil)) (tOp (rI CPow fun i j => .int (i ^ j.toNat)) (tC (.int 10)) (tC (.int 18)))) (tCons (tOp (rI (fun _ j => j ≠ 0) fun i j => .int (i.fmod j)) (tCB rInt (tCons (tCB rAbs (tCons (tVar 0) tNil)) tNil)) (tC (.int 2147483629))) (tCons (tC (.int 0)) tNil))))))
theorem d_law_box {P : Program} {w : World} {K : PySem.W.Frag} {mg : Str → Option Value} {base : Heap} {k : Nat} (T : Top K w mg) {f : Addr} {cdv : Value} {A : Around} {outer : List Env} {s : Shared} {H : Hp} {E : XK} (hr : Room k (A.deeper (envOfC "_law_box" (defScope s_law_box) s.heap.objs.size f cdv))) : PSs (cxN P w K mg base ["great"] "_law_box" (defScope s_law_box) f cdv A outer s H E) (defBody s_law_box) (t_law_box K) :=
  (pss_one (ps_ret (pe_lst (pa_cons (pe_callB call_absM (by rfl) T.f_abs (by decide +kernel) (pa_cons (pv 0) pa_nil)) (pa_cons (pe_cmpR op_ge (pe_callB call_absM (by rfl) T.f_abs (by decide +kernel) (pa_cons (pv 0) pa_nil)) (pe_op op_pow pe_int pe_int) (nomark _)) (pa_cons (pe_op op_modN (pe_callTy call_intM (by rfl) T.f_int (by decide +kernel) (pa_cons (pe_callB call_absM (by rfl) T.f_abs (by decide +kernel) (pa_cons (pv 0) pa_nil)) pa_nil)) pe_int) (pa_cons pe_int pa_nil)))))))

abbrev s_law_take : Stmt := top 28
theorem sc_law_take : FnScope ["box", "many", "digit", "mixed"] ["box", "many"] (defScope s_law_take) := ⟨rfl, rfl, rfl, by decide +kernel, rfl, by decide +kernel, by decide +kernel⟩
theorem b_law_take : Plain "_law_take" s_law_take ["box", "many"] := fun _ _ _ _ _ _ us hl => match us, hl with | [_, _], _ => rfl
def t_law_take (K : PySem.W.Frag) : TS := (tSeq (tIfS (tAnd (tB (tOp rIxM (tVar 0) (tC (.int 1)))) (tTest (tOp (rI0 fun i j => .bl (decide (j < i))) (tOp rIxM (tVar 0) (tC (.int 0))) (tC (.int 0))))) (tSeq (tAsg (tOp (rI (fun _ j => j ≠ 0) fun i j => .int (i.fmod j)) (tCB rInt (tCons (tOp rIxM (tVar 0) (tC (.int 0))) tNil)) (tVar 1)) (gName 2)) (tSeq (tAsg (tOp (rI CDivN fun i j => .int (i.fdiv j)) (tCB rInt (tCons (tOp rIxM (tVar 0) (tC (.int 0))) tNil)) (tVar 1)) (gSub (tVar 0) (tC (.int 0)) rSetL)) (tRet (tVar 2)))) tNext) (tSeq (tAsg (tOp rAddM (tOp rIxM (tVar 0) (tC (.int 3))) (tC (.int 1))) (gSub (tVar 0) (tC (.int 3)) rSetL)) (tSeq (tAsg (tOp (rI (fun _ j => j ≠ 0) fun i j => .int (i.fmod j)) (tCB rInt (tCons (tOp (rI CPow fun i j => .int (i ^ j.toNat)) (tOp rAddM (tOp rAddM (tOp rIxM (tVar 0) (tC (.int 2))) (tOp (rI CMulW fun i j => .int (i * j)) (tC (.int 15487313)) (tOp rIxM (tVar 0) (tC (.int 3))))) (tC (.int 179426453))) (tC (.int 5))) tNil)) (tC (.int 2147483647))) (gName 3)) (tRet (tOp (rI (fun _ j => j ≠ 0) fun i j => .int (i.fmod j)) (tCB rInt (tCons (tOp (rI CDivN fun i j => .int (i.fdiv j)) (tOp (rI (fun _ j => j ≠ 0) fun i j => .int (i.fmod j)) (tCB rInt (tCons (tOp (rI CPow fun i j => .int (i ^ j.toNat)) (tOp rAddM (tOp (rI CMulW fun i j => .int (i * j)) (tVar 3) (tC (.int 48271))) (tOp (rI CMulW fun i j => .int (i * j)) (tC (.int 10103)) (tOp rIxM (tVar 0) (tC (.int 3))))) (tC (.int 3))) tNil)) (tC (.int 2147483587))) (tC (.int 64))) tNil)) (tVar 1))))))
theorem d_law_take {P : Program} {w : World} {K : PySem.W.Frag} {mg : Str → Option Value} {base : Heap} {k : Nat} (T : Top K w mg) {f : Addr} {cdv : Value} {A : Around} {outer : List Env} {s : Shared} {H : Hp} {E : XK} (hr : Room k (A.deeper (envOfC "_law_take" (defScope s_law_take) s.heap.objs.size f cdv))) : PSs (cxN P w K mg base ["box", "many", "digit", "mixed"] "_law_take" (defScope s_law_take) f cdv A outer s H E) (defBody s_law_take) (t_law_take K) :=
  (pss_cons (ps_if (PW.pt (pw_and (pt_val (pe_ix ix_M (pv 0) pe_int (fun _ _ => rfl))) (pw_and1 (pt_cmpR op_gt (pe_ix ix_M (pv 0) pe_int (fun _ _ => rfl)) pe_int (nomark _)))))
  (pss_cons (ps_set (i := 2) sc_law_take.nd rfl (.inl rfl) (pe_op op_modN (pe_callTy call_intM (by rfl) T.f_int (by decide +kernel) (pa_cons (pe_ix ix_M (pv 0) pe_int (fun _ _ => rfl)) pa_nil)) (pv 1)))
  (pss_cons (ps_asg (pe_op op_fdivN (pe_callTy call_intM (by rfl) T.f_int (by decide +kernel) (pa_cons (pe_ix ix_M (pv 0) pe_int (fun _ _ => rfl)) pa_nil)) (pv 1)) (pg_sub (pv 0) pe_int set_list))
  (pss_one (ps_ret (pv 2)))))
  pss_nil)
  (pss_cons (ps_asg (pe_op op_addM (pe_ix ix_M (pv 0) pe_int (fun _ _ => rfl)) pe_int) (pg_sub (pv 0) pe_int set_list))
  (pss_cons (ps_set (i := 3) sc_law_take.nd rfl (.inl rfl) (pe_op op_modN (pe_callTy call_intM (by rfl) T.f_int (by decide +kernel) (pa_cons (pe_op op_pow (pe_op op_addM (pe_op op_addM (pe_ix ix_M (pv 0) pe_int (fun _ _ => rfl)) (pe_op op_mulW pe_int (pe_ix ix_M (pv 0) pe_int (fun _ _ => rfl)))) pe_int) pe_int) pa_nil)) pe_int))
  (pss_one (ps_ret (pe_op op_modN (pe_callTy call_intM (by rfl) T.f_int (by decide +kernel) (pa_cons (pe_op op_fdivN (pe_op op_modN (pe_callTy call_intM (by rfl) T.f_int (by decide +kernel) (pa_cons (pe_op op_pow (pe_op op_addM (pe_op op_mulW (pv 3) pe_int) (pe_op op_mulW pe_int (pe_ix ix_M (pv 0) pe_int (fun _ _ => rfl)))) pe_int) pa_nil)) pe_int) pe_int) pa_nil)) (pv 1)))))))

abbrev s_law_same : Stmt := top 29
theorem sc_law_same : FnScope ["told", "due", "key", "k"] ["told", "due"] (defScope s_law_same) := ⟨rfl, rfl, rfl, by decide +kernel, rfl, by decide +kernel, by decide +kernel⟩
theorem b_law_same : Plain "_law_same" s_law_same ["told", "due"] := fun _ _ _ _ _ _ us hl => match us, hl with | [_, _], _ => rfl
def t_law_same (K : PySem.W.Frag) (sp_law_same : Sp) : TS := (tSeq (tIfS (tOr (tB (tIsN (tVar 1))) (tB (tIs .bl (tVar 1)))) (tRet (tIf (tB (tIsN (tVar 1))) (tIsN (tVar 0)) (tIf (tB (tVar 1)) (tOp rIsBM (tVar 0) (tC (.bl true))) (tOp rIsBM (tVar 0) (tC (.bl false)))))) tNext) (tSeq (tIfS (tB (tIs .int (tVar 1))) (tRet (tAndV (tIs .int (tVar 0)) (tAndV (tNotV (tIs .bl (tVar 0))) (tOp rEqM (tVar 0) (tVar 1))))) tNext) (tSeq (tIfS (tB (tIs .str (tVar 1))) (tRet (tAndV (tIs .str (tVar 0)) (tOp rEqM (tVar 0) (tVar 1)))) tNext) (tSeq (tIfS (tB (tIs .dct (tVar 1))) (tSeq (tIfS (tOr (tNot (tB (tIs .dct (tVar 0)))) (tTest (tOp rNeM (tCB rLenM2 (tCons (tVar 0) tNil)) (tCB rLenM2 (tCons (tVar 1) tNil))))) (tRet (tC (.bl false))) tNext) (tSeq (tLock (tFor (iKeys (tVar 1)) (gName 2) (tIfS (tOr (tB (tDNotIn (tVar 2) (tVar 0))) (tNot (tB (tFn sp_law_same (tCons (tDGet (tVar 0) (tVar 2)) (tCons (tDGet (tVar 1) (tVar 2)) tNil)))))) (tRet (tC (.bl false))) tNext))) (tRet (tC (.bl true))))) tNext) (tSeq (tIfS (tOr (tNot (tB (tIss [.lst, .tup] (tVar 1)))) (tOr (tNot (tB (tIss [.lst, .tup] (tVar 0)))) (tOr (tTest (tOp rNeM (tIs .lst (tVar 0)) (tIs .lst (tVar 1)))) (tTest (tOp rNeM (tCB rLenM2 (tCons (tVar 0) tNil)) (tCB rLenM2 (tCons (tVar 1) tNil))))))) (tRet (tC (.bl false))) tNext) (tSeq (tFor (iRng1 (tCons (tCB rLenM2 (tCons (tVar 1) tNil)) tNil)) (gName 3) (tIfS (tNot (tB (tFn sp_law_same (tCons (tOp rIxM (tVar 0) (tVar 3)) (tCons (tOp rIxM (tVar 1) (tVar 3)) tNil))))) (tRet (tC (.bl false))) tNext)) (tRet (tC (.bl true)))))))))
theorem d_law_same {P : Program} {w : World} {K : PySem.W.Frag} {mg : Str → Option Value} {base : Heap} {k : Nat} {k_law_same : Nat} {sp_law_same : Sp} (T : Top K w mg) (c_law_same : Cal P w K mg base k_law_same "_law_same" ["told", "due"] sp_law_same) (l_law_same : k_law_same ≤ k) {f : Addr} {cdv : Value} {A : Around} {outer : List Env} {s : Shared} {H : Hp} {E : XK} (hr : Room k (A.deeper (envOfC "_law_same" (defScope s_law_same) s.heap.objs.size f cdv))) : PSs (cxN P w K mg base ["told", "due", "key", "k"] "_law_same" (defScope s_law_same) f cdv A outer s H E) (defBody s_law_same) (t_law_same K sp_law_same) :=
  (pss_cons (ps_if (PW.pt (pw_or (pt_cmp (pc_isN (pv 1))) (pw_or1 (pt_val (xe_is .bl (pv 1) T.f_isinstance T.f_bool)))))
  (pss_one (ps_ret (pe_ifExp (pt_cmp (pc_isN (pv 1))) (pe_cmp (pc_isN (pv 0))) (pe_ifExp (pt_val (pv 1)) (pe_cmpR op_isBM (pv 0) pe_bl (nomark _)) (pe_cmpR op_isBM (pv 0) pe_bl (nomark _))))))
  pss_nil)
  (pss_cons (ps_if (pt_val (xe_is .int (pv 1) T.f_isinstance T.f_int))
  (pss_one (ps_ret (pe_and (xe_is .int (pv 0) T.f_isinstance T.f_int) (pe_and (pe_not (xe_is .bl (pv 0) T.f_isinstance T.f_bool)) (pe_one (pe_cmpR op_eqM (pv 0) (pv 1) (nomark _)))))))
  pss_nil)
  (pss_cons (ps_if (pt_val (xe_is .str (pv 1) T.f_isinstance T.f_str))
  (pss_one (ps_ret (pe_and (xe_is .str (pv 0) T.f_isinstance T.f_str) (pe_one (pe_cmpR op_eqM (pv 0) (pv 1) (nomark _))))))
  pss_nil)
  (pss_cons (ps_if (pt_val (xe_is .dct (pv 1) T.f_isinstance T.f_dict))
  (pss_cons (ps_if (PW.pt (pw_or (pt_not (pt_val (xe_is .dct (pv 0) T.f_isinstance T.f_dict))) (pw_or1 (pt_cmpR op_neM (pe_callB call_lenM2 (by rfl) T.f_len (by decide +kernel) (pa_cons (pv 0) pa_nil)) (pe_callB call_lenM2 (by rfl) T.f_len (by decide +kernel) (pa_cons (pv 1) pa_nil)) (nomark _)))))
  (pss_one (ps_ret pe_bl))
  pss_nil)
  (pss_cons (ps_lock (ps_for PassesOwn.never rfl (pi_keys (pv 1)) (pg_name (i := 2) sc_law_same.nd rfl (.inl rfl))
  (pss_one (ps_if (PW.pt (pw_or (pt_cmp (pc_dnotin (ru1 hr) (pv 2) (pv 0))) (pw_or1 (pt_not (pt_val (xe_call c_law_same hr l_law_same (pa_cons (pe_dget (ru1 hr) (pv 0) (pv 2) (fun _ _ => rfl)) (pa_cons (pe_dget (ru1 hr) (pv 1) (pv 2) (fun _ _ => rfl)) pa_nil))))))))
  (pss_one (ps_ret pe_bl))
  pss_nil))))
  (pss_one (ps_ret pe_bl))))
  pss_nil)
  (pss_cons (ps_if (PW.pt (pw_or (pt_not (pt_val (xe_iss [.lst, .tup] (pv 1) T.f_isinstance (.cons T.f_list rfl (by decide +kernel) (by decide) (by decide) rfl (.cons T.f_tuple rfl (by decide +kernel) (by decide) (by decide) rfl .nil)) (by decide)))) (pw_or (pt_not (pt_val (xe_iss [.lst, .tup] (pv 0) T.f_isinstance (.cons T.f_list rfl (by decide +kernel) (by decide) (by decide) rfl (.cons T.f_tuple rfl (by decide +kernel) (by decide) (by decide) rfl .nil)) (by decide)))) (pw_or (pt_cmpR op_neM (xe_is .lst (pv 0) T.f_isinstance T.f_list) (xe_is .lst (pv 1) T.f_isinstance T.f_list) (nomark _)) (pw_or1 (pt_cmpR op_neM (pe_callB call_lenM2 (by rfl) T.f_len (by decide +kernel) (pa_cons (pv 0) pa_nil)) (pe_callB call_lenM2 (by rfl) T.f_len (by decide +kernel) (pa_cons (pv 1) pa_nil)) (nomark _)))))))
  (pss_one (ps_ret pe_bl))
  pss_nil)
  (pss_cons (ps_for PassesOwn.never rfl (pi_range1 (by rfl) T.f_range (pa_cons (pe_callB call_lenM2 (by rfl) T.f_len (by decide +kernel) (pa_cons (pv 1) pa_nil)) pa_nil)) (pg_name (i := 3) sc_law_same.nd rfl (.inl rfl))
  (pss_one (ps_if (pt_not (pt_val (xe_call c_law_same hr l_law_same (pa_cons (pe_ix ix_M (pv 0) (pv 3) (fun _ _ => rfl)) (pa_cons (pe_ix ix_M (pv 1) (pv 3) (fun _ _ => rfl)) pa_nil)))))
  (pss_one (ps_ret pe_bl))
  pss_nil)))
  (pss_one (ps_ret pe_bl))))))))

end K56
set_option Elab.async false
set_option linter.all false
set_option maxRecDepth 100000
set_option maxHeartbeats 4000000
namespace K56
open PySem PySem.Spec PyProof.Rows L2 MT
open SX (S)
abbrev s_law_value_text : Stmt := top 30
theorem sc_law_value_text : FnScope ["value", "waits", "found", "one", "done", "item", "parts"] ["value"] (defScope s_law_value_text) := ⟨rfl, rfl, rfl, by decide +kernel, rfl, by decide +kernel, by decide +kernel⟩
theorem b_law_value_text : Plain "_law_value_text" s_law_value_text ["value"] := fun _ _ _ _ _ _ us hl => match us, hl with | [_], _ => rfl
def t_law_value_text (K : PySem.W.Frag) : TS := (tSeq (tPar 1 2 (tCons (tLst (tCons (tTup (tCons (tVar 0) (tCons (tC (.bl false)) tNil))) tNil)) (tCons (tLst tNil) tNil))) (tSeq (tWhile (tB (tEqNil true (tVar 1))) (tSeq (tAsg (tBM0 K "list" rPopM (tVar 1)) (gTup K 2 (gCons (gName 3) (gCons (gName 4) gNil)))) (tIfS (tNot (tB (tIss [.lst, .tup] (tVar 3)))) (tDrop (tBM K "list" rAppendM (tVar 2) (tCons (tIf (tTest (tOp rIsBM (tVar 3) (tC (.bl true)))) (tC (.str (S [43]))) (tIf (tTest (tOp rIsBM (tVar 3) (tC (.bl false)))) (tC (.str (S [45]))) (tCB rStrI (tCons (tVar 3) tNil)))) tNil))) (tIfS (tNot (tB (tVar 4))) (tSeq (tDrop (tBM K "list" rAppendM (tVar 1) (tCons (tTup (tCons (tVar 3) (tCons (tC (.bl true)) tNil))) tNil))) (tDrop (tBM K "list" rExtendM (tVar 1) (tCons (tLc (iSq K (tRevL K (tCB rListM (tCons (tVar 3) tNil)))) (gName 5) tYes (tTup (tCons (tVar 5) (tCons (tC (.bl false)) tNil))) [5]) tNil)))) (tSeq (tAsg (tSl rSlM (tVar 2) (tPart (tOp (rI0 fun i j => .int (i - j)) (tCB rLenM (tCons (tVar 2) tNil)) (tCB rLenM (tCons (tVar 3) tNil)))) tNoPart) (gName 6)) (tSeq (tAsg (tSl rSlM (tVar 2) tNoPart (tPart (tOp (rI0 fun i j => .int (i - j)) (tCB rLenM (tCons (tVar 2) tNil)) (tCB rLenM (tCons (tVar 3) tNil))))) (gName 2)) (tDrop (tBM K "list" rAppendM (tVar 2) (tCons (tOp rAddM (tOp rAddM (tIf (tB (tIs .tup (tVar 3))) (tC (.str (S [40]))) (tC (.str (S [91])))) (tBM K "str" rJoinM (tC (.str (S [44, 32]))) (tCons (tVar 6) tNil))) (tIf (tB (tIs .tup (tVar 3))) (tC (.str (S [41]))) (tC (.str (S [93]))))) tNil))))))))) (tRet (tOp rIxM (tVar 2) (tC (.int 0))))))
theorem d_law_value_text {P : Program} {w : World} {K : PySem.W.Frag} {mg : Str → Option Value} {base : Heap} {k : Nat} (T : Top K w mg) {f : Addr} {cdv : Value} {A : Around} {outer : List Env} {s : Shared} {H : Hp} {E : XK} (hr : Room k (A.deeper (envOfC "_law_value_text" (defScope s_law_value_text) s.heap.objs.size f cdv))) : PSs (cxN P w K mg base ["value", "waits", "found", "one", "done", "item", "parts"] "_law_value_text" (defScope s_law_value_text) f cdv A outer s H E) (defBody s_law_value_text) (t_law_value_text K) :=
  (pss_cons (ps_par (i := 1) (j := 2) rfl sc_law_value_text.nd rfl rfl (by decide) rfl rfl (pa_cons (pe_lst (pa_cons (pe_tup (pa_cons (pv 0) (pa_cons pe_bl pa_nil))) pa_nil)) (pa_cons (pe_lst pa_nil) pa_nil)) (by rfl))
  (pss_cons (ps_while PassesOwn.never (xt_neNil (pv 1) hr.units0)
  (pss_cons (ps_asg (pe_bm0 PySem.F.plainAttrs_list PySem.F.slot_list_pop PySem.F.type_list_pop mt_popM (pv 1)) (pg_tup rfl (pgs_cons (pg_name (i := 3) sc_law_value_text.nd rfl (.inl rfl)) (pgs_cons (pg_name (i := 4) sc_law_value_text.nd rfl (.inl rfl)) pgs_nil))))
  (pss_one (ps_if (pt_not (pt_val (xe_iss [.lst, .tup] (pv 3) T.f_isinstance (.cons T.f_list rfl (by decide +kernel) (by decide) (by decide) rfl (.cons T.f_tuple rfl (by decide +kernel) (by decide) (by decide) rfl .nil)) (by decide))))
  (pss_one (ps_expr (pe_bm PySem.F.plainAttrs_list PySem.F.slot_list_append PySem.F.type_list_append mt_appendM (pv 2) (pa_cons (pe_ifExp (pt_cmpR op_isBM (pv 3) pe_bl (nomark _)) (xe_str (by decide +kernel)) (pe_ifExp (pt_cmpR op_isBM (pv 3) pe_bl (nomark _)) (xe_str (by decide +kernel)) (pe_callTy call_strM (by rfl) T.f_str (by decide +kernel) (pa_cons (pv 3) pa_nil)))) pa_nil))))
  (pss_one (ps_if (pt_not (pt_val (pv 4)))
  (pss_cons (ps_expr (pe_bm PySem.F.plainAttrs_list PySem.F.slot_list_append PySem.F.type_list_append mt_appendM (pv 1) (pa_cons (pe_tup (pa_cons (pv 3) (pa_cons pe_bl pa_nil))) pa_nil)))
  (pss_one (ps_expr (pe_bm PySem.F.plainAttrs_list PySem.F.slot_list_extend PySem.F.type_list_extend mt_extendM (pv 1) (pa_cons (pe_lc (own := [("item", 5)]) (g := (gName 5)) (tt := tYes) rfl sc_law_value_text.nd (pi_sq (pe_revL (pe_callTy call_listM (by rfl) T.f_list (by decide +kernel) (pa_cons (pv 3) pa_nil)))) (blkOk_by (own := [("item", 5)]) (N := ["value", "waits", "found", "one", "done", "item", "parts"]) (sc := defScope s_law_value_text) (by decide +kernel)) (fun _ _ _ _ _ => (pg_name (i := 5) sc_law_value_text.nd rfl (Or.inl rfl))) (fun _ _ _ _ _ => pts_nil) (fun _ _ _ _ _ => (pe_tup (pa_cons (pv 5) (pa_cons pe_bl pa_nil))))) pa_nil)))))
  (pss_cons (ps_set (i := 6) sc_law_value_text.nd rfl (.inl rfl) (pe_slice sl_M (pv 2) (po_some (pe_op op_sub (pe_callB call_lenM (by rfl) T.f_len (by decide +kernel) (pa_cons (pv 2) pa_nil)) (pe_callB call_lenM (by rfl) T.f_len (by decide +kernel) (pa_cons (pv 3) pa_nil)))) po_none))
  (pss_cons (ps_set (i := 2) sc_law_value_text.nd rfl (.inl rfl) (pe_slice sl_M (pv 2) po_none (po_some (pe_op op_sub (pe_callB call_lenM (by rfl) T.f_len (by decide +kernel) (pa_cons (pv 2) pa_nil)) (pe_callB call_lenM (by rfl) T.f_len (by decide +kernel) (pa_cons (pv 3) pa_nil))))))
  (pss_one (ps_expr (pe_bm PySem.F.plainAttrs_list PySem.F.slot_list_append PySem.F.type_list_append mt_appendM (pv 2) (pa_cons (pe_op op_addM (pe_op op_addM (pe_ifExp (pt_val (xe_is .tup (pv 3) T.f_isinstance T.f_tuple)) (xe_str (by decide +kernel)) (xe_str (by decide +kernel))) (pe_bm PySem.F.plainAttrs_str PySem.F.slot_str_join PySem.F.type_str_join mt_joinM (xe_str (by decide +kernel)) (pa_cons (pv 6) pa_nil))) (pe_ifExp (pt_val (xe_is .tup (pv 3) T.f_isinstance T.f_tuple)) (xe_str (by decide +kernel)) (xe_str (by decide +kernel)))) pa_nil))))))))))))
  (pss_one (ps_ret (pe_ix ix_M (pv 2) pe_int (fun _ _ => rfl))))))

abbrev s_law_alike : Stmt := top 31
theorem sc_law_alike : FnScope ["one", "other", "waits", "a", "b", "x", "y"] ["one", "other"] (defScope s_law_alike) := ⟨rfl, rfl, rfl, by decide +kernel, rfl, by decide +kernel, by decide +kernel⟩
theorem b_law_alike : Plain "_law_alike" s_law_alike ["one", "other"] := fun _ _ _ _ _ _ us hl => match us, hl with | [_, _], _ => rfl
def t_law_alike (K : PySem.W.Frag) (sp_law_same : Sp) : TS := (tSeq (tAsg (tLst (tCons (tTup (tCons (tVar 0) (tCons (tVar 1) tNil))) tNil)) (gName 2)) (tSeq (tWhile (tB (tEqNil true (tVar 2))) (tSeq (tAsg (tBM0 K "list" rPopM (tVar 2)) (gTup K 2 (gCons (gName 3) (gCons (gName 4) gNil)))) (tIfS (tB (tIss [.lst, .tup] (tVar 4))) (tSeq (tIfS (tOr (tTest (tOp rNeM (tIs .lst (tVar 3)) (tIs .lst (tVar 4)))) (tOr (tTest (tOp rNeM (tIs .tup (tVar 3)) (tIs .tup (tVar 4)))) (tTest (tOp rNeM (tCB rLenM (tCons (tVar 3) tNil)) (tCB rLenM (tCons (tVar 4) tNil)))))) (tRet (tC (.bl false))) tNext) (tDrop (tBM K "list" rExtendM (tVar 2) (tCons (tLc (RZ.iZipA K (tCons (tVar 3) (tCons (tVar 4) tNil))) (gTup K 2 (gCons (gName 5) (gCons (gName 6) gNil))) tYes (tTup (tCons (tVar 5) (tCons (tVar 6) tNil))) [5, 6]) tNil)))) (tIfS (tNot (tB (tFn sp_law_same (tCons (tVar 3) (tCons (tVar 4) tNil))))) (tRet (tC (.bl false))) tNext)))) (tRet (tC (.bl true)))))
theorem d_law_alike {P : Program} {w : World} {K : PySem.W.Frag} {mg : Str → Option Value} {base : Heap} {k : Nat} {k_law_same : Nat} {sp_law_same : Sp} (T : Top K w mg) (c_law_same : Cal P w K mg base k_law_same "_law_same" ["told", "due"] sp_law_same) (l_law_same : k_law_same ≤ k) {f : Addr} {cdv : Value} {A : Around} {outer : List Env} {s : Shared} {H : Hp} {E : XK} (hr : Room k (A.deeper (envOfC "_law_alike" (defScope s_law_alike) s.heap.objs.size f cdv))) : PSs (cxN P w K mg base ["one", "other", "waits", "a", "b", "x", "y"] "_law_alike" (defScope s_law_alike) f cdv A outer s H E) (defBody s_law_alike) (t_law_alike K sp_law_same) :=
  (pss_cons (ps_set (i := 2) sc_law_alike.nd rfl (.inl rfl) (pe_lst (pa_cons (pe_tup (pa_cons (pv 0) (pa_cons (pv 1) pa_nil))) pa_nil)))
  (pss_cons (ps_while PassesOwn.never (xt_neNil (pv 2) hr.units0)
  (pss_cons (ps_asg (pe_bm0 PySem.F.plainAttrs_list PySem.F.slot_list_pop PySem.F.type_list_pop mt_popM (pv 2)) (pg_tup rfl (pgs_cons (pg_name (i := 3) sc_law_alike.nd rfl (.inl rfl)) (pgs_cons (pg_name (i := 4) sc_law_alike.nd rfl (.inl rfl)) pgs_nil))))
  (pss_one (ps_if (pt_val (xe_iss [.lst, .tup] (pv 4) T.f_isinstance (.cons T.f_list rfl (by decide +kernel) (by decide) (by decide) rfl (.cons T.f_tuple rfl (by decide +kernel) (by decide) (by decide) rfl .nil)) (by decide)))
  (pss_cons (ps_if (PW.pt (pw_or (pt_cmpR op_neM (xe_is .lst (pv 3) T.f_isinstance T.f_list) (xe_is .lst (pv 4) T.f_isinstance T.f_list) (nomark _)) (pw_or (pt_cmpR op_neM (xe_is .tup (pv 3) T.f_isinstance T.f_tuple) (xe_is .tup (pv 4) T.f_isinstance T.f_tuple) (nomark _)) (pw_or1 (pt_cmpR op_neM (pe_callB call_lenM (by rfl) T.f_len (by decide +kernel) (pa_cons (pv 3) pa_nil)) (pe_callB call_lenM (by rfl) T.f_len (by decide +kernel) (pa_cons (pv 4) pa_nil)) (nomark _))))))
  (pss_one (ps_ret pe_bl))
  pss_nil)
  (pss_one (ps_expr (pe_bm PySem.F.plainAttrs_list PySem.F.slot_list_extend PySem.F.type_list_extend mt_extendM (pv 2) (pa_cons (pe_lc (own := [("x", 5), ("y", 6)]) (g := (gTup K 2 (gCons (gName 5) (gCons (gName 6) gNil)))) (tt := tYes) rfl sc_law_alike.nd (RZ.pi_zipA (by rfl) T.f_zip (pa_cons (pv 3) (pa_cons (pv 4) pa_nil))) (blkOk_by (own := [("x", 5), ("y", 6)]) (N := ["one", "other", "waits", "a", "b", "x", "y"]) (sc := defScope s_law_alike) (by decide +kernel)) (fun _ _ _ _ _ => (pg_tup rfl (pgs_cons (pg_name (i := 5) sc_law_alike.nd rfl (.inl rfl)) (pgs_cons (pg_name (i := 6) sc_law_alike.nd rfl (.inl rfl)) pgs_nil)))) (fun _ _ _ _ _ => pts_nil) (fun _ _ _ _ _ => (pe_tup (pa_cons (pv 5) (pa_cons (pv 6) pa_nil))))) pa_nil)))))
  (pss_one (ps_if (pt_not (pt_val (xe_call c_law_same hr l_law_same (pa_cons (pv 3) (pa_cons (pv 4) pa_nil)))))
  (pss_one (ps_ret pe_bl))
  pss_nil))))))
  (pss_one (ps_ret pe_bl))))

abbrev s_law_word : Stmt := top 32
theorem sc_law_word : FnScope ["box", "k"] ["box"] (defScope s_law_word) := ⟨rfl, rfl, rfl, by decide +kernel, rfl, by decide +kernel, by decide +kernel⟩
theorem b_law_word : Plain "_law_word" s_law_word ["box"] := fun _ _ _ _ _ _ us hl => match us, hl with | [_], _ => rfl
def t_law_word (K : PySem.W.Frag) (sp_law_take : Sp) : TS := (tRet (tBM K "str" rJoinM (tC (.str (S []))) (tCons (tLc (iRng1 (tCons (tOp rAddM (tC (.int 1)) (tFn sp_law_take (tCons (tVar 0) (tCons (tC (.int 12)) tNil)))) tNil)) (gName 1) tYes (tOp rIxM (tC (.str (S [97, 98, 99, 100, 101, 102, 103, 104, 105, 106, 107, 108, 109, 110, 111, 112, 113, 114, 115, 116, 117, 118, 119, 120, 121, 122]))) (tFn sp_law_take (tCons (tVar 0) (tCons (tC (.int 26)) tNil)))) [1]) tNil)))
theorem d_law_word {P : Program} {w : World} {K : PySem.W.Frag} {mg : Str → Option Value} {base : Heap} {k : Nat} {k_law_take : Nat} {sp_law_take : Sp} (T : Top K w mg) (c_law_take : Cal P w K mg base k_law_take "_law_take" ["box", "many"] sp_law_take) (l_law_take : k_law_take ≤ k) {f : Addr} {cdv : Value} {A : Around} {outer : List Env} {s : Shared} {H : Hp} {E : XK} (hr : Room k (A.deeper (envOfC "_law_word" (defScope s_law_word) s.heap.objs.size f cdv))) : PSs (cxN P w K mg base ["box", "k"] "_law_word" (defScope s_law_word) f cdv A outer s H E) (defBody s_law_word) (t_law_word K sp_law_take) :=
  (pss_one (ps_ret (pe_bm PySem.F.plainAttrs_str PySem.F.slot_str_join PySem.F.type_str_join mt_joinM (xe_str (by decide +kernel)) (pa_cons (pe_lc (own := [("k", 1)]) (g := (gName 1)) (tt := tYes) rfl sc_law_word.nd (pi_range1 (by rfl) T.f_range (pa_cons (pe_op op_addM pe_int (xe_call c_law_take hr l_law_take (pa_cons (pv 0) (pa_cons pe_int pa_nil)))) pa_nil)) (blkOk_by (own := [("k", 1)]) (N := ["box", "k"]) (sc := defScope s_law_word) (by decide +kernel)) (fun _ _ _ _ _ => (pg_name (i := 1) sc_law_word.nd rfl (Or.inl rfl))) (fun _ _ _ _ _ => pts_nil) (fun _ _ _ _ _ => (pe_ix ix_M (xe_str (by decide +kernel)) (xe_call c_law_take hr l_law_take (pa_cons (pv 0) (pa_cons pe_int pa_nil))) (fun _ _ => rfl)))) pa_nil))))

abbrev s_law_leaf : Stmt := top 33
theorem sc_law_leaf : FnScope ["box", "way"] ["box"] (defScope s_law_leaf) := ⟨rfl, rfl, rfl, by decide +kernel, rfl, by decide +kernel, by decide +kernel⟩
theorem b_law_leaf : Plain "_law_leaf" s_law_leaf ["box"] := fun _ _ _ _ _ _ us hl => match us, hl with | [_], _ => rfl
def t_law_leaf (K : PySem.W.Frag) (sp_law_take : Sp) (sp_law_word : Sp) : TS := (tSeq (tAsg (tFn sp_law_take (tCons (tVar 0) (tCons (tC (.int 6)) tNil))) (gName 1)) (tSeq (tIfS (tTest (tOp (rI0 fun i j => .bl (decide (i < j))) (tVar 1) (tC (.int 2)))) (tRet (tOp rIxM (tLst (tCons (tC (.int 0)) (tCons (tC (.int 7)) (tCons (tC (.int 10)) (tCons (tOp rAddM (tC (.int 9)) (tFn sp_law_take (tCons (tVar 0) (tCons (tC (.int 999)) tNil)))) (tCons (tOp (rI0 fun i j => .int (i - j)) (tOp (rI0 fun i j => .int (i - j)) (tOp (rI CPow fun i j => .int (i ^ j.toNat)) (tC (.int 10)) (tC (.int 20))) (tC (.int 1))) (tFn sp_law_take (tCons (tVar 0) (tCons (tC (.int 3)) tNil)))) (tCons (tOp (rI CPow fun i j => .int (i ^ j.toNat)) (tC (.int 10)) (tC (.int 19))) tNil))))))) (tFn sp_law_take (tCons (tVar 0) (tCons (tC (.int 6)) tNil))))) tNext) (tRet (tIf (tTest (tOp rEqM (tVar 1) (tC (.int 2)))) (tOp rEqM (tFn sp_law_take (tCons (tVar 0) (tCons (tC (.int 2)) tNil))) (tC (.int 0))) (tFn sp_law_word (tCons (tVar 0) tNil))))))
theorem d_law_leaf {P : Program} {w : World} {K : PySem.W.Frag} {mg : Str → Option Value} {base : Heap} {k : Nat} {k_law_take : Nat} {sp_law_take : Sp} {k_law_word : Nat} {sp_law_word : Sp} (T : Top K w mg) (c_law_take : Cal P w K mg base k_law_take "_law_take" ["box", "many"] sp_law_take) (l_law_take : k_law_take ≤ k) (c_law_word : Cal P w K mg base k_law_word "_law_word" ["box"] sp_law_word) (l_law_word : k_law_word ≤ k) {f : Addr} {cdv : Value} {A : Around} {outer : List Env} {s : Shared} {H : Hp} {E : XK} (hr : Room k (A.deeper (envOfC "_law_leaf" (defScope s_law_leaf) s.heap.objs.size f cdv))) : PSs (cxN P w K mg base ["box", "way"] "_law_leaf" (defScope s_law_leaf) f cdv A outer s H E) (defBody s_law_leaf) (t_law_leaf K sp_law_take sp_law_word) :=
  (pss_cons (ps_set (i := 1) sc_law_leaf.nd rfl (.inl rfl) (xe_call c_law_take hr l_law_take (pa_cons (pv 0) (pa_cons pe_int pa_nil))))
  (pss_cons (ps_if (pt_cmpR op_lt (pv 1) pe_int (nomark _))
  (pss_one (ps_ret (pe_ix ix_M (pe_lst (pa_cons pe_int (pa_cons pe_int (pa_cons pe_int (pa_cons (pe_op op_addM pe_int (xe_call c_law_take hr l_law_take (pa_cons (pv 0) (pa_cons pe_int pa_nil)))) (pa_cons (pe_op op_sub (pe_op op_sub (pe_op op_pow pe_int pe_int) pe_int) (xe_call c_law_take hr l_law_take (pa_cons (pv 0) (pa_cons pe_int pa_nil)))) (pa_cons (pe_op op_pow pe_int pe_int) pa_nil))))))) (xe_call c_law_take hr l_law_take (pa_cons (pv 0) (pa_cons pe_int pa_nil))) (fun _ _ => rfl))))
  pss_nil)
  (pss_one (ps_ret (pe_ifExp (pt_cmpR op_eqM (pv 1) pe_int (nomark _)) (pe_cmpR op_eqM (xe_call c_law_take hr l_law_take (pa_cons (pv 0) (pa_cons pe_int pa_nil))) pe_int (nomark _)) (xe_call c_law_word hr l_law_word (pa_cons (pv 0) pa_nil)))))))

abbrev s_law_value : Stmt := top 34
theorem sc_law_value : FnScope ["box", "row", "k", "turn", "cut", "many", "some", "part"] ["box"] (defScope s_law_value) := ⟨rfl, rfl, rfl, by decide +kernel, rfl, by decide +kernel, by decide +kernel⟩
theorem b_law_value : Plain "_law_value" s_law_value ["box"] := fun _ _ _ _ _ _ us hl => match us, hl with | [_], _ => rfl
def t_law_value (K : PySem.W.Frag) (sp_law_take : Sp) (sp_law_leaf : Sp) : TS := (tSeq (tAsg (tLc (iRng1 (tCons (tOp rAddM (tC (.int 1)) (tFn sp_law_take (tCons (tVar 0) (tCons (tC (.int 6)) tNil)))) tNil)) (gName 2) tYes (tFn sp_law_leaf (tCons (tVar 0) tNil)) [2]) (gName 1)) (tSeq (tFor (iRng1 (tCons (tFn sp_law_take (tCons (tVar 0) (tCons (tC (.int 5)) tNil))) tNil)) (gName 3) (tSeq (tPar 4 5 (tCons (tFn sp_law_take (tCons (tVar 0) (tCons (tCB rLenM (tCons (tVar 1) tNil)) tNil))) (tCons (tOp rAddM (tC (.int 1)) (tFn sp_law_take (tCons (tVar 0) (tCons (tC (.int 3)) tNil)))) tNil))) (tSeq (tAsg (tSl rSlM (tVar 1) (tPart (tVar 4)) (tPart (tOp rAddM (tVar 4) (tVar 5)))) (gName 6)) (tSeq (tAsg (tOp rIxM (tLst (tCons (tCB rTupM (tCons (tVar 6) tNil)) (tCons (tCB rListM (tCons (tVar 6) tNil)) (tCons (tTup tNil) (tCons (tLst tNil) (tCons (tTup (tCons (tCB rListM (tCons (tVar 6) tNil)) tNil)) (tCons (tLst (tCons (tCB rTupM (tCons (tVar 6) tNil)) tNil)) tNil))))))) (tFn sp_law_take (tCons (tVar 0) (tCons (tC (.int 6)) tNil)))) (gName 7)) (tAsg (tOp rAddM (tOp rAddM (tSl rSlM (tVar 1) tNoPart (tPart (tVar 4))) (tLst (tCons (tVar 7) tNil))) (tSl rSlM (tVar 1) (tPart (tOp rAddM (tVar 4) (tVar 5))) tNoPart)) (gName 1)))))) (tRet (tIf (tTest (tOp rEqM (tCB rLenM (tCons (tVar 1) tNil)) (tC (.int 1)))) (tOp rIxM (tVar 1) (tC (.int 0))) (tIf (tTest (tOp rEqM (tFn sp_law_take (tCons (tVar 0) (tCons (tC (.int 2)) tNil))) (tC (.int 0)))) (tCB rTupM (tCons (tVar 1) tNil)) (tVar 1))))))
theorem d_law_value {P : Program} {w : World} {K : PySem.W.Frag} {mg : Str → Option Value} {base : Heap} {k : Nat} {k_law_take : Nat} {sp_law_take : Sp} {k_law_leaf : Nat} {sp_law_leaf : Sp} (T : Top K w mg) (c_law_take : Cal P w K mg base k_law_take "_law_take" ["box", "many"] sp_law_take) (l_law_take : k_law_take ≤ k) (c_law_leaf : Cal P w K mg base k_law_leaf "_law_leaf" ["box"] sp_law_leaf) (l_law_leaf : k_law_leaf ≤ k) {f : Addr} {cdv : Value} {A : Around} {outer : List Env} {s : Shared} {H : Hp} {E : XK} (hr : Room k (A.deeper (envOfC "_law_value" (defScope s_law_value) s.heap.objs.size f cdv))) : PSs (cxN P w K mg base ["box", "row", "k", "turn", "cut", "many", "some", "part"] "_law_value" (defScope s_law_value) f cdv A outer s H E) (defBody s_law_value) (t_law_value K sp_law_take sp_law_leaf) :=
  (pss_cons (ps_setLc (i := 1) (own := [("k", 2)]) (g := (gName 2)) (tt := tYes) rfl sc_law_value.nd rfl rfl (sw_true rfl rfl rfl (by decide +kernel)) (pi_range1 (by rfl) T.f_range (pa_cons (pe_op op_addM pe_int (xe_call c_law_take hr l_law_take (pa_cons (pv 0) (pa_cons pe_int pa_nil)))) pa_nil)) (blkOk_by (own := [("k", 2)]) (N := ["box", "row", "k", "turn", "cut", "many", "some", "part"]) (sc := defScope s_law_value) (by decide +kernel)) (fun _ _ _ _ _ => (pg_name (i := 2) sc_law_value.nd rfl (Or.inl rfl))) (fun _ _ _ _ _ => pts_nil) (fun _ _ _ _ _ => (xe_call c_law_leaf hr l_law_leaf (pa_cons (pv 0) pa_nil))))
  (pss_cons (ps_for PassesOwn.never rfl (pi_range1 (by rfl) T.f_range (pa_cons (xe_call c_law_take hr l_law_take (pa_cons (pv 0) (pa_cons pe_int pa_nil))) pa_nil)) (pg_name (i := 3) sc_law_value.nd rfl (.inl rfl))
  (pss_cons (ps_par (i := 4) (j := 5) rfl sc_law_value.nd rfl rfl (by decide) rfl rfl (pa_cons (xe_call c_law_take hr l_law_take (pa_cons (pv 0) (pa_cons (pe_callB call_lenM (by rfl) T.f_len (by decide +kernel) (pa_cons (pv 1) pa_nil)) pa_nil))) (pa_cons (pe_op op_addM pe_int (xe_call c_law_take hr l_law_take (pa_cons (pv 0) (pa_cons pe_int pa_nil)))) pa_nil)) (by rfl))
  (pss_cons (ps_set (i := 6) sc_law_value.nd rfl (.inl rfl) (pe_slice sl_M (pv 1) (po_some (pv 4)) (po_some (pe_op op_addM (pv 4) (pv 5)))))
  (pss_cons (ps_set (i := 7) sc_law_value.nd rfl (.inl rfl) (pe_ix ix_M (pe_lst (pa_cons (pe_callTy call_tupM (by rfl) T.f_tuple (by decide +kernel) (pa_cons (pv 6) pa_nil)) (pa_cons (pe_callTy call_listM (by rfl) T.f_list (by decide +kernel) (pa_cons (pv 6) pa_nil)) (pa_cons (pe_tup pa_nil) (pa_cons (pe_lst pa_nil) (pa_cons (pe_tup (pa_cons (pe_callTy call_listM (by rfl) T.f_list (by decide +kernel) (pa_cons (pv 6) pa_nil)) pa_nil)) (pa_cons (pe_lst (pa_cons (pe_callTy call_tupM (by rfl) T.f_tuple (by decide +kernel) (pa_cons (pv 6) pa_nil)) pa_nil)) pa_nil))))))) (xe_call c_law_take hr l_law_take (pa_cons (pv 0) (pa_cons pe_int pa_nil))) (fun _ _ => rfl)))
  (pss_one (ps_set (i := 1) sc_law_value.nd rfl (.inl rfl) (pe_op op_addM (pe_op op_addM (pe_slice sl_M (pv 1) po_none (po_some (pv 4))) (pe_lst (pa_cons (pv 7) pa_nil))) (pe_slice sl_M (pv 1) (po_some (pe_op op_addM (pv 4) (pv 5))) po_none))))))))
  (pss_one (ps_ret (pe_ifExp (pt_cmpR op_eqM (pe_callB call_lenM (by rfl) T.f_len (by decide +kernel) (pa_cons (pv 1) pa_nil)) pe_int (nomark _)) (pe_ix ix_M (pv 1) pe_int (fun _ _ => rfl)) (pe_ifExp (pt_cmpR op_eqM (xe_call c_law_take hr l_law_take (pa_cons (pv 0) (pa_cons pe_int pa_nil))) pe_int (nomark _)) (pe_callTy call_tupM (by rfl) T.f_tuple (by decide +kernel) (pa_cons (pv 1) pa_nil)) (pv 1)))))))

abbrev s_law_deep : Stmt := top 35
theorem sc_law_deep : FnScope ["box", "many", "found", "turn"] ["box", "many"] (defScope s_law_deep) := ⟨rfl, rfl, rfl, by decide +kernel, rfl, by decide +kernel, by decide +kernel⟩
theorem b_law_deep : Plain "_law_deep" s_law_deep ["box", "many"] := fun _ _ _ _ _ _ us hl => match us, hl with | [_, _], _ => rfl
def t_law_deep (K : PySem.W.Frag) (sp_law_take : Sp) : TS := (tSeq (tAsg (tOp rIxM (tLst (tCons (tTup tNil) (tCons (tLst tNil) (tCons (tC (.int 5)) (tCons (tC (.str (S [97]))) tNil))))) (tFn sp_law_take (tCons (tVar 0) (tCons (tC (.int 2)) tNil)))) (gName 2)) (tSeq (tFor (iRng1 (tCons (tOp (rI0 fun i j => .int (i - j)) (tVar 1) (tC (.int 1))) tNil)) (gName 3) (tAsg (tIf (tTest (tOp rEqM (tFn sp_law_take (tCons (tVar 0) (tCons (tC (.int 2)) tNil))) (tC (.int 0)))) (tTup (tCons (tVar 2) tNil)) (tLst (tCons (tVar 2) (tCons (tVar 3) tNil)))) (gName 2))) (tRet (tVar 2))))
theorem d_law_deep {P : Program} {w : World} {K : PySem.W.Frag} {mg : Str → Option Value} {base : Heap} {k : Nat} {k_law_take : Nat} {sp_law_take : Sp} (T : Top K w mg) (c_law_take : Cal P w K mg base k_law_take "_law_take" ["box", "many"] sp_law_take) (l_law_take : k_law_take ≤ k) {f : Addr} {cdv : Value} {A : Around} {outer : List Env} {s : Shared} {H : Hp} {E : XK} (hr : Room k (A.deeper (envOfC "_law_deep" (defScope s_law_deep) s.heap.objs.size f cdv))) : PSs (cxN P w K mg base ["box", "many", "found", "turn"] "_law_deep" (defScope s_law_deep) f cdv A outer s H E) (defBody s_law_deep) (t_law_deep K sp_law_take) :=
  (pss_cons (ps_set (i := 2) sc_law_deep.nd rfl (.inl rfl) (pe_ix ix_M (pe_lst (pa_cons (pe_tup pa_nil) (pa_cons (pe_lst pa_nil) (pa_cons pe_int (pa_cons (xe_str (by decide +kernel)) pa_nil))))) (xe_call c_law_take hr l_law_take (pa_cons (pv 0) (pa_cons pe_int pa_nil))) (fun _ _ => rfl)))
  (pss_cons (ps_for PassesOwn.never rfl (pi_range1 (by rfl) T.f_range (pa_cons (pe_op op_sub (pv 1) pe_int) pa_nil)) (pg_name (i := 3) sc_law_deep.nd rfl (.inl rfl))
  (pss_one (ps_set (i := 2) sc_law_deep.nd rfl (.inl rfl) (pe_ifExp (pt_cmpR op_eqM (xe_call c_law_take hr l_law_take (pa_cons (pv 0) (pa_cons pe_int pa_nil))) pe_int (nomark _)) (pe_tup (pa_cons (pv 2) pa_nil)) (pe_lst (pa_cons (pv 2) (pa_cons (pv 3) pa_nil)))))))
  (pss_one (ps_ret (pv 2)))))

end K56
set_option Elab.async false
set_option linter.all false
set_option maxRecDepth 100000
set_option maxHeartbeats 4000000
namespace K56
open PySem PySem.Spec PyProof.Rows L2 MT
open SX (S)
abbrev s_law_item : Stmt := top 36
theorem sc_law_item : FnScope ["word", "sign", "number"] ["word"] (defScope s_law_item) := ⟨rfl, rfl, rfl, by decide +kernel, rfl, by decide +kernel, by decide +kernel⟩
theorem b_law_item : Plain "_law_item" s_law_item ["word"] := fun _ _ _ _ _ _ us hl => match us, hl with | [_], _ => rfl
def t_law_item (K : PySem.W.Frag) : TS := (tSeq (tIfS (tB (tInTup (tVar 0) (tCons (tC (.str (S [43]))) (tCons (tC (.str (S [45]))) tNil)))) (tRet (tLst (tCons (tOp rEqM (tVar 0) (tC (.str (S [43])))) tNil))) tNext) (tSeq (tIfS (tAnd (tTest (tChain (rI0 fun i j => .bl (decide (i ≤ j))) (rI0 fun i j => .bl (decide (i ≤ j))) (tC (.int 1)) (tCB rLenM (tCons (tVar 0) tNil)) (tC (.int 20)))) (tAnd (tB (tEqNil false (tLc (iStr (tVar 0)) (gName 1) (tTest (tOp (rSignIn true) (tVar 1) (tC (.str (S [48, 49, 50, 51, 52, 53, 54, 55, 56, 57]))))) (tVar 1) [1]))) (tOr (tTest (tOp rEqM (tVar 0) (tC (.str (S [48]))))) (tTest (tOp rNeM (tOp rIxM (tVar 0) (tC (.int 0))) (tC (.str (S [48])))))))) (tSeq (tAsg (tC (.int 0)) (gName 2)) (tSeq (tFor (iStr (tVar 0)) (gName 1) (tAsg (tOp rAddM (tOp (rI CMulW fun i j => .int (i * j)) (tC (.int 10)) (tVar 2)) (tBM K "str" rIdxM (tC (.str (S [48, 49, 50, 51, 52, 53, 54, 55, 56, 57]))) (tCons (tVar 1) tNil))) (gName 2))) (tRet (tLst (tCons (tVar 2) tNil))))) tNext) (tRet (tIf (tAnd (tTest (tChain (rI0 fun i j => .bl (decide (i ≤ j))) (rI0 fun i j => .bl (decide (i ≤ j))) (tC (.int 1)) (tCB rLenM (tCons (tVar 0) tNil)) (tC (.int 12)))) (tB (tEqNil false (tLc (iStr (tVar 0)) (gName 1) (tTest (tOp (rSignIn true) (tVar 1) (tC (.str (S [97, 98, 99, 100, 101, 102, 103, 104, 105, 106, 107, 108, 109, 110, 111, 112, 113, 114, 115, 116, 117, 118, 119, 120, 121, 122]))))) (tVar 1) [1])))) (tLst (tCons (tVar 0) tNil)) (tLst tNil)))))
theorem d_law_item {P : Program} {w : World} {K : PySem.W.Frag} {mg : Str → Option Value} {base : Heap} {k : Nat} (T : Top K w mg) {f : Addr} {cdv : Value} {A : Around} {outer : List Env} {s : Shared} {H : Hp} {E : XK} (hr : Room k (A.deeper (envOfC "_law_item" (defScope s_law_item) s.heap.objs.size f cdv))) : PSs (cxN P w K mg base ["word", "sign", "number"] "_law_item" (defScope s_law_item) f cdv A outer s H E) (defBody s_law_item) (t_law_item K) :=
  (pss_cons (ps_if (xt_inTup (pv 0) (pa_cons (xe_str (by decide +kernel)) (pa_cons (xe_str (by decide +kernel)) pa_nil)))
  (pss_one (ps_ret (pe_lst (pa_cons (pe_cmpR op_eqM (pv 0) (xe_str (by decide +kernel)) (nomark _)) pa_nil))))
  pss_nil)
  (pss_cons (ps_if (PW.pt (pw_and (pt_chain op_le op_le pe_int (pe_callB call_lenM (by rfl) T.f_len (by decide +kernel) (pa_cons (pv 0) pa_nil)) pe_int) (pw_and (xt_eqNil (pe_lc (own := [("sign", 1)]) (g := (gName 1)) (tt := (tTest (tOp (rSignIn true) (tVar 1) (tC (.str (S [48, 49, 50, 51, 52, 53, 54, 55, 56, 57])))))) rfl sc_law_item.nd (pi_str (pv 0)) (blkOk_by (own := [("sign", 1)]) (N := ["word", "sign", "number"]) (sc := defScope s_law_item) (by decide +kernel)) (fun _ _ _ _ _ => (pg_name (i := 1) sc_law_item.nd rfl (Or.inl rfl))) (fun _ _ _ _ _ => (pts_one (pt_cmpR op_signNotIn (pv 1) (xe_str (by decide +kernel)) (by rfl)))) (fun _ _ _ _ _ => (pv 1))) hr.units0) (pw_and1 (PW.pt (pw_or (pt_cmpR op_eqM (pv 0) (xe_str (by decide +kernel)) (nomark _)) (pw_or1 (pt_cmpR op_neM (pe_ix ix_M (pv 0) pe_int (fun _ _ => rfl)) (xe_str (by decide +kernel)) (nomark _)))))))))
  (pss_cons (ps_set (i := 2) sc_law_item.nd rfl (.inl rfl) pe_int)
  (pss_cons (ps_for PassesOwn.never rfl (pi_str (pv 0)) (pg_name (i := 1) sc_law_item.nd rfl (.inl rfl))
  (pss_one (ps_set (i := 2) sc_law_item.nd rfl (.inl rfl) (pe_op op_addM (pe_op op_mulW pe_int (pv 2)) (pe_bm PySem.F.plainAttrs_str PySem.F.slot_str_index PySem.F.type_str_index mt_idxM (xe_str (by decide +kernel)) (pa_cons (pv 1) pa_nil))))))
  (pss_one (ps_ret (pe_lst (pa_cons (pv 2) pa_nil))))))
  pss_nil)
  (pss_one (ps_ret (pe_ifExp (PW.pt (pw_and (pt_chain op_le op_le pe_int (pe_callB call_lenM (by rfl) T.f_len (by decide +kernel) (pa_cons (pv 0) pa_nil)) pe_int) (pw_and1 (xt_eqNil (pe_lc (own := [("sign", 1)]) (g := (gName 1)) (tt := (tTest (tOp (rSignIn true) (tVar 1) (tC (.str (S [97, 98, 99, 100, 101, 102, 103, 104, 105, 106, 107, 108, 109, 110, 111, 112, 113, 114, 115, 116, 117, 118, 119, 120, 121, 122])))))) rfl sc_law_item.nd (pi_str (pv 0)) (blkOk_by (own := [("sign", 1)]) (N := ["word", "sign", "number"]) (sc := defScope s_law_item) (by decide +kernel)) (fun _ _ _ _ _ => (pg_name (i := 1) sc_law_item.nd rfl (Or.inl rfl))) (fun _ _ _ _ _ => (pts_one (pt_cmpR op_signNotIn (pv 1) (xe_str (by decide +kernel)) (by rfl)))) (fun _ _ _ _ _ => (pv 1))) hr.units0)))) (pe_lst (pa_cons (pv 0) pa_nil)) (pe_lst pa_nil))))))

abbrev s_law_read : Stmt := top 37
theorem sc_law_read : FnScope ["text", "rows", "at", "fresh", "turn", "sign", "end", "item", "opening", "items"] ["text"] (defScope s_law_read) := ⟨rfl, rfl, rfl, by decide +kernel, rfl, by decide +kernel, by decide +kernel⟩
theorem b_law_read : Plain "_law_read" s_law_read ["text"] := fun _ _ _ _ _ _ us hl => match us, hl with | [_], _ => rfl
def t_law_read (K : PySem.W.Frag) (sp_law_item : Sp) : TS := (tSeq (tPar3 1 2 3 (tCons (tLst (tCons (tLst (tCons (tC (.str (S []))) (tCons (tLst tNil) tNil))) tNil)) (tCons (tC (.int 0)) (tCons (tC (.bl true)) tNil)))) (tSeq (tFor (iRng1 (tCons (tOp rAddM (tOp (rI CMulW fun i j => .int (i * j)) (tC (.int 2)) (tCB rLenM (tCons (tVar 0) tNil))) (tC (.int 2))) tNil)) (gName 4) (tSeq (tAsg (tSl rSlM (tVar 0) (tPart (tVar 2)) (tPart (tOp rAddM (tVar 2) (tC (.int 1))))) (gName 5)) (tIfS (tAnd (tB (tVar 3)) (tB (tInTup (tVar 5) (tCons (tC (.str (S [40]))) (tCons (tC (.str (S [91]))) tNil))))) (tSeq (tDrop (tBM K "list" rAppendM (tVar 1) (tCons (tLst (tCons (tVar 5) (tCons (tLst tNil) tNil))) tNil))) (tSeq (tAsg (tOp rAddM (tVar 2) (tC (.int 1))) (gName 2)) (tSeq (tIfS (tTest (tOp (rI0 fun i j => .bl (decide (j < i))) (tCB rLenM (tCons (tVar 1) tNil)) (tC (.int 81)))) (tRet (tLst tNil)) tNext) (tAsg (tOp rNeM (tSl rSlM (tVar 0) (tPart (tVar 2)) (tPart (tOp rAddM (tVar 2) (tC (.int 1))))) (tDispGet (S [40]) (S [41]) (S [91]) (S [93]) (tVar 5))) (gName 3))))) (tIfS (tB (tVar 3)) (tSeq (tAsg (tVar 2) (gName 6)) (tSeq (tWhile (tAnd (tTest (tOp (rI0 fun i j => .bl (decide (i < j))) (tVar 6) (tCB rLenM (tCons (tVar 0) tNil)))) (tTest (tOp (rSignIn true) (tOp rIxM (tVar 0) (tVar 6)) (tC (.str (S [40, 41, 91, 93, 44, 32])))))) (tAsg (tOp rAddM (tVar 6) (tC (.int 1))) (gName 6))) (tSeq (tAsg (tFn sp_law_item (tCons (tSl rSlM (tVar 0) (tPart (tVar 2)) (tPart (tVar 6))) tNil)) (gName 7)) (tSeq (tIfS (tB (tEqNil false (tVar 7))) (tRet (tLst tNil)) tNext) (tSeq (tDrop (tBM K "list" rAppendM (tOp rIxM (tOp rIxM (tVar 1) (tUn (rU fun i => .int (-i)) (tC (.int 1)))) (tC (.int 1))) (tCons (tOp rIxM (tVar 7) (tC (.int 0))) tNil))) (tPar 2 3 (tCons (tVar 6) (tCons (tC (.bl false)) tNil)))))))) (tIfS (tAnd (tTest (tOp (rI0 fun i j => .bl (decide (j < i))) (tCB rLenM (tCons (tVar 1) tNil)) (tC (.int 1)))) (tTest (tOp rEqM (tVar 5) (tDispGet (S [40]) (S [41]) (S [91]) (S [93]) (tOp rIxM (tOp rIxM (tVar 1) (tUn (rU fun i => .int (-i)) (tC (.int 1)))) (tC (.int 0))))))) (tSeq (tAsg (tBM0 K "list" rPopM (tVar 1)) (gUnl K 2 (gCons (gName 8) (gCons (gName 9) gNil)))) (tSeq (tDrop (tBM K "list" rAppendM (tOp rIxM (tOp rIxM (tVar 1) (tUn (rU fun i => .int (-i)) (tC (.int 1)))) (tC (.int 1))) (tCons (tIf (tTest (tOp rEqM (tVar 8) (tC (.str (S [40]))))) (tCB rTupM (tCons (tVar 9) tNil)) (tVar 9)) tNil))) (tAsg (tOp rAddM (tVar 2) (tC (.int 1))) (gName 2)))) (tIfS (tAnd (tTest (tOp (rI0 fun i j => .bl (decide (j < i))) (tCB rLenM (tCons (tVar 1) tNil)) (tC (.int 1)))) (tTest (tOp rEqM (tSl rSlM (tVar 0) (tPart (tVar 2)) (tPart (tOp rAddM (tVar 2) (tC (.int 2))))) (tC (.str (S [44, 32])))))) (tPar 2 3 (tCons (tOp rAddM (tVar 2) (tC (.int 2))) (tCons (tC (.bl true)) tNil))) (tRet (tIf (tAnd (tTest (tOp rEqM (tCB rLenM (tCons (tVar 1) tNil)) (tC (.int 1)))) (tAnd (tTest (tOp rEqM (tVar 2) (tCB rLenM (tCons (tVar 0) tNil)))) (tTest (tOp rEqM (tCB rLenM (tCons (tOp rIxM (tOp rIxM (tVar 1) (tC (.int 0))) (tC (.int 1))) tNil)) (tC (.int 1)))))) (tLst (tCons (tOp rIxM (tOp rIxM (tOp rIxM (tVar 1) (tC (.int 0))) (tC (.int 1))) (tC (.int 0))) tNil)) (tLst tNil))))))))) (tRet (tLst tNil))))
theorem d_law_read {P : Program} {w : World} {K : PySem.W.Frag} {mg : Str → Option Value} {base : Heap} {k : Nat} {k_law_item : Nat} {sp_law_item : Sp} (T : Top K w mg) (c_law_item : Cal P w K mg base k_law_item "_law_item" ["word"] sp_law_item) (l_law_item : k_law_item ≤ k) {f : Addr} {cdv : Value} {A : Around} {outer : List Env} {s : Shared} {H : Hp} {E : XK} (hr : Room k (A.deeper (envOfC "_law_read" (defScope s_law_read) s.heap.objs.size f cdv))) : PSs (cxN P w K mg base ["text", "rows", "at", "fresh", "turn", "sign", "end", "item", "opening", "items"] "_law_read" (defScope s_law_read) f cdv A outer s H E) (defBody s_law_read) (t_law_read K sp_law_item) :=
  (pss_cons (ps_par3 (i := 1) (j := 2) (l := 3) rfl sc_law_read.nd rfl rfl rfl (by decide) (by decide) (by decide) rfl rfl rfl (pa_cons (pe_lst (pa_cons (pe_lst (pa_cons (xe_str (by decide +kernel)) (pa_cons (pe_lst pa_nil) pa_nil))) pa_nil)) (pa_cons pe_int (pa_cons pe_bl pa_nil))) (by rfl))
  (pss_cons (ps_for PassesOwn.never rfl (pi_range1 (by rfl) T.f_range (pa_cons (pe_op op_addM (pe_op op_mulW pe_int (pe_callB call_lenM (by rfl) T.f_len (by decide +kernel) (pa_cons (pv 0) pa_nil))) pe_int) pa_nil)) (pg_name (i := 4) sc_law_read.nd rfl (.inl rfl))
  (pss_cons (ps_set (i := 5) sc_law_read.nd rfl (.inl rfl) (pe_slice sl_M (pv 0) (po_some (pv 2)) (po_some (pe_op op_addM (pv 2) pe_int))))
  (pss_one (ps_if (PW.pt (pw_and (pt_val (pv 3)) (pw_and1 (xt_inTup (pv 5) (pa_cons (xe_str (by decide +kernel)) (pa_cons (xe_str (by decide +kernel)) pa_nil))))))
  (pss_cons (ps_expr (pe_bm PySem.F.plainAttrs_list PySem.F.slot_list_append PySem.F.type_list_append mt_appendM (pv 1) (pa_cons (pe_lst (pa_cons (pv 5) (pa_cons (pe_lst pa_nil) pa_nil))) pa_nil)))
  (pss_cons (ps_set (i := 2) sc_law_read.nd rfl (.inl rfl) (pe_op op_addM (pv 2) pe_int))
  (pss_cons (ps_if (pt_cmpR op_gt (pe_callB call_lenM (by rfl) T.f_len (by decide +kernel) (pa_cons (pv 1) pa_nil)) pe_int (nomark _))
  (pss_one (ps_ret (pe_lst pa_nil)))
  pss_nil)
  (pss_one (ps_set (i := 3) sc_law_read.nd rfl (.inl rfl) (pe_cmpR op_neM (pe_slice sl_M (pv 0) (po_some (pv 2)) (po_some (pe_op op_addM (pv 2) pe_int))) (xe_dispGet (ru1 hr) (xe_str (by decide +kernel)) (xe_str (by decide +kernel)) (xe_str (by decide +kernel)) (xe_str (by decide +kernel)) (by decide +kernel) (pv 5) (fun _ _ => rfl)) (nomark _)))))))
  (pss_one (ps_if (pt_val (pv 3))
  (pss_cons (ps_set (i := 6) sc_law_read.nd rfl (.inl rfl) (pv 2))
  (pss_cons (ps_while PassesOwn.never (PW.pt (pw_and (pt_cmpR op_lt (pv 6) (pe_callB call_lenM (by rfl) T.f_len (by decide +kernel) (pa_cons (pv 0) pa_nil)) (nomark _)) (pw_and1 (pt_cmpR op_signNotIn (pe_ix ix_M (pv 0) (pv 6) (fun _ _ => rfl)) (xe_str (by decide +kernel)) (by rfl)))))
  (pss_one (ps_set (i := 6) sc_law_read.nd rfl (.inl rfl) (pe_op op_addM (pv 6) pe_int))))
  (pss_cons (ps_set (i := 7) sc_law_read.nd rfl (.inl rfl) (xe_call c_law_item hr l_law_item (pa_cons (pe_slice sl_M (pv 0) (po_some (pv 2)) (po_some (pv 6))) pa_nil)))
  (pss_cons (ps_if (xt_eqNil (pv 7) hr.units0)
  (pss_one (ps_ret (pe_lst pa_nil)))
  pss_nil)
  (pss_cons (ps_expr (pe_bm PySem.F.plainAttrs_list PySem.F.slot_list_append PySem.F.type_list_append mt_appendM (pe_ix ix_M (pe_ix ix_M (pv 1) (pe_un un_neg pe_int) (fun _ _ => rfl)) pe_int (fun _ _ => rfl)) (pa_cons (pe_ix ix_M (pv 7) pe_int (fun _ _ => rfl)) pa_nil)))
  (pss_one (ps_par (i := 2) (j := 3) rfl sc_law_read.nd rfl rfl (by decide) rfl rfl (pa_cons (pv 6) (pa_cons pe_bl pa_nil)) (by rfl))))))))
  (pss_one (ps_if (PW.pt (pw_and (pt_cmpR op_gt (pe_callB call_lenM (by rfl) T.f_len (by decide +kernel) (pa_cons (pv 1) pa_nil)) pe_int (nomark _)) (pw_and1 (pt_cmpR op_eqM (pv 5) (xe_dispGet (ru1 hr) (xe_str (by decide +kernel)) (xe_str (by decide +kernel)) (xe_str (by decide +kernel)) (xe_str (by decide +kernel)) (by decide +kernel) (pe_ix ix_M (pe_ix ix_M (pv 1) (pe_un un_neg pe_int) (fun _ _ => rfl)) pe_int (fun _ _ => rfl)) (fun _ _ => rfl)) (nomark _)))))
  (pss_cons (ps_asg (pe_bm0 PySem.F.plainAttrs_list PySem.F.slot_list_pop PySem.F.type_list_pop mt_popM (pv 1)) (pg_unl rfl (pgs_cons (pg_name (i := 8) sc_law_read.nd rfl (.inl rfl)) (pgs_cons (pg_name (i := 9) sc_law_read.nd rfl (.inl rfl)) pgs_nil))))
  (pss_cons (ps_expr (pe_bm PySem.F.plainAttrs_list PySem.F.slot_list_append PySem.F.type_list_append mt_appendM (pe_ix ix_M (pe_ix ix_M (pv 1) (pe_un un_neg pe_int) (fun _ _ => rfl)) pe_int (fun _ _ => rfl)) (pa_cons (pe_ifExp (pt_cmpR op_eqM (pv 8) (xe_str (by decide +kernel)) (nomark _)) (pe_callTy call_tupM (by rfl) T.f_tuple (by decide +kernel) (pa_cons (pv 9) pa_nil)) (pv 9)) pa_nil)))
  (pss_one (ps_set (i := 2) sc_law_read.nd rfl (.inl rfl) (pe_op op_addM (pv 2) pe_int)))))
  (pss_one (ps_if (PW.pt (pw_and (pt_cmpR op_gt (pe_callB call_lenM (by rfl) T.f_len (by decide +kernel) (pa_cons (pv 1) pa_nil)) pe_int (nomark _)) (pw_and1 (pt_cmpR op_eqM (pe_slice sl_M (pv 0) (po_some (pv 2)) (po_some (pe_op op_addM (pv 2) pe_int))) (xe_str (by decide +kernel)) (nomark _)))))
  (pss_one (ps_par (i := 2) (j := 3) rfl sc_law_read.nd rfl rfl (by decide) rfl rfl (pa_cons (pe_op op_addM (pv 2) pe_int) (pa_cons pe_bl pa_nil)) (by rfl)))
  (pss_one (ps_ret (pe_ifExp (PW.pt (pw_and (pt_cmpR op_eqM (pe_callB call_lenM (by rfl) T.f_len (by decide +kernel) (pa_cons (pv 1) pa_nil)) pe_int (nomark _)) (pw_and (pt_cmpR op_eqM (pv 2) (pe_callB call_lenM (by rfl) T.f_len (by decide +kernel) (pa_cons (pv 0) pa_nil)) (nomark _)) (pw_and1 (pt_cmpR op_eqM (pe_callB call_lenM (by rfl) T.f_len (by decide +kernel) (pa_cons (pe_ix ix_M (pe_ix ix_M (pv 1) pe_int (fun _ _ => rfl)) pe_int (fun _ _ => rfl)) pa_nil)) pe_int (nomark _)))))) (pe_lst (pa_cons (pe_ix ix_M (pe_ix ix_M (pe_ix ix_M (pv 1) pe_int (fun _ _ => rfl)) pe_int (fun _ _ => rfl)) pe_int (fun _ _ => rfl)) pa_nil)) (pe_lst pa_nil))))))))))))))
  (pss_one (ps_ret (pe_lst pa_nil)))))

end K56
set_option Elab.async false
set_option linter.all false
set_option maxRecDepth 100000
set_option maxHeartbeats 4000000
namespace K56
open PySem PySem.Spec PyProof.Rows L2 MT
open SX (S)
abbrev s_law_value_right : Stmt := top 40
theorem sc_law_value_right : FnScope ["box", "value", "named", "text", "told", "turn", "back", "bent", "due"] ["box", "value", "named"] (defScope s_law_value_right) := ⟨rfl, rfl, rfl, by decide +kernel, rfl, by decide +kernel, by decide +kernel⟩
theorem b_law_value_right : Plain "_law_value_right" s_law_value_right ["box", "value", "named"] := fun _ _ _ _ _ _ us hl => match us, hl with | [_, _, _], _ => rfl
def t_law_value_right (K : PySem.W.Frag) (sp_law_value_text : Sp) (sp_law_told : Sp) (sp_law_same : Sp) (sp_law_alike : Sp) (sp_law_bent : Sp) (sp_law_read : Sp) : TS := (tSeq (tAsg (tFn sp_law_value_text (tCons (tVar 1) tNil)) (gName 3)) (tSeq (tAsg (tFn sp_law_told (tCons (tC (.str (S [116, 101, 120, 116]))) (tCons (tVar 1) (tCons (tVar 2) tNil)))) (gName 4)) (tSeq (tIfS (tOr (tTest (tOp rNeM (tOp rIxM (tVar 4) (tC (.int 0))) (tC (.str (S [116, 111, 108, 100]))))) (tNot (tB (tFn sp_law_same (tCons (tOp rIxM (tVar 4) (tC (.int 1))) (tCons (tVar 3) tNil)))))) (tRet (tC (.bl false))) tNext) (tSeq (tFor (iRng1 (tCons (tC (.int 2)) tNil)) (gName 5) (tSeq (tAsg (tFn sp_law_told (tCons (tC (.str (S [114, 101, 97, 100]))) (tCons (tVar 3) (tCons (tNotV (tVar 2)) tNil)))) (gName 6)) (tSeq (tIfS (tOr (tTest (tOp rNeM (tOp rIxM (tVar 6) (tC (.int 0))) (tC (.str (S [116, 111, 108, 100]))))) (tNot (tB (tFn sp_law_alike (tCons (tOp rIxM (tVar 6) (tC (.int 1))) (tCons (tVar 1) tNil)))))) (tRet (tC (.bl false))) tNext) (tSeq (tIfS (tB (tIs .lst (tOp rIxM (tVar 6) (tC (.int 1))))) (tDrop (tBM K "list" rAppendM (tOp rIxM (tVar 6) (tC (.int 1))) (tCons (tC (.str (S [109, 111, 114, 101]))) tNil))) tNext) (tAsg (tNotV (tVar 2)) (gName 2)))))) (tSeq (tFor (iRng1 (tCons (tC (.int 8)) tNil)) (gName 5) (tSeq (tAsg (tFn sp_law_bent (tCons (tVar 0) (tCons (tVar 3) tNil))) (gName 7)) (tSeq (tPar 8 4 (tCons (tFn sp_law_read (tCons (tVar 7) tNil)) (tCons (tFn sp_law_told (tCons (tC (.str (S [114, 101, 97, 100]))) (tCons (tVar 7) (tCons (tVar 2) tNil)))) tNil))) (tSeq (tIfS (tOr (tAnd (tB (tEqNil false (tVar 8))) (tNot (tB (tFn sp_law_same (tCons (tVar 4) (tCons (tLst (tCons (tC (.str (S [116, 101, 120, 116]))) (tCons (tVar 7) tNil))) tNil)))))) (tAnd (tB (tEqNil true (tVar 8))) (tOr (tTest (tOp rNeM (tOp rIxM (tVar 4) (tC (.int 0))) (tC (.str (S [116, 111, 108, 100]))))) (tNot (tB (tFn sp_law_alike (tCons (tOp rIxM (tVar 4) (tC (.int 1))) (tCons (tOp rIxM (tVar 8) (tC (.int 0))) tNil)))))))) (tRet (tC (.bl false))) tNext) (tSeq (tIfS (tAnd (tB (tEqNil true (tVar 8))) (tNot (tB (tFn sp_law_same (tCons (tFn sp_law_told (tCons (tC (.str (S [116, 101, 120, 116]))) (tCons (tOp rIxM (tVar 8) (tC (.int 0))) (tCons (tNotV (tVar 2)) tNil)))) (tCons (tLst (tCons (tC (.str (S [116, 111, 108, 100]))) (tCons (tVar 7) tNil))) tNil)))))) (tRet (tC (.bl false))) tNext) (tAsg (tNotV (tVar 2)) (gName 2))))))) (tRet (tC (.bl true))))))))
theorem d_law_value_right {P : Program} {w : World} {K : PySem.W.Frag} {mg : Str → Option Value} {base : Heap} {k : Nat} {k_law_value_text : Nat} {sp_law_value_text : Sp} {k_law_told : Nat} {sp_law_told : Sp} {k_law_same : Nat} {sp_law_same : Sp} {k_law_alike : Nat} {sp_law_alike : Sp} {k_law_bent : Nat} {sp_law_bent : Sp} {k_law_read : Nat} {sp_law_read : Sp} (T : Top K w mg) (c_law_value_text : Cal P w K mg base k_law_value_text "_law_value_text" ["value"] sp_law_value_text) (l_law_value_text : k_law_value_text ≤ k) (c_law_told : Cal P w K mg base k_law_told "_law_told" ["word", "value", "named"] sp_law_told) (l_law_told : k_law_told ≤ k) (c_law_same : Cal P w K mg base k_law_same "_law_same" ["told", "due"] sp_law_same) (l_law_same : k_law_same ≤ k) (c_law_alike : Cal P w K mg base k_law_alike "_law_alike" ["one", "other"] sp_law_alike) (l_law_alike : k_law_alike ≤ k) (c_law_bent : Cal P w K mg base k_law_bent "_law_bent" ["box", "text"] sp_law_bent) (l_law_bent : k_law_bent ≤ k) (c_law_read : Cal P w K mg base k_law_read "_law_read" ["text"] sp_law_read) (l_law_read : k_law_read ≤ k) {f : Addr} {cdv : Value} {A : Around} {outer : List Env} {s : Shared} {H : Hp} {E : XK} (hr : Room k (A.deeper (envOfC "_law_value_right" (defScope s_law_value_right) s.heap.objs.size f cdv))) : PSs (cxN P w K mg base ["box", "value", "named", "text", "told", "turn", "back", "bent", "due"] "_law_value_right" (defScope s_law_value_right) f cdv A outer s H E) (defBody s_law_value_right) (t_law_value_right K sp_law_value_text sp_law_told sp_law_same sp_law_alike sp_law_bent sp_law_read) :=
  (pss_cons (ps_set (i := 3) sc_law_value_right.nd rfl (.inl rfl) (xe_call c_law_value_text hr l_law_value_text (pa_cons (pv 1) pa_nil)))
  (pss_cons (ps_set (i := 4) sc_law_value_right.nd rfl (.inl rfl) (xe_call c_law_told hr l_law_told (pa_cons (xe_str (by decide +kernel)) (pa_cons (pv 1) (pa_cons (pv 2) pa_nil)))))
  (pss_cons (ps_if (PW.pt (pw_or (pt_cmpR op_neM (pe_ix ix_M (pv 4) pe_int (fun _ _ => rfl)) (xe_str (by decide +kernel)) (nomark _)) (pw_or1 (pt_not (pt_val (xe_call c_law_same hr l_law_same (pa_cons (pe_ix ix_M (pv 4) pe_int (fun _ _ => rfl)) (pa_cons (pv 3) pa_nil))))))))
  (pss_one (ps_ret pe_bl))
  pss_nil)
  (pss_cons (ps_for PassesOwn.never rfl (pi_range1 (by rfl) T.f_range (pa_cons pe_int pa_nil)) (pg_name (i := 5) sc_law_value_right.nd rfl (.inl rfl))
  (pss_cons (ps_set (i := 6) sc_law_value_right.nd rfl (.inl rfl) (xe_call c_law_told hr l_law_told (pa_cons (xe_str (by decide +kernel)) (pa_cons (pv 3) (pa_cons (pe_not (pv 2)) pa_nil)))))
  (pss_cons (ps_if (PW.pt (pw_or (pt_cmpR op_neM (pe_ix ix_M (pv 6) pe_int (fun _ _ => rfl)) (xe_str (by decide +kernel)) (nomark _)) (pw_or1 (pt_not (pt_val (xe_call c_law_alike hr l_law_alike (pa_cons (pe_ix ix_M (pv 6) pe_int (fun _ _ => rfl)) (pa_cons (pv 1) pa_nil))))))))
  (pss_one (ps_ret pe_bl))
  pss_nil)
  (pss_cons (ps_if (pt_val (xe_is .lst (pe_ix ix_M (pv 6) pe_int (fun _ _ => rfl)) T.f_isinstance T.f_list))
  (pss_one (ps_expr (pe_bm PySem.F.plainAttrs_list PySem.F.slot_list_append PySem.F.type_list_append mt_appendM (pe_ix ix_M (pv 6) pe_int (fun _ _ => rfl)) (pa_cons (xe_str (by decide +kernel)) pa_nil))))
  pss_nil)
  (pss_one (ps_set (i := 2) sc_law_value_right.nd rfl (.inl rfl) (pe_not (pv 2))))))))
  (pss_cons (ps_for PassesOwn.never rfl (pi_range1 (by rfl) T.f_range (pa_cons pe_int pa_nil)) (pg_name (i := 5) sc_law_value_right.nd rfl (.inl rfl))
  (pss_cons (ps_set (i := 7) sc_law_value_right.nd rfl (.inl rfl) (xe_call c_law_bent hr l_law_bent (pa_cons (pv 0) (pa_cons (pv 3) pa_nil))))
  (pss_cons (ps_par (i := 8) (j := 4) rfl sc_law_value_right.nd rfl rfl (by decide) rfl rfl (pa_cons (xe_call c_law_read hr l_law_read (pa_cons (pv 7) pa_nil)) (pa_cons (xe_call c_law_told hr l_law_told (pa_cons (xe_str (by decide +kernel)) (pa_cons (pv 7) (pa_cons (pv 2) pa_nil)))) pa_nil)) (by rfl))
  (pss_cons (ps_if (PW.pt (pw_or (PW.pt (pw_and (xt_eqNil (pv 8) hr.units0) (pw_and1 (pt_not (pt_val (xe_call c_law_same hr l_law_same (pa_cons (pv 4) (pa_cons (pe_lst (pa_cons (xe_str (by decide +kernel)) (pa_cons (pv 7) pa_nil))) pa_nil)))))))) (pw_or1 (PW.pt (pw_and (xt_neNil (pv 8) hr.units0) (pw_and1 (PW.pt (pw_or (pt_cmpR op_neM (pe_ix ix_M (pv 4) pe_int (fun _ _ => rfl)) (xe_str (by decide +kernel)) (nomark _)) (pw_or1 (pt_not (pt_val (xe_call c_law_alike hr l_law_alike (pa_cons (pe_ix ix_M (pv 4) pe_int (fun _ _ => rfl)) (pa_cons (pe_ix ix_M (pv 8) pe_int (fun _ _ => rfl)) pa_nil))))))))))))))
  (pss_one (ps_ret pe_bl))
  pss_nil)
  (pss_cons (ps_if (PW.pt (pw_and (xt_neNil (pv 8) hr.units0) (pw_and1 (pt_not (pt_val (xe_call c_law_same hr l_law_same (pa_cons (xe_call c_law_told hr l_law_told (pa_cons (xe_str (by decide +kernel)) (pa_cons (pe_ix ix_M (pv 8) pe_int (fun _ _ => rfl)) (pa_cons (pe_not (pv 2)) pa_nil)))) (pa_cons (pe_lst (pa_cons (xe_str (by decide +kernel)) (pa_cons (pv 7) pa_nil))) pa_nil))))))))
  (pss_one (ps_ret pe_bl))
  pss_nil)
  (pss_one (ps_set (i := 2) sc_law_value_right.nd rfl (.inl rfl) (pe_not (pv 2)))))))))
  (pss_one (ps_ret pe_bl)))))))

abbrev s_law_refused : Stmt := top 41
theorem sc_law_refused : FnScope ["box", "value", "named", "bad", "wrong", "told"] ["box", "value", "named"] (defScope s_law_refused) := ⟨rfl, rfl, rfl, by decide +kernel, rfl, by decide +kernel, by decide +kernel⟩
theorem b_law_refused : Plain "_law_refused" s_law_refused ["box", "value", "named"] := fun _ _ _ _ _ _ us hl => match us, hl with | [_, _, _], _ => rfl
def t_law_refused (K : PySem.W.Frag) (sp_law_take : Sp) (sp_law_told : Sp) (sp_law_same : Sp) : TS := (tSeq (tAsg (tOp rIxM (tLst (tCons (tC .non) (tCons (tUn (rU fun i => .int (-i)) (tC (.int 1))) (tCons (tOp (rI CPow fun i j => .int (i ^ j.toNat)) (tC (.int 10)) (tC (.int 20))) (tCons (tC (.str (S []))) (tCons (tC (.str (S [65]))) (tCons (tC (.str (S [97, 98, 99, 100, 101, 102, 103, 104, 105, 106, 107, 108, 109]))) (tCons (tC (.str (S [97, 32, 98]))) (tCons tDNewK (tCons (tDisp [((tC (.str (S [97]))), (tC (.int 1)))]) (tCons (tC (.str (S [49]))) (tCons (tC (.str (S [97, 49]))) (tCons (tC (.str (S [90, 122]))) (tCons (tC (.str (S [43]))) (tCons (tUn (rU fun i => .int (-i)) (tOp (rI CPow fun i j => .int (i ^ j.toNat)) (tC (.int 10)) (tC (.int 19)))) tNil))))))))))))))) (tFn sp_law_take (tCons (tVar 0) (tCons (tC (.int 14)) tNil)))) (gName 3)) (tSeq (tFor (iSq K (tLst (tCons (tVar 3) (tCons (tTup (tCons (tVar 1) (tCons (tVar 3) tNil))) (tCons (tLst (tCons (tVar 3) (tCons (tVar 1) tNil))) (tCons (tTup (tCons (tLst (tCons (tVar 1) (tCons (tTup (tCons (tVar 3) tNil)) tNil))) tNil)) tNil)))))) (gName 4) (tSeq (tAsg (tFn sp_law_told (tCons (tC (.str (S [116, 101, 120, 116]))) (tCons (tVar 4) (tCons (tVar 2) tNil)))) (gName 5)) (tSeq (tIfS (tOr (tTest (tOp rNeM (tOp rIxM (tVar 5) (tC (.int 0))) (tC (.str (S [102, 111, 114, 109]))))) (tOr (tTest (tOp rNeM (tIs .lst (tOp rIxM (tVar 5) (tC (.int 1)))) (tIs .lst (tVar 4)))) (tNot (tB (tFn sp_law_same (tCons (tOp rIxM (tVar 5) (tC (.int 1))) (tCons (tVar 4) tNil))))))) (tRet (tC (.bl false))) tNext) (tSeq (tIfS (tB (tIs .lst (tVar 4))) (tSeq (tDrop (tBM K "list" rAppendM (tVar 4) (tCons (tC (.str (S [109, 111, 114, 101]))) tNil))) (tIfS (tTest (tOp rNeM (tCB rLenM (tCons (tOp rIxM (tVar 5) (tC (.int 1))) tNil)) (tCB rLenM (tCons (tVar 4) tNil)))) (tRet (tC (.bl false))) tNext)) tNext) (tAsg (tNotV (tVar 2)) (gName 2)))))) (tSeq (tFor (iSq K (tLst (tCons (tC .non) (tCons (tC (.int 7)) (tCons (tC (.bl true)) (tCons (tLst (tCons (tC (.str (S [40, 48, 41]))) tNil)) (tCons (tTup (tCons (tC (.str (S [40, 48, 41]))) tNil)) (tCons tDNewK (tCons (tC (.str (S []))) (tCons (tC (.str (S [32]))) (tCons (tC (.str (S [44]))) (tCons (tC (.str (S [40, 41, 40, 41]))) (tCons (tC (.str (S [40, 44, 41]))) (tCons (tC (.str (S [40, 32, 41]))) (tCons (tC (.str (S [91, 48, 44, 93]))) (tCons (tC (.str (S [48, 48]))) (tCons (tC (.str (S [40, 48, 32, 41]))) (tCons (tC (.str (S [40, 48]))) (tCons (tC (.str (S [48, 41]))) tNil))))))))))))))))))) (gName 4) (tSeq (tAsg (tFn sp_law_told (tCons (tC (.str (S [114, 101, 97, 100]))) (tCons (tVar 4) (tCons (tVar 2) tNil)))) (gName 5)) (tIfS (tOr (tTest (tOp rNeM (tOp rIxM (tVar 5) (tC (.int 0))) (tC (.str (S [116, 101, 120, 116]))))) (tNot (tB (tFn sp_law_same (tCons (tOp rIxM (tVar 5) (tC (.int 1))) (tCons (tVar 4) tNil)))))) (tRet (tC (.bl false))) tNext))) (tRet (tC (.bl true))))))
theorem d_law_refused {P : Program} {w : World} {K : PySem.W.Frag} {mg : Str → Option Value} {base : Heap} {k : Nat} {k_law_take : Nat} {sp_law_take : Sp} {k_law_told : Nat} {sp_law_told : Sp} {k_law_same : Nat} {sp_law_same : Sp} (T : Top K w mg) (c_law_take : Cal P w K mg base k_law_take "_law_take" ["box", "many"] sp_law_take) (l_law_take : k_law_take ≤ k) (c_law_told : Cal P w K mg base k_law_told "_law_told" ["word", "value", "named"] sp_law_told) (l_law_told : k_law_told ≤ k) (c_law_same : Cal P w K mg base k_law_same "_law_same" ["told", "due"] sp_law_same) (l_law_same : k_law_same ≤ k) {f : Addr} {cdv : Value} {A : Around} {outer : List Env} {s : Shared} {H : Hp} {E : XK} (hr : Room k (A.deeper (envOfC "_law_refused" (defScope s_law_refused) s.heap.objs.size f cdv))) : PSs (cxN P w K mg base ["box", "value", "named", "bad", "wrong", "told"] "_law_refused" (defScope s_law_refused) f cdv A outer s H E) (defBody s_law_refused) (t_law_refused K sp_law_take sp_law_told sp_law_same) :=
  (pss_cons (ps_set (i := 3) sc_law_refused.nd rfl (.inl rfl) (pe_ix ix_M (pe_lst (pa_cons pe_non (pa_cons (pe_un un_neg pe_int) (pa_cons (pe_op op_pow pe_int pe_int) (pa_cons (xe_str (by decide +kernel)) (pa_cons (xe_str (by decide +kernel)) (pa_cons (xe_str (by decide +kernel)) (pa_cons (xe_str (by decide +kernel)) (pa_cons pe_dnewK (pa_cons (pe_disp (pps_cons (xe_str (by decide +kernel)) pe_int pps_nil) rfl rfl (by simp) (by simp)) (pa_cons (xe_str (by decide +kernel)) (pa_cons (xe_str (by decide +kernel)) (pa_cons (xe_str (by decide +kernel)) (pa_cons (xe_str (by decide +kernel)) (pa_cons (pe_un un_neg (pe_op op_pow pe_int pe_int)) pa_nil))))))))))))))) (xe_call c_law_take hr l_law_take (pa_cons (pv 0) (pa_cons pe_int pa_nil))) (fun _ _ => rfl)))
  (pss_cons (ps_for PassesOwn.never rfl (pi_sq (pe_lst (pa_cons (pv 3) (pa_cons (pe_tup (pa_cons (pv 1) (pa_cons (pv 3) pa_nil))) (pa_cons (pe_lst (pa_cons (pv 3) (pa_cons (pv 1) pa_nil))) (pa_cons (pe_tup (pa_cons (pe_lst (pa_cons (pv 1) (pa_cons (pe_tup (pa_cons (pv 3) pa_nil)) pa_nil))) pa_nil)) pa_nil)))))) (pg_name (i := 4) sc_law_refused.nd rfl (.inl rfl))
  (pss_cons (ps_set (i := 5) sc_law_refused.nd rfl (.inl rfl) (xe_call c_law_told hr l_law_told (pa_cons (xe_str (by decide +kernel)) (pa_cons (pv 4) (pa_cons (pv 2) pa_nil)))))
  (pss_cons (ps_if (PW.pt (pw_or (pt_cmpR op_neM (pe_ix ix_M (pv 5) pe_int (fun _ _ => rfl)) (xe_str (by decide +kernel)) (nomark _)) (pw_or (pt_cmpR op_neM (xe_is .lst (pe_ix ix_M (pv 5) pe_int (fun _ _ => rfl)) T.f_isinstance T.f_list) (xe_is .lst (pv 4) T.f_isinstance T.f_list) (nomark _)) (pw_or1 (pt_not (pt_val (xe_call c_law_same hr l_law_same (pa_cons (pe_ix ix_M (pv 5) pe_int (fun _ _ => rfl)) (pa_cons (pv 4) pa_nil)))))))))
  (pss_one (ps_ret pe_bl))
  pss_nil)
  (pss_cons (ps_if (pt_val (xe_is .lst (pv 4) T.f_isinstance T.f_list))
  (pss_cons (ps_expr (pe_bm PySem.F.plainAttrs_list PySem.F.slot_list_append PySem.F.type_list_append mt_appendM (pv 4) (pa_cons (xe_str (by decide +kernel)) pa_nil)))
  (pss_one (ps_if (pt_cmpR op_neM (pe_callB call_lenM (by rfl) T.f_len (by decide +kernel) (pa_cons (pe_ix ix_M (pv 5) pe_int (fun _ _ => rfl)) pa_nil)) (pe_callB call_lenM (by rfl) T.f_len (by decide +kernel) (pa_cons (pv 4) pa_nil)) (nomark _))
  (pss_one (ps_ret pe_bl))
  pss_nil)))
  pss_nil)
  (pss_one (ps_set (i := 2) sc_law_refused.nd rfl (.inl rfl) (pe_not (pv 2))))))))
  (pss_cons (ps_for PassesOwn.never rfl (pi_sq (pe_lst (pa_cons pe_non (pa_cons pe_int (pa_cons pe_bl (pa_cons (pe_lst (pa_cons (xe_str (by decide +kernel)) pa_nil)) (pa_cons (pe_tup (pa_cons (xe_str (by decide +kernel)) pa_nil)) (pa_cons pe_dnewK (pa_cons (xe_str (by decide +kernel)) (pa_cons (xe_str (by decide +kernel)) (pa_cons (xe_str (by decide +kernel)) (pa_cons (xe_str (by decide +kernel)) (pa_cons (xe_str (by decide +kernel)) (pa_cons (xe_str (by decide +kernel)) (pa_cons (xe_str (by decide +kernel)) (pa_cons (xe_str (by decide +kernel)) (pa_cons (xe_str (by decide +kernel)) (pa_cons (xe_str (by decide +kernel)) (pa_cons (xe_str (by decide +kernel)) pa_nil))))))))))))))))))) (pg_name (i := 4) sc_law_refused.nd rfl (.inl rfl))
  (pss_cons (ps_set (i := 5) sc_law_refused.nd rfl (.inl rfl) (xe_call c_law_told hr l_law_told (pa_cons (xe_str (by decide +kernel)) (pa_cons (pv 4) (pa_cons (pv 2) pa_nil)))))
  (pss_one (ps_if (PW.pt (pw_or (pt_cmpR op_neM (pe_ix ix_M (pv 5) pe_int (fun _ _ => rfl)) (xe_str (by decide +kernel)) (nomark _)) (pw_or1 (pt_not (pt_val (xe_call c_law_same hr l_law_same (pa_cons (pe_ix ix_M (pv 5) pe_int (fun _ _ => rfl)) (pa_cons (pv 4) pa_nil))))))))
  (pss_one (ps_ret pe_bl))
  pss_nil))))
  (pss_one (ps_ret pe_bl)))))

abbrev s_law : Stmt := top 42
theorem sc_law : FnScope ["script", "great", "k", "box", "named", "turn", "deep", "deeper", "text"] ["script"] (defScope s_law) := ⟨rfl, rfl, rfl, by decide +kernel, rfl, by decide +kernel, by decide +kernel⟩
theorem b_law : Plain "law" s_law ["script"] := fun _ _ _ _ _ _ us hl => match us, hl with | [_], _ => rfl
def t_law (K : PySem.W.Frag) (sp_law_box : Sp) (sp_law_cell : Sp) (sp_law_take : Sp) (sp_law_value_right : Sp) (sp_law_value : Sp) (sp_law_refused : Sp) (sp_law_deep : Sp) (sp_law_told : Sp) (sp_law_value_text : Sp) (sp_law_same : Sp) : TS := (tSeq (tAsg (tOp rEqM (tOp (rI (fun _ j => j ≠ 0) fun i j => .int (i.fmod j)) (tCB rInt (tCons (tCB rSumM (tCons (tSl rSlM (tVar 0) tNoPart (tPart (tC (.int 1)))) tNil)) tNil)) (tC (.int 8))) (tC (.int 6))) (gName 1)) (tSeq (tFor (iRng1 (tCons (tCB rMaxM (tCons (tC (.int 2)) (tCons (tCB rMinM (tCons (tC (.int 4)) (tCons (tCB rLenM (tCons (tVar 0) tNil)) tNil))) tNil))) tNil)) (gName 2) (tSeq (tAsg (tFn sp_law_box (tCons (tFn sp_law_cell (tCons (tVar 0) (tCons (tVar 2) tNil))) tNil)) (gName 3)) (tSeq (tAsg (tOp rEqM (tFn sp_law_take (tCons (tVar 3) (tCons (tC (.int 2)) tNil))) (tC (.int 0))) (gName 4)) (tSeq (tFor (iRng1 (tCons (tC (.int 3)) tNil)) (gName 5) (tSeq (tIfS (tNot (tB (tFn sp_law_value_right (tCons (tVar 3) (tCons (tFn sp_law_value (tCons (tVar 3) tNil)) (tCons (tVar 4) tNil)))))) (tRet (tC (.bl false))) tNext) (tAsg (tNotV (tVar 4)) (gName 4)))) (tSeq (tIfS (tNot (tB (tFn sp_law_refused (tCons (tVar 3) (tCons (tFn sp_law_value (tCons (tVar 3) tNil)) (tCons (tVar 4) tNil)))))) (tRet (tC (.bl false))) tNext) (tIfS (tAnd (tB (tVar 1)) (tTest (tOp rEqM (tVar 2) (tC (.int 0))))) (tSeq (tPar 6 7 (tCons (tFn sp_law_deep (tCons (tVar 3) (tCons (tC (.int 80)) tNil))) (tCons (tFn sp_law_deep (tCons (tVar 3) (tCons (tC (.int 81)) tNil))) tNil))) (tSeq (tIfS (tOr (tNot (tB (tFn sp_law_value_right (tCons (tVar 3) (tCons (tVar 6) (tCons (tVar 4) tNil)))))) (tTest (tOp rNeM (tOp rIxM (tFn sp_law_told (tCons (tC (.str (S [116, 101, 120, 116]))) (tCons (tVar 7) (tCons (tVar 4) tNil)))) (tC (.int 0))) (tC (.str (S [102, 111, 114, 109])))))) (tRet (tC (.bl false))) tNext) (tSeq (tAsg (tFn sp_law_value_text (tCons (tVar 7) tNil)) (gName 8)) (tIfS (tNot (tB (tFn sp_law_same (tCons (tFn sp_law_told (tCons (tC (.str (S [114, 101, 97, 100]))) (tCons (tVar 8) (tCons (tVar 4) tNil)))) (tCons (tLst (tCons (tC (.str (S [116, 101, 120, 116]))) (tCons (tVar 8) tNil))) tNil))))) (tRet (tC (.bl false))) tNext)))) tNext)))))) (tRet (tC (.bl true)))))
theorem d_law {P : Program} {w : World} {K : PySem.W.Frag} {mg : Str → Option Value} {base : Heap} {k : Nat} {k_law_box : Nat} {sp_law_box : Sp} {k_law_cell : Nat} {sp_law_cell : Sp} {k_law_take : Nat} {sp_law_take : Sp} {k_law_value_right : Nat} {sp_law_value_right : Sp} {k_law_value : Nat} {sp_law_value : Sp} {k_law_refused : Nat} {sp_law_refused : Sp} {k_law_deep : Nat} {sp_law_deep : Sp} {k_law_told : Nat} {sp_law_told : Sp} {k_law_value_text : Nat} {sp_law_value_text : Sp} {k_law_same : Nat} {sp_law_same : Sp} (T : Top K w mg) (c_law_box : Cal P w K mg base k_law_box "_law_box" ["great"] sp_law_box) (l_law_box : k_law_box ≤ k) (c_law_cell : Cal P w K mg base k_law_cell "_law_cell" ["script", "k"] sp_law_cell) (l_law_cell : k_law_cell ≤ k) (c_law_take : Cal P w K mg base k_law_take "_law_take" ["box", "many"] sp_law_take) (l_law_take : k_law_take ≤ k) (c_law_value_right : Cal P w K mg base k_law_value_right "_law_value_right" ["box", "value", "named"] sp_law_value_right) (l_law_value_right : k_law_value_right ≤ k) (c_law_value : Cal P w K mg base k_law_value "_law_value" ["box"] sp_law_value) (l_law_value : k_law_value ≤ k) (c_law_refused : Cal P w K mg base k_law_refused "_law_refused" ["box", "value", "named"] sp_law_refused) (l_law_refused : k_law_refused ≤ k) (c_law_deep : Cal P w K mg base k_law_deep "_law_deep" ["box", "many"] sp_law_deep) (l_law_deep : k_law_deep ≤ k) (c_law_told : Cal P w K mg base k_law_told "_law_told" ["word", "value", "named"] sp_law_told) (l_law_told : k_law_told ≤ k) (c_law_value_text : Cal P w K mg base k_law_value_text "_law_value_text" ["value"] sp_law_value_text) (l_law_value_text : k_law_value_text ≤ k) (c_law_same : Cal P w K mg base k_law_same "_law_same" ["told", "due"] sp_law_same) (l_law_same : k_law_same ≤ k) {f : Addr} {cdv : Value} {A : Around} {outer : List Env} {s : Shared} {H : Hp} {E : XK} (hr : Room k (A.deeper (envOfC "law" (defScope s_law) s.heap.objs.size f cdv))) : PSs (cxN P w K mg base ["script", "great", "k", "box", "named", "turn", "deep", "deeper", "text"] "law" (defScope s_law) f cdv A outer s H E) (defBody s_law) (t_law K sp_law_box sp_law_cell sp_law_take sp_law_value_right sp_law_value sp_law_refused sp_law_deep sp_law_told sp_law_value_text sp_law_same) :=
  (pss_cons (ps_set (i := 1) sc_law.nd rfl (.inl rfl) (pe_cmpR op_eqM (pe_op op_modN (pe_callTy call_intM (by rfl) T.f_int (by decide +kernel) (pa_cons (pe_callB (call_sumM rfl) (by rfl) T.f_sum (by decide +kernel) (pa_cons (pe_slice sl_M (pv 0) po_none (po_some pe_int)) pa_nil)) pa_nil)) pe_int) pe_int (nomark _)))
  (pss_cons (ps_for PassesOwn.never rfl (pi_range1 (by rfl) T.f_range (pa_cons (pe_callB (call_maxM rfl) (by rfl) T.f_max (by decide +kernel) (pa_cons pe_int (pa_cons (pe_callB (call_minM rfl) (by rfl) T.f_min (by decide +kernel) (pa_cons pe_int (pa_cons (pe_callB call_lenM (by rfl) T.f_len (by decide +kernel) (pa_cons (pv 0) pa_nil)) pa_nil))) pa_nil))) pa_nil)) (pg_name (i := 2) sc_law.nd rfl (.inl rfl))
  (pss_cons (ps_set (i := 3) sc_law.nd rfl (.inl rfl) (xe_call c_law_box hr l_law_box (pa_cons (xe_call c_law_cell hr l_law_cell (pa_cons (pv 0) (pa_cons (pv 2) pa_nil))) pa_nil)))
  (pss_cons (ps_set (i := 4) sc_law.nd rfl (.inl rfl) (pe_cmpR op_eqM (xe_call c_law_take hr l_law_take (pa_cons (pv 3) (pa_cons pe_int pa_nil))) pe_int (nomark _)))
  (pss_cons (ps_for PassesOwn.never rfl (pi_range1 (by rfl) T.f_range (pa_cons pe_int pa_nil)) (pg_name (i := 5) sc_law.nd rfl (.inl rfl))
  (pss_cons (ps_if (pt_not (pt_val (xe_call c_law_value_right hr l_law_value_right (pa_cons (pv 3) (pa_cons (xe_call c_law_value hr l_law_value (pa_cons (pv 3) pa_nil)) (pa_cons (pv 4) pa_nil))))))
  (pss_one (ps_ret pe_bl))
  pss_nil)
  (pss_one (ps_set (i := 4) sc_law.nd rfl (.inl rfl) (pe_not (pv 4))))))
  (pss_cons (ps_if (pt_not (pt_val (xe_call c_law_refused hr l_law_refused (pa_cons (pv 3) (pa_cons (xe_call c_law_value hr l_law_value (pa_cons (pv 3) pa_nil)) (pa_cons (pv 4) pa_nil))))))
  (pss_one (ps_ret pe_bl))
  pss_nil)
  (pss_one (ps_if (PW.pt (pw_and (pt_val (pv 1)) (pw_and1 (pt_cmpR op_eqM (pv 2) pe_int (nomark _)))))
  (pss_cons (ps_par (i := 6) (j := 7) rfl sc_law.nd rfl rfl (by decide) rfl rfl (pa_cons (xe_call c_law_deep hr l_law_deep (pa_cons (pv 3) (pa_cons pe_int pa_nil))) (pa_cons (xe_call c_law_deep hr l_law_deep (pa_cons (pv 3) (pa_cons pe_int pa_nil))) pa_nil)) (by rfl))
  (pss_cons (ps_if (PW.pt (pw_or (pt_not (pt_val (xe_call c_law_value_right hr l_law_value_right (pa_cons (pv 3) (pa_cons (pv 6) (pa_cons (pv 4) pa_nil)))))) (pw_or1 (pt_cmpR op_neM (pe_ix ix_M (xe_call c_law_told hr l_law_told (pa_cons (xe_str (by decide +kernel)) (pa_cons (pv 7) (pa_cons (pv 4) pa_nil)))) pe_int (fun _ _ => rfl)) (xe_str (by decide +kernel)) (nomark _)))))
  (pss_one (ps_ret pe_bl))
  pss_nil)
  (pss_cons (ps_set (i := 8) sc_law.nd rfl (.inl rfl) (xe_call c_law_value_text hr l_law_value_text (pa_cons (pv 7) pa_nil)))
  (pss_one (ps_if (pt_not (pt_val (xe_call c_law_same hr l_law_same (pa_cons (xe_call c_law_told hr l_law_told (pa_cons (xe_str (by decide +kernel)) (pa_cons (pv 8) (pa_cons (pv 4) pa_nil)))) (pa_cons (pe_lst (pa_cons (xe_str (by decide +kernel)) (pa_cons (pv 8) pa_nil))) pa_nil)))))
  (pss_one (ps_ret pe_bl))
  pss_nil)))))
  pss_nil)))))))
  (pss_one (ps_ret pe_bl))))

end K56
set_option Elab.async false
set_option linter.all false
set_option maxRecDepth 100000
set_option maxHeartbeats 4000000
namespace K56
open PySem PySem.Spec PyProof.Rows L2 MT
open SX (S)
abbrev s_value_text : Stmt := top 20
theorem sc_value_text : FnScope ["value"] ["value"] (defScope s_value_text) := ⟨rfl, rfl, rfl, by decide +kernel, rfl, by decide +kernel, by decide +kernel⟩
theorem b_value_text : Plain "value_text" s_value_text ["value"] := fun _ _ _ _ _ _ us hl => match us, hl with | [_], _ => rfl
def t_value_text (K : PySem.W.Frag) (sp_is_plain : Sp) (sp_text_of : Sp) (E : XK) : TS := (tSeq (tIfS (tNot (tB (tFn sp_is_plain (tCons (tVar 0) (tCons (tC (.int 0)) tNil))))) (tRaiseO (He.ga K "InvalidForm") "given" (fun cls d _ H2 => E cls d H2) (tVar 0)) tNext) (tRet (tFn sp_text_of (tCons (tVar 0) tNil))))
theorem d_value_text {P : Program} {w : World} {K : PySem.W.Frag} {mg : Str → Option Value} {base : Heap} {k : Nat} {k_is_plain : Nat} {sp_is_plain : Sp} {k_text_of : Nat} {sp_text_of : Sp} {k_e : Nat} (T : Top K w mg) (c_is_plain : Cal P w K mg base k_is_plain "is_plain" ["value", "deep"] sp_is_plain) (l_is_plain : k_is_plain ≤ k) (c_text_of : Cal P w K mg base k_text_of "text_of" ["value"] sp_text_of) (l_text_of : k_text_of ≤ k) (e_InvalidForm : ExcO P w K mg base k_e "InvalidForm" "given" (He.ga K "InvalidForm")) (l_e : k_e + 1 ≤ k) {f : Addr} {cdv : Value} {A : Around} {outer : List Env} {s : Shared} {H : Hp} {E : XK} (hr : Room k (A.deeper (envOfC "value_text" (defScope s_value_text) s.heap.objs.size f cdv))) : PSs (cxOf (L2.CX P w) P w K mg base ["value"] "value_text" (defScope s_value_text) f cdv A outer s H E) (defBody s_value_text) (t_value_text K sp_is_plain sp_text_of E) := by
  have tk : Takes (cxOf (L2.CX P w) P w K mg base ["value"] "value_text" (defScope s_value_text) f cdv A outer s H E) (fun cls d _ H2 => E cls d H2) := takes_of rfl rfl rfl rfl
  exact (pss_cons (ps_if (pt_not (pt_val (xe_call c_is_plain hr l_is_plain (pa_cons (pv 0) (pa_cons pe_int pa_nil)))))
  (pss_one (ps_raiseO rfl tk e_InvalidForm hr l_e (pv 0)))
  pss_nil)
  (pss_one (ps_ret (xe_call c_text_of hr l_text_of (pa_cons (pv 0) pa_nil)))))

abbrev s_read_value : Stmt := top 24
theorem sc_read_value : FnScope ["text", "found"] ["text"] (defScope s_read_value) := ⟨rfl, rfl, rfl, by decide +kernel, rfl, by decide +kernel, by decide +kernel⟩
theorem b_read_value : Plain "read_value" s_read_value ["text"] := fun _ _ _ _ _ _ us hl => match us, hl with | [_], _ => rfl
def t_read_value (K : PySem.W.Frag) (sp_value_in : Sp) (E : XK) : TS := (tSeq (tAsg (tIf (tB (tIs .str (tVar 0))) (tFn sp_value_in (tCons (tVar 0) tNil)) (tC .non)) (gName 1)) (tSeq (tIfS (tB (tIsN (tVar 1))) (tRaiseO (He.ga K "InvalidText") "given" (fun cls d _ H2 => E cls d H2) (tVar 0)) tNext) (tRet (tOp rIxM (tVar 1) (tC (.int 0))))))
theorem d_read_value {P : Program} {w : World} {K : PySem.W.Frag} {mg : Str → Option Value} {base : Heap} {k : Nat} {k_value_in : Nat} {sp_value_in : Sp} {k_e : Nat} (T : Top K w mg) (c_value_in : Cal P w K mg base k_value_in "value_in" ["text"] sp_value_in) (l_value_in : k_value_in ≤ k) (e_InvalidText : ExcO P w K mg base k_e "InvalidText" "given" (He.ga K "InvalidText")) (l_e : k_e + 1 ≤ k) {f : Addr} {cdv : Value} {A : Around} {outer : List Env} {s : Shared} {H : Hp} {E : XK} (hr : Room k (A.deeper (envOfC "read_value" (defScope s_read_value) s.heap.objs.size f cdv))) : PSs (cxOf (L2.CX P w) P w K mg base ["text", "found"] "read_value" (defScope s_read_value) f cdv A outer s H E) (defBody s_read_value) (t_read_value K sp_value_in E) := by
  have tk : Takes (cxOf (L2.CX P w) P w K mg base ["text", "found"] "read_value" (defScope s_read_value) f cdv A outer s H E) (fun cls d _ H2 => E cls d H2) := takes_of rfl rfl rfl rfl
  exact (pss_cons (ps_set (i := 1) sc_read_value.nd rfl (.inl rfl) (pe_ifExp (pt_val (xe_is .str (pv 0) T.f_isinstance T.f_str)) (xe_call c_value_in hr l_value_in (pa_cons (pv 0) pa_nil)) pe_non))
  (pss_cons (ps_if (pt_cmp (pc_isN (pv 1)))
  (pss_one (ps_raiseO rfl tk e_InvalidText hr l_e (pv 0)))
  pss_nil)
  (pss_one (ps_ret (pe_ix ix_M (pv 1) pe_int (fun _ _ => rfl))))))

end K56
set_option Elab.async false
set_option linter.all false
set_option maxRecDepth 100000
set_option maxHeartbeats 4000000
namespace K56
open PySem PySem.Spec PyProof.Rows L2 MT
open SX (S)
abbrev s_law_told : Stmt := top 39
theorem sc_law_told : FnScope ["word", "value", "named", "e"] ["word", "value", "named"] (defScope s_law_told) := ⟨rfl, rfl, rfl, by decide +kernel, rfl, by decide +kernel, by decide +kernel⟩
theorem b_law_told : Plain "_law_told" s_law_told ["word", "value", "named"] := fun _ _ _ _ _ _ us hl => match us, hl with | [_, _, _], _ => rfl
def t_toldB (sp_value_text sp_read_value : Sp) (W : WX) : TS := tSeq (tIfS (tTest (tOp rEqM (tVar 0) (tC (.str (S [116, 101, 120, 116]))))) (tRet (tLst (tCons (tC (.str (S [116, 111, 108, 100]))) (tCons (tIf (tB (tVar 2)) (tFnW sp_value_text W (tVar 1)) (tFnW sp_value_text W (tVar 1))) tNil)))) tNext)
  (tRet (tLst (tCons (tC (.str (S [116, 111, 108, 100]))) (tCons (tIf (tB (tVar 2)) (tFnW sp_read_value W (tVar 1)) (tFnW sp_read_value W (tVar 1))) tNil))))
def t_toldH (C : Addr) (w : List Nat) : HTS := fun a cls d => tRet (tLst (tCons (tC (.str (S w))) (tCons (tXf a cls d C "given" (tVar 3)) tNil)))
def t_law_told (K : PySem.W.Frag) (sp_value_text sp_read_value : Sp) : TS := fun D σ H => t_toldB sp_value_text sp_read_value (wAsM K (fun _ _ _ _ => False) D [(.ref (He.ga K "InvalidForm"), 3, t_toldH (He.ga K "InvalidForm") [102, 111, 114, 109]), (.ref (He.ga K "InvalidText"), 3, t_toldH (He.ga K "InvalidText") [116, 101, 120, 116])]) D σ H
theorem d_law_told {P : Program} {w : World} {K : PySem.W.Frag} {mg : Str → Option Value} {base : Heap} {k k_e k_value_text k_read_value : Nat} {sp_value_text sp_read_value : Sp} (T : Top K w mg) (c_value_text : CalK P w K mg base k_value_text "value_text" "value" sp_value_text) (l_value_text : k_value_text ≤ k)
    (c_read_value : CalK P w K mg base k_read_value "read_value" "text" sp_read_value) (l_read_value : k_read_value ≤ k) (e1 : ExcO P w K mg base k_e "InvalidForm" "given" (He.ga K "InvalidForm")) (e2 : ExcO P w K mg base k_e "InvalidText" "given" (He.ga K "InvalidText"))
    {f : Addr} {cdv : Value} {A : Around} {outer : List Env} {s : Shared} {H : Hp} {E : XK} (hr : Room k (A.deeper (envOfC "_law_told" (defScope s_law_told) s.heap.objs.size f cdv))) :
    PSs (cxN P w K mg base ["word", "value", "named", "e"] "_law_told" (defScope s_law_told) f cdv A outer s H E) (defBody s_law_told) (t_law_told K sp_value_text sp_read_value) :=
  pss_one (ps_try_asM (tb := t_toldB sp_value_text sp_read_value) rfl rfl sc_law_told.nd takes_none5
    (fun W pn xe tk _ => pss_cons (ps_if (pt_cmpR op_eqM (pv 0) (xe_str (by decide +kernel)) (nomark _))
        (pss_one (ps_ret (pe_lst (pa_cons (xe_str (by decide +kernel)) (pa_cons (pe_ifExp (pt_val (pv 2)) (xe_callWK tk c_value_text hr l_value_text (pv 1)) (xe_callW tk c_value_text hr l_value_text (pv 1))) pa_nil)))))
        pss_nil)
      (pss_one (ps_ret (pe_lst (pa_cons (xe_str (by decide +kernel)) (pa_cons (pe_ifExp (pt_val (pv 2)) (xe_callWK tk c_read_value hr l_read_value (pv 1)) (xe_callW tk c_read_value hr l_read_value (pv 1))) pa_nil))))))
    (.cons (i := 3) (ts := t_toldH (He.ga K "InvalidForm") [102, 111, 114, 109]) ⟨rfl, by decide, .inl e1.gm⟩ rfl rfl (fun a oe cls d pn hz hf => pss_one (ps_ret (pe_lst (pa_cons (xe_str (by decide +kernel)) (pa_cons (pe_xf e1.xf e1.no hz hf (pv 3)) pa_nil)))))
      (.cons (i := 3) (ts := t_toldH (He.ga K "InvalidText") [116, 101, 120, 116]) ⟨rfl, by decide, .inl e2.gm⟩ rfl rfl (fun a oe cls d pn hz hf => pss_one (ps_ret (pe_lst (pa_cons (xe_str (by decide +kernel)) (pa_cons (pe_xf e2.xf e2.no hz hf (pv 3)) pa_nil))))) .nil)))
end K56
set_option Elab.async false
set_option linter.all false
set_option maxRecDepth 100000
set_option maxHeartbeats 4000000
namespace K56
open PySem PySem.Spec PyProof.Rows L2 MT
open SX (S)
abbrev s_law_bent : Stmt := top 38
theorem sc_law_bent : FnScope ["box", "text", "at", "sign", "some"] ["box", "text"] (defScope s_law_bent) := ⟨rfl, rfl, rfl, by decide +kernel, rfl, by decide +kernel, by decide +kernel⟩
theorem b_law_bent : Plain "_law_bent" s_law_bent ["box", "text"] := fun _ _ _ _ _ _ us hl => match us, hl with | [_, _], _ => rfl
def t_law_bent (K : PySem.W.Frag) (sp_law_take : Sp) : TS := (tSeq (tPar 2 3 (tCons (tFn sp_law_take (tCons (tVar 0) (tCons (tOp rAddM (tCB rLenM (tCons (tVar 1) tNil)) (tC (.int 1))) tNil))) (tCons (tOp rIxM (tLst (tCons (tC (.str (S [40]))) (tCons (tC (.str (S [41]))) (tCons (tC (.str (S [91]))) (tCons (tC (.str (S [93]))) (tCons (tC (.str (S [44]))) (tCons (tC (.str (S [32]))) (tCons (tC (.str (S [48]))) (tCons (tC (.str (S [49]))) (tCons (tC (.str (S [97]))) (tCons (tC (.str (S [43]))) (tCons (tC (.str (S [45]))) (tCons (tC (.str (S [44, 32]))) (tCons (tC (.str (S [65]))) (tCons (tC (.str (S [40, 41]))) (tCons (tC (.str (S [10]))) (tCons (tC (.str (S [91, 93]))) tNil))))))))))))))))) (tFn sp_law_take (tCons (tVar 0) (tCons (tC (.int 16)) tNil)))) tNil))) (tSeq (tAsg (tLst (tCons (tOp rAddM (tOp rAddM (tSl rSlM (tVar 1) tNoPart (tPart (tVar 2))) (tVar 3)) (tSl rSlM (tVar 1) (tPart (tVar 2)) tNoPart)) (tCons (tOp rAddM (tSl rSlM (tVar 1) tNoPart (tPart (tVar 2))) (tSl rSlM (tVar 1) (tPart (tOp rAddM (tVar 2) (tC (.int 1)))) tNoPart)) (tCons (tOp rAddM (tOp rAddM (tSl rSlM (tVar 1) tNoPart (tPart (tVar 2))) (tVar 3)) (tSl rSlM (tVar 1) (tPart (tOp rAddM (tVar 2) (tC (.int 1)))) tNoPart)) (tCons (tOp rAddM (tVar 1) (tVar 3)) (tCons (tOp rAddM (tVar 3) (tVar 1)) (tCons (tRevS (tVar 1)) tNil))))))) (gName 4)) (tSeq (tAsg (tOp rAddM (tVar 4) (tLst (tCons (tReplC (tVar 1) [44]) (tCons (tReplC (tVar 1) [91]) (tCons (tReplC (tVar 1) [93]) (tCons (tOp rAddM (tOp rAddM (tC (.str (S [40]))) (tVar 1)) (tC (.str (S [41])))) (tCons (tOp rAddM (tC (.str (S [91]))) (tVar 1)) (tCons (tOp rAddM (tOp rAddM (tVar 1) (tC (.str (S [44, 32])))) (tVar 1)) (tCons (tReplC (tVar 1) [40, 40]) tNil))))))))) (gName 4)) (tRet (tOp rIxM (tVar 4) (tFn sp_law_take (tCons (tVar 0) (tCons (tC (.int 13)) tNil))))))))
theorem d_law_bent {P : Program} {w : World} {K : PySem.W.Frag} {mg : Str → Option Value} {base : Heap} {k : Nat} {k_law_take : Nat} {sp_law_take : Sp} (T : Top K w mg) (c_law_take : Cal P w K mg base k_law_take "_law_take" ["box", "many"] sp_law_take) (l_law_take : k_law_take ≤ k) {f : Addr} {cdv : Value} {A : Around} {outer : List Env} {s : Shared} {H : Hp} {E : XK} (hr : Room k (A.deeper (envOfC "_law_bent" (defScope s_law_bent) s.heap.objs.size f cdv))) : PSs (cxN P w K mg base ["box", "text", "at", "sign", "some"] "_law_bent" (defScope s_law_bent) f cdv A outer s H E) (defBody s_law_bent) (t_law_bent K sp_law_take) :=
  (psm_cons (psm_par (i := 2) (j := 3) rfl sc_law_bent.nd rfl rfl (by decide) rfl rfl (pam_cons (xe_call c_law_take hr l_law_take (pa_cons (pv 0) (pa_cons (pe_op op_addM (pe_callB call_lenM (by rfl) T.f_len (by decide +kernel) (pa_cons (pv 1) pa_nil)) pe_int) pa_nil))) (pam_one (pem_ix ix_M (pem_lst (pam_strE (by decide +kernel) (pa_cons (xe_str (by decide +kernel)) (pa_cons (xe_str (by decide +kernel)) (pa_cons (xe_str (by decide +kernel)) (pa_cons (xe_str (by decide +kernel)) (pa_cons (xe_str (by decide +kernel)) (pa_cons (xe_str (by decide +kernel)) (pa_cons (xe_str (by decide +kernel)) (pa_cons (xe_str (by decide +kernel)) (pa_cons (xe_str (by decide +kernel)) (pa_cons (xe_str (by decide +kernel)) (pa_cons (xe_str (by decide +kernel)) (pa_cons (xe_str (by decide +kernel)) (pa_cons (xe_str (by decide +kernel)) (pa_cons (xe_str (by decide +kernel)) (pa_cons (xe_str (by decide +kernel)) pa_nil))))))))))))))))) (xe_call c_law_take hr l_law_take (pa_cons (pv 0) (pa_cons pe_int pa_nil))) (fun _ _ => rfl)))) (by rfl))
  (psst_cons (PST.of (ps_set (i := 4) sc_law_bent.nd rfl (.inl rfl) (pe_lst (pa_cons (pe_op op_addM (pe_op op_addM (pe_slice sl_M (pv 1) po_none (po_some (pv 2))) (pv 3)) (pe_slice sl_M (pv 1) (po_some (pv 2)) po_none)) (pa_cons (pe_op op_addM (pe_slice sl_M (pv 1) po_none (po_some (pv 2))) (pe_slice sl_M (pv 1) (po_some (pe_op op_addM (pv 2) pe_int)) po_none)) (pa_cons (pe_op op_addM (pe_op op_addM (pe_slice sl_M (pv 1) po_none (po_some (pv 2))) (pv 3)) (pe_slice sl_M (pv 1) (po_some (pe_op op_addM (pv 2) pe_int)) po_none)) (pa_cons (pe_op op_addM (pv 1) (pv 3)) (pa_cons (pe_op op_addM (pv 3) (pv 1)) (pa_cons (pe_revS (pv 1)) pa_nil)))))))))
  (psst_cons (pst_asg (pet_op op_addM (pv 4) (pet_lst (pat_cons (pet_replC (z' := [44]) (by decide +kernel) (by decide +kernel) (pv 1)) (pat_cons (pet_replC (z' := [91]) (by decide +kernel) (by decide +kernel) (pv 1)) (pat_cons (pet_replC (z' := [93]) (by decide +kernel) (by decide +kernel) (pv 1)) (pat_cons (PET.of (pe_op op_addM (pe_op op_addM (xe_str (by decide +kernel)) (pv 1)) (xe_str (by decide +kernel)))) (pat_cons (PET.of (pe_op op_addM (xe_str (by decide +kernel)) (pv 1))) (pat_cons (PET.of (pe_op op_addM (pe_op op_addM (pv 1) (xe_str (by decide +kernel))) (pv 1))) (pat_cons (pet_replC (z' := [40, 40]) (by decide +kernel) (by decide +kernel) (pv 1)) pat_nil))))))))) (pg_name (i := 4) sc_law_bent.nd rfl (.inl rfl)))
  (PSsT.of (pss_one (ps_ret (pe_ix ix_M (pv 4) (xe_call c_law_take hr l_law_take (pa_cons (pv 0) (pa_cons pe_int pa_nil))) (fun _ _ => rfl))))))))

end K56
set_option Elab.async false
set_option linter.all false
set_option maxRecDepth 100000
set_option maxHeartbeats 4000000
/-! The plain law of value texts: data, their texts, the reader. -/
namespace KM
open PySem MT
open TL (numL joinL)
def letters : List Nat := [97, 98, 99, 100, 101, 102, 103, 104, 105, 106, 107, 108, 109, 110, 111, 112, 113, 114, 115, 116, 117, 118, 119, 120, 121, 122]
def digits : List Nat := [48, 49, 50, 51, 52, 53, 54, 55, 56, 57]
def delims : List Nat := [40, 41, 91, 93, 44, 32]
def isWordL (l : List Nat) : Bool := decide (1 ≤ l.length) && decide (l.length ≤ 12) && l.all fun c => decide (c ∈ letters)
/-- the number that a text is -/
def numIn (l : List Nat) : Option Nat := if (decide (1 ≤ l.length) && decide (l.length ≤ 20) && l.all fun c => decide (c ∈ digits)) = true then (if l.head? = some 48 ∧ l ≠ [48] then none else some (NumText.digitsVal l)) else none
/-- the part that a text is -/
def itemOf (w : List Nat) : Option D := if w = [43] then some (.bl true) else if w = [45] then some (.bl false) else match numIn w with
  | some n => some (.int n)
  | none => if isWordL w = true then some (.str w) else none
mutual
def text : D → List Nat
  | .tup ds => 40 :: (joinL [44, 32] (texts ds) ++ [41])
  | .lst ds => 91 :: (joinL [44, 32] (texts ds) ++ [93])
  | .bl b => if b then [43] else [45]
  | .int i => numL i.toNat
  | .str l => l
  | .non => []
  | .dct _ => []
def texts : List D → List (List Nat)
  | [] => []
  | d :: ds => text d :: texts ds
end
mutual
/-- made of integers, truths, words, tuples and lists; n containers are around, at most L -/
def plain (L : Nat) : D → Nat → Bool
  | .tup ds, n => decide (n < L) && plains L ds (n + 1)
  | .lst ds, n => decide (n < L) && plains L ds (n + 1)
  | .bl _, _ => true
  | .int i, _ => decide (0 ≤ i) && decide (i ≤ 10 ^ 20 - 1)
  | .str l, _ => isWordL l
  | .non, _ => false
  | .dct _, _ => false
def plains (L : Nat) : List D → Nat → Bool
  | [], _ => true
  | d :: ds, n => plain L d n && plains L ds n
end
mutual
def depth : D → Nat
  | .tup ds => depths ds + 1
  | .lst ds => depths ds + 1
  | _ => 0
def depths : List D → Nat
  | [] => 0
  | d :: ds => max (depth d) (depths ds)
end
theorem plains_all {L : Nat} {n : Nat} : ∀ {ds : List D}, plains L ds n = ds.all fun d => plain L d n
  | [] => rfl
  | d :: ds => by unfold plains; rw [plains_all, List.all_cons]
theorem texts_map : ∀ {ds : List D}, texts ds = ds.map text
  | [] => rfl
  | d :: ds => by unfold texts; rw [texts_map]; rfl
def closer (c : Nat) : Nat := if c = 40 then 41 else 93
def mkC (c : Nat) (ds : List D) : D := if c = 40 then .tup ds else .lst ds
def nd (c : Nat) : Bool := !decide (c ∈ delims)
def word (l : List Nat) : List Nat := l.takeWhile nd
abbrev Fr := List (Nat × List D)
/-- the reader: fr what is open (its items), innermost first; b: an item is to come -/
def run (L : Nat) : Nat → Fr → List Nat → Bool → Option D
  | 0, _, _, _ => none
  | n + 1, fr, rest, true => (match rest with
    | c :: r => if c = 40 ∨ c = 91 then (if L ≤ fr.length then none else run L n ((c, []) :: fr) r (decide (r.head? ≠ some (closer c)))) else
        (match itemOf (word (c :: r)) with
        | none => none
        | some d => (match fr with
          | [] => if (c :: r).drop (word (c :: r)).length = [] then some d else none
          | (k, ds) :: q => run L n ((k, ds ++ [d]) :: q) ((c :: r).drop (word (c :: r)).length) false))
    | [] => none)
  | n + 1, [], rest, false => none
  | n + 1, (k, ds) :: q, rest, false => if rest.head? = some (closer k) then (match q with
      | [] => if rest.tail = [] then some (mkC k ds) else none
      | (k2, ds2) :: q2 => run L n ((k2, ds2 ++ [mkC k ds]) :: q2) rest.tail false)
    else if rest.take 2 = [44, 32] then run L n ((k, ds) :: q) (rest.drop 2) true else none
theorem numIn_nil : numIn [] = none := rfl
theorem item_nil : itemOf [] = none := rfl
theorem word_le (l : List Nat) : (word l).length ≤ l.length := by
  unfold word
  exact (List.takeWhile_sublist _).length_le
theorem word_pos {l : List Nat} {d : D} (h : itemOf (word l) = some d) : 0 < (word l).length := by
  cases e : word l with
  | nil => rw [e, item_nil] at h; cases h
  | cons c r => simp
/-- more turns than signs are enough -/
theorem run_fuel {L : Nat} : ∀ (n m : Nat) (fr : Fr) (rest : List Nat) (b : Bool), rest.length < n → rest.length < m → run L n fr rest b = run L m fr rest b
  | 0, _, _, _, _, h, _ => absurd h (Nat.not_lt_zero _)
  | _, 0, _, _, _, _, h => absurd h (Nat.not_lt_zero _)
  | n + 1, m + 1, fr, rest, true, h1, h2 => by
    cases rest with
    | nil => rfl
    | cons c r =>
      have h1' : r.length + 1 < n + 1 := h1
      have h2' : r.length + 1 < m + 1 := h2
      unfold run
      dsimp only
      split
      · split
        · rfl
        · exact run_fuel n m _ _ _ (by omega) (by omega)
      · split
        · rfl
        · rename_i d hd
          split
          · rfl
          · have hp := word_pos hd
            exact run_fuel n m _ _ _ (by rw [List.length_drop, List.length_cons]; omega) (by rw [List.length_drop, List.length_cons]; omega)
  | n + 1, m + 1, [], rest, false, _, _ => rfl
  | n + 1, m + 1, (k, ds) :: q, rest, false, h1, h2 => by
    unfold run
    split
    · rename_i hh
      have hp : 0 < rest.length := by
        cases rest with
        | nil => cases hh
        | cons _ _ => simp
      split
      · rfl
      · exact run_fuel n m _ _ _ (by rw [List.length_tail]; omega) (by rw [List.length_tail]; omega)
    · split
      · rename_i hh
        have hp : 2 ≤ rest.length := by
          cases rest with
          | nil => cases hh
          | cons a r => cases r with
            | nil => cases hh
            | cons b s => simp
        exact run_fuel n m _ _ _ (by rw [List.length_drop]; omega) (by rw [List.length_drop]; omega)
      · rfl
def R (L : Nat) (fr : Fr) (rest : List Nat) (b : Bool) : Option D := run L (rest.length + 1) fr rest b
/-- an item is given to what is open -/
def G (L : Nat) (d : D) (fr : Fr) (rest : List Nat) : Option D := match fr with
  | [] => if rest = [] then some d else none
  | (k, ds) :: q => R L ((k, ds ++ [d]) :: q) rest false
def parse (L : Nat) (t : List Nat) : Option D := R L [] t true
theorem R_nil {L : Nat} {fr : Fr} : R L fr [] true = none := rfl
theorem R_open {L : Nat} {fr : Fr} {c : Nat} {r : List Nat} (h : c = 40 ∨ c = 91) : R L fr (c :: r) true = if L ≤ fr.length then none else R L ((c, []) :: fr) r (decide (r.head? ≠ some (closer c))) := by
  show run L (r.length + 1 + 1) fr (c :: r) true = _
  unfold run
  dsimp only
  rw [if_pos h]
  rfl
theorem R_item {L : Nat} {fr : Fr} {c : Nat} {r : List Nat} (h : ¬ (c = 40 ∨ c = 91)) : R L fr (c :: r) true = match itemOf (word (c :: r)) with
    | none => none
    | some d => G L d fr ((c :: r).drop (word (c :: r)).length) := by
  show run L (r.length + 1 + 1) fr (c :: r) true = _
  unfold run
  dsimp only
  rw [if_neg h]
  split
  · rfl
  · rename_i d e
    have hp := word_pos e
    cases fr with
    | nil => rfl
    | cons f q => exact run_fuel _ _ _ _ _ (by rw [List.length_drop, List.length_cons]; omega) (Nat.lt_succ_self _)
theorem R_close {L : Nat} {k : Nat} {ds : List D} {q : Fr} {r : List Nat} : R L ((k, ds) :: q) (closer k :: r) false = G L (mkC k ds) q r := by
  show run L (r.length + 1 + 1) ((k, ds) :: q) (closer k :: r) false = _
  unfold run
  rw [if_pos (show (closer k :: r).head? = some (closer k) from rfl)]
  cases q with
  | nil => rfl
  | cons f q => rfl
theorem closer_ne (k : Nat) : closer k ≠ 44 := by unfold closer; split <;> decide
theorem R_comma {L : Nat} {k : Nat} {ds : List D} {q : Fr} {r : List Nat} : R L ((k, ds) :: q) (44 :: 32 :: r) false = R L ((k, ds) :: q) r true := by
  show run L (r.length + 2 + 1) ((k, ds) :: q) (44 :: 32 :: r) false = _
  unfold run
  rw [if_neg (by intro h; exact closer_ne k (Option.some.inj h).symm), if_pos (show List.take 2 (44 :: 32 :: r) = [44, 32] from rfl)]
  exact run_fuel _ _ _ _ _ (by show r.length < r.length + 2; omega) (Nat.lt_succ_self _)
/-! ### numbers and their signs -/
theorem mem_digits {c : Nat} : c ∈ digits ↔ 48 ≤ c ∧ c ≤ 57 := by
  unfold digits
  simp only [List.mem_cons, List.not_mem_nil, or_false]
  omega
theorem mem_letters {c : Nat} : c ∈ letters ↔ 97 ≤ c ∧ c ≤ 122 := by
  unfold letters
  simp only [List.mem_cons, List.not_mem_nil, or_false]
  omega
theorem head_app {α : Type} {a b : List α} (h : a ≠ []) : (a ++ b).head? = a.head? := by
  cases a with
  | nil => exact absurd rfl h
  | cons x r => rfl
theorem numL_head {n : Nat} (h : (numL n).head? = some 48) : n = 0 := by
  induction n using Nat.strongRecOn with
  | _ n ih =>
    by_cases hn : n < 10
    · rw [TL.numL_lt hn] at h
      have : 48 + n = 48 := Option.some.inj h
      omega
    · rw [TL.numL_step (by omega), head_app (TL.numL_ne _)] at h
      have := ih (n / 10) (by omega) h
      omega
theorem numIn_num {n : Nat} (h : n < 10 ^ 20) : numIn (numL n) = some n := by
  have h1 : 1 ≤ (numL n).length := List.length_pos_iff.mpr (TL.numL_ne n)
  have h2 := TL.numL_len (n := n) (k := 20) (by decide) h
  have h3 : (numL n).all (fun c => decide (c ∈ digits)) = true := List.all_eq_true.mpr fun c hc => decide_eq_true (mem_digits.mpr (TL.numL_digits n c hc))
  unfold numIn
  rw [if_pos (by rw [decide_eq_true h1, decide_eq_true h2, h3]; rfl), if_neg, TL.numL_val]
  rintro ⟨h4, h5⟩
  have := numL_head h4
  subst this
  exact h5 rfl
theorem digitsVal_snoc (w : List Nat) (c : Nat) : NumText.digitsVal (w ++ [c]) = 10 * NumText.digitsVal w + (c - 48) := by
  unfold NumText.digitsVal
  rw [List.foldl_append]
  simp [Nat.mul_comm]
theorem num_of_digits : ∀ (n : Nat) (w : List Nat), w.length = n → w ≠ [] → (∀ c ∈ w, 48 ≤ c ∧ c ≤ 57) → (w.head? = some 48 → w = [48]) → numL (NumText.digitsVal w) = w := by
  intro n
  induction n with
  | zero =>
    intro w h h1
    exact absurd (List.length_eq_zero_iff.mp h) h1
  | succ n ih =>
    intro w hl hne hd hz
    obtain ⟨v, c, rfl⟩ : ∃ v c, w = v ++ [c] := ⟨w.dropLast, w.getLast hne, (List.dropLast_concat_getLast hne).symm⟩
    have hc := hd c (List.mem_append_right _ (List.mem_singleton.mpr rfl))
    rw [digitsVal_snoc]
    by_cases hv : v = []
    · subst hv
      show numL (10 * 0 + (c - 48)) = [c]
      rw [TL.numL_lt (by omega)]
      congr 1
      omega
    · have hz' : v.head? = some 48 → v = [48] := fun e => by
        have := hz (by rw [head_app hv]; exact e)
        have l := congrArg List.length this
        rw [List.length_append] at l
        have : v.length = 0 := by simpa using l
        exact absurd (List.length_eq_zero_iff.mp this) hv
      have e := ih v (by rw [List.length_append] at hl; simpa using hl) hv (fun x hx => hd x (List.mem_append_left _ hx)) hz'
      have hpos : 0 < NumText.digitsVal v := by
        rcases Nat.eq_zero_or_pos (NumText.digitsVal v) with z | z
        · rw [z] at e
          have e' : v = [48] := by rw [← e]; rfl
          subst e'
          have := hz (by rfl)
          simp at this
        · exact z
      rw [TL.numL_step (by omega), show (10 * NumText.digitsVal v + (c - 48)) / 10 = NumText.digitsVal v by omega, show (10 * NumText.digitsVal v + (c - 48)) % 10 = c - 48 by omega, e, show 48 + (c - 48) = c by omega]
theorem numIn_some {w : List Nat} {n : Nat} (h : numIn w = some n) : numL n = w ∧ n < 10 ^ 20 := by
  unfold numIn at h
  split at h
  · rename_i c
    simp only [Bool.and_eq_true, decide_eq_true_eq, List.all_eq_true] at c
    obtain ⟨⟨c1, c2⟩, c3⟩ := c
    split at h
    · cases h
    · rename_i c4
      have e := Option.some.inj h
      subst e
      have hne : w ≠ [] := fun z => by subst z; simp at c1
      have hn := num_of_digits _ w rfl hne (fun c hc => mem_digits.mp (c3 c hc)) fun e => Classical.byContradiction fun z => c4 ⟨e, z⟩
      refine ⟨hn, ?_⟩
      have key : ∀ (k : Nat) (w : List Nat), w.length ≤ k → (∀ c ∈ w, 48 ≤ c ∧ c ≤ 57) → NumText.digitsVal w < 10 ^ k := by
        intro k
        induction k with
        | zero =>
          intro w hl _
          have : w = [] := List.length_eq_zero_iff.mp (by omega)
          subst this
          decide
        | succ k ih =>
          intro w hl hd
          by_cases hw : w = []
          · subst hw
            exact Nat.pow_pos (by decide)
          · obtain ⟨v, c, rfl⟩ : ∃ v c, w = v ++ [c] := ⟨w.dropLast, w.getLast hw, (List.dropLast_concat_getLast hw).symm⟩
            rw [digitsVal_snoc]
            have h1 := ih v (by rw [List.length_append] at hl; simp at hl; omega) fun x hx => hd x (List.mem_append_left _ hx)
            have h2 := hd c (List.mem_append_right _ (List.mem_singleton.mpr rfl))
            rw [Nat.pow_succ]
            omega
      exact key 20 w c2 fun c hc => mem_digits.mp (c3 c hc)
  · cases h
/-! ### parts and their texts -/
def leaf : D → Bool
  | .bl _ => true
  | .int _ => true
  | .str _ => true
  | _ => false
theorem word_letters {l : List Nat} (h : isWordL l = true) : 1 ≤ l.length ∧ l.length ≤ 12 ∧ ∀ c ∈ l, 97 ≤ c ∧ c ≤ 122 := by
  unfold isWordL at h
  simp only [Bool.and_eq_true, decide_eq_true_eq, List.all_eq_true] at h
  exact ⟨h.1.1, h.1.2, fun c hc => mem_letters.mp (h.2 c hc)⟩
theorem item_text {L n : Nat} {d : D} (hl : leaf d = true) (h : plain L d n = true) : itemOf (text d) = some d := by
  cases d with
  | bl b => cases b <;> rfl
  | int i =>
    unfold plain at h
    simp only [Bool.and_eq_true, decide_eq_true_eq] at h
    unfold text
    have hne := TL.numL_ne i.toNat
    have hd := TL.numL_digits i.toNat
    have e := numIn_num (n := i.toNat) (by omega)
    unfold itemOf
    rw [if_neg, if_neg, e]
    · show some (D.int ((i.toNat : Nat) : Int)) = _
      rw [Int.toNat_of_nonneg h.1]
    · intro z; have := hd 45 (by rw [z]; exact List.mem_singleton.mpr rfl); omega
    · intro z; have := hd 43 (by rw [z]; exact List.mem_singleton.mpr rfl); omega
  | str l =>
    unfold plain at h
    obtain ⟨h1, h2, h3⟩ := word_letters h
    unfold text itemOf
    have hn : numIn l = none := by
      unfold numIn
      rw [if_neg]
      intro z
      simp only [Bool.and_eq_true, decide_eq_true_eq, List.all_eq_true] at z
      cases l with
      | nil => simp at h1
      | cons c r =>
        have := mem_digits.mp (z.2 c (List.mem_cons_self ..))
        have := h3 c (List.mem_cons_self ..)
        omega
    rw [if_neg, if_neg, hn]
    · show (if isWordL l = true then _ else _) = _
      rw [if_pos h]
    · intro z; have := h3 45 (by rw [z]; exact List.mem_singleton.mpr rfl); omega
    · intro z; have := h3 43 (by rw [z]; exact List.mem_singleton.mpr rfl); omega
  | _ => cases hl
theorem text_item {w : List Nat} {d : D} (h : itemOf w = some d) : leaf d = true ∧ (∀ L n, plain L d n = true) ∧ text d = w := by
  unfold itemOf at h
  split at h
  · rename_i e
    cases h
    exact ⟨rfl, fun _ _ => rfl, e.symm⟩
  · split at h
    · rename_i e
      cases h
      exact ⟨rfl, fun _ _ => rfl, e.symm⟩
    · split at h
      · rename_i n hn
        cases h
        obtain ⟨h1, h2⟩ := numIn_some hn
        refine ⟨rfl, fun _ _ => ?_, ?_⟩
        · unfold plain
          simp only [Bool.and_eq_true, decide_eq_true_eq]
          omega
        · unfold text
          exact h1
      · split at h
        · rename_i hw
          cases h
          exact ⟨rfl, fun _ _ => hw, rfl⟩
        · cases h
theorem nd_iff {c : Nat} : nd c = true ↔ c ≠ 40 ∧ c ≠ 41 ∧ c ≠ 91 ∧ c ≠ 93 ∧ c ≠ 44 ∧ c ≠ 32 := by
  unfold nd delims
  simp only [Bool.not_eq_true', decide_eq_false_iff_not, List.mem_cons, List.not_mem_nil, or_false, not_or]
theorem leaf_nd {L n : Nat} {d : D} (hl : leaf d = true) (h : plain L d n = true) : text d ≠ [] ∧ ∀ c ∈ text d, nd c = true := by
  cases d with
  | bl b => cases b <;> decide
  | int i =>
    unfold text
    exact ⟨TL.numL_ne _, fun c hc => nd_iff.mpr (by have := TL.numL_digits _ c hc; omega)⟩
  | str l =>
    unfold plain at h
    obtain ⟨h1, h2, h3⟩ := word_letters h
    unfold text
    exact ⟨fun z => by subst z; simp at h1, fun c hc => nd_iff.mpr (by have := h3 c hc; omega)⟩
  | _ => cases hl
theorem takeWhile_app {α : Type} {p : α → Bool} {a b : List α} (ha : ∀ c ∈ a, p c = true) (hb : ∀ c, b.head? = some c → p c = false) : (a ++ b).takeWhile p = a := by
  induction a with
  | nil =>
    cases b with
    | nil => rfl
    | cons c r => rw [List.nil_append, List.takeWhile_cons, hb c rfl]; rfl
  | cons x a ih =>
    rw [List.cons_append, List.takeWhile_cons, ha x (List.mem_cons_self ..)]
    simp [ih fun c hc => ha c (List.mem_cons_of_mem _ hc)]
/-- what may stand behind a part -/
def Ends (rest : List Nat) : Prop := ∀ c, rest.head? = some c → nd c = false
theorem ends_nil : Ends [] := fun c h => by cases h
theorem ends_cons {c : Nat} {r : List Nat} (h : nd c = false) : Ends (c :: r) := fun x e => by cases e; exact h
theorem nd_closer (k : Nat) : nd (closer k) = false := by unfold closer; split <;> decide
theorem R_leaf {L : Nat} {fr : Fr} {d : D} {n : Nat} {rest : List Nat} (hl : leaf d = true) (h : plain L d n = true) (he : Ends rest) : R L fr (text d ++ rest) true = G L d fr rest := by
  obtain ⟨h1, h2⟩ := leaf_nd hl h
  have hw : word (text d ++ rest) = text d := takeWhile_app h2 he
  cases e : text d with
  | nil => exact absurd e h1
  | cons c r =>
    rw [e] at hw h2
    have hc := nd_iff.mp (h2 c (List.mem_cons_self ..))
    rw [List.cons_append] at hw ⊢
    rw [R_item (by omega), hw, ← e, item_text hl h]
    show G L d fr _ = _
    congr 1
    rw [e, ← List.cons_append, List.drop_left]
theorem closer_head {L n : Nat} {d : D} (h : plain L d n = true) (k : Nat) (rest : List Nat) : (text d ++ rest).head? ≠ some (closer k) := by
  intro z
  have hk := nd_closer k
  cases hl : leaf d with
  | true =>
    obtain ⟨h1, h2⟩ := leaf_nd hl h
    cases e : text d with
    | nil => exact h1 e
    | cons c r =>
      rw [e] at z h2
      have : c = closer k := Option.some.inj z
      rw [← this, h2 c (List.mem_cons_self ..)] at hk
      cases hk
  | false =>
    cases d with
    | tup ds => unfold text at z; have : 40 = closer k := Option.some.inj z; unfold closer at this; split at this <;> omega
    | lst ds => unfold text at z; have : 91 = closer k := Option.some.inj z; unfold closer at this; split at this <;> omega
    | bl b => cases hl
    | int i => cases hl
    | str l => cases hl
    | non => cases h
    | dct _ => cases h
theorem join_cons2 (a b : List Nat) (r : List (List Nat)) : joinL [44, 32] (a :: b :: r) = a ++ (44 :: 32 :: joinL [44, 32] (b :: r)) := rfl
/-! ### the reader reads what the writer writes -/
mutual
theorem R_text {L : Nat} : ∀ (d : D) (fr : Fr) (rest : List Nat), plain L d fr.length = true → Ends rest → R L fr (text d ++ rest) true = G L d fr rest
  | .tup ds, fr, rest, h, he => by
    unfold plain at h
    simp only [Bool.and_eq_true, decide_eq_true_eq] at h
    unfold text
    rw [List.cons_append, R_open (.inl rfl), if_neg (by omega), List.append_assoc]
    have := R_texts ds 40 [] fr rest (by simpa using h.2)
    exact this
  | .lst ds, fr, rest, h, he => by
    unfold plain at h
    simp only [Bool.and_eq_true, decide_eq_true_eq] at h
    unfold text
    rw [List.cons_append, R_open (.inr rfl), if_neg (by omega), List.append_assoc]
    have := R_texts ds 91 [] fr rest (by simpa using h.2)
    exact this
  | .bl b, fr, rest, h, he => R_leaf rfl h he
  | .int i, fr, rest, h, he => R_leaf rfl h he
  | .str l, fr, rest, h, he => R_leaf rfl h he
  | .non, fr, rest, h, he => by cases h
  | .dct _, fr, rest, h, he => by cases h
/-- the items of a container and what closes it -/
theorem R_texts {L : Nat} : ∀ (ds : List D) (k : Nat) (acc : List D) (fr : Fr) (rest : List Nat), plains L ds (fr.length + 1) = true →
    R L ((k, acc) :: fr) (joinL [44, 32] (texts ds) ++ (closer k :: rest)) (decide ((joinL [44, 32] (texts ds) ++ (closer k :: rest)).head? ≠ some (closer k))) = G L (mkC k (acc ++ ds)) fr rest
  | [], k, acc, fr, rest, _ => by
    show R L ((k, acc) :: fr) (closer k :: rest) (decide (some (closer k) ≠ some (closer k))) = _
    rw [show decide (some (closer k) ≠ some (closer k)) = false by simp, R_close, List.append_nil]
  | [d], k, acc, fr, rest, h => by
    unfold plains at h
    simp only [Bool.and_eq_true] at h
    show R L ((k, acc) :: fr) (text d ++ (closer k :: rest)) (decide ((text d ++ (closer k :: rest)).head? ≠ some (closer k))) = _
    rw [show decide ((text d ++ (closer k :: rest)).head? ≠ some (closer k)) = true from decide_eq_true (closer_head h.1 k _)]
    rw [R_text d ((k, acc) :: fr) (closer k :: rest) h.1 (ends_cons (nd_closer k))]
    show R L ((k, acc ++ [d]) :: fr) (closer k :: rest) false = _
    rw [R_close]
  | d :: d2 :: ds, k, acc, fr, rest, h => by
    unfold plains at h
    simp only [Bool.and_eq_true] at h
    have e : joinL [44, 32] (texts (d :: d2 :: ds)) ++ (closer k :: rest) = text d ++ (44 :: 32 :: (joinL [44, 32] (texts (d2 :: ds)) ++ (closer k :: rest))) := by
      show joinL [44, 32] (text d :: text d2 :: texts ds) ++ _ = text d ++ (44 :: 32 :: (joinL [44, 32] (text d2 :: texts ds) ++ _))
      rw [join_cons2, List.append_assoc]
      rfl
    rw [e, show decide ((text d ++ (44 :: 32 :: (joinL [44, 32] (texts (d2 :: ds)) ++ (closer k :: rest)))).head? ≠ some (closer k)) = true from decide_eq_true (closer_head h.1 k _)]
    rw [R_text d ((k, acc) :: fr) _ h.1 (ends_cons rfl)]
    show R L ((k, acc ++ [d]) :: fr) (44 :: 32 :: _) false = _
    rw [R_comma]
    have ih := R_texts (d2 :: ds) k (acc ++ [d]) fr rest h.2
    have hp : plain L d2 (fr.length + 1) = true := by
      have := h.2
      unfold plains at this
      simp only [Bool.and_eq_true] at this
      exact this.1
    have hh : decide ((joinL [44, 32] (texts (d2 :: ds)) ++ (closer k :: rest)).head? ≠ some (closer k)) = true := by
      refine decide_eq_true ?_
      cases ds with
      | nil => exact closer_head hp k _
      | cons d3 ds =>
        show (joinL [44, 32] (text d2 :: text d3 :: texts ds) ++ _).head? ≠ _
        rw [join_cons2, List.append_assoc]
        exact closer_head hp k _
    rw [hh] at ih
    rw [ih, List.append_assoc]
    rfl
end
theorem parse_text {L : Nat} {d : D} (h : plain L d 0 = true) : parse L (text d) = some d := by
  have := R_text d [] [] h ends_nil
  rw [List.append_nil] at this
  exact this
/-! ### what is read has the text -/
/-- the text of what is open -/
def rend : Fr → Bool → List Nat
  | [], _ => []
  | (k, ds) :: q, b => rend q true ++ (k :: (joinL [44, 32] (texts ds) ++ (if b = true ∧ ds ≠ [] then [44, 32] else [])))
/-- what is open is right so far -/
def Good (L : Nat) : Fr → Prop
  | [] => True
  | (k, ds) :: q => (k = 40 ∨ k = 91) ∧ q.length < L ∧ plains L ds (q.length + 1) = true ∧ Good L q
theorem texts_app : ∀ (a b : List D), texts (a ++ b) = texts a ++ texts b
  | [], _ => rfl
  | d :: a, b => by
    show text d :: texts (a ++ b) = text d :: (texts a ++ texts b)
    rw [texts_app]
theorem plains_app {L n : Nat} : ∀ (a b : List D), plains L (a ++ b) n = (plains L a n && plains L b n)
  | [], _ => by unfold plains; simp [plains]
  | d :: a, b => by
    show (plain L d n && plains L (a ++ b) n) = ((plain L d n && plains L a n) && plains L b n)
    rw [plains_app, Bool.and_assoc]
theorem join_snoc (sep : List Nat) : ∀ (a : List (List Nat)) (b : List Nat), a ≠ [] → joinL sep (a ++ [b]) = joinL sep a ++ (sep ++ b)
  | [], _, h => absurd rfl h
  | [x], b, _ => rfl
  | x :: y :: r, b, _ => by
    show x ++ (sep ++ joinL sep (y :: r ++ [b])) = (x ++ (sep ++ joinL sep (y :: r))) ++ (sep ++ b)
    rw [join_snoc sep (y :: r) b (by simp)]
    simp only [List.append_assoc]
theorem texts_nil {ds : List D} : texts ds = [] ↔ ds = [] := by
  cases ds with
  | nil => simp [texts]
  | cons d ds => simp [texts]
theorem rend_item (k : Nat) (ds : List D) (q : Fr) (d : D) : rend ((k, ds ++ [d]) :: q) false = rend ((k, ds) :: q) true ++ text d := by
  unfold rend
  simp only [Bool.false_eq_true, false_and, if_false, List.append_nil, true_and]
  rw [texts_app]
  by_cases h : ds = []
  · subst h
    simp [texts, joinL]
  · rw [show texts [d] = [text d] from rfl, join_snoc _ _ _ (fun z => h (texts_nil.mp z)), if_pos h]
    simp only [List.append_assoc, List.cons_append]
theorem rend_close (k : Nat) (ds : List D) (q : Fr) (h : k = 40 ∨ k = 91) : rend ((k, ds) :: q) false ++ [closer k] = rend q true ++ text (mkC k ds) := by
  have e : text (mkC k ds) = k :: (joinL [44, 32] (texts ds) ++ [closer k]) := by
    rcases h with h | h
    · subst h; rfl
    · subst h; rfl
  rw [e]
  show (rend q true ++ (k :: (joinL [44, 32] (texts ds) ++ (if false = true ∧ ds ≠ [] then [44, 32] else [])))) ++ [closer k] = _
  rw [if_neg (fun z => Bool.false_ne_true z.1), List.append_nil, List.append_assoc]
  rfl
theorem plain_mk {L n k : Nat} {ds : List D} (h1 : n < L) (h2 : plains L ds (n + 1) = true) : plain L (mkC k ds) n = true := by
  unfold mkC
  split <;> (unfold plain; rw [decide_eq_true h1, h2]; rfl)
/-- behind an opening sign something comes, or it closes -/
def Next : Fr → List Nat → Bool → Prop
  | (k, ds) :: _, rest, false => ds ≠ [] ∨ rest.head? = some (closer k)
  | _, _, _ => True
theorem run_text {L : Nat} : ∀ (n : Nat) (fr : Fr) (rest : List Nat) (b : Bool) (d : D), Good L fr → Next fr rest b → run L n fr rest b = some d → text d = rend fr b ++ rest ∧ plain L d 0 = true
  | 0, _, _, _, _, _, _, h => by cases h
  | n + 1, fr, [], true, d, _, _, h => by cases h
  | n + 1, fr, c :: r, true, d, hg, hb0, h => by
    unfold run at h
    dsimp only at h
    split at h
    · rename_i hc
      split at h
      · cases h
      · rename_i hl
        obtain ⟨e, p⟩ := run_text n _ _ _ _ (show Good L ((c, []) :: fr) from ⟨hc, by omega, rfl, hg⟩) (by
          cases q : decide (r.head? ≠ some (closer c)) with
          | true => exact trivial
          | false => exact .inr (Classical.not_not.mp (of_decide_eq_false q))) h
        refine ⟨?_, p⟩
        rw [e]
        show (rend fr true ++ (c :: ([] ++ (if _ ∧ ([] : List D) ≠ [] then _ else [])))) ++ r = _
        rw [if_neg (fun z => z.2 rfl), List.append_nil, List.append_assoc]
        rfl
    · split at h
      · cases h
      · rename_i d1 e1
        obtain ⟨h1, h2, h3⟩ := text_item e1
        have hw : c :: r = word (c :: r) ++ (c :: r).drop (word (c :: r)).length := by
          have : word (c :: r) = (c :: r).take (word (c :: r)).length := by
            unfold word
            exact (List.prefix_iff_eq_take.mp (List.takeWhile_prefix _))
          conv => lhs; rw [← List.take_append_drop (word (c :: r)).length (c :: r)]
          rw [← this]
        split at h
        · split at h
          · rename_i e2
            cases h
            refine ⟨?_, h2 L 0⟩
            rw [e2, List.append_nil] at hw
            show text d = [] ++ _
            rw [h3, List.nil_append]
            exact hw.symm
          · cases h
        · rename_i k ds q
          obtain ⟨g1, g2, g3, g4⟩ := hg
          obtain ⟨e, p⟩ := run_text n _ _ _ _ (show Good L ((k, ds ++ [d1]) :: q) from ⟨g1, g2, by rw [plains_app, g3]; unfold plains; rw [h2]; rfl, g4⟩) (show Next ((k, ds ++ [d1]) :: q) _ false from Or.inl (by simp)) h
          refine ⟨?_, p⟩
          rw [e, rend_item, h3, List.append_assoc, ← hw]
  | n + 1, [], rest, false, d, _, _, h => by cases h
  | n + 1, (k, ds) :: q, rest, false, d, hg, hb, h => by
    obtain ⟨g1, g2, g3, g4⟩ := hg
    unfold run at h
    split at h
    · rename_i hh
      obtain ⟨r, rfl⟩ : ∃ r, rest = closer k :: r := by
        cases rest with
        | nil => cases hh
        | cons a r => exact ⟨r, by rw [Option.some.inj hh]⟩
      have hpm := plain_mk (k := k) g2 g3
      split at h
      · split at h
        · rename_i e2
          cases h
          have e2 : r = [] := e2
          subst e2
          have := rend_close k ds [] g1
          exact ⟨this.symm, hpm⟩
        · cases h
      · rename_i k2 ds2 q2
        obtain ⟨f1, f2, f3, f4⟩ := g4
        obtain ⟨e, p⟩ := run_text n _ _ _ _ (show Good L ((k2, ds2 ++ [mkC k ds]) :: q2) from ⟨f1, f2, by rw [plains_app, f3]; unfold plains; rw [show plain L (mkC k ds) (q2.length + 1) = true from hpm]; rfl, f4⟩) (show Next ((k2, ds2 ++ [mkC k ds]) :: q2) r false from Or.inl (by simp)) h
        refine ⟨?_, p⟩
        rw [e, rend_item, ← rend_close k ds _ g1, List.append_assoc]
        rfl
    · split at h
      · rename_i hh
        obtain ⟨r, rfl⟩ : ∃ r, rest = 44 :: 32 :: r := by
          cases rest with
          | nil => cases hh
          | cons a r => cases r with
            | nil => cases hh
            | cons b s =>
              have e : [a, b] = [44, 32] := hh
              injection e with e1 e2
              injection e2 with e2 _
              exact ⟨s, by rw [e1, e2]⟩
        have hd : ds ≠ [] := hb.resolve_right (by assumption)
        obtain ⟨e, p⟩ := run_text n _ _ _ _ (show Good L ((k, ds) :: q) from ⟨g1, g2, g3, g4⟩) (show Next ((k, ds) :: q) r true from trivial) h
        refine ⟨?_, p⟩
        rw [e]
        unfold rend
        rw [if_neg (fun z : false = true ∧ ds ≠ [] => Bool.false_ne_true z.1), if_pos ⟨rfl, hd⟩]
        simp only [List.append_assoc, List.cons_append, List.nil_append]
      · cases h
theorem text_parse {L : Nat} {t : List Nat} {d : D} (h : parse L t = some d) : text d = t ∧ plain L d 0 = true := by
  obtain ⟨e, p⟩ := run_text _ [] t true d trivial trivial h
  exact ⟨e, p⟩
theorem parse_iff {L : Nat} {t : List Nat} {d : D} : parse L t = some d ↔ text d = t ∧ plain L d 0 = true :=
  ⟨text_parse, fun ⟨e, p⟩ => by rw [← e]; exact parse_text p⟩
mutual
theorem plain_up {L : Nat} : ∀ (d : D) (n : Nat), plain L d n = true → plain (L + 1) d n = true
  | .tup ds, n, h => by
    unfold plain at h ⊢
    simp only [Bool.and_eq_true, decide_eq_true_eq] at h ⊢
    exact ⟨by omega, plains_up ds _ h.2⟩
  | .lst ds, n, h => by
    unfold plain at h ⊢
    simp only [Bool.and_eq_true, decide_eq_true_eq] at h ⊢
    exact ⟨by omega, plains_up ds _ h.2⟩
  | .bl _, _, _ => rfl
  | .int _, _, h => h
  | .str _, _, h => h
  | .non, _, h => h
  | .dct _, _, h => h
theorem plains_up {L : Nat} : ∀ (ds : List D) (n : Nat), plains L ds n = true → plains (L + 1) ds n = true
  | [], _, _ => rfl
  | d :: ds, n, h => by
    unfold plains at h ⊢
    simp only [Bool.and_eq_true] at h ⊢
    exact ⟨plain_up d n h.1, plains_up ds n h.2⟩
end
/-- the text of a value that is just too deep is no text -/
theorem parse_deep {L : Nat} {d : D} (h : plain (L + 1) d 0 = true) (h2 : plain L d 0 = false) : parse L (text d) = none := by
  cases e : parse L (text d) with
  | none => rfl
  | some d2 =>
    obtain ⟨h3, h4⟩ := text_parse e
    have e1 := parse_text h
    have e2 := parse_text (plain_up d2 0 h4)
    rw [h3, e1] at e2
    have := Option.some.inj e2
    subst this
    rw [h2] at h4
    cases h4
end KM
set_option Elab.async false
set_option linter.all false
set_option maxRecDepth 100000
set_option maxHeartbeats 4000000
namespace K56
open PySem PySem.Spec PyProof.Rows L2 MT
open SX (S)
open KM
local macro_rules | `(tactic| walk_at "mt") => `(tactic| simp only [L2.start, List.map_cons, List.map_nil, List.length_cons, List.length_nil, List.replicate_succ, List.replicate_zero, Nat.reduceSub, Nat.reduceAdd, Nat.sub_self, Nat.zero_add, List.cons_append, List.nil_append, List.append_nil, List.getElem?_cons_zero, List.getElem?_cons_succ, List.set_cons_zero, List.set_cons_succ, Option.some.injEq, exists_eq_left', exists_eq_left, exists_eq_right, V.bl.injEq, V.int.injEq, V.str.injEq, V.ref.injEq, reduceCtorEq, false_and, and_false, true_and, and_true, false_or, or_false, exists_false, exists_const, ↓reduceIte, Bool.false_eq_true, decide_eq_true_eq, Bool.and_eq_true, Bool.not_true, Bool.not_false, List.cons.injEq, exists_and_left, exists_and_right,
  tRet, tAndV, tOrV, tNotV, tAnd, tOr, tNot, tB, tTest, tIf, tIfS, tC, tVar, tOp, tUn, tChain, rI0, rI, rU, tFn, tCons, tNil, tCB, tTup, tLst, tAsg, gName, tNext, tDrop, tRetN, tPar, tPar3, tAug, ipI, tIs, tIss, rLenM, rIxM, rAddM, rEqM, rNeM, rSignIn, rInt, rAbs, rStrI, tSl, tPart, tNoPart, rSlM, tIsN, tNotN, List.any_cons, List.any_nil, Bool.or_false, tSeq, isa, D.ty, decide_true, decide_false, Bool.true_or, Bool.or_true, Bool.false_or, Bool.and_true, Bool.true_and, Bool.false_and, Bool.and_false, eq_self_iff_true, not_true_eq_false, not_false_eq_true, bne_self_eq_false])
abbrev E0N (Q : VK) : Ends := { nx := fun _ H' => Q .non H', rt := Q }
/-- value v of data d, told by F within H -/
def Dat (H : Hp) (v : V) (d : D) : Prop := ∃ F, Same F H ∧ Rep F v d
theorem Dat.ty {H : Hp} {v : V} {d : D} (h : Dat H v d) : tyOf H v = some d.ty := by
  obtain ⟨F, s, r⟩ := h
  exact r.ty s
theorem Dat.mono {H H' : Hp} {v : V} {d : D} (h : Dat H v d) (s : Same H H') : Dat H' v d := by
  obtain ⟨F, s0, r⟩ := h
  exact ⟨F, s0.trans s, r⟩
def spIsInteger : Sp := fun vs H Q _ => ∃ v d, vs = [v] ∧ Dat H v d ∧ Q (.bl (decide (d.ty = .int))) H
def btw (lo hi : Int) : D → Bool
  | .int i => decide (lo ≤ i) && decide (i ≤ hi)
  | _ => false
def spBetween : Sp := fun vs H Q _ => ∃ v d lo hi, vs = [v, .int lo, .int hi] ∧ Dat H v d ∧ Q (.bl (btw lo hi d)) H
theorem pr_is_integer {K : PySem.W.Frag} (vs : List V) (H : Hp) (Q : VK) (E : XK) (h : spIsInteger vs H Q E) : t_is_integer K (E0N Q) (L2.start ["value"] vs) H := by
  obtain ⟨v, d, rfl, ht, q⟩ := h
  unfold t_is_integer
  walk_at "mt"
  simp only [ht.ty]
  walk_at "mt"
  cases d <;> simpa [isa, D.ty] using q
theorem pr_between {K : PySem.W.Frag} (vs : List V) (H : Hp) (Q : VK) (E : XK) (h : spBetween vs H Q E) : t_is_between K spIsInteger (E0N Q) (L2.start ["value", "least", "most"] vs) H := by
  obtain ⟨v, d, lo, hi, rfl, ht, q⟩ := h
  unfold t_is_between
  walk_at "mt"
  refine ⟨v, d, rfl, ht, ?_⟩
  obtain ⟨F, s, r⟩ := ht
  cases r with
  | int i =>
    simp only [D.ty]
    walk_at "mt"
    simp only [btw] at q
    by_cases h1 : lo ≤ i
    · simp only [h1]
      walk_at "mt"
      simpa [h1] using q
    · simp only [h1]
      walk_at "mt"
      simpa [h1] using q
  | _ =>
    simp only [D.ty]
    walk_at "mt"
    simpa [btw] using q
theorem bl_sl {n : Nat} (h : n ≤ BL) : n < sizeLine := Nat.lt_of_le_of_lt h (by decide +kernel)
theorem bl_le {n : Nat} (h : n ≤ BL) : n ≤ sizeLine := Nat.le_of_lt (bl_sl h)
theorem Sl (l : List Nat) : (S l).length = l.length := SX.S_len l
/-- all([sign in set for sign in text]) -/
theorem all_str {σ : L2.St} {H : Hp} {i j : Nat} {l set : List Nat} {Q : VK} (hi : σ[i]? = some (some (.str (S l)))) (hj : j < σ.length) (hl : l.length ≤ BL) (q : ∀ H', Same H H' → Q (.bl (l.all fun c => decide (c ∈ set))) H') :
    tLc (iStr (tVar i)) (gName j) tYes (tOp (rSignIn false) (tVar j) (tC (.str (S set)))) [j] σ H fun x H1 => rAllM (fun bs => bs.all id) [x] H1 Q := by
  refine tLc_B (src_varStr hi) walk_fnS (fun _ _ => trivial) (bl_sl hl) (fun k => .bl (decide (l.getD k 0 ∈ set))) (fun k H1 K' hk s kk => ?_) fun D H1 s hD => ?_
  · unfold tOp tVar tC rSignIn
    refine ⟨_, List.getElem?_set_self hj, l.getD k 0, rfl, ?_⟩
    simp only [Bool.false_eq_true, ↓reduceIte]
    exact kk H1 (.refl _)
  · unfold rAllM
    refine ⟨(List.range l.length).map fun k => decide (l.getD k 0 ∈ set), ?_, ?_⟩
    · rw [hD, List.map_map]; rfl
    · have e : ((List.range l.length).map fun k => decide (l.getD k 0 ∈ set)).all id = l.all fun c => decide (c ∈ set) := by
        rw [map_range_getD l 0 (fun c => decide (c ∈ set)), List.all_map]
        rfl
      show Q (.bl (List.all _ id)) H1
      rw [e]
      exact q H1 s
def wordD : D → Bool
  | .str l => isWordL l
  | _ => false
def spIsWord : Sp := fun vs H Q _ => ∃ v d, vs = [v] ∧ Dat H v d ∧ ∀ H', Same H H' → Q (.bl (wordD d)) H'
theorem pr_is_word {K : PySem.W.Frag} (vs : List V) (H : Hp) (Q : VK) (E : XK) (h : spIsWord vs H Q E) : t_is_word K (E0N Q) (L2.start ["value", "sign"] vs) H := by
  obtain ⟨v, d, rfl, ht, q⟩ := h
  unfold t_is_word
  walk_at "mt"
  simp only [ht.ty]
  walk_at "mt"
  obtain ⟨F, s, r⟩ := ht
  cases r with
  | @str l hl =>
    walk_at "mt"
    refine ⟨by rw [Sl]; exact bl_le hl, ?_⟩
    rw [Sl]
    split
    · rename_i h1
      split
      · rename_i h2
        have e : wordD (.str l) = false := by
          have : ¬ l.length ≤ 12 := by simp at h2; omega
          simp [wordD, isWordL, this]
        rw [← e]; exact q H (.refl _)
      · rename_i h2
        refine all_str rfl (Nat.lt_succ_self 1) hl fun H' s' => ?_
        have e : wordD (.str l) = l.all fun c => decide (c ∈ letters) := by
          have h3 : l.length ≤ 12 := by simp at h2; omega
          have h4 : 1 ≤ l.length := by omega
          simp [wordD, isWordL, h3, h4]
        have := q H' s'
        rw [e] at this
        exact this
    · rename_i h1
      have e : wordD (.str l) = false := by
        have : ¬ 1 ≤ l.length := by omega
        simp only [wordD, isWordL, this, decide_false, Bool.false_and]
      rw [← e]; exact q H (.refl _)
  | _ =>
    walk_at "mt"
    exact q H (.refl _)
def numV (l : List Nat) : V := match numIn l with
  | some n => .int n
  | none => .non
def spNumberIn : Sp := fun vs H Q _ => ∃ l : List Nat, vs = [.str (S l)] ∧ l.length ≤ BL ∧ ∀ H', Same H H' → Q (numV l) H'
theorem pr_number_in {K : PySem.W.Frag} (vs : List V) (H : Hp) (Q : VK) (E : XK) (h : spNumberIn vs H Q E) : t_number_in K (E0N Q) (L2.start ["word", "sign"] vs) H := by
  obtain ⟨l, rfl, hl, q⟩ := h
  unfold t_number_in
  walk_at "mt"
  refine ⟨by rw [Sl]; exact bl_le hl, ?_⟩
  rw [Sl]
  have no : (l.length < 1 ∨ 20 < l.length ∨ (l.all fun c => decide (c ∈ digits)) = false) → ∀ H', Same H H' → Q .non H' := fun h H' s => by
    have e : numIn l = none := by
      unfold numIn
      rw [if_neg]
      intro z
      rw [Bool.and_eq_true, Bool.and_eq_true, decide_eq_true_eq, decide_eq_true_eq] at z
      rcases h with h | h | h
      · omega
      · omega
      · rw [h] at z; cases z.2
    have := q H' s
    unfold numV at this
    rw [e] at this
    exact this
  split
  · rename_i h1
    split
    · rename_i h2
      exact no (.inr (.inl (by simp at h2; omega))) H (.refl _)
    · rename_i h2
      have h3 : l.length ≤ 20 := by simp at h2; omega
      have h4 : 1 ≤ l.length := by omega
      refine all_str (Q := fun x H1 => ∃ c, x = V.bl c ∧ _) rfl (Nat.lt_succ_self 1) hl fun H' s' => ⟨_, rfl, ?_⟩
      cases ha : l.all fun c => decide (c ∈ [48, 49, 50, 51, 52, 53, 54, 55, 56, 57]) with
      | false =>
        simp only [Bool.not_false, ↓reduceIte]
        exact no (.inr (.inr ha)) H' s'
      | true =>
        simp only [Bool.not_true, Bool.false_eq_true, ↓reduceIte]
        refine ⟨bl_le hl, ?_⟩
        cases l with
        | nil => simp at h4
        | cons c r =>
          refine ⟨c, by simp [atI, ixN], ?_⟩
          have hall : ((c :: r).all fun c => decide (48 ≤ c) && decide (c ≤ 57)) = true := by
            rw [List.all_eq_true] at ha ⊢
            intro x hx
            have := mem_digits.mp (of_decide_eq_true (ha x hx))
            simp [this.1, this.2]
          have hi := SX.int_S hall (by simp) (by omega)
          have hn : numIn (c :: r) = if (c :: r).head? = some 48 ∧ (c :: r) ≠ [48] then none else some (NumText.digitsVal (c :: r)) := by
            unfold numIn
            rw [if_pos]
            rw [Bool.and_eq_true, Bool.and_eq_true, decide_eq_true_eq, decide_eq_true_eq]
            exact ⟨⟨h4, h3⟩, ha⟩
          have hq := q H' s'
          unfold numV at hq
          rw [hn] at hq
          by_cases hc : c = 48
          · subst hc
            by_cases hr : r = []
            · subst hr
              simp only [↓reduceIte, decide_true, Bool.not_true, Bool.false_eq_true]
              refine ⟨by simp, _, hi, ?_⟩
              simpa using hq
            · have hne : ¬ (S (48 :: r) = S [48]) := fun e => hr (by simpa using SX.S_inj e)
              simp only [hne, ↓reduceIte, decide_false, Bool.not_false]
              simpa [hr] using hq
          · have hne : ¬ (S [c] = S [48]) := fun e => hc (by simpa using SX.S_inj e)
            simp only [hne, ↓reduceIte]
            refine ⟨by omega, _, hi, ?_⟩
            simpa [hc] using hq
  · rename_i h1
    exact no (.inl (by omega)) H (.refl _)
end K56
set_option Elab.async false
set_option linter.all false
set_option maxRecDepth 100000
set_option maxHeartbeats 4000000
namespace K56
open PySem PySem.Spec PyProof.Rows L2 MT
open SX (S)
open KM
local macro_rules | `(tactic| walk_at "mt") => `(tactic| simp only [L2.start, List.map_cons, List.map_nil, List.length_cons, List.length_nil, List.replicate_succ, List.replicate_zero, Nat.reduceSub, Nat.reduceAdd, Nat.sub_self, Nat.zero_add, List.cons_append, List.nil_append, List.append_nil, List.getElem?_cons_zero, List.getElem?_cons_succ, List.set_cons_zero, List.set_cons_succ, Option.some.injEq, exists_eq_left', exists_eq_left, exists_eq_right, V.bl.injEq, V.int.injEq, V.str.injEq, V.ref.injEq, reduceCtorEq, false_and, and_false, true_and, and_true, false_or, or_false, exists_false, exists_const, ↓reduceIte, Bool.false_eq_true, decide_eq_true_eq, Bool.and_eq_true, Bool.not_true, Bool.not_false, List.cons.injEq, exists_and_left, exists_and_right,
  tRet, tAndV, tOrV, tNotV, tAnd, tOr, tNot, tB, tTest, tIf, tIfS, tC, tVar, tOp, tUn, tChain, rI0, rI, rU, tFn, tCons, tNil, tCB, tTup, tLst, tAsg, gName, tNext, tDrop, tRetN, tPar, tPar3, tAug, ipI, tIs, tIss, rLenM, rIxM, rAddM, rEqM, rNeM, rSignIn, rInt, rAbs, rStrI, tSl, tPart, tNoPart, rSlM, tIsN, tNotN, List.any_cons, List.any_nil, Bool.or_false, tSeq, isa, D.ty, decide_true, decide_false, Bool.true_or, Bool.or_true, Bool.false_or, Bool.and_true, Bool.true_and, Bool.false_and, Bool.and_false, eq_self_iff_true, not_true_eq_false, not_false_eq_true, bne_self_eq_false])
theorem Dat.item {F H : Hp} {xs : List V} {ds : List D} {k : Nat} (s : Same F H) (r : RepL F xs ds) (hk : k < xs.length) : Dat H (xs.getD k .non) (ds.getD k .non) := by
  have h1 : xs[k]? = some (xs.getD k .non) := by rw [List.getD_eq_getElem?_getD, List.getElem?_eq_getElem hk]; rfl
  obtain ⟨d, e, q⟩ := r.get h1
  have : ds.getD k .non = d := by rw [List.getD_eq_getElem?_getD, e]; rfl
  rw [this]
  exact ⟨F, s, q⟩
def spIsPlain (n : Nat) : Sp := fun vs H Q _ => ∃ v d, ∃ deep : Nat, vs = [v, .int (deep : Int)] ∧ Dat H v d ∧ deep ≤ 80 ∧ 80 ≤ deep + n ∧ ∀ H', Same H H' → Q (.bl (plain 80 d deep)) H'
theorem plain_flat {d : D} {n : Nat} (h1 : d.ty ≠ .tup) (h2 : d.ty ≠ .lst) : plain 80 d n = (decide (d.ty = .bl) || (btw 0 (10 ^ 20 - 1) d || wordD d)) := by
  cases d with
  | tup _ => exact absurd rfl h1
  | lst _ => exact absurd rfl h2
  | _ => simp [KM.plain, btw, wordD, D.ty]
theorem plainSeq {K : PySem.W.Frag} {sp : Sp} {n deep : Nat} {a : Addr} {F H : Hp} {xs : List V} {ds : List D} {Q : VK} (hsp : ∀ m, n = m + 1 → ∀ vs H Q E, spIsPlain m vs H Q E → sp vs H Q E) (s : Same F H) (e : seqO (H a) = some xs) (r : RepL F xs ds) (hl : ds.length ≤ BL) (hd : deep ≤ 80) (hn : 80 ≤ deep + n) (hlt : deep < 80)
    (q : ∀ H', Same H H' → Q (.bl (plains 80 ds (deep + 1))) H') :
    tCB (rAllM fun bs => bs.all id) (tCons (tLc (iSq K (tVar 0)) (gName 2) tYes (tFn sp (tCons (tVar 2) (tCons (tOp rAddM (tVar 1) (tC (.int 1))) tNil))) [2]) tNil) (L2.start ["value", "deep", "item"] [.ref a, .int (deep : Int)]) H Q := by
  have hxl := r.length
  obtain ⟨J, G, hsrc, w, hG⟩ := src_seq (K := K) (σ := L2.start ["value", "deep", "item"] [.ref a, .int (deep : Int)]) (t := tVar 0) (fun Q q => ⟨_, rfl, q⟩) e (by rw [hxl]; exact bl_sl hl)
  unfold tCB tCons tNil
  refine tLc_B hsrc w hG (by rw [hxl]; exact bl_sl hl) (fun k => .bl (plain 80 (ds.getD k .non) (deep + 1))) (fun k H1 K' hk s1 kk => ?_) fun D H1 s1 hD => ?_
  · walk_at "mt"
    obtain ⟨m, rfl⟩ : ∃ m, n = m + 1 := ⟨n - 1, by omega⟩
    refine hsp m rfl _ _ _ _ ⟨_, ds.getD k .non, deep + 1, rfl, (Dat.item (s.trans s1) r hk), by omega, by omega, fun H' s' => kk H' s'⟩
  · unfold rAllM
    refine ⟨(List.range xs.length).map fun k => plain 80 (ds.getD k .non) (deep + 1), ?_, ?_⟩
    · rw [hD, List.map_map]; rfl
    · have e2 : ((List.range xs.length).map fun k => plain 80 (ds.getD k .non) (deep + 1)).all id = plains 80 ds (deep + 1) := by
        rw [hxl, map_range_getD ds MT.D.non (fun c => plain 80 c (deep + 1)), List.all_map, plains_all]
        rfl
      show Q (.bl (List.all _ id)) H1
      rw [e2]
      exact q H1 s1
theorem pr_is_plain {K : PySem.W.Frag} {sp : Sp} {n : Nat} (hsp : ∀ m, n = m + 1 → ∀ vs H Q E, spIsPlain m vs H Q E → sp vs H Q E) (vs : List V) (H : Hp) (Q : VK) (E : XK) (h : spIsPlain n vs H Q E) : t_is_plain K sp spBetween spIsWord (E0N Q) (L2.start ["value", "deep", "item"] vs) H := by
  obtain ⟨v, d, deep, rfl, ht, hd, hn, q⟩ := h
  have seq : ∀ {a : Addr} {F : Hp} {xs : List V} {ds : List D}, Same F H → seqO (H a) = some xs → RepL F xs ds → ds.length ≤ BL → (∀ H', Same H H' → Q (.bl (decide (deep < 80) && plains 80 ds (deep + 1))) H') →
      (tRet (tAndV (tOp (rI0 fun i j => .bl (decide (i < j))) (tVar 1) (tC (.int (80)))) (tCB (rAllM fun bs => bs.all id) (tCons (tLc (iSq K (tVar 0)) (gName 2) tYes (tFn sp (tCons (tVar 2) (tCons (tOp rAddM (tVar 1) (tC (.int 1))) tNil))) [2]) tNil)))) (E0N Q) (L2.start ["value", "deep", "item"] [.ref a, .int (deep : Int)]) H := by
    intro a F xs ds s e r hl q
    have key := fun (hlt : deep < 80) => plainSeq (K := K) (n := n) (Q := Q) hsp s e r hl hd hn hlt fun H' s' => by
      have := q H' s'
      simpa [hlt] using this
    revert key
    generalize (tCB (rAllM fun bs => bs.all id) _) = T
    intro key
    walk_at "mt"
    by_cases hlt : deep < 80
    · have : (deep : Int) < 80 := by omega
      simp only [this, decide_true, ↓reduceIte]
      exact key hlt
    · have : ¬ (deep : Int) < 80 := by omega
      simp only [this, decide_false]
      have := q H (.refl _)
      simp only [Bool.false_eq_true, ↓reduceIte]
      simpa [hlt] using this
  unfold t_is_plain
  obtain ⟨F, s, r⟩ := id ht
  cases r with
  | @lst a xs ds h1 h2 h3 =>
    unfold tSeq tIfS tB tIss
    refine ⟨_, rfl, .lst, by show tyO (H _) = _; rw [s _ _ h1]; rfl, _, rfl, ?_⟩
    exact seq s (by rw [s _ _ h1]; rfl) h2 h3 fun H' s' => by simpa [KM.plain] using q H' s'
  | @tup a xs ds h1 h2 h3 =>
    unfold tSeq tIfS tB tIss
    refine ⟨_, rfl, .tup, by show tyO (H _) = _; rw [s _ _ h1]; rfl, _, rfl, ?_⟩
    exact seq s (by rw [s _ _ h1]; rfl) h2 h3 fun H' s' => by simpa [KM.plain] using q H' s'
  | bl b =>
    walk_at "mt"
    simp only [ht.ty]
    walk_at "mt"
    simpa [KM.plain] using q H (.refl _)
  | _ =>
    walk_at "mt"
    simp only [ht.ty]
    walk_at "mt"
    refine ⟨_, _, 0, 10 ^ 20 - 1, rfl, ht, _, rfl, ?_⟩
    split
    · rename_i hb
      have := q H (.refl _)
      rw [plain_flat (by simp [D.ty]) (by simp [D.ty]), hb] at this
      simpa using this
    · rename_i hb
      refine ⟨_, _, rfl, ht, fun H' s' => ?_⟩
      have := q H' s'
      rw [plain_flat (by simp [D.ty]) (by simp [D.ty])] at this
      simp only [Bool.not_eq_true] at hb
      rw [hb] at this
      simpa [D.ty] using this
end K56
set_option Elab.async false
set_option linter.all false
set_option maxRecDepth 100000
set_option maxHeartbeats 4000000
namespace K56
open PySem PySem.Spec PyProof.Rows L2 MT
open SX (S)
open KM
local macro_rules | `(tactic| walk_at "mt") => `(tactic| simp only [L2.start, List.map_cons, List.map_nil, List.length_cons, List.length_nil, List.replicate_succ, List.replicate_zero, Nat.reduceSub, Nat.reduceAdd, Nat.sub_self, Nat.zero_add, List.cons_append, List.nil_append, List.append_nil, List.getElem?_cons_zero, List.getElem?_cons_succ, List.set_cons_zero, List.set_cons_succ, Option.some.injEq, exists_eq_left', exists_eq_left, exists_eq_right, V.bl.injEq, V.int.injEq, V.str.injEq, V.ref.injEq, reduceCtorEq, false_and, and_false, true_and, and_true, false_or, or_false, exists_false, exists_const, ↓reduceIte, Bool.false_eq_true, decide_eq_true_eq, Bool.and_eq_true, Bool.not_true, Bool.not_false, List.cons.injEq, exists_and_left, exists_and_right,
  tRet, tBM, tBM0, tAndV, tOrV, tNotV, tAnd, tOr, tNot, tB, tTest, tIf, tIfS, tC, tVar, tOp, tUn, tChain, rI0, rI, rU, tFn, tCons, tNil, tCB, tTup, tLst, tAsg, gName, tNext, tDrop, tRetN, tPar, tPar3, tAug, ipI, tIs, tIss, rLenM, rIxM, rAddM, rEqM, rNeM, rSignIn, rInt, rAbs, rStrI, tSl, tPart, tNoPart, rSlM, tIsN, tNotN, List.any_cons, List.any_nil, Bool.or_false, tSeq, isa, D.ty, decide_true, decide_false, Bool.true_or, Bool.or_true, Bool.false_or, Bool.and_true, Bool.true_and, Bool.false_and, Bool.and_false, eq_self_iff_true, not_true_eq_false, not_false_eq_true, bne_self_eq_false])
theorem str_nat {i : Int} (h : 0 ≤ i) : Str.ofString (toString i) = S (TL.numL i.toNat) := by
  have e : i = ((i.toNat : Nat) : Int) := by omega
  have t := TL.tl_num i.toNat
  rw [← e] at t
  have := SX.S_tl (Str.ofString (toString i))
  rw [← this]
  exact congrArg S t
theorem log2_small {i : Int} (h0 : 0 ≤ i) (h : i ≤ 10 ^ 20 - 1) : i.natAbs.log2 < 1920 := by
  have h1 : i.natAbs < 2 ^ 100 := by
    have : (10 : Int) ^ 20 - 1 < 2 ^ 100 := by decide
    omega
  exact Nat.lt_trans (PySem.Flt.log2_lt_of (by decide) h1) (by decide)
/-- ', '.join([text_of(item) for item in value]) -/
theorem joinSeq {K : PySem.W.Frag} {te : TE} {σ : L2.St} {i j : Nat} {a : Addr} {F H : Hp} {xs : List V} {ds : List D} {Q : VK} (hi : σ[i]? = some (some (.ref a))) (s : Same F H) (e : seqO (H a) = some xs) (r : RepL F xs ds) (hl : ds.length ≤ BL)
    (he : ∀ k d H1 (K' : VK), ds[k]? = some d → Same H H1 → (∀ H2, Same H1 H2 → K' (.str (S (text d))) H2) → te (σ.set j (some (xs.getD k .non))) H1 K')
    (hb : (TL.joinL [44, 32] (texts ds)).length ≤ BL) (q : ∀ H', Same H H' → Q (.str (S (TL.joinL [44, 32] (texts ds)))) H') :
    tLc (iSq K (tVar i)) (gName j) tYes te [j] σ H fun x H1 => rJoinM (.str (S [44, 32])) [x] H1 Q := by
  have hxl := r.length
  obtain ⟨J, G, hsrc, w, hG⟩ := src_seq (K := K) (σ := σ) (t := tVar i) (fun Q q => ⟨_, hi, q⟩) e (by rw [hxl]; exact bl_sl hl)
  refine tLc_B hsrc w hG (by rw [hxl]; exact bl_sl hl) (fun k => .str (S (text (ds.getD k .non)))) (fun k H1 K' hk s1 kk => ?_) fun D H1 s1 hD => ?_
  · have hk' : k < ds.length := by omega
    have ed : ds[k]? = some (ds.getD k .non) := by rw [List.getD_eq_getElem?_getD, List.getElem?_eq_getElem hk']; rfl
    exact he k _ H1 K' ed s1 kk
  · unfold rJoinM
    refine ⟨[44, 32], texts ds, rfl, ?_, ?_, q H1 s1⟩
    · rw [hD, texts_map, hxl, map_range_getD ds MT.D.non (fun d => V.str (S (text d))), List.map_map]
      rfl
    · have : ∀ l : List (List Nat), (l.map (·.length)).sum + l.length * 2 ≤ (TL.joinL [44, 32] l).length + 2 := by
        intro l
        induction l with
        | nil => simp [TL.joinL]
        | cons x l ih =>
          cases l with
          | nil => simp [TL.joinL]
          | cons y l =>
            rw [join_cons2]
            simp only [List.map_cons, List.sum_cons, List.length_cons, List.length_append] at ih ⊢
            omega
      have h1 := this (texts ds)
      have : ([44, 32] : List Nat).length = 2 := rfl
      rw [this]
      have : BL = 1000000 := rfl
      omega
theorem depths_get : ∀ {ds : List D} {k : Nat} {d : D}, ds[k]? = some d → depth d ≤ depths ds
  | [], _, _, h => by simp at h
  | x :: ds, 0, d, h => by simp at h; subst h; unfold depths; omega
  | x :: ds, k + 1, d, h => by
    have := depths_get (ds := ds) (k := k) (d := d) (by simpa using h)
    unfold depths; omega
theorem plains_get {L n : Nat} {ds : List D} {k : Nat} {d : D} (h : plains L ds n = true) (e : ds[k]? = some d) : KM.plain L d n = true := by
  rw [plains_all, List.all_eq_true] at h
  exact h d (List.mem_of_getElem? e)
theorem joinL_le (sep : List Nat) : ∀ {ts : List (List Nat)} {k : Nat} {t : List Nat}, ts[k]? = some t → t.length ≤ (TL.joinL sep ts).length
  | [], _, _, h => by simp at h
  | [x], 0, t, h => by simp at h; subst h; simp [TL.joinL]
  | [x], k + 1, t, h => by simp at h
  | x :: y :: ts, 0, t, h => by
    simp at h; subst h
    show x.length ≤ (x ++ (sep ++ TL.joinL sep (y :: ts))).length
    rw [List.length_append]; omega
  | x :: y :: ts, k + 1, t, h => by
    have := joinL_le sep (ts := y :: ts) (k := k) (t := t) (by simpa using h)
    show t.length ≤ (x ++ (sep ++ TL.joinL sep (y :: ts))).length
    rw [List.length_append, List.length_append]; omega
/-- value is plain (n containers around it at most), its text is not long -/
def spTextOf (n : Nat) : Sp := fun vs H Q _ => ∃ v d, vs = [v] ∧ Dat H v d ∧ (∃ L m, KM.plain L d m = true) ∧ depth d ≤ n ∧ (text d).length ≤ BL ∧ ∀ H', Same H H' → Q (.str (S (text d))) H'
theorem pr_text_of {K : PySem.W.Frag} {sp : Sp} {n : Nat} (hsp : ∀ m, n = m + 1 → ∀ vs H Q E, spTextOf m vs H Q E → sp vs H Q E) (vs : List V) (H : Hp) (Q : VK) (E : XK) (h : spTextOf n vs H Q E) : t_text_of K sp (E0N Q) (L2.start ["value", "item"] vs) H := by
  obtain ⟨v, d, rfl, ht, ⟨L, m0, hp⟩, hd, hb, q⟩ := h
  have recu : ∀ {ds : List D} {a : Addr} {F : Hp} {xs : List V} {K2 : VK} {m1 : Nat}, Same F H → seqO (H a) = some xs → RepL F xs ds → ds.length ≤ BL → depths ds + 1 ≤ n → (TL.joinL [44, 32] (texts ds)).length ≤ BL → plains L ds m1 = true → (∀ H', Same H H' → K2 (.str (S (TL.joinL [44, 32] (texts ds)))) H') →
      tLc (iSq K (tVar 0)) (gName 1) tYes (tFn sp (tCons (tVar 1) tNil)) [1] (L2.start ["value", "item"] [.ref a]) H fun x H1 => rJoinM (.str (S [44, 32])) [x] H1 K2 := by
    intro ds a F xs K2 m1 s e r hl hdd hbl hpl q
    refine joinSeq rfl s e r hl (fun k d H1 K' hk s1 kk => ?_) hbl q
    walk_at "mt"
    obtain ⟨m, rfl⟩ : ∃ m, n = m + 1 := ⟨n - 1, by omega⟩
    have h1 := depths_get hk
    have hkl : k < xs.length := by
      rw [r.length]
      exact (List.getElem?_eq_some_iff.mp hk).1
    have ed : ds.getD k .non = d := by rw [List.getD_eq_getElem?_getD, hk]; rfl
    refine hsp m rfl _ _ _ _ ⟨_, d, rfl, by rw [← ed]; exact Dat.item (s.trans s1) r hkl, ⟨L, _, plains_get hpl hk⟩, by omega, ?_, fun H' s' => kk H' s'⟩
    refine Nat.le_trans (joinL_le [44, 32] (ts := texts ds) (k := k) ?_) hbl
    rw [texts_map, List.getElem?_map, hk]; rfl
  unfold t_text_of
  obtain ⟨F, s, r⟩ := id ht
  cases r with
  | @lst a xs ds h1 h2 h3 =>
    have e1 : tyOf H (.ref a) = some .lst := ht.ty
    have e2 : text (.lst ds) = [91] ++ TL.joinL [44, 32] (texts ds) ++ [93] := by simp [text]
    have e3 : (text (.lst ds)).length = (TL.joinL [44, 32] (texts ds)).length + 2 := by simp [text]
    have hBL : BL = 1000000 := rfl
    have rr := fun K2 => recu (K2 := K2) (m1 := m0 + 1) s (by rw [s _ _ h1]; rfl) h2 h3 (by simpa [depth] using hd) (by omega) (by simp [KM.plain] at hp; exact hp.2)
    revert rr
    generalize (tLc (iSq K (tVar 0)) (gName 1) tYes (tFn sp (tCons (tVar 1) tNil)) [1]) = T
    intro rr
    walk_at "mt"
    simp only [e1]
    walk_at "mt"
    refine ⟨tyS, rr _ fun H' s' => ?_⟩
    dsimp only
    rw [SX.S_cat, SX.S_cat, Sl, Sl, Sl, Sl]
    have hsz := bl_sl (Nat.le_refl BL)
    refine ⟨?_, ?_, ?_⟩
    · simp only [List.length_cons, List.length_nil]; omega
    · simp only [List.length_append, List.length_cons, List.length_nil]; omega
    · rw [← e2]; exact q H' s'
  | @tup a xs ds h1 h2 h3 =>
    have e1 : tyOf H (.ref a) = some .tup := ht.ty
    have e2 : text (.tup ds) = [40] ++ TL.joinL [44, 32] (texts ds) ++ [41] := by simp [text]
    have e3 : (text (.tup ds)).length = (TL.joinL [44, 32] (texts ds)).length + 2 := by simp [text]
    have hBL : BL = 1000000 := rfl
    have rr := fun K2 => recu (K2 := K2) (m1 := m0 + 1) s (by rw [s _ _ h1]; rfl) h2 h3 (by simpa [depth] using hd) (by omega) (by simp [KM.plain] at hp; exact hp.2)
    revert rr
    generalize (tLc (iSq K (tVar 0)) (gName 1) tYes (tFn sp (tCons (tVar 1) tNil)) [1]) = T
    intro rr
    walk_at "mt"
    simp only [e1]
    walk_at "mt"
    refine ⟨tyS, rr _ fun H' s' => ?_⟩
    dsimp only
    rw [SX.S_cat, SX.S_cat, Sl, Sl, Sl, Sl]
    have hsz := bl_sl (Nat.le_refl BL)
    refine ⟨?_, ?_, ?_⟩
    · simp only [List.length_cons, List.length_nil]; omega
    · simp only [List.length_append, List.length_cons, List.length_nil]; omega
    · rw [← e2]; exact q H' s'
  | bl b =>
    walk_at "mt"
    simp only [ht.ty]
    walk_at "mt"
    have := q H (.refl _)
    cases b <;> simpa [text] using this
  | int i =>
    walk_at "mt"
    simp only [ht.ty]
    walk_at "mt"
    simp only [KM.plain, Bool.and_eq_true, decide_eq_true_eq] at hp
    refine ⟨log2_small hp.1 hp.2, ?_⟩
    rw [str_nat hp.1]
    exact q H (.refl _)
  | str _ =>
    walk_at "mt"
    simp only [ht.ty]
    walk_at "mt"
    exact q H (.refl _)
  | _ => simp [KM.plain] at hp
end K56
set_option Elab.async false
set_option linter.all false
set_option maxRecDepth 100000
set_option maxHeartbeats 4000000
namespace MT
open PySem PySem.Spec PyProof.Rows L2
open SX (S)
/-! ### a stack of [sign, items], innermost frame first -/
structure Frm where
  a : Addr
  i : Addr
  sg : List Nat
  ds : List D
structure SI (F0 H0 F H : Hp) (p : Addr) (fs : List Frm) : Prop where
  g : Grow F0 H0 F H
  p0 : H0 p = none
  pF : F p = none
  top : H p = some (.lst (fs.reverse.map fun f => V.ref f.a))
  fr : ∀ f ∈ fs, H f.a = some (.lst [.str (S f.sg), .ref f.i]) ∧ (∃ xs, H f.i = some (.lst xs) ∧ RepL F xs f.ds)
  out : ∀ f ∈ fs, F f.a = none ∧ F f.i = none ∧ H0 f.a = none ∧ H0 f.i = none
  nd : (p :: fs.flatMap fun f => [f.a, f.i]).Nodup
section
variable {F0 H0 F H F' H' : Hp} {p : Addr} {fs : List Frm} {f : Frm} {v : V} {d : D}
/-- new things beside it -/
theorem SI.same (s : SI F0 H0 F H p fs) (h : Same H H') : SI F0 H0 F H' p fs :=
  ⟨⟨s.g.s, s.g.h.trans h, s.g.f, s.g.fh.trans h, s.g.nw⟩, s.p0, s.pF, h _ _ s.top, fun f hf => ⟨h _ _ (s.fr f hf).1, let ⟨xs, e, r⟩ := (s.fr f hf).2; ⟨xs, h _ _ e, r⟩⟩, s.out, s.nd⟩
/-- further data beside it -/
theorem SI.grow (s : SI F0 H0 F H p fs) (g : Grow F H F' H') : SI F0 H0 F' H' p fs := by
  refine ⟨s.g.trans g, s.p0, g.nw _ (by rw [s.top]; simp) s.pF, g.h _ _ s.top, fun f hf => ⟨g.h _ _ (s.fr f hf).1, ?_⟩, fun f hf => ?_, s.nd⟩
  · obtain ⟨xs, e, r⟩ := (s.fr f hf).2
    exact ⟨xs, g.h _ _ e, r.mono g.f⟩
  · obtain ⟨h1, h2, h3, h4⟩ := s.out f hf
    obtain ⟨xs, e, r⟩ := (s.fr f hf).2
    exact ⟨g.nw _ (by rw [(s.fr f hf).1]; simp) h1, g.nw _ (by rw [e]; simp) h2, h3, h4⟩
theorem mem_cells {q : Addr} : q ∈ (fs.flatMap fun f => [f.a, f.i]) ↔ ∃ f ∈ fs, q = f.a ∨ q = f.i := by
  simp [List.mem_flatMap]
theorem SI.ne (s : SI F0 H0 F H p fs) (hf : f ∈ fs) : f.a ≠ p ∧ f.i ≠ p := by
  have := (List.nodup_cons.mp s.nd).1
  exact ⟨fun e => this (mem_cells.mpr ⟨f, hf, .inl e.symm⟩), fun e => this (mem_cells.mpr ⟨f, hf, .inr e.symm⟩)⟩
theorem SI.start (g : Grow F0 H0 F H) {a i : Addr} {sg : List Nat} (e : H p = some (.lst [.ref a])) (ea : H a = some (.lst [.str (S sg), .ref i])) (ei : H i = some (.lst [])) (h1 : H0 p = none) (h2 : H0 a = none) (h3 : H0 i = none) (f1 : F p = none) (f2 : F a = none) (f3 : F i = none) (n1 : p ≠ a) (n2 : p ≠ i) (n3 : a ≠ i) :
    SI F0 H0 F H p [⟨a, i, sg, []⟩] := by
  refine ⟨g, h1, f1, e, fun f hf => ?_, fun f hf => ?_, ?_⟩
  · cases List.mem_singleton.mp hf
    exact ⟨ea, [], ei, .nil⟩
  · cases List.mem_singleton.mp hf
    exact ⟨f2, f3, h2, h3⟩
  · simp [n1, n2, n3]
/-- an item is put into the innermost frame -/
theorem SI.add (s : SI F0 H0 F H p (f :: fs)) (r : Rep F v d) {xs : List V} (e : H f.i = some (.lst xs)) : SI F0 H0 F (upd H f.i (.lst (xs ++ [v]))) p ({ f with ds := f.ds ++ [d] } :: fs) := by
  have nd2 := (List.nodup_cons.mp s.nd).2
  have o := s.out f List.mem_cons_self
  rw [List.flatMap_cons] at nd2
  have nda : f.a ≠ f.i := by
    intro z
    have : ([f.a, f.i] ++ (fs.flatMap fun f => [f.a, f.i])).Nodup := nd2
    simp [z] at this
  have nin : ∀ q, (∃ f' ∈ fs, q = f'.a ∨ q = f'.i) → q ≠ f.i := by
    intro q hq z
    have h1 := (List.nodup_append.mp nd2).2.2 f.i (by simp) q (mem_cells.mpr hq)
    exact h1 z.symm
  refine ⟨s.g.cell o.2.2.2 o.2.1, s.p0, s.pF, ?_, fun f' hf => ?_, fun f' hf => ?_, s.nd⟩
  · rw [upd_ne (Ne.symm (s.ne List.mem_cons_self).2), s.top]
    simp
  · rcases List.mem_cons.mp hf with rfl | hf
    · refine ⟨?_, xs ++ [v], upd_same, ?_⟩
      · show upd H f.i _ f.a = _
        rw [upd_ne nda]
        exact (s.fr f List.mem_cons_self).1
      · obtain ⟨ys, e2, r2⟩ := (s.fr f List.mem_cons_self).2
        rw [e] at e2
        cases e2
        exact r2.snoc r
    · obtain ⟨h1, ys, h2, h3⟩ := s.fr f' (List.mem_cons_of_mem _ hf)
      refine ⟨?_, ys, ?_, h3⟩
      · rw [upd_ne (nin _ ⟨f', hf, .inl rfl⟩)]; exact h1
      · rw [upd_ne (nin _ ⟨f', hf, .inr rfl⟩)]; exact h2
  · rcases List.mem_cons.mp hf with rfl | hf
    · exact o
    · exact s.out f' (List.mem_cons_of_mem _ hf)
/-- a new frame -/
theorem SI.push (s : SI F0 H0 F H p fs) {a i : Addr} {sg : List Nat} (hi : H i = none) (ha : upd H i (.lst []) a = none) :
    SI F0 H0 F (upd (upd (upd H i (.lst [])) a (.lst [.str (S sg), .ref i])) p (.lst ((fs.reverse.map fun f => V.ref f.a) ++ [.ref a]))) p (⟨a, i, sg, []⟩ :: fs) := by
  have hai : a ≠ i := fun z => by rw [z, upd_same] at ha; cases ha
  rw [upd_ne hai] at ha
  have np : ∀ q, H q = none → q ≠ p := fun q h z => by rw [z, s.top] at h; cases h
  have nf : ∀ q, H q = none → ∀ f ∈ fs, f.a ≠ q ∧ f.i ≠ q := fun q h f hf => by
    obtain ⟨h1, xs, h2, _⟩ := s.fr f hf
    exact ⟨fun z => (by rw [z, h] at h1; cases h1), fun z => (by rw [z, h] at h2; cases h2)⟩
  have f0 : ∀ q, H q = none → F q = none := fun q h => Same.free s.g.fh h
  have h0 : ∀ q, H q = none → H0 q = none := fun q h => Same.free s.g.h h
  have k1 : ∀ q, q ≠ p → q ≠ a → q ≠ i → upd (upd (upd H i (.lst [])) a (.lst [.str (S sg), .ref i])) p (.lst ((fs.reverse.map fun f => V.ref f.a) ++ [.ref a])) q = H q := fun q n1 n2 n3 => by rw [upd_ne n1, upd_ne n2, upd_ne n3]
  refine ⟨((s.g.cell (h0 i hi) (f0 i hi)).cell (h0 a ha) (f0 a ha)).cell s.p0 s.pF, s.p0, s.pF, ?_, fun f hf => ?_, fun f hf => ?_, ?_⟩
  · rw [upd_same, List.reverse_cons, List.map_append]; rfl
  · rcases List.mem_cons.mp hf with rfl | hf
    · refine ⟨?_, [], ?_, .nil⟩
      · show upd _ p _ a = _
        rw [upd_ne (np a ha), upd_same]
      · show upd _ p _ i = _
        rw [upd_ne (np i hi), upd_ne (Ne.symm hai), upd_same]
    · obtain ⟨h1, ys, h2, h3⟩ := s.fr f hf
      exact ⟨by rw [k1 _ (s.ne hf).1 (nf a ha f hf).1 (nf i hi f hf).1]; exact h1, ys, by rw [k1 _ (s.ne hf).2 (nf a ha f hf).2 (nf i hi f hf).2]; exact h2, h3⟩
  · rcases List.mem_cons.mp hf with rfl | hf
    · exact ⟨f0 a ha, f0 i hi, h0 a ha, h0 i hi⟩
    · exact s.out f hf
  · have n0 := s.nd
    rw [List.nodup_cons] at n0
    rw [List.flatMap_cons]
    show (p :: a :: i :: (fs.flatMap fun f => [f.a, f.i])).Nodup
    rw [List.nodup_cons, List.nodup_cons, List.nodup_cons]
    refine ⟨?_, ?_, ?_, n0.2⟩
    · simp only [List.mem_cons, not_or]
      exact ⟨Ne.symm (np a ha), Ne.symm (np i hi), n0.1⟩
    · simp only [List.mem_cons, not_or]
      refine ⟨hai, fun z => ?_⟩
      obtain ⟨f, hf, q⟩ := mem_cells.mp z
      rcases q with q | q
      · exact (nf a ha f hf).1 q.symm
      · exact (nf a ha f hf).2 q.symm
    · intro z
      obtain ⟨f, hf, q⟩ := mem_cells.mp z
      rcases q with q | q
      · exact (nf i hi f hf).1 q.symm
      · exact (nf i hi f hf).2 q.symm
/-- the innermost frame goes: its items are a cell of no one -/
theorem SI.pop (s : SI F0 H0 F H p (f :: fs)) : SI F0 H0 F (upd H p (.lst (fs.reverse.map fun f => V.ref f.a))) p fs ∧ H f.a = some (.lst [.str (S f.sg), .ref f.i]) ∧ (∃ xs, H f.i = some (.lst xs) ∧ RepL F xs f.ds) ∧ f.a ≠ p ∧ f.i ≠ p ∧ F f.i = none ∧ H0 f.i = none ∧ ∀ f' ∈ fs, f'.a ≠ f.i ∧ f'.i ≠ f.i := by
  have nd2 := s.nd
  rw [List.flatMap_cons] at nd2
  have nd3 : (p :: f.a :: f.i :: (fs.flatMap fun f => [f.a, f.i])).Nodup := nd2
  rw [List.nodup_cons, List.nodup_cons, List.nodup_cons] at nd3
  obtain ⟨h1, h2⟩ := s.fr f List.mem_cons_self
  have o := s.out f List.mem_cons_self
  refine ⟨⟨s.g.cell s.p0 s.pF, s.p0, s.pF, upd_same, fun f' hf => ?_, fun f' hf => s.out f' (List.mem_cons_of_mem _ hf), ?_⟩, h1, h2, (s.ne List.mem_cons_self).1, (s.ne List.mem_cons_self).2, o.2.1, o.2.2.2, fun f' hf => ?_⟩
  · obtain ⟨k1, ys, k2, k3⟩ := s.fr f' (List.mem_cons_of_mem _ hf)
    have n := s.ne (List.mem_cons_of_mem _ hf)
    exact ⟨by rw [upd_ne n.1]; exact k1, ys, by rw [upd_ne n.2]; exact k2, k3⟩
  · rw [List.nodup_cons]
    exact ⟨fun z => nd3.1 (by simp [z]), nd3.2.2.2⟩
  · exact ⟨fun z => nd3.2.2.1 (mem_cells.mpr ⟨f', hf, .inl z.symm⟩), fun z => nd3.2.2.1 (mem_cells.mpr ⟨f', hf, .inr z.symm⟩)⟩
/-- a cell that is no one's becomes data -/
theorem SI.frz (s : SI F0 H0 F H p fs) {i : Addr} {o : HO} (e : H i = some o) (h0 : H0 i = none) (f0 : F i = none) (np : i ≠ p) (n : ∀ f ∈ fs, f.a ≠ i ∧ f.i ≠ i) : SI F0 H0 (upd F i o) H p fs := by
  refine ⟨s.g.frz h0 f0 e, s.p0, by rw [upd_ne (Ne.symm np)]; exact s.pF, s.top, fun f hf => ?_, fun f hf => ?_, s.nd⟩
  · obtain ⟨h1, xs, h2, h3⟩ := s.fr f hf
    exact ⟨h1, xs, h2, h3.mono (same_upd f0)⟩
  · obtain ⟨h1, h2, h3⟩ := s.out f hf
    exact ⟨by rw [upd_ne (n f hf).1]; exact h1, by rw [upd_ne (n f hf).2]; exact h2, h3⟩
end
end MT
set_option Elab.async false
set_option linter.all false
set_option maxRecDepth 100000
set_option maxHeartbeats 4000000
namespace K56
open PySem PySem.Spec PyProof.Rows L2 MT
open SX (S)
open KM
local macro_rules | `(tactic| walk_at "mt") => `(tactic| simp only [L2.start, List.map_cons, List.map_nil, List.length_cons, List.length_nil, List.replicate_succ, List.replicate_zero, Nat.reduceSub, Nat.reduceAdd, Nat.sub_self, Nat.zero_add, List.cons_append, List.nil_append, List.append_nil, List.getElem?_cons_zero, List.getElem?_cons_succ, List.set_cons_zero, List.set_cons_succ, Option.some.injEq, exists_eq_left', exists_eq_left, exists_eq_right, V.bl.injEq, V.int.injEq, V.str.injEq, V.ref.injEq, reduceCtorEq, false_and, and_false, true_and, and_true, false_or, or_false, exists_false, exists_const, ↓reduceIte, Bool.false_eq_true, decide_eq_true_eq, Bool.and_eq_true, Bool.not_true, Bool.not_false, List.cons.injEq, exists_and_left, exists_and_right,
  tRet, tBM, tBM0, tAndV, tOrV, tNotV, tAnd, tOr, tNot, tB, tTest, tIf, tIfS, tC, tVar, tOp, tUn, tChain, rI0, rI, rU, tFn, tCons, tNil, tCB, tTup, tLst, tAsg, gName, tNext, tDrop, tRetN, tPar, tPar3, tAug, ipI, tIs, tIss, rLenM, rIxM, rAddM, rEqM, rNeM, rSignIn, rInt, rAbs, rStrI, tSl, tPart, tNoPart, rSlM, tIsN, tNotN, List.any_cons, List.any_nil, Bool.or_false, tSeq, isa, D.ty, decide_true, decide_false, Bool.true_or, Bool.or_true, Bool.false_or, Bool.and_true, Bool.true_and, Bool.false_and, Bool.and_false, eq_self_iff_true, not_true_eq_false, not_false_eq_true, bne_self_eq_false])
theorem cutN {l : List Nat} {p k : Nat} {e : Int} (h : e = (p : Int) + (k : Int)) : cutS (S l) (some (p : Int)) (some e) = S ((l.drop p).take k) := by
  have e2 : e = ((p + k : Nat) : Int) := by omega
  rw [e2]
  unfold cutS
  rw [HT.sIx_nat, HT.sIx_nat, Sl]
  have hd : l.drop (min p l.length) = l.drop p := by
    by_cases h : p ≤ l.length
    · rw [Nat.min_eq_left h]
    · rw [Nat.min_eq_right (by omega), List.drop_of_length_le (Nat.le_refl _), List.drop_of_length_le (by omega)]
  show S ((l.drop (min p l.length)).take _) = _
  rw [hd]
  congr 1
  apply List.ext_getElem?
  intro i
  rw [List.getElem?_take, List.getElem?_take]
  by_cases h1 : i < k
  · rw [if_pos h1]
    split
    · rfl
    · rw [List.getElem?_eq_none]
      rw [List.length_drop]; omega
  · rw [if_neg h1, if_neg (by omega)]
theorem signAt {l : List Nat} {p c : Nat} (h : l[p]? = some c) : atI l (p : Int) = some c := atI_nat h
def flatOf : D → Option V
  | .bl b => some (.bl b)
  | .int i => some (.int i)
  | .str l => some (.str (S l))
  | _ => none
def spAtomAt : Sp := fun vs H Q _ => ∃ (l : List Nat) (p : Nat), vs = [.str (S l), .int (p : Int)] ∧ p ≤ l.length ∧ l.length ≤ BL ∧
  (itemOf (word (l.drop p)) = none → ∀ H', Same H H' → Q .non H') ∧
  ∀ d, itemOf (word (l.drop p)) = some d → ∀ v t H', flatOf d = some v → Same H H' → H t = none → H' t = some (.tup [v, .int ((p + (word (l.drop p)).length : Nat) : Int)]) → Q (.ref t) H'
theorem word_at {l : List Nat} {p j : Nat} (h : j ≤ (word (l.drop p)).length) : j < (word (l.drop p)).length ↔ ∃ c, l[p + j]? = some c ∧ nd c = true := by
  have key : ∀ (m : List Nat) (j : Nat), j ≤ (word m).length → (j < (word m).length ↔ ∃ c, m[j]? = some c ∧ nd c = true) := by
    intro m
    induction m with
    | nil => intro j h; simp [word]
    | cons x m ih =>
      intro j h
      by_cases hx : nd x = true
      · have e : word (x :: m) = x :: word m := by simp [word, List.takeWhile_cons, hx]
        rw [e] at h ⊢
        cases j with
        | zero => simp [hx]
        | succ j =>
          have := ih j (by simpa using h)
          simpa using this
      · have e : word (x :: m) = [] := by simp [word, List.takeWhile_cons, hx]
        rw [e] at h ⊢
        have : j = 0 := by simpa using h
        subst this
        simp [hx]
  have := key (l.drop p) j h
  rw [List.getElem?_drop] at this
  exact this
theorem word_take {l : List Nat} {p : Nat} : (l.drop p).take (word (l.drop p)).length = word (l.drop p) := by
  have : ∀ m : List Nat, m.take (word m).length = word m := by
    intro m
    induction m with
    | nil => rfl
    | cons x m ih =>
      by_cases hx : nd x = true
      · have e : word (x :: m) = x :: word m := by simp [word, List.takeWhile_cons, hx]
        rw [e]; simp [ih]
      · have e : word (x :: m) = [] := by simp [word, List.takeWhile_cons, hx]
        rw [e]; rfl
  exact this _
theorem dat_str {H : Hp} {l : List Nat} (h : l.length ≤ BL) : Dat H (.str (S l)) (.str l) := ⟨fun _ => none, fun _ _ e => (by cases e), .str h⟩
/-- behind the loop -/
theorem atom_end {K : PySem.W.Frag} {w : List Nat} {e : Int} {H : Hp} {Q : VK} {tx pl : Option V} (hwB : w.length ≤ BL) (q0 : itemOf w = none → ∀ H', Same H H' → Q .non H') (q1 : ∀ d, itemOf w = some d → ∀ v t H', flatOf d = some v → Same H H' → H t = none → H' t = some (.tup [v, .int e]) → Q (.ref t) H') :
    (tSeq (tAsg (tFn spNumberIn (tCons (tVar 3) tNil)) (gName 4)) (tSeq (tIfS (tB (tNotN (tVar 4))) (tRet (tTup (tCons (tVar 4) (tCons (tVar 2) tNil)))) tNext) (tSeq (tIfS (tTest (tOp (rKd (He.ga K "SIGNS") t_SIGNS false) (tVar 3) (tC (.ref (He.ga K "SIGNS"))))) (tRet (tTup (tCons (tOp (rKdGet (He.ga K "SIGNS") t_SIGNS) (tC (.ref (He.ga K "SIGNS"))) (tVar 3)) (tCons (tVar 2) tNil)))) tNext) (tRet (tIf (tB (tFn spIsWord (tCons (tVar 3) tNil))) (tTup (tCons (tVar 3) (tCons (tVar 2) tNil))) (tC .non))))))
    (E0N Q) [tx, pl, some (.int e), some (.str (S w)), none] H := by
  walk_at "mt"
  refine ⟨w, rfl, hwB, fun H1 s1 => ?_⟩
  have h2 : 2 ≤ sizeLine := by decide +kernel
  have tup : ∀ {d : D} {v : V} {H2 : Hp} {t : Addr}, itemOf w = some d → flatOf d = some v → Same H H2 → H2 t = none → Q (.ref t) (upd H2 t (.tup [v, .int e])) := fun hi hv s ht =>
    q1 _ hi _ _ _ hv (s.trans (same_upd ht)) (Same.free s ht) upd_same
  unfold numV
  cases hn : numIn w with
  | some n =>
    have ne1 : w ≠ [43] := fun z => by rw [z] at hn; cases hn
    have ne2 : w ≠ [45] := fun z => by rw [z] at hn; cases hn
    have hi : itemOf w = some (.int n) := by unfold itemOf; rw [if_neg ne1, if_neg ne2, hn]
    walk_at "mt"
    exact ⟨h2, fun t ht => tup hi rfl s1 ht⟩
  | none =>
    walk_at "mt"
    unfold rKd t_SIGNS
    refine ⟨rfl, ?_⟩
    by_cases e1 : w = [43]
    · have hi : itemOf w = some (.bl true) := by unfold itemOf; rw [if_pos e1]
      subst e1
      walk_at "mt"
      exact ⟨rfl, .bl true, rfl, h2, fun t ht => tup hi rfl s1 ht⟩
    · by_cases e2 : w = [45]
      · have hi : itemOf w = some (.bl false) := by unfold itemOf; rw [if_neg e1, if_pos e2]
        subst e2
        walk_at "mt"
        exact ⟨rfl, .bl false, rfl, h2, fun t ht => tup hi rfl s1 ht⟩
      · have n1 : ¬ S w = S [43] := fun z => e1 (SX.S_inj z)
        have n2 : ¬ S w = S [45] := fun z => e2 (SX.S_inj z)
        simp only [n1, n2, ↓reduceIte]
        walk_at "mt"
        refine ⟨_, .str w, rfl, dat_str hwB, fun H2 s2 => ?_⟩
        have hi0 : itemOf w = if isWordL w = true then some (.str w) else none := by unfold itemOf; rw [if_neg e1, if_neg e2, hn]
        have e3 : wordD (.str w) = isWordL w := rfl
        rw [e3]
        cases hw : isWordL w with
        | true =>
          rw [hw] at hi0
          walk_at "mt"
          exact ⟨h2, fun t ht => tup hi0 rfl (s1.trans s2) ht⟩
        | false =>
          rw [hw] at hi0
          walk_at "mt"
          exact q0 hi0 H2 (s1.trans s2)
theorem pr_atom_at {K : PySem.W.Frag} (vs : List V) (H : Hp) (Q : VK) (E : XK) (h : spAtomAt vs H Q E) : t_atom_at K spNumberIn spIsWord (E0N Q) (L2.start ["text", "place", "end", "word", "number"] vs) H := by
  obtain ⟨l, p, rfl, hp, hl, q0, q1⟩ := h
  unfold t_atom_at
  have hw : (word (l.drop p)).length ≤ l.length - p := by
    have := word_le (l.drop p)
    rw [List.length_drop] at this
    exact this
  have fin := atom_end (K := K) (w := word (l.drop p)) (e := ((p + (word (l.drop p)).length : Nat) : Int)) (H := H) (Q := Q) (tx := some (.str (S l))) (pl := some (.int (p : Int))) (by omega) q0 q1
  revert fin
  generalize (tSeq (tAsg (tFn spNumberIn (tCons (tVar 3) tNil)) (gName 4)) _) = T
  intro fin
  walk_at "mt"
  unfold tWhile
  refine ⟨fun m σ H' => ∃ j, m = (word (l.drop p)).length - j ∧ j ≤ (word (l.drop p)).length ∧ σ = [some (.str (S l)), some (.int (p : Int)), some (.int ((p + j : Nat) : Int)), none, none] ∧ H' = H, ⟨_, 0, rfl, Nat.zero_le _, rfl, rfl⟩, ?_⟩
  rintro m σ H' ⟨j, rfl, hj, rfl, rfl⟩
  walk_at "mt"
  rw [Sl]
  refine ⟨bl_le hl, ?_⟩
  by_cases hjw : j < (word (l.drop p)).length
  · obtain ⟨c, hc, hn⟩ := (word_at hj).mp hjw
    have hlt : p + j < l.length := (List.getElem?_eq_some_iff.mp hc).1
    rw [if_pos (by omega)]
    refine ⟨bl_le hl, c, signAt hc, c, rfl, ?_⟩
    rw [if_pos (by simpa [nd, delims] using hn)]
    exact ⟨fun σ' H1 => σ' = [some (.str (S l)), some (.int (p : Int)), some (.int ((p + (j + 1) : Nat) : Int)), none, none] ∧ H1 = H', fun σ' H1 z => ⟨_, by omega, j + 1, rfl, by omega, z.1, z.2⟩, by
      refine ⟨?_, rfl⟩
      have : ((p + j : Nat) : Int) + 1 = ((p + (j + 1) : Nat) : Int) := by omega
      rw [this]⟩
  · have ej : j = (word (l.drop p)).length := by omega
    have hcut : cutS (S l) (some (p : Int)) (some ((p + j : Nat) : Int)) = S (word (l.drop p)) := by
      rw [cutN (k := j) (by omega), ej, word_take]
    by_cases hlt : p + j < l.length
    · obtain ⟨c, hc⟩ : ∃ c, l[p + j]? = some c := ⟨_, List.getElem?_eq_getElem hlt⟩
      have hn : ¬ nd c = true := fun z => hjw ((word_at hj).mpr ⟨c, hc, z⟩)
      rw [if_pos (by omega)]
      refine ⟨bl_le hl, c, signAt hc, c, rfl, ?_⟩
      rw [if_neg (by simpa [nd, delims] using hn)]
      rw [hcut, ej]
      exact ⟨bl_le hl, fin⟩
    · rw [if_neg (by omega)]
      rw [hcut, ej]
      exact ⟨bl_le hl, fin⟩
end K56
set_option Elab.async false
set_option linter.all false
set_option maxRecDepth 100000
set_option maxHeartbeats 4000000
namespace K56
open PySem PySem.Spec PyProof.Rows L2 MT
open SX (S)
open KM
local macro_rules | `(tactic| walk_at "mt") => `(tactic| simp only [L2.start, List.map_cons, List.map_nil, List.length_cons, List.length_nil, List.replicate_succ, List.replicate_zero, Nat.reduceSub, Nat.reduceAdd, Nat.sub_self, Nat.zero_add, List.cons_append, List.nil_append, List.append_nil, List.getElem?_cons_zero, List.getElem?_cons_succ, List.set_cons_zero, List.set_cons_succ, Option.some.injEq, exists_eq_left', exists_eq_left, exists_eq_right, V.bl.injEq, V.int.injEq, V.str.injEq, V.ref.injEq, reduceCtorEq, false_and, and_false, true_and, and_true, false_or, or_false, exists_false, exists_const, ↓reduceIte, Bool.false_eq_true, decide_eq_true_eq, Bool.and_eq_true, Bool.not_true, Bool.not_false, List.cons.injEq, exists_and_left, exists_and_right,
  tRet, tBM, tBM0, tAndV, tOrV, tNotV, tAnd, tOr, tNot, tB, tTest, tIf, tIfS, tC, tVar, tOp, tUn, tChain, rI0, rI, rU, tFn, tCons, tNil, tCB, tTup, tLst, tAsg, gName, tNext, tDrop, tRetN, tPar, tPar3, tAug, gTup, gUnl, gCons, gNil, rPopM, rAppendM, rExtendM, rTupM, rListM, ipI, tIs, tIss, rLenM, rIxM, rAddM, rEqM, rNeM, rSignIn, rInt, rAbs, rStrI, tSl, tPart, tNoPart, rSlM, tIsN, tNotN, List.any_cons, List.any_nil, Bool.or_false, tSeq, isa, D.ty, decide_true, decide_false, Bool.true_or, Bool.or_true, Bool.false_or, Bool.and_true, Bool.true_and, Bool.false_and, Bool.and_false, eq_self_iff_true, not_true_eq_false, not_false_eq_true, bne_self_eq_false])
def clC (sg : List Nat) : List Nat := if sg = [40] then [41] else [93]
def mkF (sg : List Nat) (ds : List D) : D := if sg = [40] then .tup ds else .lst ds
abbrev Vw := List (List Nat × List D)
/-- what closes, closes -/
def clos : Vw → List Nat → Vw × List Nat
  | (sg, ds) :: (sg', ds') :: q, c :: r => if [c] = clC sg then clos ((sg', ds' ++ [mkF sg ds]) :: q) r else ((sg, ds) :: (sg', ds') :: q, c :: r)
  | st, rest => (st, rest)
def vw (fs : List Frm) : Vw := fs.map fun f => (f.sg, f.ds)
/-- all but the outermost are opened by a sign; no items are more than k -/
def Shp (k : Nat) : List Frm → Prop
  | [] => False
  | [f] => f.ds.length ≤ k
  | f :: g :: fs => (f.sg = [40] ∨ f.sg = [91]) ∧ f.ds.length ≤ k ∧ Shp k (g :: fs)
def spClosed : Sp := fun vs H Q _ => ∃ (F0 H0 F : Hp) (p : Addr) (fs : List Frm) (l : List Nat) (k : Nat), vs = [.str (S l), .int (k : Int), .ref p] ∧ l.length ≤ BL ∧ k ≤ l.length ∧ SI F0 H0 F H p fs ∧ Shp k fs ∧
  ∀ F' H' fs' k', SI F0 H0 F' H' p fs' → Shp k' fs' → k ≤ k' → k' ≤ l.length → clos (vw fs) (l.drop k) = (vw fs', l.drop k') → clos (vw fs') (l.drop k') = (vw fs', l.drop k') → Q (.int (k' : Int)) H'
theorem Shp.mono {k k' : Nat} (h : k ≤ k') : ∀ {fs : List Frm}, Shp k fs → Shp k' fs
  | [], s => s.elim
  | [f], s => Nat.le_trans s h
  | f :: g :: fs, s => ⟨s.1, Nat.le_trans s.2.1 h, s.2.2.mono h⟩
theorem Shp.add {k : Nat} {f : Frm} {fs : List Frm} {d : D} (s : Shp k (f :: fs)) : Shp (k + 1) ({ f with ds := f.ds ++ [d] } :: fs) := by
  cases fs with
  | nil => show (f.ds ++ [d]).length ≤ k + 1; rw [List.length_append]; exact Nat.succ_le_succ s
  | cons g fs => exact ⟨s.1, by show (f.ds ++ [d]).length ≤ k + 1; rw [List.length_append]; exact Nat.succ_le_succ s.2.1, s.2.2.mono (Nat.le_succ k)⟩
theorem Shp.len {k : Nat} {f : Frm} {fs : List Frm} (s : Shp k (f :: fs)) : f.ds.length ≤ k := by
  cases fs with
  | nil => exact s
  | cons g fs => exact s.2.1
def y_closed (K : PySem.W.Frag) : TS := (tSeq (tAsg (tBM0 K "list" rPopM (tVar 2)) (gUnl K 2 (gCons (gName 3) (gCons (gName 4) gNil)))) (tSeq (tDrop (tBM K "list" rAppendM (tOp rIxM (tOp rIxM (tVar 2) (tUn (rU fun i => .int (-i)) (tC (.int 1)))) (tC (.int 1))) (tCons (tIf (tTest (tOp rEqM (tVar 3) (tC (.str (S [40]))))) (tCB rTupM (tCons (tVar 4) tNil)) (tVar 4)) tNil))) (tAug 1 (tC (.int 1)) (ipI fun i j => i + j))))
theorem at0 {α : Type} {x : α} {xs : List α} : atI (x :: xs) 0 = some x := by simp [atI, ixN]
theorem at1 {α : Type} {x y : α} {xs : List α} : atI (x :: y :: xs) 1 = some y := by
  have := atI_nat (xs := x :: y :: xs) (j := 1) (v := y) rfl
  simpa using this
theorem _root_.MT.SI.lst {F0 H0 F H : Hp} {p : Addr} {f : Frm} {fs : List Frm} (s : SI F0 H0 F H p (f :: fs)) : ∃ xs, H f.i = some (.lst xs) ∧ RepL F xs f.ds ∧ xs.length = f.ds.length := by
  obtain ⟨_, xs, h, r⟩ := s.fr f List.mem_cons_self
  exact ⟨xs, h, r, r.length⟩
theorem body_closed {K : PySem.W.Frag} {F0 H0 F H : Hp} {p : Addr} {f g : Frm} {fs : List Frm} {k : Nat} {De : L2.Ends} {tx x y : Option V} (si : SI F0 H0 F H p (f :: g :: fs)) (sh : Shp k (f :: g :: fs)) (hk : k ≤ BL)
    (nx : ∀ F' H' u v, SI F0 H0 F' H' p ({ g with ds := g.ds ++ [mkF f.sg f.ds] } :: fs) → De.nx [tx, some (.int ((k + 1 : Nat) : Int)), some (.ref p), u, v] H') :
    y_closed K De [tx, some (.int (k : Int)), some (.ref p), x, y] H := by
  obtain ⟨s1, fa, ⟨xs, fi, rx⟩, np, nip, Fi, H0i, nfs⟩ := si.pop
  unfold y_closed
  walk_at "mt"
  have top : H p = some (.lst (((g :: fs).reverse.map fun f => V.ref f.a) ++ [.ref f.a])) := by rw [si.top, List.reverse_cons, List.map_append]; rfl
  refine ⟨tyL top, _, _, top, _, rfl, [.str (S f.sg), .ref f.i], .of (by rw [upd_ne np]; exact fa), rfl, _, _, rfl, _, _, rfl, rfl, ?_⟩
  rw [upd_same]
  refine ⟨_, rfl, V.ref g.a, ?_, ?_⟩
  · rw [List.reverse_cons, List.map_append]
    exact atI_last _ _
  dsimp only
  have fi1 : upd H p (.lst ((g :: fs).reverse.map fun f => V.ref f.a)) f.i = some (.lst xs) := by rw [upd_ne nip]; exact fi
  revert s1 fi1
  generalize upd H p (.lst ((g :: fs).reverse.map fun f => V.ref f.a)) = H1
  intro s1 fi1
  obtain ⟨ga, _⟩ := s1.fr g List.mem_cons_self
  obtain ⟨ys, gi, ry, hyl⟩ := s1.lst
  have hsh : f.ds.length ≤ k ∧ g.ds.length ≤ k := ⟨sh.len, sh.2.2.len⟩
  have hBL := bl_sl (Nat.le_refl BL)
  refine ⟨_, by rw [ga]; rfl, V.ref g.i, at1, tyL gi, ?_⟩
  have ek : ((k : Int) + 1) = ((k + 1 : Nat) : Int) := by omega
  rw [ek]
  by_cases e : f.sg = [40]
  · rw [if_pos (by rw [e])]
    dsimp only
    rw [fi1]
    dsimp only
    intro t ht
    have s2 := s1.grow ((Grow.refl s1.g.fh).new (o := .tup xs) ht)
    have gi2 : upd H1 t (.tup xs) g.i = some (.lst ys) := by rw [upd_ne (ne_of_none gi ht)]; exact gi
    have rt : Rep (upd F t (.tup xs)) (.ref t) (mkF f.sg f.ds) := by
      unfold mkF
      rw [if_pos e]
      exact .tup upd_same (rx.mono (same_upd (Same.free s1.g.fh ht))) (by omega)
    have s3 := s2.add rt gi2
    exact ⟨ys, gi2, by omega, nx _ _ _ _ s3⟩
  · rw [if_neg (fun z => e (SX.S_inj z))]
    have s2 := s1.frz fi1 H0i Fi nip nfs
    have rt : Rep (upd F f.i (.lst xs)) (.ref f.i) (mkF f.sg f.ds) := by
      unfold mkF
      rw [if_neg e]
      exact .lst upd_same (rx.mono (same_upd Fi)) (by omega)
    have s3 := s2.add rt gi
    exact ⟨ys, gi, by omega, nx _ _ _ _ s3⟩
theorem pr_closed {K : PySem.W.Frag} (vs : List V) (H : Hp) (Q : VK) (E : XK) (h : spClosed vs H Q E) : t_closed K (E0N Q) (L2.start ["text", "place", "stack", "sign", "items"] vs) H := by
  obtain ⟨F0, H0, F, p, fs, l, k, rfl, hl, hk, si, sh, q⟩ := h
  have bd := @body_closed K
  unfold t_closed
  unfold y_closed at bd
  revert bd
  generalize (tSeq (tAsg (tBM0 K "list" rPopM (tVar 2)) _) _) = B
  intro bd
  walk_at "mt"
  unfold tWhile
  refine ⟨fun m σ H' => ∃ F' fs' k' x y, m = l.length - k' ∧ k ≤ k' ∧ k' ≤ l.length ∧ SI F0 H0 F' H' p fs' ∧ Shp k' fs' ∧ clos (vw fs) (l.drop k) = clos (vw fs') (l.drop k') ∧ σ = [some (.str (S l)), some (.int (k' : Int)), some (.ref p), x, y], ⟨_, F, fs, k, none, none, rfl, Nat.le_refl _, hk, si, sh, rfl, rfl⟩, ?_⟩
  rintro m σ H' ⟨F', fs', k', x, y, rfl, hkk, hk', si', sh', hc, rfl⟩
  walk_at "mt"
  rw [si'.top]
  refine ⟨_, rfl, ?_⟩
  rw [List.length_map, List.length_reverse]
  match fs', si', sh', hc with
  | [], _, sh', _ => exact sh'.elim
  | [f], si', sh', hc =>
    rw [if_neg (by simp)]
    exact q F' H' [f] k' si' sh' hkk hk' (hc.trans (by cases l.drop k' <;> rfl)) (by cases l.drop k' <;> rfl)
  | f :: g :: fs, si', sh', hc =>
    rw [if_pos (by simp only [List.length_cons]; omega)]
    refine ⟨by rw [Sl]; exact bl_le hl, ?_⟩
    rw [cutN (k := 1) (by omega)]
    obtain ⟨fa, xs, fi, rx⟩ := si'.fr f List.mem_cons_self
    refine ⟨_, rfl, V.ref f.a, ?_, ?_⟩
    · rw [List.reverse_cons, List.map_append]
      exact atI_last _ _
    refine ⟨_, by rw [fa]; rfl, .str (S f.sg), at0, rfl, ?_⟩
    dsimp only
    have tc : t_CLOSERS (S f.sg) = some (.str (S (clC f.sg))) := by
      rcases sh'.1 with e | e
      · rw [e]; rfl
      · rw [e]; rfl
    refine ⟨_, tc, ?_⟩
    dsimp only
    have stop : ∀ (h : clos (vw (f :: g :: fs)) (l.drop k') = (vw (f :: g :: fs), l.drop k')), Q (.int (k' : Int)) H' := fun h => q F' H' _ k' si' sh' hkk hk' (hc.trans h) h
    cases hd : l.drop k' with
    | nil =>
      rw [if_neg (fun z => by
        have := SX.S_inj z
        unfold clC at this
        split at this <;> simp at this)]
      exact stop (by rw [hd]; rfl)
    | cons c r =>
      have hlt : k' < l.length := by
        have : (l.drop k').length = (c :: r).length := by rw [hd]
        rw [List.length_drop] at this
        simp at this
        omega
      have hr : l.drop (k' + 1) = r := by rw [← List.drop_drop, hd]; rfl
      by_cases hcc : [c] = clC f.sg
      · rw [if_pos (by rw [← hcc]; rfl)]
        refine ⟨fun σ' H2 => ∃ F2 u v, SI F0 H0 F2 H2 p ({ g with ds := g.ds ++ [mkF f.sg f.ds] } :: fs) ∧ σ' = [some (.str (S l)), some (.int ((k' + 1 : Nat) : Int)), some (.ref p), u, v], fun σ' H2 z => ?_, ?_⟩
        · obtain ⟨F2, u, v, s2, rfl⟩ := z
          exact ⟨_, by omega, F2, _, k' + 1, rfl, by omega, by omega, s2, sh'.2.2.add, hc.trans (by rw [hd, hr]; unfold vw; simp only [List.map_cons]; rw [clos, if_pos hcc]), u, v, rfl⟩
        · exact bd si' sh' (by omega) fun F2 H2 u v s2 => ⟨F2, u, v, s2, rfl⟩
      · rw [if_neg (fun z => hcc (by simpa using SX.S_inj z))]
        exact stop (by rw [hd]; unfold vw; simp only [List.map_cons]; rw [clos, if_neg hcc])
end K56
set_option Elab.async false
set_option linter.all false
set_option maxRecDepth 100000
set_option maxHeartbeats 4000000
namespace K56
open PySem MT KM
/-- open frames as the stack shows them -/
def up (fr : Fr) : Vw := fr.map fun q => ([q.1], q.2)
def okF (fr : Fr) : Prop := ∀ q ∈ fr, q.1 = 40 ∨ q.1 = 91
theorem cl_iff {c k : Nat} (h : k = 40 ∨ k = 91) : [c] = clC [k] ↔ c = closer k := by
  rcases h with rfl | rfl <;> simp [clC, closer]
theorem mk_eq {k : Nat} {ds : List D} : mkF [k] ds = mkC k ds := by
  unfold mkF mkC
  by_cases h : k = 40
  · subst h; rfl
  · rw [if_neg h, if_neg (by simpa using h)]
theorem R_other {L k : Nat} {ds : List D} {q : Fr} {rest : List Nat} (h1 : rest.head? ≠ some (closer k)) (h2 : rest.take 2 ≠ [44, 32]) : KM.R L ((k, ds) :: q) rest false = none := by
  show KM.run L (rest.length + 1) ((k, ds) :: q) rest false = none
  unfold KM.run
  rw [if_neg h1, if_neg h2]
theorem R_next {L k : Nat} {ds : List D} {q : Fr} {rest : List Nat} (h2 : rest.take 2 = [44, 32]) : KM.R L ((k, ds) :: q) rest false = KM.R L ((k, ds) :: q) (rest.drop 2) true := by
  match rest, h2 with
  | [], h => cases h
  | [a], h => cases h
  | a :: b :: r, h =>
    have : a = 44 ∧ b = 32 := by simpa using h
    rw [this.1, this.2]
    exact R_comma
/-- what is read, when all closes that can -/
theorem clos_val : ∀ (rest : List Nat) (k : Nat) (ds : List D) (q : Fr), okF ((k, ds) :: q) → ∀ st r2, clos (up ((k, ds) :: q) ++ [([], [])]) rest = (st, r2) →
    (∃ d, st = [([], [d])] ∧ KM.R 80 ((k, ds) :: q) rest false = if r2 = [] then some d else none) ∨
    (∃ k2 ds2 q2, st = up ((k2, ds2) :: q2) ++ [([], [])] ∧ okF ((k2, ds2) :: q2) ∧ q2.length ≤ q.length ∧ KM.R 80 ((k, ds) :: q) rest false = KM.R 80 ((k2, ds2) :: q2) r2 false ∧ r2.head? ≠ some (closer k2))
  | [], k, ds, q, ok, st, r2, h => by
    have h2 : st = up ((k, ds) :: q) ++ [([], [])] ∧ r2 = [] := by
      cases q with
      | nil => simp [up, clos] at h; exact ⟨h.1.symm, h.2⟩
      | cons g q => simp [up, clos] at h; exact ⟨h.1.symm, h.2⟩
    rw [h2.1, h2.2]
    exact .inr ⟨k, ds, q, rfl, ok, Nat.le_refl _, rfl, by simp⟩
  | c :: r, k, ds, q, ok, st, r2, h => by
    have hk := ok (k, ds) List.mem_cons_self
    by_cases hc : c = closer k
    · cases q with
      | nil =>
        have h2 : clos [([], [] ++ [mkF [k] ds])] r = (st, r2) := by
          have : clos ([k] |> fun x => (x, ds) :: [([], [])]) (c :: r) = (st, r2) := h
          rw [clos, if_pos ((cl_iff hk).mpr hc)] at this
          exact this
        have h3 : st = [([], [mkC k ds])] ∧ r2 = r := by
          rw [mk_eq] at h2
          cases r <;> (simp [clos] at h2; exact ⟨h2.1.symm, by simp [h2.2]⟩)
        rw [h3.1, h3.2, hc, R_close]
        exact .inl ⟨mkC k ds, rfl, rfl⟩
      | cons g q =>
        obtain ⟨k2, ds2⟩ := g
        have h2 : clos (up ((k2, ds2 ++ [mkC k ds]) :: q) ++ [([], [])]) r = (st, r2) := by
          have : clos (([k], ds) :: ([k2], ds2) :: (up q ++ [([], [])])) (c :: r) = (st, r2) := h
          rw [clos, if_pos ((cl_iff hk).mpr hc), mk_eq] at this
          exact this
        have ok2 : okF ((k2, ds2 ++ [mkC k ds]) :: q) := fun x hx => by
          rcases List.mem_cons.mp hx with rfl | hx
          · exact ok (k2, ds2) (by simp)
          · exact ok x (by simp [hx])
        rw [hc, R_close]
        show _ ∨ _
        rcases clos_val r k2 (ds2 ++ [mkC k ds]) q ok2 st r2 h2 with ⟨d, e1, e2⟩ | ⟨a, b, cc, e1, e2, e3, e4, e5⟩
        · exact .inl ⟨d, e1, e2⟩
        · exact .inr ⟨a, b, cc, e1, e2, by simp; omega, e4, e5⟩
    · have h2 : st = up ((k, ds) :: q) ++ [([], [])] ∧ r2 = c :: r := by
        have ne := fun z => hc ((cl_iff hk).mp z)
        cases q with
        | nil =>
          have : clos (([k], ds) :: ([], []) :: []) (c :: r) = (st, r2) := h
          rw [clos, if_neg ne] at this
          injection this with a b
          exact ⟨a.symm, b.symm⟩
        | cons g q =>
          have : clos (([k], ds) :: ([g.1], g.2) :: (up q ++ [([], [])])) (c :: r) = (st, r2) := h
          rw [clos, if_neg ne] at this
          injection this with a b
          exact ⟨a.symm, b.symm⟩
      rw [h2.1, h2.2]
      exact .inr ⟨k, ds, q, rfl, ok, Nat.le_refl _, rfl, by simpa using hc⟩
end K56
set_option Elab.async false
set_option linter.all false
set_option maxRecDepth 100000
set_option maxHeartbeats 4000000
namespace K56
open PySem PySem.Spec PyProof.Rows L2 MT
open SX (S)
open KM
local macro_rules | `(tactic| walk_at "mt") => `(tactic| simp only [L2.start, List.map_cons, List.map_nil, List.length_cons, List.length_nil, List.replicate_succ, List.replicate_zero, Nat.reduceSub, Nat.reduceAdd, Nat.sub_self, Nat.zero_add, List.cons_append, List.nil_append, List.append_nil, List.getElem?_cons_zero, List.getElem?_cons_succ, List.set_cons_zero, List.set_cons_succ, Option.some.injEq, exists_eq_left', exists_eq_left, exists_eq_right, V.bl.injEq, V.int.injEq, V.str.injEq, V.ref.injEq, reduceCtorEq, false_and, and_false, true_and, and_true, false_or, or_false, exists_false, exists_const, ↓reduceIte, Bool.false_eq_true, decide_eq_true_eq, Bool.and_eq_true, Bool.not_true, Bool.not_false, List.cons.injEq, exists_and_left, exists_and_right,
  tRet, tBM, tBM0, tAndV, tOrV, tNotV, tAnd, tOr, tNot, tB, tTest, tIf, tIfS, tC, tVar, tOp, tUn, tChain, rI0, rI, rU, tFn, tCons, tNil, tCB, tTup, tLst, tAsg, gName, tNext, tDrop, tRetN, tPar, tPar3, tAug, gTup, gUnl, gCons, gNil, rPopM, rAppendM, rExtendM, rTupM, rListM, ipI, tIs, tIss, rLenM, rIxM, rAddM, rEqM, rNeM, rSignIn, rInt, rAbs, rStrI, tSl, tPart, tNoPart, rSlM, tIsN, tNotN, List.any_cons, List.any_nil, Bool.or_false, tSeq, isa, D.ty, decide_true, decide_false, Bool.true_or, Bool.or_true, Bool.false_or, Bool.and_true, Bool.true_and, Bool.false_and, Bool.and_false, eq_self_iff_true, not_true_eq_false, not_false_eq_true, bne_self_eq_false])
def spValueIn : Sp := fun vs H Q _ => ∃ (F : Hp) (l : List Nat), vs = [.str (S l)] ∧ Same F H ∧ l.length ≤ BL ∧ (parse 80 l = none → ∀ F' H', Grow F H F' H' → Q .non H') ∧
  ∀ d, parse 80 l = some d → ∀ F' H' a v, Grow F H F' H' → H' a = some (.lst [v]) → Rep F' v d → Q (.ref a) H'
def y_tail (K : PySem.W.Frag) : TS := (tSeq (tAsg (tFn spClosed (tCons (tVar 0) (tCons (tVar 1) (tCons (tVar 2) tNil)))) (gName 1)) (tSeq (tIfS (tTest (tOp rEqM (tCB rLenM (tCons (tVar 2) tNil)) (tC (.int 1)))) (tRet (tIf (tTest (tOp rEqM (tVar 1) (tCB rLenM (tCons (tVar 0) tNil)))) (tOp rIxM (tOp rIxM (tVar 2) (tC (.int 0))) (tC (.int 1))) (tC .non))) tNext) (tSeq (tIfS (tTest (tOp rNeM (tSl rSlM (tVar 0) (tPart (tVar 1)) (tPart (tOp rAddM (tVar 1) (tC (.int 2))))) (tC (.str (S [44, 32]))))) (tRet (tC .non)) tNext) (tAug 1 (tC (.int 2)) (ipI fun i j => i + j)))))
/-- the head of the loop -/
def Hd (F H : Hp) (p : Addr) (l : List Nat) (k : Nat) (F' H' : Hp) : Prop := ∃ (fs : List Frm) (fr : Fr), SI F H F' H' p fs ∧ Shp k fs ∧ vw fs = up fr ++ [([], [])] ∧ okF fr ∧ fr.length ≤ 80 ∧ k ≤ l.length ∧ parse 80 l = KM.R 80 fr (l.drop k) true
theorem vw_len (fs : List Frm) : (vw fs).length = fs.length := List.length_map _
theorem tail_ok {K : PySem.W.Frag} {F H F' H' : Hp} {p : Addr} {fs : List Frm} {l : List Nat} {k : Nat} {De : L2.Ends} {s3 s4 s5 : Option V} (hl : l.length ≤ BL) (hk : k ≤ l.length) (si : SI F H F' H' p fs) (sh : Shp k fs)
    (st : (∃ d, vw fs = [([], [d])] ∧ parse 80 l = if l.drop k = [] then some d else none) ∨ ∃ kk ds q, vw fs = up ((kk, ds) :: q) ++ [([], [])] ∧ okF ((kk, ds) :: q) ∧ q.length + 1 ≤ 80 ∧ parse 80 l = KM.R 80 ((kk, ds) :: q) (l.drop k) false)
    (q0 : parse 80 l = none → ∀ F' H', Grow F H F' H' → De.rt .non H') (q1 : ∀ d, parse 80 l = some d → ∀ F' H' a v, Grow F H F' H' → H' a = some (.lst [v]) → Rep F' v d → De.rt (.ref a) H')
    (nx : ∀ k2 F2 H2, k < k2 → Hd F H p l k2 F2 H2 → De.nx [some (.str (S l)), some (.int (k2 : Int)), some (.ref p), s3, s4, s5] H2) :
    y_tail K De [some (.str (S l)), some (.int (k : Int)), some (.ref p), s3, s4, s5] H' := by
  unfold y_tail
  walk_at "mt"
  refine ⟨F, H, F', p, fs, l, k, rfl, hl, hk, si, sh, fun F2 H2 fs2 k2 si2 sh2 hkk hk2 hc _ => ?_⟩
  walk_at "mt"
  rw [si2.top]
  refine ⟨_, rfl, ?_⟩
  rw [List.length_map, List.length_reverse, ← vw_len, Sl]
  have st2 : (∃ d, vw fs2 = [([], [d])] ∧ parse 80 l = if l.drop k2 = [] then some d else none) ∨ ∃ kk ds q, vw fs2 = up ((kk, ds) :: q) ++ [([], [])] ∧ okF ((kk, ds) :: q) ∧ q.length + 1 ≤ 80 ∧ parse 80 l = KM.R 80 ((kk, ds) :: q) (l.drop k2) false ∧ (l.drop k2).head? ≠ some (closer kk) := by
    rcases st with ⟨d, e1, e2⟩ | ⟨kk, ds, q, e1, ok, hq, e2⟩
    · rw [e1] at hc
      have : clos [([], [d])] (l.drop k) = ([([], [d])], l.drop k) := by cases l.drop k <;> rfl
      rw [this] at hc
      injection hc with a b
      exact .inl ⟨d, a.symm, by rw [e2, b]⟩
    · rw [e1] at hc
      rcases clos_val _ _ _ _ ok _ _ hc with ⟨d, a, b⟩ | ⟨k3, ds3, q3, a, b, c, e, f⟩
      · exact .inl ⟨d, a, by rw [e2, b]⟩
      · exact .inr ⟨k3, ds3, q3, a, b, by omega, by rw [e2, e], f⟩
  rcases st2 with ⟨d, e1, e2⟩ | ⟨kk, ds, q, e1, ok, hq, e2, e3⟩
  · rw [if_pos (by rw [e1]; rfl)]
    refine ⟨bl_le hl, ?_⟩
    obtain ⟨f, rfl⟩ : ∃ f, fs2 = [f] := by
      have := congrArg List.length e1
      rw [vw_len] at this
      match fs2, this with
      | [f], _ => exact ⟨f, rfl⟩
    have e4 : f.ds = [d] := by
      have := e1
      simp [vw] at this
      exact this.2
    obtain ⟨fa, _⟩ := si2.fr f List.mem_cons_self
    obtain ⟨xs, fi, rx, _⟩ := si2.lst
    rw [e4] at rx
    by_cases hend : (k2 : Int) = (l.length : Int)
    · rw [if_pos hend]
      cases rx with
      | cons rv rn =>
        cases rn
        refine ⟨_, rfl, _, at0, ?_⟩
        dsimp only
        refine ⟨_, by rw [fa]; rfl, _, at1, ?_⟩
        have : l.drop k2 = [] := List.drop_of_length_le (by omega)
        rw [if_pos this] at e2
        exact q1 d e2 _ _ _ _ si2.g fi rv
    · rw [if_neg hend]
      have : ¬ l.drop k2 = [] := fun z => hend (by have := List.drop_eq_nil_iff.mp z; omega)
      rw [if_neg this] at e2
      exact q0 e2 _ _ si2.g
  · rw [if_neg (by rw [e1]; simp [up]; omega)]
    refine ⟨bl_le hl, ?_⟩
    rw [cutN (k := 2) (by omega)]
    by_cases h2 : (l.drop k2).take 2 = [44, 32]
    · rw [h2]
      simp only [decide_true, Bool.not_true, Bool.false_eq_true, ↓reduceIte]
      have hlt : k2 + 2 ≤ l.length := by
        have := congrArg List.length h2
        rw [List.length_take, List.length_drop] at this
        simp at this
        omega
      have ek : ((k2 : Int) + 2) = ((k2 + 2 : Nat) : Int) := by omega
      rw [ek]
      refine nx _ _ _ (by omega) ⟨fs2, (kk, ds) :: q, si2, sh2.mono (by omega), e1, ok, by simpa using hq, hlt, ?_⟩
      rw [e2, R_next h2, List.drop_drop]
    · have ne : ¬ (S ((l.drop k2).take 2) = S [44, 32]) := fun z => h2 (SX.S_inj z)
      simp only [ne, decide_false, Bool.not_false, ↓reduceIte]
      exact q0 (by rw [e2, R_other e3 h2]) _ _ si2.g
def TlSt (l : List Nat) (k : Nat) (fs : List Frm) : Prop := (∃ d, vw fs = [([], [d])] ∧ parse 80 l = if l.drop k = [] then some d else none) ∨ ∃ kk ds q, vw fs = up ((kk, ds) :: q) ++ [([], [])] ∧ okF ((kk, ds) :: q) ∧ q.length + 1 ≤ 80 ∧ parse 80 l = KM.R 80 ((kk, ds) :: q) (l.drop k) false
def y_mid (K : PySem.W.Frag) (T : TS) : TS := (tSeq (tIfS (tTest (tOp (rI0 fun i j => .bl (decide (j < i))) (tCB rLenM (tCons (tVar 2) tNil)) (tOp rAddM (tC (.int (80))) (tC (.int 1))))) (tRet (tC .non)) tNext) (tSeq (tAsg (tAndV (tOp (rKd (He.ga K "CLOSERS") t_CLOSERS false) (tVar 3) (tC (.ref (He.ga K "CLOSERS")))) (tOp rNeM (tSl rSlM (tVar 0) (tPart (tVar 1)) (tPart (tOp rAddM (tVar 1) (tC (.int 1))))) (tOp (rKdGet (He.ga K "CLOSERS") t_CLOSERS) (tC (.ref (He.ga K "CLOSERS"))) (tVar 3)))) (gName 5)) (tIfS (tNot (tB (tVar 5))) T tNext)))
theorem cl_code {c : Nat} (h : c = 40 ∨ c = 91) : t_CLOSERS (S [c]) = some (.str (S [closer c])) := by
  rcases h with rfl | rfl <;> rfl
theorem head_take {m : List Nat} {c : Nat} : m.head? = some c ↔ m.take 1 = [c] := by
  cases m <;> simp
theorem mid_ok {K : PySem.W.Frag} {T : TS} {F H F' H' : Hp} {p : Addr} {fs : List Frm} {l : List Nat} {k k0 : Nat} {De : L2.Ends} {s4 s5 : Option V} {sg : List Nat} (hl : l.length ≤ BL) (hk : k ≤ l.length) (si : SI F H F' H' p fs) (sh : Shp k fs) (hfs : fs.length ≤ 82)
    (st : (∃ c fr, sg = [c] ∧ (c = 40 ∨ c = 91) ∧ vw fs = up ((c, []) :: fr) ++ [([], [])] ∧ okF ((c, []) :: fr) ∧ fr.length ≤ 80 ∧ parse 80 l = if 80 ≤ fr.length then none else KM.R 80 ((c, []) :: fr) (l.drop k) (decide ((l.drop k).head? ≠ some (closer c)))) ∨ (fs.length ≤ 81 ∧ t_CLOSERS (S sg) = none ∧ TlSt l k fs))
    (q0 : parse 80 l = none → ∀ F' H', Grow F H F' H' → De.rt .non H')
    (tl : ∀ x, TlSt l k fs → T De [some (.str (S l)), some (.int (k : Int)), some (.ref p), some (.str (S sg)), s4, x] H')
    (nx : ∀ x, Hd F H p l k F' H' → De.nx [some (.str (S l)), some (.int (k : Int)), some (.ref p), some (.str (S sg)), s4, x] H') :
    y_mid K T De [some (.str (S l)), some (.int (k : Int)), some (.ref p), some (.str (S sg)), s4, s5] H' := by
  unfold y_mid
  walk_at "mt"
  rw [si.top]
  refine ⟨_, rfl, ?_⟩
  rw [List.length_map, List.length_reverse]
  rcases st with ⟨c, fr, rfl, hc, e1, ok, hfr, e2⟩ | ⟨h81, e1, e2⟩
  · have hlen : fs.length = fr.length + 2 := by rw [← vw_len, e1]; simp [up]
    by_cases h80 : 80 ≤ fr.length
    · rw [if_pos (by omega)]
      rw [if_pos h80] at e2
      exact q0 e2 _ _ si.g
    · rw [if_neg (by omega)]
      rw [if_neg h80] at e2
      unfold rKd
      refine ⟨rfl, ?_⟩
      dsimp only
      rw [cl_code hc]
      walk_at "mt"
      refine ⟨by rw [Sl]; exact bl_le hl, ?_⟩
      rw [cutN (k := 1) (by omega)]
      refine ⟨rfl, _, cl_code hc, ?_⟩
      dsimp only
      by_cases hh : (l.drop k).head? = some (closer c)
      · have ht := head_take.mp hh
        rw [ht]
        simp only [decide_true, Bool.not_true, Bool.false_eq_true, not_false_eq_true, Bool.not_false, ↓reduceIte]
        refine tl _ (.inr ⟨c, [], fr, e1, ok, by omega, ?_⟩)
        rw [e2, decide_eq_false (by simpa using hh)]
      · have ht : ¬ (S ((l.drop k).take 1) = S [closer c]) := fun z => hh (head_take.mpr (SX.S_inj z))
        simp only [ht, decide_false, Bool.not_false, Bool.not_true, Bool.false_eq_true, ↓reduceIte]
        refine nx _ ⟨fs, (c, []) :: fr, si, sh, e1, ok, by simp; omega, hk, ?_⟩
        rw [e2, decide_eq_true hh]
  · rw [if_neg (by omega)]
    unfold rKd
    refine ⟨rfl, ?_⟩
    dsimp only
    rw [e1]
    walk_at "mt"
    exact tl _ e2
end K56
set_option Elab.async false
set_option linter.all false
set_option maxRecDepth 100000
set_option maxHeartbeats 4000000
namespace K56
open PySem PySem.Spec PyProof.Rows L2 MT
open SX (S)
open KM
local macro_rules | `(tactic| walk_at "mt") => `(tactic| simp only [L2.start, List.map_cons, List.map_nil, List.length_cons, List.length_nil, List.replicate_succ, List.replicate_zero, Nat.reduceSub, Nat.reduceAdd, Nat.sub_self, Nat.zero_add, List.cons_append, List.nil_append, List.append_nil, List.getElem?_cons_zero, List.getElem?_cons_succ, List.set_cons_zero, List.set_cons_succ, Option.some.injEq, exists_eq_left', exists_eq_left, exists_eq_right, V.bl.injEq, V.int.injEq, V.str.injEq, V.ref.injEq, reduceCtorEq, false_and, and_false, true_and, and_true, false_or, or_false, exists_false, exists_const, ↓reduceIte, Bool.false_eq_true, decide_eq_true_eq, Bool.and_eq_true, Bool.not_true, Bool.not_false, List.cons.injEq, exists_and_left, exists_and_right,
  tRet, tBM, tBM0, tAndV, tOrV, tNotV, tAnd, tOr, tNot, tB, tTest, tIf, tIfS, tC, tVar, tOp, tUn, tChain, rI0, rI, rU, tFn, tCons, tNil, tCB, tTup, tLst, tAsg, gName, tNext, tDrop, tRetN, tPar, tPar3, tAug, gTup, gUnl, gCons, gNil, rPopM, rAppendM, rExtendM, rTupM, rListM, ipI, tIs, tIss, rLenM, rIxM, rAddM, rEqM, rNeM, rSignIn, rInt, rAbs, rStrI, tSl, tPart, tNoPart, rSlM, tIsN, tNotN, List.any_cons, List.any_nil, Bool.or_false, tSeq, isa, D.ty, decide_true, decide_false, Bool.true_or, Bool.or_true, Bool.false_or, Bool.and_true, Bool.true_and, Bool.false_and, Bool.and_false, eq_self_iff_true, not_true_eq_false, not_false_eq_true, bne_self_eq_false])
theorem cl_none {z : List Nat} (h1 : z ≠ [40]) (h2 : z ≠ [91]) : t_CLOSERS (S z) = none := by
  unfold t_CLOSERS
  rw [if_neg (fun e => h1 (SX.S_inj e)), if_neg (fun e => h2 (SX.S_inj e))]
theorem item_flat {w : List Nat} {d : D} (h : itemOf w = some d) (hw : w.length ≤ BL) : ∃ v, flatOf d = some v ∧ ∀ F, Rep F v d := by
  unfold itemOf at h
  split at h
  · cases h; exact ⟨_, rfl, fun F => .bl true⟩
  · split at h
    · cases h; exact ⟨_, rfl, fun F => .bl false⟩
    · split at h
      · cases h; exact ⟨_, rfl, fun F => .int _⟩
      · split at h
        · cases h; exact ⟨_, rfl, fun F => .str hw⟩
        · cases h
theorem pr_value_in {K : PySem.W.Frag} (vs : List V) (H : Hp) (Q : VK) (E : XK) (h : spValueIn vs H Q E) : t_value_in K spAtomAt spClosed (E0N Q) (L2.start ["text", "place", "stack", "sign", "found", "is_open"] vs) H := by
  obtain ⟨F, l, rfl, sF, hl, q0, q1⟩ := h
  have hsl := bl_sl (Nat.le_refl BL)
  have tl := @tail_ok K
  have md := @mid_ok K
  unfold t_value_in
  unfold y_tail at tl
  unfold y_mid at md
  revert tl md
  generalize (tSeq (tAsg (tFn spClosed _) (gName 1)) _) = T
  intro tl md
  have md := @md T
  revert md
  generalize (tSeq (tIfS (tTest (tOp (rI0 fun i j => .bl (decide (j < i))) (tCB rLenM (tCons (tVar 2) tNil)) (tOp rAddM (tC (.int (80))) (tC (.int 1))))) _ _) (tSeq (tAsg (tAndV _ _) (gName 5)) _)) = M
  intro md
  walk_at "mt"
  have hBL : BL = 1000000 := rfl
  refine ⟨by omega, fun i hi => ⟨by omega, fun a ha => ⟨by omega, fun p hp => ⟨_, _, ⟨rfl, rfl⟩, ?_⟩⟩⟩⟩
  have si0 : SI F H F (upd (upd (upd H i (.lst [])) a (.lst [.str (S []), .ref i])) p (.lst [.ref a])) p [⟨a, i, [], []⟩] := by
    have nai : a ≠ i := fun z => by rw [z, upd_same] at ha; cases ha
    have npa : p ≠ a := fun z => by rw [z, upd_same] at hp; cases hp
    have npi : p ≠ i := fun z => by rw [z, upd_ne (Ne.symm nai), upd_same] at hp; cases hp
    have ha' : H a = none := by rw [upd_ne nai] at ha; exact ha
    have hp' : H p = none := by rw [upd_ne npa, upd_ne npi] at hp; exact hp
    have f : ∀ {x}, H x = none → F x = none := fun h => Same.free sF h
    refine SI.start ((((Grow.refl sF).cell hi (f hi)).cell ha' (f ha')).cell hp' (f hp')) upd_same ?_ ?_ hp' ha' hi (f hp') (f ha') (f hi) npa npi nai
    · rw [upd_ne (Ne.symm npa), upd_same]
    · rw [upd_ne (Ne.symm npi), upd_ne (Ne.symm nai), upd_same]
  unfold tWhile
  refine ⟨fun m σ H' => ∃ F' k s3 s4 s5, m = l.length - k ∧ Hd F H p l k F' H' ∧ σ = [some (.str (S l)), some (.int ((k : Nat) : Int)), some (.ref p), s3, s4, s5], ⟨_, F, 0, none, none, none, rfl, ⟨_, [], si0, Nat.le_refl _, rfl, (fun q hq => by cases hq), Nat.zero_le _, Nat.zero_le _, rfl⟩, rfl⟩, ?_⟩
  clear si0
  rintro m σ H' ⟨F', k, s3, s4, s5, rfl, ⟨fs, fr, si, sh, e1, ok, hfr, hk, e2⟩, rfl⟩
  walk_at "mt"
  refine ⟨fun σ' H2 => ∃ F2 k2 s3 s4 s5, k < k2 ∧ Hd F H p l k2 F2 H2 ∧ σ' = [some (.str (S l)), some (.int ((k2 : Nat) : Int)), some (.ref p), s3, s4, s5], ?_, by rw [Sl]; exact bl_le hl, ?_⟩
  · rintro σ' H2 ⟨F2, k2, a3, a4, a5, hlt, hh, rfl⟩
    have : k2 ≤ l.length := by obtain ⟨_, _, _, _, _, _, _, h, _⟩ := hh; exact h
    exact ⟨_, by omega, F2, k2, rfl, hh, a3, a4, a5, rfl⟩
  rw [cutN (k := 1) (by omega)]
  have h81 : fs.length ≤ 81 := by rw [← vw_len, e1]; simp [up]; omega
  -- an item
  have it : ∀ sg, t_CLOSERS (S sg) = none → (l.drop k).take 1 = sg → (∀ c r, l.drop k = c :: r → ¬ (c = 40 ∨ c = 91)) → ∀ (N : L2.St → Hp → Prop), (∀ k2 F2 H2 s3 s4 s5, k < k2 → Hd F H p l k2 F2 H2 → N [some (.str (S l)), some (.int ((k2 : Nat) : Int)), some (.ref p), s3, s4, s5] H2) →
      (tSeq (tAsg (tFn spAtomAt (tCons (tVar 0) (tCons (tVar 1) tNil))) (gName 4)) (tSeq (tIfS (tB (tIsN (tVar 4))) (tRet (tC .non)) tNext) (tSeq (tDrop (tBM K "list" rAppendM (tOp rIxM (tOp rIxM (tVar 2) (tUn (rU fun i => .int (-i)) (tC (.int 1)))) (tC (.int 1))) (tCons (tOp rIxM (tVar 4) (tC (.int 0))) tNil))) (tAsg (tOp rIxM (tVar 4) (tC (.int 1))) (gName 1)))))
        { nx := fun σ H2 => M { nx := N, rt := Q, bk := fun x H' => Q V.non H', ct := N } σ H2, rt := Q, bk := fun x H' => Q V.non H', ct := N } [some (.str (S l)), some (.int (k : Int)), some (.ref p), some (.str (S sg)), s4, s5] H' := by
    intro sg hcl hsg hno N nx
    walk_at "mt"
    have pn : itemOf (word (l.drop k)) = none → parse 80 l = none := fun z => by
      rw [e2]
      cases hd : l.drop k with
      | nil => exact R_nil
      | cons c r => rw [R_item (hno c r hd), ← hd, z]
    refine ⟨l, k, rfl, hk, hl, fun z H2 s => ?_, fun d hd v t H2 hv s ht h2 => ?_⟩
    · walk_at "mt"
      exact q0 (pn z) _ _ (si.same s).g
    · have si2 := si.same s
      walk_at "mt"
      have hwl : (word (l.drop k)).length ≤ l.length - k := by
        have := word_le (l.drop k)
        rw [List.length_drop] at this
        exact this
      have hwp := word_pos hd
      obtain ⟨v2, hv2, hrep⟩ := item_flat hd (by omega)
      rw [hv] at hv2
      cases hv2
      have pG : parse 80 l = G 80 d fr (l.drop (k + (word (l.drop k)).length)) := by
        rw [e2, ← List.drop_drop]
        revert hd hno
        cases l.drop k with
        | nil => intro hno hd; cases hd
        | cons c r => intro hno hd; rw [R_item (hno c r rfl), hd]
      cases fs with
      | nil => exact sh.elim
      | cons f fs' =>
      obtain ⟨fa, _⟩ := si2.fr f List.mem_cons_self
      obtain ⟨xs, fi, rx, hxl⟩ := si2.lst
      refine ⟨_, by rw [si2.top]; rfl, V.ref f.a, ?_, ?_⟩
      · rw [List.reverse_cons, List.map_append]
        exact atI_last _ _
      dsimp only
      have net : t ≠ f.i := fun z => by rw [z, fi] at h2; cases h2
      have hfl := sh.len
      refine ⟨_, by rw [fa]; rfl, V.ref f.i, at1, tyL fi, _, by rw [h2]; rfl, v, at0, ?_⟩
      dsimp only
      refine ⟨xs, fi, by omega, _, by rw [upd_ne net, h2]; rfl, _, at1, ?_⟩
      have si3 := si2.add (hrep F') fi
      have sh3 := (sh.add (d := d)).mono (k' := k + (word (l.drop k)).length) (by omega)
      have st3 : TlSt l (k + (word (l.drop k)).length) ({ f with ds := f.ds ++ [d] } :: fs') := by
        cases fr with
        | nil =>
          simp only [vw, up, List.map_cons, List.map_nil, List.nil_append, List.cons.injEq, Prod.mk.injEq] at e1
          refine .inl ⟨d, ?_, pG⟩
          simp only [vw, List.map_cons, e1.1.1, e1.1.2, e1.2, List.nil_append]
        | cons g q =>
          obtain ⟨kk, ds⟩ := g
          simp only [vw, up, List.map_cons, List.cons_append, List.cons.injEq, Prod.mk.injEq] at e1
          refine .inr ⟨kk, ds ++ [d], q, ?_, ?_, by simpa using hfr, pG⟩
          · simp only [vw, up, List.map_cons, List.cons_append, e1.1.1, e1.1.2, e1.2]
          · intro x hx
            rcases List.mem_cons.mp hx with rfl | hx
            · exact ok (kk, ds) List.mem_cons_self
            · exact ok x (List.mem_cons_of_mem _ hx)
      have hlt : k < k + (word (l.drop k)).length := by omega
      exact md (k0 := 0) hl (by omega) si3 sh3 (by simp at h81 ⊢; omega) (.inr ⟨by simpa using h81, hcl, st3⟩) q0 (fun x _ => tl hl (by omega) si3 sh3 st3 q0 q1 fun k2 F2 H3 hk2 hh => nx _ _ _ _ _ _ (by omega) hh) fun x hh => nx _ _ _ _ _ _ hlt hh
  cases hd : l.drop k with
  | nil =>
    unfold rKd
    refine ⟨rfl, ?_⟩
    have c0 : t_CLOSERS (S (([] : List Nat).take 1)) = none := rfl
    dsimp only
    rw [c0]
    refine ⟨_, rfl, ?_⟩
    have := it [] rfl (by rw [hd]; rfl) (fun c r z => by rw [hd] at z; cases z) (fun σ' H2 => ∃ F2 k2 s3 s4 s5, k < k2 ∧ Hd F H p l k2 F2 H2 ∧ σ' = [some (.str (S l)), some (.int ((k2 : Nat) : Int)), some (.ref p), s3, s4, s5]) fun k2 F2 H2 a3 a4 a5 h1 h2 => ⟨F2, k2, a3, a4, a5, h1, h2, rfl⟩
    revert this
    walk_at "mt"
    exact fun h => h
  | cons c r =>
    have ht : (c :: r).take 1 = [c] := rfl
    rw [ht]
    by_cases hc : c = 40 ∨ c = 91
    · unfold rKd
      refine ⟨rfl, ?_⟩
      dsimp only
      rw [cl_code hc]
      refine ⟨_, rfl, ?_⟩
      walk_at "mt"
      have hlt : k < l.length := by
        have := congrArg List.length hd
        rw [List.length_drop] at this
        simp at this
        omega
      have hr : l.drop (k + 1) = r := by rw [← List.drop_drop, hd]; rfl
      refine ⟨tyL si.top, by omega, fun i2 hi2 => ⟨by omega, fun a2 ha2 => ⟨fs.reverse.map fun f => V.ref f.a, ?_, ?_, ?_⟩⟩⟩
      · have n1 : p ≠ i2 := fun z => by rw [← z, si.top] at hi2; cases hi2
        have n2 : p ≠ a2 := fun z => by rw [← z, upd_ne n1, si.top] at ha2; cases ha2
        rw [upd_ne n2, upd_ne n1]
        exact si.top
      · rw [List.length_map, List.length_reverse]; omega
      · have si3 := si.push (sg := [c]) hi2 ha2
        have ek : ((k : Int) + 1) = ((k + 1 : Nat) : Int) := by omega
        rw [ek]
        have sh3 : Shp (k + 1) (⟨a2, i2, [c], []⟩ :: fs) := by
          have sh2 := sh.mono (Nat.le_succ k)
          cases fs with
          | nil => exact sh.elim
          | cons f fs => exact ⟨by rcases hc with rfl | rfl <;> simp, Nat.zero_le _, sh2⟩
        have ok3 : okF ((c, []) :: fr) := fun x hx => by
          rcases List.mem_cons.mp hx with rfl | hx
          · exact hc
          · exact ok x hx
        refine md (k0 := 0) hl (by omega) si3 sh3 (by simp; omega) (.inl ⟨c, fr, rfl, hc, ?_, ok3, hfr, ?_⟩) q0 (fun x st => tl hl (by omega) si3 sh3 st q0 q1 fun k2 F2 H3 hk2 hh => ⟨F2, k2, by omega, hh, _, _, _, rfl⟩) fun x hh => ⟨_, k + 1, by omega, hh, _, _, _, rfl⟩
        · show ([c], []) :: vw fs = _
          rw [e1]; rfl
        · rw [e2, hd, R_open hc, hr]
    · have c0 : t_CLOSERS (S [c]) = none := cl_none (fun z => hc (.inl (by simpa using z))) (fun z => hc (.inr (by simpa using z)))
      unfold rKd
      refine ⟨rfl, ?_⟩
      dsimp only
      rw [c0]
      refine ⟨_, rfl, ?_⟩
      have := it [c] c0 (by rw [hd]; rfl) (fun c2 r2 z => by rw [hd] at z; cases z; exact hc) (fun σ' H2 => ∃ F2 k2 s3 s4 s5, k < k2 ∧ Hd F H p l k2 F2 H2 ∧ σ' = [some (.str (S l)), some (.int ((k2 : Nat) : Int)), some (.ref p), s3, s4, s5]) fun k2 F2 H2 a3 a4 a5 h1 h2 => ⟨F2, k2, a3, a4, a5, h1, h2, rfl⟩
      revert this
      walk_at "mt"
      exact fun h => h
end K56
set_option Elab.async false
set_option linter.all false
set_option maxRecDepth 100000
set_option maxHeartbeats 4000000
namespace K56
open PySem PySem.Spec PyProof.Rows L2 MT
open SX (S)
open KM
local macro_rules | `(tactic| walk_at "mt") => `(tactic| simp only [L2.start, List.map_cons, List.map_nil, List.length_cons, List.length_nil, List.replicate_succ, List.replicate_zero, Nat.reduceSub, Nat.reduceAdd, Nat.sub_self, Nat.zero_add, List.cons_append, List.nil_append, List.append_nil, List.getElem?_cons_zero, List.getElem?_cons_succ, List.set_cons_zero, List.set_cons_succ, Option.some.injEq, exists_eq_left', exists_eq_left, exists_eq_right, V.bl.injEq, V.int.injEq, V.str.injEq, V.ref.injEq, reduceCtorEq, false_and, and_false, true_and, and_true, false_or, or_false, exists_false, exists_const, ↓reduceIte, Bool.false_eq_true, decide_eq_true_eq, Bool.and_eq_true, Bool.not_true, Bool.not_false, List.cons.injEq, exists_and_left, exists_and_right,
  tRet, tBM, tBM0, tAndV, tOrV, tNotV, tAnd, tOr, tNot, tB, tTest, tIf, tIfS, tC, tVar, tOp, tUn, tChain, rI0, rI, rU, tFn, tCons, tNil, tCB, tTup, tLst, tAsg, gName, tNext, tDrop, tRetN, tPar, tPar3, tAug, tRaiseO, tFnW, tXf, gTup, gUnl, gCons, gNil, rPopM, rAppendM, rExtendM, rTupM, rListM, ipI, tIs, tIss, rLenM, rIxM, rAddM, rEqM, rNeM, rSignIn, rInt, rAbs, rStrI, tSl, tPart, tNoPart, rSlM, tIsN, tNotN, List.any_cons, List.any_nil, Bool.or_false, tSeq, isa, D.ty, decide_true, decide_false, Bool.true_or, Bool.or_true, Bool.false_or, Bool.and_true, Bool.true_and, Bool.false_and, Bool.and_false, eq_self_iff_true, not_true_eq_false, not_false_eq_true, bne_self_eq_false])
mutual
theorem plain_depth {L : Nat} : ∀ (d : D) (n : Nat), KM.plain L d n = true → n ≤ L → depth d + n ≤ L
  | .tup ds, n, h, _ => by
    simp only [KM.plain, Bool.and_eq_true, decide_eq_true_eq] at h
    have := plains_depth ds (n + 1) h.2 h.1
    simp only [depth]; omega
  | .lst ds, n, h, _ => by
    simp only [KM.plain, Bool.and_eq_true, decide_eq_true_eq] at h
    have := plains_depth ds (n + 1) h.2 h.1
    simp only [depth]; omega
  | .non, n, _, hn => by simpa [depth] using hn
  | .bl _, n, _, hn => by simpa [depth] using hn
  | .int _, n, _, hn => by simpa [depth] using hn
  | .str _, n, _, hn => by simpa [depth] using hn
  | .dct _, n, _, hn => by simpa [depth] using hn
theorem plains_depth {L : Nat} : ∀ (ds : List D) (n : Nat), plains L ds n = true → n ≤ L → depths ds + n ≤ L
  | [], n, _, hn => by simpa [depths] using hn
  | d :: ds, n, h, hn => by
    simp only [plains, Bool.and_eq_true] at h
    have h1 := plain_depth d n h.1 hn
    have h2 := plains_depth ds n h.2 hn
    simp only [depths]; omega
end
/-- value's text is told, or the value is not plain -/
def spValueText (C : Addr) : Sp := fun vs H Q E => ∃ v d, vs = [v] ∧ Dat H v d ∧ (KM.plain 80 d 0 = true → (text d).length ≤ BL ∧ ∀ H', Same H H' → Q (.str (S (text d))) H') ∧
  (KM.plain 80 d 0 = false → ∀ H' dx, Same H H' → H' dx = none → E (.ref C) (some dx) (upd H' dx (.xd [("given", v)])))
theorem pr_value_text {K : PySem.W.Frag} (vs : List V) (H : Hp) (Q : VK) (E : XK) (h : spValueText (He.ga K "InvalidForm") vs H Q E) : t_value_text K (spIsPlain 80) (spTextOf 80) E (E0N Q) (L2.start ["value"] vs) H := by
  obtain ⟨v, d, rfl, ht, q1, q0⟩ := h
  unfold t_value_text
  walk_at "mt"
  refine ⟨v, d, 0, rfl, ht, by omega, by omega, fun H' s => ?_⟩
  refine ⟨_, rfl, ?_⟩
  cases hp : KM.plain 80 d 0 with
  | true =>
    obtain ⟨hb, q⟩ := q1 hp
    simp only [Bool.not_true, Bool.false_eq_true, ↓reduceIte]
    have hd := plain_depth d 0 hp (by omega)
    exact ⟨v, d, rfl, ht.mono s, ⟨80, 0, hp⟩, by omega, hb, fun H2 s2 => q H2 (s.trans s2)⟩
  | false =>
    simp only [Bool.not_false, ↓reduceIte]
    exact fun dx hx => q0 hp _ _ s hx
abbrev noH : Hp := fun _ => none
theorem no_same {H : Hp} : Same noH H := fun _ _ e => by cases e
/-- text is read (all that is told is new), or it is none of a value -/
def spReadValue (C : Addr) : Sp := fun vs H Q E => ∃ v d, vs = [v] ∧ Dat H v d ∧ (∀ l x, d = .str l → parse 80 l = some x → ∀ F' H' u, Grow noH H F' H' → Rep F' u x → Q u H') ∧
  ((∀ l, d = .str l → parse 80 l = none) → ∀ H' dx, Same H H' → H' dx = none → E (.ref C) (some dx) (upd H' dx (.xd [("given", v)])))
theorem pr_read_value {K : PySem.W.Frag} (vs : List V) (H : Hp) (Q : VK) (E : XK) (h : spReadValue (He.ga K "InvalidText") vs H Q E) : t_read_value K spValueIn E (E0N Q) (L2.start ["text", "found"] vs) H := by
  obtain ⟨v, d, rfl, ht, q1, q0⟩ := h
  unfold t_read_value
  walk_at "mt"
  have ty := ht.ty
  obtain ⟨F, s, r⟩ := ht
  cases r with
  | @str l hl =>
    refine ⟨.str, rfl, ?_⟩
    walk_at "mt"
    refine ⟨noH, l, rfl, no_same, hl, fun hn F' H' g => ?_, fun x hx F' H' a u g ha ru => ?_⟩
    · walk_at "mt"
      exact fun dx hdx => q0 (fun l2 e => by cases e; exact hn) _ _ g.h hdx
    · walk_at "mt"
      refine ⟨_, by rw [ha]; rfl, u, at0, q1 l x rfl hx _ _ _ g ru⟩
  | _ =>
    refine ⟨_, ty, ?_⟩
    walk_at "mt"
    exact fun dx hdx => q0 (fun l2 e => by cases e) _ _ (Same.refl _) hdx
/-! ### _law_told -/
def wText : List Nat := [116, 101, 120, 116]
def wTold : List Nat := [116, 111, 108, 100]
def wForm : List Nat := [102, 111, 114, 109]
/-- a new list of a word and v -/
def New2 (H : Hp) (Q : VK) (w : List Nat) (v : V) : Prop := ∀ H' a, Same H H' → H' a = none → Q (.ref a) (upd H' a (.lst [.str (S w), v]))
def spTold : Sp := fun vs H Q _ => ∃ w v d b, vs = [.str (S w), v, .bl b] ∧ Dat H v d ∧
  ((w = wText ∧ (KM.plain 80 d 0 = true → (text d).length ≤ BL ∧ New2 H Q wTold (.str (S (text d)))) ∧ (KM.plain 80 d 0 = false → New2 H Q wForm v)) ∨
   (w ≠ wText ∧ (∀ l x, d = .str l → parse 80 l = some x → ∀ F' H' u a, Grow noH H F' H' → Rep F' u x → H' a = none → Q (.ref a) (upd H' a (.lst [.str (S wTold), u]))) ∧ ((∀ l, d = .str l → parse 80 l = none) → New2 H Q wText v)))
structure Exm (K : PySem.W.Frag) : Prop where
  ff : PySem.W.exmOne K (.ref (He.ga K "InvalidForm")) (.ref (He.ga K "InvalidForm")) = some true
  tf : PySem.W.exmOne K (.ref (He.ga K "InvalidText")) (.ref (He.ga K "InvalidForm")) = some false
  tt : PySem.W.exmOne K (.ref (He.ga K "InvalidText")) (.ref (He.ga K "InvalidText")) = some true
theorem pr_told {K : PySem.W.Frag} (X : Exm K) (vs : List V) (H : Hp) (Q : VK) (E : XK) (h : spTold vs H Q E) : t_law_told K (spValueText (He.ga K "InvalidForm")) (spReadValue (He.ga K "InvalidText")) (E0N Q) (L2.start ["word", "value", "named", "e"] vs) H := by
  obtain ⟨w, v, d, b, rfl, ht, q⟩ := h
  have h2 : 2 ≤ sizeLine := by decide +kernel
  unfold t_law_told t_toldB
  walk_at "mt"
  rcases q with ⟨rfl, q1, q0⟩ | ⟨hw, q1, q0⟩
  · rw [if_pos (show S wText = S [116, 101, 120, 116] from rfl)]
    have key : spValueText (He.ga K "InvalidForm") [v] H (fun x H1 => 2 ≤ sizeLine ∧ ∀ (p : Addr), H1 p = none → Q (V.ref p) (upd H1 p (HO.lst [V.str (S [116, 111, 108, 100]), x]))) (fun cls d H2 => wAsM K (fun _ _ _ _ => False) (E0N Q) [(.ref (He.ga K "InvalidForm"), 3, t_toldH (He.ga K "InvalidForm") [102, 111, 114, 109]), (.ref (He.ga K "InvalidText"), 3, t_toldH (He.ga K "InvalidText") [116, 101, 120, 116])] cls d [some (.str (S wText)), some v, some (.bl b), none] H2) := by
      refine ⟨v, d, rfl, ht, fun hp => ⟨(q1 hp).1, fun H' s => ⟨h2, fun p hp2 => (q1 hp).2 H' p s hp2⟩⟩, fun hp H' dx s hdx => ?_⟩
      refine ⟨true, X.ff, fun _ a ha => ?_, fun z => by cases z⟩
      unfold t_toldH endsAs
      walk_at "mt"
      refine ⟨_, upd_same, v, rfl, h2, fun p hp2 => ?_⟩
      exact q0 hp _ p (s.trans (same_upd hdx)) hp2
    cases b
    · simp only [Bool.false_eq_true, ↓reduceIte]; exact key
    · simp only [↓reduceIte]; exact key
  · rw [if_neg (show ¬ S w = S [116, 101, 120, 116] from fun z => hw (SX.S_inj z))]
    have key : spReadValue (He.ga K "InvalidText") [v] H (fun x H1 => 2 ≤ sizeLine ∧ ∀ (p : Addr), H1 p = none → Q (V.ref p) (upd H1 p (HO.lst [V.str (S [116, 111, 108, 100]), x]))) (fun cls d H2 => wAsM K (fun _ _ _ _ => False) (E0N Q) [(.ref (He.ga K "InvalidForm"), 3, t_toldH (He.ga K "InvalidForm") [102, 111, 114, 109]), (.ref (He.ga K "InvalidText"), 3, t_toldH (He.ga K "InvalidText") [116, 101, 120, 116])] cls d [some (.str (S w)), some v, some (.bl b), none] H2) := by
      refine ⟨v, d, rfl, ht, fun l x e hx F' H' u g ru => ⟨h2, fun p hp2 => q1 l x e hx F' H' u p g ru hp2⟩, fun hn H' dx s hdx => ?_⟩
      refine ⟨false, X.tf, (fun z => by cases z), fun _ => ⟨true, X.tt, fun _ a ha => ?_, fun z => by cases z⟩⟩
      unfold t_toldH endsAs
      walk_at "mt"
      refine ⟨_, upd_same, v, rfl, h2, fun p hp2 => ?_⟩
      exact q0 hn _ p (s.trans (same_upd hdx)) hp2
    cases b
    · simp only [Bool.false_eq_true, ↓reduceIte]; exact key
    · simp only [↓reduceIte]; exact key
end K56
set_option Elab.async false
set_option linter.all false
set_option maxRecDepth 100000
set_option maxHeartbeats 4000000
namespace K56
open PySem PySem.Spec PyProof.Rows L2 MT
open SX (S)
open KM
local macro_rules | `(tactic| walk_at "mt") => `(tactic| simp only [L2.start, List.map_cons, List.map_nil, List.length_cons, List.length_nil, List.replicate_succ, List.replicate_zero, Nat.reduceSub, Nat.reduceAdd, Nat.sub_self, Nat.zero_add, List.cons_append, List.nil_append, List.append_nil, List.getElem?_cons_zero, List.getElem?_cons_succ, List.set_cons_zero, List.set_cons_succ, Option.some.injEq, exists_eq_left', exists_eq_left, exists_eq_right, V.bl.injEq, V.int.injEq, V.str.injEq, V.ref.injEq, reduceCtorEq, false_and, and_false, true_and, and_true, false_or, or_false, exists_false, exists_const, ↓reduceIte, Bool.false_eq_true, decide_eq_true_eq, Bool.and_eq_true, Bool.not_true, Bool.not_false, List.cons.injEq, exists_and_left, exists_and_right,
  tRet, tBM, tBM0, tAndV, tOrV, tNotV, tAnd, tOr, tNot, tB, tTest, tIf, tIfS, tC, tVar, tOp, tUn, tChain, rI0, rI, rU, tFn, tCons, tNil, tCB, tTup, tLst, tAsg, gName, tNext, tDrop, tRetN, tPar, tPar3, tAug, rSumM, rMaxM, rMinM, gSub, rSetL, tRaiseO, tFnW, tXf, gTup, gUnl, gCons, gNil, rPopM, rAppendM, rExtendM, rTupM, rListM, ipI, tIs, tIss, rLenM, rIxM, rAddM, rEqM, rNeM, rSignIn, rInt, rAbs, rStrI, tSl, tPart, tNoPart, rSlM, tIsN, tNotN, List.any_cons, List.any_nil, Bool.or_false, tSeq, isa, D.ty, decide_true, decide_false, Bool.true_or, Bool.or_true, Bool.false_or, Bool.and_true, Bool.true_and, Bool.false_and, Bool.and_false, eq_self_iff_true, not_true_eq_false, not_false_eq_true, bne_self_eq_false])
/-- the source of what is drawn -/
def Bx (H : Hp) (b : Addr) (c : Nat) : Prop := ∃ (n : Int) (g : Bool) (m : Int) (k : Nat), H b = some (.lst [.int n, .bl g, .int m, .int (k : Int)]) ∧ 0 ≤ n ∧ 0 ≤ m ∧ m < 2147483648 ∧ k ≤ c
def cutV' (ns : List Int) (lo hi : Option Int) : List Int := (ns.drop (HT.sIx ns.length 0 lo)).take (HT.sIx ns.length ns.length hi - HT.sIx ns.length 0 lo)
theorem cutV_map (ns : List Int) (lo hi : Option Int) : cutV (ns.map V.int) lo hi = (cutV' ns lo hi).map V.int := by
  unfold cutV cutV'
  rw [List.length_map, List.map_take, List.map_drop]
def spCell : Sp := fun vs H Q _ => ∃ (s : Addr) (ns : List Int) (o : Obj) (k : Nat), vs = [.ref s, .int (k : Int)] ∧ H s = some (.frz o (.lst (ns.map V.int))) ∧ k ≤ 1000 ∧ ∀ i H', Same H H' → Q (.int i) H'
theorem pr_law_cell {K : PySem.W.Frag} (vs : List V) (H : Hp) (Q : VK) (E : XK) (h : spCell vs H Q E) : t_law_cell K (E0N Q) (L2.start ["script", "k"] vs) H := by
  obtain ⟨s, ns, o, k, rfl, hs, hk, q⟩ := h
  unfold t_law_cell
  walk_at "mt"
  refine ⟨ns.map V.int, by rw [hs]; rfl, ?_⟩
  rw [List.length_map]
  split
  · rename_i hlt
    have hlt : k < ns.length := by omega
    refine ⟨_, by rw [hs]; rfl, .int ns[k], atI_nat (by rw [List.getElem?_map, List.getElem?_eq_getElem hlt]; rfl), q _ _ (.refl _)⟩
  · have hm : CMulW 10099 (k : Int) := wide_mul (a := 20) (b := 20) (by decide) (by show k < 2 ^ 20; omega) (by decide) (by decide) (by decide)
    refine ⟨hm, ?_⟩
    rw [hs]
    dsimp only
    intro p hp
    refine ⟨cutV' ns none (some 1), ?_, by decide, q _ _ (same_upd hp)⟩
    rw [upd_same, cutV_map]
/-- int of the given size, a box of it -/
def spBox : Sp := fun vs H Q _ => ∃ g : Int, vs = [.int g] ∧ ∀ b o, H b = none → Bx (upd H b o) b 0 → Q (.ref b) (upd H b o)
theorem fmod_rng {i : Int} {n : Nat} (h : 0 < n) : ∃ r : Nat, i.fmod (n : Int) = (r : Int) ∧ r < n := by
  have h1 := Int.emod_nonneg i (show (n : Int) ≠ 0 by omega)
  have h2 := Int.emod_lt_of_pos i (show (0 : Int) < n by omega)
  rw [Int.fmod_eq_emod_of_nonneg i (by omega)]
  exact ⟨(i % (n : Int)).toNat, by omega, by omega⟩
theorem pr_law_box {K : PySem.W.Frag} (vs : List V) (H : Hp) (Q : VK) (E : XK) (h : spBox vs H Q E) : t_law_box K (E0N Q) (L2.start ["great"] vs) H := by
  obtain ⟨g, rfl, q⟩ := h
  unfold t_law_box
  walk_at "mt"
  refine ⟨⟨by decide, by decide, by decide⟩, by decide, by decide +kernel, fun b hb => q b _ hb ?_⟩
  obtain ⟨r, hr, hlt⟩ := fmod_rng (i := (g.natAbs : Int)) (n := 2147483629) (by decide)
  exact ⟨_, _, _, 0, upd_same, by omega, by rw [show (2147483629 : Int) = ((2147483629 : Nat) : Int) from rfl, hr]; omega, by rw [show (2147483629 : Int) = ((2147483629 : Nat) : Int) from rfl, hr]; omega, Nat.le_refl _⟩
theorem seqO_lst {xs : List V} : seqO (some (.lst xs)) = some xs := rfl
theorem at2 {α : Type} {x y z : α} {xs : List α} : atI (x :: y :: z :: xs) 2 = some z := by
  have := atI_nat (xs := x :: y :: z :: xs) (j := 2) (v := z) rfl
  simpa using this
theorem at3 {α : Type} {x y z w : α} {xs : List α} : atI (x :: y :: z :: w :: xs) 3 = some w := by
  have := atI_nat (xs := x :: y :: z :: w :: xs) (j := 3) (v := w) rfl
  simpa using this
def spTake : Sp := fun vs H Q _ => ∃ (b : Addr) (many c : Nat), vs = [.ref b, .int (many : Int)] ∧ 1 ≤ many ∧ many ≤ 1000000 ∧ Bx H b c ∧ c ≤ 1000000000 ∧ ∀ (r : Nat) o, r < many → Bx (upd H b o) b (c + 1) → Q (.int (r : Int)) (upd H b o)
theorem pr_law_take {K : PySem.W.Frag} (vs : List V) (H : Hp) (Q : VK) (E : XK) (h : spTake vs H Q E) : t_law_take K (E0N Q) (L2.start ["box", "many", "digit", "mixed"] vs) H := by
  obtain ⟨b, many, c, rfl, h1, h2, ⟨n, g, m, k, hb, hn, hm, hm2, hk⟩, hc, q⟩ := h
  unfold t_law_take
  walk_at "mt"
  simp only [hb, seqO_lst, HO.lst.injEq, at0, at1, at2, at3, Option.some.injEq, exists_eq_left', exists_eq_left, V.bl.injEq, V.int.injEq, List.length_cons, List.length_nil, List.set_cons_zero]
  walk_at "mt"
  have rm := fun i => fmod_rng (i := i) (n := many) (by omega)
  have p64 : (2 : Nat) ^ 64 = 18446744073709551616 := by decide
  split
  · split
    · refine ⟨by omega, ⟨by omega, by omega⟩, 0, rfl, ?_⟩
      obtain ⟨r, hr, hlt⟩ := rm n
      rw [hr]
      refine q r _ hlt ⟨n.fdiv many, g, m, k, by rw [upd_same]; rfl, ?_, hm, hm2, by omega⟩
      rw [Int.fdiv_eq_ediv_of_nonneg _ (by omega)]
      exact Int.ediv_nonneg hn (by omega)
    all_goals (
      refine ⟨3, rfl, ?_⟩
      simp only [List.set_cons_succ, List.set_cons_zero, upd_same, seqO_lst, at2, at3, Option.some.injEq, exists_eq_left', exists_eq_left, V.int.injEq]
      have ek : ((k : Int) + 1) = ((k + 1 : Nat) : Int) := by omega
      rw [ek]
      have hm1 : CMulW 15487313 ((k + 1 : Nat) : Int) := wide_mul (a := 30) (b := 40) (by decide) (by omega) (by decide) (by decide) (by decide)
      refine ⟨hm1, ⟨by decide, by decide, by omega⟩, by decide, ?_⟩
      obtain ⟨r1, hr1, hl1⟩ := fmod_rng (i := (m + 15487313 * ((k + 1 : Nat) : Int) + 179426453) ^ Int.toNat 5) (n := 2147483647) (by decide)
      have e1 : (2147483647 : Int) = ((2147483647 : Nat) : Int) := rfl
      rw [e1, hr1]
      refine ⟨wide_mul (a := 32) (b := 32) (by omega) (by decide) (by decide) (by decide) (by decide), wide_mul (a := 20) (b := 40) (by decide) (by omega) (by decide) (by decide) (by decide), ⟨by decide, by decide, by omega⟩, by decide, ?_⟩
      refine ⟨⟨by decide, by decide⟩, by omega, ?_⟩
      obtain ⟨r, hr, hlt⟩ := rm ((((r1 : Int) * 48271 + 10103 * ((k + 1 : Nat) : Int)) ^ Int.toNat 3).fmod 2147483587 |>.fdiv 64)
      rw [hr]
      exact q r _ hlt ⟨n, g, m, k + 1, upd_same, hn, hm, hm2, by omega⟩)
  · all_goals (
      refine ⟨3, rfl, ?_⟩
      simp only [List.set_cons_succ, List.set_cons_zero, upd_same, seqO_lst, at2, at3, Option.some.injEq, exists_eq_left', exists_eq_left, V.int.injEq]
      have ek : ((k : Int) + 1) = ((k + 1 : Nat) : Int) := by omega
      rw [ek]
      have hm1 : CMulW 15487313 ((k + 1 : Nat) : Int) := wide_mul (a := 30) (b := 40) (by decide) (by omega) (by decide) (by decide) (by decide)
      refine ⟨hm1, ⟨by decide, by decide, by omega⟩, by decide, ?_⟩
      obtain ⟨r1, hr1, hl1⟩ := fmod_rng (i := (m + 15487313 * ((k + 1 : Nat) : Int) + 179426453) ^ Int.toNat 5) (n := 2147483647) (by decide)
      have e1 : (2147483647 : Int) = ((2147483647 : Nat) : Int) := rfl
      rw [e1, hr1]
      refine ⟨wide_mul (a := 32) (b := 32) (by omega) (by decide) (by decide) (by decide) (by decide), wide_mul (a := 20) (b := 40) (by decide) (by omega) (by decide) (by decide) (by decide), ⟨by decide, by decide, by omega⟩, by decide, ?_⟩
      refine ⟨⟨by decide, by decide⟩, by omega, ?_⟩
      obtain ⟨r, hr, hlt⟩ := rm ((((r1 : Int) * 48271 + 10103 * ((k + 1 : Nat) : Int)) ^ Int.toNat 3).fmod 2147483587 |>.fdiv 64)
      rw [hr]
      exact q r _ hlt ⟨n, g, m, k + 1, upd_same, hn, hm, hm2, by omega⟩)
end K56
set_option Elab.async false
set_option linter.all false
set_option maxRecDepth 100000
set_option maxHeartbeats 4000000
namespace K56
open PySem PySem.Spec PyProof.Rows L2 MT KM
open SX (S)
abbrev dl (H : Hp) (b : Addr) : Hp := MT.del H b
theorem dl_ne {H : Hp} {a b : Addr} (h : a ≠ b) : dl H b a = H a := if_neg h
theorem dl_at {H : Hp} {b : Addr} : dl H b b = none := if_pos rfl
theorem dl_upd {H : Hp} {b : Addr} {o : HO} : dl (upd H b o) b = dl H b := by
  funext a
  by_cases h : a = b
  · rw [h, dl_at, dl_at]
  · rw [dl_ne h, dl_ne h, upd_ne h]
theorem dl_updne {H : Hp} {a b : Addr} {o : HO} (h : a ≠ b) : dl (upd H a o) b = upd (dl H b) a o := by
  funext x
  by_cases hx : x = b
  · rw [hx, dl_at, upd_ne (Ne.symm h), dl_at]
  · rw [dl_ne hx]
    by_cases hxa : x = a
    · rw [hxa, upd_same, upd_same]
    · rw [upd_ne hxa, upd_ne hxa, dl_ne hx]
/-- all but the cell b grows -/
abbrev Gb (b : Addr) (F H F' H' : Hp) : Prop := Grow F (dl H b) F' (dl H' b)
section
variable {b : Addr} {F H F' H' : Hp} {c : Nat}
theorem Gb.sub (g : Gb b F H F' H') : Same F' H' := g.fh.trans del_sub
theorem Gb.refl (s : Same F H) (f : F b = none) : Gb b F H F H := Grow.refl (del_same' s f)
theorem Bx.ne (h : Bx H b c) : H b ≠ none := by
  obtain ⟨n, g, m, k, e, _⟩ := h
  rw [e]; simp
theorem Bx.same (h : Bx H b c) (s : Same H H') : Bx H' b c := by
  obtain ⟨n, g, m, k, e, r⟩ := h
  exact ⟨n, g, m, k, s _ _ e, r⟩
theorem Bx.mono {c' : Nat} (h : Bx H b c) (hc : c ≤ c') : Bx H b c' := by
  obtain ⟨n, g, m, k, e, h1, h2, h3, h4⟩ := h
  exact ⟨n, g, m, k, e, h1, h2, h3, by omega⟩
theorem Gb.fb (g : Gb b F H F' H') : F' b = none := by
  cases e : F' b with
  | none => rfl
  | some o =>
    have := g.fh _ _ e
    rw [dl_at] at this
    cases this
theorem same_dl (s : Same H H') : Same (dl H b) (dl H' b) := fun a o e => by
  by_cases h : a = b
  · rw [h, dl_at] at e; cases e
  · rw [dl_ne h] at e ⊢; exact s _ _ e
theorem Gb.of (g : Grow F H F' H') (f : F b = none) (hb : H b ≠ none) : Gb b F H F' H' := by
  have f' : F' b = none := g.nw b hb f
  exact ⟨del_same' g.s f, same_dl g.h, g.f, del_same' g.fh f', fun a h1 h2 => g.nw a (fun z => h1 (by
    by_cases h : a = b
    · rw [h]; exact dl_at
    · rw [dl_ne h]; exact z)) h2⟩
theorem Gb.box (s : Same F H) (f : F b = none) {o : HO} : Gb b F H F (upd H b o) := by
  show Grow F (dl H b) F (dl (upd H b o) b)
  rw [dl_upd]
  exact Gb.refl s f
theorem Gb.same (s : Same F H) (f : F b = none) (t : Same H H') : Gb b F H F H' := Grow.same (del_same' s f) (same_dl t)
/-- [te for ..], each te draws -/
theorem lc_box {J : It} {n : Nat} {it : Nat → V} {F0 H0 : Hp} {j : Nat} {te : TE} {σ : L2.St} {Q : VK} {s : Nat} {D : Addr} (hD : H0 D = none) (w : Walk J n (fun _ => True) (YFn it)) (hn : n < sizeLine) (s0 : Same F0 H0) (f0 : F0 b = none) (hb : Bx H0 b c)
    (R : Nat → V → Hp → Prop) (Rm : ∀ i v A B, Same A B → R i v A → R i v B)
    (he : ∀ i F1 H1 K', i < n → Gb b F0 H0 F1 H1 → Bx H1 b (c + i * s) → (∀ y F2 H2, Gb b F1 H1 F2 H2 → Bx H2 b (c + (i + 1) * s) → R i y F2 → K' y H2) → te (σ.set j (some (it i))) H1 K')
    (hd : ∀ F1 H1 ys, Gb b F0 H0 F1 H1 → F1 D = none → H1 D = some (.lst ys) → ys.length = n → Bx H1 b (c + n * s) → (∀ i y, ys[i]? = some y → R i y F1) → Q (.ref D) H1) :
    ∃ W : Nat → Nat → Hp → Prop, (∃ m, W 0 m (upd H0 D (.lst []))) ∧ ∀ i m H, W i m H →
      (J.stop i H ∧ Q (.ref D) H) ∨ (J.go i H ∧ ∃ Nx : Hp → Prop, (∀ H', Nx H' → ∃ m', m' < m ∧ W (i + 1) m' H') ∧ ∀ x H', J.yld i H x H' → gName j x (wipe σ [j]) H' fun σ2 H2 => wipe σ2 [j] = wipe σ [j] ∧ tYes σ2 H2 fun b H3 =>
        if b = true then te σ2 H3 fun y H4 => ∃ acc, H4 D = some (.lst acc) ∧ acc.length < sizeLine ∧ Nx (upd H4 D (.lst (acc ++ [y]))) else Nx H3) := by
  have hF0 : F0 D = none := Same.free s0 hD
  have hDb : D ≠ b := fun z => hb.ne (by rw [← z]; exact hD)
  have hD' : dl H0 b D = none := by rw [dl_ne hDb]; exact hD
  refine lc_it w (fun i H => ∃ F1 ys, Gb b F0 H0 F1 H ∧ F1 D = none ∧ H D = some (.lst ys) ∧ ys.length = i ∧ Bx H b (c + i * s) ∧ ∀ i y, ys[i]? = some y → R i y F1)
    ⟨F0, [], ?_, hF0, upd_same, rfl, ?_, by simp⟩ (fun i H _ h => trivial) (fun i x H H' hi h y => ?_) (fun H h => ?_)
  · show Grow F0 (dl H0 b) F0 (dl (upd H0 D (.lst [])) b)
    rw [dl_updne hDb]
    exact (Gb.refl s0 f0).cell hD' hF0
  · rw [Nat.zero_mul]; exact hb.same (same_upd hD)
  · obtain ⟨F1, ys, g, hF1, hH, hl, hbx, hr⟩ := h
    obtain ⟨rfl, rfl⟩ := y
    have e1 : (wipe σ [j]).set j (some (it i)) = σ.set j (some (it i)) := by
      show (σ.set j none).set j _ = _
      rw [List.set_set]
    show wipe ((wipe σ [j]).set j (some (it i))) [j] = wipe σ [j] ∧ _
    refine ⟨?_, ?_⟩
    · rw [e1]
      show (σ.set j (some (it i))).set j none = σ.set j none
      rw [List.set_set]
    · rw [e1]
      refine he i F1 H' _ hi g hbx fun y F2 H2 g2 hb2 r => ?_
      have hH2 : H2 D = some (.lst ys) := by
        have := g2.h D (.lst ys) (by rw [dl_ne hDb]; exact hH)
        rw [dl_ne hDb] at this
        exact this
      have hF2 : F2 D = none := g2.nw D (by rw [dl_ne hDb, hH]; simp) hF1
      refine ⟨ys, hH2, by omega, F2, ys ++ [y], ?_, hF2, upd_same, by rw [List.length_append, hl]; rfl, ?_, fun k z hz => ?_⟩
      · show Grow F0 (dl H0 b) F2 (dl (upd H2 D _) b)
        rw [dl_updne hDb]
        exact (g.trans g2).cell hD' hF2
      · obtain ⟨n', g', m', k', e, r'⟩ := hb2
        exact ⟨n', g', m', k', by rw [upd_ne (Ne.symm hDb)]; exact e, r'⟩
      · by_cases hk : k < ys.length
        · rw [List.getElem?_append_left hk] at hz
          exact Rm _ _ _ _ g2.f (hr k z hz)
        · rw [List.getElem?_append_right (by omega)] at hz
          have hk2 : k - ys.length = 0 := by
            cases q : k - ys.length with
            | zero => rfl
            | succ m => rw [q] at hz; simp at hz
          rw [hk2] at hz
          have ez : y = z := by simpa using hz
          subst ez
          have : k = i := by omega
          subst this
          exact r
  · obtain ⟨F1, ys, g, hF1, hH, hl, hbx, hr⟩ := h
    exact hd F1 H ys g hF1 hH hl hbx hr
end
end K56
set_option Elab.async false
set_option linter.all false
set_option maxRecDepth 100000
set_option maxHeartbeats 4000000
namespace K56
open PySem PySem.Spec PyProof.Rows L2 MT
open SX (S)
open KM
local macro_rules | `(tactic| walk_at "mt") => `(tactic| simp only [L2.start, List.map_cons, List.map_nil, List.length_cons, List.length_nil, List.replicate_succ, List.replicate_zero, Nat.reduceSub, Nat.reduceAdd, Nat.sub_self, Nat.zero_add, List.cons_append, List.nil_append, List.append_nil, List.getElem?_cons_zero, List.getElem?_cons_succ, List.set_cons_zero, List.set_cons_succ, Option.some.injEq, exists_eq_left', exists_eq_left, exists_eq_right, V.bl.injEq, V.int.injEq, V.str.injEq, V.ref.injEq, reduceCtorEq, false_and, and_false, true_and, and_true, false_or, or_false, exists_false, exists_const, ↓reduceIte, Bool.false_eq_true, decide_eq_true_eq, Bool.and_eq_true, Bool.not_true, Bool.not_false, List.cons.injEq, exists_and_left, exists_and_right,
  tRet, tBM, tBM0, tAndV, tOrV, tNotV, tAnd, tOr, tNot, tB, tTest, tIf, tIfS, tC, tVar, tOp, tUn, tChain, rI0, rI, rU, tFn, tCons, tNil, tCB, tTup, tLst, tAsg, gName, tNext, tDrop, tRetN, tPar, tPar3, tAug, rSumM, rMaxM, rMinM, gSub, rSetL, tRaiseO, tFnW, tXf, gTup, gUnl, gCons, gNil, rPopM, rAppendM, rExtendM, rTupM, rListM, ipI, tIs, tIss, rLenM, rIxM, rAddM, rEqM, rNeM, rSignIn, rInt, rAbs, rStrI, tSl, tPart, tNoPart, rSlM, tIsN, tNotN, List.any_cons, List.any_nil, Bool.or_false, tSeq, isa, D.ty, decide_true, decide_false, Bool.true_or, Bool.or_true, Bool.false_or, Bool.and_true, Bool.true_and, Bool.false_and, Bool.and_false, eq_self_iff_true, not_true_eq_false, not_false_eq_true, bne_self_eq_false])
theorem Gb.weak {b : Addr} {F H F' H' : Hp} (g : Gb b F H F' H') : Gb b F H F H' := ⟨g.s, g.h, .refl _, g.s.trans g.h, fun _ _ h => h⟩
theorem join0 : ∀ cs : List Nat, TL.joinL [] (cs.map fun c => [c]) = cs
  | [] => rfl
  | [c] => rfl
  | c :: d :: cs => by
    show [c] ++ ([] ++ TL.joinL [] ((d :: cs).map fun c => [c])) = _
    rw [join0 (d :: cs)]; rfl
theorem signs_of {P : Nat → Prop} : ∀ {ys : List V}, (∀ (i : Nat) y, ys[i]? = some y → ∃ c, P c ∧ y = .str (S [c])) → ∃ cs : List Nat, ys = cs.map (fun c => V.str (S [c])) ∧ ∀ c ∈ cs, P c
  | [], _ => ⟨[], rfl, by simp⟩
  | y :: ys, h => by
    obtain ⟨c, hc, rfl⟩ := h 0 y rfl
    obtain ⟨cs, e, hcs⟩ := signs_of (ys := ys) fun i z hz => h (i + 1) z (by simpa using hz)
    exact ⟨c :: cs, by rw [e]; rfl, fun x hx => by
      rcases List.mem_cons.mp hx with rfl | hx
      · exact hc
      · exact hcs x hx⟩
def spWord : Sp := fun vs H Q _ => ∃ (F : Hp) (b : Addr) (c : Nat), vs = [.ref b] ∧ Same F H ∧ F b = none ∧ Bx H b c ∧ c ≤ 900000000 ∧ ∀ w H', isWordL w = true → Gb b F H F H' → Bx H' b (c + 13) → Q (.str (S w)) H'
theorem pr_law_word {K : PySem.W.Frag} (vs : List V) (H : Hp) (Q : VK) (E : XK) (h : spWord vs H Q E) : t_law_word K spTake (E0N Q) (L2.start ["box", "k"] vs) H := by
  obtain ⟨F, b, c, rfl, sF, fb, hb, hc, q⟩ := h
  unfold t_law_word
  have hte : ∀ (i : V) H1 (K' : VK) c1, Bx H1 b c1 → c1 ≤ 1000000000 → (∀ cc o, cc ∈ letters → Bx (upd H1 b o) b (c1 + 1) → K' (.str (S [cc])) (upd H1 b o)) → (tOp rIxM (tC (.str (S [97, 98, 99, 100, 101, 102, 103, 104, 105, 106, 107, 108, 109, 110, 111, 112, 113, 114, 115, 116, 117, 118, 119, 120, 121, 122]))) (tFn spTake (tCons (tVar 0) (tCons (tC (.int 26)) tNil)))) [some (.ref b), some i] H1 K' := by
    intro i H1 K' c1 hb1 hc1 kk
    unfold tOp tC tFn tCons tNil tVar
    refine ⟨_, rfl, b, 26, c1, rfl, by omega, by omega, hb1, hc1, fun r o hr hb2 => ?_⟩
    show _ ∧ _
    refine ⟨by decide +kernel, letters[r]'(by show r < 26; omega), atI_nat (List.getElem?_eq_getElem _), kk _ o (List.getElem_mem _) hb2⟩
  revert hte
  generalize (tOp rIxM (tC (.str (S [97, 98, 99, 100, 101, 102, 103, 104, 105, 106, 107, 108, 109, 110, 111, 112, 113, 114, 115, 116, 117, 118, 119, 120, 121, 122]))) _) = te
  intro hte
  unfold tRet tBM tLc iRng1 tCons tNil tOp tC tFn tVar rAddM
  refine ⟨tyS, _, rfl, b, 12, c, rfl, by omega, by omega, hb, by omega, fun r o hr hb1 => ?_⟩
  refine ⟨1 + (r : Int), rfl, by omega, by omega, fun D hD => ?_⟩
  have en : (1 + (r : Int)).toNat = r + 1 := by omega
  rw [en]
  have s1 : Same F (upd H b o) := fun a u e => by rw [upd_ne (fun z => by rw [z, fb] at e; cases e)]; exact sF _ _ e
  refine lc_box (te := te) (σ := L2.start ["box", "k"] [.ref b]) (j := 1) (Q := fun x H1 => rJoinM (.str (S [])) [x] H1 (E0N Q).rt) (c := c + 1) (s := 1) hD walk_range (Nat.lt_of_le_of_lt (show r + 1 ≤ 20 by omega) (by decide +kernel)) s1 fb hb1 (fun _ v _ => ∃ cc, cc ∈ letters ∧ v = .str (S [cc])) (fun _ _ _ _ _ h => h) (fun i F1 H1 K' hi g hb2 kk => ?_) fun F1 H1 ys g h1 h2 h3 h4 h5 => ?_
  · refine hte _ H1 K' _ hb2 (by omega) fun cc o2 hcc hb3 => ?_
    exact kk _ F1 _ (Gb.box (Gb.sub g) (Gb.fb g)) (by rw [show c + 1 + (i + 1) * 1 = c + 1 + i * 1 + 1 by omega]; exact hb3) ⟨cc, hcc, rfl⟩
  · obtain ⟨cs, rfl, hcs⟩ := signs_of h5
    rw [List.length_map] at h3
    unfold rJoinM
    refine ⟨[], cs.map fun c => [c], rfl, by rw [h2, List.map_map]; rfl, ?_, ?_⟩
    · have : ((cs.map fun c => [c]).map (·.length)).sum = cs.length := by
        rw [List.map_map]
        have : ∀ l : List Nat, (l.map ((fun x => x.length) ∘ fun c => [c])).sum = l.length := by
          intro l
          induction l with
          | nil => rfl
          | cons x l ih => simp only [List.map_cons, List.sum_cons, ih, List.length_cons, Function.comp]; simp; omega
        exact this cs
      rw [this]
      simp; omega
    · rw [join0]
      refine q cs H1 ?_ (Gb.weak ((Gb.box sF fb).trans g)) (h4.mono (by omega))
      unfold isWordL
      rw [Bool.and_eq_true, Bool.and_eq_true, decide_eq_true_eq, decide_eq_true_eq, List.all_eq_true]
      exact ⟨⟨by omega, by omega⟩, fun x hx => decide_eq_true (hcs x hx)⟩
end K56
set_option Elab.async false
set_option linter.all false
set_option maxRecDepth 100000
set_option maxHeartbeats 4000000
namespace K56
open PySem PySem.Spec PyProof.Rows L2 MT
open SX (S)
open KM
local macro_rules | `(tactic| walk_at "mt") => `(tactic| simp only [L2.start, List.map_cons, List.map_nil, List.length_cons, List.length_nil, List.replicate_succ, List.replicate_zero, Nat.reduceSub, Nat.reduceAdd, Nat.sub_self, Nat.zero_add, List.cons_append, List.nil_append, List.append_nil, List.getElem?_cons_zero, List.getElem?_cons_succ, List.set_cons_zero, List.set_cons_succ, Option.some.injEq, exists_eq_left', exists_eq_left, exists_eq_right, V.bl.injEq, V.int.injEq, V.str.injEq, V.ref.injEq, reduceCtorEq, false_and, and_false, true_and, and_true, false_or, or_false, exists_false, exists_const, ↓reduceIte, Bool.false_eq_true, decide_eq_true_eq, Bool.and_eq_true, Bool.not_true, Bool.not_false, List.cons.injEq, exists_and_left, exists_and_right,
  tRet, tBM, tBM0, tAndV, tOrV, tNotV, tAnd, tOr, tNot, tB, tTest, tIf, tIfS, tC, tVar, tOp, tUn, tChain, rI0, rI, rU, tFn, tCons, tNil, tCB, tTup, tLst, tAsg, gName, tNext, tDrop, tRetN, tPar, tPar3, tAug, rSumM, rMaxM, rMinM, gSub, rSetL, tRaiseO, tFnW, tXf, gTup, gUnl, gCons, gNil, rPopM, rAppendM, rExtendM, rTupM, rListM, ipI, tIs, tIss, rLenM, rIxM, rAddM, rEqM, rNeM, rSignIn, rInt, rAbs, rStrI, tSl, tPart, tNoPart, rSlM, tIsN, tNotN, List.any_cons, List.any_nil, Bool.or_false, tSeq, isa, D.ty, decide_true, decide_false, Bool.true_or, Bool.or_true, Bool.false_or, Bool.and_true, Bool.true_and, Bool.false_and, Bool.and_false, eq_self_iff_true, not_true_eq_false, not_false_eq_true, bne_self_eq_false])
theorem Gb.go {b : Addr} {F H H1 : Hp} (g : Gb b F H F H1) (o : HO) : Gb b F H F (upd H1 b o) := g.trans (Gb.box (Gb.sub g) (Gb.fb g))
theorem Gb.new {b p : Addr} {F H H1 : Hp} (g : Gb b F H F H1) (o : HO) (hp : H1 p = none) : Gb b F H F (upd H1 p o) := g.trans (Gb.same (Gb.sub g) (Gb.fb g) (same_upd hp))
/-- leaves -/
def Leaf (d : D) : Prop := (∀ L n, KM.plain L d n = true) ∧ (text d).length ≤ 20 ∧ depth d = 0
theorem leaf_int {n : Nat} (h : n < 10 ^ 20) : Leaf (.int (n : Int)) := by
  refine ⟨fun L m => ?_, ?_, rfl⟩
  · simp only [KM.plain, Bool.and_eq_true, decide_eq_true_eq]
    omega
  · show (TL.numL ((n : Int)).toNat).length ≤ 20
    have : ((n : Int)).toNat = n := by omega
    rw [this]
    exact TL.numL_len (by decide) h
theorem leaf_bl (b : Bool) : Leaf (.bl b) := ⟨fun _ _ => rfl, by cases b <;> decide, rfl⟩
theorem leaf_str {w : List Nat} (h : isWordL w = true) : Leaf (.str w) := ⟨fun _ _ => h, by
  have := word_letters h
  show w.length ≤ 20
  omega, rfl⟩
def spLeaf : Sp := fun vs H Q _ => ∃ (F : Hp) (b : Addr) (c : Nat), vs = [.ref b] ∧ Same F H ∧ F b = none ∧ Bx H b c ∧ c ≤ 800000000 ∧ ∀ d v H', Leaf d → Rep noH v d → Gb b F H F H' → Bx H' b (c + 20) → Q v H'
theorem pr_law_leaf {K : PySem.W.Frag} (vs : List V) (H : Hp) (Q : VK) (E : XK) (h : spLeaf vs H Q E) : t_law_leaf K spTake spWord (E0N Q) (L2.start ["box", "way"] vs) H := by
  obtain ⟨F, b, c, rfl, sF, fb, hb, hc, q⟩ := h
  unfold t_law_leaf
  walk_at "mt"
  refine ⟨b, 6, c, rfl, by omega, by omega, hb, by omega, fun r o1 hr hb1 => ?_⟩
  have g1 := (Gb.refl sF fb).go o1
  walk_at "mt"
  split
  · refine ⟨b, 999, _, rfl, by omega, by omega, hb1, by omega, fun r2 o2 hr2 hb2 => ?_⟩
    have g2 := g1.go o2
    walk_at "mt"
    refine ⟨⟨by decide, by decide, by decide⟩, b, 3, _, rfl, by omega, by omega, hb2, by omega, fun r3 o3 hr3 hb3 => ?_⟩
    have g3 := g2.go o3
    walk_at "mt"
    refine ⟨⟨by decide, by decide, by decide⟩, by decide +kernel, fun p hp => ?_⟩
    have g4 := g3.new (.lst [V.int 0, V.int 7, V.int 10, V.int (9 + (r2 : Int)), V.int (10 ^ Int.toNat 20 - 1 - (r3 : Int)), V.int (10 ^ Int.toNat 19)]) hp
    have hb4 := hb3.same (same_upd (o := .lst [V.int 0, V.int 7, V.int 10, V.int (9 + (r2 : Int)), V.int (10 ^ Int.toNat 20 - 1 - (r3 : Int)), V.int (10 ^ Int.toNat 19)]) hp)
    have hpb : p ≠ b := fun z => (by rw [z] at hp; exact hb3.ne hp)
    refine ⟨b, 6, _, rfl, by omega, by omega, hb4, by omega, fun r5 o5 hr5 hb5 => ?_⟩
    have g5 := g4.go o5
    walk_at "mt"
    rw [upd_ne hpb, upd_same]
    have fin : ∀ n : Nat, n < 10 ^ 20 → Q (.int (n : Int)) (upd (upd (upd (upd (upd H b o1) b o2) b o3) p (.lst [V.int 0, V.int 7, V.int 10, V.int (9 + (r2 : Int)), V.int (10 ^ Int.toNat 20 - 1 - (r3 : Int)), V.int (10 ^ Int.toNat 19)])) b o5) := fun n hn => q _ _ _ (leaf_int hn) (.int _) g5 (hb5.mono (by omega))
    refine ⟨_, rfl, ?_⟩
    have e20 : (10 : Int) ^ Int.toNat 20 = 100000000000000000000 := by decide
    have e19 : (10 : Int) ^ Int.toNat 19 = 10000000000000000000 := by decide
    have n20 : (10 : Nat) ^ 20 = 100000000000000000000 := by decide
    match r5, hr5 with
    | 0, _ => exact ⟨_, at0, fin 0 (by decide)⟩
    | 1, _ => exact ⟨_, at1, fin 7 (by decide)⟩
    | 2, _ => exact ⟨_, at2, fin 10 (by decide)⟩
    | 3, _ =>
      refine ⟨_, at3, ?_⟩
      have := fin (9 + r2) (by omega)
      rw [show ((9 + r2 : Nat) : Int) = 9 + (r2 : Int) by omega] at this
      exact this
    | 4, _ =>
      refine ⟨_, atI_nat (j := 4) rfl, ?_⟩
      have := fin (100000000000000000000 - 1 - r3) (by omega)
      rw [show ((100000000000000000000 - 1 - r3 : Nat) : Int) = 10 ^ Int.toNat 20 - 1 - (r3 : Int) by rw [e20]; omega] at this
      exact this
    | 5, _ =>
      refine ⟨_, atI_nat (j := 5) rfl, ?_⟩
      have := fin 10000000000000000000 (by omega)
      rw [show ((10000000000000000000 : Nat) : Int) = 10 ^ Int.toNat 19 by rw [e19]; rfl] at this
      exact this
  · split
    · refine ⟨b, 2, _, rfl, by omega, by omega, hb1, by omega, fun r2 o2 hr2 hb2 => ?_⟩
      walk_at "mt"
      exact q _ _ _ (leaf_bl _) (.bl _) (g1.go o2) (hb2.mono (by omega))
    · refine ⟨F, b, _, rfl, Gb.sub g1, fb, hb1, by omega, fun w H' hw g2 hb2 => ?_⟩
      have := word_letters hw
      exact q _ _ _ (leaf_str hw) (.str (by show w.length ≤ 1000000; omega)) (g1.trans g2) (hb2.mono (by omega))
end K56
set_option Elab.async false
set_option linter.all false
set_option maxRecDepth 100000
set_option maxHeartbeats 4000000
namespace K56
open PySem PySem.Spec PyProof.Rows L2 MT KM
open SX (S)
/-- (F, H) behind (F0, H0), the box b at most at c -/
structure Wd (b : Addr) (F0 H0 : Hp) (c : Nat) (F H : Hp) : Prop where
  g : Gb b F0 H0 F H
  bx : Bx H b c
section
variable {b p : Addr} {F0 H0 F H H' F' : Hp} {c : Nat} {xs : List V} {ds : List D} {v : V} {d : D} {o : HO}
theorem Wd.start (s : Same F H) (f : F b = none) (hb : Bx H b c) : Wd b F H c F H := ⟨Gb.refl s f, hb⟩
theorem Wd.sub (w : Wd b F0 H0 c F H) : Same F H := Gb.sub w.g
theorem Wd.fb (w : Wd b F0 H0 c F H) : F b = none := Gb.fb w.g
theorem Wd.mono {c' : Nat} (w : Wd b F0 H0 c F H) (h : c ≤ c') : Wd b F0 H0 c' F H := ⟨w.g, w.bx.mono h⟩
theorem Wd.ne (w : Wd b F0 H0 c F H) (hp : H p = none) : p ≠ b := fun z => by rw [z] at hp; exact w.bx.ne hp
theorem Wd.free (w : Wd b F0 H0 c F H) (hp : H p = none) : F p = none := Same.free w.sub hp
theorem Wd.same (w : Wd b F0 H0 c F H) (s : Same H H') : Wd b F0 H0 c F H' := ⟨w.g.trans (Gb.same w.sub w.fb s), w.bx.same s⟩
theorem Wd.grow (w : Wd b F0 H0 c F H) (g : Grow F H F' H') : Wd b F0 H0 c F' H' := ⟨w.g.trans (Gb.of g w.fb w.bx.ne), w.bx.same g.h⟩
theorem Wd.junk (w : Wd b F0 H0 c F H) (hp : H p = none) : Wd b F0 H0 c F (upd H p o) := w.same (same_upd hp)
theorem Wd.new (w : Wd b F0 H0 c F H) (hp : H p = none) : Wd b F0 H0 c (upd F p o) (upd H p o) := w.grow ((Grow.refl w.sub).new hp)
theorem Wd.gb {c' : Nat} (w : Wd b F0 H0 c F H) (g : Gb b F H F' H') (hb : Bx H' b c') : Wd b F0 H0 c' F' H' := ⟨w.g.trans g, hb⟩
theorem Wd.take (w : Wd b F0 H0 c F H) (hb : Bx (upd H b o) b (c + 1)) : Wd b F0 H0 (c + 1) F (upd H b o) := w.gb (Gb.box w.sub w.fb) hb
theorem Wd.up (w : Wd b F0 H0 c F H) (hp : H p = none) : Same F (upd F p o) := same_upd (w.free hp)
theorem Wd.newL (w : Wd b F0 H0 c F H) (hp : H p = none) (r : RepL F xs ds) (hl : ds.length ≤ BL) : Rep (upd F p (.lst xs)) (.ref p) (.lst ds) := .lst upd_same (r.mono (w.up hp)) hl
theorem Wd.newT (w : Wd b F0 H0 c F H) (hp : H p = none) (r : RepL F xs ds) (hl : ds.length ≤ BL) : Rep (upd F p (.tup xs)) (.ref p) (.tup ds) := .tup upd_same (r.mono (w.up hp)) hl
/-- a list that was a cell becomes data -/
theorem Wd.frz (w : Wd b F0 H0 c F H) (h0 : H0 p = none) (hp : H p = some o) (hF : F p = none) (hpb : p ≠ b) : Wd b F0 H0 c (upd F p o) H := by
  refine ⟨?_, w.bx⟩
  refine w.g.frz ?_ hF ?_
  · rw [dl_ne hpb]; exact h0
  · rw [dl_ne hpb]; exact hp
end
/-! ### sizes -/
def Pl (d : D) : Prop := ∀ L n, n + depth d ≤ L → KM.plain L d n = true
theorem pls_iff {ds : List D} {L n : Nat} (h : ∀ d ∈ ds, Pl d) (hd : n + depths ds ≤ L) : plains L ds n = true := by
  rw [plains_all, List.all_eq_true]
  intro d hd2
  refine h d hd2 L n ?_
  obtain ⟨k, hk⟩ := List.mem_iff_getElem?.mp hd2
  have := depths_get hk
  omega
theorem Pl.tup {ds : List D} (h : ∀ d ∈ ds, Pl d) : Pl (.tup ds) := fun L n hn => by
  simp only [depth] at hn
  simp only [KM.plain, Bool.and_eq_true, decide_eq_true_eq]
  exact ⟨by omega, pls_iff h (by omega)⟩
theorem Pl.lst {ds : List D} (h : ∀ d ∈ ds, Pl d) : Pl (.lst ds) := fun L n hn => by
  simp only [depth] at hn
  simp only [KM.plain, Bool.and_eq_true, decide_eq_true_eq]
  exact ⟨by omega, pls_iff h (by omega)⟩
def Tl (ds : List D) : Nat := (ds.map fun d => (text d).length + 2).sum
theorem Tl_app (a b : List D) : Tl (a ++ b) = Tl a + Tl b := by unfold Tl; rw [List.map_append, List.sum_append]
theorem Tl_one (d : D) : Tl [d] = (text d).length + 2 := by simp [Tl]
theorem Tl_cut (ds : List D) (i k : Nat) (h : i ≤ k) : Tl (ds.take i) + Tl ((ds.drop i).take (k - i)) + Tl (ds.drop k) = Tl ds := by
  have e : ds = ds.take i ++ ((ds.drop i).take (k - i) ++ ds.drop k) := by
    have h1 : ds.drop k = (ds.drop i).drop (k - i) := by rw [List.drop_drop]; congr 1; omega
    rw [h1, List.take_append_drop, List.take_append_drop]
  have := congrArg Tl e
  rw [Tl_app, Tl_app] at this
  omega
theorem join_le : ∀ ds : List D, (TL.joinL [44, 32] (texts ds)).length ≤ Tl ds
  | [] => Nat.zero_le _
  | [d] => by simp [texts, TL.joinL, Tl]
  | d :: e :: ds => by
    have := join_le (e :: ds)
    show ((text d) ++ ([44, 32] ++ TL.joinL [44, 32] (texts (e :: ds)))).length ≤ _
    have e2 : Tl (d :: e :: ds) = (text d).length + 2 + Tl (e :: ds) := by simp [Tl]
    rw [e2, List.length_append, List.length_append]
    simp; omega
theorem tup_len (ds : List D) : (text (.tup ds)).length ≤ Tl ds + 2 := by
  have := join_le ds
  simp [text]; omega
theorem lst_len (ds : List D) : (text (.lst ds)).length ≤ Tl ds + 2 := by
  have := join_le ds
  simp [text]; omega
theorem mem_depths {ds : List D} {n : Nat} (h : ∀ d ∈ ds, depth d ≤ n) : depths ds ≤ n := by
  induction ds with
  | nil => exact Nat.zero_le _
  | cons d ds ih =>
    have h1 := h d List.mem_cons_self
    have h2 := ih fun x hx => h x (List.mem_cons_of_mem _ hx)
    simp only [depths]; omega
/-- a row of items, n deep, of size t -/
structure Row (ds : List D) (n t : Nat) : Prop where
  pl : ∀ d ∈ ds, Pl d
  dp : ∀ d ∈ ds, depth d ≤ n
  tl : Tl ds ≤ t
/-- what a part of a row is made of -/
def PartOk (n t : Nat) (d : D) : Prop := Pl d ∧ depth d ≤ n + 2 ∧ (text d).length ≤ t + 4
theorem part_tup {ds : List D} {n t : Nat} (r : Row ds n t) : PartOk n t (.tup ds) := ⟨Pl.tup r.pl, by
  have := mem_depths r.dp
  simp only [depth]; omega, by
  have := tup_len ds
  have := r.tl
  omega⟩
theorem part_lst {ds : List D} {n t : Nat} (r : Row ds n t) : PartOk n t (.lst ds) := ⟨Pl.lst r.pl, by
  have := mem_depths r.dp
  simp only [depth]; omega, by
  have := lst_len ds
  have := r.tl
  omega⟩
theorem part_tl {ds : List D} {n t : Nat} (r : Row ds n t) : PartOk n t (.tup [.lst ds]) := ⟨Pl.tup fun d hd => by cases List.mem_singleton.mp hd; exact Pl.lst r.pl, by
  have := mem_depths r.dp
  simp only [depth, depths]; omega, by
  have := lst_len ds
  have h2 := r.tl
  simp [text, texts, TL.joinL] at this ⊢; omega⟩
theorem part_lt {ds : List D} {n t : Nat} (r : Row ds n t) : PartOk n t (.lst [.tup ds]) := ⟨Pl.lst fun d hd => by cases List.mem_singleton.mp hd; exact Pl.tup r.pl, by
  have := mem_depths r.dp
  simp only [depth, depths]; omega, by
  have := tup_len ds
  have h2 := r.tl
  simp [text, texts, TL.joinL] at this ⊢; omega⟩
theorem Row.nil {n t : Nat} : Row [] n t := ⟨fun d h => (by cases h), fun d h => (by cases h), Nat.zero_le _⟩
end K56
set_option Elab.async false
set_option linter.all false
set_option maxRecDepth 100000
set_option maxHeartbeats 4000000
namespace K56
open PySem PySem.Spec PyProof.Rows L2 MT
open SX (S)
open KM
local macro_rules | `(tactic| walk_at "mt") => `(tactic| simp only [L2.start, List.map_cons, List.map_nil, List.length_cons, List.length_nil, List.replicate_succ, List.replicate_zero, Nat.reduceSub, Nat.reduceAdd, Nat.sub_self, Nat.zero_add, List.cons_append, List.nil_append, List.append_nil, List.getElem?_cons_zero, List.getElem?_cons_succ, List.set_cons_zero, List.set_cons_succ, Option.some.injEq, exists_eq_left', exists_eq_left, exists_eq_right, V.bl.injEq, V.int.injEq, V.str.injEq, V.ref.injEq, reduceCtorEq, false_and, and_false, true_and, and_true, false_or, or_false, exists_false, exists_const, ↓reduceIte, Bool.false_eq_true, decide_eq_true_eq, Bool.and_eq_true, Bool.not_true, Bool.not_false, List.cons.injEq, exists_and_left, exists_and_right,
  tRet, tBM, tBM0, tAndV, tOrV, tNotV, tAnd, tOr, tNot, tB, tTest, tIf, tIfS, tC, tVar, tOp, tUn, tChain, rI0, rI, rU, tFn, tCons, tNil, tCB, tTup, tLst, tAsg, gName, tNext, tDrop, tRetN, tPar, tPar3, tAug, rSumM, rMaxM, rMinM, gSub, rSetL, tRaiseO, tFnW, tXf, gTup, gUnl, gCons, gNil, rPopM, rAppendM, rExtendM, rTupM, rListM, ipI, tIs, tIss, rLenM, rIxM, rAddM, rEqM, rNeM, rSignIn, rInt, rAbs, rStrI, tSl, tPart, tNoPart, rSlM, tIsN, tNotN, List.any_cons, List.any_nil, Bool.or_false, tSeq, isa, D.ty, decide_true, decide_false, Bool.true_or, Bool.or_true, Bool.false_or, Bool.and_true, Bool.true_and, Bool.false_and, Bool.and_false, eq_self_iff_true, not_true_eq_false, not_false_eq_true, bne_self_eq_false])
theorem Row.sub {ds es : List D} {n t u : Nat} (r : Row ds n t) (h : ∀ d ∈ es, d ∈ ds) (hu : Tl es ≤ u) : Row es n u := ⟨fun d hd => r.pl d (h d hd), fun d hd => r.dp d (h d hd), hu⟩
theorem RepL.ofAll {F : Hp} {P : D → Prop} : ∀ {ys : List V}, (∀ (i : Nat) y, ys[i]? = some y → ∃ d, P d ∧ Rep F y d) → ∃ ds, RepL F ys ds ∧ ds.length = ys.length ∧ ∀ d ∈ ds, P d
  | [], _ => ⟨[], .nil, rfl, by simp⟩
  | y :: ys, h => by
    obtain ⟨d, hd, r⟩ := h 0 y rfl
    obtain ⟨ds, rs, e, hds⟩ := RepL.ofAll (ys := ys) fun i z hz => h (i + 1) z (by simpa using hz)
    exact ⟨d :: ds, .cons r rs, by simp [e], fun x hx => by
      rcases List.mem_cons.mp hx with rfl | hx
      · exact hd
      · exact hds x hx⟩
def spLawValue : Sp := fun vs H Q _ => ∃ (F : Hp) (b : Addr) (c : Nat), vs = [.ref b] ∧ Same F H ∧ F b = none ∧ Bx H b c ∧ c ≤ 700000000 ∧
  ∀ d v F' H', Pl d → depth d ≤ 9 → (text d).length ≤ 200 → Wd b F H (c + 200) F' H' → Rep F' v d → Q v H'
def y_turn (K : PySem.W.Frag) : TS := (tSeq (tPar 4 5 (tCons (tFn spTake (tCons (tVar 0) (tCons (tCB rLenM (tCons (tVar 1) tNil)) tNil))) (tCons (tOp rAddM (tC (.int 1)) (tFn spTake (tCons (tVar 0) (tCons (tC (.int 3)) tNil)))) tNil))) (tSeq (tAsg (tSl rSlM (tVar 1) (tPart (tVar 4)) (tPart (tOp rAddM (tVar 4) (tVar 5)))) (gName 6)) (tSeq (tAsg (tOp rIxM (tLst (tCons (tCB rTupM (tCons (tVar 6) tNil)) (tCons (tCB rListM (tCons (tVar 6) tNil)) (tCons (tTup tNil) (tCons (tLst tNil) (tCons (tTup (tCons (tCB rListM (tCons (tVar 6) tNil)) tNil)) (tCons (tLst (tCons (tCB rTupM (tCons (tVar 6) tNil)) tNil)) tNil))))))) (tFn spTake (tCons (tVar 0) (tCons (tC (.int 6)) tNil)))) (gName 7)) (tAsg (tOp rAddM (tOp rAddM (tSl rSlM (tVar 1) tNoPart (tPart (tVar 4))) (tLst (tCons (tVar 7) tNil))) (tSl rSlM (tVar 1) (tPart (tOp rAddM (tVar 4) (tVar 5))) tNoPart)) (gName 1)))))
theorem cutL {xs : List V} {i j : Nat} (h : i ≤ j) : cutV xs (some (i : Int)) (some (j : Int)) = (xs.drop i).take (j - i) := by
  unfold cutV
  rw [HT.sIx_nat, HT.sIx_nat]
  apply List.ext_getElem?
  intro k
  rw [List.getElem?_take, List.getElem?_take, List.getElem?_drop, List.getElem?_drop]
  by_cases hi : i ≤ xs.length
  · rw [Nat.min_eq_left hi]
    by_cases hk : k < j - i
    · rw [if_pos hk]
      split
      · rfl
      · rw [List.getElem?_eq_none (by omega)]
    · rw [if_neg hk, if_neg (by omega)]
  · rw [List.getElem?_eq_none (by omega), List.getElem?_eq_none (by omega)]
    split <;> split <;> rfl
theorem cutTo {xs : List V} {j : Nat} : cutV xs none (some (j : Int)) = xs.take j := by
  unfold cutV
  rw [HT.sIx_none, HT.sIx_nat]
  rw [List.drop_zero, Nat.sub_zero]
  by_cases h : j ≤ xs.length
  · rw [Nat.min_eq_left h]
  · rw [Nat.min_eq_right (by omega), List.take_of_length_le (Nat.le_refl _), List.take_of_length_le (by omega)]
theorem cutFrom {xs : List V} {i : Nat} : cutV xs (some (i : Int)) none = xs.drop i := by
  unfold cutV
  rw [HT.sIx_none, HT.sIx_nat]
  by_cases h : i ≤ xs.length
  · rw [Nat.min_eq_left h, List.take_of_length_le (by rw [List.length_drop]; omega)]
  · rw [Nat.min_eq_right (by omega), List.drop_of_length_le (Nat.le_refl _), List.drop_of_length_le (show xs.length ≤ i by omega)]; simp
theorem row_ok {K : PySem.W.Frag} {b p : Addr} {F0 H0 F H : Hp} {c cut many : Nat} {xs : List V} {ds : List D} {v : V} {d : D} {De : L2.Ends} {s0 s2 s3 s6 : Option V} (w : Wd b F0 H0 c F H) (hp : F p = some (.lst xs)) (rx : RepL F xs ds) (rv : Rep F v d) (h6 : ds.length ≤ 6)
    (nx : ∀ p' F' H' xs', Wd b F0 H0 c F' H' → F' p' = some (.lst xs') → RepL F' xs' (ds.take cut ++ [d] ++ ds.drop (cut + many)) → De.nx [s0, some (.ref p'), s2, s3, some (.int (cut : Int)), some (.int (many : Int)), s6, some v] H') :
    (tAsg (tOp rAddM (tOp rAddM (tSl rSlM (tVar 1) tNoPart (tPart (tVar 4))) (tLst (tCons (tVar 7) tNil))) (tSl rSlM (tVar 1) (tPart (tOp rAddM (tVar 4) (tVar 5))) tNoPart)) (gName 1)) De [s0, some (.ref p), s2, s3, some (.int (cut : Int)), some (.int (many : Int)), s6, some v] H := by
  have hxl := rx.length
  have hH := w.sub _ _ hp
  have hBL : (1000000 : Nat) < sizeLine := bl_sl (Nat.le_refl BL)
  walk_at "mt"
  rw [hH]
  dsimp only
  intro a ha
  have w1 := w.junk (o := .lst (cutV xs none (some (cut : Int)))) ha
  refine ⟨by omega, fun e he => ?_⟩
  have w2 := w1.junk (o := .lst [v]) he
  have nea : a ≠ e := fun z => by rw [← z, upd_same] at he; cases he
  rw [upd_ne nea, upd_same, upd_same]
  dsimp only
  rw [cutTo] at w2 ⊢
  have ht1 : (xs.take cut).length ≤ 6 := by rw [List.length_take]; omega
  refine ⟨by simp only [List.length_singleton]; omega, fun r hr => ?_⟩
  have w3 := w2.junk (o := .lst (xs.take cut ++ [v])) hr
  rw [w3.sub _ _ hp]
  dsimp only
  intro q hq
  have ecut : ((cut : Int) + (many : Int)) = ((cut + many : Nat) : Int) := by omega
  rw [ecut, cutFrom]
  have w4 := w3.junk (o := .lst (xs.drop (cut + many))) hq
  have nrq : r ≠ q := fun z => by rw [← z, upd_same] at hq; cases hq
  rw [upd_ne nrq, upd_same, upd_same]
  dsimp only
  have ht2 : (xs.drop (cut + many)).length ≤ 6 := by rw [List.length_drop]; omega
  refine ⟨by rw [List.length_append, List.length_singleton]; omega, fun z hz => ?_⟩
  have rr : RepL F (xs.take cut ++ [v] ++ xs.drop (cut + many)) (ds.take cut ++ [d] ++ ds.drop (cut + many)) := ((rx.take cut).append (.one rv)).append (rx.drop _)
  have w5 := w4.new (o := .lst (xs.take cut ++ [v] ++ xs.drop (cut + many))) hz
  exact nx z _ _ _ w5 upd_same (rr.mono (w4.up hz))
/-- some of a row, in one of six kinds -/
theorem part_ok {K : PySem.W.Frag} {b p : Addr} {F0 H0 F H : Hp} {c n t : Nat} {xs : List V} {ds : List D} {De : L2.Ends} {s1 s2 s3 s4 s5 s7 : Option V} (hc : c ≤ 900000000) (w : Wd b F0 H0 c F H) (hp : F p = some (.lst xs)) (rx : RepL F xs ds) (h6 : ds.length ≤ 6) (row : Row ds n t)
    (nx : ∀ v d F' H', Wd b F0 H0 (c + 1) F' H' → Same F F' → Rep F' v d → PartOk n t d → De.nx [some (.ref b), s1, s2, s3, s4, s5, some (.ref p), some v] H') :
    (tAsg (tOp rIxM (tLst (tCons (tCB rTupM (tCons (tVar 6) tNil)) (tCons (tCB rListM (tCons (tVar 6) tNil)) (tCons (tTup tNil) (tCons (tLst tNil) (tCons (tTup (tCons (tCB rListM (tCons (tVar 6) tNil)) tNil)) (tCons (tLst (tCons (tCB rTupM (tCons (tVar 6) tNil)) tNil)) tNil))))))) (tFn spTake (tCons (tVar 0) (tCons (tC (.int 6)) tNil)))) (gName 7)) De [some (.ref b), s1, s2, s3, s4, s5, some (.ref p), s7] H := by
  have hxl := rx.length
  have hBL : (1000000 : Nat) < sizeLine := bl_sl (Nat.le_refl BL)
  have BLe : BL = 1000000 := rfl
  walk_at "mt"
  rw [w.sub _ _ hp]
  dsimp only
  intro a1 h1
  have w1 := w.new (o := .tup xs) h1
  have r1 := w.newT h1 rx (by omega)
  have q1 : upd F a1 (.tup xs) p = some (.lst xs) := w.up h1 _ _ hp
  rw [w1.sub _ _ q1]
  refine ⟨xs, rfl, fun a2 h2 => ?_⟩
  have s1' := w.up (o := .tup xs) h1
  have w2 := w1.new (o := .lst xs) h2
  have s2' := w1.up (o := .lst xs) h2
  have r2 := w1.newL h2 (rx.mono s1') (by omega)
  refine ⟨by omega, fun a3 h3 => ⟨by omega, fun a4 h4 => ?_⟩⟩
  have w3 := w2.new (o := .tup []) h3
  have s3' := w2.up (o := .tup []) h3
  have r3 := w2.newT (xs := []) (ds := []) h3 .nil (Nat.zero_le _)
  have w4 := w3.new (o := .lst []) h4
  have s4' := w3.up (o := .lst []) h4
  have r4 := w3.newL (xs := []) (ds := []) h4 .nil (Nat.zero_le _)
  have S4 := ((s1'.trans s2').trans s3').trans s4'
  rw [w4.sub _ _ (S4 _ _ hp)]
  refine ⟨xs, rfl, fun a5 h5 => ⟨by omega, fun a6 h6' => ?_⟩⟩
  have w5 := w4.new (o := .lst xs) h5
  have s5' := w4.up (o := .lst xs) h5
  have r5 := w4.newL h5 (rx.mono S4) (by omega)
  have w6 := w5.new (o := .tup [V.ref a5]) h6'
  have s6' := w5.up (o := .tup [V.ref a5]) h6'
  have r6 := w5.newT h6' (.one r5) (by show 1 ≤ 1000000; omega)
  have S6 := (S4.trans s5').trans s6'
  rw [w6.sub _ _ (S6 _ _ hp)]
  dsimp only
  intro a7 h7
  have w7 := w6.new (o := .tup xs) h7
  have s7' := w6.up (o := .tup xs) h7
  have r7 := w6.newT h7 (rx.mono S6) (by omega)
  refine ⟨by omega, fun a8 h8 => ⟨by omega, fun a9 h9 => ?_⟩⟩
  have w8 := w7.new (o := .lst [V.ref a7]) h8
  have s8' := w7.up (o := .lst [V.ref a7]) h8
  have r8 := w7.newL h8 (.one r7) (by show 1 ≤ 1000000; omega)
  have S8 := (S6.trans s7').trans s8'
  have w9 := w8.junk (o := .lst [V.ref a1, V.ref a2, V.ref a3, V.ref a4, V.ref a6, V.ref a8]) h9
  have n9 := w8.ne h9
  refine ⟨b, 6, c, rfl, by omega, by omega, w9.bx, by omega, fun k o hk hbk => ?_⟩
  have w10 := w9.take hbk
  dsimp only
  refine ⟨[V.ref a1, V.ref a2, V.ref a3, V.ref a4, V.ref a6, V.ref a8], by rw [upd_ne n9, upd_same]; rfl, ?_⟩
  match k, hk with
  | 0, _ => exact ⟨_, at0, nx _ _ _ _ w10 S8 (r1.mono ((((((s2'.trans s3').trans s4').trans s5').trans s6').trans s7').trans s8')) (part_tup row)⟩
  | 1, _ => exact ⟨_, at1, nx _ _ _ _ w10 S8 (r2.mono (((((s3'.trans s4').trans s5').trans s6').trans s7').trans s8')) (part_lst row)⟩
  | 2, _ => exact ⟨_, at2, nx _ _ _ _ w10 S8 (r3.mono ((((s4'.trans s5').trans s6').trans s7').trans s8')) (part_tup Row.nil)⟩
  | 3, _ => exact ⟨_, at3, nx _ _ _ _ w10 S8 (r4.mono (((s5'.trans s6').trans s7').trans s8')) (part_lst Row.nil)⟩
  | 4, _ => exact ⟨_, atI_nat (j := 4) rfl, nx _ _ _ _ w10 S8 (r6.mono (s7'.trans s8')) (part_tl row)⟩
  | 5, _ => exact ⟨_, atI_nat (j := 5) rfl, nx _ _ _ _ w10 S8 r8 (part_lt row)⟩
/-- the row as it stands: data -/
structure RowAt (b : Addr) (F0 H0 : Hp) (c n t : Nat) (H : Hp) (p : Addr) : Prop where
  ex : ∃ F xs ds, Wd b F0 H0 c F H ∧ F p = some (.lst xs) ∧ RepL F xs ds ∧ 1 ≤ ds.length ∧ ds.length ≤ 6 ∧ Row ds n t
theorem turn_ok {K : PySem.W.Frag} {b p : Addr} {F0 H0 H : Hp} {c n t : Nat} {De : L2.Ends} {s2 s3 s4 s5 s6 s7 : Option V} (hc : c ≤ 800000000) (r : RowAt b F0 H0 c n t H p)
    (nx : ∀ H' p' s4 s5 s6 s7, RowAt b F0 H0 (c + 3) (n + 2) (t + 6) H' p' → De.nx [some (.ref b), some (.ref p'), s2, s3, s4, s5, s6, s7] H') :
    y_turn K De [some (.ref b), some (.ref p), s2, s3, s4, s5, s6, s7] H := by
  obtain ⟨F, xs, ds, w, hp, rx, h1, h6, row⟩ := r.ex
  have hxl := rx.length
  have hH := w.sub _ _ hp
  have pk := @part_ok K
  have rk := @row_ok K
  unfold y_turn
  revert pk rk
  generalize (tAsg (tOp rIxM (tLst _) _) (gName 7)) = P
  generalize (tAsg (tOp rAddM (tOp rAddM _ _) _) (gName 1)) = A
  intro pk rk
  walk_at "mt"
  rw [hH]
  refine ⟨xs, rfl, b, xs.length, c, rfl, by omega, by omega, w.bx, by omega, fun cut o1 hcut hb1 => ?_⟩
  have w1 := w.take hb1
  walk_at "mt"
  refine ⟨b, 3, _, rfl, by omega, by omega, hb1, by omega, fun mm o2 hmm hb2 => ?_⟩
  have w2 := w1.take hb2
  dsimp only
  have em : (1 : Int) + (mm : Int) = ((mm + 1 : Nat) : Int) := by omega
  rw [em]
  refine ⟨_, _, ⟨rfl, rfl⟩, _, rfl, ?_⟩
  dsimp only
  rw [w2.sub _ _ hp]
  dsimp only
  intro q hq
  have ec : (cut : Int) + ((mm + 1 : Nat) : Int) = ((cut + (mm + 1) : Nat) : Int) := by omega
  rw [ec, cutL (by omega), show cut + (mm + 1) - cut = mm + 1 by omega]
  have w3 := w2.new (o := .lst ((xs.drop cut).take (mm + 1))) hq
  have s3' := w2.up (o := .lst ((xs.drop cut).take (mm + 1))) hq
  have rsome : RepL F ((xs.drop cut).take (mm + 1)) ((ds.drop cut).take (mm + 1)) := (rx.drop cut).take (mm + 1)
  have row2 : Row ((ds.drop cut).take (mm + 1)) n (Tl ((ds.drop cut).take (mm + 1))) := row.sub (fun d hd => List.mem_of_mem_drop (List.mem_of_mem_take hd)) (Nat.le_refl _)
  refine pk (by omega) w3 upd_same (rsome.mono s3') (by rw [List.length_take, List.length_drop]; omega) row2 fun v d F' H' w4 sF rv pok => ?_
  refine rk w4 ((s3'.trans sF) _ _ hp) (rx.mono (s3'.trans sF)) rv h6 fun p' F'' H'' xs' w5 hp' rx' => ?_
  refine nx _ _ _ _ _ _ ⟨F'', xs', _, w5.mono (by omega), hp', rx', ?_, ?_, ?_⟩
  · simp only [List.length_append, List.length_singleton]; omega
  · simp only [List.length_append, List.length_singleton, List.length_take, List.length_drop]; omega
  · have tc := Tl_cut ds cut (cut + (mm + 1)) (by omega)
    rw [show cut + (mm + 1) - cut = mm + 1 by omega] at tc
    refine ⟨fun x hx => ?_, fun x hx => ?_, ?_⟩
    · rcases List.mem_append.mp hx with hx | hx
      · rcases List.mem_append.mp hx with hx | hx
        · exact row.pl x (List.mem_of_mem_take hx)
        · cases List.mem_singleton.mp hx; exact pok.1
      · exact row.pl x (List.mem_of_mem_drop hx)
    · rcases List.mem_append.mp hx with hx | hx
      · rcases List.mem_append.mp hx with hx | hx
        · have := row.dp x (List.mem_of_mem_take hx); omega
        · cases List.mem_singleton.mp hx; exact pok.2.1
      · have := row.dp x (List.mem_of_mem_drop hx); omega
    · rw [Tl_app, Tl_app, Tl_one]
      have := pok.2.2
      have := row.tl
      omega
end K56
set_option Elab.async false
set_option linter.all false
set_option maxRecDepth 100000
set_option maxHeartbeats 4000000
namespace K56
open PySem PySem.Spec PyProof.Rows L2 MT
open SX (S)
open KM
local macro_rules | `(tactic| walk_at "mt") => `(tactic| simp only [L2.start, List.map_cons, List.map_nil, List.length_cons, List.length_nil, List.replicate_succ, List.replicate_zero, Nat.reduceSub, Nat.reduceAdd, Nat.sub_self, Nat.zero_add, List.cons_append, List.nil_append, List.append_nil, List.getElem?_cons_zero, List.getElem?_cons_succ, List.set_cons_zero, List.set_cons_succ, Option.some.injEq, exists_eq_left', exists_eq_left, exists_eq_right, V.bl.injEq, V.int.injEq, V.str.injEq, V.ref.injEq, reduceCtorEq, false_and, and_false, true_and, and_true, false_or, or_false, exists_false, exists_const, ↓reduceIte, Bool.false_eq_true, decide_eq_true_eq, Bool.and_eq_true, Bool.not_true, Bool.not_false, List.cons.injEq, exists_and_left, exists_and_right,
  tRet, tBM, tBM0, tAndV, tOrV, tNotV, tAnd, tOr, tNot, tB, tTest, tIf, tIfS, tC, tVar, tOp, tUn, tChain, rI0, rI, rU, tFn, tCons, tNil, tCB, tTup, tLst, tAsg, gName, tNext, tDrop, tRetN, tPar, tPar3, tAug, rSumM, rMaxM, rMinM, gSub, rSetL, tRaiseO, tFnW, tXf, gTup, gUnl, gCons, gNil, rPopM, rAppendM, rExtendM, rTupM, rListM, ipI, tIs, tIss, rLenM, rIxM, rAddM, rEqM, rNeM, rSignIn, rInt, rAbs, rStrI, tSl, tPart, tNoPart, rSlM, tIsN, tNotN, List.any_cons, List.any_nil, Bool.or_false, tSeq, isa, D.ty, decide_true, decide_false, Bool.true_or, Bool.or_true, Bool.false_or, Bool.and_true, Bool.true_and, Bool.false_and, Bool.and_false, eq_self_iff_true, not_true_eq_false, not_false_eq_true, bne_self_eq_false])
def y_rest (K : PySem.W.Frag) : TS := (tSeq (tFor (iRng1 (tCons (tFn spTake (tCons (tVar 0) (tCons (tC (.int 5)) tNil))) tNil)) (gName 3) (y_turn K)) (tRet (tIf (tTest (tOp rEqM (tCB rLenM (tCons (tVar 1) tNil)) (tC (.int 1)))) (tOp rIxM (tVar 1) (tC (.int 0))) (tIf (tTest (tOp rEqM (tFn spTake (tCons (tVar 0) (tCons (tC (.int 2)) tNil))) (tC (.int 0)))) (tCB rTupM (tCons (tVar 1) tNil)) (tVar 1)))))
theorem rest_ok {K : PySem.W.Frag} {b p : Addr} {F0 H0 H : Hp} {c : Nat} {Q : VK} (hc : c ≤ 700001000) (r : RowAt b F0 H0 c 0 132 H p) (q : ∀ d v F' H', Pl d → depth d ≤ 9 → (text d).length ≤ 200 → Wd b F0 H0 (c + 20) F' H' → Rep F' v d → Q v H') {s2 : Option V} :
    y_rest K (E0N Q) [some (.ref b), some (.ref p), s2, none, none, none, none, none] H := by
  unfold y_rest tSeq tFor iRng1
  have tk := @turn_ok K
  revert tk
  generalize y_turn K = B
  intro tk
  obtain ⟨F, xs, ds, w, hp, rx, h1, h6, row⟩ := r.ex
  generalize hR : (tRet _ : TS) = Rt
  walk_at "mt"
  refine ⟨b, 5, c, rfl, by omega, by omega, w.bx, by omega, fun k o hk hbk => ⟨(k : Int), rfl, by omega, by omega, ?_⟩⟩
  have w1 := w.take hbk
  have ek : ((k : Int)).toNat = k := by omega
  rw [ek]
  refine for_range (lo := 0) (g := gName 3) (tb := B) (D := { E0N Q with nx := Rt (E0N Q) }) (fun i σ H => ∃ p s2 s3 s4 s5 s6 s7, RowAt b F0 H0 (c + 1 + 3 * i) (2 * i) (132 + 6 * i) H p ∧ σ = [some (.ref b), some (.ref p), s2, s3, s4, s5, s6, s7]) ⟨p, _, _, _, _, _, _, ⟨F, xs, ds, by simpa using w1, hp, rx, h1, h6, by simpa using row⟩, rfl⟩ (fun i σ H hi z => ?_) fun σ H z => ?_
  · obtain ⟨p, s2, s3, s4, s5, s6, s7, ra, rfl⟩ := z
    walk_at "mt"
    refine tk (by omega) ra fun H' p' s4 s5 s6 s7 ra' => ?_
    have e1 : c + 1 + 3 * i + 3 = c + 1 + 3 * (i + 1) := by omega
    have e2 : 2 * i + 2 = 2 * (i + 1) := by omega
    have e3 : 132 + 6 * i + 6 = 132 + 6 * (i + 1) := by omega
    rw [e1, e2, e3] at ra'
    exact ⟨p', ra', _, _, _, _, _, _, rfl⟩
  · obtain ⟨p, s2, s3, s4, s5, s6, s7, ra, rfl⟩ := z
    subst hR
    obtain ⟨F, xs, ds, w, hp, rx, h1, h6, row⟩ := ra.ex
    have hxl := rx.length
    have hBL : (1000000 : Nat) < sizeLine := bl_sl (Nat.le_refl BL)
    have BLe : BL = 1000000 := rfl
    have hdp := mem_depths row.dp
    have htl := row.tl
    walk_at "mt"
    rw [w.sub _ _ hp]
    refine ⟨xs, rfl, ?_⟩
    split
    · rename_i h
      have : xs.length = 1 := by omega
      match xs, ds, rx, this, row with
      | [v], [d], .cons rv .nil, _, row =>
        have ht := row.tl
        rw [Tl_one] at ht
        exact ⟨_, rfl, v, at0, q d v F H (row.pl d (by simp)) (by have := row.dp d (by simp); omega) (by omega) (w.mono (by omega)) rv⟩
    · refine ⟨b, 2, _, rfl, by omega, by omega, w.bx, by omega, fun k2 o2 hk2 hb2 => ?_⟩
      have w2 := w.take hb2
      walk_at "mt"
      split
      · rw [w2.sub _ _ hp]
        dsimp only
        intro a ha
        have := tup_len ds
        refine q (.tup ds) _ _ _ (Pl.tup row.pl) ?_ (by omega) ((w2.new ha).mono (by omega)) (w2.newT ha rx (by omega))
        simp only [depth]; omega
      · have := lst_len ds
        refine q (.lst ds) _ _ _ (Pl.lst row.pl) ?_ (by omega) (w2.mono (by omega)) (.lst hp rx (by omega))
        simp only [depth]; omega
theorem pr_law_value {K : PySem.W.Frag} (vs : List V) (H : Hp) (Q : VK) (E : XK) (h : spLawValue vs H Q E) : t_law_value K spTake spLeaf (E0N Q) (L2.start ["box", "row", "k", "turn", "cut", "many", "some", "part"] vs) H := by
  obtain ⟨F, b, c, rfl, sF, fb, hb, hc, q⟩ := h
  have rk := @rest_ok K
  unfold t_law_value
  unfold y_rest y_turn at rk
  revert rk
  generalize (tSeq (tFor _ _ _) _) = Rst
  intro rk
  have hte : ∀ (i : V) s1 s3 s4 s5 s6 s7 H1 (K' : VK) c1 F1, Same F1 H1 → F1 b = none → Bx H1 b c1 → c1 ≤ 800000000 → (∀ d v H', Leaf d → Rep noH v d → Gb b F1 H1 F1 H' → Bx H' b (c1 + 20) → K' v H') → (tFn spLeaf (tCons (tVar 0) tNil)) [some (.ref b), s1, some i, s3, s4, s5, s6, s7] H1 K' := by
    intro i s1 s3 s4 s5 s6 s7 H1 K' c1 F1 sF1 fb1 hb1 hc1 kk
    exact ⟨_, rfl, F1, b, c1, rfl, sF1, fb1, hb1, hc1, kk⟩
  revert hte
  generalize (tFn spLeaf (tCons (tVar 0) tNil)) = te
  intro hte
  unfold tSeq tAsg tLc iRng1 tCons tNil tOp tC tFn tVar rAddM
  refine ⟨_, rfl, b, 6, c, rfl, by omega, by omega, hb, by omega, fun r o hr hb1 => ?_⟩
  refine ⟨1 + (r : Int), rfl, by omega, by omega, fun D hD => ?_⟩
  have en : (1 + (r : Int)).toNat = r + 1 := by omega
  rw [en]
  have w0 := (Wd.start sF fb hb).take hb1
  refine lc_box (te := te) (σ := L2.start ["box", "row", "k", "turn", "cut", "many", "some", "part"] [.ref b]) (j := 2) (Q := fun x H1 => Rst (E0N Q) [some (.ref b), some x, none, none, none, none, none, none] H1) (c := c + 1) (s := 20) hD walk_range (Nat.lt_of_le_of_lt (show r + 1 ≤ 20 by omega) (by decide +kernel)) w0.sub fb hb1 (fun _ v F => ∃ d, Leaf d ∧ Rep F v d) (fun _ _ _ _ s ⟨d, h1, h2⟩ => ⟨d, h1, h2.mono s⟩) (fun i F1 H1 K' hi g hb2 kk => ?_) fun F1 H1 ys g h1 h2 h3 h4 h5 => ?_
  · refine hte _ _ _ _ _ _ _ H1 K' _ F1 (Gb.sub g) (Gb.fb g) hb2 ?_ fun d v H' hd rv g2 hb3 => ?_
    · have : i * 20 ≤ 200 := by omega
      omega
    · exact kk v F1 H' g2 (by rw [show c + 1 + (i + 1) * 20 = c + 1 + i * 20 + 20 by omega]; exact hb3) ⟨d, hd, rv.mono no_same⟩
  · obtain ⟨ds, rds, hdl, hds⟩ := RepL.ofAll (P := Leaf) h5
    have hDb : D ≠ b := w0.ne hD
    have wl : Wd b F H (c + 1 + (r + 1) * 20) F1 H1 := ⟨w0.g.trans g, h4⟩
    have hD0 : H D = none := by rw [upd_ne hDb] at hD; exact hD
    have wz := wl.frz hD0 h2 h1 hDb
    have hr20 : (r + 1) * 20 ≤ 120 := by omega
    have leafT : ∀ l : List MT.D, (∀ d ∈ l, Leaf d) → Tl l ≤ 22 * l.length := by
      intro l
      induction l with
      | nil => intro _; exact Nat.zero_le _
      | cons x l ih =>
        intro hl
        have h1 := (hl x List.mem_cons_self).2.1
        have h2 := ih fun y hy => hl y (List.mem_cons_of_mem _ hy)
        have e : Tl (x :: l) = (text x).length + 2 + Tl l := by simp [Tl]
        rw [e, List.length_cons]; omega
    have tl := leafT ds hds
    refine rk (c := c + 130) (by omega) ⟨_, ys, ds, wz.mono (by omega), upd_same, rds.mono (same_upd h1), by omega, by omega, ⟨fun d hd L n _ => (hds d hd).1 L n, fun d hd => by rw [(hds d hd).2.2]; exact Nat.le_refl _, by omega⟩⟩ fun d v F' H' a1 a2 a3 a4 a5 => q d v F' H' a1 a2 a3 (a4.mono (by omega)) a5
end K56
set_option Elab.async false
set_option linter.all false
set_option maxRecDepth 100000
set_option maxHeartbeats 4000000
namespace K56
open PySem PySem.Spec PyProof.Rows L2 MT
open SX (S)
open KM
local macro_rules | `(tactic| walk_at "mt") => `(tactic| simp only [L2.start, List.map_cons, List.map_nil, List.length_cons, List.length_nil, List.replicate_succ, List.replicate_zero, Nat.reduceSub, Nat.reduceAdd, Nat.sub_self, Nat.zero_add, List.cons_append, List.nil_append, List.append_nil, List.getElem?_cons_zero, List.getElem?_cons_succ, List.set_cons_zero, List.set_cons_succ, Option.some.injEq, exists_eq_left', exists_eq_left, exists_eq_right, V.bl.injEq, V.int.injEq, V.str.injEq, V.ref.injEq, reduceCtorEq, false_and, and_false, true_and, and_true, false_or, or_false, exists_false, exists_const, ↓reduceIte, Bool.false_eq_true, decide_eq_true_eq, Bool.and_eq_true, Bool.not_true, Bool.not_false, List.cons.injEq, exists_and_left, exists_and_right,
  tRet, tBM, tBM0, tAndV, tOrV, tNotV, tAnd, tOr, tNot, tB, tTest, tIf, tIfS, tC, tVar, tOp, tUn, tChain, rI0, rI, rU, tFn, tCons, tNil, tCB, tTup, tLst, tAsg, gName, tNext, tDrop, tRetN, tPar, tPar3, tAug, rSumM, rMaxM, rMinM, gSub, rSetL, tRaiseO, tFnW, tXf, gTup, gUnl, gCons, gNil, rPopM, rAppendM, rExtendM, rTupM, rListM, ipI, tIs, tIss, rLenM, rIxM, rAddM, rEqM, rNeM, rSignIn, rInt, rAbs, rStrI, tSl, tPart, tNoPart, rSlM, tIsN, tNotN, List.any_cons, List.any_nil, Bool.or_false, tSeq, isa, D.ty, decide_true, decide_false, Bool.true_or, Bool.or_true, Bool.false_or, Bool.and_true, Bool.true_and, Bool.false_and, Bool.and_false, eq_self_iff_true, not_true_eq_false, not_false_eq_true, bne_self_eq_false])
def spDeep : Sp := fun vs H Q _ => ∃ (F : Hp) (b : Addr) (c many : Nat), vs = [.ref b, .int (many : Int)] ∧ 1 ≤ many ∧ many ≤ 100 ∧ Same F H ∧ F b = none ∧ Bx H b c ∧ c ≤ 700000000 ∧
  ∀ d v F' H', Pl d → depth d = many → (text d).length ≤ 2 + 6 * many → Wd b F H (c + 200) F' H' → Rep F' v d → Q v H'
theorem pl_int {n : Nat} (h : n < 10 ^ 20) : Pl (.int (n : Int)) := fun L m _ => (leaf_int h).1 L m
theorem numL_small {n : Nat} (h : n < 100) : (text (.int (n : Int))).length ≤ 2 := by
  show (TL.numL ((n : Int)).toNat).length ≤ 2
  have : ((n : Int)).toNat = n := by omega
  rw [this]
  exact TL.numL_len (by decide) (by omega)
structure DeepI (b : Addr) (F H : Hp) (c many i : Nat) (σ : L2.St) (H2 : Hp) : Prop where
  ex : ∃ F2 v d s3, Wd b F H (c + 1 + i) F2 H2 ∧ Rep F2 v d ∧ Pl d ∧ depth d = 1 + i ∧ (text d).length ≤ 2 + 6 * i ∧ σ = [some (.ref b), some (.int (many : Int)), some v, s3]
theorem pr_law_deep {K : PySem.W.Frag} (vs : List V) (H : Hp) (Q : VK) (E : XK) (h : spDeep vs H Q E) : t_law_deep K spTake (E0N Q) (L2.start ["box", "many", "found", "turn"] vs) H := by
  obtain ⟨F, b, c, many, rfl, hm1, hm2, sF, fb, hb, hc, q⟩ := h
  have hBL : (1000000 : Nat) < sizeLine := bl_sl (Nat.le_refl BL)
  have w0 := Wd.start sF fb hb
  unfold t_law_deep
  have hrest : ∀ (F1 H1 : Hp) v0 d0, Wd b F H (c + 1) F1 H1 → Rep F1 v0 d0 → Pl d0 → depth d0 = 1 → (text d0).length ≤ 2 →
      (tSeq (tFor (iRng1 (tCons (tOp (rI0 fun i j => .int (i - j)) (tVar 1) (tC (.int 1))) tNil)) (gName 3) (tAsg (tIf (tTest (tOp rEqM (tFn spTake (tCons (tVar 0) (tCons (tC (.int 2)) tNil))) (tC (.int 0)))) (tTup (tCons (tVar 2) tNil)) (tLst (tCons (tVar 2) (tCons (tVar 3) tNil)))) (gName 2))) (tRet (tVar 2)))
        (E0N Q) [some (.ref b), some (.int (many : Int)), some v0, none] H1 := by
    intro F1 H1 v0 d0 w1 r1 p1 e1 t1
    unfold tSeq tFor iRng1
    generalize hB : (tAsg (tIf _ _ _) (gName 2) : TS) = B
    walk_at "mt"
    refine ⟨by omega, by omega, ?_⟩
    have en : ((many : Int) - 1).toNat = many - 1 := by omega
    rw [en]
    refine for_range (lo := 0) (g := gName 3) (tb := B) (D := { E0N Q with nx := tRet (tVar 2) (E0N Q) }) (fun i σ H2 => DeepI b F H c many i σ H2) ⟨F1, v0, d0, none, w1, r1, p1, e1, t1, rfl⟩ (fun i σ H2 hi z => ?_) fun σ H2 z => ?_
    · obtain ⟨F2, v, d, s3, w, r, p, e, t, rfl⟩ := z.ex
      subst hB
      walk_at "mt"
      refine ⟨b, 2, _, rfl, by omega, by omega, w.bx, by omega, fun k o hk hbk => ?_⟩
      have w2 := w.take hbk
      walk_at "mt"
      split
      · refine ⟨by omega, fun a ha => ?_⟩
        have wn := w2.new (o := .tup [v]) ha
        have rn := w2.newT ha (.one r) (by show 1 ≤ 1000000; omega)
        refine ⟨_, _, .tup [d], _, wn, rn, Pl.tup (fun x hx => by cases List.mem_singleton.mp hx; exact p), ?_, ?_, rfl⟩
        · simp only [depth, depths]; omega
        · simp [text, texts, TL.joinL]; omega
      · refine ⟨by omega, fun a ha => ?_⟩
        have ri : Rep F2 (.int ((0 : Int) + (i : Nat))) (.int ((i : Nat) : Int)) := by
          rw [Int.zero_add]; exact .int _
        have wn := w2.new (o := .lst [v, .int ((0 : Int) + (i : Nat))]) ha
        have rn := w2.newL ha (.cons r (.one ri)) (by show 2 ≤ 1000000; omega)
        refine ⟨_, _, .lst [d, .int ((i : Nat) : Int)], _, wn, rn, Pl.lst (fun x hx => ?_), ?_, ?_, rfl⟩
        · rcases List.mem_cons.mp hx with rfl | hx
          · exact p
          · cases List.mem_singleton.mp hx; exact pl_int (by omega)
        · simp only [depth, depths]; omega
        · have := numL_small (n := i) (by omega)
          simp [text, texts, TL.joinL] at this ⊢; omega
    · obtain ⟨F2, v, d, s3, w, r, p, e, t, rfl⟩ := z.ex
      walk_at "mt"
      exact q d v F2 H2 p (by omega) (by omega) (w.mono (by omega)) r
  revert hrest
  generalize (tSeq (tFor _ _ _) _) = R
  intro hrest
  walk_at "mt"
  refine ⟨by omega, fun a1 h1 => ⟨by omega, fun a2 h2 => ⟨by omega, fun a3 h3 => ?_⟩⟩⟩
  have w1 := w0.new (o := .tup []) h1
  have r1 := w0.newT (xs := []) (ds := []) h1 .nil (Nat.zero_le _)
  have w2 := w1.new (o := .lst []) h2
  have s2' := w1.up (o := .lst []) h2
  have r2 := w1.newL (xs := []) (ds := []) h2 .nil (Nat.zero_le _)
  have w3 := w2.junk (o := .lst [.ref a1, .ref a2, .int 5, .str (S [97])]) h3
  have n3 := w2.ne h3
  refine ⟨b, 2, _, rfl, by omega, by omega, w3.bx, by omega, fun k o hk hbk => ?_⟩
  have w4 := w3.take hbk
  dsimp only
  refine ⟨_, by rw [upd_ne n3, upd_same]; rfl, ?_⟩
  match k, hk with
  | 0, _ => exact ⟨_, at0, hrest _ _ _ _ w4 (r1.mono s2') (Pl.tup (fun x hx => by cases hx)) rfl (by decide)⟩
  | 1, _ => exact ⟨_, at1, hrest _ _ _ _ w4 r2 (Pl.lst (fun x hx => by cases hx)) rfl (by decide)⟩
end K56
set_option Elab.async false
set_option linter.all false
set_option maxRecDepth 100000
set_option maxHeartbeats 4000000
namespace K56
open PySem PySem.Spec PyProof.Rows L2 MT
open SX (S)
open KM
local macro_rules | `(tactic| walk_at "mt") => `(tactic| simp only [L2.start, List.map_cons, List.map_nil, List.length_cons, List.length_nil, List.replicate_succ, List.replicate_zero, Nat.reduceSub, Nat.reduceAdd, Nat.sub_self, Nat.zero_add, List.cons_append, List.nil_append, List.append_nil, List.getElem?_cons_zero, List.getElem?_cons_succ, List.set_cons_zero, List.set_cons_succ, Option.some.injEq, exists_eq_left', exists_eq_left, exists_eq_right, V.bl.injEq, V.int.injEq, V.str.injEq, V.ref.injEq, reduceCtorEq, false_and, and_false, true_and, and_true, false_or, or_false, exists_false, exists_const, ↓reduceIte, Bool.false_eq_true, decide_eq_true_eq, Bool.and_eq_true, Bool.not_true, Bool.not_false, List.cons.injEq, exists_and_left, exists_and_right,
  tRet, tBM, tBM0, tAndV, tOrV, tNotV, tAnd, tOr, tNot, tB, tTest, tIf, tIfS, tC, tVar, tOp, tUn, tChain, rI0, rI, rU, tFn, tCons, tNil, tCB, tTup, tLst, tAsg, gName, tNext, tDrop, tRetN, tPar, tPar3, tAug, rLenM2, rIsBM, tDNotIn, tDGet, rSumM, rMaxM, rMinM, gSub, rSetL, tRaiseO, tFnW, tXf, gTup, gUnl, gCons, gNil, rPopM, rAppendM, rExtendM, rTupM, rListM, ipI, tIs, tIss, rLenM, rIxM, rAddM, rEqM, rNeM, rSignIn, rInt, rAbs, rStrI, tSl, tPart, tNoPart, rSlM, tIsN, tNotN, List.any_cons, List.any_nil, Bool.or_false, tSeq, isa, D.ty, decide_true, decide_false, Bool.true_or, Bool.or_true, Bool.false_or, Bool.and_true, Bool.true_and, Bool.false_and, Bool.and_false, eq_self_iff_true, not_true_eq_false, not_false_eq_true, bne_self_eq_false])
/-- told and due are the same data -/
def spSame (n : Nat) : Sp := fun vs H Q _ => ∃ v w d, vs = [v, w] ∧ Dat H v d ∧ Dat H w d ∧ (depth d + 1 < n ∨ (d.ty = .int ∧ 0 < n)) ∧ Q (.bl true) H
def y_sq (K : PySem.W.Frag) (sp : Sp) : TS := (tSeq (tIfS (tOr (tNot (tB (tIss [.lst, .tup] (tVar 1)))) (tOr (tNot (tB (tIss [.lst, .tup] (tVar 0)))) (tOr (tTest (tOp rNeM (tIs .lst (tVar 0)) (tIs .lst (tVar 1)))) (tTest (tOp rNeM (tCB rLenM2 (tCons (tVar 0) tNil)) (tCB rLenM2 (tCons (tVar 1) tNil))))))) (tRet (tC (.bl false))) tNext) (tSeq (tFor (iRng1 (tCons (tCB rLenM2 (tCons (tVar 1) tNil)) tNil)) (gName 3) (tIfS (tNot (tB (tFn sp (tCons (tOp rIxM (tVar 0) (tVar 3)) (tCons (tOp rIxM (tVar 1) (tVar 3)) tNil))))) (tRet (tC (.bl false))) tNext)) (tRet (tC (.bl true)))))
theorem same_sq {K : PySem.W.Frag} {sp : Sp} {n : Nat} {H F1 F2 : Hp} {a b : Addr} {xs ys : List V} {ds : List D} {T : Ty} {Q : VK} (hsp : ∀ v w d Q, Dat H v d → Dat H w d → depth d ≤ depths ds → Q (.bl true) H → sp [v, w] H Q E0) (s1 : Same F1 H) (s2' : Same F2 H)
    (ta : tyOf H (.ref a) = some T) (tb : tyOf H (.ref b) = some T) (hT : T = .lst ∨ T = .tup) (la : lenO (H a) = some ds.length) (lb : lenO (H b) = some ds.length) (ea : seqO (H a) = some xs) (eb : seqO (H b) = some ys) (rx : RepL F1 xs ds) (ry : RepL F2 ys ds) (hl : ds.length ≤ BL) (q : Q (.bl true) H) :
    y_sq K sp (E0N Q) [some (.ref a), some (.ref b), none, none] H := by
  unfold y_sq
  have hx := rx.length
  have hy := ry.length
  have BLe : BL = 1000000 := rfl
  generalize hF : (tSeq (tFor _ _ _) _ : TS) = Z
  have hZ : Z (E0N Q) [some (.ref a), some (.ref b), none, none] H := by
    subst hF
    unfold tSeq tFor iRng1
    generalize hB : (tIfS _ _ _ : TS) = B
    walk_at "mt"
    refine ⟨ds.length, lb, by omega, by omega, ?_⟩
    have en : ((ds.length : Nat) : Int).toNat = ds.length := by omega
    rw [en]
    refine for_range (lo := 0) (g := gName 3) (tb := B) (D := { E0N Q with nx := tRet (tC (.bl true)) (E0N Q) }) (fun i σ H2 => ∃ s2 s3, H2 = H ∧ σ = [some (.ref a), some (.ref b), s2, s3]) ⟨_, _, rfl, rfl⟩ (fun i σ H2 hi z => ?_) fun σ H2 z => ?_
    · obtain ⟨s2, s3, rfl, rfl⟩ := z
      have hix : i < xs.length := by omega
      have hiy : i < ys.length := by omega
      have ei : (0 : Int) + (i : Nat) = ((i : Nat) : Int) := by omega
      rw [ei]
      subst hB
      walk_at "mt"
      refine ⟨xs, ea, xs[i], atI_nat (List.getElem?_eq_getElem hix), ys, eb, ys[i], atI_nat (List.getElem?_eq_getElem hiy), ?_⟩
      obtain ⟨d, hd, rv⟩ := rx.get (List.getElem?_eq_getElem hix)
      obtain ⟨d2, hd2, rw2⟩ := ry.get (List.getElem?_eq_getElem hiy)
      rw [hd] at hd2
      cases hd2
      refine hsp _ _ d _ ⟨F1, s1, rv⟩ ⟨F2, s2', rw2⟩ (depths_get hd) ?_
      refine ⟨true, rfl, ?_⟩
      simp only [Bool.not_true, Bool.false_eq_true, ↓reduceIte]
      exact ⟨trivial, _, rfl⟩
    · obtain ⟨s2, s3, rfl, rfl⟩ := z
      exact q
  rcases hT with rfl | rfl
  all_goals (
    walk_at "mt"
    simp only [ta, tb]
    walk_at "mt"
    refine ⟨_, la, _, lb, ?_⟩
    simp only [decide_true, Bool.not_true, Bool.false_eq_true, ↓reduceIte]
    exact hZ)
def y_dc (K : PySem.W.Frag) (sp : Sp) : TS := (tSeq (tIfS (tOr (tNot (tB (tIs .dct (tVar 0)))) (tTest (tOp rNeM (tCB rLenM2 (tCons (tVar 0) tNil)) (tCB rLenM2 (tCons (tVar 1) tNil))))) (tRet (tC (.bl false))) tNext) (tSeq (tLock (tFor (iKeys (tVar 1)) (gName 2) (tIfS (tOr (tB (tDNotIn (tVar 2) (tVar 0))) (tNot (tB (tFn sp (tCons (tDGet (tVar 0) (tVar 2)) (tCons (tDGet (tVar 1) (tVar 2)) tNil)))))) (tRet (tC (.bl false))) tNext))) (tRet (tC (.bl true)))))
theorem upd_back {H : Hp} {d : Addr} {o u : HO} (h : H d = some u) : upd (upd H d o) d u = H := by
  funext b
  by_cases e : b = d
  · rw [e, upd_same, h]
  · rw [upd_ne e, upd_ne e]
theorem same_dc {K : PySem.W.Frag} {sp : Sp} {H : Hp} {a b : Addr} {ds : List (List Nat × Int)} {De : L2.Ends} (hsp : ∀ i H Q, Q (.bl true) H → sp [.int i, .int i] H Q E0)
    (ha : H a = some (.dK (ds.map fun q => (Sum.inr (S q.1), V.int q.2)))) (hb : H b = some (.dK (ds.map fun q => (Sum.inr (S q.1), V.int q.2)))) (hl : ds.length ≤ 1) (q : De.rt (.bl true) H) :
    y_dc K sp De [some (.ref a), some (.ref b), none, none] H := by
  unfold y_dc
  have ta : tyOf H (.ref a) = some .dct := by show tyO (H a) = _; rw [ha]; rfl
  have la : lenO (H a) = some ds.length := by rw [ha]; show some (List.length _) = _; rw [List.length_map]
  have lb : lenO (H b) = some ds.length := by rw [hb]; show some (List.length _) = _; rw [List.length_map]
  generalize hL : (tLock _ : TS) = L
  walk_at "mt"
  simp only [ta]
  walk_at "mt"
  refine ⟨_, la, _, lb, ?_⟩
  simp only [decide_true, Bool.not_true, Bool.false_eq_true, ↓reduceIte]
  subst hL
  unfold tLock
  refine ⟨b, _, hb, trivial, fun od => ?_⟩
  unfold tFor iKeys
  refine ⟨.ref b, rfl, b, od, rfl, .inl ⟨_, upd_same, ?_⟩⟩
  have rd : ∀ x, (x = a ∨ x = b) → Rd (upd H b (.frz od (.dK (ds.map fun q => (Sum.inr (S q.1), V.int q.2))))) x (.dK (ds.map fun q => (Sum.inr (S q.1), V.int q.2))) := by
    intro x hx
    by_cases e : x = b
    · exact .inr ⟨od, by rw [e, upd_same]⟩
    · rcases hx with rfl | rfl
      · exact .inl (by rw [upd_ne e]; exact ha)
      · exact absurd rfl e
  generalize hB : (tIfS _ _ _ : TS) = B
  refine for_it (J := Itk b od _) walk_keys (g := gName 2) (tb := B) (fun i σ H2 => ∃ s2, H2 = upd H b (.frz od (.dK (ds.map fun q => (Sum.inr (S q.1), V.int q.2)))) ∧ σ = [some (.ref a), some (.ref b), s2, none]) ⟨_, rfl, rfl⟩ (fun i σ H2 hi z => ?_) (fun i x σ H2 H3 hi z y => ?_) fun σ H2 z => ?_
  · obtain ⟨s2, rfl, rfl⟩ := z
    exact upd_same
  · obtain ⟨s2, rfl, rfl⟩ := z
    obtain ⟨rfl, k, v, hk, rfl⟩ := y
    subst hB
    obtain ⟨k0, i0, rfl, rfl, rfl⟩ : ∃ k0 i0, ds = [(k0, i0)] ∧ k = Sum.inr (S k0) ∧ v = .int i0 := by
      match ds, hl with
      | [], _ => simp at hk
      | [(k0, i0)], _ =>
        cases i with
        | zero => simp at hk; exact ⟨k0, i0, rfl, hk.1.symm, hk.2.symm⟩
        | succ i => simp at hk
    have gt : ∀ x, (x = a ∨ x = b) → DGet (upd H b (.frz od (.dK ([(k0, i0)].map fun q => (Sum.inr (S q.1), V.int q.2))))) x (.str (S k0)) (some (.int i0)) := fun x hx => .inl ⟨_, Sum.inr (S k0), rd x hx, rfl, by simp [valV]⟩
    unfold gName tIfS tOr tB tDNotIn tNot tFn tCons tNil tDGet tVar
    refine ⟨_, rfl, _, rfl, a, some (.int i0), rfl, gt a (.inl rfl), false, rfl, ?_⟩
    simp only [Bool.false_eq_true, ↓reduceIte]
    refine ⟨_, rfl, _, rfl, a, .int i0, rfl, gt a (.inl rfl), _, rfl, _, rfl, b, .int i0, rfl, gt b (.inr rfl), hsp _ _ _ ⟨true, rfl, ?_⟩⟩
    simp only [Bool.not_true, Bool.false_eq_true, ↓reduceIte]
    exact ⟨_, rfl, rfl⟩
  · obtain ⟨s2, rfl, rfl⟩ := z
    refine ⟨upd_same, ?_⟩
    rw [upd_back hb]
    exact q
theorem pr_law_same {K : PySem.W.Frag} {sp : Sp} {n : Nat} (hsp : ∀ m, n = m + 1 → ∀ vs H Q E, spSame m vs H Q E → sp vs H Q E) (vs : List V) (H : Hp) (Q : VK) (E : XK) (h : spSame n vs H Q E) : t_law_same K sp (E0N Q) (L2.start ["told", "due", "key", "k"] vs) H := by
  obtain ⟨v, w, d, rfl, hv, hw, hd, q⟩ := h
  obtain ⟨m, rfl⟩ : ∃ m, n = m + 1 := ⟨n - 1, by omega⟩
  have tv := hv.ty
  have tw := hw.ty
  have dc := @same_dc K sp
  have sq := @same_sq K sp
  unfold y_dc at dc
  unfold y_sq at sq
  unfold t_law_same
  revert dc sq
  generalize (tSeq (tIfS _ _ _) (tSeq (tFor _ _ _) _) : TS) = SQ
  generalize (tSeq (tIfS _ _ _) (tSeq (tLock _) _) : TS) = DC
  intro dc sq
  obtain ⟨F1, s1, r1⟩ := hv
  obtain ⟨F2, s2, r2⟩ := hw
  walk_at "mt"
  have int_ok : ∀ i H Q, 0 < m → Q (.bl true) H → sp [.int i, .int i] H Q E0 := fun i H Q hm q => hsp m rfl _ _ _ _ ⟨_, _, .int i, rfl, ⟨noH, no_same, .int i⟩, ⟨noH, no_same, .int i⟩, .inr ⟨rfl, hm⟩, q⟩
  cases r1 with
  | non =>
    cases r2
    walk_at "mt"
    simpa using q
  | bl b =>
    cases r2
    simp only [tv]
    walk_at "mt"
    cases b
    · simpa using q
    · simpa using q
  | int i =>
    cases r2
    simp only [tv]
    walk_at "mt"
    simpa using q
  | @str l hl =>
    cases r2
    simp only [tv]
    walk_at "mt"
    simpa using q
  | @lst a xs ds e1 rx hl =>
    cases r2 with
    | @lst b ys _ e2 ry _ =>
      simp only [tv, tw]
      walk_at "mt"
      have ea := s1 _ _ e1
      have eb := s2 _ _ e2
      have hds : depths ds + 1 < m := by
        rcases hd with hd | ⟨hd, _⟩
        · simp only [depth] at hd; omega
        · cases hd
      exact sq (n := 0) (fun v w d Q h1 h2 h3 q => hsp m rfl _ _ _ _ ⟨v, w, d, rfl, h1, h2, .inl (by omega), q⟩) s1 s2 tv tw (.inl rfl) (by rw [ea, ← rx.length]; rfl) (by rw [eb, ← ry.length]; rfl) (by rw [ea]; rfl) (by rw [eb]; rfl) rx ry hl q
  | @tup a xs ds e1 rx hl =>
    cases r2 with
    | @tup b ys _ e2 ry _ =>
      simp only [tv, tw]
      walk_at "mt"
      have ea := s1 _ _ e1
      have eb := s2 _ _ e2
      have hds : depths ds + 1 < m := by
        rcases hd with hd | ⟨hd, _⟩
        · simp only [depth] at hd; omega
        · cases hd
      exact sq (n := 0) (fun v w d Q h1 h2 h3 q => hsp m rfl _ _ _ _ ⟨v, w, d, rfl, h1, h2, .inl (by omega), q⟩) s1 s2 tv tw (.inr rfl) (by rw [ea, ← rx.length]; rfl) (by rw [eb, ← ry.length]; rfl) (by rw [ea]; rfl) (by rw [eb]; rfl) rx ry hl q
  | @dct a ds hl e1 =>
    cases r2 with
    | @dct b _ _ e2 =>
      simp only [tv, tw]
      walk_at "mt"
      have hm : 0 < m := by
        rcases hd with hd | ⟨hd, _⟩
        · simp only [depth] at hd; omega
        · cases hd
      exact dc (fun i H Q q => int_ok i H Q hm q) (s1 _ _ e1) (s2 _ _ e2) hl q
end K56
set_option Elab.async false
set_option linter.all false
set_option maxRecDepth 100000
set_option maxHeartbeats 4000000
namespace K56
open PySem PySem.Spec PyProof.Rows L2 MT
open SX (S)
open KM
local macro_rules | `(tactic| walk_at "mt") => `(tactic| simp only [L2.start, List.map_cons, List.map_nil, List.length_cons, List.length_nil, List.replicate_succ, List.replicate_zero, Nat.reduceSub, Nat.reduceAdd, Nat.sub_self, Nat.zero_add, List.cons_append, List.nil_append, List.append_nil, List.getElem?_cons_zero, List.getElem?_cons_succ, List.set_cons_zero, List.set_cons_succ, Option.some.injEq, exists_eq_left', exists_eq_left, exists_eq_right, V.bl.injEq, V.int.injEq, V.str.injEq, V.ref.injEq, reduceCtorEq, false_and, and_false, true_and, and_true, false_or, or_false, exists_false, exists_const, ↓reduceIte, Bool.false_eq_true, decide_eq_true_eq, Bool.and_eq_true, Bool.not_true, Bool.not_false, List.cons.injEq, exists_and_left, exists_and_right,
  tRet, tBM, tBM0, tAndV, tOrV, tNotV, tAnd, tOr, tNot, tB, tTest, tIf, tIfS, tC, tVar, tOp, tUn, tChain, rI0, rI, rU, tFn, tCons, tNil, tCB, tTup, tLst, tAsg, gName, tNext, tDrop, tRetN, tPar, tPar3, tAug, rLenM2, rIsBM, tDNotIn, tDGet, rSumM, rMaxM, rMinM, gSub, rSetL, tRaiseO, tFnW, tXf, gTup, gUnl, gCons, gNil, rPopM, rAppendM, rExtendM, rTupM, rListM, ipI, tIs, tIss, rLenM, rIxM, rAddM, rEqM, rNeM, rSignIn, rInt, rAbs, rStrI, tSl, tPart, tNoPart, rSlM, tIsN, tNotN, List.any_cons, List.any_nil, Bool.or_false, tSeq, isa, D.ty, decide_true, decide_false, Bool.true_or, Bool.or_true, Bool.false_or, Bool.and_true, Bool.true_and, Bool.false_and, Bool.and_false, eq_self_iff_true, not_true_eq_false, not_false_eq_true, bne_self_eq_false])
/-- [sign for sign in text if sign not in set] == [] -/
theorem eqnil_filt {σ : L2.St} {H : Hp} {i j : Nat} {l set : List Nat} {Q : VK} (hi : σ[i]? = some (some (.str (S l)))) (hj : j < σ.length) (hl : l.length ≤ BL) (q : ∀ H', Same H H' → Q (.bl (l.all fun c => decide (c ∈ set))) H') :
    tEqNil false (tLc (iStr (tVar i)) (gName j) (tTest (tOp (rSignIn true) (tVar j) (tC (.str (S set))))) (tVar j) [j]) σ H Q := by
  unfold tEqNil tLc
  refine ⟨_, hi, S l, rfl, fun D hD => ?_⟩
  have hsl := bl_sl hl
  refine lc_it (walk_fnS (l := l)) (fun k H' => ∃ ys, H' D = some (.lst ys) ∧ Same H H' ∧ ys.isEmpty = ((l.take k).all fun c => decide (c ∈ set)) ∧ ys.length ≤ k) ⟨[], upd_same, same_upd hD, rfl, Nat.le_refl _⟩ (fun _ _ _ _ => trivial) (fun k x H1 H' hk p y => ?_) fun H1 p => ?_
  · obtain ⟨ys, e, s, em, hyl⟩ := p
    obtain ⟨rfl, rfl⟩ := y
    have e1 : (wipe σ [j]).set j (some (.str (S [l.getD k 0]))) = σ.set j (some (.str (S [l.getD k 0]))) := by
      show (σ.set j none).set j _ = _
      rw [List.set_set]
    have hg : l[k]? = some (l.getD k 0) := by rw [List.getD_eq_getElem?_getD, List.getElem?_eq_getElem hk]; rfl
    have htk : l.take (k + 1) = l.take k ++ [l.getD k 0] := by
      rw [List.take_succ, hg]; rfl
    show wipe ((wipe σ [j]).set j (some (.str (S [l.getD k 0])))) [j] = wipe σ [j] ∧ _
    refine ⟨?_, ?_⟩
    · rw [e1]
      show (σ.set j (some _)).set j none = σ.set j none
      rw [List.set_set]
    · rw [e1]
      unfold tTest tOp tVar tC rSignIn
      refine ⟨_, List.getElem?_set_self hj, l.getD k 0, rfl, ?_⟩
      simp only [↓reduceIte]
      refine ⟨_, rfl, ?_⟩
      by_cases hc : l.getD k 0 ∈ set
      · simp only [hc, decide_true, Bool.not_true, Bool.false_eq_true, ↓reduceIte]
        exact ⟨ys, e, s, by rw [htk, List.all_append, List.all_cons, List.all_nil, decide_eq_true hc, em, Bool.and_true, Bool.and_true], by omega⟩
      · simp only [hc, decide_false, Bool.not_false, ↓reduceIte]
        refine ⟨_, List.getElem?_set_self hj, ys, e, by omega, ys ++ [_], upd_same, (fun x o h => by rw [upd_ne (ne_of_none h hD)]; exact s _ _ h), ?_, by rw [List.length_append, List.length_singleton]; omega⟩
        rw [htk, List.all_append, List.all_cons, decide_eq_false hc, Bool.false_and, Bool.and_false]
        cases ys <;> rfl
  · obtain ⟨ys, e, s, em, hyl⟩ := p
    refine ⟨D, ys, rfl, e, ?_⟩
    simp only [Bool.false_eq_true, ↓reduceIte]
    rw [em, List.take_length]
    exact q H1 s
theorem idx_digit {c : Nat} (h : c ∈ digits) : ∃ rest, Builtin.Str.occurrences (S digits) (S [c]) 0 (S digits).length 1 = (c - 48) :: rest := by
  have : c = 48 ∨ c = 49 ∨ c = 50 ∨ c = 51 ∨ c = 52 ∨ c = 53 ∨ c = 54 ∨ c = 55 ∨ c = 56 ∨ c = 57 := by
    have := mem_digits.mp h
    omega
  rcases this with rfl | rfl | rfl | rfl | rfl | rfl | rfl | rfl | rfl | rfl <;> exact ⟨[], by decide +kernel⟩
/-- the item that a text is, in a new list, or an empty one -/
def spItem : Sp := fun vs H Q _ => ∃ l : List Nat, vs = [.str (S l)] ∧ l.length ≤ BL ∧ (∀ d v H' a, itemOf l = some d → flatOf d = some v → Same H H' → H' a = none → Q (.ref a) (upd H' a (.lst [v]))) ∧
  (itemOf l = none → ∀ H' a, Same H H' → H' a = none → Q (.ref a) (upd H' a (.lst [])))
theorem digitsVal_lt : ∀ (n : Nat) (w : List Nat), w.length = n → (∀ c ∈ w, c ∈ digits) → NumText.digitsVal w < 10 ^ n
  | 0, w, h, _ => by
    have : w = [] := List.length_eq_zero_iff.mp h
    subst this; decide
  | n + 1, w, h, hd => by
    obtain ⟨v, c, rfl⟩ : ∃ v c, w = v ++ [c] := by
      have hne : w ≠ [] := fun z => by rw [z] at h; cases h
      exact ⟨w.dropLast, w.getLast hne, (List.dropLast_concat_getLast hne).symm⟩
    have h1 := digitsVal_lt n v (by simpa using h) fun x hx => hd x (by simp [hx])
    have h2 := mem_digits.mp (hd c (by simp))
    rw [digitsVal_snoc, Nat.pow_succ]
    omega
theorem pr_law_item {K : PySem.W.Frag} (vs : List V) (H : Hp) (Q : VK) (E : XK) (h : spItem vs H Q E) : t_law_item K (E0N Q) (L2.start ["word", "sign", "number"] vs) H := by
  obtain ⟨l, rfl, hl, q1, q0⟩ := h
  have hBL : (1000000 : Nat) < sizeLine := bl_sl (Nat.le_refl BL)
  unfold t_law_item
  have fd := fun (σ : L2.St) (H : Hp) (Q : VK) (h0 : σ[0]? = some (some (.str (S l)))) (h1 : 1 < σ.length) => eqnil_filt (σ := σ) (H := H) (Q := Q) (i := 0) (j := 1) (l := l) (set := [48, 49, 50, 51, 52, 53, 54, 55, 56, 57]) h0 h1 hl
  have fl := fun (σ : L2.St) (H : Hp) (Q : VK) (h0 : σ[0]? = some (some (.str (S l)))) (h1 : 1 < σ.length) => eqnil_filt (σ := σ) (H := H) (Q := Q) (i := 0) (j := 1) (l := l) (set := [97, 98, 99, 100, 101, 102, 103, 104, 105, 106, 107, 108, 109, 110, 111, 112, 113, 114, 115, 116, 117, 118, 119, 120, 121, 122]) h0 h1 hl
  revert fd fl
  generalize (tEqNil false (tLc (iStr (tVar 0)) (gName 1) (tTest (tOp (rSignIn true) (tVar 1) (tC (.str (S [48, 49, 50, 51, 52, 53, 54, 55, 56, 57]))))) (tVar 1) [1])) = TD
  generalize (tEqNil false (tLc (iStr (tVar 0)) (gName 1) (tTest (tOp (rSignIn true) (tVar 1) (tC (.str (S [97, 98, 99, 100, 101, 102, 103, 104, 105, 106, 107, 108, 109, 110, 111, 112, 113, 114, 115, 116, 117, 118, 119, 120, 121, 122]))))) (tVar 1) [1])) = TL
  intro fd fl
  generalize hW : (tRet (tIf (tAnd _ (tB TL)) _ _) : TS) = W
  generalize hN : (tSeq (tAsg (tC (.int 0)) (gName 2)) (tSeq (tFor _ _ _) _) : TS) = N
  -- the word
  have word_ok : ∀ H', Same H H' → numIn l = none → l ≠ [43] → l ≠ [45] → W (E0N Q) [some (.str (S l)), none, none] H' := by
    intro H' s hn n1 n2
    subst hW
    have hi : itemOf l = if isWordL l = true then some (.str l) else none := by unfold itemOf; rw [if_neg n1, if_neg n2, hn]
    have fin0 : isWordL l = false → ∀ H2, Same H' H2 → ∀ a, H2 a = none → Q (.ref a) (upd H2 a (.lst [])) := fun hw H2 s2 a ha => q0 (by rw [hi, hw]; rfl) H2 a (s.trans s2) ha
    walk_at "mt"
    rw [Sl]
    refine ⟨bl_le hl, ?_⟩
    split
    · rename_i h1
      by_cases h12 : (l.length : Int) ≤ 12
      · simp only [h12, decide_true, ↓reduceIte]
        refine fl _ _ _ rfl (by simp) fun H2 s2 => ⟨_, rfl, ?_⟩
        have hw : isWordL l = l.all fun c => decide (c ∈ letters) := by
          have h3 : l.length ≤ 12 := by omega
          have h4 : 1 ≤ l.length := by omega
          simp [isWordL, h3, h4]
        cases hall : l.all fun c => decide (c ∈ letters) with
        | true =>
          have hall2 : (l.all fun c => decide (c ∈ [97, 98, 99, 100, 101, 102, 103, 104, 105, 106, 107, 108, 109, 110, 111, 112, 113, 114, 115, 116, 117, 118, 119, 120, 121, 122])) = true := hall
          rw [hall2]
          simp only [↓reduceIte]
          refine ⟨by omega, fun a ha => q1 (.str l) _ H2 a ?_ rfl (s.trans s2) ha⟩
          rw [hi, hw, hall]; rfl
        | false =>
          have hall2 : (l.all fun c => decide (c ∈ [97, 98, 99, 100, 101, 102, 103, 104, 105, 106, 107, 108, 109, 110, 111, 112, 113, 114, 115, 116, 117, 118, 119, 120, 121, 122])) = false := hall
          rw [hall2]
          simp only [Bool.false_eq_true, ↓reduceIte]
          exact ⟨by omega, fun a ha => fin0 (by rw [hw, hall]) H2 s2 a ha⟩
      · simp only [h12, decide_false, Bool.false_eq_true, ↓reduceIte]
        refine ⟨by omega, fun a ha => fin0 ?_ H' (.refl _) a ha⟩
        have : ¬ l.length ≤ 12 := by omega
        simp [isWordL, this]
    · rename_i h1
      refine ⟨by omega, fun a ha => fin0 ?_ H' (.refl _) a ha⟩
      have : ¬ 1 ≤ l.length := by omega
      simp only [isWordL, this, decide_false, Bool.false_and]
  -- the number
  have num_ok : ∀ (De : L2.Ends) H', De.rt = Q → Same H H' → (l.all fun c => decide (c ∈ digits)) = true → l.length ≤ 20 → itemOf l = some (.int (NumText.digitsVal l : Nat)) → N De [some (.str (S l)), none, none] H' := by
    intro De H' hDe s hall h20 hi
    subst hN
    unfold tSeq tFor iStr
    have hmem : ∀ c ∈ l, c ∈ digits := fun c hc => of_decide_eq_true (List.all_eq_true.mp hall c hc)
    generalize hB : (tAsg (tOp rAddM _ _) (gName 2) : TS) = B
    walk_at "mt"
    refine for_it (walk_fnS (l := l)) (g := gName 1) (tb := B) (D := { De with nx := tRet (tLst (tCons (tVar 2) tNil)) De }) (fun k σ H2 => ∃ s1, H2 = H' ∧ σ = [some (.str (S l)), s1, some (.int ((NumText.digitsVal (l.take k) : Nat) : Int))]) ⟨_, rfl, rfl⟩ (fun _ _ _ _ _ => trivial) (fun k x σ H2 H3 hk z y => ?_) fun σ H2 z => ?_
    · obtain ⟨s1, rfl, rfl⟩ := z
      obtain ⟨rfl, rfl⟩ := y
      subst hB
      have hg : l[k]? = some (l.getD k 0) := by rw [List.getD_eq_getElem?_getD, List.getElem?_eq_getElem hk]; rfl
      have hm := hmem _ (List.mem_of_getElem? hg)
      obtain ⟨rest, ho⟩ := idx_digit hm
      have h48 := mem_digits.mp hm
      have htk : l.take (k + 1) = l.take k ++ [l.getD k 0] := by rw [List.take_succ, hg]; rfl
      have hb := digitsVal_lt (l.take k).length (l.take k) rfl fun c hc => hmem c (List.mem_of_mem_take hc)
      have hb2 : NumText.digitsVal (l.take k) < 10 ^ 20 := Nat.lt_of_lt_of_le hb (Nat.pow_le_pow_right (by decide) (by rw [List.length_take]; omega))
      have n20 : (10 : Nat) ^ 20 = 100000000000000000000 := by decide
      walk_at "mt"
      unfold rIdxM
      refine ⟨wide_mul (a := 10) (b := 100) (by decide) (by show _ < 2 ^ 100; have : (2 : Nat) ^ 100 = 1267650600228229401496703205376 := by decide
                                                            omega) (by decide) (by decide) (by decide), tyS, l.getD k 0 - 48, rest, ho, ?_⟩
      dsimp only
      rw [htk, digitsVal_snoc]
      exact ⟨rfl, by omega⟩
    · obtain ⟨s1, rfl, rfl⟩ := z
      walk_at "mt"
      rw [hDe]
      refine ⟨by omega, fun a ha => ?_⟩
      rw [List.take_length]
      exact q1 _ _ _ a hi rfl s ha
  walk_at "mt"
  unfold tInTup
  walk_at "mt"
  refine ⟨rfl, rfl, by omega, ?_⟩
  have hin : inV (.str (S l)) [.str (S [43]), .str (S [45])] = (decide (l = [43]) || decide (l = [45])) := by
    have e : ∀ w : List Nat, (S w == S l) = decide (l = w) := fun w => by
      rw [SX.S_beq_eq]
      by_cases h : w = l
      · subst h; simp
      · rw [decide_eq_false h, decide_eq_false (fun z => h z.symm)]
    show ((S [43] == S l) || ((S [45] == S l) || false)) = _
    rw [e, e, Bool.or_false]
  rw [hin, Sl]
  by_cases e1 : l = [43]
  · have hi : itemOf l = some (.bl true) := by unfold itemOf; rw [if_pos e1]
    rw [if_pos (by simp [e1])]
    refine ⟨by omega, fun a ha => ?_⟩
    have := q1 _ _ H a hi rfl (.refl _) ha
    rw [e1, decide_eq_true rfl]
    exact this
  · by_cases e2 : l = [45]
    · have hi : itemOf l = some (.bl false) := by unfold itemOf; rw [if_neg e1, if_pos e2]
      rw [if_pos (by simp [e2])]
      refine ⟨by omega, fun a ha => ?_⟩
      have := q1 _ _ H a hi rfl (.refl _) ha
      rw [decide_eq_false (fun z => e1 (SX.S_inj z))]
      exact this
    · rw [if_neg (by simp [e1, e2])]
      refine ⟨bl_le hl, ?_⟩
      have wk := fun H' s hn => word_ok H' s hn e1 e2
      split
      · rename_i h1
        split
        · rename_i h20
          have h20' : l.length ≤ 20 := by omega
          have h1' : 1 ≤ l.length := by omega
          refine fd _ _ _ rfl (by simp) fun H2 s2 => ⟨_, rfl, ?_⟩
          cases hall : l.all fun c => decide (c ∈ [48, 49, 50, 51, 52, 53, 54, 55, 56, 57]) with
          | false =>
            simp only [Bool.false_eq_true, ↓reduceIte]
            refine wk H2 s2 ?_
            unfold numIn
            rw [if_neg]
            intro z
            rw [Bool.and_eq_true] at z
            have := z.2
            rw [show (l.all fun c => decide (c ∈ digits)) = false from hall] at this
            cases this
          | true =>
            simp only [↓reduceIte]
            have hn : numIn l = if l.head? = some 48 ∧ l ≠ [48] then none else some (NumText.digitsVal l) := by
              unfold numIn
              rw [if_pos]
              rw [Bool.and_eq_true, Bool.and_eq_true, decide_eq_true_eq, decide_eq_true_eq]
              exact ⟨⟨h1', h20'⟩, hall⟩
            have good : numIn l = some (NumText.digitsVal l) → N { nx := W (E0N Q), rt := Q } [some (.str (S l)), none, none] H2 := fun hn2 => num_ok _ H2 rfl s2 hall h20' (by unfold itemOf; rw [if_neg e1, if_neg e2, hn2])
            by_cases e0 : l = [48]
            · rw [if_pos (by rw [e0])]
              exact good (by rw [hn, if_neg (fun z => z.2 e0)])
            · rw [if_neg (fun z => e0 (SX.S_inj z))]
              refine ⟨bl_le hl, ?_⟩
              cases l with
              | nil => simp at h1'
              | cons c r =>
                refine ⟨c, at0, ?_⟩
                by_cases hc : c = 48
                · subst hc
                  simp only [decide_true, Bool.not_true, Bool.false_eq_true, ↓reduceIte]
                  exact wk H2 s2 (by rw [hn, if_pos ⟨rfl, e0⟩])
                · have : ¬ (S [c] = S [48]) := fun z => hc (by simpa using SX.S_inj z)
                  simp only [this, decide_false, Bool.not_false, ↓reduceIte]
                  exact good (by rw [hn, if_neg (fun z => hc (by simpa using z.1))])
        · rename_i h20
          refine wk H (.refl _) ?_
          unfold numIn
          rw [if_neg]
          intro z
          rw [Bool.and_eq_true, Bool.and_eq_true, decide_eq_true_eq, decide_eq_true_eq] at z
          omega
      · rename_i h1
        refine wk H (.refl _) ?_
        unfold numIn
        rw [if_neg]
        intro z
        rw [Bool.and_eq_true, Bool.and_eq_true, decide_eq_true_eq, decide_eq_true_eq] at z
        omega
end K56
set_option Elab.async false
set_option linter.all false
set_option maxRecDepth 100000
set_option maxHeartbeats 4000000
namespace K56
open PySem PySem.Spec PyProof.Rows L2 MT
open SX (S)
open KM
local macro_rules | `(tactic| walk_at "mt") => `(tactic| simp only [L2.start, List.map_cons, List.map_nil, List.length_cons, List.length_nil, List.replicate_succ, List.replicate_zero, Nat.reduceSub, Nat.reduceAdd, Nat.sub_self, Nat.zero_add, List.cons_append, List.nil_append, List.append_nil, List.getElem?_cons_zero, List.getElem?_cons_succ, List.set_cons_zero, List.set_cons_succ, Option.some.injEq, exists_eq_left', exists_eq_left, exists_eq_right, V.bl.injEq, V.int.injEq, V.str.injEq, V.ref.injEq, reduceCtorEq, false_and, and_false, true_and, and_true, false_or, or_false, exists_false, exists_const, ↓reduceIte, Bool.false_eq_true, decide_eq_true_eq, Bool.and_eq_true, Bool.not_true, Bool.not_false, List.cons.injEq, exists_and_left, exists_and_right,
  tRet, tBM, tBM0, tAndV, tOrV, tNotV, tAnd, tOr, tNot, tB, tTest, tIf, tIfS, tC, tVar, tOp, tUn, tChain, rI0, rI, rU, tFn, tCons, tNil, tCB, tTup, tLst, tAsg, gName, tNext, tDrop, tRetN, tPar, tPar3, tAug, tReplC, tRevS, rLenM2, rIsBM, tDNotIn, tDGet, rSumM, rMaxM, rMinM, gSub, rSetL, tRaiseO, tFnW, tXf, gTup, gUnl, gCons, gNil, rPopM, rAppendM, rExtendM, rTupM, rListM, ipI, tIs, tIss, rLenM, rIxM, rAddM, rEqM, rNeM, rSignIn, rInt, rAbs, rStrI, tSl, tPart, tNoPart, rSlM, tIsN, tNotN, List.any_cons, List.any_nil, Bool.or_false, tSeq, isa, D.ty, decide_true, decide_false, Bool.true_or, Bool.or_true, Bool.false_or, Bool.and_true, Bool.true_and, Bool.false_and, Bool.and_false, eq_self_iff_true, not_true_eq_false, not_false_eq_true, bne_self_eq_false])
/-- some text, not much longer -/
def spBent : Sp := fun vs H Q _ => ∃ (F : Hp) (b : Addr) (c : Nat) (l : List Nat), vs = [.ref b, .str (S l)] ∧ l.length ≤ 100000 ∧ Same F H ∧ F b = none ∧ Bx H b c ∧ c ≤ 900000000 ∧
  ∀ l' H', l'.length ≤ 3 * l.length + 10 → Wd b F H (c + 10) F H' → Q (.str (S l')) H'
/-- te gives some text of at most n signs -/
def Tx (te : TE) (σ : L2.St) (H : Hp) (n : Nat) : Prop := ∀ Q : VK, (∀ l : List Nat, l.length ≤ n → Q (.str (S l)) H) → te σ H Q
def Txs (ta : TA) (σ : L2.St) (H : Hp) (k n : Nat) : Prop := ∀ Q : List V → Hp → Prop, (∀ ws : List (List Nat), ws.length = k → (∀ w ∈ ws, w.length ≤ n) → Q (ws.map fun w => V.str (S w)) H) → ta σ H Q
section
variable {σ : L2.St} {H : Hp} {n m k i : Nat} {te tf : TE} {ta : TA} {l : List Nat}
theorem Tx.mono (h : Tx te σ H n) (hn : n ≤ m) : Tx te σ H m := fun Q q => h Q fun l hl => q l (Nat.le_trans hl hn)
theorem Tx.var (h : σ[i]? = some (some (.str (S l)))) : Tx (tVar i) σ H l.length := fun Q q => ⟨_, h, q l (Nat.le_refl _)⟩
theorem Tx.c : Tx (tC (.str (S l))) σ H l.length := fun Q q => q l (Nat.le_refl _)
theorem Tx.add (h1 : Tx te σ H n) (h2 : Tx tf σ H m) (hb : n + m ≤ sizeLine) : Tx (tOp rAddM te tf) σ H (n + m) := fun Q q => h1 _ fun a ha => h2 _ fun b hb2 => by
  show (S a).length + (S b).length ≤ sizeLine ∧ Q (.str (S a ++ S b)) H
  rw [Sl, Sl, SX.S_cat]
  exact ⟨by omega, q _ (by rw [List.length_append]; omega)⟩
theorem Tx.rev (h : σ[i]? = some (some (.str (S l)))) (hl : l.length ≤ sizeLine) : Tx (tRevS (tVar i)) σ H l.length := fun Q q => ⟨_, h, l, rfl, hl, fun l' e => q l' (Nat.le_of_eq e)⟩
theorem Tx.repl {z : List Nat} (h : σ[i]? = some (some (.str (S l)))) (hb : l.length + (l.length + 1) * z.length ≤ 16777216) : Tx (tReplC (tVar i) z) σ H (l.length + (l.length + 1) * z.length) := fun Q q => ⟨_, h, l, rfl, hb, fun l' e => q l' e⟩
theorem Tx.cut {lo hi : Option Int} (hl : l.length ≤ sizeLine) {tl th : TO} (h : σ[i]? = some (some (.str (S l)))) (h1 : ∀ Q : Option Int → Hp → Prop, Q lo H → tl σ H Q) (h2 : ∀ Q : Option Int → Hp → Prop, Q hi H → th σ H Q) : Tx (tSl rSlM (tVar i) tl th) σ H l.length := fun Q q => by
  refine ⟨_, h, h1 _ (h2 _ ?_)⟩
  show (S l).length ≤ sizeLine ∧ Q (.str (cutS (S l) lo hi)) H
  rw [Sl]
  refine ⟨hl, ?_⟩
  have := cutS_length (S l) lo hi
  rw [Sl l] at this
  have e := SX.S_tl (cutS (S l) lo hi)
  rw [← e]
  refine q _ ?_
  have e2 : (cutS (S l) lo hi).cps.toList.length = (cutS (S l) lo hi).length := by simp [Str.length]
  omega
theorem Txs.nil : Txs tNil σ H 0 n := fun Q q => q [] rfl (by simp)
theorem Txs.cons (h1 : Tx te σ H n) (h2 : Txs ta σ H k n) : Txs (tCons te ta) σ H (k + 1) n := fun Q q => h1 _ fun w hw => h2 _ fun ws e hws => q (w :: ws) (by simp [e]) fun x hx => by
  rcases List.mem_cons.mp hx with rfl | hx
  · exact hw
  · exact hws x hx
end
theorem pr_law_bent {K : PySem.W.Frag} (vs : List V) (H : Hp) (Q : VK) (E : XK) (h : spBent vs H Q E) : t_law_bent K spTake (E0N Q) (L2.start ["box", "text", "at", "sign", "some"] vs) H := by
  obtain ⟨F, b, c, l, rfl, hl, sF, fb, hb, hc, q⟩ := h
  have hBL : (1000000 : Nat) < sizeLine := bl_sl (Nat.le_refl BL)
  have w0 := Wd.start sF fb hb
  unfold t_law_bent
  generalize hP : (tSeq (tAsg (tLst _) (gName 4)) _ : TS) = P
  have rest : ∀ (F1 H1 : Hp) (c1 at_ : Nat) (w : List Nat), Wd b F H c1 F1 H1 → c1 ≤ 900000100 → w.length ≤ 2 → (∀ l' H', l'.length ≤ 3 * l.length + 10 → Wd b F H (c1 + 1) F1 H' → Q (.str (S l')) H') → P (E0N Q) [some (.ref b), some (.str (S l)), some (.int (at_ : Int)), some (.str (S w)), none] H1 := by
    intro F1 H1 c1 at_ w w1 hc1 hw q
    subst hP
    have hl' : l.length ≤ sizeLine := by omega
    have v1 : ∀ σ2 : L2.St, ([some (.ref b), some (.str (S l)), some (.int (at_ : Int)), some (.str (S w)), σ2.getD 0 none] : L2.St)[1]? = some (some (.str (S l))) := fun _ => rfl
    unfold tSeq tAsg tLst
    have X1 : Tx (tVar 1) [some (.ref b), some (.str (S l)), some (.int (at_ : Int)), some (.str (S w)), none] H1 l.length := Tx.var rfl
    have X3 : Tx (tVar 3) [some (.ref b), some (.str (S l)), some (.int (at_ : Int)), some (.str (S w)), none] H1 2 := (Tx.var rfl).mono hw
    have c1' : Tx (tSl rSlM (tVar 1) tNoPart (tPart (tVar 2))) [some (.ref b), some (.str (S l)), some (.int (at_ : Int)), some (.str (S w)), none] H1 l.length := Tx.cut (lo := none) (hi := some (at_ : Int)) hl' rfl (fun Q q => q) (fun Q q => ⟨_, rfl, _, rfl, q⟩)
    have c2' : Tx (tSl rSlM (tVar 1) (tPart (tVar 2)) tNoPart) [some (.ref b), some (.str (S l)), some (.int (at_ : Int)), some (.str (S w)), none] H1 l.length := Tx.cut (lo := some (at_ : Int)) (hi := none) hl' rfl (fun Q q => ⟨_, rfl, _, rfl, q⟩) (fun Q q => q)
    have c3' : Tx (tSl rSlM (tVar 1) (tPart (tOp rAddM (tVar 2) (tC (.int 1)))) tNoPart) [some (.ref b), some (.str (S l)), some (.int (at_ : Int)), some (.str (S w)), none] H1 l.length := Tx.cut (lo := some ((at_ : Int) + 1)) (hi := none) hl' rfl (fun Q q => ⟨_, rfl, _, rfl, q⟩) (fun Q q => q)
    refine (Txs.cons (n := 3 * l.length + 10) (((c1'.add X3 (by omega)).add c2' (by omega)).mono (by omega)) (.cons ((c1'.add c3' (by omega)).mono (by omega)) (.cons (((c1'.add X3 (by omega)).add c3' (by omega)).mono (by omega)) (.cons ((X1.add X3 (by omega)).mono (by omega)) (.cons ((X3.add X1 (by omega)).mono (by omega)) (.cons ((Tx.rev rfl hl').mono (by omega)) .nil)))))) _ fun ws hws hwl => ?_
    refine ⟨by rw [List.length_map]; omega, fun p hp => ?_⟩
    have w2 := w1.junk (o := .lst (ws.map fun w => V.str (S w))) hp
    have Y1 : ∀ z : List Nat, z.length ≤ 2 → Tx (tReplC (tVar 1) z) [some (.ref b), some (.str (S l)), some (.int (at_ : Int)), some (.str (S w)), some (.ref p)] (upd H1 p (.lst (ws.map fun w => V.str (S w)))) (3 * l.length + 10) := fun z hz => by
      have h1 : (l.length + 1) * z.length ≤ (l.length + 1) * 2 := Nat.mul_le_mul_left _ hz
      exact (Tx.repl rfl (by omega)).mono (by omega)
    have X1 : Tx (tVar 1) [some (.ref b), some (.str (S l)), some (.int (at_ : Int)), some (.str (S w)), some (.ref p)] (upd H1 p (.lst (ws.map fun w => V.str (S w)))) l.length := Tx.var rfl
    have C1 : ∀ z : List Nat, z.length ≤ 2 → Tx (tC (.str (S z))) [some (.ref b), some (.str (S l)), some (.int (at_ : Int)), some (.str (S w)), some (.ref p)] (upd H1 p (.lst (ws.map fun w => V.str (S w)))) 2 := fun z hz => Tx.c.mono hz
    unfold gName
    dsimp only [List.set_cons_zero, List.set_cons_succ]
    unfold tOp
    refine ⟨.ref p, rfl, ?_⟩
    refine (Txs.cons (n := 3 * l.length + 10) (Y1 [44] (by decide)) (.cons (Y1 [91] (by decide)) (.cons (Y1 [93] (by decide)) (.cons (((C1 [40] (by decide)).add X1 (by omega)).add (C1 [41] (by decide)) (by omega) |>.mono (by omega)) (.cons (((C1 [91] (by decide)).add X1 (by omega)).mono (by omega)) (.cons ((X1.add (C1 [44, 32] (by decide)) (by omega)).add X1 (by omega) |>.mono (by omega)) (.cons (Y1 [40, 40] (by decide)) .nil))))))) _ fun us hus hul => ?_
    refine ⟨by rw [List.length_map]; omega, fun p2 hp2 => ?_⟩
    have w3 := w2.junk (o := .lst (us.map fun w => V.str (S w))) hp2
    have npp : p ≠ p2 := fun z => by rw [← z, upd_same] at hp2; cases hp2
    unfold rAddM
    dsimp only
    rw [upd_ne npp, upd_same, upd_same]
    dsimp only
    refine ⟨by rw [List.length_map, List.length_map]; omega, fun p3 hp3 => ?_⟩
    have w4 := w3.junk (o := .lst (ws.map (fun w => V.str (S w)) ++ us.map (fun w => V.str (S w)))) hp3
    have np3 := w3.ne hp3
    show tRet _ _ _ _
    walk_at "mt"
    refine ⟨b, 13, _, rfl, by omega, by omega, w4.bx, by omega, fun k o hk hbk => ?_⟩
    have w5 := w4.take hbk
    dsimp only
    refine ⟨_, by rw [upd_ne np3, upd_same]; rfl, ?_⟩
    have hk2 : k < (ws ++ us).length := by rw [List.length_append]; omega
    refine ⟨V.str (S ((ws ++ us)[k])), ?_, q _ _ ?_ w5⟩
    · refine atI_nat ?_
      rw [← List.map_append, List.getElem?_map, List.getElem?_eq_getElem hk2]; rfl
    · rcases List.mem_append.mp (List.getElem_mem hk2) with h | h
      · exact hwl _ h
      · exact hul _ h
  walk_at "mt"
  rw [Sl]
  refine ⟨bl_le (by show l.length ≤ 1000000; omega), b, l.length + 1, c, by simp, by omega, by omega, hb, by omega, fun at_ o1 hat hb1 => ?_⟩
  have w1 := w0.take hb1
  walk_at "mt"
  refine ⟨by omega, fun p hp => ?_⟩
  have w2 := w1.junk (o := .lst (([[40], [41], [91], [93], [44], [32], [48], [49], [97], [43], [45], [44, 32], [65], [40, 41], [10], [91, 93]] : List (List Nat)).map fun w => V.str (S w))) hp
  have np := w1.ne hp
  refine ⟨b, 16, _, rfl, by omega, by omega, w2.bx, by omega, fun k o2 hk hb2 => ?_⟩
  have w3 := w2.take hb2
  dsimp only
  refine ⟨_, by rw [upd_ne np, upd_same]; rfl, V.str (S (([[40], [41], [91], [93], [44], [32], [48], [49], [97], [43], [45], [44, 32], [65], [40, 41], [10], [91, 93]] : List (List Nat)).getD k [])), ?_, _, _, ⟨rfl, rfl⟩, rest _ _ _ at_ _ w3 (by omega) ?_ fun l' H' h1 h2 => q l' H' h1 (h2.mono (by omega))⟩
  · match k, hk with
    | 0, _ => exact at0
    | 1, _ => exact at1
    | 2, _ => exact at2
    | 3, _ => exact at3
    | 4, _ => exact atI_nat (j := 4) rfl
    | 5, _ => exact atI_nat (j := 5) rfl
    | 6, _ => exact atI_nat (j := 6) rfl
    | 7, _ => exact atI_nat (j := 7) rfl
    | 8, _ => exact atI_nat (j := 8) rfl
    | 9, _ => exact atI_nat (j := 9) rfl
    | 10, _ => exact atI_nat (j := 10) rfl
    | 11, _ => exact atI_nat (j := 11) rfl
    | 12, _ => exact atI_nat (j := 12) rfl
    | 13, _ => exact atI_nat (j := 13) rfl
    | 14, _ => exact atI_nat (j := 14) rfl
    | 15, _ => exact atI_nat (j := 15) rfl
    | k + 16, h => exact absurd h (by omega)
  · match k, hk with
    | 0, _ | 1, _ | 2, _ | 3, _ | 4, _ | 5, _ | 6, _ | 7, _ | 8, _ | 9, _ | 10, _ | 11, _ | 12, _ | 13, _ | 14, _ | 15, _ => decide
    | k + 16, h => exact absurd h (by omega)
end K56
set_option Elab.async false
set_option linter.all false
set_option maxRecDepth 100000
set_option maxHeartbeats 4000000
namespace K56
open PySem PySem.Spec PyProof.Rows L2 MT
open SX (S)
open KM
local macro_rules | `(tactic| walk_at "mt") => `(tactic| simp only [L2.start, List.map_cons, List.map_nil, List.length_cons, List.length_nil, List.replicate_succ, List.replicate_zero, Nat.reduceSub, Nat.reduceAdd, Nat.sub_self, Nat.zero_add, List.cons_append, List.nil_append, List.append_nil, List.getElem?_cons_zero, List.getElem?_cons_succ, List.set_cons_zero, List.set_cons_succ, Option.some.injEq, exists_eq_left', exists_eq_left, exists_eq_right, V.bl.injEq, V.int.injEq, V.str.injEq, V.ref.injEq, reduceCtorEq, false_and, and_false, true_and, and_true, false_or, or_false, exists_false, exists_const, ↓reduceIte, Bool.false_eq_true, decide_eq_true_eq, Bool.and_eq_true, Bool.not_true, Bool.not_false, List.cons.injEq, exists_and_left, exists_and_right,
  tRet, tBM, tBM0, tAndV, tOrV, tNotV, tAnd, tOr, tNot, tB, tTest, tIf, tIfS, tC, tVar, tOp, tUn, tChain, rI0, rI, rU, tFn, tCons, tNil, tCB, tTup, tLst, tAsg, gName, tNext, tDrop, tRetN, tPar, tPar3, tAug, tReplC, tRevS, rLenM2, rIsBM, tDNotIn, tDGet, rSumM, rMaxM, rMinM, gSub, rSetL, tRaiseO, tFnW, tXf, gTup, gUnl, gCons, gNil, rPopM, rAppendM, rExtendM, rTupM, rListM, ipI, tIs, tIss, rLenM, rIxM, rAddM, rEqM, rNeM, rSignIn, rInt, rAbs, rStrI, tSl, tPart, tNoPart, rSlM, tIsN, tNotN, List.any_cons, List.any_nil, Bool.or_false, tSeq, isa, D.ty, decide_true, decide_false, Bool.true_or, Bool.or_true, Bool.false_or, Bool.and_true, Bool.true_and, Bool.false_and, Bool.and_false, eq_self_iff_true, not_true_eq_false, not_false_eq_true, bne_self_eq_false])
theorem walk_zipT {K : PySem.W.Frag} {a b : Addr} {xs ys : List V} {n : Nat} (hn : n = min xs.length ys.length) : Walk (RZ.ItzT K a b) n (fun H => SqT K H a xs ∧ SqT K H b ys) (YPair (fun i => xs[i]?) (fun i => ys[i]?)) := by
  subst hn
  refine ⟨fun i _ hi q => ?_, fun _ q => ⟨xs, ys, q.1, q.2, by omega⟩, fun i H v H' _ q y => ?_⟩
  · have h1 : i < xs.length := by omega
    have h2 : i < ys.length := by omega
    exact ⟨xs, ys, xs[i], ys[i], q.1, q.2, by simp [h1], by simp [h2]⟩
  · obtain ⟨T, x, z, h1, h2, h3, h4, h5⟩ := y
    exact ⟨T, x, z, h1, h2, h3, h4 xs q.1, h5 ys q.2⟩
theorem zip_comp {K : PySem.W.Frag} {J : It} {n : Nat} {G : Hp → Prop} {xs ys : List V} {H1 : Hp} {s0 s1 s2 s3 s4 s5 s6 : Option V} {Q : VK} {D : Addr} (w : Walk J n G (YPair (fun i => xs[i]?) (fun i => ys[i]?))) (hG : ∀ H', Same H1 H' → G H') (hn : n < sizeLine) (hD : H1 D = none)
    (hd : ∀ H2 (ts : List Addr), Same H1 H2 → H2 D = some (.lst (ts.map V.ref)) → ts.length = n → (∀ (i : Nat) t, ts[i]? = some t → ∃ x y, xs[i]? = some x ∧ ys[i]? = some y ∧ H2 t = some (.tup [x, y])) → Q (.ref D) H2) :
    ∃ W : Nat → Nat → Hp → Prop, (∃ m, W 0 m (upd H1 D (.lst []))) ∧ ∀ i m H, W i m H →
      (J.stop i H ∧ Q (.ref D) H) ∨ (J.go i H ∧ ∃ Nx : Hp → Prop, (∀ H', Nx H' → ∃ m', m' < m ∧ W (i + 1) m' H') ∧ ∀ x H', J.yld i H x H' → (gTup K 2 (gCons (gName 5) (gCons (gName 6) gNil))) x (wipe [s0, s1, s2, s3, s4, s5, s6] [5, 6]) H' fun σ2 H2 => wipe σ2 [5, 6] = wipe [s0, s1, s2, s3, s4, s5, s6] [5, 6] ∧ tYes σ2 H2 fun b H3 =>
        if b = true then (tTup (tCons (tVar 5) (tCons (tVar 6) tNil))) σ2 H3 fun y H4 => ∃ acc, H4 D = some (.lst acc) ∧ acc.length < sizeLine ∧ Nx (upd H4 D (.lst (acc ++ [y]))) else Nx H3) := by
  refine lc_it w (fun i H => ∃ ts : List Addr, Same H1 H ∧ H D = some (.lst (ts.map V.ref)) ∧ ts.length = i ∧ ∀ (k : Nat) t, ts[k]? = some t → t ≠ D ∧ ∃ x y, xs[k]? = some x ∧ ys[k]? = some y ∧ H t = some (.tup [x, y])) ⟨[], same_upd hD, upd_same, rfl, by simp⟩ (fun i H _ h => hG H h.choose_spec.1) (fun i x H H' hi h y => ?_) fun H h => ?_
  · obtain ⟨ts, s, e, hl, hts⟩ := h
    obtain ⟨T, x1, y1, rfl, hT, rfl, hx, hy⟩ := y
    have nTD : T ≠ D := fun z => by rw [z, e] at hT; cases hT
    refine ⟨T, [x1, y1], rfl, .of upd_same, rfl, _, _, rfl, _, _, rfl, rfl, rfl, ?_⟩
    show tYes _ _ _
    unfold tYes
    simp only [↓reduceIte]
    refine ⟨_, rfl, _, rfl, by show 2 ≤ sizeLine; decide +kernel, fun t ht => ?_⟩
    have ntT : t ≠ T := fun z => by rw [z, upd_same] at ht; cases ht
    have ntD : t ≠ D := fun z => by rw [z, upd_ne (Ne.symm nTD), e] at ht; cases ht
    refine ⟨ts.map V.ref, by rw [upd_ne (Ne.symm ntD), upd_ne (Ne.symm nTD)]; exact e, by rw [List.length_map]; omega, ts ++ [t], ?_, by rw [upd_same, List.map_append]; rfl, by rw [List.length_append, hl]; rfl, fun k u hu => ?_⟩
    · intro a o h
      rw [upd_ne (ne_of_none h hD), upd_ne (fun z => ?_), upd_ne (fun z => ?_)]
      · exact s _ _ h
      · rw [z] at h
        have := s _ _ h
        rw [hT] at this; cases this
      · rw [z] at h
        have := s _ _ h
        rw [upd_ne ntT] at ht
        rw [ht] at this; cases this
    · by_cases hk : k < ts.length
      · rw [List.getElem?_append_left hk] at hu
        obtain ⟨h1, x, y, h2, h3, h4⟩ := hts k u hu
        refine ⟨h1, x, y, h2, h3, ?_⟩
        rw [upd_ne h1, upd_ne (fun z => ?_), upd_ne (fun z => ?_)]
        · exact h4
        · rw [z, hT] at h4; cases h4
        · rw [z] at h4
          rw [upd_ne ntT] at ht
          rw [ht] at h4; cases h4
      · rw [List.getElem?_append_right (by omega)] at hu
        have hk2 : k - ts.length = 0 := by
          cases q : k - ts.length with
          | zero => rfl
          | succ m => rw [q] at hu; simp at hu
        rw [hk2] at hu
        have ez : t = u := by simpa using hu
        subst ez
        have : k = i := by omega
        subst this
        refine ⟨ntD, x1, y1, hx, hy, ?_⟩
        rw [upd_ne ntD, upd_same]
  · obtain ⟨ts, s, e, hl, hts⟩ := h
    exact hd H ts s e hl fun i t h => (hts i t h).2
mutual
def nodes : D → Nat
  | .lst ds => 1 + nodesL ds
  | .tup ds => 1 + nodesL ds
  | _ => 1
def nodesL : List D → Nat
  | [] => 0
  | d :: ds => nodes d + nodesL ds
end
theorem nodes_pos : ∀ d, 1 ≤ nodes d
  | .lst _ => by simp [nodes]
  | .tup _ => by simp [nodes]
  | .non => Nat.le_refl _
  | .bl _ => Nat.le_refl _
  | .int _ => Nat.le_refl _
  | .str _ => Nat.le_refl _
  | .dct _ => Nat.le_refl _
theorem nodesL_app (a b : List D) : nodesL (a ++ b) = nodesL a + nodesL b := by
  induction a with
  | nil => simp [nodesL]
  | cons d a ih => simp only [List.cons_append, nodesL, ih]; omega
theorem nodesL_len (ds : List D) : ds.length ≤ nodesL ds := by
  induction ds with
  | nil => simp [nodesL]
  | cons d ds ih =>
    have := nodes_pos d
    simp only [List.length_cons, nodesL]; omega
/-- one and other are the same data -/
def spAlike : Sp := fun vs H Q _ => ∃ v w d, vs = [v, w] ∧ Dat H v d ∧ Dat H w d ∧ nodes d ≤ 1000000 ∧ ∀ H', Same H H' → Q (.bl true) H'
/-- a pair that waits -/
def PairAt (H : Hp) (t : Addr) (d : D) : Prop := ∃ a b, H t = some (.tup [a, b]) ∧ Dat H a d ∧ Dat H b d
theorem PairAt.same {H H' : Hp} {t : Addr} {d : D} (h : PairAt H t d) (s : Same H H') : PairAt H' t d := by
  obtain ⟨a, b, h1, h2, h3⟩ := h
  exact ⟨a, b, s _ _ h1, h2.mono s, h3.mono s⟩
/-- the waiting pairs at p -/
structure Wt (H0 H : Hp) (p : Addr) (ts : List Addr) (ds : List D) : Prop where
  s : Same H0 H
  p0 : H0 p = none
  top : H p = some (.lst (ts.map V.ref))
  len : ts.length = ds.length
  prs : ∀ (i : Nat) t d, ts[i]? = some t → ds[i]? = some d → ∃ a b, H t = some (.tup [a, b]) ∧ Dat H0 a d ∧ Dat H0 b d
end K56
set_option Elab.async false
set_option linter.all false
set_option maxRecDepth 100000
set_option maxHeartbeats 4000000
namespace K56
open PySem PySem.Spec PyProof.Rows L2 MT
open SX (S)
open KM
local macro_rules | `(tactic| walk_at "mt") => `(tactic| simp only [L2.start, List.map_cons, List.map_nil, List.length_cons, List.length_nil, List.replicate_succ, List.replicate_zero, Nat.reduceSub, Nat.reduceAdd, Nat.sub_self, Nat.zero_add, List.cons_append, List.nil_append, List.append_nil, List.getElem?_cons_zero, List.getElem?_cons_succ, List.set_cons_zero, List.set_cons_succ, Option.some.injEq, exists_eq_left', exists_eq_left, exists_eq_right, V.bl.injEq, V.int.injEq, V.str.injEq, V.ref.injEq, reduceCtorEq, false_and, and_false, true_and, and_true, false_or, or_false, exists_false, exists_const, ↓reduceIte, Bool.false_eq_true, decide_eq_true_eq, Bool.and_eq_true, Bool.not_true, Bool.not_false, List.cons.injEq, exists_and_left, exists_and_right,
  tRet, tBM, tBM0, tAndV, tOrV, tNotV, tAnd, tOr, tNot, tB, tTest, tIf, tIfS, tC, tVar, tOp, tUn, tChain, rI0, rI, rU, tFn, tCons, tNil, tCB, tTup, tLst, tAsg, gName, tNext, tDrop, tRetN, tPar, tPar3, tAug, tReplC, tRevS, rLenM2, rIsBM, tDNotIn, tDGet, rSumM, rMaxM, rMinM, gSub, rSetL, tRaiseO, tFnW, tXf, gTup, gUnl, gCons, gNil, rPopM, rAppendM, rExtendM, rTupM, rListM, ipI, tIs, tIss, rLenM, rIxM, rAddM, rEqM, rNeM, rSignIn, rInt, rAbs, rStrI, tSl, tPart, tNoPart, rSlM, tIsN, tNotN, List.any_cons, List.any_nil, Bool.or_false, tSeq, isa, D.ty, decide_true, decide_false, Bool.true_or, Bool.or_true, Bool.false_or, Bool.and_true, Bool.true_and, Bool.false_and, Bool.and_false, eq_self_iff_true, not_true_eq_false, not_false_eq_true, bne_self_eq_false])
theorem pr_law_alike {K : PySem.W.Frag} {n : Nat} (vs : List V) (H : Hp) (Q : VK) (E : XK) (h : spAlike vs H Q E) : t_law_alike K (spSame 3) (E0N Q) (L2.start ["one", "other", "waits", "a", "b", "x", "y"] vs) H := by
  obtain ⟨v, w, d, rfl, hv, hw, hn, q⟩ := h
  have hBL : (1000000 : Nat) < sizeLine := bl_sl (Nat.le_refl BL)
  unfold t_law_alike
  generalize hC : (tSeq (tIfS (tOr (tTest (tOp rNeM (tIs .lst _) _)) _) _ _) _ : TS) = C
  walk_at "mt"
  refine ⟨by omega, fun t0 ht0 => ⟨by omega, fun p hp => ?_⟩⟩
  have npt : t0 ≠ p := fun z => by rw [← z, upd_same] at hp; cases hp
  have hp0 : H p = none := by rw [upd_ne (Ne.symm npt)] at hp; exact hp
  have wt0 : Wt H (upd (upd H t0 (.tup [v, w])) p (.lst [.ref t0])) p [t0] [d] := by
    refine ⟨(same_upd ht0).trans (same_upd hp), hp0, upd_same, rfl, fun i t x h1 h2 => ?_⟩
    match i, h1, h2 with
    | 0, h1, h2 =>
      simp at h1 h2
      subst h1; subst h2
      exact ⟨v, w, by rw [upd_ne npt, upd_same], hv, hw⟩
    | i + 1, h1, h2 => simp at h1
  unfold tWhile
  refine ⟨fun m σ H' => ∃ ts ds s3 s4 s5 s6, m = nodesL ds ∧ nodesL ds ≤ 1000000 ∧ Wt H H' p ts ds ∧ σ = [some v, some w, some (.ref p), s3, s4, s5, s6], ⟨_, [t0], [d], none, none, none, none, rfl, by simp [nodesL]; exact hn, wt0, rfl⟩, ?_⟩
  clear wt0
  rintro m σ H' ⟨ts, ds, s3, s4, s5, s6, rfl, hnd, wt, rfl⟩
  unfold tB tEqNil tVar
  refine ⟨_, rfl, p, ts.map V.ref, rfl, wt.top, _, rfl, ?_⟩
  simp only [↓reduceIte]
  have snoc : ∀ {α : Type} (l : List α), l = [] ∨ ∃ a b, l = a ++ [b] := fun l => by
    by_cases h : l = []
    · exact .inl h
    · exact .inr ⟨l.dropLast, l.getLast h, (List.dropLast_concat_getLast h).symm⟩
  rcases snoc ts with rfl | ⟨tr, t, rfl⟩
  · simp only [List.map_nil, List.isEmpty_nil, Bool.not_true, Bool.false_eq_true, ↓reduceIte]
    walk_at "mt"
    exact q H' wt.s
  · have hl := wt.len
    rcases snoc ds with rfl | ⟨dr, x, rfl⟩
    · simp at hl
    have hl2 : tr.length = dr.length := by simpa using hl
    obtain ⟨a, b, ht, ha, hb⟩ := wt.prs tr.length t x (by simp) (by rw [hl2]; simp)
    have ne : (((tr ++ [t]).map V.ref).isEmpty) = false := by simp
    rw [ne]
    simp only [Bool.not_false, ↓reduceIte]
    rw [nodesL_app] at hnd ⊢
    have hx : nodesL [x] = nodes x := by simp [nodesL]
    rw [hx] at hnd ⊢
    have ntp : t ≠ p := fun z => by rw [z, wt.top] at ht; cases ht
    have top := wt.top
    rw [List.map_append] at top
    have htop : H' p = some (.lst (tr.map V.ref ++ [V.ref t])) := top
    -- the popped list
    have wt1 : Wt H (upd H' p (.lst (tr.map V.ref))) p tr dr := by
      refine ⟨fun y o e => by rw [upd_ne (ne_of_none e wt.p0)]; exact wt.s _ _ e, wt.p0, upd_same, hl2, fun i u y h1 h2 => ?_⟩
      have hi : i < tr.length := (List.getElem?_eq_some_iff.mp h1).1
      obtain ⟨a2, b2, h3, h4, h5⟩ := wt.prs i u y (by rw [List.getElem?_append_left hi]; exact h1) (by rw [List.getElem?_append_left (by omega)]; exact h2)
      exact ⟨a2, b2, by rw [upd_ne (fun z => by rw [z, htop] at h3; cases h3)]; exact h3, h4, h5⟩
    have ht1 : (upd H' p (.lst (tr.map V.ref))) t = some (.tup [a, b]) := by rw [upd_ne ntp]; exact ht
    have tya := (ha.mono wt1.s).ty
    have tyb := (hb.mono wt1.s).ty
    refine ⟨fun σ' H2 => ∃ ts ds s3 s4 s5 s6, nodesL ds < nodesL dr + nodes x ∧ Wt H H2 p ts ds ∧ σ' = [some v, some w, some (.ref p), s3, s4, s5, s6], fun σ' H2 z => ?_, ?_⟩
    · obtain ⟨ts, ds, a3, a4, a5, a6, h1, h2, rfl⟩ := z
      exact ⟨_, h1, ts, ds, a3, a4, a5, a6, rfl, by omega, h2, rfl⟩
    generalize hN : (fun (σ' : L2.St) (H2 : Hp) => ∃ ts ds s3 s4 s5 s6, nodesL ds < nodesL dr + nodes x ∧ Wt H H2 p ts ds ∧ σ' = [some v, some w, some (.ref p), s3, s4, s5, s6]) = N
    walk_at "mt"
    refine ⟨tyL htop, _, _, htop, _, rfl, [a, b], .of ht1, rfl, _, _, rfl, _, _, rfl, rfl, ?_⟩
    have flat : depth x = 0 → spSame 3 [a, b] (upd H' p (.lst (tr.map V.ref))) (fun x H1 => ∃ c, x = V.bl c ∧ if (!c) = true then Q (V.bl false) H1 else N [some v, some w, some (.ref p), some a, some b, s5, s6] H1) E0 := fun hx0 => by
      refine ⟨a, b, x, rfl, ha.mono wt1.s, hb.mono wt1.s, .inl (by omega), true, rfl, ?_⟩
      simp only [Bool.not_true, Bool.false_eq_true, ↓reduceIte]
      subst hN
      have := nodes_pos x
      exact ⟨tr, dr, _, _, _, _, by omega, wt1, rfl⟩
    refine ⟨x.ty, tyb, ?_⟩
    have cont : ∀ (es : List D) (T : Ty), x.ty = T → (T = .lst ∨ T = .tup) → nodes x = 1 + nodesL es → (∃ F1 F2 xa xb ya yb, a = .ref xa ∧ b = .ref xb ∧ Same F1 H ∧ Same F2 H ∧ RepL F1 ya es ∧ RepL F2 yb es ∧ es.length ≤ BL ∧ ((T = .lst ∧ H xa = some (.lst ya) ∧ H xb = some (.lst yb)) ∨ (T = .tup ∧ H xa = some (.tup ya) ∧ H xb = some (.tup yb)))) →
        C { nx := N, rt := Q, bk := tRet (tC (V.bl true)) (E0N Q), ct := N } [some v, some w, some (V.ref p), some a, some b, s5, s6] (upd H' p (HO.lst (List.map V.ref tr))) := by
      intro es T hT hT2 hnx ⟨F1, F2, xa, xb, ya, yb, ea, eb, f1, f2, r1, r2, hes, hk⟩
      subst hC
      subst ea eb
      have l1 := r1.length
      have l2 := r2.length
      generalize hL : (tLc _ _ _ _ _ : TE) = L
      walk_at "mt"
      have la : ∃ o, seqO ((upd H' p (.lst (tr.map V.ref))) xa) = some o ∧ o.length = es.length := by
        rcases hk with ⟨_, h1, h2⟩ | ⟨_, h1, h2⟩
        · exact ⟨ya, by rw [wt1.s _ _ h1]; rfl, l1⟩
        · exact ⟨ya, by rw [wt1.s _ _ h1]; rfl, l1⟩
      have lb : ∃ o, seqO ((upd H' p (.lst (tr.map V.ref))) xb) = some o ∧ o.length = es.length := by
        rcases hk with ⟨_, h1, h2⟩ | ⟨_, h1, h2⟩
        · exact ⟨yb, by rw [wt1.s _ _ h2]; rfl, l2⟩
        · exact ⟨yb, by rw [wt1.s _ _ h2]; rfl, l2⟩
      obtain ⟨oa, la1, la2⟩ := la
      obtain ⟨ob, lb1, lb2⟩ := lb
      simp only [tya, tyb, hT]
      refine ⟨T, rfl, T, rfl, ?_⟩
      simp only [decide_true, Bool.not_true, Bool.false_eq_true, ↓reduceIte]
      refine ⟨T, rfl, T, rfl, ?_⟩
      simp only [decide_true, Bool.not_true, Bool.false_eq_true, ↓reduceIte]
      refine ⟨oa, la1, ob, lb1, ?_⟩
      rw [la2, lb2]
      simp only [decide_true, Bool.not_true, Bool.false_eq_true, ↓reduceIte]
      refine ⟨tyL wt1.top, ?_⟩
      subst hL
      have BLe : BL = 1000000 := rfl
      have src : ∃ J G, (∀ R : It → Hp → Prop, R J (upd H' p (.lst (tr.map V.ref))) → RZ.iZipA K (tCons (tVar 3) (tCons (tVar 4) tNil)) [some v, some w, some (.ref p), some (.ref xa), some (.ref xb), s5, s6] (upd H' p (.lst (tr.map V.ref))) R) ∧
          Walk J es.length G (YPair (fun i => ya[i]?) (fun i => yb[i]?)) ∧ ∀ H2, Same (upd H' p (.lst (tr.map V.ref))) H2 → G H2 := by
        rcases hk with ⟨_, h1, h2⟩ | ⟨_, h1, h2⟩
        · exact ⟨_, _, fun R r => ⟨_, rfl, _, rfl, xa, xb, ya, yb, rfl, .inl ⟨.of (wt1.s _ _ h1), .of (wt1.s _ _ h2), r⟩⟩, walk_zip (K := K) (a := xa) (b := xb) (by omega), fun H2 s => ⟨.of (s _ _ (wt1.s _ _ h1)), .of (s _ _ (wt1.s _ _ h2))⟩⟩
        · exact ⟨_, _, fun R r => ⟨_, rfl, _, rfl, xa, xb, ya, yb, rfl, .inr ⟨.of (wt1.s _ _ h1), .of (wt1.s _ _ h2), r⟩⟩, walk_zipT (K := K) (a := xa) (b := xb) (by omega), fun H2 s => ⟨.of (s _ _ (wt1.s _ _ h1)), .of (s _ _ (wt1.s _ _ h2))⟩⟩
      obtain ⟨J, G, hsrc, wk, hG⟩ := src
      unfold tLc
      refine hsrc _ fun D hD => ?_
      refine zip_comp (K := K) (Q := fun x H1 => match V.ref p, [x] with
        | V.ref l, [V.ref b] => ∃ xs, H1 l = some (HO.lst xs) ∧ ∃ x, H1 b = some (HO.lst x) ∧ xs.length + x.length ≤ sizeLine ∧ N [some v, some w, some (V.ref p), some (V.ref xa), some (V.ref xb), s5, s6] (upd H1 l (HO.lst (xs ++ x)))
        | x, x_1 => False) wk hG (by omega) hD fun H2 us s2 hD2 hul hus => ?_
      dsimp only
      have hle := nodesL_len dr
      have hle2 := nodesL_len es
      refine ⟨_, s2 _ _ wt1.top, _, hD2, by rw [List.length_map, List.length_map]; omega, ?_⟩
      subst hN
      have eDp : D ≠ p := fun z => by rw [z, wt1.top] at hD; cases hD
      refine ⟨tr ++ us, dr ++ es, _, _, _, _, by rw [nodesL_app]; omega, ?_, rfl⟩
      refine ⟨fun y o e => by rw [upd_ne (ne_of_none e wt.p0)]; exact s2 _ _ (wt1.s _ _ e), wt.p0, by rw [upd_same, List.map_append], by rw [List.length_append, List.length_append]; omega, fun i u y h1 h2 => ?_⟩
      by_cases hi : i < tr.length
      · rw [List.getElem?_append_left hi] at h1
        rw [List.getElem?_append_left (by omega)] at h2
        obtain ⟨a2, b2, h3, h4, h5⟩ := wt1.prs i u y h1 h2
        exact ⟨a2, b2, by rw [upd_ne (fun z => by rw [z, wt1.top] at h3; cases h3)]; exact s2 _ _ h3, h4, h5⟩
      · rw [List.getElem?_append_right (by omega)] at h1 h2
        rw [hl2] at h1
        obtain ⟨xx, yy, h3, h4, h5⟩ := hus _ u h1
        obtain ⟨d1, e1, k1⟩ := r1.get h3
        obtain ⟨d2, e2, k2⟩ := r2.get h4
        rw [h2] at e1 e2
        cases e1; cases e2
        exact ⟨xx, yy, by rw [upd_ne (fun z => by
          have := s2 _ _ wt1.top
          rw [z, this] at h5; cases h5)]; exact h5, ⟨F1, f1, k1⟩, ⟨F2, f2, k2⟩⟩
    obtain ⟨F1, f1, k1⟩ := ha
    obtain ⟨F2, f2, k2⟩ := hb
    cases k1 with
    | @lst xa ya es e1 r1 hes =>
      cases k2 with
      | @lst xb yb _ e2 r2 _ =>
        rw [if_pos (by simp [D.ty])]
        exact cont es .lst rfl (.inl rfl) (by simp [nodes]) ⟨F1, F2, xa, xb, ya, yb, rfl, rfl, f1, f2, r1, r2, hes, .inl ⟨rfl, f1 _ _ e1, f2 _ _ e2⟩⟩
    | @tup xa ya es e1 r1 hes =>
      cases k2 with
      | @tup xb yb _ e2 r2 _ =>
        rw [if_pos (by simp [D.ty])]
        exact cont es .tup rfl (.inr rfl) (by simp [nodes]) ⟨F1, F2, xa, xb, ya, yb, rfl, rfl, f1, f2, r1, r2, hes, .inr ⟨rfl, f1 _ _ e1, f2 _ _ e2⟩⟩
    | _ =>
      rw [if_neg (by simp [D.ty])]
      exact flat rfl
end K56
set_option Elab.async false
set_option linter.all false
set_option maxRecDepth 100000
set_option maxHeartbeats 4000000
namespace K56
open PySem PySem.Spec PyProof.Rows L2 MT KM
open SX (S)
/-- data with items -/
inductive SeqD : D → List D → Prop
  | lst (es : List D) : SeqD (.lst es) es
  | tup (es : List D) : SeqD (.tup es) es
/-- what waits (top first) and the texts found lead to the text t -/
inductive Lead (t : List Nat) : List (D × Bool) → List (List Nat) → Prop
  | nil : Lead t [] [t]
  | item {d : D} {r : List (D × Bool)} {f : List (List Nat)} : Lead t r (f ++ [text d]) → Lead t ((d, false) :: r) f
  | done {d : D} {es : List D} {r : List (D × Bool)} {g : List (List Nat)} : SeqD d es → Lead t r (g ++ [text d]) → Lead t ((d, true) :: r) (g ++ texts es)
theorem Lead.items {t : List Nat} {r : List (D × Bool)} : ∀ (es : List D) (f : List (List Nat)), Lead t r (f ++ texts es) → Lead t ((es.map fun e => (e, false)) ++ r) f
  | [], f, h => by simpa [texts] using h
  | e :: es, f, h => by
    refine .item (Lead.items es (f ++ [text e]) ?_)
    have : f ++ [text e] ++ texts es = f ++ texts (e :: es) := by simp [texts]
    rw [this]; exact h
theorem Lead.open_ {t : List Nat} {r : List (D × Bool)} {f : List (List Nat)} {d : D} {es : List D} (s : SeqD d es) (h : Lead t ((d, false) :: r) f) : Lead t ((es.map fun e => (e, false)) ++ (d, true) :: r) f := by
  cases h with
  | item h => exact Lead.items es f (.done s h)
/-- how much waits: for the turns, for the lists -/
def wgt : List (D × Bool) → Nat
  | [] => 0
  | (d, false) :: r => 2 * nodes d + wgt r
  | (_, true) :: r => 1 + wgt r
def cnt : List (D × Bool) → Nat
  | [] => 0
  | (d, false) :: r => nodes d + cnt r
  | (_, true) :: r => 1 + cnt r
theorem wgt_app (a b : List (D × Bool)) : wgt (a ++ b) = wgt a + wgt b := by
  induction a with
  | nil => simp [wgt]
  | cons x a ih =>
    obtain ⟨d, c⟩ := x
    cases c <;> simp only [List.cons_append, wgt, ih] <;> omega
theorem cnt_app (a b : List (D × Bool)) : cnt (a ++ b) = cnt a + cnt b := by
  induction a with
  | nil => simp [cnt]
  | cons x a ih =>
    obtain ⟨d, c⟩ := x
    cases c <;> simp only [List.cons_append, cnt, ih] <;> omega
theorem wgt_items (es : List D) : wgt (es.map fun e => (e, false)) = 2 * nodesL es := by
  induction es with
  | nil => rfl
  | cons e es ih => simp only [List.map_cons, wgt, nodesL, ih]; omega
theorem cnt_items (es : List D) : cnt (es.map fun e => (e, false)) = nodesL es := by
  induction es with
  | nil => rfl
  | cons e es ih => simp only [List.map_cons, cnt, nodesL, ih]
theorem cnt_len : ∀ l : List (D × Bool), l.length ≤ cnt l
  | [] => Nat.le_refl _
  | (d, false) :: r => by
    have := cnt_len r
    have := nodes_pos d
    simp only [List.length_cons, cnt]; omega
  | (_, true) :: r => by
    have := cnt_len r
    simp only [List.length_cons, cnt]; omega
theorem SeqD.nodes {d : D} {es : List D} (s : SeqD d es) : K56.nodes d = 1 + nodesL es := by cases s <;> simp [K56.nodes]
end K56
set_option Elab.async false
set_option linter.all false
set_option maxRecDepth 100000
set_option maxHeartbeats 4000000
namespace K56
open PySem PySem.Spec PyProof.Rows L2 MT
open SX (S)
open KM
local macro_rules | `(tactic| walk_at "mt") => `(tactic| simp only [L2.start, List.map_cons, List.map_nil, List.length_cons, List.length_nil, List.replicate_succ, List.replicate_zero, Nat.reduceSub, Nat.reduceAdd, Nat.sub_self, Nat.zero_add, List.cons_append, List.nil_append, List.append_nil, List.getElem?_cons_zero, List.getElem?_cons_succ, List.set_cons_zero, List.set_cons_succ, Option.some.injEq, exists_eq_left', exists_eq_left, exists_eq_right, V.bl.injEq, V.int.injEq, V.str.injEq, V.ref.injEq, reduceCtorEq, false_and, and_false, true_and, and_true, false_or, or_false, exists_false, exists_const, ↓reduceIte, Bool.false_eq_true, decide_eq_true_eq, Bool.and_eq_true, Bool.not_true, Bool.not_false, List.cons.injEq, exists_and_left, exists_and_right,
  tRet, tBM, tBM0, tAndV, tOrV, tNotV, tAnd, tOr, tNot, tB, tTest, tIf, tIfS, tC, tVar, tOp, tUn, tChain, rI0, rI, rU, tFn, tCons, tNil, tCB, tTup, tLst, tAsg, gName, tNext, tDrop, tRetN, tPar, tPar3, tAug, tReplC, tRevS, rLenM2, rIsBM, tDNotIn, tDGet, rSumM, rMaxM, rMinM, gSub, rSetL, tRaiseO, tFnW, tXf, gTup, gUnl, gCons, gNil, rPopM, rAppendM, rExtendM, rTupM, rListM, ipI, tIs, tIss, rLenM, rIxM, rAddM, rEqM, rNeM, rSignIn, rInt, rAbs, rStrI, tSl, tPart, tNoPart, rSlM, tIsN, tNotN, List.any_cons, List.any_nil, Bool.or_false, tSeq, isa, D.ty, decide_true, decide_false, Bool.true_or, Bool.or_true, Bool.false_or, Bool.and_true, Bool.true_and, Bool.false_and, Bool.and_false, eq_self_iff_true, not_true_eq_false, not_false_eq_true, bne_self_eq_false])
/-- what is asked of data whose text is told: plain at some depth, small -/
def Ok1 (d : D) : Prop := (∃ L m, KM.plain L d m = true) ∧ (text d).length ≤ 1000000
theorem Ok1.item {d e : D} {es : List D} {k : Nat} (s : SeqD d es) (h : Ok1 d) (he : es[k]? = some e) : Ok1 e := by
  obtain ⟨⟨L, m, hp⟩, hb⟩ := h
  have key : plains L es (m + 1) = true ∧ (TL.joinL [44, 32] (texts es)).length ≤ 1000000 := by
    cases s with
    | lst es =>
      simp only [KM.plain, Bool.and_eq_true] at hp
      simp [text] at hb
      exact ⟨hp.2, by omega⟩
    | tup es =>
      simp only [KM.plain, Bool.and_eq_true] at hp
      simp [text] at hb
      exact ⟨hp.2, by omega⟩
  refine ⟨⟨L, m + 1, plains_get key.1 he⟩, ?_⟩
  refine Nat.le_trans (joinL_le [44, 32] (ts := texts es) (k := k) ?_) key.2
  rw [texts_map, List.getElem?_map, he]; rfl
def spLText : Sp := fun vs H Q _ => ∃ v d, vs = [v] ∧ Dat H v d ∧ Ok1 d ∧ nodes d ≤ 400000 ∧ ∀ H', Same H H' → Q (.str (S (text d))) H'
/-- the waiting ones at p (top last), as they stand -/
structure Wv (H0 H : Hp) (p : Addr) (ts : List Addr) (st : List (D × Bool)) : Prop where
  s : Same H0 H
  p0 : H0 p = none
  top : H p = some (.lst (ts.map V.ref))
  len : ts.length = st.length
  prs : ∀ (i : Nat) t d c, ts[i]? = some t → st[i]? = some (d, c) → (∃ a, H t = some (.tup [a, .bl c]) ∧ Dat H0 a d) ∧ Ok1 d
theorem Wv.same {H0 H H' : Hp} {p : Addr} {ts : List Addr} {st : List (D × Bool)} (w : Wv H0 H p ts st) (s : Same H H') : Wv H0 H' p ts st :=
  ⟨w.s.trans s, w.p0, s _ _ w.top, w.len, fun i t d c h1 h2 => by
    obtain ⟨⟨a, h3, h4⟩, h5⟩ := w.prs i t d c h1 h2
    exact ⟨⟨a, s _ _ h3, h4⟩, h5⟩⟩
/-- the list at p changes, not at its things -/
theorem Wv.set {H0 H : Hp} {p : Addr} {ts us : List Addr} {st : List (D × Bool)} {tr : List (D × Bool)} (w : Wv H0 H p ts st) (hl : us.length = tr.length) (h : ∀ (i : Nat) t d c, us[i]? = some t → tr[i]? = some (d, c) → (∃ a, H t = some (.tup [a, .bl c]) ∧ Dat H0 a d) ∧ Ok1 d) : Wv H0 (upd H p (.lst (us.map V.ref))) p us tr := by
  refine ⟨fun y o e => by rw [upd_ne (ne_of_none e w.p0)]; exact w.s _ _ e, w.p0, upd_same, hl, fun i t d c h1 h2 => ?_⟩
  obtain ⟨⟨a, h3, h4⟩, h5⟩ := h i t d c h1 h2
  exact ⟨⟨a, by rw [upd_ne (fun z => by rw [z, w.top] at h3; cases h3)]; exact h3, h4⟩, h5⟩
def txs (f : List (List Nat)) : List V := f.map fun l => V.str (S l)
def y_leaf (K : PySem.W.Frag) : TS := (tDrop (tBM K "list" rAppendM (tVar 2) (tCons (tIf (tTest (tOp rIsBM (tVar 3) (tC (.bl true)))) (tC (.str (S [43]))) (tIf (tTest (tOp rIsBM (tVar 3) (tC (.bl false)))) (tC (.str (S [45]))) (tCB rStrI (tCons (tVar 3) tNil)))) tNil)))
theorem leaf_ok {K : PySem.W.Frag} {H : Hp} {q : Addr} {f : List (List Nat)} {a : V} {d : D} {De : L2.Ends} {s0 s1 s4 s5 s6 : Option V} (hq : H q = some (.lst (txs f))) (hf : f.length ≤ 1000000) (ha : Dat H a d) (hd : d.ty ≠ .lst ∧ d.ty ≠ .tup) (ok : Ok1 d)
    (nx : De.nx [s0, s1, some (.ref q), some a, s4, s5, s6] (upd H q (.lst (txs (f ++ [text d]))))) : y_leaf K De [s0, s1, some (.ref q), some a, s4, s5, s6] H := by
  have hBL : (1000000 : Nat) < sizeLine := bl_sl (Nat.le_refl BL)
  obtain ⟨⟨L, m, hp⟩, _⟩ := ok
  have fin : ∀ z : Str, z = S (text d) → ∃ xs, H q = some (.lst xs) ∧ xs.length < sizeLine ∧ De.nx [s0, s1, some (.ref q), some a, s4, s5, s6] (upd H q (.lst (xs ++ [V.str z]))) := fun z hz => by
    refine ⟨_, hq, by unfold txs; rw [List.length_map]; omega, ?_⟩
    have : txs f ++ [V.str z] = txs (f ++ [text d]) := by unfold txs; rw [List.map_append, hz]; rfl
    rw [this]; exact nx
  unfold y_leaf
  obtain ⟨F, s, r⟩ := ha
  cases r with
  | bl b =>
    walk_at "mt"
    refine ⟨tyL hq, ?_⟩
    cases b
    · simp only [Bool.false_eq_true, decide_false, ↓reduceIte, decide_true]
      exact fin _ rfl
    · simp only [decide_true, ↓reduceIte]
      exact fin _ rfl
  | int i =>
    simp only [KM.plain, Bool.and_eq_true, decide_eq_true_eq] at hp
    walk_at "mt"
    exact ⟨tyL hq, log2_small hp.1 hp.2, fin _ (str_nat hp.1)⟩
  | @str l hl =>
    walk_at "mt"
    exact ⟨tyL hq, fin _ rfl⟩
  | lst _ _ _ => exact absurd rfl hd.1
  | tup _ _ _ => exact absurd rfl hd.2
  | _ => simp [KM.plain] at hp
def y_done (K : PySem.W.Frag) : TS := (tSeq (tAsg (tSl rSlM (tVar 2) (tPart (tOp (rI0 fun i j => .int (i - j)) (tCB rLenM (tCons (tVar 2) tNil)) (tCB rLenM (tCons (tVar 3) tNil)))) tNoPart) (gName 6)) (tSeq (tAsg (tSl rSlM (tVar 2) tNoPart (tPart (tOp (rI0 fun i j => .int (i - j)) (tCB rLenM (tCons (tVar 2) tNil)) (tCB rLenM (tCons (tVar 3) tNil))))) (gName 2)) (tDrop (tBM K "list" rAppendM (tVar 2) (tCons (tOp rAddM (tOp rAddM (tIf (tB (tIs .tup (tVar 3))) (tC (.str (S [40]))) (tC (.str (S [91])))) (tBM K "str" rJoinM (tC (.str (S [44, 32]))) (tCons (tVar 6) tNil))) (tIf (tB (tIs .tup (tVar 3))) (tC (.str (S [41]))) (tC (.str (S [93]))))) tNil)))))
theorem join_bound : ∀ l : List (List Nat), (l.map (·.length)).sum + l.length * 2 ≤ (TL.joinL [44, 32] l).length + 2
  | [] => by simp [TL.joinL]
  | [x] => by simp [TL.joinL]
  | x :: y :: l => by
    have ih := join_bound (y :: l)
    rw [join_cons2]
    simp only [List.map_cons, List.sum_cons, List.length_cons, List.length_append] at ih ⊢
    omega
theorem done_ok {K : PySem.W.Frag} {H : Hp} {q xa : Addr} {g : List (List Nat)} {d : D} {es : List D} {ya : List V} {De : L2.Ends} {s0 s1 s4 s5 s6 : Option V} (hq : H q = some (.lst (txs (g ++ texts es)))) (hf : (g ++ texts es).length ≤ 1000000) (sd : SeqD d es) (hy : seqO (H xa) = some ya) (hyl : ya.length = es.length) (ty : tyOf H (.ref xa) = some d.ty) (hb : (text d).length ≤ 1000000)
    (nx : ∀ H2 q2 s6, Same H H2 → H q2 = none → De.nx [s0, s1, some (.ref q2), some (.ref xa), s4, s5, s6] (upd H2 q2 (.lst (txs (g ++ [text d]))))) : y_done K De [s0, s1, some (.ref q), some (.ref xa), s4, s5, s6] H := by
  have hBL : (1000000 : Nat) < sizeLine := bl_sl (Nat.le_refl BL)
  have tl : (texts es).length = es.length := by rw [texts_map, List.length_map]
  have fl : (txs (g ++ texts es)).length = g.length + es.length := by unfold txs; rw [List.length_map, List.length_append, tl]
  unfold y_done
  generalize hA : (tDrop _ : TS) = A
  walk_at "mt"
  rw [hq]
  refine ⟨_, rfl, ya, hy, ?_⟩
  dsimp only
  intro pp hpp
  have e1 : ((txs (g ++ texts es)).length : Int) - (ya.length : Int) = ((g.length : Nat) : Int) := by omega
  rw [e1, cutFrom]
  have ed : (txs (g ++ texts es)).drop g.length = txs (texts es) := by unfold txs; rw [List.map_append, List.drop_append_of_le_length (by simp), List.drop_of_length_le (by simp)]; rfl
  have et : (txs (g ++ texts es)).take g.length = txs g := by unfold txs; rw [List.map_append, List.take_append_of_le_length (by simp), List.take_of_length_le (by simp)]
  rw [ed]
  have s1' : Same H (upd H pp (.lst (txs (texts es)))) := same_upd hpp
  rw [s1' _ _ hq]
  have nxp : xa ≠ pp := fun z => by rw [z, hpp] at hy; cases hy
  refine ⟨_, rfl, ya, by rw [upd_ne nxp]; exact hy, ?_⟩
  dsimp only
  intro q2 hq2
  rw [e1, cutTo, et]
  subst hA
  have nqp : pp ≠ q2 := fun z => by rw [← z, upd_same] at hq2; cases hq2
  have hq20 : H q2 = none := by rw [upd_ne (Ne.symm nqp)] at hq2; exact hq2
  have nxq : xa ≠ q2 := fun z => by rw [z, hq20] at hy; cases hy
  have ty2 : tyOf (upd (upd H pp (.lst (txs (texts es)))) q2 (.lst (txs g))) (.ref xa) = some d.ty := by
    show tyO (upd _ q2 _ xa) = _
    rw [upd_ne nxq, upd_ne nxp]; exact ty
  have hjb := join_bound (texts es)
  have key : ∀ (c0 c1 : Nat), text d = [c0] ++ TL.joinL [44, 32] (texts es) ++ [c1] → ∃ a0 : List Nat, ∃ ys : List (List Nat), S [44, 32] = S a0 ∧ (upd (upd H pp (.lst (txs (texts es)))) q2 (.lst (txs g))) pp = some (.lst (ys.map fun l => V.str (S l))) ∧ (ys.map (·.length)).sum + ys.length * a0.length ≤ 16777216 ∧
      (S [c0]).length + (S (TL.joinL a0 ys)).length ≤ sizeLine ∧ (S [c0] ++ S (TL.joinL a0 ys)).length + (S [c1]).length ≤ sizeLine ∧ ∃ xs, (upd (upd H pp (.lst (txs (texts es)))) q2 (.lst (txs g))) q2 = some (.lst xs) ∧ xs.length < sizeLine ∧
        De.nx [s0, s1, some (.ref q2), some (.ref xa), s4, s5, some (.ref pp)] (upd (upd (upd H pp (.lst (txs (texts es)))) q2 (.lst (txs g))) q2 (.lst (xs ++ [V.str (S [c0] ++ S (TL.joinL a0 ys) ++ S [c1])]))) := by
    intro c0 c1 ht
    have hlen : (TL.joinL [44, 32] (texts es)).length + 2 ≤ 1000000 := by
      have := congrArg List.length ht
      simp only [List.length_append, List.length_cons, List.length_nil] at this
      omega
    refine ⟨[44, 32], texts es, rfl, by rw [upd_ne nqp, upd_same]; rfl, ?_, ?_, ?_, txs g, upd_same, ?_, ?_⟩
    · show _ + _ * 2 ≤ _
      omega
    · rw [Sl, Sl]; simp only [List.length_cons, List.length_nil]; omega
    · rw [SX.S_cat, Sl, Sl]; simp only [List.length_append, List.length_cons, List.length_nil]; omega
    · unfold txs; rw [List.length_map]; rw [List.length_append] at hf; omega
    · rw [SX.S_cat, SX.S_cat, ← ht, L2.upd_upd]
      have : txs g ++ [V.str (S (text d))] = txs (g ++ [text d]) := by unfold txs; rw [List.map_append]; rfl
      rw [this]
      exact nx _ q2 _ s1' hq20
  cases sd with
  | lst es =>
    have kk := key 91 93 (by simp [text])
    walk_at "mt"
    simp only [ty2]
    walk_at "mt"
    obtain ⟨a0, ys, h1, h2, h3, h4, h5, xs, h6, h7, h8⟩ := kk
    refine ⟨tyL upd_same, tyS, ?_⟩
    unfold rJoinM
    refine ⟨a0, ys, h1, h2, h3, ?_⟩
    dsimp only
    refine ⟨h4, _, ty2, ?_⟩
    rw [if_neg (by simp [D.ty])]
    exact ⟨h5, xs, h6, h7, h8⟩
  | tup es =>
    have kk := key 40 41 (by simp [text])
    walk_at "mt"
    simp only [ty2]
    walk_at "mt"
    obtain ⟨a0, ys, h1, h2, h3, h4, h5, xs, h6, h7, h8⟩ := kk
    refine ⟨tyL upd_same, tyS, ?_⟩
    unfold rJoinM
    refine ⟨a0, ys, h1, h2, h3, ?_⟩
    dsimp only
    refine ⟨h4, _, ty2, ?_⟩
    rw [if_pos (show (MT.D.tup es).ty = Ty.tup from rfl)]
    exact ⟨h5, xs, h6, h7, h8⟩
end K56
set_option Elab.async false
set_option linter.all false
set_option maxRecDepth 100000
set_option maxHeartbeats 4000000
namespace K56
open PySem PySem.Spec PyProof.Rows L2 MT
open SX (S)
open KM
local macro_rules | `(tactic| walk_at "mt") => `(tactic| simp only [L2.start, List.map_cons, List.map_nil, List.length_cons, List.length_nil, List.replicate_succ, List.replicate_zero, Nat.reduceSub, Nat.reduceAdd, Nat.sub_self, Nat.zero_add, List.cons_append, List.nil_append, List.append_nil, List.getElem?_cons_zero, List.getElem?_cons_succ, List.set_cons_zero, List.set_cons_succ, Option.some.injEq, exists_eq_left', exists_eq_left, exists_eq_right, V.bl.injEq, V.int.injEq, V.str.injEq, V.ref.injEq, reduceCtorEq, false_and, and_false, true_and, and_true, false_or, or_false, exists_false, exists_const, ↓reduceIte, Bool.false_eq_true, decide_eq_true_eq, Bool.and_eq_true, Bool.not_true, Bool.not_false, List.cons.injEq, exists_and_left, exists_and_right,
  tRet, tBM, tBM0, tAndV, tOrV, tNotV, tAnd, tOr, tNot, tB, tTest, tIf, tIfS, tC, tVar, tOp, tUn, tChain, rI0, rI, rU, tFn, tCons, tNil, tCB, tTup, tLst, tAsg, gName, tNext, tDrop, tRetN, tPar, tPar3, tAug, tReplC, tRevS, rLenM2, rIsBM, tDNotIn, tDGet, rSumM, rMaxM, rMinM, gSub, rSetL, tRaiseO, tFnW, tXf, gTup, gUnl, gCons, gNil, rPopM, rAppendM, rExtendM, rTupM, rListM, ipI, tIs, tIss, rLenM, rIxM, rAddM, rEqM, rNeM, rSignIn, rInt, rAbs, rStrI, tSl, tPart, tNoPart, rSlM, tIsN, tNotN, List.any_cons, List.any_nil, Bool.or_false, tSeq, isa, D.ty, decide_true, decide_false, Bool.true_or, Bool.or_true, Bool.false_or, Bool.and_true, Bool.true_and, Bool.false_and, Bool.and_false, eq_self_iff_true, not_true_eq_false, not_false_eq_true, bne_self_eq_false])
/-- [(item, False) for item in a list], the pairs new -/
theorem false_comp {K : PySem.W.Frag} {J : It} {n : Nat} {G : Hp → Prop} {it : Nat → V} {H1 : Hp} {s0 s1 s2 s3 s4 s5 s6 : Option V} {Q : VK} {D : Addr} (w : Walk J n G (YFn it)) (hG : ∀ H', Same H1 H' → G H') (hn : n < sizeLine) (hD : H1 D = none)
    (hd : ∀ H2 (ts : List Addr), Same H1 H2 → H2 D = some (.lst (ts.map V.ref)) → ts.length = n → (∀ (i : Nat) t, ts[i]? = some t → H2 t = some (.tup [it i, .bl false])) → Q (.ref D) H2) :
    ∃ W : Nat → Nat → Hp → Prop, (∃ m, W 0 m (upd H1 D (.lst []))) ∧ ∀ i m H, W i m H →
      (J.stop i H ∧ Q (.ref D) H) ∨ (J.go i H ∧ ∃ Nx : Hp → Prop, (∀ H', Nx H' → ∃ m', m' < m ∧ W (i + 1) m' H') ∧ ∀ x H', J.yld i H x H' → gName 5 x (wipe [s0, s1, s2, s3, s4, s5, s6] [5]) H' fun σ2 H2 => wipe σ2 [5] = wipe [s0, s1, s2, s3, s4, s5, s6] [5] ∧ tYes σ2 H2 fun b H3 =>
        if b = true then (tTup (tCons (tVar 5) (tCons (tC (.bl false)) tNil))) σ2 H3 fun y H4 => ∃ acc, H4 D = some (.lst acc) ∧ acc.length < sizeLine ∧ Nx (upd H4 D (.lst (acc ++ [y]))) else Nx H3) := by
  refine lc_it w (fun i H => ∃ ts : List Addr, Same H1 H ∧ H D = some (.lst (ts.map V.ref)) ∧ ts.length = i ∧ ∀ (k : Nat) t, ts[k]? = some t → t ≠ D ∧ H t = some (.tup [it k, .bl false])) ⟨[], same_upd hD, upd_same, rfl, by simp⟩ (fun i H _ h => hG H h.choose_spec.1) (fun i x H H' hi h y => ?_) fun H h => ?_
  · obtain ⟨ts, s, e, hl, hts⟩ := h
    obtain ⟨rfl, rfl⟩ := y
    refine ⟨rfl, ?_⟩
    show tYes _ _ _
    unfold tYes
    simp only [↓reduceIte]
    refine ⟨_, rfl, by show 2 ≤ sizeLine; decide +kernel, fun t ht => ?_⟩
    have ntD : t ≠ D := fun z => by rw [z, e] at ht; cases ht
    refine ⟨ts.map V.ref, by rw [upd_ne (Ne.symm ntD)]; exact e, by rw [List.length_map]; omega, ts ++ [t], ?_, by rw [upd_same, List.map_append]; rfl, by rw [List.length_append, hl]; rfl, fun k u hu => ?_⟩
    · intro a o h
      rw [upd_ne (ne_of_none h hD), upd_ne (fun z => ?_)]
      · exact s _ _ h
      · rw [z] at h
        have := s _ _ h
        rw [ht] at this; cases this
    · by_cases hk : k < ts.length
      · rw [List.getElem?_append_left hk] at hu
        obtain ⟨h1, h4⟩ := hts k u hu
        refine ⟨h1, ?_⟩
        rw [upd_ne h1, upd_ne (fun z => ?_)]
        · exact h4
        · rw [z, ht] at h4; cases h4
      · rw [List.getElem?_append_right (by omega)] at hu
        have hk2 : k - ts.length = 0 := by
          cases q : k - ts.length with
          | zero => rfl
          | succ m => rw [q] at hu; simp at hu
        rw [hk2] at hu
        have ez : t = u := by simpa using hu
        subst ez
        have : k = i := by omega
        subst this
        refine ⟨ntD, ?_⟩
        rw [upd_ne ntD, upd_same]
  · obtain ⟨ts, s, e, hl, hts⟩ := h
    exact hd H ts s e hl fun i t h => (hts i t h).2
end K56
set_option Elab.async false
set_option linter.all false
set_option maxRecDepth 100000
set_option maxHeartbeats 4000000
namespace K56
open PySem PySem.Spec PyProof.Rows L2 MT
open SX (S)
open KM
local macro_rules | `(tactic| walk_at "mt") => `(tactic| simp only [L2.start, List.map_cons, List.map_nil, List.length_cons, List.length_nil, List.replicate_succ, List.replicate_zero, Nat.reduceSub, Nat.reduceAdd, Nat.sub_self, Nat.zero_add, List.cons_append, List.nil_append, List.append_nil, List.getElem?_cons_zero, List.getElem?_cons_succ, List.set_cons_zero, List.set_cons_succ, Option.some.injEq, exists_eq_left', exists_eq_left, exists_eq_right, V.bl.injEq, V.int.injEq, V.str.injEq, V.ref.injEq, reduceCtorEq, false_and, and_false, true_and, and_true, false_or, or_false, exists_false, exists_const, ↓reduceIte, Bool.false_eq_true, decide_eq_true_eq, Bool.and_eq_true, Bool.not_true, Bool.not_false, List.cons.injEq, exists_and_left, exists_and_right,
  tRet, tBM, tBM0, tAndV, tOrV, tNotV, tAnd, tOr, tNot, tB, tTest, tIf, tIfS, tC, tVar, tOp, tUn, tChain, rI0, rI, rU, tFn, tCons, tNil, tCB, tTup, tLst, tAsg, gName, tNext, tDrop, tRetN, tPar, tPar3, tAug, tReplC, tRevS, rLenM2, rIsBM, tDNotIn, tDGet, rSumM, rMaxM, rMinM, gSub, rSetL, tRaiseO, tFnW, tXf, gTup, gUnl, gCons, gNil, rPopM, rAppendM, rExtendM, rTupM, rListM, ipI, tIs, tIss, rLenM, rIxM, rAddM, rEqM, rNeM, rSignIn, rInt, rAbs, rStrI, tSl, tPart, tNoPart, rSlM, tIsN, tNotN, List.any_cons, List.any_nil, Bool.or_false, tSeq, isa, D.ty, decide_true, decide_false, Bool.true_or, Bool.or_true, Bool.false_or, Bool.and_true, Bool.true_and, Bool.false_and, Bool.and_false, eq_self_iff_true, not_true_eq_false, not_false_eq_true, bne_self_eq_false])
def y_open (K : PySem.W.Frag) : TS := (tSeq (tDrop (tBM K "list" rAppendM (tVar 1) (tCons (tTup (tCons (tVar 3) (tCons (tC (.bl true)) tNil))) tNil))) (tDrop (tBM K "list" rExtendM (tVar 1) (tCons (tLc (iSq K (tRevL K (tCB rListM (tCons (tVar 3) tNil)))) (gName 5) tYes (tTup (tCons (tVar 5) (tCons (tC (.bl false)) tNil))) [5]) tNil))))
theorem open_ok {K : PySem.W.Frag} {H0 H F : Hp} {p q xa : Addr} {tr : List Addr} {st : List (D × Bool)} {d : D} {es : List D} {ya fs : List V} {De : L2.Ends} {s0 s4 s5 s6 : Option V} (w : Wv H0 H p tr st) (hq : H q = some (.lst fs)) (hqp : q ≠ p) (sd : SeqD d es) (ha : Dat H0 (.ref xa) d) (hF : Same F H0) (ry : RepL F ya es) (hy : seqO (H xa) = some ya) (ok : Ok1 d)
    (hb : tr.length + es.length + 1 ≤ 1000000)
    (nx : ∀ H3 t1 us, Wv H0 H3 p (tr ++ [t1] ++ us) (st ++ [(d, true)] ++ es.reverse.map (fun e => (e, false))) → H3 q = some (.lst fs) → De.nx [s0, some (.ref p), some (.ref q), some (.ref xa), s4, s5, s6] H3) : y_open K De [s0, some (.ref p), some (.ref q), some (.ref xa), s4, s5, s6] H := by
  have hBL : (1000000 : Nat) < sizeLine := bl_sl (Nat.le_refl BL)
  have hyl := ry.length
  have nxap : xa ≠ p := fun z => by
    obtain ⟨F', s', r'⟩ := ha
    have h0 : H0 xa ≠ none := by
      cases r' with
      | lst h _ _ => rw [s' _ _ h]; simp
      | tup h _ _ => rw [s' _ _ h]; simp
      | dct _ h => rw [s' _ _ h]; simp
    exact h0 (by rw [z]; exact w.p0)
  unfold y_open
  generalize hL : (tLc _ _ _ _ _ : TE) = L
  walk_at "mt"
  refine ⟨tyL w.top, by omega, fun t1 ht1 => ⟨tr.map V.ref, ?_, ?_, ?_⟩⟩
  · rw [upd_ne (fun z => by rw [← z, w.top] at ht1; cases ht1)]; exact w.top
  · rw [List.length_map]; omega
  have w1 := w.same (same_upd (o := .tup [.ref xa, .bl true]) ht1)
  have w2 : Wv H0 (upd (upd H t1 (.tup [.ref xa, .bl true])) p (.lst ((tr ++ [t1]).map V.ref))) p (tr ++ [t1]) (st ++ [(d, true)]) := w1.set (by simp [w.len]) fun i u y c h1 h2 => by
    by_cases hi : i < tr.length
    · rw [List.getElem?_append_left hi] at h1
      rw [List.getElem?_append_left (by rw [← w.len]; exact hi)] at h2
      exact w1.prs i u y c h1 h2
    · rw [List.getElem?_append_right (by omega)] at h1
      rw [List.getElem?_append_right (by rw [← w.len]; omega), ← w.len] at h2
      cases hk : i - tr.length with
      | zero =>
        rw [hk] at h1 h2
        simp at h1 h2
        obtain ⟨rfl, rfl⟩ := h2
        subst h1
        exact ⟨⟨_, upd_same, ha⟩, ok⟩
      | succ m => rw [hk] at h1; simp at h1
  rw [List.map_append] at w2
  have hq2 : (upd (upd H t1 (.tup [.ref xa, .bl true])) p (.lst (tr.map V.ref ++ [t1].map V.ref))) q = some (.lst fs) := by
    rw [upd_ne hqp, upd_ne (fun z => by rw [← z, hq] at ht1; cases ht1)]; exact hq
  have hy2 : seqO ((upd (upd H t1 (.tup [.ref xa, .bl true])) p (.lst (tr.map V.ref ++ [t1].map V.ref))) xa) = some ya := by
    rw [upd_ne nxap, upd_ne (fun z => by rw [← z] at ht1; rw [ht1] at hy; cases hy)]; exact hy
  subst hL
  have hb2 : [t1].map V.ref = [V.ref t1] := rfl
  rw [hb2] at w2 hq2 hy2
  revert w2 hq2 hy2
  generalize upd (upd H t1 (.tup [.ref xa, .bl true])) p (.lst (tr.map V.ref ++ [V.ref t1])) = H2
  intro w2 hq2 hy2
  unfold tLc iSq tRevL tCB tCons tNil tVar
  refine ⟨tyL w2.top, _, rfl, ya, hy2, fun l1 hl1 => ⟨l1, ya, rfl, .of upd_same, fun l2 hl2 => ⟨l2, rfl, .inl ⟨ya.reverse, .of upd_same, fun D hD => ?_⟩⟩⟩⟩
  have w3 := (w2.same (same_upd (o := .lst ya) hl1)).same (same_upd (o := .lst ya.reverse) hl2)
  have nlD : l2 ≠ D := fun z => by rw [← z, upd_same] at hD; cases hD
  have sS : Same H2 (upd (upd H2 l1 (.lst ya)) l2 (.lst ya.reverse)) := (same_upd hl1).trans (same_upd hl2)
  refine false_comp (K := K) (n := ya.reverse.length) (Q := fun x H1 => match V.ref p, [x] with
    | V.ref l, [V.ref b] => ∃ xs, H1 l = some (HO.lst xs) ∧ ∃ x, H1 b = some (HO.lst x) ∧ xs.length + x.length ≤ sizeLine ∧ De.nx [s0, some (V.ref p), some (V.ref q), some (V.ref xa), s4, s5, s6] (upd H1 l (HO.lst (xs ++ x)))
    | x, x_1 => False) (walk_fnL (K := K) (a := l2) (xs := ya.reverse)) (fun H' s => .of (s _ _ upd_same)) (by rw [List.length_reverse]; omega) hD fun H3 us s3 hD3 hul hus => ?_
  dsimp only
  have w4 := w3.same s3
  rw [List.length_reverse] at hul
  refine ⟨_, w4.top, _, hD3, by rw [List.length_map, List.length_map, List.length_append]; simp; omega, ?_⟩
  rw [← List.map_append]
  refine nx _ t1 us (w4.set (by simp [w.len]; omega) fun i u y c h1 h2 => ?_) ?_
  · by_cases hi : i < (tr ++ [t1]).length
    · rw [List.getElem?_append_left hi] at h1
      rw [List.getElem?_append_left (by rw [← w4.len]; exact hi)] at h2
      exact w4.prs i u y c h1 h2
    · rw [List.getElem?_append_right (by omega)] at h1
      rw [List.getElem?_append_right (by rw [← w4.len]; omega), ← w4.len] at h2
      have ht := hus _ u h1
      rw [List.getElem?_map] at h2
      cases he : es.reverse[i - (tr ++ [t1]).length]? with
      | none => rw [he] at h2; cases h2
      | some e =>
        rw [he] at h2
        simp at h2
        obtain ⟨rfl, rfl⟩ := h2
        have hk : i - (tr ++ [t1]).length < es.length := by
          have := (List.getElem?_eq_some_iff.mp he).1
          simpa using this
        rw [List.getElem?_reverse (by omega)] at he
        refine ⟨⟨_, ht, ?_⟩, ok.item sd he⟩
        obtain ⟨v, hv, rv⟩ := ry.getD he
        have : ya.reverse.getD (i - (tr ++ [t1]).length) .non = v := by
          rw [List.getD_eq_getElem?_getD, List.getElem?_reverse (by omega), hyl, hv]; rfl
        rw [this]
        exact ⟨F, hF, rv⟩
  · rw [upd_ne hqp]
    exact s3 _ _ (sS _ _ hq2)
end K56
set_option Elab.async false
set_option linter.all false
set_option maxRecDepth 100000
set_option maxHeartbeats 4000000
namespace K56
open PySem PySem.Spec PyProof.Rows L2 MT
open SX (S)
open KM
local macro_rules | `(tactic| walk_at "mt") => `(tactic| simp only [L2.start, List.map_cons, List.map_nil, List.length_cons, List.length_nil, List.replicate_succ, List.replicate_zero, Nat.reduceSub, Nat.reduceAdd, Nat.sub_self, Nat.zero_add, List.cons_append, List.nil_append, List.append_nil, List.getElem?_cons_zero, List.getElem?_cons_succ, List.set_cons_zero, List.set_cons_succ, Option.some.injEq, exists_eq_left', exists_eq_left, exists_eq_right, V.bl.injEq, V.int.injEq, V.str.injEq, V.ref.injEq, reduceCtorEq, false_and, and_false, true_and, and_true, false_or, or_false, exists_false, exists_const, ↓reduceIte, Bool.false_eq_true, decide_eq_true_eq, Bool.and_eq_true, Bool.not_true, Bool.not_false, List.cons.injEq, exists_and_left, exists_and_right,
  tRet, tBM, tBM0, tAndV, tOrV, tNotV, tAnd, tOr, tNot, tB, tTest, tIf, tIfS, tC, tVar, tOp, tUn, tChain, rI0, rI, rU, tFn, tCons, tNil, tCB, tTup, tLst, tAsg, gName, tNext, tDrop, tRetN, tPar, tPar3, tAug, tReplC, tRevS, rLenM2, rIsBM, tDNotIn, tDGet, rSumM, rMaxM, rMinM, gSub, rSetL, tRaiseO, tFnW, tXf, gTup, gUnl, gCons, gNil, rPopM, rAppendM, rExtendM, rTupM, rListM, ipI, tIs, tIss, rLenM, rIxM, rAddM, rEqM, rNeM, rSignIn, rInt, rAbs, rStrI, tSl, tPart, tNoPart, rSlM, tIsN, tNotN, List.any_cons, List.any_nil, Bool.or_false, tSeq, isa, D.ty, decide_true, decide_false, Bool.true_or, Bool.or_true, Bool.false_or, Bool.and_true, Bool.true_and, Bool.false_and, Bool.and_false, eq_self_iff_true, not_true_eq_false, not_false_eq_true, bne_self_eq_false])
theorem wgt_rev (l : List (D × Bool)) : wgt l.reverse = wgt l := by
  induction l with
  | nil => rfl
  | cons x l ih =>
    rw [List.reverse_cons, wgt_app, ih]
    obtain ⟨d, c⟩ := x
    cases c <;> simp only [wgt] <;> omega
theorem cnt_rev (l : List (D × Bool)) : cnt l.reverse = cnt l := by
  induction l with
  | nil => rfl
  | cons x l ih =>
    rw [List.reverse_cons, cnt_app, ih]
    obtain ⟨d, c⟩ := x
    cases c <;> simp only [cnt] <;> omega
theorem Wv.other {H0 H : Hp} {p q : Addr} {ts : List Addr} {st : List (D × Bool)} {l l' : List V} (w : Wv H0 H p ts st) (hq : H q = some (.lst l)) (hqp : q ≠ p) (h0 : H0 q = none) : Wv H0 (upd H q (.lst l')) p ts st := by
  refine ⟨fun y o e => by rw [upd_ne (ne_of_none e h0)]; exact w.s _ _ e, w.p0, by rw [upd_ne (Ne.symm hqp)]; exact w.top, w.len, fun i t d c h1 h2 => ?_⟩
  obtain ⟨⟨a, h3, h4⟩, h5⟩ := w.prs i t d c h1 h2
  exact ⟨⟨a, by rw [upd_ne (fun z => by rw [z, hq] at h3; cases h3)]; exact h3, h4⟩, h5⟩
structure VtI (H0 : Hp) (p : Addr) (v : V) (d : D) (N : Nat) (m : Nat) (σ : L2.St) (H : Hp) : Prop where
  ex : ∃ ts st q f s3 s4 s5 s6, m = wgt st ∧ cnt st + f.length ≤ N ∧ Lead (text d) st.reverse f ∧ Wv H0 H p ts st ∧ H q = some (.lst (txs f)) ∧ q ≠ p ∧ H0 q = none ∧ σ = [some v, some (.ref p), some (.ref q), s3, s4, s5, s6]
theorem pr_law_value_text {K : PySem.W.Frag} (vs : List V) (H : Hp) (Q : VK) (E : XK) (h : spLText vs H Q E) : t_law_value_text K (E0N Q) (L2.start ["value", "waits", "found", "one", "done", "item", "parts"] vs) H := by
  obtain ⟨v, d, rfl, hv, ok, hn, q⟩ := h
  have hBL : (1000000 : Nat) < sizeLine := bl_sl (Nat.le_refl BL)
  have lf := @leaf_ok K
  have op := @open_ok K
  have dn := @done_ok K
  unfold t_law_value_text
  unfold y_leaf at lf
  unfold y_open at op
  unfold y_done at dn
  revert lf op dn
  generalize (tDrop (tBM K "list" rAppendM (tVar 2) (tCons (tIf _ _ _) tNil)) : TS) = LF
  generalize (tSeq (tDrop (tBM K "list" rAppendM (tVar 1) _)) (tDrop (tBM K "list" rExtendM (tVar 1) _)) : TS) = OP
  generalize (tSeq (tAsg (tSl rSlM (tVar 2) (tPart _) tNoPart) (gName 6)) _ : TS) = DN
  intro lf op dn
  walk_at "mt"
  refine ⟨by omega, fun t0 ht0 => ⟨by omega, fun p hp => ⟨by omega, fun q0 hq0 => ⟨_, _, ⟨rfl, rfl⟩, ?_⟩⟩⟩⟩
  have n1 : t0 ≠ p := fun z => by rw [← z, upd_same] at hp; cases hp
  have n2 : p ≠ q0 := fun z => by rw [← z, upd_same] at hq0; cases hq0
  have hp0 : H p = none := by rw [upd_ne (Ne.symm n1)] at hp; exact hp
  have n3 : t0 ≠ q0 := fun z => by rw [← z, upd_ne n1, upd_same] at hq0; cases hq0
  have hq00 : H q0 = none := by rw [upd_ne (Ne.symm n2), upd_ne (Ne.symm n3)] at hq0; exact hq0
  have w0 : Wv H (upd (upd (upd H t0 (.tup [v, .bl false])) p (.lst [.ref t0])) q0 (.lst [])) p [t0] [(d, false)] := by
    refine ⟨((same_upd ht0).trans (same_upd hp)).trans (same_upd hq0), hp0, by rw [upd_ne n2, upd_same]; rfl, rfl, fun i t x c h1 h2 => ?_⟩
    match i, h1, h2 with
    | 0, h1, h2 =>
      simp at h1 h2
      obtain ⟨rfl, rfl⟩ := h2
      subst h1
      exact ⟨⟨v, by rw [upd_ne n3, upd_ne n1, upd_same], hv⟩, ok⟩
    | i + 1, h1, h2 => simp at h1
  unfold tWhile
  refine ⟨fun m σ H' => VtI H p v d (nodes d) m σ H', ⟨_, ⟨[t0], [(d, false)], q0, [], none, none, none, none, rfl, by simp [cnt], .item .nil, w0, upd_same, Ne.symm n2, hq00, rfl⟩⟩, ?_⟩
  clear w0
  rintro m σ H' ⟨ts, st, qa, f, s3, s4, s5, s6, rfl, hc, ld, w, hqa, hqp, hqn, rfl⟩
  unfold tB tEqNil tVar
  refine ⟨_, rfl, p, ts.map V.ref, rfl, w.top, _, rfl, ?_⟩
  simp only [↓reduceIte]
  have snoc : ∀ {α : Type} (l : List α), l = [] ∨ ∃ a b, l = a ++ [b] := fun l => by
    by_cases h : l = []
    · exact .inl h
    · exact .inr ⟨l.dropLast, l.getLast h, (List.dropLast_concat_getLast h).symm⟩
  rcases snoc ts with rfl | ⟨tr, t, rfl⟩
  · have hst : st = [] := List.length_eq_zero_iff.mp (by rw [← w.len]; rfl)
    subst hst
    simp only [List.map_nil, List.isEmpty_nil, Bool.not_true, Bool.false_eq_true, ↓reduceIte]
    cases ld with
    | nil =>
      walk_at "mt"
      refine ⟨_, by rw [hqa]; rfl, _, at0, q H' w.s⟩
  · have hl := w.len
    rcases snoc st with rfl | ⟨sr, y, rfl⟩
    · simp at hl
    obtain ⟨x, c⟩ := y
    have hl2 : tr.length = sr.length := by simpa using hl
    obtain ⟨⟨a, ht, ha⟩, okx⟩ := w.prs tr.length t x c (by simp) (by rw [hl2]; simp)
    have ne : (((tr ++ [t]).map V.ref).isEmpty) = false := by simp
    rw [ne]
    simp only [Bool.not_false, ↓reduceIte]
    have top := w.top
    rw [List.map_append] at top
    have htop : H' p = some (.lst (tr.map V.ref ++ [V.ref t])) := top
    have ntp : t ≠ p := fun z => by rw [z, htop] at ht; cases ht
    have w1 : Wv H (upd H' p (.lst (tr.map V.ref))) p tr sr := w.set hl2 fun i u y c2 h1 h2 => by
      have hi : i < tr.length := (List.getElem?_eq_some_iff.mp h1).1
      exact w.prs i u y c2 (by rw [List.getElem?_append_left hi]; exact h1) (by rw [List.getElem?_append_left (by omega)]; exact h2)
    have ht1 : (upd H' p (.lst (tr.map V.ref))) t = some (.tup [a, .bl c]) := by rw [upd_ne ntp]; exact ht
    have hq1 : (upd H' p (.lst (tr.map V.ref))) qa = some (.lst (txs f)) := by rw [upd_ne hqp]; exact hqa
    have tya := (ha.mono w1.s).ty
    rw [List.reverse_append] at ld
    have ld' : Lead (text d) ((x, c) :: sr.reverse) f := ld
    rw [wgt_app]
    rw [cnt_app] at hc
    refine ⟨fun σ' H2 => ∃ m', m' < wgt sr + wgt [(x, c)] ∧ VtI H p v d (nodes d) m' σ' H2, fun σ' H2 z => z, ?_⟩
    generalize hN : (fun (σ' : L2.St) (H2 : Hp) => ∃ m', m' < wgt sr + wgt [(x, c)] ∧ VtI H p v d (nodes d) m' σ' H2) = N
    walk_at "mt"
    refine ⟨tyL htop, _, _, htop, _, rfl, [a, .bl c], .of ht1, rfl, _, _, rfl, _, _, rfl, rfl, x.ty, tya, ?_⟩
    have hsl := cnt_len sr
    have seqx : (x.ty = .lst ∨ x.ty = .tup) → ∃ es, SeqD x es := fun h => by
      cases x with
      | lst es => exact ⟨es, .lst es⟩
      | tup es => exact ⟨es, .tup es⟩
      | _ => simp [D.ty] at h
    have data : ∀ es, SeqD x es → ∃ xa F ya, a = .ref xa ∧ Same F H ∧ RepL F ya es ∧ seqO (H xa) = some ya := fun es sd => by
      obtain ⟨F, sF, r⟩ := ha
      cases sd with
      | lst es => cases r with
        | @lst xa ya _ e1 r1 _ => exact ⟨xa, F, ya, rfl, sF, r1, by rw [sF _ _ e1]; rfl⟩
      | tup es => cases r with
        | @tup xa ya _ e1 r1 _ => exact ⟨xa, F, ya, rfl, sF, r1, by rw [sF _ _ e1]; rfl⟩
    by_cases hsq : x.ty = .lst ∨ x.ty = .tup
    · rw [if_neg (by rcases hsq with h | h <;> simp [h])]
      obtain ⟨es, sd⟩ := seqx hsq
      obtain ⟨xa, F, ya, rfl, sF, ry, hy⟩ := data es sd
      have hnx := sd.nodes
      have hel := nodesL_len es
      cases c with
      | false =>
        refine ⟨_, rfl, ?_⟩
        simp only [Bool.not_false, ↓reduceIte]
        refine op w1 hq1 hqp sd ha sF ry ?_ okx ?_ fun H3 t1 us w3 hq3 => ?_
        · obtain ⟨o, ho⟩ : ∃ o, H xa = some o := by
            cases e : H xa with
            | none => rw [e] at hy; cases hy
            | some o => exact ⟨o, rfl⟩
          rw [w1.s _ _ ho, ← ho]; exact hy
        · have : cnt [(x, false)] = nodes x := by simp [cnt]
          omega
        · subst hN
          refine ⟨_, ?_, ⟨_, _, qa, f, _, _, _, _, rfl, ?_, ?_, w3, hq3, hqp, hqn, rfl⟩⟩
          · rw [wgt_app, wgt_app, List.map_reverse, wgt_rev, wgt_items]
            simp only [wgt]; omega
          · rw [cnt_app, cnt_app, List.map_reverse, cnt_rev, cnt_items]
            simp only [cnt] at hc ⊢; omega
          · rw [List.reverse_append, List.reverse_append, List.map_reverse, List.reverse_reverse]
            exact Lead.open_ sd ld'
      | true =>
        refine ⟨_, rfl, ?_⟩
        simp only [Bool.not_true, Bool.false_eq_true, ↓reduceIte]
        cases ld' with
        | @done _ es2 _ g sd2 hld =>
          have : es2 = es := by cases sd <;> cases sd2 <;> rfl
          subst this
          refine dn hq1 (by simp only [cnt] at hc; omega) sd ?_ ry.length tya okx.2 fun H2 q2 s6' s2 hq2 => ?_
          · obtain ⟨o, ho⟩ : ∃ o, H xa = some o := by
              cases e : H xa with
              | none => rw [e] at hy; cases hy
              | some o => exact ⟨o, rfl⟩
            rw [w1.s _ _ ho, ← ho]; exact hy
          · subst hN
            have q2p : q2 ≠ p := fun z => by rw [z, w1.top] at hq2; cases hq2
            have hq20 : H q2 = none := Same.free w1.s hq2
            have w2 : Wv H (upd H2 q2 (.lst (txs (g ++ [text x])))) p tr sr := by
              have ws := w1.same s2
              refine ⟨fun y o e => by rw [upd_ne (ne_of_none e hq20)]; exact ws.s _ _ e, ws.p0, by rw [upd_ne (Ne.symm q2p)]; exact ws.top, ws.len, fun i u y c h1 h2 => ?_⟩
              obtain ⟨⟨b, h3, h4⟩, h5⟩ := w1.prs i u y c h1 h2
              exact ⟨⟨b, by rw [upd_ne (ne_of_none h3 hq2)]; exact s2 _ _ h3, h4⟩, h5⟩
            refine ⟨_, ?_, ⟨tr, sr, q2, g ++ [text x], _, _, _, _, rfl, ?_, hld, w2, upd_same, q2p, hq20, rfl⟩⟩
            · simp only [wgt]; omega
            · simp only [cnt, List.length_append, List.length_singleton] at hc ⊢; omega
    · rw [if_pos (by simp only [not_or] at hsq; simp [hsq.1, hsq.2])]
      cases ld' with
      | item hld =>
        refine lf hq1 (by omega) (ha.mono w1.s) ⟨fun h => hsq (.inl h), fun h => hsq (.inr h)⟩ okx ?_
        subst hN
        have := nodes_pos x
        refine ⟨_, ?_, ⟨tr, sr, qa, f ++ [text x], _, _, _, _, rfl, ?_, hld, w1.other hq1 hqp hqn, upd_same, hqp, hqn, rfl⟩⟩
        · simp only [wgt]; omega
        · simp only [cnt, List.length_append, List.length_singleton] at hc ⊢; omega
      | done sd _ => exact absurd (by cases sd <;> simp [D.ty]) hsq
end K56
set_option Elab.async false
set_option linter.all false
set_option maxRecDepth 100000
set_option maxHeartbeats 4000000
namespace K56
open PySem PySem.Spec PyProof.Rows L2 MT
open SX (S)
local macro_rules | `(tactic| walk_at "mt") => `(tactic| simp only [L2.start, List.map_cons, List.map_nil, List.length_cons, List.length_nil, List.replicate_succ, List.replicate_zero, Nat.reduceSub, Nat.reduceAdd, Nat.sub_self, Nat.zero_add, List.cons_append, List.nil_append, List.append_nil, List.getElem?_cons_zero, List.getElem?_cons_succ, List.set_cons_zero, List.set_cons_succ, Option.some.injEq, exists_eq_left', exists_eq_left, exists_eq_right, V.bl.injEq, V.int.injEq, V.str.injEq, V.ref.injEq, reduceCtorEq, false_and, and_false, true_and, and_true, false_or, or_false, exists_false, exists_const, ↓reduceIte, Bool.false_eq_true, decide_eq_true_eq, Bool.and_eq_true, Bool.not_true, Bool.not_false, List.cons.injEq, exists_and_left, exists_and_right,
  tRet, tBM, tBM0, tAndV, tOrV, tNotV, tAnd, tOr, tNot, tB, tTest, tIf, tIfS, tC, tVar, tOp, tUn, tChain, rI0, rI, rU, tFn, tCons, tNil, tCB, tTup, tLst, tAsg, gName, tNext, tDrop, tRetN, tPar, tPar3, tAug, tReplC, tRevS, rLenM2, rIsBM, tDNotIn, tDGet, rSumM, rMaxM, rMinM, gSub, rSetL, tRaiseO, tFnW, tXf, gTup, gUnl, gCons, gNil, rPopM, rAppendM, rExtendM, rTupM, rListM, ipI, tIs, tIss, rLenM, rIxM, rAddM, rEqM, rNeM, rSignIn, rInt, rAbs, rStrI, tSl, tPart, tNoPart, rSlM, tIsN, tNotN, List.any_cons, List.any_nil, Bool.or_false, tSeq, isa, D.ty, decide_true, decide_false, Bool.true_or, Bool.or_true, Bool.false_or, Bool.and_true, Bool.true_and, Bool.false_and, Bool.and_false, eq_self_iff_true, not_true_eq_false, not_false_eq_true, bne_self_eq_false])
open KM
/-- the value of a text in a new list, or an empty new list -/
def spRead : Sp := fun vs H Q _ => ∃ (F : Hp) (l : List Nat), vs = [.str (S l)] ∧ Same F H ∧ l.length ≤ 400000 ∧
  (parse 80 l = none → ∀ F' H' a, Grow F H F' H' → H' a = some (.lst []) → Q (.ref a) H') ∧
  ∀ d, parse 80 l = some d → ∀ F' H' a v, Grow F H F' H' → H' a = some (.lst [v]) → Rep F' v d → Q (.ref a) H'
/-- where the reader stands -/
def RS (F H : Hp) (p : Addr) (l : List Nat) (k : Nat) (b : Bool) (H' : Hp) : Prop := ∃ F' fs, SI F H F' H' p fs ∧ Shp k fs ∧ fs.length ≤ 81 ∧ k ≤ l.length ∧
  (b = true → ∃ fr, vw fs = up fr ++ [([], [])] ∧ okF fr ∧ fr.length ≤ 80 ∧ parse 80 l = KM.R 80 fr (l.drop k) true) ∧ (b = false → TlSt l k fs)
def y_ropen (K : PySem.W.Frag) : TS := (tSeq (tDrop (tBM K "list" rAppendM (tVar 1) (tCons (tLst (tCons (tVar 5) (tCons (tLst tNil) tNil))) tNil))) (tSeq (tAsg (tOp rAddM (tVar 2) (tC (.int 1))) (gName 2)) (tSeq (tIfS (tTest (tOp (rI0 fun i j => .bl (decide (j < i))) (tCB rLenM (tCons (tVar 1) tNil)) (tC (.int 81)))) (tRet (tLst tNil)) tNext) (tAsg (tOp rNeM (tSl rSlM (tVar 0) (tPart (tVar 2)) (tPart (tOp rAddM (tVar 2) (tC (.int 1))))) (tDispGet (S [40]) (S [41]) (S [91]) (S [93]) (tVar 5))) (gName 3)))))
theorem ret_nil {F H F' H' : Hp} {l : List Nat} {Q : VK} (g : Grow F H F' H') (hn : parse 80 l = none) (q0 : parse 80 l = none → ∀ F' H' a, Grow F H F' H' → H' a = some (.lst []) → Q (.ref a) H') : ∀ a, H' a = none → Q (.ref a) (upd H' a (.lst [])) := fun a ha =>
  q0 hn F' _ a (g.cell (Same.free g.h ha) (Same.free g.fh ha)) upd_same
theorem _root_.MT.SI.junk {F0 H0 F H : Hp} {p a : Addr} {fs : List Frm} {o : HO} (s : SI F0 H0 F H p fs) (h : H a = none) : SI F0 H0 F (upd H a o) p fs := s.same (same_upd h)
theorem ropen_ok {K : PySem.W.Frag} {F H F' H' : Hp} {p : Addr} {fs : List Frm} {fr : Fr} {l r : List Nat} {k c : Nat} {De : L2.Ends} {s4 s6 s7 s8 s9 : Option V} (hc : c = 40 ∨ c = 91) (hd : l.drop k = c :: r) (hl : l.length ≤ 400000) (si : SI F H F' H' p fs) (sh : Shp k fs)
    (e1 : vw fs = up fr ++ [([], [])]) (ok : okF fr) (hfr : fr.length ≤ 80) (e2 : parse 80 l = KM.R 80 fr (l.drop k) true)
    (q0 : parse 80 l = none → ∀ F' H' a, Grow F H F' H' → H' a = some (.lst []) → De.rt (.ref a) H')
    (nx : ∀ b H2, RS F H p l (k + 1) b H2 → De.nx [some (.str (S l)), some (.ref p), some (.int ((k + 1 : Nat) : Int)), some (.bl b), s4, some (.str (S [c])), s6, s7, s8, s9] H2) :
    y_ropen K De [some (.str (S l)), some (.ref p), some (.int (k : Int)), some (.bl true), s4, some (.str (S [c])), s6, s7, s8, s9] H' := by
  have hsl : (1000000 : Nat) < sizeLine := bl_sl (Nat.le_refl BL)
  have hlt : k < l.length := by
    have := congrArg List.length hd
    rw [List.length_drop] at this
    simp at this
    omega
  have hr : l.drop (k + 1) = r := by rw [← List.drop_drop, hd]; rfl
  have hlen : fs.length = fr.length + 1 := by rw [← vw_len, e1]; simp [up]
  have hst : List.length fs ≤ 81 := by omega
  unfold y_ropen
  walk_at "mt"
  refine ⟨tyL si.top, by omega, fun i2 hi2 => ⟨by omega, fun a2 ha2 => ⟨fs.reverse.map fun f => V.ref f.a, ?_, ?_, ?_⟩⟩⟩
  · have n1 : p ≠ i2 := fun z => by rw [← z, si.top] at hi2; cases hi2
    have n2 : p ≠ a2 := fun z => by rw [← z, upd_ne n1, si.top] at ha2; cases ha2
    rw [upd_ne n2, upd_ne n1]
    exact si.top
  · rw [List.length_map, List.length_reverse]; omega
  · have si3 := si.push (sg := [c]) hi2 ha2
    have ek : ((k : Int) + 1) = ((k + 1 : Nat) : Int) := by omega
    rw [ek]
    revert si3
    generalize upd (upd (upd H' i2 (.lst [])) a2 (.lst [.str (S [c]), .ref i2])) p (.lst ((fs.reverse.map fun f => V.ref f.a) ++ [.ref a2])) = H3
    intro si3
    have sh3 : Shp (k + 1) (⟨a2, i2, [c], []⟩ :: fs) := by
      have sh2 := sh.mono (Nat.le_succ k)
      cases fs with
      | nil => exact sh.elim
      | cons f fs => exact ⟨by rcases hc with rfl | rfl <;> simp, Nat.zero_le _, sh2⟩
    have ok3 : okF ((c, []) :: fr) := fun x hx => by
      rcases List.mem_cons.mp hx with rfl | hx
      · exact hc
      · exact ok x hx
    have e3 : vw (⟨a2, i2, [c], []⟩ :: fs) = up ((c, []) :: fr) ++ [([], [])] := by
      show ([c], []) :: vw fs = _
      rw [e1]; rfl
    rw [hd, R_open hc] at e2
    rw [si3.top]
    refine ⟨_, rfl, ?_⟩
    rw [List.length_map, List.length_reverse]
    by_cases h80 : 80 ≤ fr.length
    · rw [if_pos (by simp; omega)]
      rw [if_pos h80] at e2
      exact ⟨by omega, ret_nil si3.g e2 q0⟩
    · rw [if_neg (by simp; omega)]
      rw [if_neg h80] at e2
      unfold tDispGet
      walk_at "mt"
      refine ⟨by rw [Sl]; omega, fun q hq => ⟨V.str (S [closer c]), dget2 upd_same ?_, ?_⟩⟩
      · rcases hc with rfl | rfl
        · exact .inl ⟨rfl, rfl⟩
        · exact .inr ⟨(fun z => by cases SX.S_inj z), rfl, rfl⟩
      · rw [cutN (k := 1) (by omega)]
        have si4 := si3.junk (o := .dK (dv2 (S [40]) (S [41]) (S [91]) (S [93]))) hq
        refine nx _ _ ⟨_, _, si4, sh3, by simp; omega, by omega, fun hb => ⟨_, e3, ok3, by simp; omega, ?_⟩, fun hb => .inr ⟨c, [], fr, e3, ok3, by omega, ?_⟩⟩
        · have hb' : (l.drop (k + 1)).head? ≠ some (closer c) := fun z => by
            rw [head_take.mp z] at hb
            simp at hb
          rw [e2, hr, decide_eq_true (by rw [← hr]; exact hb')]
        · have hb' : (l.drop (k + 1)).head? = some (closer c) := by
            refine head_take.mpr (SX.S_inj ?_)
            simpa using hb
          rw [e2, hr, decide_eq_false (by rw [← hr]; simpa using hb')]
end K56
set_option Elab.async false
set_option linter.all false
set_option maxRecDepth 100000
set_option maxHeartbeats 4000000
namespace K56
open PySem PySem.Spec PyProof.Rows L2 MT
open SX (S)
local macro_rules | `(tactic| walk_at "mt") => `(tactic| simp only [L2.start, List.map_cons, List.map_nil, List.length_cons, List.length_nil, List.replicate_succ, List.replicate_zero, Nat.reduceSub, Nat.reduceAdd, Nat.sub_self, Nat.zero_add, List.cons_append, List.nil_append, List.append_nil, List.getElem?_cons_zero, List.getElem?_cons_succ, List.set_cons_zero, List.set_cons_succ, Option.some.injEq, exists_eq_left', exists_eq_left, exists_eq_right, V.bl.injEq, V.int.injEq, V.str.injEq, V.ref.injEq, reduceCtorEq, false_and, and_false, true_and, and_true, false_or, or_false, exists_false, exists_const, ↓reduceIte, Bool.false_eq_true, decide_eq_true_eq, Bool.and_eq_true, Bool.not_true, Bool.not_false, List.cons.injEq, exists_and_left, exists_and_right,
  tRet, tBM, tBM0, tAndV, tOrV, tNotV, tAnd, tOr, tNot, tB, tTest, tIf, tIfS, tC, tVar, tOp, tUn, tChain, rI0, rI, rU, tFn, tCons, tNil, tCB, tTup, tLst, tAsg, gName, tNext, tDrop, tRetN, tPar, tPar3, tAug, tReplC, tRevS, rLenM2, rIsBM, tDNotIn, tDGet, rSumM, rMaxM, rMinM, gSub, rSetL, tRaiseO, tFnW, tXf, gTup, gUnl, gCons, gNil, rPopM, rAppendM, rExtendM, rTupM, rListM, ipI, tIs, tIss, rLenM, rIxM, rAddM, rEqM, rNeM, rSignIn, rInt, rAbs, rStrI, tSl, tPart, tNoPart, rSlM, tIsN, tNotN, List.any_cons, List.any_nil, Bool.or_false, tSeq, isa, D.ty, decide_true, decide_false, Bool.true_or, Bool.or_true, Bool.false_or, Bool.and_true, Bool.true_and, Bool.false_and, Bool.and_false, eq_self_iff_true, not_true_eq_false, not_false_eq_true, bne_self_eq_false])
open KM
def y_ritem (K : PySem.W.Frag) : TS := (tSeq (tAsg (tVar 2) (gName 6)) (tSeq (tWhile (tAnd (tTest (tOp (rI0 fun i j => .bl (decide (i < j))) (tVar 6) (tCB rLenM (tCons (tVar 0) tNil)))) (tTest (tOp (rSignIn true) (tOp rIxM (tVar 0) (tVar 6)) (tC (.str (S [40, 41, 91, 93, 44, 32])))))) (tAsg (tOp rAddM (tVar 6) (tC (.int 1))) (gName 6))) (tSeq (tAsg (tFn spItem (tCons (tSl rSlM (tVar 0) (tPart (tVar 2)) (tPart (tVar 6))) tNil)) (gName 7)) (tSeq (tIfS (tB (tEqNil false (tVar 7))) (tRet (tLst tNil)) tNext) (tSeq (tDrop (tBM K "list" rAppendM (tOp rIxM (tOp rIxM (tVar 1) (tUn (rU fun i => .int (-i)) (tC (.int 1)))) (tC (.int 1))) (tCons (tOp rIxM (tVar 7) (tC (.int 0))) tNil))) (tPar 2 3 (tCons (tVar 6) (tCons (tC (.bl false)) tNil))))))))
theorem ritem_ok {K : PySem.W.Frag} {F H F' H' : Hp} {p : Addr} {fs : List Frm} {fr : Fr} {l : List Nat} {k : Nat} {De : L2.Ends} {s4 s5 s6 s7 s8 s9 : Option V} (hno : ∀ c r, l.drop k = c :: r → ¬ (c = 40 ∨ c = 91)) (hl : l.length ≤ 400000) (hk : k ≤ l.length) (si : SI F H F' H' p fs) (sh : Shp k fs)
    (e1 : vw fs = up fr ++ [([], [])]) (ok : okF fr) (hfr : fr.length ≤ 80) (e2 : parse 80 l = KM.R 80 fr (l.drop k) true)
    (q0 : parse 80 l = none → ∀ F' H' a, Grow F H F' H' → H' a = some (.lst []) → De.rt (.ref a) H')
    (nx : ∀ k2 H2 x6 x7, k < k2 → RS F H p l k2 false H2 → De.nx [some (.str (S l)), some (.ref p), some (.int (k2 : Int)), some (.bl false), s4, s5, x6, x7, s8, s9] H2) :
    y_ritem K De [some (.str (S l)), some (.ref p), some (.int (k : Int)), some (.bl true), s4, s5, s6, s7, s8, s9] H' := by
  have hsl : (1000000 : Nat) < sizeLine := bl_sl (Nat.le_refl BL)
  have hlen : fs.length = fr.length + 1 := by rw [← vw_len, e1]; simp [up]
  have hw : (word (l.drop k)).length ≤ l.length - k := by
    have := word_le (l.drop k)
    rw [List.length_drop] at this
    exact this
  have pn : itemOf (word (l.drop k)) = none → parse 80 l = none := fun z => by
    rw [e2]
    cases hd : l.drop k with
    | nil => exact R_nil
    | cons c r => rw [R_item (hno c r hd), ← hd, z]
  have hcut : ∀ j : Nat, j = (word (l.drop k)).length → cutS (S l) (some (k : Int)) (some ((k + j : Nat) : Int)) = S (word (l.drop k)) := fun j ej => by
    rw [cutN (k := j) (by omega), ej, word_take]
  have fin : (tSeq (tAsg (tFn spItem (tCons (tSl rSlM (tVar 0) (tPart (tVar 2)) (tPart (tVar 6))) tNil)) (gName 7)) (tSeq (tIfS (tB (tEqNil false (tVar 7))) (tRet (tLst tNil)) tNext) (tSeq (tDrop (tBM K "list" rAppendM (tOp rIxM (tOp rIxM (tVar 1) (tUn (rU fun i => .int (-i)) (tC (.int 1)))) (tC (.int 1))) (tCons (tOp rIxM (tVar 7) (tC (.int 0))) tNil))) (tPar 2 3 (tCons (tVar 6) (tCons (tC (.bl false)) tNil)))))) De
      [some (.str (S l)), some (.ref p), some (.int (k : Int)), some (.bl true), s4, s5, some (.int ((k + (word (l.drop k)).length : Nat) : Int)), s7, s8, s9] H' := by
    walk_at "mt"
    refine ⟨by rw [Sl]; omega, ?_⟩
    rw [hcut _ rfl]
    refine ⟨_, rfl, by show _ ≤ 1000000; omega, fun d v H2 a hd hv s ha => ?_, fun hn H2 a s ha => ?_⟩
    · unfold tEqNil
      walk_at "mt"
      refine ⟨[v], upd_same, ?_⟩
      simp only [List.isEmpty_cons, Bool.false_eq_true, ↓reduceIte]
      have si2 := (si.same s).junk (o := .lst [v]) ha
      have hwp := word_pos hd
      obtain ⟨v2, hv2, hrep⟩ := item_flat hd (by show _ ≤ 1000000; omega)
      rw [hv] at hv2
      cases hv2
      have pG : parse 80 l = G 80 d fr (l.drop (k + (word (l.drop k)).length)) := by
        rw [e2, ← List.drop_drop]
        revert hd hno
        cases l.drop k with
        | nil => intro hno hd; cases hd
        | cons c r => intro hno hd; rw [R_item (hno c r rfl), hd]
      cases fs with
      | nil => exact sh.elim
      | cons f fs' =>
      obtain ⟨fa, _⟩ := si2.fr f List.mem_cons_self
      obtain ⟨xs, fi, rx, hxl⟩ := si2.lst
      have haf : a ≠ f.i := fun z => by
        obtain ⟨ys, gi, _⟩ := (si.same s).lst
        rw [← z, ha] at gi; cases gi
      refine ⟨_, by rw [si2.top]; rfl, V.ref f.a, ?_, ?_⟩
      · rw [List.reverse_cons, List.map_append]
        exact atI_last _ _
      dsimp only
      refine ⟨_, by rw [fa]; rfl, V.ref f.i, at1, tyL fi, _, by rw [upd_same]; rfl, v, at0, ?_⟩
      dsimp only
      have hfl := sh.len
      refine ⟨xs, fi, by omega, _, _, ⟨rfl, rfl⟩, ?_⟩
      have si3 := si2.add (hrep F') fi
      have sh3 := (sh.add (d := d)).mono (k' := k + (word (l.drop k)).length) (by omega)
      refine nx _ _ _ _ (by omega) ⟨_, _, si3, sh3, by simp at hlen ⊢; omega, by omega, (fun z => by cases z), fun _ => ?_⟩
      cases fr with
      | nil =>
        simp only [vw, up, List.map_cons, List.map_nil, List.nil_append, List.cons.injEq, Prod.mk.injEq] at e1
        refine .inl ⟨d, ?_, pG⟩
        simp only [vw, List.map_cons, e1.1.1, e1.1.2, e1.2, List.nil_append]
      | cons g q =>
        obtain ⟨kk, ds⟩ := g
        simp only [vw, up, List.map_cons, List.cons_append, List.cons.injEq, Prod.mk.injEq] at e1
        refine .inr ⟨kk, ds ++ [d], q, ?_, ?_, by simpa using hfr, pG⟩
        · simp only [vw, up, List.map_cons, List.cons_append, e1.1.1, e1.1.2, e1.2]
        · intro x hx
          rcases List.mem_cons.mp hx with rfl | hx
          · exact ok (kk, ds) List.mem_cons_self
          · exact ok x (List.mem_cons_of_mem _ hx)
    · unfold tEqNil
      walk_at "mt"
      refine ⟨[], upd_same, ?_⟩
      simp only [List.isEmpty_nil, ↓reduceIte]
      exact ⟨by omega, ret_nil ((si.same s).junk ha).g (pn hn) q0⟩
  unfold y_ritem
  revert fin
  generalize (tSeq (tAsg (tFn spItem (tCons (tSl rSlM (tVar 0) (tPart (tVar 2)) (tPart (tVar 6))) tNil)) (gName 7)) _) = T
  intro fin
  walk_at "mt"
  unfold tWhile
  refine ⟨fun m σ H2 => ∃ j, m = (word (l.drop k)).length - j ∧ j ≤ (word (l.drop k)).length ∧ σ = [some (.str (S l)), some (.ref p), some (.int (k : Int)), some (.bl true), s4, s5, some (.int ((k + j : Nat) : Int)), s7, s8, s9] ∧ H2 = H', ⟨_, 0, rfl, Nat.zero_le _, rfl, rfl⟩, ?_⟩
  rintro m σ H2 ⟨j, rfl, hj, rfl, rfl⟩
  walk_at "mt"
  rw [Sl]
  refine ⟨by omega, ?_⟩
  by_cases hjw : j < (word (l.drop k)).length
  · obtain ⟨c, hc, hn⟩ := (word_at hj).mp hjw
    have hlt : k + j < l.length := (List.getElem?_eq_some_iff.mp hc).1
    rw [if_pos (by omega)]
    refine ⟨by omega, c, signAt hc, c, rfl, ?_⟩
    rw [if_pos (by simpa [nd, delims] using hn)]
    exact ⟨fun σ' H1 => σ' = [some (.str (S l)), some (.ref p), some (.int (k : Int)), some (.bl true), s4, s5, some (.int ((k + (j + 1) : Nat) : Int)), s7, s8, s9] ∧ H1 = H2, fun σ' H1 z => ⟨_, by omega, j + 1, rfl, by omega, z.1, z.2⟩, by
      refine ⟨?_, rfl⟩
      have : ((k + j : Nat) : Int) + 1 = ((k + (j + 1) : Nat) : Int) := by omega
      rw [this]⟩
  · have ej : j = (word (l.drop k)).length := by omega
    by_cases hlt : k + j < l.length
    · obtain ⟨c, hc⟩ : ∃ c, l[k + j]? = some c := ⟨_, List.getElem?_eq_getElem hlt⟩
      have hn : ¬ nd c = true := fun z => hjw ((word_at hj).mpr ⟨c, hc, z⟩)
      rw [if_pos (by omega)]
      refine ⟨by omega, c, signAt hc, c, rfl, ?_⟩
      rw [if_neg (by simpa [nd, delims] using hn)]
      rw [ej]
      exact fin
    · rw [if_neg (by omega)]
      rw [ej]
      exact fin
end K56
set_option Elab.async false
set_option linter.all false
set_option maxRecDepth 100000
set_option maxHeartbeats 4000000
namespace K56
open PySem PySem.Spec PyProof.Rows L2 MT
open SX (S)
local macro_rules | `(tactic| walk_at "mt") => `(tactic| simp only [L2.start, List.map_cons, List.map_nil, List.length_cons, List.length_nil, List.replicate_succ, List.replicate_zero, Nat.reduceSub, Nat.reduceAdd, Nat.sub_self, Nat.zero_add, List.cons_append, List.nil_append, List.append_nil, List.getElem?_cons_zero, List.getElem?_cons_succ, List.set_cons_zero, List.set_cons_succ, Option.some.injEq, exists_eq_left', exists_eq_left, exists_eq_right, V.bl.injEq, V.int.injEq, V.str.injEq, V.ref.injEq, reduceCtorEq, false_and, and_false, true_and, and_true, false_or, or_false, exists_false, exists_const, ↓reduceIte, Bool.false_eq_true, decide_eq_true_eq, Bool.and_eq_true, Bool.not_true, Bool.not_false, List.cons.injEq, exists_and_left, exists_and_right,
  tRet, tBM, tBM0, tAndV, tOrV, tNotV, tAnd, tOr, tNot, tB, tTest, tIf, tIfS, tC, tVar, tOp, tUn, tChain, rI0, rI, rU, tFn, tCons, tNil, tCB, tTup, tLst, tAsg, gName, tNext, tDrop, tRetN, tPar, tPar3, tAug, tReplC, tRevS, rLenM2, rIsBM, tDNotIn, tDGet, rSumM, rMaxM, rMinM, gSub, rSetL, tRaiseO, tFnW, tXf, gTup, gUnl, gCons, gNil, rPopM, rAppendM, rExtendM, rTupM, rListM, ipI, tIs, tIss, rLenM, rIxM, rAddM, rEqM, rNeM, rSignIn, rInt, rAbs, rStrI, tSl, tPart, tNoPart, rSlM, tIsN, tNotN, List.any_cons, List.any_nil, Bool.or_false, tSeq, isa, D.ty, decide_true, decide_false, Bool.true_or, Bool.or_true, Bool.false_or, Bool.and_true, Bool.true_and, Bool.false_and, Bool.and_false, eq_self_iff_true, not_true_eq_false, not_false_eq_true, bne_self_eq_false])
open KM
def y_rclose (K : PySem.W.Frag) : TS := (tSeq (tAsg (tBM0 K "list" rPopM (tVar 1)) (gUnl K 2 (gCons (gName 8) (gCons (gName 9) gNil)))) (tSeq (tDrop (tBM K "list" rAppendM (tOp rIxM (tOp rIxM (tVar 1) (tUn (rU fun i => .int (-i)) (tC (.int 1)))) (tC (.int 1))) (tCons (tIf (tTest (tOp rEqM (tVar 8) (tC (.str (S [40]))))) (tCB rTupM (tCons (tVar 9) tNil)) (tVar 9)) tNil))) (tAsg (tOp rAddM (tVar 2) (tC (.int 1))) (gName 2))))
theorem rclose_ok {K : PySem.W.Frag} {F0 H0 F H : Hp} {p : Addr} {f g : Frm} {fs : List Frm} {k : Nat} {De : L2.Ends} {tx s3 s4 s5 s6 s7 x y : Option V} (si : SI F0 H0 F H p (f :: g :: fs)) (sh : Shp k (f :: g :: fs)) (hk : k ≤ BL)
    (nx : ∀ F' H' u v, SI F0 H0 F' H' p ({ g with ds := g.ds ++ [mkF f.sg f.ds] } :: fs) → De.nx [tx, some (.ref p), some (.int ((k + 1 : Nat) : Int)), s3, s4, s5, s6, s7, u, v] H') :
    y_rclose K De [tx, some (.ref p), some (.int (k : Int)), s3, s4, s5, s6, s7, x, y] H := by
  obtain ⟨s1, fa, ⟨xs, fi, rx⟩, np, nip, Fi, H0i, nfs⟩ := si.pop
  unfold y_rclose
  walk_at "mt"
  have top : H p = some (.lst (((g :: fs).reverse.map fun f => V.ref f.a) ++ [.ref f.a])) := by rw [si.top, List.reverse_cons, List.map_append]; rfl
  refine ⟨tyL top, _, _, top, _, rfl, [.str (S f.sg), .ref f.i], .of (by rw [upd_ne np]; exact fa), rfl, _, _, rfl, _, _, rfl, rfl, ?_⟩
  rw [upd_same]
  refine ⟨_, rfl, V.ref g.a, ?_, ?_⟩
  · rw [List.reverse_cons, List.map_append]
    exact atI_last _ _
  dsimp only
  have fi1 : upd H p (.lst ((g :: fs).reverse.map fun f => V.ref f.a)) f.i = some (.lst xs) := by rw [upd_ne nip]; exact fi
  revert s1 fi1
  generalize upd H p (.lst ((g :: fs).reverse.map fun f => V.ref f.a)) = H1
  intro s1 fi1
  obtain ⟨ga, _⟩ := s1.fr g List.mem_cons_self
  obtain ⟨ys, gi, ry, hyl⟩ := s1.lst
  have hsh : f.ds.length ≤ k ∧ g.ds.length ≤ k := ⟨sh.len, sh.2.2.len⟩
  have hBL := bl_sl (Nat.le_refl BL)
  refine ⟨_, by rw [ga]; rfl, V.ref g.i, at1, tyL gi, ?_⟩
  have ek : ((k : Int) + 1) = ((k + 1 : Nat) : Int) := by omega
  rw [ek]
  by_cases e : f.sg = [40]
  · rw [if_pos (by rw [e])]
    dsimp only
    rw [fi1]
    dsimp only
    intro t ht
    have s2 := s1.grow ((Grow.refl s1.g.fh).new (o := .tup xs) ht)
    have gi2 : upd H1 t (.tup xs) g.i = some (.lst ys) := by rw [upd_ne (ne_of_none gi ht)]; exact gi
    have rt : Rep (upd F t (.tup xs)) (.ref t) (mkF f.sg f.ds) := by
      unfold mkF
      rw [if_pos e]
      exact .tup upd_same (rx.mono (same_upd (Same.free s1.g.fh ht))) (by omega)
    have s3 := s2.add rt gi2
    exact ⟨ys, gi2, by omega, nx _ _ _ _ s3⟩
  · rw [if_neg (fun z => e (SX.S_inj z))]
    have s2 := s1.frz fi1 H0i Fi nip nfs
    have rt : Rep (upd F f.i (.lst xs)) (.ref f.i) (mkF f.sg f.ds) := by
      unfold mkF
      rw [if_neg e]
      exact .lst upd_same (rx.mono (same_upd Fi)) (by omega)
    have s3 := s2.add rt gi
    exact ⟨ys, gi, by omega, nx _ _ _ _ s3⟩
def y_relse (K : PySem.W.Frag) : TS := (tRet (tIf (tAnd (tTest (tOp rEqM (tCB rLenM (tCons (tVar 1) tNil)) (tC (.int 1)))) (tAnd (tTest (tOp rEqM (tVar 2) (tCB rLenM (tCons (tVar 0) tNil)))) (tTest (tOp rEqM (tCB rLenM (tCons (tOp rIxM (tOp rIxM (tVar 1) (tC (.int 0))) (tC (.int 1))) tNil)) (tC (.int 1)))))) (tLst (tCons (tOp rIxM (tOp rIxM (tOp rIxM (tVar 1) (tC (.int 0))) (tC (.int 1))) (tC (.int 0))) tNil)) (tLst tNil)))
theorem relse_one {K : PySem.W.Frag} {F H F' H' : Hp} {p : Addr} {f : Frm} {l : List Nat} {k : Nat} {d : D} {De : L2.Ends} {s3 s4 s5 s6 s7 s8 s9 : Option V} (hl : l.length ≤ 400000) (si : SI F H F' H' p [f]) (e4 : f.ds = [d]) (e2 : parse 80 l = if l.drop k = [] then some d else none) (hk : k ≤ l.length)
    (q0 : parse 80 l = none → ∀ F' H' a, Grow F H F' H' → H' a = some (.lst []) → De.rt (.ref a) H')
    (q1 : ∀ d, parse 80 l = some d → ∀ F' H' a v, Grow F H F' H' → H' a = some (.lst [v]) → Rep F' v d → De.rt (.ref a) H') :
    y_relse K De [some (.str (S l)), some (.ref p), some (.int (k : Int)), s3, s4, s5, s6, s7, s8, s9] H' := by
  have hsl : (1000000 : Nat) < sizeLine := bl_sl (Nat.le_refl BL)
  obtain ⟨fa, _⟩ := si.fr f List.mem_cons_self
  obtain ⟨xs, fi, rx, _⟩ := si.lst
  have top : H' p = some (.lst [.ref f.a]) := si.top
  rw [e4] at rx
  cases rx with
  | cons rv rn =>
    cases rn
    unfold y_relse
    walk_at "mt"
    refine ⟨_, by rw [top]; rfl, ?_⟩
    simp only [List.length_cons, List.length_nil, Nat.zero_add, Int.natCast_one, ↓reduceIte]
    rw [Sl]
    refine ⟨by omega, ?_⟩
    by_cases hend : (k : Int) = (l.length : Int)
    · rw [if_pos hend]
      refine ⟨_, by rw [top]; rfl, _, at0, ?_⟩
      dsimp only
      refine ⟨_, by rw [fa]; rfl, _, at1, ?_⟩
      dsimp only
      refine ⟨_, by rw [fi]; rfl, ?_⟩
      simp only [List.length_cons, List.length_nil, Nat.zero_add, Int.natCast_one, ↓reduceIte]
      refine ⟨_, by rw [top]; rfl, _, at0, ?_⟩
      dsimp only
      refine ⟨_, by rw [fa]; rfl, _, at1, ?_⟩
      dsimp only
      refine ⟨_, by rw [fi]; rfl, _, at0, by omega, fun a ha => ?_⟩
      have : l.drop k = [] := List.drop_of_length_le (by omega)
      rw [if_pos this] at e2
      exact q1 d e2 _ _ a _ (si.g.cell (Same.free si.g.h ha) (Same.free si.g.fh ha)) upd_same rv
    · rw [if_neg hend]
      have : ¬ l.drop k = [] := fun z => hend (by have := List.drop_eq_nil_iff.mp z; omega)
      rw [if_neg this] at e2
      exact ⟨by omega, ret_nil si.g e2 q0⟩
theorem relse_more {K : PySem.W.Frag} {F H F' H' : Hp} {p : Addr} {fs : List Frm} {l : List Nat} {De : L2.Ends} {s0 s2 s3 s4 s5 s6 s7 s8 s9 : Option V} (si : SI F H F' H' p fs) (h2 : 2 ≤ fs.length) (hn : parse 80 l = none)
    (q0 : parse 80 l = none → ∀ F' H' a, Grow F H F' H' → H' a = some (.lst []) → De.rt (.ref a) H') :
    y_relse K De [s0, some (.ref p), s2, s3, s4, s5, s6, s7, s8, s9] H' := by
  have hsl : (1000000 : Nat) < sizeLine := bl_sl (Nat.le_refl BL)
  unfold y_relse
  walk_at "mt"
  refine ⟨_, by rw [si.top]; rfl, ?_⟩
  rw [List.length_map, List.length_reverse, if_neg (by omega)]
  exact ⟨by omega, ret_nil si.g hn q0⟩
def y_rtail (K : PySem.W.Frag) : TS := (tIfS (tAnd (tTest (tOp (rI0 fun i j => .bl (decide (j < i))) (tCB rLenM (tCons (tVar 1) tNil)) (tC (.int 1)))) (tTest (tOp rEqM (tVar 5) (tDispGet (S [40]) (S [41]) (S [91]) (S [93]) (tOp rIxM (tOp rIxM (tVar 1) (tUn (rU fun i => .int (-i)) (tC (.int 1)))) (tC (.int 0))))))) (y_rclose K) (tIfS (tAnd (tTest (tOp (rI0 fun i j => .bl (decide (j < i))) (tCB rLenM (tCons (tVar 1) tNil)) (tC (.int 1)))) (tTest (tOp rEqM (tSl rSlM (tVar 0) (tPart (tVar 2)) (tPart (tOp rAddM (tVar 2) (tC (.int 2))))) (tC (.str (S [44, 32])))))) (tPar 2 3 (tCons (tOp rAddM (tVar 2) (tC (.int 2))) (tCons (tC (.bl true)) tNil))) (y_relse K)))
theorem rtail_ok {K : PySem.W.Frag} {F H F' H' : Hp} {p : Addr} {fs : List Frm} {l : List Nat} {k : Nat} {De : L2.Ends} {s4 s6 s7 s8 s9 : Option V} (hl : l.length ≤ 400000) (hk : k ≤ l.length) (si : SI F H F' H' p fs) (sh : Shp k fs) (h81 : fs.length ≤ 81) (st : TlSt l k fs)
    (q0 : parse 80 l = none → ∀ F' H' a, Grow F H F' H' → H' a = some (.lst []) → De.rt (.ref a) H')
    (q1 : ∀ d, parse 80 l = some d → ∀ F' H' a v, Grow F H F' H' → H' a = some (.lst [v]) → Rep F' v d → De.rt (.ref a) H')
    (nx : ∀ k2 b H2 x6 x7 x8 x9, k < k2 → RS F H p l k2 b H2 → De.nx [some (.str (S l)), some (.ref p), some (.int (k2 : Int)), some (.bl b), s4, some (.str (S ((l.drop k).take 1))), x6, x7, x8, x9] H2) :
    y_rtail K De [some (.str (S l)), some (.ref p), some (.int (k : Int)), some (.bl false), s4, some (.str (S ((l.drop k).take 1))), s6, s7, s8, s9] H' := by
  have hsl : (1000000 : Nat) < sizeLine := bl_sl (Nat.le_refl BL)
  have cl := @rclose_ok K
  unfold y_rtail
  revert cl
  generalize y_rclose K = CL
  intro cl
  have el1 := @relse_one K
  have el2 := @relse_more K
  revert el1 el2
  generalize y_relse K = EL
  intro el1 el2
  walk_at "mt"
  rw [si.top]
  refine ⟨_, rfl, ?_⟩
  rw [List.length_map, List.length_reverse]
  rcases st with ⟨d, e1, e2⟩ | ⟨kk, ds, q, e1, ok, hq, e2⟩
  · have hlen : fs.length = 1 := by rw [← vw_len, e1]; rfl
    obtain ⟨f, rfl⟩ : ∃ f, fs = [f] := by
      match fs, hlen with
      | [f], _ => exact ⟨f, rfl⟩
    have e4 : f.ds = [d] := by
      have := e1
      simp [vw] at this
      exact this.2
    rw [if_neg (by simp)]
    refine ⟨_, rfl, ?_⟩
    rw [if_neg (by simp)]
    exact el1 hl si e4 e2 hk q0 q1
  · have hlen : fs.length = q.length + 2 := by rw [← vw_len, e1]; simp [up]
    match fs, hlen, si, sh, e1 with
    | f :: g :: fs, hlen, si, sh, e1 =>
      obtain ⟨fa, _⟩ := si.fr f List.mem_cons_self
      have hsg : f.sg = [kk] ∧ f.ds = ds := by
        simp only [vw, up, List.map_cons, List.cons_append, List.cons.injEq, Prod.mk.injEq] at e1
        exact e1.1
      have hkk := ok (kk, ds) List.mem_cons_self
      rw [if_pos (by simp; omega)]
      unfold tDispGet
      walk_at "mt"
      intro t ht
      have si2 := si.junk (o := .dK (dv2 (S [40]) (S [41]) (S [91]) (S [93]))) ht
      have dg : DGet (upd H' t (.dK (dv2 (S [40]) (S [41]) (S [91]) (S [93])))) t (.str (S [kk])) (some (.str (S [closer kk]))) := dget2 upd_same (by
        rcases hkk with rfl | rfl
        · exact .inl ⟨rfl, rfl⟩
        · exact .inr ⟨(fun z => by cases SX.S_inj z), rfl, rfl⟩)
      revert si2 dg
      generalize upd H' t (.dK (dv2 (S [40]) (S [41]) (S [91]) (S [93]))) = H2
      intro si2 dg
      obtain ⟨fa2, _⟩ := si2.fr f List.mem_cons_self
      refine ⟨_, by rw [si2.top]; rfl, V.ref f.a, ?_, ?_⟩
      · rw [List.reverse_cons, List.map_append]
        exact atI_last _ _
      dsimp only
      refine ⟨_, by rw [fa2]; rfl, .str (S f.sg), at0, ?_⟩
      rw [hsg.1]
      refine ⟨.str (S [closer kk]), dg, ?_⟩
      dsimp only
      by_cases hh : (l.drop k).head? = some (closer kk)
      · have ht1 := head_take.mp hh
        have hlt : k < l.length := by
          by_cases hlt : k < l.length
          · exact hlt
          · rw [List.drop_of_length_le (by omega)] at hh; cases hh
        obtain ⟨r, hd⟩ : ∃ r, l.drop k = closer kk :: r := by
          cases hd : l.drop k with
          | nil => rw [hd] at hh; cases hh
          | cons c r => rw [hd] at hh; simp at hh; exact ⟨r, by rw [hh]⟩
        have hr : l.drop (k + 1) = r := by rw [← List.drop_drop, hd]; rfl
        rw [if_pos (by rw [ht1])]
        refine cl si2 sh (by show k ≤ 1000000; omega) fun F3 H3 u v si3 => ?_
        have ed : mkF f.sg f.ds = mkC kk ds := by rw [hsg.1, hsg.2, mk_eq]
        rw [ed] at si3
        have sh3 : Shp (k + 1) ({ g with ds := g.ds ++ [mkC kk ds] } :: fs) := sh.2.2.add
        refine nx _ _ _ _ _ _ _ (Nat.lt_succ_self k) ⟨_, _, si3, sh3, by simp at h81 ⊢; omega, by omega, (fun z => by cases z), fun _ => ?_⟩
        rw [hd, R_close] at e2
        cases q with
        | nil =>
          simp only [vw, up, List.map_cons, List.map_nil, List.nil_append, List.cons_append, List.cons.injEq, Prod.mk.injEq] at e1
          refine .inl ⟨mkC kk ds, ?_, ?_⟩
          · simp only [vw, List.map_cons, e1.2.1.1, e1.2.1.2, e1.2.2, List.nil_append]
          · rw [e2, hr]; rfl
        | cons g2 q2 =>
          obtain ⟨k2, ds2⟩ := g2
          simp only [vw, up, List.map_cons, List.cons_append, List.cons.injEq, Prod.mk.injEq] at e1
          refine .inr ⟨k2, ds2 ++ [mkC kk ds], q2, ?_, ?_, by simp at hq; omega, by rw [e2, hr]; rfl⟩
          · simp only [vw, up, List.map_cons, List.cons_append, e1.2.1.1, e1.2.1.2, e1.2.2]
          · intro x hx
            rcases List.mem_cons.mp hx with rfl | hx
            · exact ok (k2, ds2) (by simp)
            · exact ok x (by simp [hx])
      · have hne : ¬ (S ((l.drop k).take 1) = S [closer kk]) := fun z => hh (head_take.mpr (SX.S_inj z))
        rw [if_neg hne]
        rw [si2.top]
        refine ⟨_, rfl, ?_⟩
        rw [List.length_map, List.length_reverse]
        rw [if_pos (by simp; omega), Sl]
        refine ⟨by omega, ?_⟩
        rw [cutN (k := 2) (by omega)]
        by_cases h2 : (l.drop k).take 2 = [44, 32]
        · rw [if_pos (by rw [h2])]
          have hlt : k + 2 ≤ l.length := by
            have := congrArg List.length h2
            rw [List.length_take, List.length_drop] at this
            simp at this
            omega
          have ek : ((k : Int) + 2) = ((k + 2 : Nat) : Int) := by omega
          rw [ek]
          refine ⟨_, _, ⟨rfl, rfl⟩, ?_⟩
          refine nx _ _ _ _ _ _ _ (by omega) ⟨_, _, si2, sh.mono (by omega), by omega, hlt, fun _ => ⟨(kk, ds) :: q, e1, ok, by simpa using hq, ?_⟩, fun z => by cases z⟩
          rw [e2, R_next h2, List.drop_drop]
        · have ne : ¬ (S ((l.drop k).take 2) = S [44, 32]) := fun z => h2 (SX.S_inj z)
          rw [if_neg ne]
          exact el2 si2 (by simp) (by rw [e2, R_other hh h2]) q0
end K56
set_option Elab.async false
set_option linter.all false
set_option maxRecDepth 100000
set_option maxHeartbeats 4000000
namespace K56
open PySem PySem.Spec PyProof.Rows L2 MT
open SX (S)
local macro_rules | `(tactic| walk_at "mt") => `(tactic| simp only [L2.start, List.map_cons, List.map_nil, List.length_cons, List.length_nil, List.replicate_succ, List.replicate_zero, Nat.reduceSub, Nat.reduceAdd, Nat.sub_self, Nat.zero_add, List.cons_append, List.nil_append, List.append_nil, List.getElem?_cons_zero, List.getElem?_cons_succ, List.set_cons_zero, List.set_cons_succ, Option.some.injEq, exists_eq_left', exists_eq_left, exists_eq_right, V.bl.injEq, V.int.injEq, V.str.injEq, V.ref.injEq, reduceCtorEq, false_and, and_false, true_and, and_true, false_or, or_false, exists_false, exists_const, ↓reduceIte, Bool.false_eq_true, decide_eq_true_eq, Bool.and_eq_true, Bool.not_true, Bool.not_false, List.cons.injEq, exists_and_left, exists_and_right,
  tRet, tBM, tBM0, tAndV, tOrV, tNotV, tAnd, tOr, tNot, tB, tTest, tIf, tIfS, tC, tVar, tOp, tUn, tChain, rI0, rI, rU, tFn, tCons, tNil, tCB, tTup, tLst, tAsg, gName, tNext, tDrop, tRetN, tPar, tPar3, tAug, tReplC, tRevS, rLenM2, rIsBM, tDNotIn, tDGet, rSumM, rMaxM, rMinM, gSub, rSetL, tRaiseO, tFnW, tXf, gTup, gUnl, gCons, gNil, rPopM, rAppendM, rExtendM, rTupM, rListM, ipI, tIs, tIss, rLenM, rIxM, rAddM, rEqM, rNeM, rSignIn, rInt, rAbs, rStrI, tSl, tPart, tNoPart, rSlM, tIsN, tNotN, List.any_cons, List.any_nil, Bool.or_false, tSeq, isa, D.ty, decide_true, decide_false, Bool.true_or, Bool.or_true, Bool.false_or, Bool.and_true, Bool.true_and, Bool.false_and, Bool.and_false, eq_self_iff_true, not_true_eq_false, not_false_eq_true, bne_self_eq_false])
open KM
theorem brk {l : List Nat} : inV (.str (S l)) [.str (S [40]), .str (S [91])] = (decide (l = [40]) || decide (l = [91])) := by
  have e : ∀ w : List Nat, (S w == S l) = decide (l = w) := fun w => by
    rw [SX.S_beq_eq]
    by_cases h : w = l
    · subst h; simp
    · rw [decide_eq_false h, decide_eq_false (fun z => h z.symm)]
  show ((S [40] == S l) || ((S [91] == S l) || false)) = _
  rw [e, e, Bool.or_false]
theorem pr_law_read {K : PySem.W.Frag} (vs : List V) (H : Hp) (Q : VK) (E : XK) (h : spRead vs H Q E) : t_law_read K spItem (E0N Q) (L2.start ["text", "rows", "at", "fresh", "turn", "sign", "end", "item", "opening", "items"] vs) H := by
  obtain ⟨F, l, rfl, sF, hl, q0, q1⟩ := h
  have hsl : (1000000 : Nat) < sizeLine := bl_sl (Nat.le_refl BL)
  have op := @ropen_ok K
  have it := @ritem_ok K
  have tl := @rtail_ok K
  unfold t_law_read
  unfold y_ropen at op
  unfold y_ritem at it
  unfold y_rtail y_rclose y_relse at tl
  revert op it tl
  generalize (tSeq (tDrop (tBM K "list" rAppendM (tVar 1) (tCons (tLst _) tNil))) _ : TS) = OP
  generalize (tSeq (tAsg (tVar 2) (gName 6)) _ : TS) = IT
  generalize (tIfS (tAnd (tTest (tOp _ (tCB rLenM (tCons (tVar 1) tNil)) (tC (.int 1)))) _) _ _ : TS) = TL
  intro op it tl
  have hrest : ∀ (H' : Hp) (p : Addr), RS F H p l 0 true H' → (tSeq (tFor (iRng1 (tCons (tOp rAddM (tOp (rI CMulW fun i j => .int (i * j)) (tC (.int 2)) (tCB rLenM (tCons (tVar 0) tNil))) (tC (.int 2))) tNil)) (gName 4) (tSeq (tAsg (tSl rSlM (tVar 0) (tPart (tVar 2)) (tPart (tOp rAddM (tVar 2) (tC (.int 1))))) (gName 5)) (tIfS (tAnd (tB (tVar 3)) (tB (tInTup (tVar 5) (tCons (tC (.str (S [40]))) (tCons (tC (.str (S [91]))) tNil))))) OP (tIfS (tB (tVar 3)) IT TL)))) (tRet (tLst tNil)) : TS)
      (E0N Q) [some (.str (S l)), some (.ref p), some (.int ((0 : Nat) : Int)), some (.bl true), none, none, none, none, none, none] H' := by
    intro H' p rs
    generalize hB : (tSeq (tAsg (tSl _ _ _ _) (gName 5)) _ : TS) = B
    unfold tSeq tFor iRng1
    walk_at "mt"
    rw [Sl]
    refine ⟨by omega, ?_, by omega, by omega, ?_⟩
    · show Nat.log2 2 + Nat.log2 l.length < 1000000
      have h1 := Nat.log2_le_self l.length
      have h2 : Nat.log2 2 = 1 := by decide +kernel
      omega
    refine for_range (lo := 0) (g := gName 4) (tb := B) (D := { E0N Q with nx := tRet (tLst tNil) (E0N Q) }) (fun i σ H2 => ∃ k b s4 s5 s6 s7 s8 s9, i ≤ k ∧ RS F H p l k b H2 ∧ σ = [some (.str (S l)), some (.ref p), some (.int ((k : Nat) : Int)), some (.bl b), s4, s5, s6, s7, s8, s9]) ⟨0, true, _, _, _, _, _, _, Nat.le_refl _, rs, rfl⟩ (fun i σ H2 hi z => ?_) fun σ H2 z => ?_
    · obtain ⟨k, b, s4, s5, s6, s7, s8, s9, hik, ⟨F', fs, si, sh, h81, hk, hT, hF⟩, rfl⟩ := z
      subst hB
      walk_at "mt"
      refine ⟨by rw [Sl]; omega, ?_⟩
      rw [cutN (k := 1) (by omega)]
      cases b with
      | false =>
        simp only [Bool.false_eq_true, ↓reduceIte]
        exact tl hl hk si sh h81 (hF rfl) q0 q1 fun k2 b H3 x6 x7 x8 x9 hk2 rs2 => ⟨k2, by omega, b, rs2, _, _, _, _, _, _, rfl⟩
      | true =>
        obtain ⟨fr, e1, ok, hfr, e2⟩ := hT rfl
        simp only [↓reduceIte]
        unfold tInTup
        walk_at "mt"
        refine ⟨rfl, rfl, by omega, ?_⟩
        rw [brk]
        cases hd : l.drop k with
        | nil =>
          simp only [List.take_nil, reduceCtorEq, decide_false, Bool.or_self, Bool.false_eq_true, ↓reduceIte]
          exact it (fun c r z => by rw [hd] at z; cases z) hl hk si sh e1 ok hfr e2 q0 fun k2 H3 x6 x7 hk2 rs2 => ⟨k2, by omega, false, rs2, _, _, _, _, _, _, rfl⟩
        | cons c r =>
          have ht : (c :: r).take 1 = [c] := rfl
          rw [ht]
          by_cases hc : c = 40 ∨ c = 91
          · have : (decide ([c] = [40]) || decide ([c] = [91])) = true := by rcases hc with rfl | rfl <;> rfl
            rw [this]
            simp only [↓reduceIte]
            exact op hc hd hl si sh e1 ok hfr e2 q0 fun b H3 rs2 => ⟨k + 1, by omega, b, rs2, _, _, _, _, _, _, rfl⟩
          · have : (decide ([c] = [40]) || decide ([c] = [91])) = false := by
              simp only [List.cons.injEq, and_true, Bool.or_eq_false_iff, decide_eq_false_iff_not]
              exact ⟨fun z => hc (.inl z), fun z => hc (.inr z)⟩
            rw [this]
            simp only [Bool.false_eq_true, ↓reduceIte]
            exact it (fun c2 r2 z => by rw [hd] at z; cases z; exact hc) hl hk si sh e1 ok hfr e2 q0 fun k2 H3 x6 x7 hk2 rs2 => ⟨k2, by omega, false, rs2, _, _, _, _, _, _, rfl⟩
    · obtain ⟨k, b, s4, s5, s6, s7, s8, s9, hik, ⟨F', fs, si, sh, h81, hk, hT, hF⟩, rfl⟩ := z
      omega
  revert hrest
  generalize (tSeq (tFor _ _ _) _ : TS) = R
  intro hrest
  walk_at "mt"
  refine ⟨by omega, fun i hi => ⟨by omega, fun a ha => ⟨by omega, fun p hp => ⟨_, _, _, ⟨rfl, rfl, rfl⟩, ?_⟩⟩⟩⟩
  have si0 : SI F H F (upd (upd (upd H i (.lst [])) a (.lst [.str (S []), .ref i])) p (.lst [.ref a])) p [⟨a, i, [], []⟩] := by
    have nai : a ≠ i := fun z => by rw [z, upd_same] at ha; cases ha
    have npa : p ≠ a := fun z => by rw [z, upd_same] at hp; cases hp
    have npi : p ≠ i := fun z => by rw [z, upd_ne (Ne.symm nai), upd_same] at hp; cases hp
    have ha' : H a = none := by rw [upd_ne nai] at ha; exact ha
    have hp' : H p = none := by rw [upd_ne npa, upd_ne npi] at hp; exact hp
    have f : ∀ {x}, H x = none → F x = none := fun h => Same.free sF h
    refine SI.start ((((Grow.refl sF).cell hi (f hi)).cell ha' (f ha')).cell hp' (f hp')) upd_same ?_ ?_ hp' ha' hi (f hp') (f ha') (f hi) npa npi nai
    · rw [upd_ne (Ne.symm npa), upd_same]
    · rw [upd_ne (Ne.symm npi), upd_ne (Ne.symm nai), upd_same]
  exact hrest _ p ⟨_, _, si0, Nat.le_refl _, by simp, Nat.zero_le _, fun _ => ⟨[], rfl, (fun q hq => by cases hq), Nat.zero_le _, rfl⟩, fun z => by cases z⟩
end K56
set_option Elab.async false
set_option linter.all false
set_option maxRecDepth 100000
set_option maxHeartbeats 4000000
namespace K56
open PySem PySem.Spec PyProof.Rows L2 MT
open SX (S)
local macro_rules | `(tactic| walk_at "mt") => `(tactic| simp only [L2.start, List.map_cons, List.map_nil, List.length_cons, List.length_nil, List.replicate_succ, List.replicate_zero, Nat.reduceSub, Nat.reduceAdd, Nat.sub_self, Nat.zero_add, List.cons_append, List.nil_append, List.append_nil, List.getElem?_cons_zero, List.getElem?_cons_succ, List.set_cons_zero, List.set_cons_succ, Option.some.injEq, exists_eq_left', exists_eq_left, exists_eq_right, V.bl.injEq, V.int.injEq, V.str.injEq, V.ref.injEq, reduceCtorEq, false_and, and_false, true_and, and_true, false_or, or_false, exists_false, exists_const, ↓reduceIte, Bool.false_eq_true, decide_eq_true_eq, Bool.and_eq_true, Bool.not_true, Bool.not_false, List.cons.injEq, exists_and_left, exists_and_right,
  tRet, tBM, tBM0, tAndV, tOrV, tNotV, tAnd, tOr, tNot, tB, tTest, tIf, tIfS, tC, tVar, tOp, tUn, tChain, rI0, rI, rU, tFn, tCons, tNil, tCB, tTup, tLst, tAsg, gName, tNext, tDrop, tRetN, tPar, tPar3, tAug, tReplC, tRevS, rLenM2, rIsBM, tDNotIn, tDGet, rSumM, rMaxM, rMinM, gSub, rSetL, tRaiseO, tFnW, tXf, gTup, gUnl, gCons, gNil, rPopM, rAppendM, rExtendM, rTupM, rListM, ipI, tIs, tIss, rLenM, rIxM, rAddM, rEqM, rNeM, rSignIn, rInt, rAbs, rStrI, tSl, tPart, tNoPart, rSlM, tIsN, tNotN, List.any_cons, List.any_nil, Bool.or_false, tSeq, isa, D.ty, decide_true, decide_false, Bool.true_or, Bool.or_true, Bool.false_or, Bool.and_true, Bool.true_and, Bool.false_and, Bool.and_false, eq_self_iff_true, not_true_eq_false, not_false_eq_true, bne_self_eq_false])
open KM
mutual
theorem nodes_text {L : Nat} : ∀ (d : D) (n : Nat), KM.plain L d n = true → nodes d ≤ (text d).length
  | .tup ds, n, h => by
    simp only [KM.plain, Bool.and_eq_true, decide_eq_true_eq] at h
    have := nodesL_text ds (n + 1) h.2
    simp only [nodes, text, List.length_append, List.length_cons, List.length_nil]; omega
  | .lst ds, n, h => by
    simp only [KM.plain, Bool.and_eq_true, decide_eq_true_eq] at h
    have := nodesL_text ds (n + 1) h.2
    simp only [nodes, text, List.length_append, List.length_cons, List.length_nil]; omega
  | .non, n, h => by simp [KM.plain] at h
  | .bl b, n, h => by
    have := leaf_nd (d := .bl b) rfl h
    have h2 := List.length_pos_iff.mpr this.1
    simp only [nodes]; omega
  | .int i, n, h => by
    have := leaf_nd (d := .int i) rfl h
    have h2 := List.length_pos_iff.mpr this.1
    simp only [nodes]; omega
  | .str z, n, h => by
    have := leaf_nd (d := .str z) rfl h
    have h2 := List.length_pos_iff.mpr this.1
    simp only [nodes]; omega
  | .dct _, n, h => by simp [KM.plain] at h
theorem nodesL_text {L : Nat} : ∀ (ds : List D) (n : Nat), plains L ds n = true → nodesL ds ≤ (TL.joinL [44, 32] (texts ds)).length
  | [], n, h => Nat.zero_le _
  | [d], n, h => by
    simp only [plains, Bool.and_eq_true] at h
    have h1 := nodes_text d n h.1
    simpa [nodesL, texts, TL.joinL] using h1
  | d :: e :: ds, n, h => by
    simp only [plains, Bool.and_eq_true] at h
    have h1 := nodes_text d n h.1
    have h2 := nodesL_text (e :: ds) n (by simp only [plains, Bool.and_eq_true]; exact h.2)
    have e3 : TL.joinL [44, 32] (texts (d :: e :: ds)) = text d ++ (44 :: 32 :: TL.joinL [44, 32] (texts (e :: ds))) := by
      simp only [texts]
      exact join_cons2 _ _ _
    rw [e3]
    simp only [nodesL, List.length_append, List.length_cons] at h2 ⊢
    omega
end
def y_back (K : PySem.W.Frag) : TS := (tSeq (tAsg (tFn spTold (tCons (tC (.str (S [114, 101, 97, 100]))) (tCons (tVar 3) (tCons (tNotV (tVar 2)) tNil)))) (gName 6)) (tSeq (tIfS (tOr (tTest (tOp rNeM (tOp rIxM (tVar 6) (tC (.int 0))) (tC (.str (S [116, 111, 108, 100]))))) (tNot (tB (tFn spAlike (tCons (tOp rIxM (tVar 6) (tC (.int 1))) (tCons (tVar 1) tNil)))))) (tRet (tC (.bl false))) tNext) (tSeq (tIfS (tB (tIs .lst (tOp rIxM (tVar 6) (tC (.int 1))))) (tDrop (tBM K "list" rAppendM (tOp rIxM (tVar 6) (tC (.int 1))) (tCons (tC (.str (S [109, 111, 114, 101]))) tNil))) tNext) (tAsg (tNotV (tVar 2)) (gName 2)))))
theorem Dat.of {F H : Hp} {v : V} {d : D} (s : Same F H) (r : Rep F v d) : Dat H v d := ⟨F, s, r⟩
theorem back_ok {K : PySem.W.Frag} {H : Hp} {v : V} {d : D} {nm : Bool} {De : L2.Ends} {s0 s4 s5 s6 s7 s8 : Option V} (hp : KM.plain 80 d 0 = true) (hv : Dat H v d) (hl : (text d).length ≤ 1000000)
    (nx : ∀ H' x6, Same H H' → De.nx [s0, some v, some (.bl (!nm)), some (.str (S (text d))), s4, s5, x6, s7, s8] H') :
    y_back K De [s0, some v, some (.bl nm), some (.str (S (text d))), s4, s5, s6, s7, s8] H := by
  have hsl : (1000000 : Nat) < sizeLine := bl_sl (Nat.le_refl BL)
  have hnod := nodes_text d 0 hp
  unfold y_back
  walk_at "mt"
  refine ⟨_, _, .str (text d), !nm, rfl, dat_str hl, .inr ⟨by decide, fun l2 x e hx F' H' u a g ru ha => ?_, fun hn => ?_⟩⟩
  · cases e
    rw [parse_text hp] at hx
    cases hx
    walk_at "mt"
    refine ⟨_, by rw [upd_same]; rfl, _, at0, ?_⟩
    dsimp only
    rw [if_neg (by decide)]
    refine ⟨_, by rw [upd_same]; rfl, _, at1, ?_⟩
    have s1 : Same F' (upd H' a (.lst [.str (S wTold), u])) := g.fh.trans (same_upd ha)
    have s2 : Same H (upd H' a (.lst [.str (S wTold), u])) := g.h.trans (same_upd ha)
    have hw : upd H' a (.lst [.str (S wTold), u]) a = some (.lst [.str (S wTold), u]) := upd_same
    revert s1 s2 hw
    generalize upd H' a (.lst [.str (S wTold), u]) = H1
    intro s1 s2 hw
    refine ⟨u, v, d, rfl, .of s1 ru, hv.mono s2, by omega, fun H2 s => ⟨true, rfl, ?_⟩⟩
    have s3 := s2.trans s
    have ty := ru.ty (s1.trans s)
    simp only [Bool.not_true, Bool.false_eq_true, ↓reduceIte]
    refine ⟨_, by rw [s _ _ hw]; rfl, _, at1, _, ty, ?_⟩
    by_cases ht : d.ty = .lst
    · rw [if_pos ht]
      refine ⟨_, by rw [s _ _ hw]; rfl, _, at1, ?_⟩
      cases ru with
      | @lst i xs ds h r z =>
        have hi := s _ _ (s1 _ _ h)
        refine ⟨tyL hi, ?_⟩
        have hl2 := r.length
        have z' : ds.length ≤ 1000000 := z
        refine ⟨xs, hi, by omega, nx _ _ (fun y o e => ?_)⟩
        have hn : y ≠ i := fun q => by
          have := g.nw i (by rw [← q, e]; simp) rfl
          rw [h] at this; cases this
        rw [upd_ne hn]
        exact s3 _ _ e
      | _ => cases ht
    · rw [if_neg ht]
      exact nx _ _ s3
  · exact absurd (hn _ rfl) (by rw [parse_text hp]; simp)
end K56
set_option Elab.async false
set_option linter.all false
set_option maxRecDepth 100000
set_option maxHeartbeats 4000000
namespace K56
open PySem PySem.Spec PyProof.Rows L2 MT
open SX (S)
local macro_rules | `(tactic| walk_at "mt") => `(tactic| simp only [L2.start, List.map_cons, List.map_nil, List.length_cons, List.length_nil, List.replicate_succ, List.replicate_zero, Nat.reduceSub, Nat.reduceAdd, Nat.sub_self, Nat.zero_add, List.cons_append, List.nil_append, List.append_nil, List.getElem?_cons_zero, List.getElem?_cons_succ, List.set_cons_zero, List.set_cons_succ, Option.some.injEq, exists_eq_left', exists_eq_left, exists_eq_right, V.bl.injEq, V.int.injEq, V.str.injEq, V.ref.injEq, reduceCtorEq, false_and, and_false, true_and, and_true, false_or, or_false, exists_false, exists_const, ↓reduceIte, Bool.false_eq_true, decide_eq_true_eq, Bool.and_eq_true, Bool.not_true, Bool.not_false, List.cons.injEq, exists_and_left, exists_and_right,
  tRet, tBM, tBM0, tAndV, tOrV, tNotV, tAnd, tOr, tNot, tB, tTest, tIf, tIfS, tC, tVar, tOp, tUn, tChain, rI0, rI, rU, tFn, tCons, tNil, tCB, tTup, tLst, tAsg, gName, tNext, tDrop, tRetN, tPar, tPar3, tAug, tReplC, tRevS, rLenM2, rIsBM, tDNotIn, tDGet, rSumM, rMaxM, rMinM, gSub, rSetL, tRaiseO, tFnW, tXf, gTup, gUnl, gCons, gNil, rPopM, rAppendM, rExtendM, rTupM, rListM, ipI, tIs, tIss, rLenM, rIxM, rAddM, rEqM, rNeM, rSignIn, rInt, rAbs, rStrI, tSl, tPart, tNoPart, rSlM, tIsN, tNotN, List.any_cons, List.any_nil, Bool.or_false, tSeq, isa, D.ty, decide_true, decide_false, Bool.true_or, Bool.or_true, Bool.false_or, Bool.and_true, Bool.true_and, Bool.false_and, Bool.and_false, eq_self_iff_true, not_true_eq_false, not_false_eq_true, bne_self_eq_false])
open KM
abbrev SM : Sp := spSame 100
def y_j1 (K : PySem.W.Frag) : TS := (tSeq (tIfS (tOr (tAnd (tB (tEqNil false (tVar 8))) (tNot (tB (tFn SM (tCons (tVar 4) (tCons (tLst (tCons (tC (.str (S [116, 101, 120, 116]))) (tCons (tVar 7) tNil))) tNil)))))) (tAnd (tB (tEqNil true (tVar 8))) (tOr (tTest (tOp rNeM (tOp rIxM (tVar 4) (tC (.int 0))) (tC (.str (S [116, 111, 108, 100]))))) (tNot (tB (tFn spAlike (tCons (tOp rIxM (tVar 4) (tC (.int 1))) (tCons (tOp rIxM (tVar 8) (tC (.int 0))) tNil)))))))) (tRet (tC (.bl false))) tNext) (tSeq (tIfS (tAnd (tB (tEqNil true (tVar 8))) (tNot (tB (tFn SM (tCons (tFn spTold (tCons (tC (.str (S [116, 101, 120, 116]))) (tCons (tOp rIxM (tVar 8) (tC (.int 0))) (tCons (tNotV (tVar 2)) tNil)))) (tCons (tLst (tCons (tC (.str (S [116, 111, 108, 100]))) (tCons (tVar 7) tNil))) tNil)))))) (tRet (tC (.bl false))) tNext) (tAsg (tNotV (tVar 2)) (gName 2))))
/-- a list of two texts, as data -/
theorem dat_two {H : Hp} {a : Addr} {x y : List Nat} (h : H a = some (.lst [.str (S x), .str (S y)])) (hx : x.length ≤ BL) (hy : y.length ≤ BL) : Dat H (.ref a) (.lst [.str x, .str y]) :=
  ⟨H, .refl _, .lst h (.cons (.str hx) (.one (.str hy))) (by show 2 ≤ 1000000; omega)⟩
theorem two_deep {x y : List Nat} : depth (.lst [.str x, .str y]) + 1 < 100 := by simp [depth, depths]
theorem j1_none {K : PySem.W.Frag} {H : Hp} {l : List Nat} {a t : Addr} {nm : Bool} {De : L2.Ends} {s0 s1 s3 s5 s6 : Option V} (hl : l.length ≤ 1000000) (ha : H a = some (.lst [])) (ht : H t = some (.lst [.str (S wText), .str (S l)]))
    (nx : ∀ H', Same H H' → De.nx [s0, s1, some (.bl (!nm)), s3, some (.ref t), s5, s6, some (.str (S l)), some (.ref a)] H') :
    y_j1 K De [s0, s1, some (.bl nm), s3, some (.ref t), s5, s6, some (.str (S l)), some (.ref a)] H := by
  have hsl : (1000000 : Nat) < sizeLine := bl_sl (Nat.le_refl BL)
  unfold y_j1
  generalize hR : (tSeq (tIfS (tAnd (tB (tEqNil true (tVar 8))) (tNot (tB (tFn SM (tCons (tFn spTold _) _))))) _ _) _ : TS) = R
  have rest : ∀ H', Same H H' → R De [s0, s1, some (.bl nm), s3, some (.ref t), s5, s6, some (.str (S l)), some (.ref a)] H' := by
    intro H' s
    subst hR
    generalize (tFn spTold _ : TE) = U
    walk_at "mt"
    unfold tEqNil
    walk_at "mt"
    refine ⟨[], s _ _ ha, ?_⟩
    simp only [List.isEmpty_nil, Bool.not_true, Bool.false_eq_true, ↓reduceIte]
    exact nx _ s
  generalize (tFn spAlike _ : TE) = U
  walk_at "mt"
  unfold tEqNil
  walk_at "mt"
  refine ⟨[], ha, ?_⟩
  simp only [List.isEmpty_nil, Bool.not_true, Bool.false_eq_true, ↓reduceIte]
  refine ⟨by omega, fun b hb => ⟨_, _, _, rfl, dat_two ((same_upd hb) _ _ ht) (by decide) hl, dat_two upd_same (by decide) hl, .inl two_deep, true, rfl, ?_⟩⟩
  simp only [Bool.not_true, Bool.false_eq_true, ↓reduceIte]
  refine ⟨[], (same_upd hb) _ _ ha, ?_⟩
  simp only [List.isEmpty_nil, Bool.not_true, Bool.false_eq_true, ↓reduceIte]
  exact rest _ (same_upd hb)
theorem j1_some {K : PySem.W.Frag} {H : Hp} {l : List Nat} {x : D} {a t : Addr} {u u2 : V} {nm : Bool} {De : L2.Ends} {s0 s1 s3 s5 s6 : Option V} (hl : l.length ≤ 1000000) (hx : parse 80 l = some x) (ha : H a = some (.lst [u])) (ht : H t = some (.lst [.str (S wTold), u2])) (hu : Dat H u x) (hu2 : Dat H u2 x)
    (nx : ∀ H', Same H H' → De.nx [s0, s1, some (.bl (!nm)), s3, some (.ref t), s5, s6, some (.str (S l)), some (.ref a)] H') :
    y_j1 K De [s0, s1, some (.bl nm), s3, some (.ref t), s5, s6, some (.str (S l)), some (.ref a)] H := by
  have hsl : (1000000 : Nat) < sizeLine := bl_sl (Nat.le_refl BL)
  obtain ⟨htx, hpl⟩ := text_parse hx
  have hnod := nodes_text x 0 hpl
  rw [htx] at hnod
  unfold y_j1
  generalize hR : (tSeq (tIfS (tAnd (tB (tEqNil true (tVar 8))) (tNot (tB (tFn SM (tCons (tFn spTold _) _))))) _ _) _ : TS) = R
  have rest : ∀ H', Same H H' → R De [s0, s1, some (.bl nm), s3, some (.ref t), s5, s6, some (.str (S l)), some (.ref a)] H' := by
    intro H' s
    subst hR
    walk_at "mt"
    unfold tEqNil
    walk_at "mt"
    refine ⟨[u], s _ _ ha, ?_⟩
    simp only [List.isEmpty_cons, Bool.not_false, ↓reduceIte]
    refine ⟨_, by rw [s _ _ ha]; rfl, _, at0, ?_⟩
    refine ⟨_, u, x, !nm, rfl, hu.mono s, .inl ⟨rfl, fun _ => ⟨by rw [htx]; exact hl, fun H2 b s2 hb => ?_⟩, fun z => by rw [hpl] at z; cases z⟩⟩
    rw [htx]
    refine ⟨by omega, fun e he => ⟨_, _, _, rfl, dat_two ((same_upd he) _ _ upd_same) (by decide) hl, dat_two upd_same (by decide) hl, .inl two_deep, true, rfl, ?_⟩⟩
    simp only [Bool.not_true, Bool.false_eq_true, ↓reduceIte]
    exact nx _ (((s.trans s2).trans (same_upd hb)).trans (same_upd he))
  generalize (tFn SM _ : TE) = U
  walk_at "mt"
  unfold tEqNil
  walk_at "mt"
  refine ⟨[u], ha, ?_⟩
  simp only [List.isEmpty_cons, Bool.not_false, Bool.false_eq_true, ↓reduceIte]
  refine ⟨[u], ha, ?_⟩
  simp only [List.isEmpty_cons, Bool.not_false, Bool.false_eq_true, ↓reduceIte]
  refine ⟨_, by rw [ht]; rfl, _, at0, ?_⟩
  dsimp only
  rw [if_neg (by decide)]
  refine ⟨_, by rw [ht]; rfl, _, at1, _, by rw [ha]; rfl, _, at0, ?_⟩
  refine ⟨_, _, x, rfl, hu2, hu, by omega, fun H2 s => ⟨true, rfl, ?_⟩⟩
  simp only [Bool.not_true, Bool.false_eq_true, ↓reduceIte]
  exact rest _ s
end K56
set_option Elab.async false
set_option linter.all false
set_option maxRecDepth 100000
set_option maxHeartbeats 4000000
namespace K56
open PySem PySem.Spec PyProof.Rows L2 MT
open SX (S)
local macro_rules | `(tactic| walk_at "mt") => `(tactic| simp only [L2.start, List.map_cons, List.map_nil, List.length_cons, List.length_nil, List.replicate_succ, List.replicate_zero, Nat.reduceSub, Nat.reduceAdd, Nat.sub_self, Nat.zero_add, List.cons_append, List.nil_append, List.append_nil, List.getElem?_cons_zero, List.getElem?_cons_succ, List.set_cons_zero, List.set_cons_succ, Option.some.injEq, exists_eq_left', exists_eq_left, exists_eq_right, V.bl.injEq, V.int.injEq, V.str.injEq, V.ref.injEq, reduceCtorEq, false_and, and_false, true_and, and_true, false_or, or_false, exists_false, exists_const, ↓reduceIte, Bool.false_eq_true, decide_eq_true_eq, Bool.and_eq_true, Bool.not_true, Bool.not_false, List.cons.injEq, exists_and_left, exists_and_right,
  tRet, tBM, tBM0, tAndV, tOrV, tNotV, tAnd, tOr, tNot, tB, tTest, tIf, tIfS, tC, tVar, tOp, tUn, tChain, rI0, rI, rU, tFn, tCons, tNil, tCB, tTup, tLst, tAsg, gName, tNext, tDrop, tRetN, tPar, tPar3, tAug, tReplC, tRevS, rLenM2, rIsBM, tDNotIn, tDGet, rSumM, rMaxM, rMinM, gSub, rSetL, tRaiseO, tFnW, tXf, gTup, gUnl, gCons, gNil, rPopM, rAppendM, rExtendM, rTupM, rListM, ipI, tIs, tIss, rLenM, rIxM, rAddM, rEqM, rNeM, rSignIn, rInt, rAbs, rStrI, tSl, tPart, tNoPart, rSlM, tIsN, tNotN, List.any_cons, List.any_nil, Bool.or_false, tSeq, isa, D.ty, decide_true, decide_false, Bool.true_or, Bool.or_true, Bool.false_or, Bool.and_true, Bool.true_and, Bool.false_and, Bool.and_false, eq_self_iff_true, not_true_eq_false, not_false_eq_true, bne_self_eq_false])
open KM
def y_turn2 (K : PySem.W.Frag) : TS := (tSeq (tAsg (tFn spBent (tCons (tVar 0) (tCons (tVar 3) tNil))) (gName 7)) (tSeq (tPar 8 4 (tCons (tFn spRead (tCons (tVar 7) tNil)) (tCons (tFn spTold (tCons (tC (.str (S [114, 101, 97, 100]))) (tCons (tVar 7) (tCons (tVar 2) tNil)))) tNil))) (y_j1 K)))
theorem turn2_ok {K : PySem.W.Frag} {F0 H0 F H : Hp} {b : Addr} {c : Nat} {l : List Nat} {nm : Bool} {De : L2.Ends} {s1 s4 s5 s6 s7 s8 : Option V} (hl : l.length ≤ 100000) (w : Wd b F0 H0 c F H) (hc : c ≤ 900000000)
    (nx : ∀ H' x4 x7 x8, Wd b F0 H0 (c + 10) F H' → De.nx [some (.ref b), s1, some (.bl (!nm)), some (.str (S l)), x4, s5, s6, x7, x8] H') :
    y_turn2 K De [some (.ref b), s1, some (.bl nm), some (.str (S l)), s4, s5, s6, s7, s8] H := by
  have hsl : (1000000 : Nat) < sizeLine := bl_sl (Nat.le_refl BL)
  have jn := @j1_none K
  have js := @j1_some K
  unfold y_turn2
  revert jn js
  generalize y_j1 K = J
  intro jn js
  walk_at "mt"
  refine ⟨F, b, c, l, rfl, hl, w.sub, w.fb, w.bx, hc, fun l' H1 hl' w1 => ?_⟩
  have w1' : Wd b F0 H0 (c + 10) F H1 := w.gb w1.g w1.bx
  refine ⟨noH, l', rfl, no_same, by omega, fun hn F2 H2 a g ha => ?_, fun x hx F2 H2 a u g ha ru => ?_⟩
  · refine ⟨_, _, .str l', nm, rfl, dat_str (by show _ ≤ 1000000; omega), .inr ⟨by decide, fun l2 x e hx => ?_, fun _ H3 t s ht => ?_⟩⟩
    · cases e; rw [hn] at hx; cases hx
    · refine ⟨_, _, ⟨rfl, rfl⟩, ?_⟩
      exact jn (by omega) ((s.trans (same_upd ht)) _ _ ha) upd_same fun H4 s4 => nx _ _ _ _ (w1'.same (((g.h.trans s).trans (same_upd ht)).trans s4))
  · refine ⟨_, _, .str l', nm, rfl, dat_str (by show _ ≤ 1000000; omega), .inr ⟨by decide, fun l2 y e hy F3 H3 u2 t g3 ru2 ht => ?_, fun hn => ?_⟩⟩
    · cases e
      rw [hx] at hy
      cases hy
      refine ⟨_, _, ⟨rfl, rfl⟩, ?_⟩
      have s3 : Same H2 (upd H3 t (.lst [.str (S wTold), u2])) := g3.h.trans (same_upd ht)
      exact js (by omega) hx (s3 _ _ ha) upd_same (.of (g.fh.trans s3) ru) (.of (g3.fh.trans (same_upd ht)) ru2) fun H4 s4 => nx _ _ _ _ (w1'.same ((g.h.trans s3).trans s4))
    · exact absurd (hn _ rfl) (by rw [hx]; simp)
/-- the value's texts are right -/
def spRight : Sp := fun vs H Q _ => ∃ (F0 H0 F : Hp) (b : Addr) (c : Nat) (v : V) (d : D) (nm : Bool), vs = [.ref b, v, .bl nm] ∧ Wd b F0 H0 c F H ∧ Rep F v d ∧ KM.plain 80 d 0 = true ∧ (text d).length ≤ 100000 ∧ c ≤ 800000000 ∧
  ∀ H', Wd b F0 H0 (c + 80) F H' → Q (.bl true) H'
theorem pr_law_value_right {K : PySem.W.Frag} (vs : List V) (H : Hp) (Q : VK) (E : XK) (h : spRight vs H Q E) : t_law_value_right K spLText spTold SM spAlike spBent spRead (E0N Q) (L2.start ["box", "value", "named", "text", "told", "turn", "back", "bent", "due"] vs) H := by
  obtain ⟨F0, H0, F, b, c, v, d, nm, rfl, w, rv, hp, hl, hc, q⟩ := h
  have hsl : (1000000 : Nat) < sizeLine := bl_sl (Nat.le_refl BL)
  have hnod := nodes_text d 0 hp
  have bk := @back_ok K
  have t2 := @turn2_ok K
  unfold t_law_value_right
  unfold y_back at bk
  unfold y_turn2 y_j1 at t2
  revert bk t2
  generalize (tSeq (tAsg (tFn spTold _) (gName 6)) _ : TS) = BK
  generalize (tSeq (tAsg (tFn spBent _) (gName 7)) _ : TS) = T2
  intro bk t2
  have rest : ∀ H1 x4, Same H H1 → (tSeq (tFor (iRng1 (tCons (tC (.int 2)) tNil)) (gName 5) BK) (tSeq (tFor (iRng1 (tCons (tC (.int 8)) tNil)) (gName 5) T2) (tRet (tC (.bl true))))) (E0N Q) [some (.ref b), some v, some (.bl nm), some (.str (S (text d))), x4, none, none, none, none] H1 := by
    intro H1 x4 s
    have rest2 : ∀ H2 nm2 x4 x5 x6, Same H H2 → (tSeq (tFor (iRng1 (tCons (tC (.int 8)) tNil)) (gName 5) T2) (tRet (tC (.bl true)))) (E0N Q) [some (.ref b), some v, some (.bl nm2), some (.str (S (text d))), x4, x5, x6, none, none] H2 := by
      intro H2 nm2 x4 x5 x6 s2
      unfold tSeq tFor iRng1
      walk_at "mt"
      refine ⟨by omega, by omega, ?_⟩
      refine for_range (lo := 0) (g := gName 5) (tb := T2) (D := { E0N Q with nx := tRet (tC (.bl true)) (E0N Q) }) (n := 8) (fun i σ H3 => ∃ nm x4 x5 x6 x7 x8, Wd b F0 H0 (c + 10 * i) F H3 ∧ σ = [some (.ref b), some v, some (.bl nm), some (.str (S (text d))), x4, x5, x6, x7, x8]) ⟨nm2, _, _, _, _, _, w.same s2, rfl⟩ (fun i σ H3 hi z => ?_) fun σ H3 z => ?_
      · obtain ⟨nm3, y4, y5, y6, y7, y8, w3, rfl⟩ := z
        walk_at "mt"
        exact t2 hl w3 (by omega) fun H4 a4 a7 a8 w4 => ⟨w4, _, _, _, _, _, _, rfl⟩
      · obtain ⟨nm3, y4, y5, y6, y7, y8, w3, rfl⟩ := z
        walk_at "mt"
        exact q _ w3
    revert rest2
    generalize (tSeq (tFor (iRng1 (tCons (tC (.int 8)) tNil)) (gName 5) T2) _ : TS) = R2
    intro rest2
    unfold tSeq tFor iRng1
    walk_at "mt"
    refine ⟨by omega, by omega, ?_⟩
    refine for_range (lo := 0) (g := gName 5) (tb := BK) (D := { E0N Q with nx := R2 (E0N Q) }) (n := 2) (fun i σ H3 => ∃ nm x5 x6, Same H H3 ∧ σ = [some (.ref b), some v, some (.bl nm), some (.str (S (text d))), x4, x5, x6, none, none]) ⟨nm, _, _, s, rfl⟩ (fun i σ H3 hi z => ?_) fun σ H3 z => ?_
    · obtain ⟨nm3, y5, y6, s3, rfl⟩ := z
      walk_at "mt"
      exact bk hp (.of (w.sub.trans s3) rv) (by omega) fun H4 a6 s4 => ⟨s3.trans s4, _, _, _, rfl⟩
    · obtain ⟨nm3, y5, y6, s3, rfl⟩ := z
      exact rest2 _ _ _ _ _ s3
  revert rest
  generalize (tSeq (tFor _ _ BK) _ : TS) = R
  intro rest
  walk_at "mt"
  have hv : Dat H v d := .of w.sub rv
  refine ⟨v, d, rfl, hv, ⟨⟨80, 0, hp⟩, by omega⟩, by omega, fun H1 s1 => ?_⟩
  refine ⟨_, v, d, nm, rfl, hv.mono s1, .inl ⟨rfl, fun _ => ⟨by show _ ≤ 1000000; omega, fun H2 t s2 ht => ?_⟩, fun z => by rw [hp] at z; cases z⟩⟩
  refine ⟨_, by rw [upd_same]; rfl, _, at0, ?_⟩
  dsimp only
  rw [if_neg (by decide)]
  refine ⟨_, by rw [upd_same]; rfl, _, at1, ?_⟩
  refine ⟨_, _, .str (text d), rfl, dat_str (by show _ ≤ 1000000; omega), dat_str (by show _ ≤ 1000000; omega), .inl (by simp [depth]), true, rfl, ?_⟩
  simp only [Bool.not_true, Bool.false_eq_true, ↓reduceIte]
  exact rest _ _ ((s1.trans s2).trans (same_upd ht))
end K56
set_option Elab.async false
set_option linter.all false
set_option maxRecDepth 100000
set_option maxHeartbeats 4000000
namespace K56
open PySem PySem.Spec PyProof.Rows L2 MT
open SX (S)
local macro_rules | `(tactic| walk_at "mt") => `(tactic| simp only [L2.start, List.map_cons, List.map_nil, List.length_cons, List.length_nil, List.replicate_succ, List.replicate_zero, Nat.reduceSub, Nat.reduceAdd, Nat.sub_self, Nat.zero_add, List.cons_append, List.nil_append, List.append_nil, List.getElem?_cons_zero, List.getElem?_cons_succ, List.set_cons_zero, List.set_cons_succ, Option.some.injEq, exists_eq_left', exists_eq_left, exists_eq_right, V.bl.injEq, V.int.injEq, V.str.injEq, V.ref.injEq, reduceCtorEq, false_and, and_false, true_and, and_true, false_or, or_false, exists_false, exists_const, ↓reduceIte, Bool.false_eq_true, decide_eq_true_eq, Bool.and_eq_true, Bool.not_true, Bool.not_false, List.cons.injEq, exists_and_left, exists_and_right,
  tRet, tBM, tBM0, tAndV, tOrV, tNotV, tAnd, tOr, tNot, tB, tTest, tIf, tIfS, tC, tVar, tOp, tUn, tChain, rI0, rI, rU, tFn, tCons, tNil, tCB, tTup, tLst, tAsg, gName, tNext, tDrop, tRetN, tPar, tPar3, tAug, tReplC, tRevS, rLenM2, rIsBM, tDNotIn, tDGet, rSumM, rMaxM, rMinM, gSub, rSetL, tRaiseO, tFnW, tXf, gTup, gUnl, gCons, gNil, rPopM, rAppendM, rExtendM, rTupM, rListM, ipI, tIs, tIss, rLenM, rIxM, rAddM, rEqM, rNeM, rSignIn, rInt, rAbs, rStrI, tSl, tPart, tNoPart, rSlM, tIsN, tNotN, List.any_cons, List.any_nil, Bool.or_false, tSeq, isa, D.ty, decide_true, decide_false, Bool.true_or, Bool.or_true, Bool.false_or, Bool.and_true, Bool.true_and, Bool.false_and, Bool.and_false, eq_self_iff_true, not_true_eq_false, not_false_eq_true, bne_self_eq_false])
open KM
def y_rf2 (K : PySem.W.Frag) : TS := (tSeq (tAsg (tFn spTold (tCons (tC (.str (S [114, 101, 97, 100]))) (tCons (tVar 4) (tCons (tVar 2) tNil)))) (gName 5)) (tIfS (tOr (tTest (tOp rNeM (tOp rIxM (tVar 5) (tC (.int 0))) (tC (.str (S [116, 101, 120, 116]))))) (tNot (tB (tFn SM (tCons (tOp rIxM (tVar 5) (tC (.int 1))) (tCons (tVar 4) tNil)))))) (tRet (tC (.bl false))) tNext))
theorem rf2_ok {K : PySem.W.Frag} {H : Hp} {x : V} {d : D} {nm : Bool} {De : L2.Ends} {s0 s1 s3 s5 : Option V} (hx : Dat H x d) (hn : ∀ l, d = .str l → parse 80 l = none) (hd : depth d + 1 < 100)
    (nx : ∀ H' x5, Same H H' → De.nx [s0, s1, some (.bl nm), s3, some x, x5] H') : y_rf2 K De [s0, s1, some (.bl nm), s3, some x, s5] H := by
  unfold y_rf2
  walk_at "mt"
  refine ⟨_, x, d, nm, rfl, hx, .inr ⟨by decide, fun l y e hy => ?_, fun _ H2 t s ht => ?_⟩⟩
  · rw [hn l e] at hy; cases hy
  · refine ⟨_, by rw [upd_same]; rfl, _, at0, ?_⟩
    dsimp only
    rw [if_neg (by decide)]
    refine ⟨_, by rw [upd_same]; rfl, _, at1, ?_⟩
    have s2 := s.trans (same_upd (o := .lst [.str (S wText), x]) ht)
    refine ⟨x, x, d, rfl, hx.mono s2, hx.mono s2, .inl hd, true, rfl, ?_⟩
    simp only [Bool.not_true, Bool.false_eq_true, ↓reduceIte]
    exact nx _ _ s2
def y_rf1 (K : PySem.W.Frag) : TS := (tSeq (tAsg (tFn spTold (tCons (tC (.str (S [116, 101, 120, 116]))) (tCons (tVar 4) (tCons (tVar 2) tNil)))) (gName 5)) (tSeq (tIfS (tOr (tTest (tOp rNeM (tOp rIxM (tVar 5) (tC (.int 0))) (tC (.str (S [102, 111, 114, 109]))))) (tOr (tTest (tOp rNeM (tIs .lst (tOp rIxM (tVar 5) (tC (.int 1)))) (tIs .lst (tVar 4)))) (tNot (tB (tFn SM (tCons (tOp rIxM (tVar 5) (tC (.int 1))) (tCons (tVar 4) tNil))))))) (tRet (tC (.bl false))) tNext) (tSeq (tIfS (tB (tIs .lst (tVar 4))) (tSeq (tDrop (tBM K "list" rAppendM (tVar 4) (tCons (tC (.str (S [109, 111, 114, 101]))) tNil))) (tIfS (tTest (tOp rNeM (tCB rLenM (tCons (tOp rIxM (tVar 5) (tC (.int 1))) tNil)) (tCB rLenM (tCons (tVar 4) tNil)))) (tRet (tC (.bl false))) tNext)) tNext) (tAsg (tNotV (tVar 2)) (gName 2)))))
theorem rf1_ok {K : PySem.W.Frag} {H : Hp} {x : V} {d : D} {nm : Bool} {De : L2.Ends} {s0 s1 s3 s5 : Option V} (hx : Dat H x d) (hp : KM.plain 80 d 0 = false) (hd : depth d + 1 < 100)
    (nx : d.ty ≠ .lst → ∀ H' x5, Same H H' → De.nx [s0, s1, some (.bl (!nm)), s3, some x, x5] H')
    (nl : d.ty = .lst → ∀ w, x = .ref w → ∀ H' x5, (∀ y o, y ≠ w → H y = some o → H' y = some o) → De.nx [s0, s1, some (.bl (!nm)), s3, some x, x5] H') :
    y_rf1 K De [s0, s1, some (.bl nm), s3, some x, s5] H := by
  have hsl : (1000000 : Nat) < sizeLine := bl_sl (Nat.le_refl BL)
  unfold y_rf1
  generalize hR : (tSeq (tIfS (tB (tIs .lst (tVar 4))) _ _) _ : TS) = R
  have rest : ∀ H' a, Same H H' → H' a = some (.lst [.str (S wForm), x]) → H a = none → R De [s0, s1, some (.bl nm), s3, some x, some (.ref a)] H' := by
    intro H' a s ha h0
    subst hR
    have hx2 := hx.mono s
    have ty := hx2.ty
    walk_at "mt"
    refine ⟨_, ty, ?_⟩
    by_cases ht : d.ty = .lst
    · rw [if_pos ht]
      obtain ⟨F, sF, r⟩ := hx
      cases r with
      | @lst w xs ds h rr z =>
        have hw := s _ _ (sF _ _ h)
        have hl2 := rr.length
        have z' : ds.length ≤ 1000000 := z
        have haw : a ≠ w := fun q => by
          have := sF _ _ h
          rw [← q, h0] at this; cases this
        refine ⟨tyL hw, ?_⟩
        dsimp only
        refine ⟨xs, hw, by omega, ?_⟩
        refine ⟨_, by rw [upd_ne haw, ha]; rfl, _, at1, ?_⟩
        dsimp only
        refine ⟨_, by rw [upd_same]; rfl, _, by rw [upd_same]; rfl, ?_⟩
        rw [if_neg (by simp)]
        exact nl rfl w rfl _ _ fun y o hy e => by rw [upd_ne hy]; exact s _ _ e
      | _ => cases ht
    · rw [if_neg ht]
      exact nx ht _ _ s
  walk_at "mt"
  refine ⟨_, x, d, nm, rfl, hx, .inl ⟨rfl, (fun z => by rw [hp] at z; cases z), fun _ H2 t s ht => ?_⟩⟩
  refine ⟨_, by rw [upd_same]; rfl, _, at0, ?_⟩
  dsimp only
  rw [if_neg (by decide)]
  have s2 := s.trans (same_upd (o := .lst [.str (S wForm), x]) ht)
  have ty := (hx.mono s2).ty
  refine ⟨_, by rw [upd_same]; rfl, _, at1, _, ty, _, ty, ?_⟩
  rw [if_neg (by simp)]
  refine ⟨_, by rw [upd_same]; rfl, _, at1, ?_⟩
  refine ⟨x, x, d, rfl, hx.mono s2, hx.mono s2, .inl hd, true, rfl, ?_⟩
  simp only [Bool.not_true, Bool.false_eq_true, ↓reduceIte]
  exact rest _ _ s2 upd_same (Same.free s ht)
end K56
set_option Elab.async false
set_option linter.all false
set_option maxRecDepth 100000
set_option maxHeartbeats 4000000
namespace K56
open PySem PySem.Spec PyProof.Rows L2 MT
open SX (S)
local macro_rules | `(tactic| walk_at "mt") => `(tactic| simp only [L2.start, List.map_cons, List.map_nil, List.length_cons, List.length_nil, List.replicate_succ, List.replicate_zero, Nat.reduceSub, Nat.reduceAdd, Nat.sub_self, Nat.zero_add, List.cons_append, List.nil_append, List.append_nil, List.getElem?_cons_zero, List.getElem?_cons_succ, List.set_cons_zero, List.set_cons_succ, Option.some.injEq, exists_eq_left', exists_eq_left, exists_eq_right, V.bl.injEq, V.int.injEq, V.str.injEq, V.ref.injEq, reduceCtorEq, false_and, and_false, true_and, and_true, false_or, or_false, exists_false, exists_const, ↓reduceIte, Bool.false_eq_true, decide_eq_true_eq, Bool.and_eq_true, Bool.not_true, Bool.not_false, List.cons.injEq, exists_and_left, exists_and_right,
  tRet, tBM, tBM0, tAndV, tOrV, tNotV, tAnd, tOr, tNot, tB, tTest, tIf, tIfS, tC, tVar, tOp, tUn, tChain, rI0, rI, rU, tFn, tCons, tNil, tCB, tTup, tLst, tAsg, gName, tNext, tDrop, tRetN, tPar, tPar3, tAug, tReplC, tRevS, rLenM2, rIsBM, tDNotIn, tDGet, rSumM, rMaxM, rMinM, gSub, rSetL, tRaiseO, tFnW, tXf, gTup, gUnl, gCons, gNil, rPopM, rAppendM, rExtendM, rTupM, rListM, ipI, tIs, tIss, rLenM, rIxM, rAddM, rEqM, rNeM, rSignIn, rInt, rAbs, rStrI, tSl, tPart, tNoPart, rSlM, tIsN, tNotN, List.any_cons, List.any_nil, Bool.or_false, tSeq, isa, D.ty, decide_true, decide_false, Bool.true_or, Bool.or_true, Bool.false_or, Bool.and_true, Bool.true_and, Bool.false_and, Bool.and_false, eq_self_iff_true, not_true_eq_false, not_false_eq_true, bne_self_eq_false])
open KM
structure BadD (d : D) : Prop where
  p : ∀ n, KM.plain 80 d n = false
  z : depth d = 0
  t : d.ty ≠ .lst
def y_lp1 (K : PySem.W.Frag) (B : TS) : TS := (tFor (iSq K (tLst (tCons (tVar 3) (tCons (tTup (tCons (tVar 1) (tCons (tVar 3) tNil))) (tCons (tLst (tCons (tVar 3) (tCons (tVar 1) tNil))) (tCons (tTup (tCons (tLst (tCons (tVar 1) (tCons (tTup (tCons (tVar 3) tNil)) tNil))) tNil)) tNil)))))) (gName 4) B)
theorem lp1_ok {K : PySem.W.Frag} {H : Hp} {v bad : V} {d db : D} {nm : Bool} {De : L2.Ends} {s0 s4 s5 : Option V} (hv : Dat H v d) (hb : Dat H bad db) (hbd : BadD db) (hd : depth d ≤ 90)
    (nx : ∀ H' nm x4 x5, Same H H' → De.nx [s0, some v, some (.bl nm), some bad, x4, x5] H') :
    y_lp1 K (y_rf1 K) De [s0, some v, some (.bl nm), some bad, s4, s5] H := by
  have hsl : (1000000 : Nat) < sizeLine := bl_sl (Nat.le_refl BL)
  have rf := @rf1_ok K
  revert rf
  unfold y_lp1
  generalize y_rf1 K = B
  intro rf
  unfold tFor iSq
  walk_at "mt"
  refine ⟨by omega, fun t1 h1 => ⟨by omega, fun w hw => ⟨by omega, fun e he => ⟨by omega, fun g hg => ⟨by omega, fun t3 h3 => ⟨by omega, fun p hp => ?_⟩⟩⟩⟩⟩⟩
  have sa := same_upd (o := .tup [v, bad]) h1
  have sb := same_upd (o := .lst [bad, v]) hw
  have sc := same_upd (o := .tup [bad]) he
  have sd := same_upd (o := .lst [v, .ref e]) hg
  have se := same_upd (o := .tup [.ref g]) h3
  have sf := same_upd (o := .lst [bad, .ref t1, .ref w, .ref t3]) hp
  have k1 : upd H t1 (.tup [v, bad]) t1 = some (.tup [v, bad]) := upd_same
  have kw : upd (upd H t1 (.tup [v, bad])) w (.lst [bad, v]) w = some (.lst [bad, v]) := upd_same
  have ke : upd (upd (upd H t1 (.tup [v, bad])) w (.lst [bad, v])) e (.tup [bad]) e = some (.tup [bad]) := upd_same
  have kg : upd (upd (upd (upd H t1 (.tup [v, bad])) w (.lst [bad, v])) e (.tup [bad])) g (.lst [v, .ref e]) g = some (.lst [v, .ref e]) := upd_same
  have k3 : upd (upd (upd (upd (upd H t1 (.tup [v, bad])) w (.lst [bad, v])) e (.tup [bad])) g (.lst [v, .ref e])) t3 (.tup [.ref g]) t3 = some (.tup [.ref g]) := upd_same
  have kp : upd (upd (upd (upd (upd (upd H t1 (.tup [v, bad])) w (.lst [bad, v])) e (.tup [bad])) g (.lst [v, .ref e])) t3 (.tup [.ref g])) p (.lst [bad, .ref t1, .ref w, .ref t3]) p = some (.lst [bad, .ref t1, .ref w, .ref t3]) := upd_same
  have hw0 : H w = none := Same.free sa hw
  revert sa sb sc sd se sf k1 kw ke kg k3 kp h1 hw he hg h3 hp
  generalize upd (upd (upd (upd (upd (upd H t1 (.tup [v, bad])) w (.lst [bad, v])) e (.tup [bad])) g (.lst [v, .ref e])) t3 (.tup [.ref g])) p (.lst [bad, .ref t1, .ref w, .ref t3]) = HL
  generalize upd (upd (upd (upd (upd H t1 (.tup [v, bad])) w (.lst [bad, v])) e (.tup [bad])) g (.lst [v, .ref e])) t3 (.tup [.ref g]) = H5
  generalize upd (upd (upd (upd H t1 (.tup [v, bad])) w (.lst [bad, v])) e (.tup [bad])) g (.lst [v, .ref e]) = H4
  generalize upd (upd (upd H t1 (.tup [v, bad])) w (.lst [bad, v])) e (.tup [bad]) = H3
  generalize upd (upd H t1 (.tup [v, bad])) w (.lst [bad, v]) = H2
  generalize upd H t1 (.tup [v, bad]) = H1
  intro h1 hw he hg h3 hp sa sb sc sd se sf k1 kw ke kg k3 kp
  have n1 : t1 ≠ w := fun z => by rw [z, hw] at k1; cases k1
  have ne : e ≠ w := fun z => by rw [← z, he] at kw; cases kw
  have ng : g ≠ w := fun z => by have := sc _ _ kw; rw [← z, hg] at this; cases this
  have n3 : t3 ≠ w := fun z => by have := sd _ _ (sc _ _ kw); rw [← z, h3] at this; cases this
  have np : p ≠ w := fun z => by have := se _ _ (sd _ _ (sc _ _ kw)); rw [← z, hp] at this; cases this
  have q1 : HL t1 = some (.tup [v, bad]) := sf _ _ (se _ _ (sd _ _ (sc _ _ (sb _ _ k1))))
  have qw : HL w = some (.lst [bad, v]) := sf _ _ (se _ _ (sd _ _ (sc _ _ kw)))
  have qe : HL e = some (.tup [bad]) := sf _ _ (se _ _ (sd _ _ ke))
  have qg : HL g = some (.lst [v, .ref e]) := sf _ _ (se _ _ kg)
  have q3 : HL t3 = some (.tup [.ref g]) := sf _ _ k3
  have sH : Same H HL := ((((sa.trans sb).trans sc).trans sd).trans se).trans sf
  clear sa sb sc sd se sf k1 kw ke kg k3 h1 hw he hg h3 hp
  have dl : ∀ {y : Addr} {o : HO}, y ≠ w → HL y = some o → MT.del HL w y = some o := fun hy h => by unfold MT.del; rw [if_neg hy]; exact h
  have sz : Same H (MT.del HL w) := del_same' sH hw0
  obtain ⟨Fv, sFv, rv⟩ := hv
  obtain ⟨Fb, sFb, rb⟩ := hb
  have rv' := rv.mono (sFv.trans sz)
  have rb' := rb.mono (sFb.trans sz)
  have r1 : Rep (MT.del HL w) (.ref t1) (.tup [d, db]) := .tup (dl n1 q1) (.cons rv' (.one rb')) (by show 2 ≤ 1000000; omega)
  have re : Rep (MT.del HL w) (.ref e) (.tup [db]) := .tup (dl ne qe) (.one rb') (by show 1 ≤ 1000000; omega)
  have rg : Rep (MT.del HL w) (.ref g) (.lst [d, .tup [db]]) := .lst (dl ng qg) (.cons rv' (.one re)) (by show 2 ≤ 1000000; omega)
  have r3 : Rep (MT.del HL w) (.ref t3) (.tup [.lst [d, .tup [db]]]) := .tup (dl n3 q3) (.one rg) (by show 1 ≤ 1000000; omega)
  have keep : ∀ {H2 : Hp}, (∀ y o, y ≠ w → HL y = some o → H2 y = some o) → Same (MT.del HL w) H2 := fun k y o h => by
    unfold MT.del at h
    split at h
    · cases h
    · rename_i hy; exact k y o hy h
  have hz := hbd.z
  have bp := hbd.p
  refine .inl ⟨⟨_, .of kp⟩, ?_⟩
  refine for_list (K := K) (a := p) (xs := [bad, .ref t1, .ref w, .ref t3]) (g := gName 4) (tb := B) (D := De) (fun i σ H2 => ∃ nm x4 x5, (∀ y o, y ≠ w → HL y = some o → H2 y = some o) ∧ (i ≤ 2 → H2 w = some (.lst [bad, v])) ∧ σ = [s0, some v, some (.bl nm), some bad, x4, x5])
    ⟨nm, _, _, fun y o _ h => h, fun _ => qw, rfl⟩ (fun i σ H2 _ z => ?_) (fun i x σ H2 hx z => ?_) fun σ H2 z => ?_
  · obtain ⟨nm, x4, x5, k, _, rfl⟩ := z
    exact .of (k _ _ np kp)
  · obtain ⟨nm, x4, x5, k, kw, rfl⟩ := z
    have step : ∀ {d' : D}, Dat H2 x d' → KM.plain 80 d' 0 = false → depth d' + 1 < 100 → (d'.ty = .lst → i = 2 ∧ x = .ref w) → B { De with nx := fun σ H2 => ∃ nm x4 x5, (∀ y o, y ≠ w → HL y = some o → H2 y = some o) ∧ (i + 1 ≤ 2 → H2 w = some (.lst [bad, v])) ∧ σ = [s0, some v, some (.bl nm), some bad, x4, x5], ct := fun σ H2 => ∃ nm x4 x5, (∀ y o, y ≠ w → HL y = some o → H2 y = some o) ∧ (i + 1 ≤ 2 → H2 w = some (.lst [bad, v])) ∧ σ = [s0, some v, some (.bl nm), some bad, x4, x5], bk := De.nx } [s0, some v, some (.bl nm), some bad, some x, x5] H2 := by
      intro d' hd' hp' hdep hl
      refine rf hd' hp' hdep (fun _ H' y5 s => ⟨_, _, _, fun y o hy h => s _ _ (k y o hy h), fun hi => s _ _ (kw (by omega)), rfl⟩) fun hty w' ew H' y5 s => ?_
      obtain ⟨hi, hxw⟩ := hl hty
      rw [hxw] at ew
      cases ew
      exact ⟨_, _, _, fun y o hy h => s y o hy (k y o hy h), fun hi2 => by omega, rfl⟩
    have sk := keep k
    match i, hx with
    | 0, hx =>
      cases hx
      exact step (.of sk rb') (bp 0) (by omega) fun z => absurd z hbd.t
    | 1, hx =>
      cases hx
      exact step (.of sk r1) (by simp [KM.plain, plains, bp]) (by simp only [depth, depths]; omega) fun z => by cases z
    | 2, hx =>
      cases hx
      exact step ⟨H2, .refl _, .lst (kw (by omega)) (.cons (rb'.mono sk) (.one (rv'.mono sk))) (by show 2 ≤ 1000000; omega)⟩ (by simp [KM.plain, plains, bp]) (by simp only [depth, depths]; omega) fun z => ⟨rfl, rfl⟩
    | 3, hx =>
      cases hx
      exact step (.of sk r3) (by simp [KM.plain, plains, bp]) (by simp only [depth, depths]; omega) fun z => by cases z
    | n + 4, hx => simp at hx
  · obtain ⟨nm, x4, x5, k, _, rfl⟩ := z
    exact nx _ _ _ _ (sz.trans (keep k))
end K56
set_option Elab.async false
set_option linter.all false
set_option maxRecDepth 100000
set_option maxHeartbeats 4000000
namespace K56
open PySem PySem.Spec PyProof.Rows L2 MT
open SX (S)
local macro_rules | `(tactic| walk_at "mt") => `(tactic| simp only [L2.start, List.map_cons, List.map_nil, List.length_cons, List.length_nil, List.replicate_succ, List.replicate_zero, Nat.reduceSub, Nat.reduceAdd, Nat.sub_self, Nat.zero_add, List.cons_append, List.nil_append, List.append_nil, List.getElem?_cons_zero, List.getElem?_cons_succ, List.set_cons_zero, List.set_cons_succ, Option.some.injEq, exists_eq_left', exists_eq_left, exists_eq_right, V.bl.injEq, V.int.injEq, V.str.injEq, V.ref.injEq, reduceCtorEq, false_and, and_false, true_and, and_true, false_or, or_false, exists_false, exists_const, ↓reduceIte, Bool.false_eq_true, decide_eq_true_eq, Bool.and_eq_true, Bool.not_true, Bool.not_false, List.cons.injEq, exists_and_left, exists_and_right,
  tRet, tBM, tBM0, tAndV, tOrV, tNotV, tAnd, tOr, tNot, tB, tTest, tIf, tIfS, tC, tVar, tOp, tUn, tChain, rI0, rI, rU, tFn, tCons, tNil, tCB, tTup, tLst, tAsg, gName, tNext, tDrop, tRetN, tPar, tPar3, tAug, tReplC, tRevS, rLenM2, rIsBM, tDNotIn, tDGet, rSumM, rMaxM, rMinM, gSub, rSetL, tRaiseO, tFnW, tXf, gTup, gUnl, gCons, gNil, rPopM, rAppendM, rExtendM, rTupM, rListM, ipI, tIs, tIss, rLenM, rIxM, rAddM, rEqM, rNeM, rSignIn, rInt, rAbs, rStrI, tSl, tPart, tNoPart, rSlM, tIsN, tNotN, List.any_cons, List.any_nil, Bool.or_false, tSeq, isa, D.ty, decide_true, decide_false, Bool.true_or, Bool.or_true, Bool.false_or, Bool.and_true, Bool.true_and, Bool.false_and, Bool.and_false, eq_self_iff_true, not_true_eq_false, not_false_eq_true, bne_self_eq_false])
open KM
def dsW : List D := [.non, .int 7, .bl true, .lst [.str [40, 48, 41]], .tup [.str [40, 48, 41]], .dct [], .str [], .str [32], .str [44], .str [40, 41, 40, 41], .str [40, 44, 41], .str [40, 32, 41], .str [91, 48, 44, 93], .str [48, 48], .str [40, 48, 32, 41], .str [40, 48], .str [48, 41]]
theorem dsW_ok : ∀ d ∈ dsW, (∀ l, d = .str l → parse 80 l = none) ∧ depth d + 1 < 100 := by
  intro d hd
  unfold dsW at hd
  simp only [List.mem_cons, List.not_mem_nil, or_false] at hd
  rcases hd with rfl | rfl | rfl | rfl | rfl | rfl | rfl | rfl | rfl | rfl | rfl | rfl | rfl | rfl | rfl | rfl | rfl <;>
    exact ⟨fun l e => (by first | (cases e; rfl) | (cases e)), by decide +kernel⟩
def dsB : List D := [.non, .int (-1), .int (10 ^ 20), .str [], .str [65], .str [97, 98, 99, 100, 101, 102, 103, 104, 105, 106, 107, 108, 109], .str [97, 32, 98], .dct [], .dct [([97], 1)], .str [49], .str [97, 49], .str [90, 122], .str [43], .int (-10 ^ 19)]
theorem dsB_ok : ∀ d ∈ dsB, BadD d := by
  intro d hd
  unfold dsB at hd
  simp only [List.mem_cons, List.not_mem_nil, or_false] at hd
  rcases hd with rfl | rfl | rfl | rfl | rfl | rfl | rfl | rfl | rfl | rfl | rfl | rfl | rfl | rfl <;>
    exact ⟨fun n => (by first | rfl | (simp only [KM.plain]; decide +kernel)), rfl, by decide +kernel⟩

def vsW (q1 q2 q3 : Addr) : List V := [.non, .int 7, .bl true, .ref q1, .ref q2, .ref q3, .str (S []), .str (S [32]), .str (S [44]), .str (S [40, 41, 40, 41]), .str (S [40, 44, 41]), .str (S [40, 32, 41]), .str (S [91, 48, 44, 93]), .str (S [48, 48]), .str (S [40, 48, 32, 41]), .str (S [40, 48]), .str (S [48, 41])]
def y_lp2 (K : PySem.W.Frag) (B : TS) : TS := (tFor (iSq K (tLst (tCons (tC .non) (tCons (tC (.int 7)) (tCons (tC (.bl true)) (tCons (tLst (tCons (tC (.str (S [40, 48, 41]))) tNil)) (tCons (tTup (tCons (tC (.str (S [40, 48, 41]))) tNil)) (tCons tDNewK (tCons (tC (.str (S []))) (tCons (tC (.str (S [32]))) (tCons (tC (.str (S [44]))) (tCons (tC (.str (S [40, 41, 40, 41]))) (tCons (tC (.str (S [40, 44, 41]))) (tCons (tC (.str (S [40, 32, 41]))) (tCons (tC (.str (S [91, 48, 44, 93]))) (tCons (tC (.str (S [48, 48]))) (tCons (tC (.str (S [40, 48, 32, 41]))) (tCons (tC (.str (S [40, 48]))) (tCons (tC (.str (S [48, 41]))) tNil))))))))))))))))))) (gName 4) B)
theorem lp2_ok {K : PySem.W.Frag} {H : Hp} {nm : Bool} {De : L2.Ends} {s0 s1 s3 s4 s5 : Option V}
    (nx : ∀ H' x4 x5, Same H H' → De.nx [s0, s1, some (.bl nm), s3, x4, x5] H') :
    y_lp2 K (y_rf2 K) De [s0, s1, some (.bl nm), s3, s4, s5] H := by
  have hsl : (1000000 : Nat) < sizeLine := bl_sl (Nat.le_refl BL)
  have rf := @rf2_ok K
  revert rf
  unfold y_lp2
  generalize y_rf2 K = B
  intro rf
  unfold tFor iSq tDNewK
  walk_at "mt"
  refine ⟨by omega, fun q1 h1 => ⟨by omega, fun q2 h2 => fun q3 h3 => ⟨by omega, fun p hp => ?_⟩⟩⟩
  have sa := same_upd (o := .lst [.str (S [40, 48, 41])]) h1
  have sb := same_upd (o := .tup [.str (S [40, 48, 41])]) h2
  have sc := same_upd (o := .dK []) h3
  have k1 : upd H q1 (.lst [.str (S [40, 48, 41])]) q1 = some (.lst [.str (S [40, 48, 41])]) := upd_same
  have k2 : upd (upd H q1 (.lst [.str (S [40, 48, 41])])) q2 (.tup [.str (S [40, 48, 41])]) q2 = some (.tup [.str (S [40, 48, 41])]) := upd_same
  have k3 : upd (upd (upd H q1 (.lst [.str (S [40, 48, 41])])) q2 (.tup [.str (S [40, 48, 41])])) q3 (.dK []) q3 = some (.dK []) := upd_same
  revert sa sb sc k1 k2 k3 hp
  generalize upd (upd (upd H q1 (.lst [.str (S [40, 48, 41])])) q2 (.tup [.str (S [40, 48, 41])])) q3 (.dK []) = H3
  intro hp sa sb sc k1 k2 k3
  have e : ([.non, .int 7, .bl true, .ref q1, .ref q2, .ref q3, .str (S []), .str (S [32]), .str (S [44]), .str (S [40, 41, 40, 41]), .str (S [40, 44, 41]), .str (S [40, 32, 41]), .str (S [91, 48, 44, 93]), .str (S [48, 48]), .str (S [40, 48, 32, 41]), .str (S [40, 48]), .str (S [48, 41])] : List V) = vsW q1 q2 q3 := rfl
  rw [e]
  have sd := same_upd (o := .lst (vsW q1 q2 q3)) hp
  have kp : upd H3 p (.lst (vsW q1 q2 q3)) p = some (.lst (vsW q1 q2 q3)) := upd_same
  revert sd kp
  generalize upd H3 p (.lst (vsW q1 q2 q3)) = HL
  intro sd kp
  have q1' := sd _ _ (sc _ _ (sb _ _ k1))
  have q2' := sd _ _ (sc _ _ k2)
  have q3' := sd _ _ k3
  have sH : Same H HL := ((sa.trans sb).trans sc).trans sd
  have st : ∀ {l : List Nat}, l.length ≤ 20 → Rep HL (.str (S l)) (.str l) := fun h => .str (by show _ ≤ 1000000; omega)
  have one : [D.str [40, 48, 41]].length ≤ BL := by show 1 ≤ 1000000; omega
  have r : RepL HL (vsW q1 q2 q3) dsW :=
    (.cons .non (.cons (.int 7) (.cons (.bl true) (.cons (.lst q1' (.one (st (by decide))) one) (.cons (.tup q2' (.one (st (by decide))) one) (.cons (.dct (ds := []) (by decide) q3') (.cons (st (by decide)) (.cons (st (by decide)) (.cons (st (by decide)) (.cons (st (by decide)) (.cons (st (by decide)) (.cons (st (by decide)) (.cons (st (by decide)) (.cons (st (by decide)) (.cons (st (by decide)) (.cons (st (by decide)) (.one (st (by decide)))))))))))))))))))
  refine .inl ⟨⟨_, .of kp⟩, ?_⟩
  revert kp r
  generalize vsW q1 q2 q3 = xs
  intro kp r
  refine for_list (K := K) (a := p) (xs := xs) (g := gName 4) (tb := B) (D := De) (fun i σ H2 => ∃ x4 x5, Same HL H2 ∧ σ = [s0, s1, some (.bl nm), s3, x4, x5]) ⟨_, _, .refl _, rfl⟩ (fun i σ H2 _ z => ?_) (fun i x σ H2 hx z => ?_) fun σ H2 z => ?_
  · obtain ⟨x4, x5, s, rfl⟩ := z
    exact .of (s _ _ kp)
  · obtain ⟨x4, x5, s, rfl⟩ := z
    obtain ⟨d, hd, rd⟩ := r.get hx
    obtain ⟨h1, h2⟩ := dsW_ok d (List.mem_of_getElem? hd)
    exact rf (.of s rd) h1 h2 fun H' y5 s2 => ⟨_, _, s.trans s2, rfl⟩
  · obtain ⟨x4, x5, s, rfl⟩ := z
    exact nx _ _ _ (sH.trans s)
def vsB (q1 q2 : Addr) : List V := [.non, .int (-1), .int (10 ^ 20), .str (S []), .str (S [65]), .str (S [97, 98, 99, 100, 101, 102, 103, 104, 105, 106, 107, 108, 109]), .str (S [97, 32, 98]), .ref q1, .ref q2, .str (S [49]), .str (S [97, 49]), .str (S [90, 122]), .str (S [43]), .int (-10 ^ 19)]
/-- what is none is refused -/
def spRefused : Sp := fun vs H Q _ => ∃ (F0 H0 F : Hp) (b : Addr) (c : Nat) (v : V) (d : D) (nm : Bool), vs = [.ref b, v, .bl nm] ∧ Wd b F0 H0 c F H ∧ Rep F v d ∧ depth d ≤ 90 ∧ c ≤ 800000000 ∧
  ∀ H', Wd b F0 H0 (c + 1) F H' → Q (.bl true) H'
theorem pr_law_refused {K : PySem.W.Frag} (vs : List V) (H : Hp) (Q : VK) (E : XK) (h : spRefused vs H Q E) : t_law_refused K spTake spTold SM (E0N Q) (L2.start ["box", "value", "named", "bad", "wrong", "told"] vs) H := by
  obtain ⟨F0, H0, F, b, c, v, d, nm, rfl, w, rv, hd, hc, q⟩ := h
  have hsl : (1000000 : Nat) < sizeLine := bl_sl (Nat.le_refl BL)
  have l1 := @lp1_ok K
  have l2 := @lp2_ok K
  unfold t_law_refused
  unfold y_lp1 y_rf1 at l1
  unfold y_lp2 y_rf2 at l2
  revert l1 l2
  generalize (tFor (iSq K (tLst (tCons (tVar 3) _))) _ _ : TS) = LA
  generalize (tFor (iSq K (tLst (tCons (tC .non) _))) _ _ : TS) = LB
  intro l1 l2
  have rest : ∀ (H1 : Hp) bad db, Wd b F0 H0 (c + 1) F H1 → Dat H1 bad db → BadD db → (tSeq LA (tSeq LB (tRet (tC (.bl true)))) : TS) (E0N Q) [some (.ref b), some v, some (.bl nm), some bad, none, none] H1 := by
    intro H1 bad db w1 hb hbd
    unfold tSeq
    refine l1 (.of w1.sub rv) hb hbd hd fun H2 nm2 x4 x5 s2 => ?_
    refine l2 fun H3 y4 y5 s3 => ?_
    exact q _ (w1.same (s2.trans s3))
  revert rest
  generalize (tSeq LA _ : TS) = R
  intro rest
  unfold tDNewK tDisp tPairs tPairs
  walk_at "mt"
  refine ⟨⟨by omega, by omega, by decide⟩, fun q1 h1 q2 h2 => ⟨upd_same, [(Sum.inr (S [97]), .int 1)], rfl, by decide, ⟨by omega, by omega, by decide⟩, by omega, fun p hp => ?_⟩⟩
  have em : mergeK [] [((Sum.inr (S [97]) : Key), V.int 1)] = [(Sum.inr (S [97]), .int 1)] := by simp [mergeK, putK]
  have ez : ((10 : Int) ^ Int.toNat 20) = 10 ^ 20 := rfl
  have ey : ((10 : Int) ^ Int.toNat 19) = 10 ^ 19 := rfl
  rw [em, L2.upd_upd] at hp ⊢
  rw [ez, ey]
  have w1 := w.junk (o := .dK []) h1
  have w2 := w1.junk (o := .dK [(Sum.inr (S [97]), .int 1)]) h2
  have e : ([V.non, V.int (-1), V.int (10 ^ 20), V.str (S []), V.str (S [65]), V.str (S [97, 98, 99, 100, 101, 102, 103, 104, 105, 106, 107, 108, 109]), V.str (S [97, 32, 98]), V.ref q1, V.ref q2, V.str (S [49]), V.str (S [97, 49]), V.str (S [90, 122]), V.str (S [43]), V.int (-10 ^ 19)] : List V) = vsB q1 q2 := rfl
  rw [e]
  have w3 := w2.junk (o := .lst (vsB q1 q2)) hp
  have np := w2.ne hp
  have k1 : upd H q1 (.dK []) q1 = some (.dK []) := upd_same
  have k2 : upd (upd H q1 (.dK [])) q2 (.dK [(Sum.inr (S [97]), .int 1)]) q2 = some (.dK [(Sum.inr (S [97]), .int 1)]) := upd_same
  have n1 := w.ne h1
  have n2 := w1.ne h2
  refine ⟨b, 14, c, rfl, by omega, by omega, w3.bx, by omega, fun k o hk hbk => ?_⟩
  have w4 := w3.take hbk
  have s1 := same_upd (o := .dK [(Sum.inr (S [97]), .int 1)]) h2
  have s2 := same_upd (o := .lst (vsB q1 q2)) hp
  dsimp only
  refine ⟨vsB q1 q2, by rw [upd_ne np, upd_same]; rfl, ?_⟩
  have st : ∀ {l : List Nat}, l.length ≤ 20 → Rep (upd (upd (upd (upd H q1 (.dK [])) q2 (.dK [(Sum.inr (S [97]), .int 1)])) p (.lst (vsB q1 q2))) b o) (.str (S l)) (.str l) := fun h => .str (by show _ ≤ 1000000; omega)
  have g1 : upd (upd (upd (upd H q1 (.dK [])) q2 (.dK [(Sum.inr (S [97]), .int 1)])) p (.lst (vsB q1 q2))) b o q1 = some (.dK []) := by rw [upd_ne n1]; exact s2 _ _ (s1 _ _ k1)
  have g2 : upd (upd (upd (upd H q1 (.dK [])) q2 (.dK [(Sum.inr (S [97]), .int 1)])) p (.lst (vsB q1 q2))) b o q2 = some (.dK [(Sum.inr (S [97]), .int 1)]) := by rw [upd_ne n2]; exact s2 _ _ k2
  revert st g1 g2 w4
  generalize upd (upd (upd (upd H q1 (.dK [])) q2 (.dK [(Sum.inr (S [97]), .int 1)])) p (.lst (vsB q1 q2))) b o = HZ
  intro w4 st g1 g2
  have r : RepL HZ (vsB q1 q2) dsB :=
    (.cons .non (.cons (.int _) (.cons (.int _) (.cons (st (by decide)) (.cons (st (by decide)) (.cons (st (by decide)) (.cons (st (by decide)) (.cons (.dct (ds := []) (by decide) g1) (.cons (.dct (ds := [([97], 1)]) (by decide) g2) (.cons (st (by decide)) (.cons (st (by decide)) (.cons (st (by decide)) (.cons (st (by decide)) (.one (.int _)))))))))))))))
  have hk2 : k < dsB.length := hk
  obtain ⟨x, hx, rx⟩ := r.getD (List.getElem?_eq_getElem hk2)
  exact ⟨x, atI_nat hx, rest _ _ _ w4 (.of (.refl _) rx) (dsB_ok _ (List.getElem_mem hk2))⟩
end K56
set_option Elab.async false
set_option linter.all false
set_option maxRecDepth 100000
set_option maxHeartbeats 4000000
namespace K56
open PySem PySem.Spec PyProof.Rows L2 MT
open SX (S)
local macro_rules | `(tactic| walk_at "mt") => `(tactic| simp only [L2.start, List.map_cons, List.map_nil, List.length_cons, List.length_nil, List.replicate_succ, List.replicate_zero, Nat.reduceSub, Nat.reduceAdd, Nat.sub_self, Nat.zero_add, List.cons_append, List.nil_append, List.append_nil, List.getElem?_cons_zero, List.getElem?_cons_succ, List.set_cons_zero, List.set_cons_succ, Option.some.injEq, exists_eq_left', exists_eq_left, exists_eq_right, V.bl.injEq, V.int.injEq, V.str.injEq, V.ref.injEq, reduceCtorEq, false_and, and_false, true_and, and_true, false_or, or_false, exists_false, exists_const, ↓reduceIte, Bool.false_eq_true, decide_eq_true_eq, Bool.and_eq_true, Bool.not_true, Bool.not_false, List.cons.injEq, exists_and_left, exists_and_right,
  tRet, tBM, tBM0, tAndV, tOrV, tNotV, tAnd, tOr, tNot, tB, tTest, tIf, tIfS, tC, tVar, tOp, tUn, tChain, rI0, rI, rU, tFn, tCons, tNil, tCB, tTup, tLst, tAsg, gName, tNext, tDrop, tRetN, tPar, tPar3, tAug, tReplC, tRevS, rLenM2, rIsBM, tDNotIn, tDGet, rSumM, rMaxM, rMinM, gSub, rSetL, tRaiseO, tFnW, tXf, gTup, gUnl, gCons, gNil, rPopM, rAppendM, rExtendM, rTupM, rListM, ipI, tIs, tIss, rLenM, rIxM, rAddM, rEqM, rNeM, rSignIn, rInt, rAbs, rStrI, tSl, tPart, tNoPart, rSlM, tIsN, tNotN, List.any_cons, List.any_nil, Bool.or_false, tSeq, isa, D.ty, decide_true, decide_false, Bool.true_or, Bool.or_true, Bool.false_or, Bool.and_true, Bool.true_and, Bool.false_and, Bool.and_false, eq_self_iff_true, not_true_eq_false, not_false_eq_true, bne_self_eq_false])
open KM
def y_lw1 : TS := (tSeq (tIfS (tNot (tB (tFn spRight (tCons (tVar 3) (tCons (tFn spLawValue (tCons (tVar 3) tNil)) (tCons (tVar 4) tNil)))))) (tRet (tC (.bl false))) tNext) (tAsg (tNotV (tVar 4)) (gName 4)))
theorem lw1_ok {F H : Hp} {b : Addr} {c : Nat} {nm : Bool} {De : L2.Ends} {s0 s1 s2 s5 s6 s7 s8 : Option V} (sF : Same F H) (fb : F b = none) (bx : Bx H b c) (hc : c ≤ 600000000)
    (nx : ∀ F' H', Wd b F H (c + 280) F' H' → De.nx [s0, s1, s2, some (.ref b), some (.bl (!nm)), s5, s6, s7, s8] H') :
    y_lw1 De [s0, s1, s2, some (.ref b), some (.bl nm), s5, s6, s7, s8] H := by
  unfold y_lw1
  walk_at "mt"
  refine ⟨F, b, c, rfl, sF, fb, bx, by omega, fun d v F' H' hp hd ht w r => ?_⟩
  refine ⟨F, H, F', b, c + 200, v, d, nm, rfl, w, r, hp 80 0 (by omega), by omega, by omega, fun H2 w2 => ⟨true, rfl, ?_⟩⟩
  simp only [Bool.not_true, Bool.false_eq_true, ↓reduceIte]
  exact nx _ _ w2
def y_lwr : TS := (tIfS (tNot (tB (tFn spRefused (tCons (tVar 3) (tCons (tFn spLawValue (tCons (tVar 3) tNil)) (tCons (tVar 4) tNil)))))) (tRet (tC (.bl false))) tNext)
theorem lwr_ok {F H : Hp} {b : Addr} {c : Nat} {nm : Bool} {De : L2.Ends} {s0 s1 s2 s5 s6 s7 s8 : Option V} (sF : Same F H) (fb : F b = none) (bx : Bx H b c) (hc : c ≤ 600000000)
    (nx : ∀ F' H', Wd b F H (c + 201) F' H' → De.nx [s0, s1, s2, some (.ref b), some (.bl nm), s5, s6, s7, s8] H') :
    y_lwr De [s0, s1, s2, some (.ref b), some (.bl nm), s5, s6, s7, s8] H := by
  unfold y_lwr
  walk_at "mt"
  refine ⟨F, b, c, rfl, sF, fb, bx, by omega, fun d v F' H' hp hd ht w r => ?_⟩
  refine ⟨F, H, F', b, c + 200, v, d, nm, rfl, w, r, by omega, by omega, fun H2 w2 => ⟨true, rfl, ?_⟩⟩
  simp only [Bool.not_true, Bool.false_eq_true, ↓reduceIte]
  exact nx _ _ w2
def y_lwd : TS := (tSeq (tPar 6 7 (tCons (tFn spDeep (tCons (tVar 3) (tCons (tC (.int 80)) tNil))) (tCons (tFn spDeep (tCons (tVar 3) (tCons (tC (.int 81)) tNil))) tNil))) (tSeq (tIfS (tOr (tNot (tB (tFn spRight (tCons (tVar 3) (tCons (tVar 6) (tCons (tVar 4) tNil)))))) (tTest (tOp rNeM (tOp rIxM (tFn spTold (tCons (tC (.str (S [116, 101, 120, 116]))) (tCons (tVar 7) (tCons (tVar 4) tNil)))) (tC (.int 0))) (tC (.str (S [102, 111, 114, 109])))))) (tRet (tC (.bl false))) tNext) (tSeq (tAsg (tFn spLText (tCons (tVar 7) tNil)) (gName 8)) (tIfS (tNot (tB (tFn SM (tCons (tFn spTold (tCons (tC (.str (S [114, 101, 97, 100]))) (tCons (tVar 8) (tCons (tVar 4) tNil)))) (tCons (tLst (tCons (tC (.str (S [116, 101, 120, 116]))) (tCons (tVar 8) tNil))) tNil))))) (tRet (tC (.bl false))) tNext))))
theorem lwd_ok {F H : Hp} {b : Addr} {c : Nat} {nm : Bool} {De : L2.Ends} {s0 s1 s2 s5 s6 s7 s8 : Option V} (sF : Same F H) (fb : F b = none) (bx : Bx H b c) (hc : c ≤ 600000000)
    (nx : ∀ F' H' x6 x7 x8, Wd b F H (c + 480) F' H' → De.nx [s0, s1, s2, some (.ref b), some (.bl nm), s5, x6, x7, x8] H') :
    y_lwd De [s0, s1, s2, some (.ref b), some (.bl nm), s5, s6, s7, s8] H := by
  have hsl : (1000000 : Nat) < sizeLine := bl_sl (Nat.le_refl BL)
  unfold y_lwd
  generalize hR : (tSeq (tAsg (tFn spLText _) (gName 8)) _ : TS) = R
  walk_at "mt"
  refine ⟨F, b, c, 80, rfl, by omega, by omega, sF, fb, bx, by omega, fun d v F1 H1 hp hd ht w r => ?_⟩
  refine ⟨F1, b, c + 200, 81, rfl, by omega, by omega, w.sub, w.fb, w.bx, by omega, fun d2 v2 F2 H2 hp2 hd2 ht2 w2 r2 => ⟨_, _, ⟨rfl, rfl⟩, ?_⟩⟩
  have w3 : Wd b F H (c + 400) F2 H2 := w.gb w2.g w2.bx
  have r' : Rep F2 v d := r.mono w2.g.f
  refine ⟨F, H, F2, b, c + 400, v, d, nm, rfl, w3, r', hp 80 0 (by omega), by omega, by omega, fun H3 w4 => ⟨true, rfl, ?_⟩⟩
  simp only [Bool.not_true, Bool.false_eq_true, ↓reduceIte]
  have np : KM.plain 80 d2 0 = false := by
    cases hz : KM.plain 80 d2 0 with
    | false => rfl
    | true => have := plain_depth d2 0 hz (by omega); omega
  have p81 : KM.plain (80 + 1) d2 0 = true := hp2 81 0 (by omega)
  have rest : ∀ H4, Same H3 H4 → R De [s0, s1, s2, some (.ref b), some (.bl nm), s5, some v, some v2, s8] H4 := by
    intro H4 s4
    have w5 := w4.same s4
    subst hR
    walk_at "mt"
    have hn := nodes_text d2 0 p81
    refine ⟨v2, d2, rfl, .of w5.sub r2, ⟨⟨_, _, p81⟩, by omega⟩, by omega, fun H5 s5 => ?_⟩
    refine ⟨_, _, .str (text d2), nm, rfl, dat_str (by show _ ≤ 1000000; omega), .inr ⟨by decide, fun l x e hx => ?_, fun _ H6 t s6 ht => ?_⟩⟩
    · cases e
      rw [parse_deep p81 np] at hx
      cases hx
    · refine ⟨by omega, fun u hu => ?_⟩
      have s7 := same_upd (o := .lst [.str (S [116, 101, 120, 116]), .str (S (text d2))]) hu
      refine ⟨_, _, _, rfl, dat_two (s7 _ _ upd_same) (by decide) (by show _ ≤ 1000000; omega), dat_two upd_same (by decide) (by show _ ≤ 1000000; omega), .inl two_deep, true, rfl, ?_⟩
      simp only [Bool.not_true, Bool.false_eq_true, ↓reduceIte]
      exact nx _ _ _ _ _ (w5.same (((s5.trans s6).trans (same_upd ht)).trans s7))
  refine ⟨_, v2, d2, nm, rfl, .of w4.sub r2, .inl ⟨rfl, (fun z => by rw [np] at z; cases z), fun _ H4 t s ht => ?_⟩⟩
  refine ⟨_, by rw [upd_same]; rfl, _, at0, ?_⟩
  dsimp only
  rw [if_neg (by decide)]
  exact rest _ (s.trans (same_upd ht))
/-- the law is kept -/
def spLaw : Sp := fun vs H Q _ => ∃ (s : Addr) (ns : List Int) (o : Obj), vs = [.ref s] ∧ H s = some (.frz o (.lst (ns.map V.int))) ∧ ns.length ≤ 1000000 ∧ ∀ H', Same H H' → Q (.bl true) H'
theorem pr_law {K : PySem.W.Frag} (vs : List V) (H : Hp) (Q : VK) (E : XK) (h : spLaw vs H Q E) : t_law K spBox spCell spTake spRight spLawValue spRefused spDeep spTold spLText SM (E0N Q) (L2.start ["script", "great", "k", "box", "named", "turn", "deep", "deeper", "text"] vs) H := by
  obtain ⟨s, ns, o, rfl, hs, hl, q⟩ := h
  have hsl : (1000000 : Nat) < sizeLine := bl_sl (Nat.le_refl BL)
  have l1 := @lw1_ok
  have lr := @lwr_ok
  have ld := @lwd_ok
  unfold t_law
  unfold y_lw1 at l1
  unfold y_lwr at lr
  unfold y_lwd at ld
  revert l1 lr ld
  generalize (tSeq (tIfS (tNot (tB (tFn spRight _))) _ _) (tAsg _ _) : TS) = W1
  generalize (tIfS (tNot (tB (tFn spRefused _))) _ _ : TS) = WR
  generalize (tSeq (tPar 6 7 _) _ : TS) = WD
  intro l1 lr ld
  generalize hB : (tSeq (tAsg (tFn spBox _) (gName 3)) _ : TS) = B
  have body : ∀ (H1 : Hp) (g : Bool) (k : Nat) (De : L2.Ends) (x3 x4 x5 x6 x7 x8 : Option V), Same H H1 → k ≤ 100 → (∀ H' y3 y4 y5 y6 y7 y8, Same H H' → De.nx [some (.ref s), some (.bl g), some (.int (k : Int)), y3, y4, y5, y6, y7, y8] H') →
      B De [some (.ref s), some (.bl g), some (.int (k : Int)), x3, x4, x5, x6, x7, x8] H1 := by
    intro H1 g k De x3 x4 x5 x6 x7 x8 s1 hk nx
    subst hB
    generalize hT : (tSeq (tFor _ _ W1) _ : TS) = T
    walk_at "mt"
    refine ⟨s, ns, o, k, rfl, s1 _ _ hs, by omega, fun i H2 s2 => ?_⟩
    refine ⟨i, rfl, fun b ob hb hbx => ?_⟩
    have w0 := Wd.start (same_upd (o := ob) hb) hb hbx
    refine ⟨b, 2, 0, rfl, by omega, by omega, w0.bx, by omega, fun kk o2 hkk hbk => ?_⟩
    have w1 := w0.take hbk
    dsimp only
    subst hT
    unfold tSeq tFor iRng1
    walk_at "mt"
    refine ⟨by omega, by omega, ?_⟩
    refine for_range (lo := 0) (g := gName 5) (tb := W1) (n := 3) (D := { De with nx := WR { De with nx := (tIfS (tAnd (tB (tVar 1)) (tTest (tOp rEqM (tVar 2) (tC (.int 0))))) WD tNext) De } }) (fun i σ H3 => ∃ F3 nm x5, Wd b H2 (upd H2 b ob) (1 + 280 * i) F3 H3 ∧ σ = [some (.ref s), some (.bl g), some (.int (k : Int)), some (.ref b), some (.bl nm), x5, x6, x7, x8]) ⟨H2, _, _, w1, rfl⟩ (fun i σ H3 hi z => ?_) fun σ H3 z => ?_
    · obtain ⟨F3, nm, y5, w3, rfl⟩ := z
      walk_at "mt"
      exact l1 w3.sub w3.fb w3.bx (by omega) fun F4 H4 w4 => ⟨⟨F4, show Wd b H2 (upd H2 b ob) (1 + 280 * (i + 1)) F4 H4 from w3.gb w4.g (w4.bx.mono (by omega))⟩, _, _, rfl⟩
    · obtain ⟨F3, nm, y5, w3, rfl⟩ := z
      refine lr w3.sub w3.fb w3.bx (by omega) fun F4 H4 w4 => ?_
      have w5 : Wd b H2 (upd H2 b ob) (1 + 280 * 3 + 201) F4 H4 := w3.gb w4.g w4.bx
      have fin : ∀ {F5 H5 : Hp} {c : Nat}, Wd b H2 (upd H2 b ob) c F5 H5 → Same H H5 := fun w => ((s1.trans s2).trans w.g.f).trans w.sub
      walk_at "mt"
      cases g with
      | false =>
        simp only [Bool.false_eq_true, ↓reduceIte]
        exact nx _ _ _ _ _ _ _ (fin w5)
      | true =>
        simp only [↓reduceIte]
        split
        · exact ld w5.sub w5.fb w5.bx (by omega) fun F6 H6 z6 z7 z8 w6 => nx _ _ _ _ _ _ _ (fin (w5.gb w6.g w6.bx))
        · exact nx _ _ _ _ _ _ _ (fin w5)
  clear hB
  unfold tSeq tFor iRng1
  walk_at "mt"
  rw [hs]
  dsimp only
  intro p hp
  have sp := same_upd (o := .lst (cutV (ns.map V.int) none (some 1))) hp
  refine ⟨cutV' ns none (some 1), by rw [upd_same, cutV_map], by decide, ns.map V.int, by rw [sp _ _ hs]; rfl, by omega, by omega, ?_⟩
  refine for_range (lo := 0) (g := gName 2) (tb := B) (D := { E0N Q with nx := tRet (tC (.bl true)) (E0N Q) }) (fun i σ H3 => ∃ x2 x3 x4 x5 x6 x7 x8, Same H H3 ∧ σ = [some (.ref s), some (.bl (decide ((cutV' ns none (some 1)).sum.fmod 8 = 6))), x2, x3, x4, x5, x6, x7, x8]) ⟨_, _, _, _, _, _, _, sp, rfl⟩ (fun i σ H3 hi z => ?_) fun σ H3 z => ?_
  · obtain ⟨x2, x3, x4, x5, x6, x7, x8, s3, rfl⟩ := z
    have ei : ((0 : Int) + (i : Nat)) = ((i : Nat) : Int) := by omega
    rw [ei]
    walk_at "mt"
    exact body _ _ _ _ _ _ _ _ _ _ s3 (by omega) fun H4 y3 y4 y5 y6 y7 y8 s4 => ⟨s4, _, _, _, _, _, _, _, rfl⟩
  · obtain ⟨x2, x3, x4, x5, x6, x7, x8, s3, rfl⟩ := z
    walk_at "mt"
    exact q _ s3
end K56
set_option Elab.async false
set_option linter.all false
set_option maxRecDepth 100000
set_option maxHeartbeats 4000000
namespace K56
open PySem PySem.Spec PyProof.Rows L2 MT
open SX (S)
open KM
/-! ### the hook: no list stands in what is told of the top -/
def noL (q : Addr × Obj) : Bool := match q.2.cls with
  | .type c => !decide (c = "list")
  | _ => true
def ex2 (K : PySem.W.Frag) : Bool := ex K && K.all noL
theorem lookup_mem {K : PySem.W.Frag} {a : Addr} {o : Obj} (h : K.lookup a = some o) : (a, o) ∈ K := by
  induction K with
  | nil => cases h
  | cons q K ih =>
    obtain ⟨b, u⟩ := q
    by_cases hb : a = b
    · subst hb
      rw [List.lookup_cons_self] at h
      cases h
      exact List.mem_cons_self
    · have e : (a == b) = false := by simpa using hb
      rw [List.lookup, e] at h
      exact List.mem_cons_of_mem _ (ih h)
theorem no_list {K : PySem.W.Frag} (h : K.all noL = true) {a : Addr} {o : Obj} (e : K.lookup a = some o) : o.cls ≠ .type "list" := fun z => by
  have h1 := List.all_eq_true.mp h _ (lookup_mem e)
  unfold noL at h1
  dsimp only at h1
  rw [z] at h1
  simp at h1
section
variable {P : Program} {w : World} {K : PySem.W.Frag} {mg : Str → Option Value} {base : Heap} {x p : Str} {st : Stmt} {N : List Str} {k : Nat} {sp : Sp}
def PlainK (x : Str) (st : Stmt) (p : Str) : Prop := ∀ (kV doc pm : Value) (an : Option Addr) (cdv ct : Value) (u : Value), bindArgs (PySem.W.fnOf x x (defArgs st) (defBody st) (defScope st) .none kV doc pm an cdv ct) ⟨[], [(p, u)]⟩ = pure [(p, u)]
/-- a def that may raise, called by name too -/
theorem mkFnK (d : Def K mg x st) (S : FnScope N [p] (defScope st)) (b : Plain x st [p]) (bk : PlainK x st p) (len : ∀ vs H Q E, sp vs H Q E → vs.length = 1)
    {t : XK → TS} (hb : ∀ (f : Addr) (cdv : Value) (A : Around) (outer : List Env) (s : Shared) (H : Hp) (E : XK), Room k (A.deeper (envOfC x (defScope st) s.heap.objs.size f cdv)) → PSs (cxOf (L2.CX P w) P w K mg base N x (defScope st) f cdv A outer s H E) (defBody st) (t E))
    (ht : ∀ (vs : List V) (H : Hp) (Q : VK) (E : XK), sp vs H Q E → t E { nx := fun _ H' => Q .non H', rt := Q } (start N vs) H) : CalK P w K mg base (k + 1) x p sp := by
  obtain ⟨fd, F⟩ := d.ex
  refine ⟨_, fd, F.ok S len fun cdv A outer s H vs Q E hr hs => ⟨t E, hb _ cdv A outer s H E hr, ht vs H Q E hs⟩, d.gm, F.kp, F.bindsN b, fun s u => ?_⟩
  obtain ⟨oc, od, dV, kV, doc, pm, an, cdv, ct, osl, rfl, lk, hcd, hD, hK⟩ := F.ex
  rcases hD with ⟨_, rfl⟩ | ⟨e, _⟩
  · exact .of_eq (bk kV doc pm an cdv ct u)
  · exact absurd rfl e
/-- a def of no promise -/
theorem mkNo {ps : List Str} (d : Def K mg x st) (S : FnScope N ps (defScope st)) (b : Plain x st ps) : Cal P w K mg base 1 x ps (fun _ _ _ _ => False) := by
  obtain ⟨fd, F⟩ := d.ex
  exact ⟨_, fd, F.ok S (fun _ _ _ _ h => h.elim) fun cdv A outer s H vs Q E hr hs => hs.elim, d.gm, F.kp, F.bindsN b⟩
end
/-! ### the own exceptions -/
theorem oex_of {K : PySem.W.Frag} {x f : Str} (h : oexB K x f = true) : OexC K (He.ga K x) ∧ PySem.W.findIn K (.ref (He.ga K x)) f = some none ∧
    PySem.W.findIn K (.ref (He.ga K x)) "__init__" = some (some (.ref (He.ma K (He.ga K x) "__init__"))) ∧ PySem.W.typeIn K (.ref (He.ma K (He.ga K x) "__init__")) = some (.type "function") ∧ XfC K (He.ga K x) := by
  unfold oexB at h
  simp only [Bool.and_eq_true, decide_eq_true_eq] at h
  obtain ⟨h1, h2, h3, h4, h5, h6, h7, h8, h9⟩ := h
  refine ⟨⟨?_, He.eqO_ok h2, h3, h4, h5⟩, He.eqO_ok h6, He.eqO_ok h7, h8, xfB_ok h9⟩
  split at h1
  · rename_i dd cd sl e
    split at h1
    · rename_i C' bm k0 k1 k2 k3 n k5 e1 e2
      simp only [Bool.and_eq_true, beq_iff_eq, Bool.not_eq_true'] at h1
      obtain ⟨rfl, rfl, z1, z2, z3⟩ := h1
      obtain ⟨nm, bs, mro, ns, qn, hd, sn, sb, ab, col, del⟩ := cd
      dsimp only at e1 z1 z2
      subst e1 z1 z2
      have e3 : sl = #[k0, k1, k2, k3, some (.builtin "ValueError.__new__"), k5] := by
        rw [← e2]
      exact ⟨nm, qn, ns, bs, bm, sn, sb, ab, col, dd, k0, k1, k2, k3, k5, by rw [e, e3], z3⟩
    · cases h1
  · cases h1
abbrev s_init (i : Nat) : Stmt := inClass (top i) 0
theorem sc_init2 : FnScope ["self", "given"] ["self", "given"] (defScope (s_init 2)) := ⟨rfl, rfl, rfl, by decide +kernel, rfl, by decide +kernel, by decide +kernel⟩
theorem sc_init3 : FnScope ["self", "given"] ["self", "given"] (defScope (s_init 3)) := ⟨rfl, rfl, rfl, by decide +kernel, rfl, by decide +kernel, by decide +kernel⟩
theorem pr_init {K : PySem.W.Frag} {C : Addr} (o : OexC K C) (no : PySem.W.findIn K (.ref C) "given" = some none) (vs : List V) (H : Hp) (Q : VK) (h : spInit C "given" vs H Q (fun _ _ _ => False)) : tOst K "given" (tVar 0) (tVar 1) { nx := fun _ H' => Q .non H', rt := Q } (start ["self", "given"] vs) H := by
  obtain ⟨a, v, rfl, h1, h2⟩ := h
  exact ⟨v, rfl, .ref a, rfl, a, C, rfl, o, no, .inl ⟨h1, h2⟩⟩
theorem exo_init {P : Program} {w : World} {K : PySem.W.Frag} {mg : Str → Option Value} {base : Heap} {x q : Str} {i : Nat} {fd : FuncData} (hx : oexB K x "given" = true) (gm : mg x = some (.ref (He.ga K x)))
    (F : FunD K "__init__" q (defArgs (s_init i)) (defBody (s_init i)) (defScope (s_init i)) [] [] (He.ma K (He.ga K x) "__init__") fd) (S : FnScope ["self", "given"] ["self", "given"] (defScope (s_init i)))
    (b : ∀ (kV doc pm : Value) (an : Option Addr) (cdv ct : Value) (us : List Value), us.length = 2 → bindArgs (PySem.W.fnOf "__init__" q (defArgs (s_init i)) (defBody (s_init i)) (defScope (s_init i)) .none kV doc pm an cdv ct) ⟨us, []⟩ = pure ((["self", "given"] : List PySem.Str).zip us))
    (hb : ∀ {f : Addr} {cdv : Value} {A : Around} {outer : List Env} {s : Shared} {H : Hp} {E : XK}, PSs (cxOf (L2.CX P w) P w K mg base ["self", "given"] q (defScope (s_init i)) f cdv A outer s H E).nox (defBody (s_init i)) (tOst K "given" (tVar 0) (tVar 1))) : ExcO P w K mg base 1 x "given" (He.ga K x) := by
  obtain ⟨o, no, h1, h2, xf⟩ := oex_of hx
  refine ⟨o, no, xf, gm, _, fd, h1, h2, F.ok S (fun vs H Q E h => ?_) fun cdv A outer s H vs Q E hr hs => ⟨_, PSs.nox hb, pr_init o no vs H Q (by
    obtain ⟨a, v, e, h⟩ := hs
    exact ⟨a, v, e, h⟩)⟩, F.bindsN b⟩
  obtain ⟨a, v, rfl, _⟩ := h
  rfl
/-! ### what the top says -/
structure Sy (w : World) (K : PySem.W.Frag) (mg : Str → Option Value) : Prop where
  h : ∃ h : Heap, K.In h ∧ h.Ns mainGlobals mg
  t : He.SaysT fa fn ts w K
  e : ex2 K = true
section
variable {w : World} {K : PySem.W.Frag} {mg : Str → Option Value}
theorem Sy.def_ (c : Sy w K mg) (i j : Nat) (x : Str) (hf : fn[i]? = some (mkD j x) := by rfl) (ha : fa[i]? = some (.glo x) := by rfl) : Def K mg x (top j) := by
  obtain ⟨h, X, G⟩ := c.h
  obtain ⟨fd, F⟩ := c.t.d.def_ i hf
  exact ⟨⟨fd, F⟩, He.glo_ok X G (c.t.d.fact i ha)⟩
theorem Sy.free (c : Sy w K mg) (i : Nat) (x : Str) (ha : fa[i]? = some (.free x) := by rfl) : mg x = none := by
  obtain ⟨h, X, G⟩ := c.h
  exact He.free_ok X G (c.t.d.fact i ha)
theorem Sy.glo (c : Sy w K mg) (i : Nat) (x : Str) (ha : fa[i]? = some (.glo x) := by rfl) : mg x = some (.ref (He.ga K x)) := by
  obtain ⟨h, X, G⟩ := c.h
  exact He.glo_ok X G (c.t.d.fact i ha)
theorem Sy.str (c : Sy w K mg) (i : Nat) (x z : Str) {y : Str} (hy : z = y) (ha : fa[i]? = some (.str x z) := by rfl) : ∃ t, mg x = some (.str y t) := by
  obtain ⟨h, X, G⟩ := c.h
  subst hy
  exact He.str_ok X G (c.t.d.fact i ha)
theorem Sy.int (c : Sy w K mg) (i : Nat) (x : Str) (z : Int) (ha : fa[i]? = some (.int x z) := by rfl) : ∃ t, mg x = some (.int z t) := by
  obtain ⟨h, X, G⟩ := c.h
  exact He.int_ok X G (c.t.d.fact i ha)
theorem Sy.tab (c : Sy w K mg) (i : Nat) {t : He.Tab} (h : ts[i]? = some t := by rfl) : He.dicW K (t.1 K) = some (He.keysIn w.params t.2) := by
  have e : ts.map (fun t => He.dicW K (t.1 K)) = ts.map fun t => some (He.keysIn w.params t.2) := congrArg (fun z : He.AlT => z.2) c.t
  have e2 : (ts.map fun t => He.dicW K (t.1 K))[i]? = (ts.map fun t => some (He.keysIn w.params t.2))[i]? := by rw [e]
  rw [List.getElem?_map, List.getElem?_map, h] at e2
  exact Option.some.inj e2
theorem Sy.x (c : Sy w K mg) : (oexB K "InvalidText" "given" = true ∧ oexB K "InvalidForm" "given" = true ∧ He.valsB K (He.ga K "CLOSERS") [("(", .str ")"), ("[", .str "]")] = true ∧ He.valsB K (He.ga K "SIGNS") [("+", .bl true), ("-", .bl false)] = true) ∧ Exm K ∧ K.all noL = true := by
  have h := c.e
  unfold ex2 ex at h
  simp only [Bool.and_eq_true, decide_eq_true_eq] at h
  obtain ⟨⟨h1, h2, h3, h4, h5, h6, h7⟩, h8⟩ := h
  exact ⟨⟨h1, h2, h3, h4⟩, ⟨h7, h5, h6⟩, h8⟩
theorem tab_fun {a b c d : Str} {x y : V} (ha : a = b) (hc : c = d) : (fun z => (([(a, x), (c, y)] : List (Str × V)).find? fun q => decide (q.1 = z)).map fun q => q.2) = fun z => if z = b then some x else if z = d then some y else none := by
  subst ha hc
  funext z
  by_cases h1 : a = z
  · subst h1; simp
  · by_cases h2 : c = z
    · subst h2
      have : ¬ (c = a) := fun e => h1 e.symm
      simp [h1, this]
    · have h3 : ¬ z = a := fun e => h1 e.symm
      have h4 : ¬ z = c := fun e => h2 e.symm
      simp [h1, h2, h3, h4]
theorem Sy.top (c : Sy w K mg) : Top K w mg := by
  obtain ⟨⟨x1, x2, x3, x4⟩, _, _⟩ := c.x
  refine { f_abs := c.free 32 "abs", f_all := c.free 33 "all", f_int := c.free 34 "int", f_bool := c.free 35 "bool", f_dict := c.free 36 "dict", f_isinstance := c.free 37 "isinstance", f_len := c.free 38 "len", f_list := c.free 39 "list", f_max := c.free 40 "max", f_min := c.free 41 "min", f_range := c.free 42 "range", f_str := c.free 43 "str", f_sum := c.free 44 "sum", f_tuple := c.free 45 "tuple", f_zip := c.free 46 "zip", g_LETTERS := c.str 47 "LETTERS" "abcdefghijklmnopqrstuvwxyz" (by decide +kernel), g_DIGITS := c.str 48 "DIGITS" "0123456789" (by decide +kernel), g_MOST_LETTERS := c.int 49 "MOST_LETTERS" 12, g_MOST_DIGITS := c.int 50 "MOST_DIGITS" 20, g_MOST_DEEP := c.int 51 "MOST_DEEP" 80, g_MOST_INTEGER := c.int 52 "MOST_INTEGER" (10 ^ 20 - 1), g_CLOSERS := c.glo 30 "CLOSERS", g_SIGNS := c.glo 31 "SIGNS", t_CLOSERS := ?_, t_SIGNS := ?_ }
  · have h := ktab_of (w := w) (d := He.ga K "CLOSERS") (kvs := [("(", .str ")"), ("[", .str "]")]) (c.tab 0) x3
    have e : t_CLOSERS = fun z => (([("(", He.Dv.str ")"), ("[", .str "]")] : List (Str × He.Dv)).find? fun q => decide (q.1 = z)).map fun q => q.2.v K := by
      have := tab_fun (a := "(") (b := S [40]) (c := "[") (d := S [91]) (x := .str (S [41])) (y := .str (S [93])) (by decide +kernel) (by decide +kernel)
      unfold t_CLOSERS
      rw [← this]
      have e1 : (S [41] : Str) = ")" := by decide +kernel
      have e2 : (S [93] : Str) = "]" := by decide +kernel
      rw [e1, e2]
      funext z
      simp only [List.find?]
      split <;> rename_i h1 <;> simp only [h1]
      · rfl
      · split <;> rename_i h2 <;> simp only [h2] <;> rfl
    rw [e]; exact h
  · have h := ktab_of (w := w) (d := He.ga K "SIGNS") (kvs := [("+", .bl true), ("-", .bl false)]) (c.tab 1) x4
    have e : t_SIGNS = fun z => (([("+", He.Dv.bl true), ("-", .bl false)] : List (Str × He.Dv)).find? fun q => decide (q.1 = z)).map fun q => q.2.v K := by
      have := tab_fun (a := "+") (b := S [43]) (c := "-") (d := S [45]) (x := .bl true) (y := .bl false) (by decide +kernel) (by decide +kernel)
      unfold t_SIGNS
      rw [← this]
      funext z
      simp only [List.find?]
      split <;> rename_i h1 <;> simp only [h1]
      · rfl
      · split <;> rename_i h2 <;> simp only [h2] <;> rfl
    rw [e]; exact h
end
end K56
set_option Elab.async false
set_option linter.all false
set_option maxRecDepth 100000
set_option maxHeartbeats 4000000
namespace K56
open PySem PySem.Spec PyProof.Rows L2 MT
open SX (S)
open KM
section
variable {P : Program} {w : World} {K : PySem.W.Frag} {mg : Str → Option Value} {base : Heap}
theorem ca_InvalidText (c : Sy w K mg) : ExcO P w K mg base 1 "InvalidText" "given" (He.ga K "InvalidText") := by
  obtain ⟨fd, F⟩ := c.t.d.def_ 28 (d := mkI 2 "InvalidText" "InvalidText.__init__") rfl
  exact exo_init (i := 2) c.x.1.1 (c.glo 28 "InvalidText") F sc_init2 (fun _ _ _ _ _ _ us hl => match us, hl with | [_, _], _ => rfl) (fun {f cdv A outer s H E} => pss_one (ps_ost (pv 0) (pv 1)))
theorem ca_InvalidForm (c : Sy w K mg) : ExcO P w K mg base 1 "InvalidForm" "given" (He.ga K "InvalidForm") := by
  obtain ⟨fd, F⟩ := c.t.d.def_ 29 (d := mkI 3 "InvalidForm" "InvalidForm.__init__") rfl
  exact exo_init (i := 3) c.x.1.2.1 (c.glo 29 "InvalidForm") F sc_init3 (fun _ _ _ _ _ _ us hl => match us, hl with | [_, _], _ => rfl) (fun {f cdv A outer s H E} => pss_one (ps_ost (pv 0) (pv 1)))
theorem ca_is_integer (c : Sy w K mg) : Cal P w K mg base 1 "is_integer" ["value"] spIsInteger :=
  mkFn (k := 0) (c.def_ 0 9 "is_integer") sc_is_integer b_is_integer (fun vs H Q E h => by obtain ⟨_, _, rfl, _⟩ := h; rfl) (fun _ _ _ _ _ _ _ hr => d_is_integer c.top hr) pr_is_integer
theorem ca_is_between (c : Sy w K mg) : Cal P w K mg base 2 "is_between" ["value", "least", "most"] spBetween :=
  mkFn (k := 1) (c.def_ 1 10 "is_between") sc_is_between b_is_between (fun vs H Q E h => by obtain ⟨_, _, _, _, rfl, _⟩ := h; rfl) (fun _ _ _ _ _ _ _ hr => d_is_between c.top (ca_is_integer c) (by decide) hr) pr_between
theorem ca_is_word (c : Sy w K mg) : Cal P w K mg base 1 "is_word" ["value"] spIsWord :=
  mkFn (k := 0) (c.def_ 2 11 "is_word") sc_is_word b_is_word (fun vs H Q E h => by obtain ⟨_, _, rfl, _⟩ := h; rfl) (fun _ _ _ _ _ _ _ hr => d_is_word c.top hr) pr_is_word
theorem ca_number_in (c : Sy w K mg) : Cal P w K mg base 1 "number_in" ["word"] spNumberIn :=
  mkFn (k := 0) (c.def_ 3 12 "number_in") sc_number_in b_number_in (fun vs H Q E h => by obtain ⟨_, rfl, _⟩ := h; rfl) (fun _ _ _ _ _ _ _ hr => d_number_in c.top hr) pr_number_in
theorem ca_is_plain (c : Sy w K mg) : ∀ n : Nat, Cal P w K mg base (n + 3) "is_plain" ["value", "deep"] (spIsPlain n)
  | 0 => mkFn (k := 2) (c.def_ 4 18 "is_plain") sc_is_plain b_is_plain (fun vs H Q E h => by obtain ⟨_, _, _, rfl, _⟩ := h; rfl) (fun _ _ _ _ _ _ _ hr => d_is_plain c.top (mkNo (c.def_ 4 18 "is_plain") sc_is_plain b_is_plain) (by omega) (ca_is_between c) (by omega) (ca_is_word c) (by omega) hr) (pr_is_plain (n := 0) (fun m e => by cases e))
  | n + 1 => by
    have ih := ca_is_plain c n
    have r := mkFn (P := P) (base := base) (k := n + 3) (c.def_ 4 18 "is_plain") sc_is_plain b_is_plain (fun vs H Q E h => by obtain ⟨_, _, _, rfl, _⟩ := h; rfl) (fun _ _ _ _ _ _ _ hr => d_is_plain c.top ih (by omega) (ca_is_between c) (by omega) (ca_is_word c) (by omega) hr) (pr_is_plain (n := n + 1) (fun m e vs H Q E h => by cases e; exact h))
    exact r.mono (by omega)
theorem ca_text_of (c : Sy w K mg) : ∀ n : Nat, Cal P w K mg base (n + 2) "text_of" ["value"] (spTextOf n)
  | 0 => mkFn (k := 1) (c.def_ 5 19 "text_of") sc_text_of b_text_of (fun vs H Q E h => by obtain ⟨_, _, rfl, _⟩ := h; rfl) (fun _ _ _ _ _ _ _ hr => d_text_of c.top (mkNo (c.def_ 5 19 "text_of") sc_text_of b_text_of) (by omega) hr) (pr_text_of (n := 0) (fun m e => by cases e))
  | n + 1 => by
    have ih := ca_text_of c n
    have r := mkFn (P := P) (base := base) (k := n + 2) (c.def_ 5 19 "text_of") sc_text_of b_text_of (fun vs H Q E h => by obtain ⟨_, _, rfl, _⟩ := h; rfl) (fun _ _ _ _ _ _ _ hr => d_text_of c.top ih (by omega) hr) (pr_text_of (n := n + 1) (fun m e vs H Q E h => by cases e; exact h))
    exact r.mono (by omega)
theorem ca_atom_at (c : Sy w K mg) : Cal P w K mg base 2 "atom_at" ["text", "place"] spAtomAt :=
  mkFn (k := 1) (c.def_ 7 21 "atom_at") sc_atom_at b_atom_at (fun vs H Q E h => by obtain ⟨_, _, rfl, _⟩ := h; rfl) (fun _ _ _ _ _ _ _ hr => d_atom_at c.top (ca_number_in c) (by decide) (ca_is_word c) (by decide) hr) pr_atom_at
theorem ca_closed (c : Sy w K mg) : Cal P w K mg base 1 "closed" ["text", "place", "stack"] spClosed :=
  mkFn (k := 0) (c.def_ 8 22 "closed") sc_closed b_closed (fun vs H Q E h => by obtain ⟨_, _, _, _, _, _, _, rfl, _⟩ := h; rfl) (fun _ _ _ _ _ _ _ hr => d_closed c.top hr) pr_closed
theorem ca_value_in (c : Sy w K mg) : Cal P w K mg base 3 "value_in" ["text"] spValueIn :=
  mkFn (k := 2) (c.def_ 9 23 "value_in") sc_value_in b_value_in (fun vs H Q E h => by obtain ⟨_, _, rfl, _⟩ := h; rfl) (fun _ _ _ _ _ _ _ hr => d_value_in c.top (ca_atom_at c) (by decide) (ca_closed c) (by decide) hr) pr_value_in
theorem ca_value_text (c : Sy w K mg) : CalK P w K mg base 84 "value_text" "value" (spValueText (He.ga K "InvalidForm")) :=
  mkFnK (k := 83) (c.def_ 6 20 "value_text") sc_value_text b_value_text (fun _ _ _ _ _ _ _ => rfl) (fun vs H Q E h => by obtain ⟨_, _, rfl, _⟩ := h; rfl) (t := t_value_text K (spIsPlain 80) (spTextOf 80)) (fun _ _ _ _ _ _ _ hr => d_value_text c.top (ca_is_plain c 80) (by decide) (ca_text_of c 80) (by decide) (ca_InvalidForm c) (by decide) hr) pr_value_text
theorem ca_read_value (c : Sy w K mg) : CalK P w K mg base 4 "read_value" "text" (spReadValue (He.ga K "InvalidText")) :=
  mkFnK (k := 3) (c.def_ 10 24 "read_value") sc_read_value b_read_value (fun _ _ _ _ _ _ _ => rfl) (fun vs H Q E h => by obtain ⟨_, _, rfl, _⟩ := h; rfl) (t := t_read_value K spValueIn) (fun _ _ _ _ _ _ _ hr => d_read_value c.top (ca_value_in c) (by decide) (ca_InvalidText c) (by decide) hr) pr_read_value
theorem ca_law_cell (c : Sy w K mg) : Cal P w K mg base 1 "_law_cell" ["script", "k"] spCell :=
  mkFn (k := 0) (c.def_ 11 26 "_law_cell") sc_law_cell b_law_cell (fun vs H Q E h => by obtain ⟨_, _, _, _, rfl, _⟩ := h; rfl) (fun _ _ _ _ _ _ _ hr => d_law_cell c.top hr) pr_law_cell
theorem ca_law_box (c : Sy w K mg) : Cal P w K mg base 1 "_law_box" ["great"] spBox :=
  mkFn (k := 0) (c.def_ 12 27 "_law_box") sc_law_box b_law_box (fun vs H Q E h => by obtain ⟨_, rfl, _⟩ := h; rfl) (fun _ _ _ _ _ _ _ hr => d_law_box c.top hr) pr_law_box
theorem ca_law_take (c : Sy w K mg) : Cal P w K mg base 1 "_law_take" ["box", "many"] spTake :=
  mkFn (k := 0) (c.def_ 13 28 "_law_take") sc_law_take b_law_take (fun vs H Q E h => by obtain ⟨_, _, _, rfl, _⟩ := h; rfl) (fun _ _ _ _ _ _ _ hr => d_law_take c.top hr) pr_law_take
theorem ca_law_same (c : Sy w K mg) : ∀ n : Nat, Cal P w K mg base (n + 2) "_law_same" ["told", "due"] (spSame n)
  | 0 => mkFn (k := 1) (c.def_ 14 29 "_law_same") sc_law_same b_law_same (fun vs H Q E h => by obtain ⟨_, _, _, rfl, _⟩ := h; rfl) (fun _ _ _ _ _ _ _ hr => d_law_same c.top (mkNo (c.def_ 14 29 "_law_same") sc_law_same b_law_same) (by omega) hr) (pr_law_same (n := 0) (fun m e => by cases e))
  | n + 1 => by
    have ih := ca_law_same c n
    have r := mkFn (P := P) (base := base) (k := n + 2) (c.def_ 14 29 "_law_same") sc_law_same b_law_same (fun vs H Q E h => by obtain ⟨_, _, _, rfl, _⟩ := h; rfl) (fun _ _ _ _ _ _ _ hr => d_law_same c.top ih (by omega) hr) (pr_law_same (n := n + 1) (fun m e vs H Q E h => by cases e; exact h))
    exact r.mono (by omega)
theorem spSame_up {m n : Nat} (h : m ≤ n) : ∀ vs H Q E, spSame m vs H Q E → spSame n vs H Q E := fun vs H Q E ⟨v, w, d, e, a, b, c, q⟩ => ⟨v, w, d, e, a, b, c.elim (fun z => .inl (by omega)) (fun z => .inr ⟨z.1, by omega⟩), q⟩
theorem ca_law_value_text (c : Sy w K mg) : Cal P w K mg base 1 "_law_value_text" ["value"] spLText :=
  mkFn (k := 0) (c.def_ 15 30 "_law_value_text") sc_law_value_text b_law_value_text (fun vs H Q E h => by obtain ⟨_, _, rfl, _⟩ := h; rfl) (fun _ _ _ _ _ _ _ hr => d_law_value_text c.top hr) pr_law_value_text
theorem ca_law_alike (c : Sy w K mg) : Cal P w K mg base 6 "_law_alike" ["one", "other"] spAlike :=
  mkFn (k := 5) (c.def_ 16 31 "_law_alike") sc_law_alike b_law_alike (fun vs H Q E h => by obtain ⟨_, _, _, rfl, _⟩ := h; rfl) (fun _ _ _ _ _ _ _ hr => d_law_alike c.top (ca_law_same c 3) (by decide) hr) (pr_law_alike (n := 0))
theorem ca_law_word (c : Sy w K mg) : Cal P w K mg base 2 "_law_word" ["box"] spWord :=
  mkFn (k := 1) (c.def_ 17 32 "_law_word") sc_law_word b_law_word (fun vs H Q E h => by obtain ⟨_, _, _, rfl, _⟩ := h; rfl) (fun _ _ _ _ _ _ _ hr => d_law_word c.top (ca_law_take c) (by decide) hr) pr_law_word
theorem ca_law_leaf (c : Sy w K mg) : Cal P w K mg base 3 "_law_leaf" ["box"] spLeaf :=
  mkFn (k := 2) (c.def_ 18 33 "_law_leaf") sc_law_leaf b_law_leaf (fun vs H Q E h => by obtain ⟨_, _, _, rfl, _⟩ := h; rfl) (fun _ _ _ _ _ _ _ hr => d_law_leaf c.top (ca_law_take c) (by decide) (ca_law_word c) (by decide) hr) pr_law_leaf
theorem ca_law_value (c : Sy w K mg) : Cal P w K mg base 4 "_law_value" ["box"] spLawValue :=
  mkFn (k := 3) (c.def_ 19 34 "_law_value") sc_law_value b_law_value (fun vs H Q E h => by obtain ⟨_, _, _, rfl, _⟩ := h; rfl) (fun _ _ _ _ _ _ _ hr => d_law_value c.top (ca_law_take c) (by decide) (ca_law_leaf c) (by decide) hr) pr_law_value
theorem ca_law_deep (c : Sy w K mg) : Cal P w K mg base 2 "_law_deep" ["box", "many"] spDeep :=
  mkFn (k := 1) (c.def_ 20 35 "_law_deep") sc_law_deep b_law_deep (fun vs H Q E h => by obtain ⟨_, _, _, _, rfl, _⟩ := h; rfl) (fun _ _ _ _ _ _ _ hr => d_law_deep c.top (ca_law_take c) (by decide) hr) pr_law_deep
theorem ca_law_item (c : Sy w K mg) : Cal P w K mg base 1 "_law_item" ["word"] spItem :=
  mkFn (k := 0) (c.def_ 21 36 "_law_item") sc_law_item b_law_item (fun vs H Q E h => by obtain ⟨_, rfl, _⟩ := h; rfl) (fun _ _ _ _ _ _ _ hr => d_law_item c.top hr) pr_law_item
theorem ca_law_read (c : Sy w K mg) : Cal P w K mg base 2 "_law_read" ["text"] spRead :=
  mkFn (k := 1) (c.def_ 22 37 "_law_read") sc_law_read b_law_read (fun vs H Q E h => by obtain ⟨_, _, rfl, _⟩ := h; rfl) (fun _ _ _ _ _ _ _ hr => d_law_read c.top (ca_law_item c) (by decide) hr) pr_law_read
theorem ca_law_bent (c : Sy w K mg) : Cal P w K mg base 2 "_law_bent" ["box", "text"] spBent :=
  mkFn (k := 1) (c.def_ 23 38 "_law_bent") sc_law_bent b_law_bent (fun vs H Q E h => by obtain ⟨_, _, _, _, rfl, _⟩ := h; rfl) (fun _ _ _ _ _ _ _ hr => d_law_bent c.top (ca_law_take c) (by decide) hr) pr_law_bent
theorem ca_law_told (c : Sy w K mg) : Cal P w K mg base 85 "_law_told" ["word", "value", "named"] spTold :=
  mkFn (k := 84) (c.def_ 24 39 "_law_told") sc_law_told b_law_told (fun vs H Q E h => by obtain ⟨_, _, _, _, rfl, _⟩ := h; rfl) (fun _ _ _ _ _ _ _ hr => d_law_told c.top (ca_value_text c) (by decide) (ca_read_value c) (by decide) (ca_InvalidForm c) (ca_InvalidText c) hr) (pr_told c.x.2.1)
theorem ca_law_value_right (c : Sy w K mg) : Cal P w K mg base 103 "_law_value_right" ["box", "value", "named"] spRight :=
  mkFn (k := 102) (c.def_ 25 40 "_law_value_right") sc_law_value_right b_law_value_right (fun vs H Q E h => by obtain ⟨_, _, _, _, _, _, _, _, rfl, _⟩ := h; rfl) (fun _ _ _ _ _ _ _ hr => d_law_value_right c.top (ca_law_value_text c) (by decide) (ca_law_told c) (by decide) (ca_law_same c 100) (by decide) (ca_law_alike c) (by decide) (ca_law_bent c) (by decide) (ca_law_read c) (by decide) hr) pr_law_value_right
theorem ca_law_refused (c : Sy w K mg) : Cal P w K mg base 103 "_law_refused" ["box", "value", "named"] spRefused :=
  mkFn (k := 102) (c.def_ 26 41 "_law_refused") sc_law_refused b_law_refused (fun vs H Q E h => by obtain ⟨_, _, _, _, _, _, _, _, rfl, _⟩ := h; rfl) (fun _ _ _ _ _ _ _ hr => d_law_refused c.top (ca_law_take c) (by decide) (ca_law_told c) (by decide) (ca_law_same c 100) (by decide) hr) pr_law_refused
theorem ca_law (c : Sy w K mg) : Cal P w K mg base 104 "law" ["script"] spLaw :=
  mkFn (k := 103) (c.def_ 27 42 "law") sc_law b_law (fun vs H Q E h => by obtain ⟨_, _, _, rfl, _⟩ := h; rfl) (fun _ _ _ _ _ _ _ hr => d_law c.top (ca_law_box c) (by decide) (ca_law_cell c) (by decide) (ca_law_take c) (by decide) (ca_law_value_right c) (by decide) (ca_law_value c) (by decide) (ca_law_refused c) (by decide) (ca_law_deep c) (by decide) (ca_law_told c) (by decide) (ca_law_value_text c) (by decide) (ca_law_same c 100) (by decide) hr) pr_law
end
end K56
set_option Elab.async false
set_option linter.all false
set_option maxRecDepth 100000
set_option maxHeartbeats 0
namespace K56
open PySem PySem.Spec PyProof.Rows L2 MT
abbrev hk2 : PySem.W.Hook := He.hookX 6 fa fn ts [] ex2
def ob2 (s : PySem.W.SharedT) : He.AlX := He.obsX 6 fa fn ts [] ex2 (HandSHeadRun.getT s)
theorem ob2_eq (s : PySem.W.SharedT) : ob2 s = hk2.obs s.abs := He.obsX_eq (HandSHeadRun.getT_eq s)
theorem run2_f (w : World) : HandSHeadRun.RunEq R (PySem.W.view R.prog [42]) hk2 ob2 3000 loose (w.withFollow "special-get-raises" false) := by
  intro os
  kernel_rfl
theorem run2_t (w : World) : HandSHeadRun.RunEq R (PySem.W.view R.prog [42]) hk2 ob2 3000 loose (w.withFollow "special-get-raises" true) := by
  intro os
  kernel_rfl
theorem run2 (w : World) : HandSHeadRun.RunEq R (PySem.W.view R.prog [42]) hk2 ob2 3000 loose w := PySem.W.byRow2 "special-get-raises" (P := fun w => HandSHeadRun.RunEq R (PySem.W.view R.prog [42]) hk2 ob2 3000 loose w) run2_f run2_t w
theorem facts {P : Program} {w : World} {K : PySem.W.Frag} {h : Heap} {mg : Str → Option Value} {f : Addr} (X : K.In h) (G : h.Ns mainGlobals mg) (hfa : mg ("law" : Str) = some (.ref f)) (c0 : He.SaysX fa fn ts [] ex2 w h K) :
    ∃ fd : FuncData, (∀ (s : Shared) (v : Value), BindsTo s fd ⟨[v], []⟩ [("script", v)]) ∧ K.all noL = true ∧ ∀ base : Heap, K.In base → base.Ns mainGlobals mg → FnOk P w K mg base (L2.CX P w) 104 f fd ["script"] spLaw := by
  have c : Sy w K mg := ⟨⟨h, X, G⟩, c0.t, c0.more⟩
  obtain ⟨fd, F⟩ := c0.t.d.def_ 27 (d := mkD 42 "law") rfl
  have e := hfa.symm.trans (c.glo 27 "law")
  cases e
  have b := FunD.bindsA (ps := ["script"]) F fun _ _ _ _ _ _ us hl => match us, hl with | [_], _ => rfl
  refine ⟨fd, fun s v => b s [v] rfl, c.x.2.2, fun base _ _ => ?_⟩
  exact F.ok sc_law (fun vs H Q E h => by obtain ⟨_, _, _, rfl, _⟩ := h; rfl) fun cdv A outer s H vs Q E hr hs => ⟨_, PSs.nox (d_law c.top (ca_law_box c) (by decide) (ca_law_cell c) (by decide) (ca_law_take c) (by decide) (ca_law_value_right c) (by decide) (ca_law_value c) (by decide) (ca_law_refused c) (by decide) (ca_law_deep c) (by decide) (ca_law_told c) (by decide) (ca_law_value_text c) (by decide) (ca_law_same c 100) (by decide) hr), pr_law vs H Q E hs⟩
theorem script_at {K : PySem.W.Frag} (hK : K.all noL = true) {H : Hp} {a : Addr} {xs : List V} (hO : Only H) (hS : SqL K H a xs) : ∃ o, H a = some (.frz o (.lst xs)) := by
  rcases hS with (h | ⟨o, h⟩) | ⟨o, its, n, h, hc, _⟩
  · rcases hO a with z | ⟨o, ys, z⟩
    · rw [h] at z; cases z
    · rw [h] at z; cases z
  · exact ⟨o, h⟩
  · exact absurd hc (no_list hK h)
end K56
open PySem PySem.W PySem.Calls PyProof.Rows
theorem PySem.Challenge.cw_madetables_k56_value_texts_holds : PySem.Challenge.rw_madetables_k56_value_texts.Holds := by
  w_on; o_law
  refine HandSHeadRun.head_any (r := OpenLaw.row PySem.Challenge.rw_madetables_k56_value_texts) (q := view (OpenLaw.row PySem.Challenge.rw_madetables_k56_value_texts).prog [42]) (H := K56.hk2) (ob := K56.ob2) (M := 3000) (loose := K56.loose) (d := HandSHeadRun.topDef (OpenLaw.row PySem.Challenge.rw_madetables_k56_value_texts).prog 42) (kwd := []) K56.ob2_eq
    (by kernel_rfl) (fun s => by kernel_rfl) K56.run2 (by kernel_rfl) (by kernel_rfl) (by kernel_rfl) (by rfl) (by first | assumption | decide +kernel) (by decide +kernel) ⟨rfl, rfl, rfl, rfl, rfl, by decide +kernel⟩ ?hw ?hc
  case hw => w_witness2
  case hc =>
    refine Att.attach_call (l := PySem.Challenge.rw_madetables_k56_value_texts) (n := 63) rfl (by kernel_rfl) fun w s₀ s₁ mg mb fa o pm cd doc a vs ns G Y ho hd hcd hmg0 hobj hints hlen hg => ?_
    obtain ⟨K, KX, c⟩ := Y
    have hmg : mg ("law" : PySem.Str) = some (.ref fa) := by
      have e : (HandSHeadRun.topDef (OpenLaw.row PySem.Challenge.rw_madetables_k56_value_texts).prog 42).name = ("law" : PySem.Str) := by kernel_rfl
      rw [← e]
      exact hmg0
    obtain ⟨fd, hb, hK, hF⟩ := K56.facts (P := (PySem.Challenge.rw_madetables_k56_value_texts).prog) (w := w) KX G.T.g hmg c
    refine L2.law_call (x := "script") KX G.T.g G.T.b G.T.builtins G.T.nolimit hg hobj hints (Nat.le_trans hlen (by decide)) (k := 104) ⟨rfl, by decide, by decide⟩ hF hb (fun H hO hS => ?_) fun H e s' z => by obtain ⟨_, _, _, _, _, _, _, _, _, _, _, _, z⟩ := z; exact z
    obtain ⟨o, e⟩ := K56.script_at hK hO hS
    exact ⟨a, ns, o, rfl, e, by omega, fun _ _ => rfl⟩
