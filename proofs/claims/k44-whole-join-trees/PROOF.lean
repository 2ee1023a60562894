import PyProof.Rows.All
import Wide.All
import OpenK.AllK
import Wide.FinOn
import PyProof.EqAt
import PyProof.EqKinds
import PyProof.TupleCall
import HandS.ForMost
import HandS.ForExc
import HandS.IsInst
import HandS.Codes
import HandS.More
import HandS.Style
import HandS.Walk
import HandS.Wide
import HandS.NoneIn
import HandS.Conv
import HandS.Defaults
import HandS.ExcInit
import HandS.ExcField
import HandS.TryMany
import HandS.TryElse
import HandS.HeadHook2
import HandS.RaiseMore
import HandS.Zip
import HandS.Replace
import HandS.HeadHook3
import HandS.WordsDict
import KE.KStateDown
import HandS.Head0
import HandS.Head1
import HandS.Head2
import HandS.HeadEnd
import HandS.HeadHook1
import HandS.HeadHook4
import HandS.Comp
import HandS.DictComp
import HandS.Star
import HandS.SortInts
import HandS.SortRule
import HandS.Small
import HandS.Strs
import HandS.SetFor
import PySem.Challenge.RW_madetables_k44_whole_join_trees
set_option Elab.async false
set_option linter.all false
set_option maxRecDepth 100000
set_option maxHeartbeats 4000000
namespace MT
open PySem PySem.Spec PyProof.Rows L2
/-! ### weaker readings -/
section
variable {X : Cx} {e : Expr} {t t' : TE}
theorem pe_imp (h : PE X e t) (f : ∀ σ H Q, t' σ H Q → t σ H Q) : PE X e t' := ⟨fun pins s σ H Q I q => h.run pins s σ H Q I (f σ H Q q)⟩
theorem pt_imp {t t' : TT} (h : PT X e t) (f : ∀ σ H Q, t' σ H Q → t σ H Q) : PT X e t' := ⟨fun pins s σ H Q I q => h.run pins s σ H Q I (f σ H Q q)⟩
theorem opr_imp {f : Value → Value → Sem Value} {r r' : R2} (h : OpR X f r) (k : ∀ x y H Q, r' x y H Q → r x y H Q) : OpR X f r' := fun pins s σ H x y v u Q I rx ry q => h pins s σ H x y v u Q I rx ry (k x y H Q q)
theorem opr_or {f : Value → Value → Sem Value} {r r' : R2} (h : OpR X f r) (h' : OpR X f r') : OpR X f (fun x y H Q => r x y H Q ∨ r' x y H Q) := fun pins s σ H x y v u Q I rx ry q => q.elim (h pins s σ H x y v u Q I rx ry) (h' pins s σ H x y v u Q I rx ry)
theorem callr_imp {f : Value} {r r' : List V → Hp → VK → Prop} (h : CallR X f r) (k : ∀ xs H Q, r' xs H Q → r xs H Q) : CallR X f r' := fun pins s σ H xs us Q I rs q => h pins s σ H xs us Q I rs (k xs H Q q)
theorem ixr_imp {r r' : R2} (h : IxR X r) (k : ∀ x y H Q, r' x y H Q → r x y H Q) : IxR X r' := fun value slice pins s σ H x y v u Q I rx ry q hs => h value slice pins s σ H x y v u Q I rx ry (k x y H Q q) hs
end
/-! ### kinds of values -/
inductive Ty where
  | non | bl | int | str | lst | tup | dct
  deriving DecidableEq
def Ty.nm : Ty → String
  | .non => "NoneType" | .bl => "bool" | .int => "int" | .str => "str" | .lst => "list" | .tup => "tuple" | .dct => "dict"
def tyO : Option HO → Option Ty
  | some (.lst _) => some .lst
  | some (.tup _) => some .tup
  | some (.dK _) => some .dct
  | some (.frz _ (.lst _)) => some .lst
  | _ => none
def tyOf (H : Hp) : V → Option Ty
  | .non => some .non
  | .bl _ => some .bl
  | .int _ => some .int
  | .str _ => some .str
  | .ref a => tyO (H a)
  | _ => none
def isa (t T : Ty) : Bool := decide (t = T) || (decide (t = .bl) && decide (T = .int))
theorem tyX_of {K : PySem.W.Frag} {H : Hp} {x : V} {t : Ty} (h : tyOf H x = some t) : TyX K H x (.type t.nm) := by
  cases x with
  | non => cases h; exact .base .non
  | bl b => cases h; exact .base (.bl b)
  | int i => cases h; exact .base (.int i)
  | str z => cases h; exact .base (.str z)
  | ref a =>
    replace h : tyO (H a) = some t := h
    cases e : H a with
    | none => rw [e] at h; cases h
    | some o =>
      rw [e] at h
      cases o with
      | lst xs => cases h; exact .base (.lst e)
      | tup xs => cases h; exact .base (.tup e)
      | dK kvs => cases h; exact .base (.dK e)
      | frz ob u =>
        cases u with
        | lst xs => cases h; exact .base (.frz e)
        | _ => cases h
      | _ => cases h
  | _ => cases h
theorem isa_kit {K : PySem.W.Frag} {t T : Ty} : PySem.W.kitOne K (.type t.nm) (.type T.nm) = some (isa t T) := by
  refine kit_ty ?_
  cases t <;> cases T <;> decide +kernel
theorem isa_kits {K : PySem.W.Frag} {t : Ty} : ∀ Ts : List Ty, PySem.W.kitAny K (.type t.nm) (Ts.map fun T => .type T.nm) = some (Ts.any fun T => isa t T)
  | [] => rfl
  | T :: Ts => by
    refine kitAny_cons isa_kit (b := isa t T) (fun h => ?_) fun h => ?_
    · rw [List.any_cons, h, Bool.false_or]
      exact isa_kits Ts
    · rw [List.any_cons, h, Bool.true_or]
/-! ### isinstance -/
theorem pe_eq {X : Cx} {e : Expr} {t t' : TE} (h : PE X e t) (q : t = t') : PE X e t' := q ▸ h
/-- isinstance(x, T), T a built-in class -/
def tIs (T : Ty) (tx : TE) : TE := fun σ H Q => tx σ H fun v H1 => ∃ t, tyOf H1 v = some t ∧ Q (.bl (isa t T)) H1
/-- isinstance(x, (T1, T2, ..)): the tuple of classes is not tracked -/
def tIss (Ts : List Ty) (tx : TE) : TE := fun σ H Q => tx σ H fun v H1 => ∃ t, tyOf H1 v = some t ∧ Q (.bl (Ts.any fun T => isa t T)) H1
def rIsM (T : Ty) : List V → Hp → VK → Prop := fun xs H Q => match xs with
  | [v, .ty n] => n = T.nm ∧ ∃ t, tyOf H v = some t ∧ Q (.bl (isa t T)) H
  | _ => False
theorem call_isM {X : Cx} (T : Ty) : CallR X (.builtin "isinstance") (rIsM T) := callr_imp call_isi fun xs H Q h => by
  unfold rIsM at h
  split at h
  · obtain ⟨rfl, t, ht, q⟩ := h
    exact ⟨_, _, _, _, _, rfl, .ty _, tyX_of ht, isa_kit, q⟩
  · exact h.elim
/-- names of built-in classes, evaluated in a row -/
inductive ClsNames (X : Cx) : List Expr → List Ty → Prop
  | nil : ClsNames X [] []
  | cons {n : Str} {p : Pos} {es : List Expr} {T : Ty} {Ts : List Ty} (hm : X.mg n = none) (hg : Gl X n) (hv : bootBuiltins n = some (.type T.nm)) (hn : n ≠ "__name__") (hd : (n == ("__debug__" : Str)) = false)
      (hs : starEach (.Name n p :: es) X.env = (false, eval (.Name n p) X.env) :: starEach es X.env) (r : ClsNames X es Ts) : ClsNames X (.Name n p :: es) (T :: Ts)
theorem ClsNames.run {X : Cx} {pins : List (Addr × Obj)} {σ : L2.St} {H : Hp} {pos : Pos} : ∀ {es : List Expr} {Ts : List Ty} {s : Shared}, ClsNames X es Ts → Inv X pins σ H s →
    wpAny (model X.prog X.w) X.A (spliced (backTo pos (starEach es X.env))) (fun us s' => us = Ts.map (fun T => .type T.nm) ∧ Inv X pins σ H s') X.xe s
  | _, _, s, .nil, I => Calls.spliced_nil ⟨rfl, I⟩
  | _, _, s, .cons (n := n) (p := p) (es := es) (Ts := Ts) hm hg hv hn hd hs r, I => by
    rw [hs]
    show wpAny _ _ (spliced ((false, eval (.Name n p) X.env) :: backTo pos (starEach es X.env))) _ _ s
    refine Calls.spliced_cons (ld_blt I hg hm hv ?_ hn hd)
    refine thn (ClsNames.run r I) fun us s1 ⟨e, I1⟩ => ?_
    exact ⟨by rw [e]; rfl, I1⟩
section
variable {X : Cx} {x : Expr} {es : List Expr} {Ts : List Ty} {tx : TE} {n : Str} {p p2 pos : Pos}
theorem xe_is (T : Ty) (hx : PE X x tx) (hm : X.mg "isinstance" = none) (hmT : X.mg n = none) (hg : Gl X "isinstance" := by rfl) (hgT : Gl X n := by rfl) (hv : bootBuiltins n = some (.type T.nm) := by decide +kernel) (hn : n ≠ "__name__" := by decide) (hdb : (n == ("__debug__" : Str)) = false := by decide)
    (hs : starEach [x, .Name n p2] X.env = (false, eval x X.env) :: starEach [.Name n p2] X.env := by rfl) (hs2 : starEach [.Name n p2] X.env = (false, eval (.Name n p2) X.env) :: starEach [] X.env := by rfl) (hpl : (backTo pos (starEach [.Name n p2] X.env)).any (·.1) = false := by rfl) :
    PE X (.Call (.Name "isinstance" p) [x, .Name n p2] [] pos) (tIs T tx) := by
  have h1 : PE X (.Name n p2) (tC (.ty T.nm)) := pe_bltn hgT hmT hv rfl hn hdb
  refine pe_eq (pe_callB (call_isM T) hg hm (by decide +kernel) (pa_cons hx (pa_cons h1 pa_nil hs2) hs) (by decide) (by decide) hs hpl) ?_
  funext σ H Q
  show tx σ H (fun v H1 => rIsM T [v, .ty T.nm] H1 Q) = tx σ H _
  congr 1
  funext v H1
  exact propext ⟨fun h => h.2, fun h => ⟨rfl, h⟩⟩
theorem xe_iss (Ts : List Ty) {c : Nat} (hx : PE X x tx) (hm : X.mg "isinstance" = none) (hc : ClsNames X es Ts) (hl : es.length ≤ 1000) (hg : Gl X "isinstance" := by rfl)
    (hs : starEach [x, .Tuple es c p2] X.env = (false, eval x X.env) :: starEach [.Tuple es c p2] X.env := by rfl) (hs2 : starEach [.Tuple es c p2] X.env = (false, eval (.Tuple es c p2) X.env) :: starEach [] X.env := by rfl) (hpl : (backTo pos (starEach [.Tuple es c p2] X.env)).any (·.1) = false := by rfl) :
    PE X (.Call (.Name "isinstance" p) [x, .Tuple es c p2] [] pos) (tIss Ts tx) := by
  refine ⟨fun pins s σ H Q I h => ?_⟩
  refine wpAny_Call_Name_kw (ld_blt (u := .builtin "isinstance") I hg hm (by decide +kernel) ?_ (by decide) (by decide))
  refine PyProof.Rows.callWith_builtin1 ?_ hs hpl
  rw [hs, hs2]
  show wpAny _ _ (spliced ((false, eval x X.env) :: (false, eval (.Tuple es c p2) X.env) :: backTo pos (starEach [] X.env))) _ _ s
  refine Calls.spliced_cons (thn (hx.run pins s σ H _ I h) fun v s1 ⟨y, H1, I1, ry, t, ht, q⟩ => ?_)
  refine Calls.spliced_cons (wpAny_Tuple_spliced (thn (ClsNames.run hc I1) fun us s2 ⟨eu, I2⟩ => ?_))
  have hlen : us.length ≤ sizeLine := by
    rw [eu, List.length_map]
    have : ∀ {es : List Expr} {Ts : List Ty}, ClsNames X es Ts → Ts.length = es.length := by
      intro es Ts h
      induction h with
      | nil => rfl
      | cons _ _ _ _ _ _ _ ih => rw [List.length_cons, List.length_cons, ih]
    rw [this hc]
    exact Nat.le_of_lt (small1000 hl)
  refine ⟨hlen, ?_⟩
  have I3 : Inv X pins σ H1 { s2 with heap := s2.heap.push { cls := .type "tuple", data := .seq us.toArray } } := I2.kept (t' := s2.toks) fun b o e => Heap.get?_push_of_some _ e
  refine Calls.spliced_nil ?_
  obtain ⟨P, Z, pz, hne⟩ := kit_of I3 ry (tyX_of ht)
  exact PySem.W.kia_tup Z I3.kIn pz (Heap.get?_push_size _ rfl) (by rw [eu]; exact isa_kits Ts) hne fun tk => ⟨.bl _, H1, I3.tok tk, rfl, q⟩
end
end MT
set_option Elab.async false
set_option linter.all false
set_option maxRecDepth 100000
set_option maxHeartbeats 4000000
namespace MT
open PySem PySem.Spec PyProof.Rows L2
open SX (S)
/-! ### what stands at a value -/
def seqO : Option HO → Option (List V)
  | some (.lst xs) => some xs
  | some (.tup xs) => some xs
  | some (.frz _ (.lst xs)) => some xs
  | _ => none
def seqOf (H : Hp) : V → Option (List V)
  | .ref a => seqO (H a)
  | _ => none
theorem seq_of {K : PySem.W.Frag} {H : Hp} {a : Addr} {xs : List V} (h : seqO (H a) = some xs) : SqL K H a xs ∨ SqT K H a xs := by
  cases e : H a with
  | none => rw [e] at h; cases h
  | some o =>
    rw [e] at h
    cases o with
    | lst ys => cases h; exact .inl (.inl (.inl e))
    | tup ys => cases h; exact .inr (.inl (.inl e))
    | frz ob u =>
      cases u with
      | lst ys => cases h; exact .inl (.inl (.inr ⟨ob, e⟩))
      | _ => cases h
    | _ => cases h
/-! ### readings by cases of the values -/
/-- a + b -/
def rAddM : R2 := fun x y H Q => match x, y with
  | .int i, .int j => Q (.int (i + j)) H
  | .str a, .str b => a.length + b.length ≤ sizeLine ∧ Q (.str (a ++ b)) H
  | .ref p, .ref q => (match H p, H q with
    | some (.lst xs), some (.lst ys) => xs.length + ys.length ≤ sizeLine ∧ ∀ r, H r = none → Q (.ref r) (upd H r (.lst (xs ++ ys)))
    | some (.tup (x :: xs)), some (.tup (y :: ys)) => (x :: xs).length + (y :: ys).length ≤ sizeLine ∧ ∀ r, H r = none → Q (.ref r) (upd H r (.tup ((x :: xs) ++ (y :: ys))))
    | _, _ => False)
  | _, _ => False
theorem op_addM {X : Cx} : OpR X (binaryOp .Add) rAddM := by
  refine opr_imp (opr_or (op_add (X := X)) (opr_or op_add_str (opr_or op_cat op_catT))) fun x y H Q h => ?_
  cases x with
  | int i => cases y with
    | int j => exact .inl ⟨i, j, rfl, rfl, h⟩
    | _ => exact False.elim h
  | str a => cases y with
    | str b => exact .inr (.inl ⟨a, b, rfl, rfl, h.1, h.2⟩)
    | _ => exact False.elim h
  | ref p => cases y with
    | ref q =>
      unfold rAddM at h
      dsimp only at h
      split at h
      · rename_i xs ys h1 h2
        exact .inr (.inr (.inl ⟨p, q, xs, ys, rfl, rfl, h1, h2, h.1, h.2⟩))
      · rename_i x xs y ys h1 h2
        exact .inr (.inr (.inr ⟨p, q, x :: xs, y :: ys, rfl, rfl, .of h1, .of h2, by simp, h.1, (fun e => by cases e), fun _ => h.2⟩))
      · exact h.elim
    | _ => exact False.elim h
  | _ => exact False.elim h
/-- xs[i], t[i], s[i] -/
def rIxM : R2 := fun x y H Q => match x, y with
  | .ref p, .int i => ∃ xs v, seqO (H p) = some xs ∧ atI xs i = some v ∧ Q v H
  | .str z, .int i => z.length ≤ sizeLine ∧ ∃ c, atI z.cps.toList i = some c ∧ Q (.str (S [c])) H
  | _, _ => False
theorem ix_M {X : Cx} : IxR X rIxM := by
  refine ixr_imp ix_seq fun x y H Q h => ?_
  cases x with
  | ref p => cases y with
    | int i =>
      obtain ⟨xs, v, h1, h2, h3⟩ := (show ∃ xs v, seqO (H p) = some xs ∧ atI xs i = some v ∧ Q v H from h)
      rcases seq_of (K := X.K) h1 with q | q
      · exact .inl ⟨p, xs, i, v, rfl, rfl, q, h2, h3⟩
      · exact .inr (.inl ⟨p, xs, i, v, rfl, rfl, q, h2, h3⟩)
    | _ => exact False.elim h
  | str z => cases y with
    | int i =>
      obtain ⟨h0, c, h1, h2⟩ := (show z.length ≤ sizeLine ∧ ∃ c, atI z.cps.toList i = some c ∧ Q (.str (S [c])) H from h)
      exact .inr (.inr ⟨z, i, c, rfl, rfl, h0, h1, h2⟩)
    | _ => exact False.elim h
  | _ => exact False.elim h
/-- slices of lists and texts -/
def rSlM : V → Option Int → Option Int → Hp → VK → Prop := fun x lo hi H Q => match x with
  | .str z => z.length ≤ sizeLine ∧ Q (.str (cutS z lo hi)) H
  | .ref a => (match H a with
    | some (.lst xs) => ∀ p, H p = none → Q (.ref p) (upd H p (.lst (cutV xs lo hi)))
    | some (.frz _ (.lst xs)) => ∀ p, H p = none → Q (.ref p) (upd H p (.lst (cutV xs lo hi)))
    | _ => False)
  | _ => False
theorem sl_M {X : Cx} : SlR X rSlM := by
  refine fun pins s σ H x v vl vu lo hi sl Q I rx hs pl pu h => SlR.or sl_list sl_str pins s σ H x v vl vu lo hi sl Q I rx hs pl pu ?_
  cases x with
  | str z => exact .inr ⟨z, rfl, h.1, h.2⟩
  | ref a =>
    unfold rSlM at h
    dsimp only at h
    split at h
    · rename_i xs e
      exact .inl ⟨a, xs, rfl, .of e, h⟩
    · rename_i o xs e
      exact .inl ⟨a, xs, rfl, .inl (.inr ⟨o, e⟩), h⟩
    · exact h.elim
  | _ => exact False.elim h
/-- len -/
def rLenM : List V → Hp → VK → Prop := fun xs H Q => match xs with
  | [.str z] => z.length ≤ sizeLine ∧ Q (.int z.length) H
  | [.ref p] => ∃ ys, seqO (H p) = some ys ∧ Q (.int ys.length) H
  | _ => False
theorem call_lenM {X : Cx} : CallR X (.builtin "len") rLenM := by
  refine callr_imp call_len fun xs H Q h => ?_
  unfold rLenM at h
  split at h
  · exact ⟨_, _, rfl, ⟨h.1, rfl⟩, h.2⟩
  · rename_i p
    obtain ⟨ys, h1, h2⟩ := h
    refine ⟨_, _, rfl, ?_, h2⟩
    rcases seq_of (K := X.K) h1 with q | q
    · exact .inl ⟨ys, q, rfl⟩
    · exact .inr ⟨ys, q, rfl⟩
  · exact h.elim
/-- c in s, for a sign -/
def rSignIn (neg : Bool) : R2 := fun x y H Q => match x, y with
  | .str a, .str z => ∃ c, a = S [c] ∧ Q (.bl (if neg then !decide (c ∈ z.cps.toList) else decide (c ∈ z.cps.toList))) H
  | _, _ => False
theorem op_signIn {X : Cx} : OpR X (compareOp .In) (rSignIn false) := opr_imp op_in_sign fun x y H Q h => by
  cases x with
  | str a => cases y with
    | str z =>
      obtain ⟨c, rfl, q⟩ := h
      exact ⟨c, z, rfl, rfl, q⟩
    | _ => exact False.elim h
  | _ => exact False.elim h
theorem op_signNotIn {X : Cx} : OpR X (compareOp .NotIn) (rSignIn true) := opr_imp op_notIn_sign fun x y H Q h => by
  cases x with
  | str a => cases y with
    | str z =>
      obtain ⟨c, rfl, q⟩ := h
      exact ⟨c, z, rfl, rfl, q⟩
    | _ => exact False.elim h
  | _ => exact False.elim h
/-- all(xs), any(xs), xs a list of bools -/
def rAllM (f : List Bool → Bool) : List V → Hp → VK → Prop := fun xs H Q => match xs with
  | [.ref p] => ∃ bs : List Bool, H p = some (.lst (bs.map V.bl)) ∧ Q (.bl (f bs)) H
  | _ => False
theorem call_allM {X : Cx} (hc : X.calm = true) : CallR X (.builtin "all") (rAllM fun bs => bs.all id) := callr_imp (cr_all hc) fun xs H Q h => by
  unfold rAllM at h
  split at h
  · obtain ⟨bs, h1, h2⟩ := h
    exact ⟨_, bs, rfl, .of h1, h2⟩
  · exact h.elim
theorem xe_str {X : Cx} {x y : Str} {j pos} (h : x = y) : PE X (.Constant (.str x) j pos) (tC (.str y)) := h ▸ pe_str
end MT
set_option Elab.async false
set_option linter.all false
set_option maxRecDepth 100000
set_option maxHeartbeats 4000000
namespace MT
open PySem PySem.Spec PyProof.Rows L2
open SX (S)
/-! ### heaps that grow: F, what is read as data, within H -/
structure Grow (F H F' H' : Hp) : Prop where
  s : Same F H
  h : Same H H'
  f : Same F F'
  fh : Same F' H'
  nw : ∀ a, H a ≠ none → F a = none → F' a = none
section
variable {F H F' H' F'' H'' H0 F0 : Hp} {p a : Addr} {o u : HO}
theorem same_upd (h : H p = none) : Same H (upd H p o) := fun b x e => by rw [upd_ne (ne_of_none e h)]; exact e
theorem Grow.refl (s : Same F H) : Grow F H F H := ⟨s, .refl _, .refl _, s, fun _ _ h => h⟩
theorem Grow.same (s : Same F H) (t : Same H H') : Grow F H F H' := ⟨s, t, .refl _, s.trans t, fun _ _ h => h⟩
theorem Same.ne (g : Same H H') (h : H a ≠ none) : H' a ≠ none := fun z => h (Same.free g z)
theorem Grow.trans (g : Grow F H F' H') (k : Grow F' H' F'' H'') : Grow F H F'' H'' := ⟨g.s, g.h.trans k.h, g.f.trans k.f, k.fh, fun a h1 h2 => k.nw a (Same.ne g.h h1) (g.nw a h1 h2)⟩
/-- a new object that will be read as data -/
theorem Grow.new (g : Grow F H F' H') (h : H' p = none) : Grow F H (upd F' p o) (upd H' p o) := by
  have hf : F' p = none := Same.free g.fh h
  have hh : H p = none := Same.free g.h h
  refine ⟨g.s, g.h.trans (same_upd h), g.f.trans (same_upd hf), fun b x e => ?_, fun a h1 h2 => ?_⟩
  · by_cases hb : b = p
    · subst hb; rw [upd_same] at e ⊢; exact e
    · rw [upd_ne hb] at e ⊢; exact g.fh _ _ e
  · rw [upd_ne (fun z => h1 (by rw [z]; exact hh))]
    exact g.nw a h1 h2
/-- a new cell, not (yet) data; a cell changes -/
theorem Grow.cell (g : Grow F H F' H') (h : H p = none) (hf : F' p = none) : Grow F H F' (upd H' p o) :=
  ⟨g.s, fun b x e => by rw [upd_ne (ne_of_none e h)]; exact g.h _ _ e, g.f, fun b x e => by rw [upd_ne (ne_of_none e hf)]; exact g.fh _ _ e, g.nw⟩
/-- a cell becomes data -/
theorem Grow.frz (g : Grow F H F' H') (h : H p = none) (hf : F' p = none) (e : H' p = some o) : Grow F H (upd F' p o) H' := by
  refine ⟨g.s, g.h, g.f.trans (same_upd hf), fun b x q => ?_, fun a h1 h2 => ?_⟩
  · by_cases hb : b = p
    · subst hb; rw [upd_same] at q; rw [e]; exact q
    · rw [upd_ne hb] at q; exact g.fh _ _ q
  · rw [upd_ne (fun z => h1 (by rw [z]; exact h))]
    exact g.nw a h1 h2
end
/-! ### data -/
inductive D where
  | non | bl (b : Bool) | int (i : Int) | str (l : List Nat) | lst (xs : List D) | tup (xs : List D) | dct (kvs : List (List Nat × Int))
/-- no list and no text of data is longer -/
abbrev BL : Nat := 1000000
mutual
/-- v is the data d, as F tells -/
inductive Rep (F : Hp) : V → D → Prop
  | non : Rep F .non .non
  | bl (b : Bool) : Rep F (.bl b) (.bl b)
  | int (i : Int) : Rep F (.int i) (.int i)
  | str {l : List Nat} : l.length ≤ BL → Rep F (.str (S l)) (.str l)
  | lst {a : Addr} {xs : List V} {ds : List D} : F a = some (.lst xs) → RepL F xs ds → ds.length ≤ BL → Rep F (.ref a) (.lst ds)
  | tup {a : Addr} {xs : List V} {ds : List D} : F a = some (.tup xs) → RepL F xs ds → ds.length ≤ BL → Rep F (.ref a) (.tup ds)
  | dct {a : Addr} {ds : List (List Nat × Int)} : ds.length ≤ 1 → F a = some (.dK (ds.map fun q => (Sum.inr (S q.1), V.int q.2))) → Rep F (.ref a) (.dct ds)
inductive RepL (F : Hp) : List V → List D → Prop
  | nil : RepL F [] []
  | cons {v : V} {vs : List V} {d : D} {ds : List D} : Rep F v d → RepL F vs ds → RepL F (v :: vs) (d :: ds)
end
mutual
theorem Rep.mono {F F' : Hp} (s : Same F F') : ∀ {v : V} {d : D}, Rep F v d → Rep F' v d
  | _, _, .non => .non
  | _, _, .bl b => .bl b
  | _, _, .int i => .int i
  | _, _, .str h => .str h
  | _, _, .lst h r z => .lst (s _ _ h) (RepL.mono s r) z
  | _, _, .tup h r z => .tup (s _ _ h) (RepL.mono s r) z
  | _, _, .dct z h => .dct z (s _ _ h)
theorem RepL.mono {F F' : Hp} (s : Same F F') : ∀ {v : List V} {d : List D}, RepL F v d → RepL F' v d
  | _, _, .nil => .nil
  | _, _, .cons h r => .cons (Rep.mono s h) (RepL.mono s r)
end
section
variable {F H : Hp} {v : V} {vs ws : List V} {d : D} {ds es : List D} {i : Nat}
theorem RepL.length : ∀ {vs : List V} {ds : List D}, RepL F vs ds → vs.length = ds.length
  | _, _, .nil => rfl
  | _, _, .cons _ r => congrArg (· + 1) r.length
theorem RepL.append : ∀ {vs ws : List V} {ds es : List D}, RepL F vs ds → RepL F ws es → RepL F (vs ++ ws) (ds ++ es)
  | _, _, _, _, .nil, r => r
  | _, _, _, _, .cons h r, q => .cons h (r.append q)
theorem RepL.one (h : Rep F v d) : RepL F [v] [d] := .cons h .nil
theorem RepL.snoc (r : RepL F vs ds) (h : Rep F v d) : RepL F (vs ++ [v]) (ds ++ [d]) := r.append (.one h)
theorem RepL.take : ∀ {vs : List V} {ds : List D} (n : Nat), RepL F vs ds → RepL F (vs.take n) (ds.take n)
  | _, _, 0, _ => .nil
  | _, _, _ + 1, .nil => .nil
  | _, _, n + 1, .cons h r => .cons h (r.take n)
theorem RepL.drop : ∀ {vs : List V} {ds : List D} (n : Nat), RepL F vs ds → RepL F (vs.drop n) (ds.drop n)
  | _, _, 0, r => r
  | _, _, _ + 1, .nil => .nil
  | _, _, n + 1, .cons h r => r.drop n
theorem RepL.get : ∀ {vs : List V} {ds : List D} {i : Nat} {v : V}, RepL F vs ds → vs[i]? = some v → ∃ d, ds[i]? = some d ∧ Rep F v d
  | _, _, _, _, .nil, h => by simp at h
  | _, _, 0, _, .cons r _, h => by simp at h; subst h; exact ⟨_, rfl, r⟩
  | _, _, i + 1, _, .cons _ r, h => by
    obtain ⟨d, e, q⟩ := RepL.get (i := i) r (by simpa using h)
    exact ⟨d, by simpa using e, q⟩
theorem RepL.getD : ∀ {vs : List V} {ds : List D} {i : Nat} {d : D}, RepL F vs ds → ds[i]? = some d → ∃ v, vs[i]? = some v ∧ Rep F v d
  | _, _, _, _, .nil, h => by simp at h
  | _, _, 0, _, .cons r _, h => by simp at h; subst h; exact ⟨_, rfl, r⟩
  | _, _, i + 1, _, .cons _ r, h => by
    obtain ⟨v, e, q⟩ := RepL.getD (i := i) r (by simpa using h)
    exact ⟨v, by simpa using e, q⟩
theorem RepL.of_get : ∀ {vs : List V} {ds : List D}, vs.length = ds.length → (∀ (i : Nat) (v : V) (d : D), vs[i]? = some v → ds[i]? = some d → Rep F v d) → RepL F vs ds
  | [], [], _, _ => .nil
  | [], _ :: _, h, _ => by cases h
  | _ :: _, [], h, _ => by cases h
  | v :: vs, d :: ds, h, k => .cons (k 0 v d rfl rfl) (RepL.of_get (by simpa using h) fun i a b h1 h2 => k (i + 1) a b (by simpa using h1) (by simpa using h2))
theorem RepL.snoc_inv {vs : List V} {ds : List D} {d : D} (r : RepL F vs (ds ++ [d])) : ∃ ws v, vs = ws ++ [v] ∧ RepL F ws ds ∧ Rep F v d := by
  induction ds generalizing vs with
  | nil =>
    cases r with
    | cons h r => cases r; exact ⟨[], _, rfl, .nil, h⟩
  | cons e es ih =>
    cases r with
    | cons h r =>
      obtain ⟨ws, v, rfl, q, z⟩ := ih r
      exact ⟨_ :: ws, v, rfl, .cons h q, z⟩
/-- the kind of data -/
def D.ty : D → Ty
  | .non => .non | .bl _ => .bl | .int _ => .int | .str _ => .str | .lst _ => .lst | .tup _ => .tup | .dct _ => .dct
theorem Rep.ty (s : Same F H) (r : Rep F v d) : tyOf H v = some d.ty := by
  cases r with
  | lst h _ _ => show tyO (H _) = _; rw [s _ _ h]; rfl
  | tup h _ _ => show tyO (H _) = _; rw [s _ _ h]; rfl
  | dct _ h => show tyO (H _) = _; rw [s _ _ h]; rfl
  | _ => rfl
end
/-! ### comprehensions -/
/-- the i-th thing that is walked, the heap as it was -/
theorem walk_fnL {K : PySem.W.Frag} {a : Addr} {xs : List V} : Walk (Itl K a) xs.length (fun H => SqL K H a xs) (YFn fun i => xs.getD i .non) :=
  walk_list.mono (fun _ h => h) fun i H x H' hi _ y => ⟨y.1, by show x = xs.getD i .non; rw [List.getD_eq_getElem?_getD, y.2]; rfl⟩
theorem walk_fnT {K : PySem.W.Frag} {a : Addr} {xs : List V} : Walk (Itt K a) xs.length (fun H => SqT K H a xs) (YFn fun i => xs.getD i .non) :=
  walk_tup.mono (fun _ h => h) fun i H x H' hi _ y => ⟨y.1, by show x = xs.getD i .non; rw [List.getD_eq_getElem?_getD, y.2]; rfl⟩
theorem walk_fnS {l : List Nat} : Walk (Its (S l)) l.length (fun _ => True) (YFn fun i => .str (S [l.getD i 0])) := by
  have e : (S l).cps.size = l.length := by simp [SX.S]
  rw [← e]
  refine walk_str.mono (fun _ h => h) fun i H x H' hi _ y => ?_
  obtain ⟨h1, c, h2, h3⟩ := y
  refine ⟨h1, ?_⟩
  have : l[i]? = some c := by
    have : (l.toArray)[i]? = some c := h2
    simpa using this
  rw [h3]
  show _ = V.str (S [l.getD i 0])
  rw [List.getD_eq_getElem?_getD, this]
  rfl
/-- what stays of a heap without the list that grows -/
def del (H : Hp) (p : Addr) : Hp := fun b => if b = p then none else H b
theorem del_upd {H : Hp} {p : Addr} {o : HO} (h : H p = none) : del (upd H p o) p = H := by
  funext b
  unfold del
  by_cases e : b = p
  · rw [if_pos e, e, h]
  · rw [if_neg e, upd_ne e]
theorem del_same' {H F : Hp} {p : Addr} (s : Same F H) (h : F p = none) : Same F (del H p) := fun b o e => by
  unfold del
  rw [if_neg (ne_of_none e h)]
  exact s _ _ e
theorem del_sub {H : Hp} {p : Addr} : Same (del H p) H := fun b o e => by
  unfold del at e
  split at e
  · cases e
  · exact e
theorem del_self {H : Hp} {p : Addr} : del H p p = none := if_pos rfl
/-- [te for the n things it i, kept where tt says so]; from (F0, H0); the items are told by R over what is data -/
theorem lc_fn {J : It} {n : Nat} {G : Hp → Prop} {it : Nat → V} (w : Walk J n G (YFn it)) {F0 H0 : Hp} {j : Nat} {te : TE} {σ : L2.St} {D : Addr} {Qd : Hp → Prop} (hG : ∀ H', Same H0 H' → G H') (hn : n < sizeLine) (hD : H0 D = none) (s0 : Same F0 H0)
    (R : Nat → V → Hp → Prop) (Rm : ∀ i v A B, Same A B → R i v A → R i v B)
    (he : ∀ i F1 H1 K', i < n → Grow F0 H0 F1 H1 → (∀ y F2 H2, Grow F1 H1 F2 H2 → R i y F2 → K' y H2) → te (σ.set j (some (it i))) H1 K')
    (hd : ∀ F1 H1 ys, Grow F0 H0 F1 H1 → F1 D = none → H1 D = some (.lst ys) → ys.length = n → (∀ i y, ys[i]? = some y → R i y F1) → Qd H1) :
    ∃ W : Nat → Nat → Hp → Prop, (∃ m, W 0 m (upd H0 D (.lst []))) ∧ ∀ i m H, W i m H →
      (J.stop i H ∧ Qd H) ∨ (J.go i H ∧ ∃ Nx : Hp → Prop, (∀ H', Nx H' → ∃ m', m' < m ∧ W (i + 1) m' H') ∧ ∀ x H', J.yld i H x H' → gName j x (wipe σ [j]) H' fun σ2 H2 => wipe σ2 [j] = wipe σ [j] ∧ tYes σ2 H2 fun b H3 =>
        if b = true then te σ2 H3 fun y H4 => ∃ acc, H4 D = some (.lst acc) ∧ acc.length < sizeLine ∧ Nx (upd H4 D (.lst (acc ++ [y]))) else Nx H3) := by
  have hF0 : F0 D = none := Same.free s0 hD
  refine lc_it w (fun i H => ∃ F1 ys, Grow F0 H0 F1 H ∧ F1 D = none ∧ H D = some (.lst ys) ∧ ys.length = i ∧ ∀ i y, ys[i]? = some y → R i y F1)
    ⟨F0, [], (Grow.refl s0).cell hD hF0, hF0, upd_same, rfl, by simp⟩ (fun i H _ h => ?_) (fun i x H H' hi h y => ?_) (fun H h => ?_)
  · obtain ⟨F1, ys, g, _⟩ := h
    exact hG H g.h
  · obtain ⟨F1, ys, g, hF1, hH, hl, hr⟩ := h
    obtain ⟨rfl, rfl⟩ := y
    have e1 : (wipe σ [j]).set j (some (it i)) = σ.set j (some (it i)) := by
      show (σ.set j none).set j _ = _
      rw [List.set_set]
    show wipe ((wipe σ [j]).set j (some (it i))) [j] = wipe σ [j] ∧ _
    refine ⟨?_, ?_⟩
    · rw [e1]
      show (σ.set j (some (it i))).set j none = σ.set j none
      rw [List.set_set]
    · rw [e1]
      refine he i F1 H' _ hi g fun y F2 H2 g2 r => ?_
      have hH2 := g2.h _ _ hH
      have hF2 : F2 D = none := g2.nw D (by rw [hH]; simp) hF1
      refine ⟨ys, hH2, by omega, F2, ys ++ [y], (g.trans g2).cell hD hF2, hF2, upd_same, by rw [List.length_append, hl]; rfl, fun k z hz => ?_⟩
      by_cases hk : k < ys.length
      · rw [List.getElem?_append_left hk] at hz
        exact Rm _ _ _ _ g2.f (hr k z hz)
      · rw [List.getElem?_append_right (by omega)] at hz
        have hk2 : k - ys.length = 0 := by
          cases q : k - ys.length with
          | zero => rfl
          | succ m => rw [q] at hz; simp at hz
        rw [hk2] at hz
        have ez : y = z := by simpa using hz
        subst ez
        have : k = i := by omega
        subst this
        exact r
  · obtain ⟨F1, ys, g, hF1, hH, hl, hr⟩ := h
    exact hd F1 H ys g hF1 hH hl hr
end MT
set_option Elab.async false
set_option linter.all false
set_option maxRecDepth 100000
set_option maxHeartbeats 4000000
namespace MT
open PySem PySem.Spec PyProof.Rows L2
open SX (S)
/-! ### defs -/
/-- the def x of the module keeps sp, by level k -/
structure Cal (P : Program) (w : World) (K : PySem.W.Frag) (mg : Str → Option Value) (base : Heap) (k : Nat) (x : Str) (ps : List Str) (sp : Sp) : Prop where
  ex : ∃ f fd, FnOk P w K mg base (L2.CX P w) k f fd ps sp ∧ mg x = some (.ref f) ∧ PySem.W.keepIn K (.ref f) = true ∧ Binds K fd ps []
theorem Cal.mono {P : Program} {w : World} {K : PySem.W.Frag} {mg : Str → Option Value} {base : Heap} {j k : Nat} {x : Str} {ps : List Str} {sp : Sp} (c : Cal P w K mg base j x ps sp) (h : j ≤ k) : Cal P w K mg base k x ps sp := by
  obtain ⟨f, fd, F, r⟩ := c.ex
  exact ⟨f, fd, F.mono h, r⟩
theorem Cal.imp {P : Program} {w : World} {K : PySem.W.Frag} {mg : Str → Option Value} {base : Heap} {k : Nat} {x : Str} {ps : List Str} {sp sp' : Sp} (c : Cal P w K mg base k x ps sp) (h : ∀ vs H Q E, sp' vs H Q E → sp vs H Q E) : Cal P w K mg base k x ps sp' := by
  obtain ⟨f, fd, F, r⟩ := c.ex
  exact ⟨f, fd, F.imp h, r⟩
/-- the def x of the module, as it stands -/
structure Def (K : PySem.W.Frag) (mg : Str → Option Value) (x : Str) (st : Stmt) : Prop where
  ex : ∃ fd, FunD K x x (defArgs st) (defBody st) (defScope st) [] [] (He.ga K x) fd
  gm : mg x = some (.ref (He.ga K x))
/-- all parameters are given -/
def Plain (x : Str) (st : Stmt) (ps : List Str) : Prop := ∀ (kV doc pm : Value) (an : Option Addr) (cdv ct : Value) (us : List Value), us.length = ps.length → bindArgs (PySem.W.fnOf x x (defArgs st) (defBody st) (defScope st) .none kV doc pm an cdv ct) ⟨us, []⟩ = pure (ps.zip us)
/-- the context of a def's body in which nothing is raised -/
abbrev cxN (P : Program) (w : World) (K : PySem.W.Frag) (mg : Str → Option Value) (base : Heap) (N : List Str) (x : Str) (sc : Scope) (f : Addr) (cdv : Value) (A : Around) (outer : List Env) (s : Shared) (H : Hp) (E : XK) : Cx := (cxOf (L2.CX P w) P w K mg base N x sc f cdv A outer s H E).nox
section
variable {P : Program} {w : World} {K : PySem.W.Frag} {mg : Str → Option Value} {base : Heap} {x : Str} {st : Stmt} {N ps : List Str} {k : Nat} {sp : Sp}
/-- a def that raises nothing -/
theorem mkFn (d : Def K mg x st) (S : FnScope N ps (defScope st)) (b : Plain x st ps) (len : ∀ vs H Q E, sp vs H Q E → vs.length = ps.length)
    {t : TS} (hb : ∀ (f : Addr) (cdv : Value) (A : Around) (outer : List Env) (s : Shared) (H : Hp) (E : XK), Room k (A.deeper (envOfC x (defScope st) s.heap.objs.size f cdv)) → PSs (cxN P w K mg base N x (defScope st) f cdv A outer s H E) (defBody st) t)
    (ht : ∀ (vs : List V) (H : Hp) (Q : VK) (E : XK), sp vs H Q E → t { nx := fun _ H' => Q .non H', rt := Q } (start N vs) H) : Cal P w K mg base (k + 1) x ps sp := by
  obtain ⟨fd, F⟩ := d.ex
  exact ⟨_, fd, F.ok S len fun cdv A outer s H vs Q E hr hs => ⟨t, PSs.nox (hb _ cdv A outer s H E hr), ht vs H Q E hs⟩, d.gm, F.kp, F.bindsN b⟩
/-- a def that may raise -/
theorem mkFnX (d : Def K mg x st) (S : FnScope N ps (defScope st)) (b : Plain x st ps) (len : ∀ vs H Q E, sp vs H Q E → vs.length = ps.length)
    {t : XK → TS} (hb : ∀ (f : Addr) (cdv : Value) (A : Around) (outer : List Env) (s : Shared) (H : Hp) (E : XK), Room k (A.deeper (envOfC x (defScope st) s.heap.objs.size f cdv)) → PSs (cxOf (L2.CX P w) P w K mg base N x (defScope st) f cdv A outer s H E) (defBody st) (t E))
    (ht : ∀ (vs : List V) (H : Hp) (Q : VK) (E : XK), sp vs H Q E → t E { nx := fun _ H' => Q .non H', rt := Q } (start N vs) H) : Cal P w K mg base (k + 1) x ps sp := by
  obtain ⟨fd, F⟩ := d.ex
  exact ⟨_, fd, F.ok S len fun cdv A outer s H vs Q E hr hs => ⟨t E, hb _ cdv A outer s H E hr, ht vs H Q E hs⟩, d.gm, F.kp, F.bindsN b⟩
end
/-- f(e, ..) of such a def -/
def tFn (sp : Sp) (t : TA) : TE := fun σ H Q => t σ H fun vs H1 => sp vs H1 Q E0
section
variable {X : Cx} {x : Str} {p pos : Pos} {e : Expr} {es : List Expr} {t : TA} {k j : Nat} {ps : List Str} {sp : Sp}
theorem xe_call (c : Cal X.prog X.w X.K X.mg X.base k x ps sp) (hr : Room j X.A) (hk : k ≤ j) (ha : PA X (e :: es) t) (hg : Gl X x := by rfl) (hdb : (x == ("__debug__" : Str)) = false := by decide)
    (he : starEach (e :: es) X.env = (false, eval e X.env) :: starEach es X.env := by rfl) (hpl : (backTo pos (starEach es X.env)).any (·.1) = false := by rfl) : PE X (.Call (.Name x p) (e :: es) [] pos) (tFn sp t) := by
  obtain ⟨f, fd, F, hm, hkp, hb⟩ := c.ex
  refine pe_eq (pe_call F (hr.mono hk) hg hm hkp hb .nil (passL (X := X)) ha hdb he hpl) ?_
  funext σ H Q
  show t σ H (fun vs H1 => sp (vs ++ []) H1 Q E0) = t σ H fun vs H1 => sp vs H1 Q E0
  congr 1
  funext vs H1
  rw [List.append_nil]
/-- f(e, ..), what is raised is wished for -/
def tFnX (sp : Sp) (W : WX) (t : TA) : TE := fun σ H Q => t σ H fun vs H1 => sp vs H1 Q (fun cls d H2 => W cls d σ H2)
theorem xe_callX {W : WX} (c : Cal X.prog X.w X.K X.mg X.base k x ps sp) (hr : Room j X.A) (hk : k ≤ j) (hx : ∀ σ, Passes (L2.CX X.prog X.w) X (fun cls d H2 => W cls d σ H2)) (ha : PA X (e :: es) t) (hg : Gl X x := by rfl) (hdb : (x == ("__debug__" : Str)) = false := by decide)
    (he : starEach (e :: es) X.env = (false, eval e X.env) :: starEach es X.env := by rfl) (hpl : (backTo pos (starEach es X.env)).any (·.1) = false := by rfl) : PE X (.Call (.Name x p) (e :: es) [] pos) (tFnX sp W t) := by
  obtain ⟨f, fd, F, hm, hkp, hb⟩ := c.ex
  refine ⟨fun pins s σ H Q I h => ?_⟩
  exact (pe_call F (hr.mono hk) hg hm hkp hb .nil (hx σ) ha hdb he hpl).run pins s σ H Q I (by
    show t σ H (fun vs H1 => sp (vs ++ []) H1 Q _)
    have e : (fun vs H1 => sp (vs ++ []) H1 Q (fun cls d H2 => W cls d σ H2)) = fun vs H1 => sp vs H1 Q (fun cls d H2 => W cls d σ H2) := by
      funext vs H1
      rw [List.append_nil]
    rw [e]
    exact h)
end
end MT
set_option Elab.async false
set_option linter.all false
set_option maxRecDepth 100000
set_option maxHeartbeats 4000000
namespace MT
open PySem PySem.Spec PyProof.Rows L2
open SX (S)
section
variable {X : Cx} {x : Str} {pos : Pos}
theorem xe_gint {i : Int} (h : ∃ t, X.mg x = some (.int i t)) (hg : Gl X x := by rfl) (hd : (x == ("__debug__" : Str)) = false := by decide) : PE X (.Name x pos) (tC (.int i)) := by
  obtain ⟨t, h⟩ := h
  exact pe_glob hg h ⟨t, rfl⟩ hd
theorem xe_gstr {z : Str} (h : ∃ t, X.mg x = some (.str z t)) (hg : Gl X x := by rfl) (hd : (x == ("__debug__" : Str)) = false := by decide) : PE X (.Name x pos) (tC (.str z)) := by
  obtain ⟨t, h⟩ := h
  exact pe_glob hg h ⟨t, rfl⟩ hd
end
/-! ### == and != of flat values -/
def rEqM : R2 := fun x y H Q => match x, y with
  | .int i, .int j => Q (.bl (decide (i = j))) H
  | .str a, .str b => Q (.bl (decide (a = b))) H
  | .bl a, .bl b => Q (.bl (decide (a = b))) H
  | _, _ => False
def rNeM : R2 := fun x y H Q => match x, y with
  | .int i, .int j => Q (.bl (!decide (i = j))) H
  | .str a, .str b => Q (.bl (!decide (a = b))) H
  | .bl a, .bl b => Q (.bl (!decide (a = b))) H
  | _, _ => False
theorem op_eqM {X : Cx} : OpR X (compareOp .Eq) rEqM := opr_imp op_eq fun x y H Q h => by
  unfold rEqM at h
  split at h
  · rename_i i j
    refine ⟨rfl, ?_⟩
    have e : decide (V.int i = V.int j) = decide (i = j) := by simp
    rw [e]; exact h
  · rename_i i j
    refine ⟨rfl, ?_⟩
    have e : decide (V.str i = V.str j) = decide (i = j) := by simp
    rw [e]; exact h
  · rename_i i j
    refine ⟨rfl, ?_⟩
    have e : decide (V.bl i = V.bl j) = decide (i = j) := by simp
    rw [e]; exact h
  · exact h.elim
theorem op_neM {X : Cx} : OpR X (compareOp .NotEq) rNeM := opr_imp op_ne fun x y H Q h => by
  unfold rNeM at h
  split at h
  · rename_i i j
    refine ⟨rfl, ?_⟩
    have e : decide (V.int i = V.int j) = decide (i = j) := by simp
    rw [e]; exact h
  · rename_i i j
    refine ⟨rfl, ?_⟩
    have e : decide (V.str i = V.str j) = decide (i = j) := by simp
    rw [e]; exact h
  · rename_i i j
    refine ⟨rfl, ?_⟩
    have e : decide (V.bl i = V.bl j) = decide (i = j) := by simp
    rw [e]; exact h
  · exact h.elim
/-! ### a list or a tuple is walked -/
def iSq (K : PySem.W.Frag) (tl : TE) : TI := fun σ H R => tl σ H fun x H1 => ∃ a, x = .ref a ∧ ((∃ xs, SqL K H1 a xs ∧ R (Itl K a) H1) ∨ ∃ xs, SqT K H1 a xs ∧ R (Itt K a) H1)
theorem pi_sq {X : Cx} {tg l : Expr} {tl : TE} (hl : PE X l tl) : PI X tg l (iSq X.K tl) := by
  refine ⟨fun pins s σ H R I h => ?_⟩
  refine thn (hl.run pins s σ H _ I h) fun v s1 ⟨x, H1, I1, r1, q1⟩ => ?_
  obtain ⟨a, e, q⟩ := q1
  subst e
  cases r1
  rcases q with ⟨xs, hq, q⟩ | ⟨xs, hq, q⟩
  · obtain ⟨its, rv, p, hz⟩ := I1.list hq
    refine wpAny_pyIter_list p.isList ?_
    refine ⟨s1.heap.objs.size, [s1.heap.objs.size], _, _, H1, rfl, I1.kept (t' := s1.toks) fun b o e => Heap.get?_push_of_some _ e, turn_list a _, ⟨_, Heap.get?_push_size _ rfl, rfl, rfl⟩, fun b hb => ?_, q⟩
    have e : b = s1.heap.objs.size := by simpa using hb
    subst e
    exact I1.fpOk (Nat.le_refl _) (I1.hok.fresh (Nat.le_refl _))
  · obtain ⟨its, rv, p, hz⟩ := I1.tuple hq
    refine wpAny_pyIter_tuple (show s1.heap.IsTuple a its.toArray from p) ?_
    refine ⟨s1.heap.objs.size, [s1.heap.objs.size], _, _, H1, rfl, I1.kept (t' := s1.toks) fun b o e => Heap.get?_push_of_some _ e, turn_tuple a _, ⟨_, Heap.get?_push_size _ rfl, rfl, rfl⟩, fun b hb => ?_, q⟩
    have e : b = s1.heap.objs.size := by simpa using hb
    subst e
    exact I1.fpOk (Nat.le_refl _) (I1.hok.fresh (Nat.le_refl _))
/-! ### calls of built-in classes and functions -/
/-- int(n), int(flag), int(digits) -/
def rInt : List V → Hp → VK → Prop := fun xs H Q => match xs with
  | [.int i] => Q (.int i) H
  | [.bl b] => Q (.int (if b then 1 else 0)) H
  | [.str z] => z.length ≤ 640 ∧ ∃ n, PySem.intText? z = some n ∧ Q (.int n) H
  | _ => False
theorem call_intM {X : Cx} : CallR X (.type "int") rInt := callr_imp (CallR.or call_int1 call_int_str) fun xs H Q h => by
  unfold rInt at h
  split at h
  · exact .inl (.inl ⟨_, rfl, h⟩)
  · exact .inl (.inr ⟨_, rfl, h⟩)
  · obtain ⟨h1, n, h2, h3⟩ := h
    exact .inr ⟨_, n, rfl, h2, h1, h3⟩
  · exact h.elim
def rAbs : List V → Hp → VK → Prop := fun xs H Q => match xs with
  | [.int i] => Q (.int (i.natAbs : Int)) H
  | _ => False
theorem call_absM {X : Cx} : CallR X (.builtin "abs") rAbs := callr_imp call_abs fun xs H Q h => by
  unfold rAbs at h
  split at h
  · rename_i i
    refine ⟨i, rfl, ?_⟩
    have e : (if i < 0 then -i else i) = (i.natAbs : Int) := by split <;> omega
    rw [e]; exact h
  · exact h.elim
/-- str(n) -/
def rStrI : List V → Hp → VK → Prop := fun xs H Q => match xs with
  | [.int i] => i.natAbs.log2 < 1920 ∧ Q (.str (toString i)) H
  | [.str z] => Q (.str z) H
  | _ => False
theorem call_strM {X : Cx} : CallR X (.type "str") rStrI := callr_imp (CallR.or call_str_int SkE.call_str_str) fun xs H Q h => by
  unfold rStrI at h
  split at h
  · exact .inl ⟨_, rfl, h.1, h.2⟩
  · exact .inr ⟨_, rfl, h⟩
  · exact h.elim
def rListM : List V → Hp → VK → Prop := fun xs H Q => match xs with
  | [.ref p] => ∃ ys, seqO (H p) = some ys ∧ ∀ l, H l = none → Q (.ref l) (upd H l (.lst ys))
  | _ => False
theorem call_listM {X : Cx} : CallR X (.type "list") rListM := callr_imp call_list_of fun xs H Q h => by
  unfold rListM at h
  split at h
  · obtain ⟨ys, h1, h2⟩ := h
    exact ⟨_, ys, rfl, seq_of h1, h2⟩
  · exact h.elim
def rTupM : List V → Hp → VK → Prop := fun xs H Q => match xs with
  | [.ref p] => (match H p with
    | some (.lst ys) => ∀ l, H l = none → Q (.ref l) (upd H l (.tup ys))
    | some (.tup _) => Q (.ref p) H
    | _ => False)
  | _ => False
theorem call_tupM {X : Cx} : CallR X (.type "tuple") rTupM := callr_imp call_tuple_of fun xs H Q h => by
  unfold rTupM at h
  split at h
  · split at h
    · rename_i p _ ys e
      exact ⟨p, ys, rfl, .inl ⟨.of e, h⟩⟩
    · rename_i p _ ys e
      exact ⟨p, ys, rfl, .inr ⟨.of e, h⟩⟩
    · exact h.elim
  · exact h.elim
end MT
set_option Elab.async false
set_option linter.all false
set_option maxRecDepth 100000
set_option maxHeartbeats 4000000
namespace MT
open PySem PySem.Spec PyProof.Rows L2
open SX (S)
/-- a comprehension whose items are told by R over what is data -/
theorem tLc_R {J : It} {n : Nat} {G : Hp → Prop} {it : Nat → V} {wi : TI} {F0 H0 : Hp} {j : Nat} {te : TE} {σ : L2.St} {Q : VK} (hsrc : ∀ R : It → Hp → Prop, R J H0 → wi σ H0 R) (w : Walk J n G (YFn it)) (hG : ∀ H', Same H0 H' → G H') (hn : n < sizeLine) (s0 : Same F0 H0)
    (R : Nat → V → Hp → Prop) (Rm : ∀ i v A B, Same A B → R i v A → R i v B)
    (he : ∀ i F1 H1 K', i < n → Grow F0 H0 F1 H1 → (∀ y F2 H2, Grow F1 H1 F2 H2 → R i y F2 → K' y H2) → te (σ.set j (some (it i))) H1 K')
    (hd : ∀ D F1 H1 ys, H0 D = none → Grow F0 H0 F1 H1 → F1 D = none → H1 D = some (.lst ys) → ys.length = n → (∀ i y, ys[i]? = some y → R i y F1) → Q (.ref D) H1) :
    tLc wi (gName j) tYes te [j] σ H0 Q := by
  unfold tLc
  refine hsrc _ fun D hD => ?_
  exact lc_fn w hG hn hD s0 R Rm he fun F1 H1 ys g h1 h2 h3 h4 => hd D F1 H1 ys hD g h1 h2 h3 h4
/-- a comprehension of bools that makes nothing that is kept -/
theorem tLc_B {J : It} {n : Nat} {G : Hp → Prop} {it : Nat → V} {wi : TI} {H0 : Hp} {j : Nat} {te : TE} {σ : L2.St} {Q : VK} (hsrc : ∀ R : It → Hp → Prop, R J H0 → wi σ H0 R) (w : Walk J n G (YFn it)) (hG : ∀ H', Same H0 H' → G H') (hn : n < sizeLine)
    (f : Nat → V) (he : ∀ i H1 K', i < n → Same H0 H1 → (∀ H2, Same H1 H2 → K' (f i) H2) → te (σ.set j (some (it i))) H1 K')
    (hd : ∀ D H1, Same H0 H1 → H1 D = some (.lst ((List.range n).map f)) → Q (.ref D) H1) : tLc wi (gName j) tYes te [j] σ H0 Q := by
  refine tLc_R hsrc w hG hn (Same.refl H0) (fun i y _ => y = f i) (fun _ _ _ _ _ h => h) (fun i F1 H1 K' hi g k => he i H1 K' hi g.h fun H2 s2 => k _ F1 H2 (Grow.same g.fh s2) rfl) fun D F1 H1 ys _ g _ h2 h3 h4 => hd D H1 g.h ?_
  have e : ys = (List.range n).map f := by
    refine List.ext_getElem? fun i => ?_
    by_cases hi : i < n
    · have hi' : i < ys.length := by omega
      rw [List.getElem?_map, List.getElem?_range hi, List.getElem?_eq_getElem hi']
      rw [h4 i _ (List.getElem?_eq_getElem hi')]
      rfl
    · rw [List.getElem?_eq_none (by omega), List.getElem?_eq_none (by rw [List.length_map, List.length_range]; omega)]
  rw [← e]; exact h2
theorem src_str {σ : L2.St} {H : Hp} {t : TE} {l : List Nat} (h : ∀ Q : VK, Q (.str (S l)) H → t σ H Q) : ∀ R : It → Hp → Prop, R (Its (S l)) H → iStr t σ H R := fun R r => h _ ⟨S l, rfl, r⟩
theorem src_varStr {σ : L2.St} {H : Hp} {i : Nat} {l : List Nat} (h : σ[i]? = some (some (.str (S l)))) : ∀ R : It → Hp → Prop, R (Its (S l)) H → iStr (tVar i) σ H R := src_str fun _ q => ⟨_, h, q⟩
/-- what a sequence that is walked is, at an address -/
theorem src_seq {K : PySem.W.Frag} {σ : L2.St} {H : Hp} {t : TE} {a : Addr} {xs : List V} (h : ∀ Q : VK, Q (.ref a) H → t σ H Q) (e : seqO (H a) = some xs) (hn : xs.length < sizeLine) :
    ∃ (J : It) (G : Hp → Prop), (∀ R : It → Hp → Prop, R J H → iSq K t σ H R) ∧ Walk J xs.length G (YFn fun i => xs.getD i .non) ∧ ∀ H', Same H H' → G H' := by
  cases q : H a with
  | none => rw [q] at e; cases e
  | some o =>
    rw [q] at e
    cases o with
    | lst ys =>
      cases e
      exact ⟨_, _, fun R r => h _ ⟨a, rfl, .inl ⟨xs, .of q, r⟩⟩, walk_fnL (K := K), fun H' s => .of (s _ _ q)⟩
    | tup ys =>
      cases e
      exact ⟨_, _, fun R r => h _ ⟨a, rfl, .inr ⟨xs, .of q, r⟩⟩, walk_fnT (K := K), fun H' s => .of (s _ _ q)⟩
    | frz ob u =>
      cases u with
      | lst ys =>
        cases e
        exact ⟨_, _, fun R r => h _ ⟨a, rfl, .inl ⟨xs, .inl (.inr ⟨ob, q⟩), r⟩⟩, walk_fnL (K := K), fun H' s => .inl (.inr ⟨ob, s _ _ q⟩)⟩
      | _ => cases e
    | _ => cases e
theorem map_range_getD {α β : Type} (l : List α) (d : α) (f : α → β) : (List.range l.length).map (fun i => f (l.getD i d)) = l.map f := by
  refine List.ext_getElem? fun i => ?_
  by_cases hi : i < l.length
  · rw [List.getElem?_map, List.getElem?_range hi, List.getElem?_map, List.getElem?_eq_getElem hi, Option.map_some, Option.map_some, List.getD_eq_getElem?_getD, List.getElem?_eq_getElem hi]
    rfl
  · rw [List.getElem?_eq_none (by rw [List.length_map, List.length_range]; omega), List.getElem?_eq_none (by rw [List.length_map]; omega)]
end MT
set_option Elab.async false
set_option linter.all false
set_option maxRecDepth 100000
set_option maxHeartbeats 4000000
namespace MT
open PySem PySem.Spec PyProof.Rows L2
open SX (S)
/-! ### methods of lists -/
theorem tyL {K : PySem.W.Frag} {H : Hp} {a : Addr} {xs : List V} (h : H a = some (.lst xs)) : tyV K "list" (.ref a) H := .inl ⟨rfl, xs, .of h⟩
theorem mtr_imp {X : Cx} {id : String} {r r' : V → List V → Hp → VK → Prop} (h : MtR X id r) (k : ∀ x xs H Q, r' x xs H Q → r x xs H Q) : MtR X id r' := fun pins s σ H x xs v us Q I rx rs q => h pins s σ H x xs v us Q I rx rs (k x xs H Q q)
def rAppendM : V → List V → Hp → VK → Prop := fun x vs H Q => match x, vs with
  | .ref l, [y] => ∃ xs, H l = some (.lst xs) ∧ xs.length < sizeLine ∧ Q .non (upd H l (.lst (xs ++ [y])))
  | _, _ => False
theorem mt_appendM {X : Cx} : MtR X "list.append" rAppendM := mtr_imp (X := X) (r := rAppend) mt_append fun x vs H Q h => by
  unfold rAppendM at h
  split at h
  · obtain ⟨xs, h1, h2, h3⟩ := h
    exact ⟨_, xs, _, rfl, rfl, h1, h2, h3⟩
  · exact h.elim
def rExtendM : V → List V → Hp → VK → Prop := fun x vs H Q => match x, vs with
  | .ref l, [.ref b] => ∃ xs zs, H l = some (.lst xs) ∧ H b = some (.lst zs) ∧ xs.length + zs.length ≤ sizeLine ∧ Q .non (upd H l (.lst (xs ++ zs)))
  | _, _ => False
theorem mt_extendM {X : Cx} : MtR X "list.extend" rExtendM := mtr_imp (X := X) (r := rExtend) mt_extend fun x vs H Q h => by
  unfold rExtendM at h
  split at h
  · obtain ⟨xs, zs, h1, h2, h3, h4⟩ := h
    exact ⟨_, _, xs, zs, rfl, rfl, h1, h2, h3, h4⟩
  · exact h.elim
def rPopM : V → List V → Hp → VK → Prop := fun x vs H Q => match x, vs with
  | .ref l, [] => ∃ xs y, H l = some (.lst (xs ++ [y])) ∧ Q y (upd H l (.lst xs))
  | _, _ => False
theorem mt_popM {X : Cx} : MtR X "list.pop" rPopM := mtr_imp (X := X) (r := rPop) mt_pop fun x vs H Q h => by
  unfold rPopM at h
  split at h
  · obtain ⟨xs, y, h1, h2⟩ := h
    refine ⟨_, xs ++ [y], y, rfl, rfl, h1, by simp, ?_⟩
    rw [List.dropLast_concat]
    exact h2
  · exact h.elim
/-! ### is True, is False -/
def rIsBM : R2 := fun x y H Q => match y with
  | .bl b => (match x with
    | .bl a => Q (.bl (decide (a = b))) H
    | _ => Q (.bl false) H)
  | _ => False
theorem op_isBM {X : Cx} : OpR X (compareOp .Is) rIsBM := by
  intro pins s σ H x y v u Q I rx ry h
  cases y with
  | bl b =>
    cases (show u = Value.bool b from ry)
    cases x with
    | bl a => exact op_isBl pins s σ H (.bl a) (.bl b) v _ Q I rx (show L2.RelV (.bl b) (.bool b) from rfl) ⟨a, b, rfl, rfl, h⟩
    | non => cases (show v = Value.none from rx); exact wpAny_is_other rfl (fun z => by cases z) ⟨.bl false, H, I, rfl, h⟩
    | int i => obtain ⟨t, rfl⟩ := rx; exact wpAny_is_other rfl (fun z => by cases z) ⟨.bl false, H, I, rfl, h⟩
    | str i => obtain ⟨t, rfl⟩ := rx; exact wpAny_is_other rfl (fun z => by cases z) ⟨.bl false, H, I, rfl, h⟩
    | ref i => cases (show v = Value.ref i from rx); exact wpAny_is_other rfl (fun z => by cases z) ⟨.bl false, H, I, rfl, h⟩
    | byt i => obtain ⟨t, rfl⟩ := rx; exact wpAny_is_other rfl (fun z => by cases z) ⟨.bl false, H, I, rfl, h⟩
    | flt i => obtain ⟨t, rfl⟩ := rx; exact wpAny_is_other rfl (fun z => by cases z) ⟨.bl false, H, I, rfl, h⟩
    | ty i => cases (show v = Value.type i from rx); exact wpAny_is_other rfl (fun z => by cases z) ⟨.bl false, H, I, rfl, h⟩
  | _ => exact False.elim h
/-! ### xs == [], xs != []: the new list is not tracked -/
def tEqNil (neg : Bool) (ta : TE) : TE := fun σ H Q => ta σ H fun x H1 => ∃ a xs, x = .ref a ∧ H1 a = some (.lst xs) ∧ Q (.bl (if neg then !xs.isEmpty else xs.isEmpty)) H1
theorem opNil {X : Cx} {pins : List (Addr × Obj)} {s : Shared} {σ : L2.St} {H : Hp} {a : Addr} {xs : List V} (I : Inv X pins σ H s) (h : H a = some (.lst xs)) (hu : X.A.units < cLine) {Q : VK} {b : Addr} (hb : s.heap.IsList b #[]) (hne : a ≠ b) :
    (Q (.bl xs.isEmpty) H → wpAny (model X.prog X.w) X.A (compareOp .Eq (.ref a) (.ref b)) (EP X pins σ Q) X.xe s) ∧ (Q (.bl (!xs.isEmpty)) H → wpAny (model X.prog X.w) X.A (compareOp .NotEq (.ref a) (.ref b)) (EP X pins σ Q) X.xe s) := by
  obtain ⟨z, its, n, r, hl, e⟩ := I.lstM h
  have ha : s.heap.IsList a its.toArray := ⟨_, e, rfl, n, rfl⟩
  cases xs with
  | nil =>
    have e0 : its = [] := by cases its with | nil => rfl | cons => cases hl
    subst e0
    constructor
    · intro q
      exact SeqAt.RcAt.lists (e := fun _ => true) ha hb rfl hu (fun j h1 _ => absurd h1 (Nat.not_lt_zero _)) _ _ _ _ ⟨.bl true, H, I, rfl, q⟩
    · intro q
      exact SeqAt.RcNeAt.lists (e := fun _ => true) ha hb rfl hu (fun j h1 _ => absurd h1 (Nat.not_lt_zero _)) _ _ _ _ ⟨.bl false, H, I, rfl, q⟩
  | cons x xs =>
    have hz : (its.toArray.size != (#[] : Array Value).size) = true := by
      rw [List.size_toArray, ← hl]
      rfl
    constructor
    · intro q
      exact SeqAt.RcAt.lists_lengths ha hb hz hu _ _ _ _ ⟨.bl false, H, I, rfl, q⟩
    · intro q
      exact SeqAt.RcNeAt.lists_lengths ha hb hz hu _ _ _ _ ⟨.bl true, H, I, rfl, q⟩
section
variable {X : Cx} {a : Expr} {ta : TE} {p pos : Pos}
theorem nilAt {s : Shared} {σ : L2.St} {pins : List (Addr × Obj)} {H : Hp} {x : Addr} {xs : List V} (I : Inv X pins σ H s) (h : H x = some (.lst xs)) : Inv X pins σ H { s with heap := s.heap.push { cls := .type "list", data := .seq #[] } } ∧ (s.heap.push { cls := .type "list", data := .seq #[] }).IsList s.heap.objs.size #[] ∧ x ≠ s.heap.objs.size := by
  refine ⟨I.kept (t' := s.toks) fun b o e => Heap.get?_push_of_some _ e, ⟨_, Heap.get?_push_size _ rfl, rfl, 0, rfl⟩, fun e => ?_⟩
  have := I.hok.fresh (Nat.le_refl s.heap.objs.size)
  rw [← e, h] at this
  cases this
theorem xe_eqNil (ha : PE X a ta) (hu : X.A.units < cLine) : PE X (.Compare a [.Eq] [.List [] p] pos) (tEqNil false ta) := by
  refine ⟨fun pins s σ H Q I h => wpAny_Compare1 (thn (ha.run pins s σ H _ I h) fun v s1 ⟨x, H1, I1, r1, b, xs, ex, hb, q⟩ => ?_) rfl⟩
  subst ex
  cases r1
  obtain ⟨I2, hl, hne⟩ := nilAt I1 hb
  exact wpAny_List_spliced (Calls.spliced_nil ⟨Nat.zero_le _, (opNil I2 hb hu hl hne).1 q⟩)
theorem xe_neNil (ha : PE X a ta) (hu : X.A.units < cLine) : PE X (.Compare a [.NotEq] [.List [] p] pos) (tEqNil true ta) := by
  refine ⟨fun pins s σ H Q I h => wpAny_Compare1 (thn (ha.run pins s σ H _ I h) fun v s1 ⟨x, H1, I1, r1, b, xs, ex, hb, q⟩ => ?_) rfl⟩
  subst ex
  cases r1
  obtain ⟨I2, hl, hne⟩ := nilAt I1 hb
  exact wpAny_List_spliced (Calls.spliced_nil ⟨Nat.zero_le _, (opNil I2 hb hu hl hne).2 q⟩)
theorem xt_eqNil (ha : PE X a ta) (hu : X.A.units < cLine) : PT X (.Compare a [.Eq] [.List [] p] pos) (tB (tEqNil false ta)) := by
  refine ⟨fun pins s σ H Q I h => wpAny_isTrue_Compare1 (thn (ha.run pins s σ H _ I h) fun v s1 ⟨x, H1, I1, r1, b, xs, ex, hb, q⟩ => ?_) rfl⟩
  subst ex
  cases r1
  obtain ⟨I2, hl, hne⟩ := nilAt I1 hb
  obtain ⟨c, ec, q⟩ := q
  refine wpAny_List_spliced (Calls.spliced_nil ⟨Nat.zero_le _, thn ((opNil (Q := fun v H' => ∃ c, v = .bl c ∧ Q c H') I2 hb hu hl hne).1 ⟨c, ec, q⟩) fun w s4 ⟨y, H4, I4, r4, d, e4, q4⟩ => ?_⟩)
  subst e4
  cases r4
  exact wpAny_truthy_bool ⟨H4, I4, q4⟩
theorem xt_neNil (ha : PE X a ta) (hu : X.A.units < cLine) : PT X (.Compare a [.NotEq] [.List [] p] pos) (tB (tEqNil true ta)) := by
  refine ⟨fun pins s σ H Q I h => wpAny_isTrue_Compare1 (thn (ha.run pins s σ H _ I h) fun v s1 ⟨x, H1, I1, r1, b, xs, ex, hb, q⟩ => ?_) rfl⟩
  subst ex
  cases r1
  obtain ⟨I2, hl, hne⟩ := nilAt I1 hb
  obtain ⟨c, ec, q⟩ := q
  refine wpAny_List_spliced (Calls.spliced_nil ⟨Nat.zero_le _, thn ((opNil (Q := fun v H' => ∃ c, v = .bl c ∧ Q c H') I2 hb hu hl hne).2 ⟨c, ec, q⟩) fun w s4 ⟨y, H4, I4, r4, d, e4, q4⟩ => ?_⟩)
  subst e4
  cases r4
  exact wpAny_truthy_bool ⟨H4, I4, q4⟩
/-! ### x in (a, b, ..): the tuple is not tracked -/
def tInTup (ta : TE) (te : TA) : TE := fun σ H Q => ta σ H fun x H1 => te σ H1 fun ys H2 => flatV x = true ∧ ys.all flatV = true ∧ ys.length ≤ sizeLine ∧ Q (.bl (inV x ys)) H2
variable {es : List Expr} {te : TA} {k : Nat}
theorem inTup {pins : List (Addr × Obj)} {σ : L2.St} {H : Hp} {s : Shared} {x : V} {ys : List V} {v : Value} {us : List Value} {Q : VK} (I : Inv X pins σ H s) (rx : RelV x v) (r : Vals ys us) (fx : flatV x = true) (fy : ys.all flatV = true) (q : Q (.bl (inV x ys)) H) :
    wpAny (model X.prog X.w) X.A (compareOp .In v (.ref s.heap.objs.size)) (EP X pins σ Q) X.xe { s with heap := s.heap.push { cls := .type "tuple", data := .seq us.toArray } } := by
  have I2 : Inv X pins σ H { s with heap := s.heap.push { cls := .type "tuple", data := .seq us.toArray } } := I.kept (t' := s.toks) fun b o e => Heap.get?_push_of_some _ e
  refine SeqAt.in_tupleAt (eqU x) (IsTup.new s.heap us.toArray) (fun w hw => mem_eqAt rx fx r fy w (by simpa using hw)) ⟨.bl _, H, I2, rfl, ?_⟩
  rw [show us.toArray.any (eqU x) = us.any (eqU x) by simp, any_eqU r fy]
  exact q
theorem xe_inTup (ha : PE X a ta) (he : PA X es te) (hm : behindInMarks .In (.Tuple es k p) = false := by rfl) : PE X (.Compare a [.In] [.Tuple es k p] pos) (tInTup ta te) := by
  refine ⟨fun pins s σ H Q I h => wpAny_Compare1 (thn (ha.run pins s σ H _ I h) fun v s1 ⟨x, H1, I1, r1, q1⟩ => ?_) hm⟩
  refine wpAny_Tuple_spliced (thn (he.run p pins s1 σ H1 _ I1 q1) fun us s2 ⟨ys, H2, I2, r2, fx, fy, z, q⟩ => ⟨by rw [← r2.length]; exact z, inTup I2 r1 r2 fx fy q⟩)
theorem xt_inTup (ha : PE X a ta) (he : PA X es te) (hm : behindInMarks .In (.Tuple es k p) = false := by rfl) : PT X (.Compare a [.In] [.Tuple es k p] pos) (tB (tInTup ta te)) := by
  refine ⟨fun pins s σ H Q I h => wpAny_isTrue_Compare1 (thn (ha.run pins s σ H _ I h) fun v s1 ⟨x, H1, I1, r1, q1⟩ => ?_) hm⟩
  refine wpAny_Tuple_spliced (thn (he.run p pins s1 σ H1 _ I1 q1) fun us s2 ⟨ys, H2, I2, r2, fx, fy, z, c, ec, q⟩ => ⟨by rw [← r2.length]; exact z, ?_⟩)
  refine thn (inTup I2 r1 r2 fx fy (Q := fun v H' => ∃ c, v = .bl c ∧ Q c H') ⟨c, ec, q⟩) fun w s4 ⟨y, H4, I4, r4, d, e4, q4⟩ => ?_
  subst e4
  cases r4
  exact wpAny_truthy_bool ⟨H4, I4, q4⟩
end
end MT
set_option Elab.async false
set_option linter.all false
set_option maxRecDepth 100000
set_option maxHeartbeats 4000000
namespace MT
open PySem PySem.Spec PyProof.Rows L2
open SX (S)
/-! ### a dict of the top with text keys, whole -/
structure KTab (K : PySem.W.Frag) (w : World) (d : Addr) (f : Str → Option V) : Prop where
  ex : ∃ es n, KDict K w d es n
  at_ : ∀ z, (f z = none ∧ PySem.W.nsIn K d z = some none) ∨ ∃ v u, f z = some v ∧ PySem.W.nsIn K d z = some (some u) ∧ RelV v u
def rKd (d : Addr) (f : Str → Option V) (neg : Bool) : R2 := fun x y H Q => y = .ref d ∧ match x with
  | .str z => Q (.bl (if neg then (f z).isNone else (f z).isSome)) H
  | _ => False
def rKdGet (d : Addr) (f : Str → Option V) : R2 := fun x y H Q => x = .ref d ∧ match y with
  | .str z => ∃ v, f z = some v ∧ Q v H
  | _ => False
section
variable {X : Cx} {d : Addr} {f : Str → Option V}
theorem op_inkd (T : KTab X.K X.w d f) : OpR X (compareOp .In) (rKd d f false) := by
  obtain ⟨es, n, D⟩ := T.ex
  refine opr_imp (op_in_kd D) fun x y H Q h => ?_
  obtain ⟨rfl, h⟩ := h
  split at h
  · rename_i z
    rcases T.at_ z with ⟨e, e2⟩ | ⟨v, u, e, e2, r⟩
    · rw [e] at h; exact ⟨z, none, rfl, rfl, e2, h⟩
    · rw [e] at h; exact ⟨z, some u, rfl, rfl, e2, h⟩
  · exact h.elim
theorem op_notinkd (T : KTab X.K X.w d f) : OpR X (compareOp .NotIn) (rKd d f true) := by
  obtain ⟨es, n, D⟩ := T.ex
  refine opr_imp (op_notIn_kd D) fun x y H Q h => ?_
  obtain ⟨rfl, h⟩ := h
  split at h
  · rename_i z
    rcases T.at_ z with ⟨e, e2⟩ | ⟨v, u, e, e2, r⟩
    · rw [e] at h; exact ⟨z, none, rfl, rfl, e2, h⟩
    · rw [e] at h; exact ⟨z, some u, rfl, rfl, e2, h⟩
  · exact h.elim
theorem ix_kd (T : KTab X.K X.w d f) : IxR X (rKdGet d f) := by
  obtain ⟨es, n, D⟩ := T.ex
  refine fun value slice pins s σ H x y v u Q I rx ry h hs => ?_
  obtain ⟨rfl, h⟩ := h
  split at h
  · rename_i z
    obtain ⟨v0, ev, q⟩ := h
    rcases T.at_ z with ⟨e, e2⟩ | ⟨v1, u1, e, e2, r⟩
    · rw [e] at ev; cases ev
    · rw [e] at ev
      cases ev
      have rx' := rx
      cases rx
      exact tail_any (kd_type D I) slot_dict_getitem.lookup (op_item_kd D pins s σ H _ _ _ u Q I rx' ry ⟨z, u1, _, rfl, rfl, e2, r, q⟩) hs
  · exact h.elim
end
/-- from what the head tells -/
theorem ktab_of {K : PySem.W.Frag} {w : World} {d : Addr} {kvs : List (Str × He.Dv)} (h : He.dicW K d = some (He.keysIn w.params (kvs.map (·.1)))) (hv : He.valsB K d kvs = true) : KTab K w d fun z => (kvs.find? fun q => decide (q.1 = z)).map fun q => q.2.v K := by
  refine ⟨He.dicW_ok h, fun z => ?_⟩
  obtain ⟨es, n, D⟩ := He.dicW_ok h
  cases q : kvs.find? fun q => decide (q.1 = z) with
  | some kv =>
    have hm := List.mem_of_find?_eq_some q
    have hz : kv.1 = z := by simpa using List.find?_some q
    obtain ⟨u, h1, h2⟩ := He.valsB_ok hv hm
    rw [hz] at h1
    exact .inr ⟨_, u, rfl, h1, h2⟩
  | none =>
    refine .inl ⟨rfl, ?_⟩
    have keys : ∀ e ∈ es.toList, ∃ x t, e.key = .str x t ∧ x ∈ kvs.map (·.1) := by
      unfold He.dicW at h
      rw [D.at_] at h
      have h2 : (match decide (("dict" : String) = "dict") && ((#[] : Array (Option Value)).isEmpty && !(d == sysModules)) with
        | true => some (es.toList.map He.keyOf)
        | false => none) = some (He.keysIn w.params (kvs.map (·.1))) := h
      rw [D.low] at h2
      have h3 : es.toList.map He.keyOf = He.keysIn w.params (kvs.map (·.1)) := Option.some.inj h2
      intro e he
      have h4 : He.keyOf e ∈ He.keysIn w.params (kvs.map (·.1)) := by rw [← h3]; exact List.mem_map_of_mem he
      unfold He.keysIn at h4
      obtain ⟨k, hk, e5⟩ := List.mem_map.mp h4
      unfold He.keyOf at e5
      split at e5
      · rename_i x t ek
        have := Option.some.inj e5
        injection this with e6 e7
        exact ⟨x, t, ek, by rw [← e6]; exact hk⟩
      · cases e5
    have none_ : es.toList.find? (·.key.isStr z) = none := by
      rw [List.find?_eq_none]
      intro e he hz
      obtain ⟨x, t, ek, hx⟩ := keys e he
      rw [ek] at hz
      have hxz : x = z := by
        have : (Value.str x t).isStr z = true := hz
        simpa [Value.isStr] using this
      obtain ⟨kv, hkv, ekv⟩ := List.mem_map.mp hx
      have := List.find?_eq_none.mp q kv hkv
      exact this (decide_eq_true (by rw [ekv, hxz]))
    have noref : es.toList.any (·.refKey) = false := by
      rw [List.any_eq_false]
      intro e he
      obtain ⟨x, t, ek, hx⟩ := keys e he
      unfold DictEntry.refKey
      rw [ek]
      simp
    unfold PySem.W.nsIn
    rw [D.at_]
    show (match es.toList.find? (·.key.isStr z) with
      | some e => some (some e.val)
      | none => if es.toList.any (·.refKey) then none else some none) = some none
    rw [none_, noref]
    rfl
/-! ### sum, max, min -/
def rSumM : List V → Hp → VK → Prop := fun xs H Q => match xs with
  | [.ref a] => ∃ ns : List Int, H a = some (.lst (ns.map V.int)) ∧ Q (.int ns.sum) H
  | _ => False
theorem call_sumM {X : Cx} (hc : X.calm = true) : CallR X (.builtin "sum") rSumM := callr_imp (cr_sum hc) fun xs H Q h => by
  unfold rSumM at h
  split at h
  · obtain ⟨ns, h1, h2⟩ := h
    exact ⟨_, ns, rfl, .of h1, h2⟩
  · exact h.elim
def rMaxM : List V → Hp → VK → Prop := fun xs H Q => match xs with
  | [.int i, .int j] => Q (.int (max i j)) H
  | _ => False
theorem call_maxM {X : Cx} (hc : X.calm = true) : CallR X (.builtin "max") rMaxM := callr_imp (call_max2 hc) fun xs H Q h => by
  unfold rMaxM at h
  split at h
  · rename_i i j
    refine ⟨i, j, rfl, ?_⟩
    have e : (if j > i then j else i) = max i j := by split <;> omega
    rw [e]; exact h
  · exact h.elim
def rMinM : List V → Hp → VK → Prop := fun xs H Q => match xs with
  | [.int i, .int j] => Q (.int (min i j)) H
  | _ => False
theorem call_minM {X : Cx} (hc : X.calm = true) : CallR X (.builtin "min") rMinM := callr_imp (call_min2 hc) fun xs H Q h => by
  unfold rMinM at h
  split at h
  · rename_i i j
    refine ⟨i, j, rfl, ?_⟩
    have e : (if j < i then j else i) = min i j := by split <;> omega
    rw [e]; exact h
  · exact h.elim
/-! ### texts -/
/-- sep.join(a list of texts) -/
def rJoinM : V → List V → Hp → VK → Prop := fun x xs H Q => match x, xs with
  | .str z, [.ref p] => ∃ (a : List Nat) (ys : List (List Nat)), z = S a ∧ H p = some (.lst (ys.map fun l => V.str (S l))) ∧ (ys.map (·.length)).sum + ys.length * a.length ≤ 16777216 ∧ Q (.str (S (TL.joinL a ys))) H
  | _, _ => False
theorem mt_joinM {X : Cx} : MtR X "str.join" rJoinM := mtr_imp mt_join fun x xs H Q h => by
  unfold rJoinM at h
  split at h
  · obtain ⟨a, ys, rfl, h1, h2, h3⟩ := h
    refine ⟨S a, _, ys.map S, rfl, rfl, .inl ?_, ?_, ?_⟩
    · rw [List.map_map]; exact .of h1
    · rw [SX.lens, List.length_map, SX.S_len]; exact h2
    · rw [SX.join_S]; exact h3
  · exact h.elim
theorem tyS {K : PySem.W.Frag} {H : Hp} {z : Str} : tyV K "str" (.str z) H := rfl
/-- signs.index(sign), found -/
def rIdxM : V → List V → Hp → VK → Prop := fun x xs H Q => match x, xs with
  | .str a, [.str b] => ∃ i rest, Builtin.Str.occurrences a b 0 a.length 1 = i :: rest ∧ Q (.int (i : Nat)) H
  | _, _ => False
theorem mt_idxM {X : Cx} : MtR X "str.index" rIdxM := mtr_imp mt_sindex fun x xs H Q h => by
  unfold rIdxM at h
  split at h
  · obtain ⟨i, rest, h1, h2⟩ := h
    exact ⟨_, _, i, rest, rfl, rfl, h1, h2⟩
  · exact h.elim
/-- text[::-1]: a text as long -/
def tRevS (te : TE) : TE := fun σ H Q => te σ H fun x H1 => ∃ l : List Nat, x = .str (S l) ∧ l.length ≤ sizeLine ∧ ∀ l' : List Nat, l'.length = l.length → Q (.str (S l')) H1
theorem pe_revS {X : Cx} {e : Expr} {te : TE} {k : Nat} {p1 p2 p3 pos : Pos} (he : PE X e te) : PE X (.Subscript e (.Slice none none (some (.UnaryOp .USub (.Constant (.int 1) k p1) p2)) p3) pos) (tRevS te) := by
  refine ⟨fun pins s σ H Q I h => ?_⟩
  refine Subscript_ (thn (he.run pins s σ H _ I h) fun v s1 ⟨x, H1, I1, r1, q1⟩ => ?_)
  obtain ⟨l, ex, hx, q⟩ := q1
  subst ex
  obtain ⟨t, rfl⟩ := r1
  have hst : PO X (some (.UnaryOp .USub (.Constant (.int 1) k p1) p2)) (tPart (tUn (rU fun i => .int (-i)) (tC (.int 1)))) := po_some (pe_un un_neg pe_int)
  refine wpAny_Slice (thn (po_none.run pins s1 σ H1 (fun o H2 => o = none ∧ H2 = H1) I1 ⟨rfl, rfl⟩) fun vl s2 ⟨lo, H2, I2, pl, el, e2⟩ => ?_)
  subst el e2
  refine thn (po_none.run pins s2 σ H2 (fun o H3 => o = none ∧ H3 = H2) I2 ⟨rfl, rfl⟩) fun vu s3 ⟨u, H3, I3, pu, eu, e3⟩ => ?_
  subst eu e3
  refine thn (hst.run pins s3 σ H3 (fun o H4 => o = some (-1) ∧ H4 = H3) I3 ⟨1, rfl, -1, rfl, rfl, rfl⟩) fun vs s4 ⟨o, H4, I4, ps, eo, e4⟩ => ?_
  subst eo e4
  have I5 : Inv X pins σ H4 { s4 with heap := s4.heap.push { cls := .type "slice", data := .fields #[vl, vu, vs] } } := I4.kept (t' := s4.toks) fun b ob q => Heap.get?_push_of_some _ q
  obtain ⟨l0, rfl, hl0⟩ := IsPart.raw pl
  obtain ⟨u0, rfl, hu0⟩ := IsPart.raw pu
  obtain ⟨w0, rfl, hw0⟩ := IsPart.raw ps
  cases l0 with
  | some _ => cases hl0
  | none =>
  cases u0 with
  | some _ => cases hu0
  | none =>
  cases w0 with
  | none => cases hw0
  | some iu =>
  obtain ⟨i, u⟩ := iu
  cases hw0
  refine tail_any (ops := [.str (S l) t, .ref s4.heap.objs.size]) (typeIs_str _ _ _) (F.slot_str_getitem.lookup) ?_ (by with_unfolding_all rfl)
  refine wpAny_getItem_str_slice (l := none) (u := none) (st := some (-1, u)) ⟨_, Heap.get?_push_size _ rfl, rfl, rfl⟩ rfl ?_
  have hn : ¬ ((((some ((-1 : Int), u)).map (·.1)).getD 1 == 1 && (slicePicked (S l) none none (some (-1, u))).length == (S l).length) = true) := by
    have : (((some ((-1 : Int), u)).map (·.1)).getD 1 == 1) = false := rfl
    rw [this]; simp
  have hlen := step_rev_len (S l) u
  unfold Txt.sliceBy at hlen
  rw [if_neg hn] at hlen
  unfold sliceMade
  rw [if_neg hn]
  have hl2 : (SX.S l).length = l.length := SX.S_len l
  refine ⟨by rw [hlen, hl2]; exact hx, .str _, H4, I5.tok _, ⟨_, rfl⟩, ?_⟩
  refine q _ ?_
  have : (⟨((slicePicked (S l) none none (some (-1, u))).filterMap ((S l).cps[·]?)).toArray⟩ : Str).length = l.length := hlen.trans hl2
  simpa [Str.length] using this
end MT
set_option Elab.async false
set_option linter.all false
set_option maxRecDepth 100000
set_option maxHeartbeats 4000000
namespace MT
open PySem PySem.Spec PyProof.Rows L2
open SX (S)
theorem ru1 {k : Nat} {A : Around} (r : Room k A) : A.units + 1 < cLine := by have := r.un; omega
/-- a reading, with any weaker end -/
def tUp (te : TE) : TE := fun σ H Q' => ∃ Q : VK, te σ H Q ∧ ∀ v H1, Q v H1 → Q' v H1
theorem pe_up {X : Cx} {e : Expr} {te : TE} (h : PE X e te) : PE X e (tUp te) := ⟨fun pins s σ H Q' I ⟨Q, q, f⟩ => thn (h.run pins s σ H Q I q) fun u s1 ⟨v, H1, I1, r, z⟩ => ⟨v, H1, I1, r, f v H1 z⟩⟩
/-! ### a def that may raise, of one parameter, called in a try; by position, by name -/
structure CalK (P : Program) (w : World) (K : PySem.W.Frag) (mg : Str → Option Value) (base : Heap) (k : Nat) (x p : Str) (sp : Sp) : Prop where
  ex : ∃ f fd, FnOk P w K mg base (L2.CX P w) k f fd [p] sp ∧ mg x = some (.ref f) ∧ PySem.W.keepIn K (.ref f) = true ∧ Binds K fd [p] [] ∧ ∀ (s : Shared) (u : Value), BindsTo s fd ⟨[], [(p, u)]⟩ [(p, u)]
/-- f(e): what is raised is wished for where the slots are these -/
def tFnW (sp : Sp) (W : WX) (te : TE) : TE := fun σ H Q => te σ H fun v H1 => sp [v] H1 Q (fun cls d H2 => W cls d σ H2)
section
variable {X : Cx} {x q : Str} {p pos kpos : Pos} {e : Expr} {te : TE} {k j : Nat} {sp : Sp} {W : WX}
theorem runW {f : Addr} {fd : FuncData} {ps : List Str} {pins : List (Addr × Obj)} {σ : L2.St} {H : Hp} {s : Shared} {Q : VK} {args : Args} {us : List Value} {vs : List V} (tk : Takes X W) (F : FnOk X.prog X.w X.K X.mg X.base (L2.CX X.prog X.w) k f fd ps sp) (hr : Room k X.A)
    (I : Inv X pins σ H s) (hb : BindsTo s fd args (ps.zip us)) (r : Vals vs us) (h : sp vs H Q (fun cls d H2 => W cls d σ H2)) : codeAny (model X.prog X.w) X.A (.call (.ref f) args) (fun r s' => match r with | .ok (.ret v) => EP X pins σ Q v s' | .ok _ => False | .error e => X.xe e s') s := by
  refine codeAny_mono (F.run X.A X.stack s H args us vs Q _ hr I.env0 hb r h) fun r s' hq => ?_
  cases r with
  | error er => exact tk er s' (XE.of_call I (fun cls d H' z => z) hq)
  | ok fl =>
    cases fl with
    | ret u => exact I.after hq
    | next => exact False.elim hq
    | brk => exact False.elim hq
    | cont => exact False.elim hq
theorem xe_callW (tk : Takes X W) (c : CalK X.prog X.w X.K X.mg X.base k x q sp) (hr : Room j X.A) (hk : k ≤ j) (he : PE X e te) (hg : Gl X x := by rfl) (hdb : (x == ("__debug__" : Str)) = false := by decide)
    (hs : starEach [e] X.env = (false, eval e X.env) :: starEach [] X.env := by rfl) (hpl : (backTo pos (starEach [] X.env)).any (·.1) = false := by rfl) : PE X (.Call (.Name x p) [e] [] pos) (tFnW sp W te) := by
  obtain ⟨f, fd, F, hm, hkp, hb, _⟩ := c.ex
  refine ⟨fun pins s σ H Q I h => wpAny_Call_Name_kw (ld_glob I hg hm ?_ hdb)⟩
  refine PySem.W.callWith_K (h₀ := X.base) I.ok.mod.kin hkp (thn ((pa_cons he pa_nil hs).run pos pins s σ H (fun vs H1 => sp vs H1 Q (fun cls d H2 => W cls d σ H2)) I h) fun us s1 ⟨vs, H1, I1, r, z⟩ => ⟨I1.kIn, ?_⟩) hs hpl
  have hl : us.length = 1 := by rw [← r.length]; exact F.len _ _ _ _ z
  match us, hl with
  | [u], _ => exact wpAny_call (runW (us := [u]) tk F (hr.mono hk) I1 (hb s1 [u] I1.kIn rfl) r z)
theorem xe_callWK (tk : Takes X W) (c : CalK X.prog X.w X.K X.mg X.base k x q sp) (hr : Room j X.A) (hk : k ≤ j) (he : PE X e te) (hg : Gl X x := by rfl) (hdb : (x == ("__debug__" : Str)) = false := by decide)
    (hall : (backToKw pos (keywordEach [⟨some q, e, kpos⟩] X.env)).all (·.1.isSome) = true := by rfl) (hks : (backToKw pos (keywordEach [⟨some q, e, kpos⟩] X.env)).filterMap (·.1) = [q] := by rfl)
    (hpl : ((backTo pos (starEach [] X.env)).any (·.1) || (backToKw pos (keywordEach [⟨some q, e, kpos⟩] X.env)).any (·.1.isNone)) = false := by rfl) : PE X (.Call (.Name x p) [] [⟨some q, e, kpos⟩] pos) (tFnW sp W te) := by
  obtain ⟨f, fd, F, hm, hkp, _, hb⟩ := c.ex
  refine ⟨fun pins s σ H Q I h => wpAny_Call_Name_kw (ld_glob I hg hm ?_ hdb)⟩
  refine PySem.W.callWith_KW0 (h₀ := X.base) I.ok.mod.kin hkp hall (thn ((pk_cons he pk_nil).run pos pins s σ H (fun vs H1 => sp vs H1 Q (fun cls d H2 => W cls d σ H2)) I h) fun ws s1 ⟨vs, H1, I1, r, z⟩ => ⟨I1.kIn, ?_⟩) hpl
  rw [hks]
  have hl : ws.length = 1 := by rw [← r.length]; exact F.len _ _ _ _ z
  match ws, hl with
  | [u], _ => exact wpAny_call (runW (us := [u]) tk F (hr.mono hk) I1 (hb s1 u) r z)
end
/-! ### a display of texts, a key taken at once -/
def dv2 (k1 v1 k2 v2 : Str) : List (Key × V) := [(Sum.inr k1, .str v1), (Sum.inr k2, .str v2)]
def tDispGet (k1 v1 k2 v2 : Str) (te : TE) : TE := fun σ H Q => ∀ p, H p = none → te σ (upd H p (.dK (dv2 k1 v1 k2 v2))) fun y H1 => ∃ a v, V.ref p = .ref a ∧ DGet H1 a y (some v) ∧ Q v H1
theorem dget2 {H : Hp} {p : Addr} {k1 v1 k2 v2 z v : Str} (h : H p = some (.dK (dv2 k1 v1 k2 v2))) (e : (z = k1 ∧ v = v1) ∨ (z ≠ k1 ∧ z = k2 ∧ v = v2)) : DGet H p (.str z) (some (.str v)) := by
  have r : valV (dv2 k1 v1 k2 v2) (Sum.inr z) = some (.str v) := by
    rcases e with ⟨rfl, rfl⟩ | ⟨h1, rfl, rfl⟩
    · simp [valV, dv2]
    · have : ¬ (k1 = z) := fun q => h1 q.symm
      simp [valV, dv2, this]
  rw [← r]
  exact DGet.k (k := Sum.inr z) h
theorem xe_dispGet {X : Cx} {a1 b1 a2 b2 e : Expr} {k1 v1 k2 v2 : Str} {te : TE} {p pos : Pos} (hu : X.A.units + 1 < cLine) (h1 : PE X a1 (tC (.str k1))) (h2 : PE X b1 (tC (.str v1))) (h3 : PE X a2 (tC (.str k2))) (h4 : PE X b2 (tC (.str v2))) (hne : k1 ≠ k2) (he : PE X e te) (hs : NoSl e) :
    PE X (.Subscript (.Dict [some a1, some a2] [b1, b2] p) e pos) (tDispGet k1 v1 k2 v2 te) := by
  refine pe_imp (pe_dget hu (pe_disp (pps_cons h1 h2 (pps_cons h3 h4 pps_nil)) rfl rfl (by simp) (by simp)) he hs) fun σ H Q h q hq => ?_
  refine ⟨upd_same, dv2 k1 v1 k2 v2, rfl, by simp [dv2], ?_⟩
  have em : mergeK [] (dv2 k1 v1 k2 v2) = dv2 k1 v1 k2 v2 := by
    simp [mergeK, dv2, putK, hne]
  rw [L2.upd_upd, em]
  exact h q hq
/-! ### raise C(e), C an own class of the top whose __init__ keeps what it is given -/
/-- what __init__ promises: self.f = given -/
def spInit (C : Addr) (f : Str) : Sp := fun vs H Q _ => ∃ a v, vs = [.ref a, v] ∧ H a = some (exo a C none) ∧ ∀ dx, H dx = none → dx ≠ a → Q .non (upd (upd H dx (exd dx [(f, v)])) a (exo a C (some dx)))
structure ExcO (P : Program) (w : World) (K : PySem.W.Frag) (mg : Str → Option Value) (base : Heap) (k : Nat) (x f : Str) (C : Addr) : Prop where
  o : OexC K C
  no : PySem.W.findIn K (.ref C) f = some none
  xf : XfC K C
  gm : mg x = some (.ref C)
  ini : ∃ fI fd, PySem.W.findIn K (.ref C) "__init__" = some (some (.ref fI)) ∧ PySem.W.typeIn K (.ref fI) = some (.type "function") ∧ FnOk P w K mg base (L2.CX P w) k fI fd ["self", "given"] (spInit C f) ∧ Binds K fd ["self", "given"] []
def tRaiseO (C : Addr) (f : Str) (W : WX) (te : TE) : TS := fun _ σ H => te σ H fun v H1 => ∀ d, H1 d = none → W (.ref C) (some d) σ (upd H1 d (.xd [(f, v)]))
theorem ps_raiseO {X : Cx} {x f : Str} {C : Addr} {k j : Nat} {W : WX} {e : Expr} {te : TE} {p pos pos' : Pos} (hc : X.calm = true) (tk : Takes X W) (E : ExcO X.prog X.w X.K X.mg X.base k x f C) (hr : Room j X.A) (hk : k + 1 ≤ j) (he : PE X e te) (hg : Gl X x := by rfl)
    (hdb : (x == ("__debug__" : Str)) = false := by decide) (hs : starEach [e] X.env = (false, eval e X.env) :: starEach [] X.env := by rfl) (hpl : (backTo pos (starEach [] X.env)).any (·.1) = false := by rfl) :
    PS X (.Raise (some (.Call (.Name x p) [e] [] pos)) none pos') (tRaiseO C f W te) := by
  obtain ⟨fI, fd, i1, i2, F, hb⟩ := E.ini
  have h := ps_raise (pos := pos') hc tk (pmk_oex (pos := pos) (p := p) (ds := []) (dvs := []) E.o i1 i2 F (hr.mono hk) hb .nil (passL (X := X)) hg E.gm (pa_cons (pe_up he) pa_nil hs) hdb hs hpl)
  refine ⟨fun pins s σ H D I q => h.run pins s σ H D I ?_⟩
  have e2 : ∀ v H1, (∀ d, H1 d = none → W (.ref C) (some d) σ (upd H1 d (.xd [(f, v)]))) → ([v] : List V).length ≤ 1000 ∧ ∀ a, H1 a = none → spInit C f (.ref a :: ([v] ++ [])) (upd H1 a (exo a C none))
      (fun v H2 => v = .non ∧ ∃ (d : Addr) (fs : List (Str × V)), H2 a = some (exo a C (some d)) ∧ H2 d = some (exd d fs) ∧ H1 d = none ∧ W (.ref C) (some d) σ (upd (L2.del H2 a) d (.xd fs))) (fun _ _ _ => False) := by
    intro v H1 hq
    refine ⟨by simp, fun a ha => ⟨a, v, rfl, upd_same, fun dx hdx hne => ⟨rfl, dx, [(f, v)], upd_same, ?_, ?_, ?_⟩⟩⟩
    · rw [upd_ne hne]; exact upd_same
    · rw [upd_ne hne] at hdx; exact hdx
    · rw [upd_ne hne] at hdx
      have e3 : upd (L2.del (upd (upd (upd H1 a (exo a C none)) dx (exd dx [(f, v)])) a (exo a C (some dx))) a) dx (.xd [(f, v)]) = upd H1 dx (.xd [(f, v)]) := by
        funext b
        by_cases hb : b = dx
        · rw [hb, upd_same, upd_same]
        · rw [upd_ne hb, upd_ne hb]
          by_cases hba : b = a
          · rw [hba, L2.del_same, ha]
          · rw [L2.del_ne hba, upd_ne hba, upd_ne hb, upd_ne hba]
      rw [e3]
      exact hq dx hdx
  exact ⟨_, q, e2⟩
end MT
set_option Elab.async false
set_option linter.all false
set_option maxRecDepth 100000
set_option maxHeartbeats 4000000
namespace MT
open PySem PySem.Spec PyProof.Rows L2
open SX (S)
/-! ### try .. except X as n .. except Y as n ..: clauses with a name, one after the other -/
abbrev HTS := Addr → Value → Option Addr → TS
/-- the ends of a suite whose name in slot i goes -/
def endsAs (i : Nat) (D : Ends) : Ends := { nx := fun σ' H' => D.nx (σ'.set i none) H', rt := D.rt, bk := fun σ' H' => D.bk (σ'.set i none) H', ct := fun σ' H' => D.ct (σ'.set i none) H' }
def wAsM (K : PySem.W.Frag) (Wout : WX) (D : Ends) : List (Value × Nat × HTS) → WX
  | [] => Wout
  | (c, i, ts) :: r => fun cls d σ H => ∃ b, PySem.W.exmOne K cls c = some b ∧ (b = true → ∀ a, H a = none → ts a cls d (endsAs i D) (σ.set i (some (.ref a))) H) ∧ (b = false → wAsM K Wout D r cls d σ H)
inductive HdsAs (X : Cx) : List ExceptHandler → List (Value × Nat × HTS) → Prop
  | nil : HdsAs X [] []
  | cons {x n : Str} {c : Value} {i : Nat} {ts : HTS} {b₀ : Stmt} {suite : List Stmt} {np pos' : Pos} {hds : List ExceptHandler} {l : List (Value × Nat × HTS)} (hc : Names X x c) (hi : X.N[i]? = some n) (hln : X.env.kindOf n = some .local)
      (hsu : ∀ (a : Addr) (oe : Obj) (cls : Value) (d : Option Addr) (pn : List (Addr × Obj)), Zc cls d oe → (∃ vs, oe.data = .fields vs) → PSs (X.suite a ((a, oe) :: pn)) (b₀ :: suite) (ts a cls d)) (r : HdsAs X hds l) :
      HdsAs X (.ExceptHandler (some (.Name x np)) (some n) (b₀ :: suite) pos' :: hds) ((c, i, ts) :: l)
section
variable {X : Cx} {body : List Stmt} {h₀ : ExceptHandler} {hds : List ExceptHandler} {l : List (Value × Nat × HTS)} {pos : Pos} {tb : WX → TS} {Wout : WX}
/-- behind the body: the clauses are asked, each in its turn -/
theorem hds_run (hs : X.stack = X.env :: X.outer) (hf : X.env.frame = some X.env.locals) (hN : X.N.Nodup) (tk : Takes X Wout) {pins : List (Addr × Obj)} {σ' : L2.St} {H' : Hp} {D : Ends} {sI s' : Shared} {a : Addr} {B : Heap} {cls : Value} {d : Option Addr} {h3 : Heap}
    (ok : X.Ok) (J : Inv X pins σ' H' sI) (nb : ∀ b o, sI.heap.get? b = some o → b ∉ frs X.stack → B.get? b = some o) (up : sI.heap.UpToSlots h3) (na : H' a = none) (os : s'.os = sI.os) (ag : AllBare s'.gens)
    (fl3 : HandSPX.FlyingZ B (X.env :: X.outer) a (Zc cls d) h3) :
    ∀ {hds' : List ExceptHandler} {l' : List (Value × Nat × HTS)}, HdsAs X hds' l' → wAsM X.K Wout D l' cls d σ' H' → wpAny (model X.prog X.w) X.A (handleBy (.ref a) X.env hds') (SP X pins D) X.xe { s' with heap := h3 } := by
  have hfr : X.A.frames = some (X.env :: X.outer) := by rw [ok.frames, hs]
  have J3 : Inv X pins σ' H' { s' with heap := h3 } := J.landed nb fl3.1 up os ag
  obtain ⟨oe3, vs3, he3, hz3, hd3⟩ := fl3.there
  have notFr : ∀ {h : Heap} {o : Obj} {vs : Array Value}, h.FunFrames B (X.env :: X.outer) → h.get? a = some o → o.data = .fields vs → a ∉ frs (X.env :: X.outer) := fun {h o vs} ff e dd hm => by
    obtain ⟨_, o', e', hnf⟩ := ff.mem hm
    rw [e] at e'; cases e'
    exact hnf _ dd
  have nfr := notFr fl3.2.2.1 he3 hd3
  have nL : a ≠ X.env.locals := fun z => nfr (List.mem_filterMap.mpr ⟨X.env, List.mem_cons_self, by rw [hf, z]⟩)
  have nF : a ∉ X.fs := fun hm => by
    obtain ⟨e, he, q⟩ := List.mem_filterMap.mp hm
    exact nfr (List.mem_filterMap.mpr ⟨e, List.mem_cons_of_mem _ he, q⟩)
  have S3 := J3.suite he3 hd3 na nL nF
  intro hds' l' hk
  induction hk with
  | nil =>
    intro w
    refine wpAny_handleBy_nil ?_
    obtain ⟨k1, k2, k3, oe, vs, T, oT, ts', he, hz, hd, h1, hr⟩ := id fl3
    unfold PySem.passOn
    refine wpAny_bind (wpAny_field he hd h1 ?_)
    rw [if_neg (show ¬ ((Value.ref T == Value.none) = true) from by simp)]
    have fin : wpAny (model X.prog X.w) X.A (setFlight (.ref a) X.env.frame) (fun _ s4 => wpAny (model X.prog X.w) X.A (throw (.ref a) : Sem Flow) (SP X pins D) X.xe s4) X.xe { s' with heap := h3 } := by
      rw [hf]
      refine HandSPX.setFlight_upZ fl3 fun h4 hh4 up4 => wpAny_throw (tk _ _ ?_)
      exact ⟨a, B, sI, pins, σ', H', cls, d, rfl, J, nb, up.trans up4, .inr (.inr (by rw [hs]; exact hh4)), na, os, ag, w⟩
    first
      | exact wpAny_bind (wpAny_pure (wpAny_bind fin))
      | exact wpAny_bind fin
  | @cons x n c i ts b₀ suite np pos' hds2 l2 hc hi hln hsu r ih =>
    intro w
    obtain ⟨b, hb1, hyes, hno⟩ := w
    have hloc : Loc X.env.scope n := .inl hln
    refine wpAny_handleBy_cons (codeAny_handlers_test ?_) (by intro q; cases q)
    have LT : PySem.W.Looks (model X.prog X.w) h3 (typeOf (.ref a)) cls := fun A Q E s k q => wpAny_typeOf_ref (k _ _ he3) (by rw [hz3.1]; exact q)
    have LM := PySem.W.exm_one (M := model X.prog X.w) (J3.kIn) LT hb1
    have test : ∀ {Q : Value → Shared → Prop} {E : Value → Shared → Prop}, Q c { s' with heap := h3 } → wpAny (model X.prog X.w) (X.A.mark (some (.ref a))) (eval (.Name x np) X.env) Q E { s' with heap := h3 } := fun {Q E} q => by
      obtain ⟨hg, hdbg, hm | ⟨hm, hv, hnn⟩⟩ := hc
      · exact ld_glob (X := X.suite a ((a, oe3) :: (X.pn ++ pins))) S3 hg hm q hdbg
      · exact ld_blt (X := X.suite a ((a, oe3) :: (X.pn ++ pins))) S3 hg hm hv q hnn hdbg
    refine test (LM.here ?_)
    cases b with
    | true =>
      refine codeAny_handlers_suite_as ?_
      refine HandSPX.lands_againZ fl3 fun h4 fl4 up4 => ?_
      have J4 : Inv X pins σ' H' { s' with heap := h4 } := J.landed nb fl4.1 (up.trans up4) os ag
      obtain ⟨oe4, vs4, he4, hz4, hd4⟩ := fl4.there
      have S4 := J4.suite he4 hd4 na nL nF
      refine store_ok (X := X.suite a ((a, oe4) :: (X.pn ++ pins))) (v := .ref a) S4 hN hi hloc rfl (fun s5 S5 => ?_) (.inr hln)
      refine wpAny_mono ((hsu a oe4 cls d (X.pn ++ pins) hz4 ⟨_, hd4⟩).run [] s5 _ H' _ S5 (hyes rfl a na)) (fun f s6 hsp => ?_) (fun _ _ z => False.elim z)
      have end_ : ∀ {σ6 : L2.St} {H6 : Hp} {Q : Shared → Prop}, Inv (X.suite a ((a, oe4) :: (X.pn ++ pins))) [] σ6 H6 s6 → (∀ s7, Inv X pins (σ6.set i none) H6 s7 → Q s7) →
          wpAny (model X.prog X.w) X.A (do bindName X.env n .none; unbindBehindTheSuite X.env n pos') (fun _ s7 => Q s7) X.xe s6 := fun {σ6 H6 Q} S6 hq => gone_ok (S6.unsuite ok) hN hi hln hq
      cases f with
      | next =>
        obtain ⟨σ6, H6, S6, q6⟩ := hsp
        exact end_ S6 fun s7 J7 => ⟨_, _, J7, q6⟩
      | brk =>
        obtain ⟨σ6, H6, S6, q6⟩ := hsp
        exact end_ S6 fun s7 J7 => ⟨_, _, J7, q6⟩
      | cont =>
        obtain ⟨σ6, H6, S6, q6⟩ := hsp
        exact end_ S6 fun s7 J7 => ⟨_, _, J7, q6⟩
      | ret u =>
        obtain ⟨v6, σ6, H6, S6, r6, q6⟩ := hsp
        exact end_ S6 fun s7 J7 => ⟨_, _, _, J7, r6, q6⟩
    | false =>
      show wpAny _ X.A (handleBy (.ref a) X.env hds2) _ _ _
      exact ih (hno rfl)
theorem ps_try_asM (hs : X.stack = X.env :: X.outer) (hf : X.env.frame = some X.env.locals) (hN : X.N.Nodup) (tk : Takes X Wout)
    (hb : ∀ (W : WX) (pn : List (Addr × Obj)) (xe : Value → Shared → Prop), Takes (X.tr pn xe) W → PassesOwn (model X.prog X.w) X.A X.env xe → PSs (X.tr pn xe) body (tb W))
    (hh : HdsAs X (h₀ :: hds) l) : PS X (.Try body (h₀ :: hds) [] [] pos) (fun D σ H => tb (wAsM X.K Wout D l) D σ H) := by
  refine ⟨fun pins s σ H D I h => ?_⟩
  have ok := I.ok
  have hfr : X.A.frames = some (X.env :: X.outer) := by rw [ok.frames, hs]
  refine wpAny_Try_except ?_
  refine wpAny_mono ((hb (wAsM X.K Wout D l) (X.pn ++ pins) (fun e s₁ => wpAny (model X.prog X.w) X.A (noteFrame e X.env) (fun _ s₂ => wpAny (model X.prog X.w) X.A (setFlight e none) (fun _ s₃ =>
    wpAny (model X.prog X.w) X.A (handleBy e X.env (h₀ :: hds)) (SP X pins D) X.xe s₃) X.xe s₂) X.xe s₁) (fun u s' xx => ?_) PassesOwn.looking).run [] s σ H D (I.toTry _) h) (fun f s1 hsp => ?_) (fun e s1 he => he)
  · obtain ⟨a, B, sI, pins', σ', H', cls, d, rfl, J', nb, up, sky, na, os, ag, w⟩ := xx
    have sky' : Sky B (X.env :: X.outer) a (Zc cls d) X.env.locals s'.heap := by rw [← hs]; exact sky
    show wpAny (model X.prog X.w) X.A (noteFrame (.ref a) X.env) _ _ _
    refine Sky.land Zc.steady hfr hf sky' fun h3 fl3 up3 => ?_
    exact hds_run hs hf hN tk ok (J'.ofTry ok) nb (up.trans up3) na os ag fl3 hh w
  · cases f with
    | next =>
      obtain ⟨σ', H', J', q⟩ := hsp
      exact wpAny_execs_nil ⟨σ', H', J'.ofTry ok, q⟩
    | brk =>
      obtain ⟨σ', H', J', q⟩ := hsp
      exact ⟨σ', H', J'.ofTry ok, q⟩
    | cont =>
      obtain ⟨σ', H', J', q⟩ := hsp
      exact ⟨σ', H', J'.ofTry ok, q⟩
    | ret u =>
      obtain ⟨v, σ', H', J', r, q⟩ := hsp
      exact ⟨v, σ', H', J'.ofTry ok, r, q⟩
end
end MT
set_option Elab.async false
set_option linter.all false
set_option maxRecDepth 100000
set_option maxHeartbeats 4000000
namespace MT
open PySem PySem.Spec PyProof.Rows L2
open SX (S)
/-! ### behind it a token is out -/
structure PEm (X : Cx) (e : Expr) (t : TE) : Prop where
  run : ∀ (pins : List (Addr × Obj)) (s : Shared) (σ : L2.St) (H : Hp) (Q : VK), Inv X pins σ H s → t σ H Q → wpAny (model X.prog X.w) X.A (eval e X.env) (fun u s' => 1 ≤ s'.toks ∧ EP X pins σ Q u s') X.xe s
structure PAm (X : Cx) (es : List Expr) (t : TA) : Prop where
  run : ∀ (pos : Pos) (pins : List (Addr × Obj)) (s : Shared) (σ : L2.St) (H : Hp) (Q : List V → Hp → Prop), Inv X pins σ H s → t σ H Q →
  wpAny (model X.prog X.w) X.A (spliced (backTo pos (starEach es X.env))) (fun u s' => 1 ≤ s'.toks ∧ AP X pins σ Q u s') X.xe s
structure PSm (X : Cx) (st : Stmt) (t : TS) : Prop where
  run : ∀ (pins : List (Addr × Obj)) (s : Shared) (σ : L2.St) (H : Hp) (D : Ends), Inv X pins σ H s → t D σ H → wpAny (model X.prog X.w) X.A (exec st X.env) (fun f s' => 1 ≤ s'.toks ∧ SP X pins D f s') X.xe s
section
variable {X : Cx} {a b e : Expr} {es : List Expr} {ta tb te : TE} {t : TA} {pos : Pos}
theorem tokGo {α : Type} {M : Model} {A : Around} {E : Value → Shared → Prop} {m : Sem α} {Q : α → Shared → Prop} {s : Shared} (h1 : 1 ≤ s.toks) (h : wpAny M A m Q E s) : wpAny M A m (fun a s' => 1 ≤ s'.toks ∧ Q a s') E s :=
  wpAny_mono (PySem.wpAny_toks_of h1 h) (fun _ _ x => x) fun _ _ x => x.2
theorem pam_str {z : Str} {j : Nat} {cp : Pos} (h : PA X es t) (hs : starEach (.Constant (.str z) j cp :: es) X.env = (false, eval (.Constant (.str z) j cp) X.env) :: starEach es X.env := by rfl) : PAm X (.Constant (.str z) j cp :: es) (tCons (tC (.str z)) t) := by
  refine ⟨fun pos pins s σ H Q I q => ?_⟩
  rw [hs]
  show wpAny _ _ (spliced ((false, eval (.Constant (.str z) j cp) X.env) :: backTo pos (starEach es X.env))) _ _ s
  refine Calls.spliced_cons (Calls.Constant_str ?_)
  refine wpAny_mono (tokGo (Nat.succ_le_succ (Nat.zero_le _)) (h.run pos pins { s with toks := s.toks + 1 } σ H (fun xs H2 => Q (.str z :: xs) H2) (I.tok _) q)) (fun us s2 hh => ?_) fun _ _ x => x
  obtain ⟨h1, xs, H2, I2, r2, q2⟩ := hh
  exact ⟨h1, .str z :: xs, H2, I2, .cons ⟨_, rfl⟩ r2, q2⟩
theorem pam_strE {x y : Str} {j : Nat} {cp : Pos} (hxy : x = y) (h : PA X es t) (hs : starEach (.Constant (.str x) j cp :: es) X.env = (false, eval (.Constant (.str x) j cp) X.env) :: starEach es X.env := by rfl) : PAm X (.Constant (.str x) j cp :: es) (tCons (tC (.str y)) t) := by
  subst hxy; exact pam_str h hs
theorem pam_cons (ha : PE X e te) (h : PAm X es t) (hs : starEach (e :: es) X.env = (false, eval e X.env) :: starEach es X.env := by rfl) : PAm X (e :: es) (tCons te t) := by
  refine ⟨fun pos pins s σ H Q I q => ?_⟩
  rw [hs]
  show wpAny _ _ (spliced ((false, eval e X.env) :: backTo pos (starEach es X.env))) _ _ s
  refine Calls.spliced_cons (thn (ha.run pins s σ H _ I q) fun u s1 ⟨x, H1, I1, r1, q1⟩ => ?_)
  refine thn (h.run pos pins s1 σ H1 _ I1 q1) fun us s2 hh => ?_
  obtain ⟨h1, xs, H2, I2, r2, q2⟩ := hh
  exact ⟨h1, x :: xs, H2, I2, .cons r1 r2, q2⟩
theorem pam_one (ha : PEm X e te) (hs : starEach [e] X.env = (false, eval e X.env) :: starEach [] X.env := by rfl) : PAm X [e] (tCons te tNil) := by
  refine ⟨fun pos pins s σ H Q I q => ?_⟩
  rw [hs]
  show wpAny _ _ (spliced ((false, eval e X.env) :: backTo pos (starEach [] X.env))) _ _ s
  refine Calls.spliced_cons (thn (ha.run pins s σ H _ I q) fun u s1 ⟨h1, x, H1, I1, r1, q1⟩ => ?_)
  exact Calls.spliced_nil ⟨h1, [x], H1, I1, .cons r1 .nil, q1⟩
theorem pem_lst (h : PAm X es t) : PEm X (.List es pos) (tLst t) := by
  refine ⟨fun pins s σ H Q I q => ?_⟩
  refine wpAny_List_spliced (thn (h.run pos pins s σ H _ I q) fun us s1 hh => ?_)
  obtain ⟨h1, xs, H1, I1, r, z, q⟩ := hh
  refine ⟨by rw [← r.length]; exact z, h1, .ref s1.heap.objs.size, upd H1 s1.heap.objs.size (.lst xs), I1.laid (t' := s1.toks) (fun b u e => Heap.get?_push_of_some _ e) (Nat.le_refl _) ?_, rfl, q _ (I1.hok.fresh (Nat.le_refl _))⟩
  exact ⟨z, us, 0, r, Heap.get?_push_size _ rfl⟩
theorem pem_ix {r : R2} (hr : IxR X r) (ha : PEm X a ta) (hb : PE X b tb) (hs : PlainIx b) : PEm X (.Subscript a b pos) (tOp r ta tb) := by
  refine ⟨fun pins s σ H Q I h => ?_⟩
  refine Subscript_ (thn (ha.run pins s σ H _ I h) fun v s1 hh => ?_)
  obtain ⟨h1, x, H1, I1, r1, q1⟩ := hh
  refine wpAny_mono (tokGo h1 (hb.run pins s1 σ H1 _ I1 q1)) (fun u s2 hh => ?_) fun _ _ x => x
  obtain ⟨h2, y, H2, I2, r2, q2⟩ := hh
  exact tokGo h2 (hr a b pins s2 σ H2 x y v u Q I2 r1 r2 q2 (hs _ _))
theorem psm_cons {st : Stmt} {rest : List Stmt} {t u : TS} (h1 : PSm X st t) (h2 : PSsT X rest u) : PSs X (st :: rest) (tSeq t u) := by
  refine ⟨fun pins s σ H D I h => wpAny_execs_cons (thn (h1.run pins s σ H { D with nx := u D } I h) fun f s1 q => ?_)⟩
  obtain ⟨hk, q⟩ := q
  cases f with
  | next =>
    obtain ⟨σ', H', I', q⟩ := q
    exact h2 pins s1 σ' H' D hk I' q
  | ret v => exact q
  | brk => exact q
  | cont => exact q
/-- a, b = x, y, behind which a token is out -/
theorem psm_par {i j : Nat} {x y : Str} {ta : TA} {px py pt : Pos} {kt k2 pt2} (hc : X.calm = true) (hN : X.N.Nodup) (hi : X.N[i]? = some x) (hj : X.N[j]? = some y) (hij : i ≠ j)
    (hx : X.env.scope.names.lookup x = some .local) (hy : X.env.scope.names.lookup y = some .local) (ha : PAm X [a, b] ta)
    (hw : swappedStores [.Tuple [.Name x px, .Name y py] kt pt] (.Tuple [a, b] k2 pt2) X.env = pure (some [x, y]))
    (hs : swapsWithSole [.Tuple [.Name x px, .Name y py] kt pt] (.Tuple [a, b] k2 pt2) pos.line X.env = pure false := by rfl) :
    PSm X (.Assign [.Tuple [.Name x px, .Name y py] kt pt] (.Tuple [a, b] k2 pt2) pos) (tPar i j ta) := by
  refine ⟨fun pins s σ H D I h => ?_⟩
  rw [exec_Assign_arm]
  refine wpAny_bind (wpAny_standAt ?_)
  rw [hs]
  refine wpAny_bind (wpAny_pure ?_)
  rw [if_neg (by decide)]
  refine wpAny_bind (Tuple_ (thn (ha.run _ pins s σ H _ I h) fun us s1 hh => ?_))
  obtain ⟨h1, vs, H1, I1, r1, v, w, e1, q1⟩ := hh
  subst e1
  obtain ⟨u1, u2, rfl, rv, rw'⟩ := Vals.two r1
  refine wpAny_newObj_type ?_ (by show 2 ≤ sizeLine; decide)
  have I2 : Inv X pins σ H1 { s1 with heap := s1.heap.push { cls := .type "tuple", data := .seq [u1, u2].toArray } } := I1.kept (t' := s1.toks) fun b o e => Heap.get?_push_of_some _ e
  rw [hw]
  refine wpAny_bind (wpAny_pure ?_)
  refine tokGo (show 1 ≤ s1.toks from h1) ?_
  show wpAny (model X.prog X.w) X.A (do rule "assign.swapped-stores"; let items ← unpackItems (.ref s1.heap.objs.size) 2 none; assignInOrder [fun v => bindName X.env y v, fun v => bindName X.env x v] items.reverse; pure Flow.next) _ _ _
  refine wpAny_bind (wpAny_rule (wpAny_bind (unpackItems_tuple (items := #[u1, u2]) (I.ok.hd hc) (IsTup.new s1.heap _) fun h' hx' => ?_)))
  have I3 := I2.kept (h' := h') (t' := s1.toks) fun b o e => hx' b o (Nat.ne_of_lt (Heap.lt_size e)) e
  show wpAny _ _ (assignInOrder [fun v => bindName X.env y v, fun v => bindName X.env x v] [u2, u1] >>= fun _ => pure Flow.next) _ _ _
  refine wpAny_bind (assignInOrder_cons (wpAny_bindName (store_ok I3 hN hj (.inl hy) rw' (fun s2 I4 => ?_) (.inr hy))))
  refine assignInOrder_cons (wpAny_bindName (store_ok I4 hN hi (.inl hx) rv (fun s3 I5 => assignInOrder_nil (wpAny_pure ?_)) (.inr hx)))
  rw [List.set_comm _ _ (Ne.symm hij)] at I5
  exact ⟨_, H1, I5, q1⟩
/-! ### text.replace(a, b) of two written texts, a token out -/
def tReplC (te : TE) (z : List Nat) : TE := fun σ H Q => te σ H fun x H1 => ∃ l : List Nat, x = .str (S l) ∧ l.length + (l.length + 1) * z.length ≤ 16777216 ∧ ∀ l' : List Nat, l'.length ≤ l.length + (l.length + 1) * z.length → Q (.str (S l')) H1
theorem pet_replC {o : Expr} {to : TE} {y z : Str} {z' : List Nat} (hz : z = S z') (hyz : (y == z) = false) {j0 j1 : Nat} {c0 c1 apos : Pos} (ho : PE X o to)
    (hst : starEach [.Constant (.str y) j0 c0, .Constant (.str z) j1 c1] X.env = [(false, eval (.Constant (.str y) j0 c0) X.env), (false, eval (.Constant (.str z) j1 c1) X.env)] := by rfl)
    (hbase : attributeBase o "replace" X.env (eval o X.env) = eval o X.env := by rfl) (hline : (apos.endLine == pos.line) = true := by rfl) :
    PET X (.Call (.Attribute o "replace" apos) [.Constant (.str y) j0 c0, .Constant (.str z) j1 c1] [] pos) (tReplC to z') := by
  intro pins s σ H Q h0 I h
  refine PySem.Call_method2 hbase hst hline (wpAny_mono (PySem.wpAny_toks_of h0 (ho.run pins s σ H _ I h)) (fun v s1 hh => ?_) fun _ _ x => x.2)
  obtain ⟨h1, x, H1, I1, r1, l, ex, hb, q⟩ := hh
  subst ex
  obtain ⟨tx, rfl⟩ := r1
  refine ⟨"str", _, F.plainAttrs_str, F.slot_str_replace, F.type_str_replace, typeIs_str _ _ _, (fun _ e => nomatch e), Calls.callWith_builtin rfl (Calls.evalArgs_plain (Calls.spliced_cons (Calls.Constant_str ?_)))⟩
  refine Calls.spliced_cons (Calls.Constant_str (Calls.spliced_nil ?_))
  subst hz
  have hb' : (S l).length + ((S l).length + 1) * (S z').length ≤ 16777216 := by rw [SX.S_len, SX.S_len]; exact hb
  refine PySem.SC.replace (u := s1.toks) (v := s1.toks + 1) (show s1.toks ≠ 0 by omega) (show s1.toks + 1 ≠ 0 by omega) (show s1.toks ≠ s1.toks + 1 by omega) hyz hb' fun t' k => ⟨.str (Txt.replace (S l) y (S z')), H1, I1.tok k, ⟨t', rfl⟩, ?_⟩
  have hl := TK.replace_len (S l) y (S z')
  rw [SX.S_len l, SX.S_len z'] at hl
  have e := SX.S_tl (Txt.replace (S l) y (S z'))
  rw [← e]
  refine q _ ?_
  have : (Txt.replace (S l) y (S z')).cps.toList.length = (Txt.replace (S l) y (S z')).length := by simp [Str.length]
  omega
theorem PET.of (h : PE X e te) : PET X e te := fun pins s σ H Q _ I q => h.run pins s σ H Q I q
theorem pet_op {op : Operator} {r : R2} (ho : OpR X (binaryOp op) r) (ha : PE X a ta) (hb : PET X b tb) : PET X (.BinOp a op b pos) (tOp r ta tb) := by
  intro pins s σ H Q h0 I h
  refine wpAny_BinOp (wpAny_mono (PySem.wpAny_toks_of h0 (ha.run pins s σ H _ I h)) (fun v s1 hh => ?_) fun _ _ x => x.2)
  obtain ⟨h1, x, H1, I1, r1, q1⟩ := hh
  refine thn (hb pins s1 σ H1 _ h1 I1 q1) fun u s2 ⟨y, H2, I2, r2, q2⟩ => ?_
  exact ho pins s2 σ H2 x y v u Q I2 r1 r2 q2
theorem pst_asg {tg : Expr} {g : TG} (he : PET X e te) (hg : PG X tg g) (hs : swapsWithSole [tg] e pos.line X.env = pure false := by rfl) (hw : swappedStores [tg] e X.env = pure none := by rfl)
    (h1 : (assignEach [tg] X.env).map (·.2) = [assign tg X.env] := by rfl) : PST X (.Assign [tg] e pos) (tAsg te g) := by
  intro pins s σ H D h0 I h
  refine wpAny_Assign_stores (thn (he pins s σ H _ h0 I h) fun v s1 ⟨x, H1, I1, r1, q1⟩ => ?_) hs hw
  rw [h1]
  exact thn (hg.run pins s1 σ H1 x v _ I1 r1 q1) fun _ s2 q => q
end
end MT
set_option Elab.async false
set_option linter.all false
set_option maxRecDepth 100000
set_option maxHeartbeats 4000000
namespace MT
open PySem PySem.Spec PyProof.Rows L2
/-- how many stand there: of a list, a tuple, a dict -/
def lenO : Option HO → Option Nat
  | some (.lst xs) => some xs.length
  | some (.tup xs) => some xs.length
  | some (.frz _ (.lst xs)) => some xs.length
  | some (.dK kvs) => some kvs.length
  | _ => none
def rLenM2 : List V → Hp → VK → Prop := fun xs H Q => match xs with
  | [.ref p] => ∃ n : Nat, lenO (H p) = some n ∧ Q (.int (n : Int)) H
  | _ => False
theorem call_lenM2 {X : Cx} : CallR X (.builtin "len") rLenM2 := callr_imp (CallR.or call_lenM call_lenD) fun xs H Q h => by
  unfold rLenM2 at h
  split at h
  · rename_i p
    obtain ⟨n, h1, h2⟩ := h
    cases e : H p with
    | none => rw [e] at h1; cases h1
    | some o =>
      rw [e] at h1
      cases o with
      | lst ys => cases h1; exact .inl ⟨ys, by rw [e]; rfl, h2⟩
      | tup ys => cases h1; exact .inl ⟨ys, by rw [e]; rfl, h2⟩
      | dK kvs => cases h1; exact .inr ⟨p, kvs, rfl, e, h2⟩
      | frz ob u =>
        cases u with
        | lst ys => cases h1; exact .inl ⟨ys, by rw [e]; rfl, h2⟩
        | _ => cases h1
      | _ => cases h1
  · exact h.elim
end MT
set_option Elab.async false
set_option linter.all false
set_option maxRecDepth 100000
set_option maxHeartbeats 0
namespace K44
open PySem PySem.Spec PyProof.Rows L2
def top (i : Nat) : Stmt := PySem.Challenge.pw_madetables_k44_whole_join_trees.main.body.getD i (.Pass ⟨0, 0, 0, 0⟩)
def mkD (i : Nat) (x : Str) : He.DefD := ⟨(x, none), x, x, defArgs (top i), defBody (top i), defScope (top i), [], []⟩
def mkI (i : Nat) (x q : Str) : He.DefD := ⟨(x, some "__init__"), "__init__", q, defArgs (inClass (top i) 0), defBody (inClass (top i) 0), defScope (inClass (top i) 0), [], []⟩
def fn0 : List He.DefD := [mkD 6 "is_integer", mkD 7 "is_between", mkD 8 "is_count", mkD 9 "is_list", mkD 10 "is_tuple_of", mkD 11 "ascends", mkD 12 "is_word", mkD 15 "is_join_atom", mkD 16 "is_join_conjunction", mkD 17 "check_conjunction", mkD 18 "variables_left", mkD 19 "next_out", mkD 20 "struck_out", mkD 21 "join_tree", mkD 22 "is_ring", mkD 23 "are_links", mkD 24 "way_up", mkD 25 "between", mkD 26 "hangs_together", mkD 27 "is_tree_of", mkD 28 "is_join_tree", mkD 30 "_law_cell", mkD 31 "_law_box", mkD 32 "_law_take", mkD 33 "_law_mixed", mkD 34 "_law_same", mkD 35 "_law_grow", mkD 36 "_law_is_below", mkD 37 "_law_left_out", mkD 38 "_law_is_tree"]
def fn1 : List He.DefD := [mkD 39 "_law_is_left", mkD 40 "_law_conjunction", mkD 41 "_law_asked", mkD 42 "_law_near", mkD 43 "_law_conjunction_right", mkD 44 "_law_refused", mkD 45 "law", mkI 2 "InvalidConjunction" "InvalidConjunction.__init__"]
def fn : List He.DefD := fn0 ++ fn1
def fa0 : List He.Fa := [.glo "is_integer", .glo "is_between", .glo "is_count", .glo "is_list", .glo "is_tuple_of", .glo "ascends", .glo "is_word", .glo "is_join_atom", .glo "is_join_conjunction", .glo "check_conjunction", .glo "variables_left", .glo "next_out", .glo "struck_out", .glo "join_tree", .glo "is_ring", .glo "are_links", .glo "way_up", .glo "between", .glo "hangs_together", .glo "is_tree_of", .glo "is_join_tree", .glo "_law_cell", .glo "_law_box", .glo "_law_take", .glo "_law_mixed", .glo "_law_same", .glo "_law_grow", .glo "_law_is_below", .glo "_law_left_out", .glo "_law_is_tree"]
def fa1 : List He.Fa := [.glo "_law_is_left", .glo "_law_conjunction", .glo "_law_asked", .glo "_law_near", .glo "_law_conjunction_right", .glo "_law_refused", .glo "law", .glo "InvalidConjunction", .free "abs", .free "all", .free "bool", .free "dict", .free "int", .free "len", .free "list", .free "max", .free "min", .free "range", .free "set", .free "sorted", .free "str", .free "sum", .free "tuple", .free "zip", .free "isinstance", .str "LETTERS" "abcdefghijklmnopqrstuvwxyz", .int "MOST_LETTERS" (12), .int "MOST_ATOMS" (12)]
def fa : List He.Fa := fa0 ++ fa1
def ts : List He.Tab := []
/-- an own exception class over ValueError with __init__ -/
def oexB (K : PySem.W.Frag) (x f : Str) : Bool := (match K.lookup (He.ga K x) with
  | some ⟨.type "type", _, .cls cd, sl⟩ => (match cd.mro, sl.toList with
    | .ref C' :: bm, [_, _, _, _, some (.builtin n), _] => C' == He.ga K x && (n == "ValueError.__new__" && (!cd.hasDel && (cd.hasDict && PySem.HandSPX.refsVE bm)))
    | _, _ => false)
  | _ => false) && (He.eqO (PySem.W.findIn K (.ref (He.ga K x)) "__setattr__") (some (some (.builtin "object.__setattr__"))) &&
  (decide (PySem.W.subIn K (.ref (He.ga K x)) (.type "BaseException") = some true) && (decide (PySem.W.typeIn K (.ref (He.ga K x)) = some (.type "type")) && (PySem.W.keepIn K (.ref (He.ga K x)) &&
  (He.eqO (PySem.W.findIn K (.ref (He.ga K x)) f) (some none) && (He.eqO (PySem.W.findIn K (.ref (He.ga K x)) "__init__") (some (some (.ref (He.ma K (He.ga K x) "__init__")))) && (decide (PySem.W.typeIn K (.ref (He.ma K (He.ga K x) "__init__")) = some (.type "function")) && xfB K (He.ga K x))))))))
def noL (q : Addr × Obj) : Bool := match q.2.cls with
  | .type c => !decide (c = "list")
  | _ => true
def ex (K : PySem.W.Frag) : Bool := oexB K "InvalidConjunction" "given" && (K.all noL)
abbrev R : PySem.W.OpenRow := PySem.W.OpenLaw.row PySem.Challenge.rw_madetables_k44_whole_join_trees
def loose0 : List Str := ["TableError", "InvalidConjunction", "LETTERS", "MOST_LETTERS", "is_integer", "is_between", "is_count", "is_list", "is_tuple_of", "ascends", "is_word", "MOST_ATOMS", "is_join_atom", "is_join_conjunction", "check_conjunction", "variables_left", "next_out", "struck_out", "join_tree", "is_ring"]
def loose1 : List Str := ["are_links", "way_up", "between", "hangs_together", "is_tree_of", "is_join_tree", "_law_cell", "_law_box", "_law_take", "_law_mixed", "_law_same", "_law_grow", "_law_is_below", "_law_left_out", "_law_is_tree", "_law_is_left", "_law_conjunction", "_law_asked", "_law_near", "_law_conjunction_right"]
def loose2 : List Str := ["_law_refused"]
def loose : List Str := loose0 ++ loose1 ++ loose2
end K44
set_option Elab.async false
set_option linter.all false
set_option maxRecDepth 100000
set_option maxHeartbeats 4000000
namespace MT
open PySem PySem.Spec PyProof.Rows L2
/-! ### comprehensions of any number of clauses: a level is a clause's source and its loop -/
abbrev Lv : Type := L2.St → Hp → (Hp → Prop) → Prop
/-- the last clause: what is kept is put to D -/
def lvLast (wi : TI) (g : TG) (tt : TT) (te : TE) (vs : List Nat) (D : Addr) : Lv := fun σ H Nx => wi σ H fun J H1 => ∃ W : Nat → Nat → Hp → Prop, (∃ m, W 0 m H1) ∧ ∀ j k H2, W j k H2 →
  (J.stop j H2 ∧ Nx H2) ∨ (J.go j H2 ∧ ∃ N1 : Hp → Prop, (∀ H', N1 H' → ∃ k', k' < k ∧ W (j + 1) k' H') ∧ ∀ x H3, J.yld j H2 x H3 → g x (wipe σ vs) H3 fun σ4 H4 => wipe σ4 vs = wipe σ vs ∧ tt σ4 H4 fun b H5 =>
    if b = true then te σ4 H5 fun y H6 => ∃ acc, H6 D = some (.lst acc) ∧ acc.length < sizeLine ∧ N1 (upd H6 D (.lst (acc ++ [y]))) else N1 H5)
/-- a clause ahead of another one -/
def lvMid (wi : TI) (g : TG) (tt : TT) (vs : List Nat) (next : Lv) : Lv := fun σ H Nx => wi σ H fun J H1 => ∃ W : Nat → Nat → Hp → Prop, (∃ m, W 0 m H1) ∧ ∀ j k H2, W j k H2 →
  (J.stop j H2 ∧ Nx H2) ∨ (J.go j H2 ∧ ∃ N1 : Hp → Prop, (∀ H', N1 H' → ∃ k', k' < k ∧ W (j + 1) k' H') ∧ ∀ x H3, J.yld j H2 x H3 → g x (wipe σ vs) H3 fun σ4 H4 => wipe σ4 vs = wipe σ vs ∧ tt σ4 H4 fun b H5 =>
    if b = true then next σ4 H5 N1 else N1 H5)
/-- the whole: a new list, then the first clause -/
def tLcN (wi : TI) (g : TG) (tt : TT) (vs : List Nat) (next : Addr → Lv) : TE := fun σ H Q => wi σ H fun J H1 => ∀ D, H1 D = none → ∃ W : Nat → Nat → Hp → Prop, (∃ m, W 0 m (upd H1 D (.lst []))) ∧ ∀ i m H2, W i m H2 →
  (J.stop i H2 ∧ Q (.ref D) H2) ∨ (J.go i H2 ∧ ∃ Nx : Hp → Prop, (∀ H', Nx H' → ∃ m', m' < m ∧ W (i + 1) m' H') ∧ ∀ x H3, J.yld i H2 x H3 → g x (wipe σ vs) H3 fun σ4 H4 => wipe σ4 vs = wipe σ vs ∧ tt σ4 H4 fun b H5 =>
    if b = true then next D σ4 H5 Nx else Nx H5)
/-- what a level's run comes to -/
abbrev lvEnd (B : Cx) (P : List (Addr × Obj)) (σ : L2.St) (vs : List Nat) (Nx : Hp → Prop) : Result → Shared → Prop := fun r s' => match r with
  | .ok _ => ∃ σ' H', Inv B P σ' H' s' ∧ σ.length = σ'.length ∧ (∀ (j : Nat) v, (wipe σ vs)[j]? = some (some v) → σ'[j]? = some (some v)) ∧ Nx H'
  | .error _ => False
/-- clause c of the comprehension keeps its reading -/
def LvOk (B : Cx) (E : Expr) (c : Nat) (D : Addr) (iter : Expr) (vs : List Nat) (r : Lv) : Prop := ∀ (P : List (Addr × Obj)) (s : Shared) (σ : L2.St) (H : Hp) (Nx : Hp → Prop), Inv B P σ H s → r σ H Nx →
  wpAny (model B.prog B.w) B.A (eval iter B.env) (fun x s1 => wpAny (model B.prog B.w) B.A (pyIter x) (fun it s2 => codeAny (model B.prog B.w) B.A (.compStart E c it (.ref D) B.env) (lvEnd B P σ vs Nx) s2) (fun _ _ => False) s1) (fun _ _ => False) s
section
variable {prog : Program} {w : World} {A : Around} {R : Result → Shared → Prop} {elt tg it1 : Expr} {gs : List Comprehension} {ifs : List Expr} {scope : Scope} {pos p0 : Pos} {c : Nat} {it acc : Value} {env : Env}
abbrev tests (ifs : List Expr) (env : Env) : Sem Bool := forIn ifs true fun c r => if r = true then do let ok ← isTrue c env (eval c env); pure (ForInStep.yield ok) else pure (ForInStep.yield r)
/-- how a clause's turn that starts another clause reads -/
abbrev turnMid (E : Expr) (c : Nat) (p0 : Pos) (tg it1 : Expr) (ifs : List Expr) (it acc : Value) (env : Env) : Prop := compTurn E c it acc env = (do
      standAt p0
      match ← pyNext it with
      | none => pure (.done .next)
      | some v =>
        letOwnedTupleGo tg it v
        assign tg env v
        let mut ok := true
        for c in ifs do
          if ok then ok ← isTrue c env (eval c env)
        if ok then
          let x ← eval it1 env
          standAt it1.pos
          let x ← foldedSetIterable it1 env x
          let _ ← runOwn (.compStart E (c + 1) (← holding [x] (pyIter x)) acc env) env
        again (.compLoop E c it acc env))
abbrev turnLast (E : Expr) (c : Nat) (p0 : Pos) (tg elt : Expr) (ifs : List Expr) (it acc : Value) (env : Env) : Prop := compTurn E c it acc env = (do
      standAt p0
      match ← pyNext it with
      | none => pure (.done .next)
      | some v =>
        letOwnedTupleGo tg it v
        assign tg env v
        let mut ok := true
        for c in ifs do
          if ok then ok ← isTrue c env (eval c env)
        if ok then
          (do let _ ← call (.builtin "list.append") [acc, ← eval elt env])
        again (.compLoop E c it acc env))
example {i0 t1 i1 t2 i2 : Expr} {f0 f1 f2 : List Expr} : turnMid (.ListComp elt [⟨tg, i0, f0, 0⟩, ⟨t1, i1, f1, 0⟩, ⟨t2, i2, f2, 0⟩] scope pos) 0 i0.pos tg i1 f0 it acc env := by rfl
example {i0 t1 i1 t2 i2 : Expr} {f0 f1 f2 : List Expr} : turnMid (.ListComp elt [⟨tg, i0, f0, 0⟩, ⟨t1, i1, f1, 0⟩, ⟨t2, i2, f2, 0⟩] scope pos) 1 i1.pos t1 i2 f1 it acc env := by rfl
example {i0 t1 i1 t2 i2 : Expr} {f0 f1 f2 : List Expr} : turnLast (.ListComp elt [⟨tg, i0, f0, 0⟩, ⟨t1, i1, f1, 0⟩, ⟨t2, i2, f2, 0⟩] scope pos) 2 i2.pos t2 elt f2 it acc env := by rfl
abbrev Noted (prog : Program) (w : World) (A : Around) (env : Env) (R : Result → Shared → Prop) : Value → Shared → Prop := notedBy (model prog w) A env fun e s' => R (.error e) s'
theorem loop_mid (heq : turnMid (.ListComp elt gs scope pos) c p0 tg it1 ifs it acc env) (hs : ∀ x, foldedSetIterable it1 env x = pure x) (I : Nat → Shared → Prop)
    (turn : ∀ n s, I n s → wpAny (model prog w) A (pyNext it) (fun r s1 => match r with
      | none => R (.ok .next) s1
      | some v => wpAny (model prog w) A (letOwnedTupleGo tg it v) (fun _ s2 => wpAny (model prog w) A (assign tg env v) (fun _ s3 => wpAny (model prog w) A (tests ifs env) (fun ok s4 =>
            if ok = true then wpAny (model prog w) A (eval it1 env) (fun x s5 => wpAny (model prog w) A (pyIter x) (fun u s6 => codeAny (model prog w) A (.compStart (.ListComp elt gs scope pos) (c + 1) u acc env) (fun r s' => match r with
                | .ok _ => ∃ m, m < n ∧ I m s'
                | .error _ => False) s6) (fun _ _ => False) s5) (fun _ _ => False) s4
            else ∃ m, m < n ∧ I m s4) (fun _ _ => False) s3) (fun _ _ => False) s2) (fun _ _ => False) s1) (fun _ _ => False) s)
    (n : Nat) {s : Shared} (h : I n s) : codeAny (model prog w) A (.compLoop (.ListComp elt gs scope pos) c it acc env) R s := by
  refine codeAny_loop rfl I (fun n s hI => ?_) n h
  show wpAny _ A ((compTurn (.ListComp elt gs scope pos) c it acc env).onRaise _) _ _ s
  refine wpAny_noted ?_
  rw [heq]
  refine wpAny_bind (wpAny_standAt ?_)
  refine wpAny_bind (thnF (turn n s hI) fun r s1 h1 => ?_)
  cases r with
  | none => exact wpAny_pure h1
  | some v =>
    refine wpAny_bind (thnF h1 fun _ s2 h2 => ?_)
    refine wpAny_bind (thnF h2 fun _ s3 h3 => ?_)
    refine wpAny_bind (thnF h3 fun ok s4 h4 => ?_)
    cases ok with
    | false => exact wpAny_pure ⟨rfl, h4⟩
    | true =>
      refine wpAny_bind (thnF h4 fun x s5 h5 => ?_)
      refine wpAny_bind (wpAny_standAt ?_)
      refine wpAny_bind (wpAny_of_eq (hs x) ?_)
      refine wpAny_bind (wpAny_holding (thnF h5 fun u s6 h6 => ?_))
      refine wpAny_bind (wpAny_runOwn ?_)
      rw [Around.mark_none]
      refine codeAny_mono h6 fun r s' hr => ?_
      cases r with
      | ok f => first
          | exact wpAny_pure ⟨rfl, hr⟩
          | exact wpAny_bind (wpAny_pure (wpAny_pure ⟨rfl, hr⟩))
      | error e => exact hr.elim
theorem loop_last (heq : turnLast (.ListComp elt gs scope pos) c p0 tg elt ifs it acc env) (I : Nat → Shared → Prop)
    (turn : ∀ n s, I n s → wpAny (model prog w) A (pyNext it) (fun r s1 => match r with
      | none => R (.ok .next) s1
      | some v => wpAny (model prog w) A (letOwnedTupleGo tg it v) (fun _ s2 => wpAny (model prog w) A (assign tg env v) (fun _ s3 => wpAny (model prog w) A (tests ifs env) (fun ok s4 =>
            if ok = true then wpAny (model prog w) A (eval elt env) (fun x s5 => wpAny (model prog w) A (call (.builtin "list.append") [acc, x]) (fun _ s6 => ∃ m, m < n ∧ I m s6) (fun _ _ => False) s5) (fun _ _ => False) s4
            else ∃ m, m < n ∧ I m s4) (fun _ _ => False) s3) (fun _ _ => False) s2) (fun _ _ => False) s1) (fun _ _ => False) s)
    (n : Nat) {s : Shared} (h : I n s) : codeAny (model prog w) A (.compLoop (.ListComp elt gs scope pos) c it acc env) R s := by
  refine codeAny_loop rfl I (fun n s hI => ?_) n h
  show wpAny _ A ((compTurn (.ListComp elt gs scope pos) c it acc env).onRaise _) _ _ s
  refine wpAny_noted ?_
  rw [heq]
  refine wpAny_bind (wpAny_standAt ?_)
  refine wpAny_bind (thnF (turn n s hI) fun r s1 h1 => ?_)
  cases r with
  | none => exact wpAny_pure h1
  | some v =>
    refine wpAny_bind (thnF h1 fun _ s2 h2 => ?_)
    refine wpAny_bind (thnF h2 fun _ s3 h3 => ?_)
    refine wpAny_bind (thnF h3 fun ok s4 h4 => ?_)
    cases ok with
    | false => exact wpAny_pure ⟨rfl, h4⟩
    | true =>
      refine wpAny_bind (wpAny_bind (thnF h4 fun x s5 h5 => ?_))
      exact wpAny_bind (thnF h5 fun _ s6 h6 => wpAny_pure (wpAny_pure ⟨rfl, h6⟩))
end
end MT
set_option Elab.async false
set_option linter.all false
set_option maxRecDepth 100000
set_option maxHeartbeats 4000000
namespace MT
open PySem PySem.Spec PyProof.Rows L2
open SX (S)
/-! ### more readings by cases -/
/-- x in a list or tuple of flat things -/
def rInM (neg : Bool) : R2 := fun x y H Q => match y with
  | .ref p => ∃ xs, seqO (H p) = some xs ∧ flatV x = true ∧ xs.all flatV = true ∧ Q (.bl (if neg then !inV x xs else inV x xs)) H
  | _ => False
theorem op_inM {X : Cx} : OpR X (compareOp .In) (rInM false) := opr_imp op_in_seq fun x y H Q h => by
  cases y with
  | ref p =>
    obtain ⟨xs, h1, h2, h3, h4⟩ := (show ∃ xs, seqO (H p) = some xs ∧ flatV x = true ∧ xs.all flatV = true ∧ Q (.bl (if false = true then !inV x xs else inV x xs)) H from h)
    exact ⟨p, xs, rfl, seq_of h1, h2, h3, h4⟩
  | _ => exact False.elim h
theorem op_notInM {X : Cx} : OpR X (compareOp .NotIn) (rInM true) := opr_imp op_notIn_seq fun x y H Q h => by
  cases y with
  | ref p =>
    obtain ⟨xs, h1, h2, h3, h4⟩ := (show ∃ xs, seqO (H p) = some xs ∧ flatV x = true ∧ xs.all flatV = true ∧ Q (.bl (if true = true then !inV x xs else inV x xs)) H from h)
    exact ⟨p, xs, rfl, seq_of h1, h2, h3, h4⟩
  | _ => exact False.elim h
theorem inV_int (k : Int) (ns : List Int) : inV (.int k) (ns.map V.int) = decide (k ∈ ns) := by
  induction ns with
  | nil => rfl
  | cons n ns ih =>
    show ((n == k) || inV (.int k) (ns.map V.int)) = _
    rw [ih]
    by_cases h : n = k
    · subst h; simp
    · have : ¬ k = n := fun e => h e.symm
      simp [h, this, beq_eq_false_iff_ne]
theorem flat_ints (ns : List Int) : (ns.map V.int).all flatV = true := by
  induction ns with
  | nil => rfl
  | cons n ns ih => exact ih
/-- lists of ints are compared -/
def rNeI (neg : Bool) : R2 := fun x y H Q => match x, y with
  | .ref a, .ref b => ∃ ns ms : List Int, H a = some (.lst (ns.map V.int)) ∧ H b = some (.lst (ms.map V.int)) ∧ Q (.bl (if neg then !decide (ns = ms) else decide (ns = ms))) H
  | _, _ => False
theorem dp_ints {K : PySem.W.Frag} {H : Hp} : ∀ ns : List Int, DpAll K H (ns.map V.int) (ns.map PyData.int)
  | [] => .nil
  | n :: ns => .cons (.int n) (dp_ints ns)
theorem lay_ints (ns : List Int) : PyData.canLayAll0 (ns.map PyData.int) = true := by
  induction ns with
  | nil => simp [PyData.canLayAll0]
  | cons n ns ih => simp [PyData.canLayAll0, PyData.canLay0, ih]
theorem depth_ints (ns : List Int) : PyData.depthAll (ns.map PyData.int) = 0 := by
  induction ns with
  | nil => simp [PyData.depthAll]
  | cons n ns ih => simp [PyData.depthAll, PyData.depth, ih]
theorem shaped_ints (ns : List Int) : SeqAt.shaped (.list (ns.map PyData.int)) = true := by
  simp [SeqAt.shaped, PyData.canLay0, PyData.depth, lay_ints, depth_ints]
theorem eqv_ints : ∀ ns ms : List Int, PyData.eqvAll (ns.map PyData.int) (ms.map PyData.int) = decide (ns = ms)
  | [], [] => by simp [PyData.eqvAll]
  | [], _ :: _ => by simp [PyData.eqvAll]
  | _ :: _, [] => by simp [PyData.eqvAll]
  | n :: ns, m :: ms => by
    rw [List.map_cons, List.map_cons, PyData.eqvAll, eqv_ints ns ms, PyData.eqv]
    by_cases h : n = m <;> by_cases k : ns = ms <;> simp [h, k]
theorem op_eqI {X : Cx} (hu : X.A.units + 64 < cLine) : OpR X (compareOp .Eq) (rNeI false) := opr_imp (op_eqD hu) fun x y H Q h => by
  unfold rNeI at h
  split at h
  · rename_i a b
    obtain ⟨ns, ms, h1, h2, q⟩ := h
    exact ⟨.list (ns.map PyData.int), .list (ms.map PyData.int), .lst (.of h1) (dp_ints ns), .lst (.of h2) (dp_ints ms), shaped_ints _, shaped_ints _, by rw [PyData.eqv, eqv_ints]; exact q⟩
  · exact h.elim
theorem op_neI {X : Cx} (hu : X.A.units + 64 < cLine) : OpR X (compareOp .NotEq) (rNeI true) := opr_imp (op_neD hu) fun x y H Q h => by
  unfold rNeI at h
  split at h
  · rename_i a b
    obtain ⟨ns, ms, h1, h2, q⟩ := h
    exact ⟨.list (ns.map PyData.int), .list (ms.map PyData.int), .lst (.of h1) (dp_ints ns), .lst (.of h2) (dp_ints ms), shaped_ints _, shaped_ints _, by rw [PyData.eqv, eqv_ints]; exact q⟩
  · exact h.elim
/-- sorted(xs), ints -/
def rSortM : List V → Hp → VK → Prop := fun xs H Q => match xs with
  | [.ref a] => ∃ ns : List Int, H a = some (.lst (ns.map V.int)) ∧ ∀ (ms : List Int), ms.Perm ns → ms.Pairwise (· ≤ ·) → ∀ p, H p = none → Q (.ref p) (upd H p (.lst (ms.map V.int)))
  | _ => False
theorem call_sortM {X : Cx} : CallR X (.builtin "sorted") rSortM := callr_imp cr_sortedI fun xs H Q h => by
  unfold rSortM at h
  split at h
  · obtain ⟨ns, h1, h2⟩ := h
    exact ⟨_, ns, rfl, .of h1, fun ms p h3 h4 h5 => h2 ms h3 h4 p h5⟩
  · exact h.elim
/-- the pair of ints that stands at v -/
def pairAt (H : Hp) (v : V) (q : Int × Int) : Prop := ∃ t, v = .ref t ∧ H t = some (.tup [.int q.1, .int q.2])
open Classical in
/-- sorted(xs), pairs of ints -/
def rSortPM : List V → Hp → VK → Prop := fun xs H Q => match xs with
  | [.ref a] => ∃ vs : List V, H a = some (.lst vs) ∧ (∀ v ∈ vs, ∃ q, pairAt H v q) ∧
      ∀ (ws : List V), ws.Perm vs → (∀ (i j : Nat) v w q r, i < j → ws[i]? = some v → ws[j]? = some w → pairAt H v q → pairAt H w r → q.1 < r.1 ∨ q.1 = r.1 ∧ q.2 ≤ r.2) → ∀ p, H p = none → Q (.ref p) (upd H p (.lst ws))
  | _ => False
/-- x = xs.pop(i) -/
def rPopAtM : V → List V → Hp → VK → Prop := fun x vs H Q => match x, vs with
  | .ref l, [.int i] => ∃ xs k y, H l = some (.lst xs) ∧ 0 ≤ i ∧ i < 2 ^ 63 ∧ i = (k : Nat) ∧ xs[k]? = some y ∧ Q y (upd H l (.lst (xs.eraseIdx k)))
  | _, _ => False
theorem mt_popAtM {X : Cx} : MtR X "list.pop" rPopAtM := mtr_imp (X := X) (r := rPopAt) mt_popAt fun x vs H Q h => by
  unfold rPopAtM at h
  split at h
  · rename_i l i
    obtain ⟨xs, k, y, h1, h2, h3, rfl, h5, q⟩ := h
    have hk : k < xs.length := (List.getElem?_eq_some_iff.mp h5).1
    refine ⟨l, xs, k, k, y, rfl, rfl, h1, by omega, h3, ?_, h5, q⟩
    unfold seqIndex?
    simp
    omega
  · exact h.elim
/-- xs.index(k), ints -/
def rIndexM : V → List V → Hp → VK → Prop := fun x vs H Q => match x, vs with
  | .ref l, [.int k] => ∃ (ns : List Int) (j : Nat), H l = some (.lst (ns.map V.int)) ∧ ns[j]? = some k ∧ (∀ m, m < j → ns[m]? ≠ some k) ∧ Q (.int (j : Nat)) H
  | _, _ => False
theorem mt_indexM {X : Cx} : MtR X "list.index" rIndexM := mtr_imp (X := X) (r := rIndex X.K) mt_index fun x vs H Q h => by
  unfold rIndexM at h
  split at h
  · rename_i l k
    obtain ⟨ns, j, h1, h2, h3, q⟩ := h
    refine ⟨l, ns.map V.int, .int k, j, .int k, rfl, rfl, .of h1, rfl, flat_ints ns, by rw [List.getElem?_map, h2]; rfl, by show (k == k) = true; simp, fun m z hm hz => ?_, q⟩
    rw [List.getElem?_map] at hz
    cases e : ns[m]? with
    | none => rw [e] at hz; cases hz
    | some n =>
      rw [e] at hz
      cases hz
      show (n == k) = false
      rw [beq_eq_false_iff_ne]
      exact fun z => h3 m hm (by rw [e, z])
  · exact h.elim
/-- xs * k -/
def rRepM : R2 := fun x y H Q => match x, y with
  | .ref l, .int k => ∃ xs, H l = some (.lst xs) ∧ 0 ≤ k ∧ k ≤ 1000 ∧ xs.length ≤ 1000 ∧ ∀ p, H p = none → Q (.ref p) (upd H p (.lst (List.replicate k.toNat xs).flatten))
  | _, _ => False
theorem op_repM {X : Cx} : OpR X (binaryOp .Mult) rRepM := opr_imp op_rep fun x y H Q h => by
  unfold rRepM at h
  split at h
  · rename_i l k
    obtain ⟨xs, h1, h2, h3, h4, q⟩ := h
    refine ⟨l, k, xs, rfl, rfl, h1, by omega, by omega, ?_, q⟩
    have := sizeLine_eq
    have h5 : k.toNat ≤ 1000 := by omega
    have h6 : xs.length * k.toNat ≤ 1000 * 1000 := Nat.mul_le_mul h4 h5
    omega
  · exact h.elim
/-- sorted(names) -/
def rSortSM : List V → Hp → VK → Prop := fun xs H Q => match xs with
  | [.ref a] => ∃ ss : List Str, H a = some (.lst (ss.map V.str)) ∧ ss.length < 64 ∧ ∀ (ms : List Str), ms.Perm ss → ∀ p, H p = none → Q (.ref p) (upd H p (.lst (ms.map V.str)))
  | _ => False
theorem call_sortSM {X : Cx} : CallR X (.builtin "sorted") rSortSM := callr_imp cr_sortedS fun xs H Q h => by
  unfold rSortSM at h
  split at h
  · obtain ⟨ss, h1, h2, h3⟩ := h
    exact ⟨_, ss, rfl, .of h1, h2, fun ms p h4 _ h5 => h3 ms h4 p h5⟩
  · exact h.elim
/-- list(d) -/
def rListDM : List V → Hp → VK → Prop := fun xs H Q => match xs with
  | [.ref a] => ∃ kvs : List (Key × V), H a = some (.dK kvs) ∧ ∀ p, H p = none → Q (.ref p) (upd H p (.lst (kvs.map fun kv => kV kv.1)))
  | _ => False
theorem call_listDM {X : Cx} (hc : X.calm = true) : CallR X (.type "list") rListDM := callr_imp (call_listD hc) fun xs H Q h => by
  unfold rListDM at h
  split at h
  · obtain ⟨kvs, h1, h2⟩ := h
    exact ⟨_, kvs, rfl, .inl h1, h2⟩
  · exact h.elim
/-- d[k] = v, k an int or a text -/
def rSetDM : TSet := fun o i v H Q => match o with
  | .ref a => ∃ kvs k, H a = some (.dK kvs) ∧ i = kV k ∧ kvs.length < sizeLine ∧ Q (upd H a (.dK (putK kvs k v)))
  | _ => False
theorem set_dictM {X : Cx} (hu : X.A.units + 1 < cLine) : PSet X rSetDM := by
  intro pins s σ H o i v ov iv u Q I ro ri rv h
  refine set_dict hu pins s σ H o i v ov iv u Q I ro ri rv ?_
  unfold rSetDM at h
  split at h
  · obtain ⟨kvs, k, h1, rfl, h2, q⟩ := h
    exact ⟨_, _, rfl, .k h1 h2, q⟩
  · exact h.elim
end MT
set_option Elab.async false
set_option linter.all false
set_option maxRecDepth 100000
set_option maxHeartbeats 4000000
namespace MT
open PySem PySem.Spec PyProof.Rows L2
open SX (S)
/-! ### sorted(xs), pairs of ints -/
theorem pairAt_one {H : Hp} {v : V} {q r : Int × Int} (h : pairAt H v q) (k : pairAt H v r) : q = r := by
  obtain ⟨t, rfl, e⟩ := h
  obtain ⟨u, e2, e3⟩ := k
  cases e2
  rw [e] at e3
  simp at e3
  exact Prod.ext e3.1 e3.2
open Classical in
theorem call_sortPM {X : Cx} : CallR X (.builtin "sorted") rSortPM := callr_imp cr_sortedPO fun xs H Q h => by
  unfold rSortPM at h
  split at h
  · rename_i a
    obtain ⟨vs, h1, h2, h3⟩ := h
    have hk : ∀ v, (∃ q, pairAt H v q) → pairAt H v (if e : ∃ q, pairAt H v q then e.choose else (0, 0)) := fun v e => by rw [dif_pos e]; exact e.choose_spec
    refine ⟨a, vs, fun v => if e : ∃ q, pairAt H v q then e.choose else (0, 0), rfl, .of h1, fun v hv => hk v (h2 v hv), fun ys p hs hb hp => h3 ys hb.perm (fun i j v w q r hij hi hj hv hw => ?_) p hp⟩
    have hl := (List.getElem?_eq_some_iff.mp hi).1
    have hl2 := (List.getElem?_eq_some_iff.mp hj).1
    have z := List.pairwise_iff_getElem.mp hs i j hl hl2 hij
    rw [(List.getElem?_eq_some_iff.mp hi).2, (List.getElem?_eq_some_iff.mp hj).2] at z
    have e1 := pairAt_one hv (hk v ⟨q, hv⟩)
    have e2 := pairAt_one hw (hk w ⟨r, hw⟩)
    rw [ltP, ← e1, ← e2, ← Bool.not_eq_true, SrtO.lexB_iff] at z
    omega
  · exact h.elim
/-! ### set(xs), xs a list of ints -/
section
variable {P : Program} {w : World} {A : Around} {E : Value → Shared → Prop} {s : Shared}
abbrev setO0 (w : World) : Obj := { cls := .type "set", dict := none, data := .set #[] 0 (.fresh 0 0 (!w.params.followText "set-order")) }
/-- set(l), l a list of ints: its table can be walked -/
theorem setOfList {l : Addr} {items : Array Value} (ns : List Int) {Q : Value → Shared → Prop} (hh : A.handled = none) (hl : s.heap.IsList l items) (hit : IntsAre items.toList ns) (hb : ns.length + 1 < scanBound)
    (h : ∀ (h' : Heap) (tk c : Nat), SetR w h' s.heap.objs.size (fun j => decide (j ∈ ns)) c → c ≤ ns.length → (∀ b o, s.heap.get? b = some o → h'.get? b = some o) → Q (.ref s.heap.objs.size) { s with heap := h', toks := tk }) :
    wpAny (model P w) A (call (.type "set") [.ref l]) Q E s := by
  have hsz : items.size = ns.length := by simpa using IntsAre.length hit
  have hlt : l < s.heap.objs.size := by obtain ⟨o, ho, _⟩ := hl; exact Heap.lt_size ho
  obtain ⟨cc, ct, mr⟩ := F.called_set.mro
  have md := F.called_set.made; have su := F.called_set.sub; have nt := F.called_set.notType; have cr := F.called_set.canCreate; have tc := F.typeCall_set_1 (.ref l)
  have gS : (s.heap.push (setO0 w)).get? s.heap.objs.size = some (setO0 w) := Heap.get?_push_size _ rfl
  have tS : Shared.TypeIs { s with heap := s.heap.push (setO0 w) } (.ref s.heap.objs.size) "set" := ⟨_, gS, rfl⟩
  have zS : (s.heap.push (setO0 w)).objs.size = s.heap.objs.size + 1 := Heap.size_push ..
  refine wpAny_call (codeAny_of_tree (show wpAny _ _ (callAny (.type "set") _) _ _ _ from wpAny_pure ⟨Code.quiet_builtin _ (by decide +kernel), codeAny_builtin F.entry_type_call ?_⟩))
  rw [Around.under_plain (weight_type_call_type "set" [.ref l] []) rfl]
  repeat any_goals first | assumption | wp_step
  refine codeAny_mono (code_set_led1 (.ref l) (E := E) (Q₁ := fun o1 t1 => o1 = .ref s.heap.objs.size ∧ t1 = { s with heap := s.heap.push (setO0 w) }) ⟨rfl, rfl⟩) fun r t1 hr => ?_
  match r, hr with
  | .error _, hr => exact hr
  | .ok (.ret o1), ⟨e1, e2⟩ =>
    subst e1 e2
    have li := F.called_set.init.lookup; have bi := F.called_set.init.bind (.ref s.heap.objs.size)
    repeat any_goals first | assumption | wp_step
    refine codeAny_mono (codeAny_call_builtin (R := wants (fun v t2 => v = .none ∧ ∃ h' tk c, t2 = { s with heap := h', toks := tk } ∧ SetR w h' s.heap.objs.size (fun j => decide (j ∈ ns)) c ∧ c ≤ ns.length ∧ ∀ b o, s.heap.get? b = some o → h'.get? b = some o) E)
      F.called_set.init.plain F.entry_set_init (check_set_init_1 tS ?_)) fun r2 t2 q2 => ?_
    · have l1 : (s.heap.push (setO0 w)).IsList l items := hl.push _
      have n1 := F.sub_list_set; have n2 := F.sub_list_frozenset
      have n3 : (Value.type "list" == Value.type "dict") = false := by decide
      obtain ⟨⟨c0, d0, x0, y0⟩, go, ec, nl, ed⟩ := id l1
      simp only at ec ed
      subst ec ed
      unfold Builtin.«set.__init__» noKeywords Builtin.Frozenset.updateFrom
      generalize hp : pyIter = PP
      wp_walk
      subst hp
      refine wpAny_pyIter_list l1 (wpAny_bind (wpAny_runValue ?_))
      have hl0 : l < s.heap.objs.size := by obtain ⟨o, ho, _⟩ := hl; exact Heap.lt_size ho
      have a1 : l ≠ (s.heap.push (setO0 w)).objs.size := by rw [zS]; exact Nat.ne_of_lt (Nat.lt_succ_of_lt hl0)
      have a2 : s.heap.objs.size ∉ [(s.heap.push (setO0 w)).objs.size, l] := by
        intro z
        rcases List.mem_cons.mp z with z | z
        · rw [zS] at z; exact Nat.succ_ne_self _ z.symm
        · exact Nat.ne_of_gt hl0 (List.mem_singleton.mp z)
      have vs : ∀ (i : Nat) (v : Value), items[i]? = some v → ∃ k t, ns[i]? = some k ∧ v = .int k t := fun i v hv => by
        obtain ⟨t, e⟩ := hit.int_at i v (by rw [Array.getElem?_toList]; exact hv)
        have hi : i < ns.length := by have := (Array.getElem?_eq_some_iff.mp hv).1; have := IntsAre.length hit; simp at this; omega
        exact ⟨ns.getD i 0, t, by rw [List.getD_eq_getElem?_getD, List.getElem?_eq_getElem hi]; rfl, e⟩
      have sz : items.size = ns.length := by simpa using IntsAre.length hit
      refine set_update_ints ((Walks.list (A := A.in1.in1.in1) (by simp [hh]) _ l a1 items).toS) _ a2 ns sz hb vs _ 0 _ rfl (Nat.zero_le _) ⟨⟨_, Heap.get?_push_size _ rfl, rfl, rfl⟩, l1.push _⟩ ⟨0, Nat.le_refl 0, setR_new_at (Heap.get?_push_of_some _ gS)⟩ fun t3 c3 mv hc hS => ?_
      obtain ⟨hp3, g3, dr3, k3, o3⟩ := t3
      cases (show g3 = s.gens from mv.gens); cases (show dr3 = s.drawn from mv.drawn); cases (show o3 = s.os from mv.os)
      refine wpAny_pure (wpAny_pure ⟨rfl, hp3, k3, c3, rfl, hS, by omega, fun b o e => ?_⟩)
      have hb0 : b < s.heap.objs.size := Heap.lt_size e
      refine mv.heap b o (fun z => ?_) (Heap.get?_push_of_some _ (Heap.get?_push_of_some _ e))
      rcases List.mem_cons.mp z with z | z
      · exact Nat.ne_of_lt hb0 z
      · have z2 := List.mem_singleton.mp z; rw [zS] at z2; exact Nat.ne_of_lt (Nat.lt_succ_of_lt hb0) z2
    · match r2, q2 with
      | .error _, q2 => exact q2
      | .ok (.ret v), ⟨e1, h', tk, c, e2, q3, q4, q5⟩ =>
        subst e1 e2
        repeat any_goals first | assumption | wp_step
        exact h h' tk c q3 q4 q5
end
/-- set(xs), ints; sorted(set) -/
def rSetM (w : World) : List V → Hp → VK → Prop := fun xs H Q => match xs with
  | [.ref a] => ∃ ns : List Int, H a = some (.lst (ns.map V.int)) ∧ ns.length ≤ 1000 ∧ ∀ p c, c ≤ ns.length → H p = none → Q (.ref p) (upd H p (SetO w p (fun j => decide (j ∈ ns)) c))
  | _ => False
theorem call_setM {X : Cx} (hc : X.calm = true) : CallR X (.type "set") (rSetM X.w) := by
  intro pins s σ H xs us Q I r h
  unfold rSetM at h
  split at h
  · rename_i a
    obtain ⟨ns, h1, h2, h3⟩ := h
    obtain rfl := Vals.ref1 r
    obtain ⟨its, rv, pl, hz⟩ := I.list (.of h1)
    refine setOfList ns (I.ok.hd hc) pl.isList (by simpa using rv.ints) (by rw [show scanBound = 4096 from rfl]; omega) fun h' tk c hS hc' hk => ?_
    exact ⟨.ref _, upd H s.heap.objs.size (SetO X.w s.heap.objs.size (fun j => decide (j ∈ ns)) c), I.laid (t' := tk) hk (Nat.le_refl _) (setO_new hS), rfl, h3 _ c hc' (I.hok.fresh (Nat.le_refl _))⟩
  · exact h.elim
def rSortSetM (w : World) : List V → Hp → VK → Prop := fun xs H Q => match xs with
  | [.ref a] => ∃ S n, H a = some (SetO w a S n) ∧ n < 64 ∧ ∀ (ns : List Int), ns.Pairwise (· < ·) → (∀ k : Int, k ∈ ns ↔ S k = true) → ns.length = n → ∀ p, H p = none → Q (.ref p) (upd H p (.lst (ns.map V.int)))
  | _ => False
theorem call_sortSetM {X : Cx} (hc : X.calm = true) : CallR X (.builtin "sorted") (rSortSetM X.w) := callr_imp (cr_sortedSet hc) fun xs H Q h => by
  unfold rSortSetM at h
  split at h
  · obtain ⟨S, n, h1, h2, h3⟩ := h
    exact ⟨_, S, n, rfl, h1, h2, fun ns p h4 h5 h6 h7 => h3 ns h4 h5 h6 p h7⟩
  · exact h.elim
end MT
set_option Elab.async false
set_option linter.all false
set_option maxRecDepth 100000
set_option maxHeartbeats 200000
namespace MT
open PySem PySem.Spec PyProof.Rows L2
open SX (S)
/-! ### calls with two names -/
structure CalK2 (P : Program) (w : World) (K : PySem.W.Frag) (mg : Str → Option Value) (base : Heap) (k : Nat) (x p q : Str) (sp : Sp) : Prop where
  ex : ∃ f fd, FnOk P w K mg base (L2.CX P w) k f fd [p, q] sp ∧ mg x = some (.ref f) ∧ PySem.W.keepIn K (.ref f) = true ∧ Binds K fd [p, q] [] ∧ ∀ (s : Shared) (u v : Value), BindsTo s fd ⟨[], [(q, v), (p, u)]⟩ [(p, u), (q, v)]
/-- f(e1, e2), told by place -/
def tFnW2 (sp : Sp) (W : WX) (t1 t2 : TE) : TE := fun σ H Q => t1 σ H fun v H1 => t2 σ H1 fun u H2 => sp [v, u] H2 Q (fun cls d H3 => W cls d σ H3)
/-- f(q=e1, p=e2) -/
def tFnK2 (sp : Sp) (W : WX) (t1 t2 : TE) : TE := fun σ H Q => t1 σ H fun v H1 => t2 σ H1 fun u H2 => sp [u, v] H2 Q (fun cls d H3 => W cls d σ H3)
section
variable {X : Cx} {x p q : Str} {p0 pos kp1 kp2 : Pos} {e1 e2 : Expr} {t1 t2 : TE} {k j : Nat} {sp : Sp} {W : WX}
abbrev two (f : V → V → Hp → Prop) : List V → Hp → Prop := fun vs H => match vs with | [v, u] => f v u H | _ => False
theorem two_of {f : V → V → Hp → Prop} {H : Hp} : ∀ {vs : List V} {us : List Value}, Vals vs us → two f vs H → ∃ v u a b, vs = [v, u] ∧ us = [a, b] ∧ RelV v a ∧ RelV u b ∧ f v u H
  | [v, u], [a, b], .cons ra (.cons rb .nil), z => ⟨v, u, a, b, rfl, rfl, ra, rb, z⟩
theorem xe_callK2 (tk : Takes X W) (c : CalK2 X.prog X.w X.K X.mg X.base k x p q sp) (hr : Room k X.A) (h1 : PE X e1 t1) (h2 : PE X e2 t2) (hg : Gl X x := by rfl) (hdb : (x == ("__debug__" : Str)) = false := by decide)
    (hall : (backToKw pos (keywordEach [⟨some q, e1, kp1⟩, ⟨some p, e2, kp2⟩] X.env)).all (·.1.isSome) = true := by rfl) (hks : (backToKw pos (keywordEach [⟨some q, e1, kp1⟩, ⟨some p, e2, kp2⟩] X.env)).filterMap (·.1) = [q, p] := by rfl)
    (hpl : ((backTo pos (starEach [] X.env)).any (·.1) || (backToKw pos (keywordEach [⟨some q, e1, kp1⟩, ⟨some p, e2, kp2⟩] X.env)).any (·.1.isNone)) = false := by rfl) : PE X (.Call (.Name x p0) [] [⟨some q, e1, kp1⟩, ⟨some p, e2, kp2⟩] pos) (tFnK2 sp W t1 t2) := by
  obtain ⟨f, fd, F, hm, hkp, _, hb⟩ := c.ex
  refine ⟨fun pins s σ H Q I h => wpAny_Call_Name_kw (ld_glob I hg hm ?_ hdb)⟩
  refine PySem.W.callWith_KW0 (h₀ := X.base) I.ok.mod.kin hkp hall (thn ((pk_cons h1 (pk_cons h2 pk_nil)).run pos pins s σ H (two fun v u H1 => sp [u, v] H1 Q (fun cls d H3 => W cls d σ H3)) I h) fun ws s1 ⟨vs, H1, I1, r, z⟩ => ⟨I1.kIn, ?_⟩) hpl
  rw [hks]
  obtain ⟨v, u, a, b, rfl, rfl, ra, rb, z⟩ := two_of r z
  exact wpAny_call (runW (us := [b, a]) tk F hr I1 (hb s1 b a) (.cons rb (.cons ra .nil)) z)
theorem xe_callW2 (tk : Takes X W) (c : CalK2 X.prog X.w X.K X.mg X.base k x p q sp) (hr : Room k X.A) (h1 : PE X e1 t1) (h2 : PE X e2 t2) (hg : Gl X x := by rfl) (hdb : (x == ("__debug__" : Str)) = false := by decide)
    (he : starEach [e1, e2] X.env = (false, eval e1 X.env) :: starEach [e2] X.env := by rfl) (he2 : starEach [e2] X.env = (false, eval e2 X.env) :: starEach [] X.env := by rfl) (hpl : (backTo pos (starEach [e2] X.env)).any (·.1) = false := by rfl) : PE X (.Call (.Name x p0) [e1, e2] [] pos) (tFnW2 sp W t1 t2) := by
  obtain ⟨f, fd, F, hm, hkp, hb, _⟩ := c.ex
  refine ⟨fun pins s σ H Q I h => wpAny_Call_Name_kw (ld_glob I hg hm ?_ hdb)⟩
  refine PySem.W.callWith_K (h₀ := X.base) I.ok.mod.kin hkp (thn ((pa_cons h1 (pa_cons h2 pa_nil he2) he).run pos pins s σ H (two fun v u H1 => sp [v, u] H1 Q (fun cls d H3 => W cls d σ H3)) I h) fun us s1 ⟨vs, H1, I1, r, z⟩ => ⟨I1.kIn, ?_⟩) he hpl
  obtain ⟨v, u, a, b, rfl, rfl, ra, rb, z⟩ := two_of r z
  exact wpAny_call (runW (us := [a, b]) tk F hr I1 (hb s1 [a, b] I1.kIn rfl) (.cons ra (.cons rb .nil)) z)
end
end MT
set_option Elab.async false
set_option linter.all false
set_option maxRecDepth 100000
set_option maxHeartbeats 1000000
namespace MT
open PySem PySem.Spec PyProof.Rows L2
/-! ### comprehensions of three clauses -/
section
variable {prog : Program} {w : World} {A : Around} {R : Result → Shared → Prop} {s : Shared} {elt t0 i0 t1 i1 t2 i2 : Expr} {f0 f1 f2 : List Expr} {scope : Scope} {pos : Pos} {it acc : Value} {env : Env}
/-- a level's first step -/
def Starts (E : Expr) (c : Nat) : Prop := ∀ {prog : Program} {w : World} {A : Around} {R : Result → Shared → Prop} {s : Shared} {it acc : Value} {env : Env}, codeAny (model prog w) A (.compLoop E c it acc env) R s →
  wpAny (model prog w) A (pyIter it) (fun u s' => codeAny (model prog w) A (.compLoop E c u acc env) R s') (Noted prog w A env R) s → codeAny (model prog w) A (.compStart E c it acc env) R s
theorem starts1 : Starts (.ListComp elt [⟨t0, i0, f0, 0⟩, ⟨t1, i1, f1, 0⟩, ⟨t2, i2, f2, 0⟩] scope pos) 1 := by
  intro prog w A R s it acc env h0 h
  refine codeAny_of_tree (wpAny_notedAt ?_)
  unfold compStart
  refine wpAny_bind (wpAny_askSetting (wpAny_ite ?_))
  split
  · first | exact wpAny_pure ⟨rfl, h0⟩ | exact wpAny_bind (wpAny_pure (wpAny_pure ⟨rfl, h0⟩))
  · refine wpAny_bind (wpAny_rule ?_)
    first
      | exact wpAny_bind (wpAny_standAt (wpAny_bind (wpAny_mono h (fun u s' h' => wpAny_pure ⟨rfl, h'⟩) fun _ _ x => x)))
      | (show wpAny _ _ (standAt i1.pos >>= _) _ _ s; exact wpAny_bind (wpAny_standAt (wpAny_bind (wpAny_mono h (fun u s' h' => wpAny_pure ⟨rfl, h'⟩) fun _ _ x => x))))
theorem starts2 : Starts (.ListComp elt [⟨t0, i0, f0, 0⟩, ⟨t1, i1, f1, 0⟩, ⟨t2, i2, f2, 0⟩] scope pos) 2 := by
  intro prog w A R s it acc env h0 h
  refine codeAny_of_tree (wpAny_notedAt ?_)
  unfold compStart
  refine wpAny_bind (wpAny_askSetting (wpAny_ite ?_))
  split
  · first | exact wpAny_pure ⟨rfl, h0⟩ | exact wpAny_bind (wpAny_pure (wpAny_pure ⟨rfl, h0⟩))
  · refine wpAny_bind (wpAny_rule ?_)
    first
      | exact wpAny_bind (wpAny_standAt (wpAny_bind (wpAny_mono h (fun u s' h' => wpAny_pure ⟨rfl, h'⟩) fun _ _ x => x)))
      | (show wpAny _ _ (standAt i2.pos >>= _) _ _ s; exact wpAny_bind (wpAny_standAt (wpAny_bind (wpAny_mono h (fun u s' h' => wpAny_pure ⟨rfl, h'⟩) fun _ _ x => x))))
end
section
variable {B : Cx} {E elt tg iter : Expr} {gs : List Comprehension} {ifs : List Expr} {scope : Scope} {pos p0 : Pos} {c : Nat} {D : Addr} {vs : List Nat} {wi : TI} {g : TG} {tt : TT} {te : TE}
theorem known {σ4 σ : L2.St} {vs : List Nat} (e : wipe σ4 vs = wipe σ vs) : σ4.length = (wipe σ vs).length := by rw [← e, wipe_length]
/-- the state of a level's loop -/
abbrev LvI (B : Cx) (P : List (Addr × Obj)) (σ : L2.St) (vs : List Nat) (fp : List Addr) (tn : Nat → Heap → Prop) (W : Nat → Nat → Hp → Prop) (k : Nat) (s' : Shared) : Prop :=
  ∃ j H', Inv B P (wipe σ vs) H' s' ∧ tn j s'.heap ∧ (∀ b ∈ fp, H' b = none) ∧ W j k H'
theorem lvI_fin {P : List (Addr × Obj)} {σ σ4 : L2.St} {fp : List Addr} {tn : Nat → Heap → Prop} {J : It} {it : Addr} {W : Nat → Nat → Hp → Prop} {N1 : Hp → Prop} {j k : Nat} {s7 s' : Shared} {H' : Hp} (T : Turn B.prog B.w B.K tg J fp it tn) (st7 : tn (j + 1) s7.heap)
    (hN : ∀ H', N1 H' → ∃ k', k' < k ∧ W (j + 1) k' H') (I' : Inv B (P ++ pinsAt fp s7.heap) σ4 H' s') (hl : (wipe σ vs).length = σ4.length) (hk : ∀ (i : Nat) v, (wipe σ vs)[i]? = some (some v) → σ4[i]? = some (some v)) (nx : N1 H') : ∃ m, m < k ∧ LvI B P σ vs fp tn W m s' := by
  obtain ⟨m, hm, w'⟩ := hN H' nx
  have stay : ∀ b ∈ fp, ∀ o, s7.heap.get? b = some o → s'.heap.get? b = some o ∧ H' b = none := fun b hb o e => by
    have z := I'.pin (b, o) (List.mem_append_right _ (List.mem_append_right _ (mem_pinsAt hb e)))
    exact ⟨z.1, z.2.1⟩
  exact ⟨m, hm, j + 1, H', I'.unpinned.weak hl hk, T.keep _ _ _ st7 fun b hb o e => (stay b hb o e).1, fun b hb => by obtain ⟨o, e, _⟩ := T.obj _ _ st7 b hb; exact (stay b hb o e).2, w'⟩
theorem lv_last (hxe : B.xe = fun _ _ => False) (hc : B.calm = true) (pi : PI B tg iter wi) (pg : PG B tg g) (pt : PTs B ifs tt) (pe : PE B elt te) (st : Starts (.ListComp elt gs scope pos) c)
    (heq : ∀ it, turnLast (.ListComp elt gs scope pos) c p0 tg elt ifs it (.ref D) B.env) : LvOk B (.ListComp elt gs scope pos) c D iter vs (lvLast wi g tt te vs D) := by
  intro P s σ H Nx I h
  have h1 := pi.run P s σ H _ I h
  rw [hxe] at h1
  refine thnF h1 fun x s1 hx => thnF hx fun itv s2 ⟨it, fp, tn, J, H2, e, I2, T, st2, f2, W, ⟨m, w0⟩, turn⟩ => ?_
  subst e
  have lp : codeAny (model B.prog B.w) B.A (.compLoop (.ListComp elt gs scope pos) c (.ref it) (.ref D) B.env) (lvEnd B P σ vs Nx) s2 := by
    refine loop_last (heq _) (LvI B P σ vs fp tn W) ?_ m ⟨0, H2, I2.weak (wipe_length _ _) (fun j v e => (wipe_some e).1), st2, fun b hb => (f2 b hb).1, w0⟩
    rintro k s3 ⟨j, H3, I3, st3, n3, w3⟩
    have fp3 : ∀ b ∈ fp, FpOk B P H3 b := fun b hb => ⟨n3 b hb, (f2 b hb).2⟩
    rcases turn j k H3 w3 with ⟨stop, nx⟩ | ⟨go, N1, hN, step⟩
    · refine thnF (T.done B rfl rfl rfl hc j P s3 _ H3 (fun _ _ => False) I3 fp3 st3 stop) fun r s4 ⟨hr, I4⟩ => ?_
      subst hr
      exact ⟨_, H3, I4, (wipe_length σ vs).symm, fun i v e => e, nx⟩
    · refine thnF (T.item B rfl rfl rfl hc j P s3 _ H3 (fun _ _ => False) I3 fp3 st3 go) fun r s4 ⟨u, hr, h4⟩ => ?_
      subst hr
      refine thnF h4 fun _ s5 ⟨x1, H5, I5, r5, y5, st5, n5⟩ => ?_
      have I5' := I5.pinned (fun b hb => ⟨n5 b hb, (f2 b hb).2⟩) (T.obj _ _ st5)
      have g1 := pg.run _ s5 (wipe σ vs) H5 x1 u _ I5' r5 (step x1 H5 y5)
      rw [hxe] at g1
      refine thnF g1 fun _ s6 ⟨σ6, H6, I6, hw, q6⟩ => ?_
      have g2 := pt.run _ s6 σ6 H6 _ I6 q6
      rw [hxe] at g2
      refine thnF g2 fun b s7 ⟨H7, I7, q7⟩ => ?_
      have l6 : (wipe σ vs).length = σ6.length := (known hw).symm
      have k6 : ∀ (i : Nat) v, (wipe σ vs)[i]? = some (some v) → σ6[i]? = some (some v) := fun i v e => by rw [← hw] at e; exact (wipe_some e).1
      cases b with
      | false => exact lvI_fin T st5 hN I7 l6 k6 q7
      | true =>
        have g3 := pe.run _ s7 σ6 H7 _ I7 q7
        rw [hxe] at g3
        exact thnF g3 fun z s8 ⟨y, H8, I8, r8, acc, hD, hz, nx⟩ => app_ok I8 hD hz r8 fun s9 I9 => lvI_fin T st5 hN I9 l6 k6 nx
  exact st lp (T.self B.A 0 _ _ _ st2 lp)
theorem lv_mid {iter1 : Expr} {vs1 : List Nat} {next : Lv} (hxe : B.xe = fun _ _ => False) (hc : B.calm = true) (pi : PI B tg iter wi) (pg : PG B tg g) (pt : PTs B ifs tt) (st : Starts (.ListComp elt gs scope pos) c)
    (heq : ∀ it, turnMid (.ListComp elt gs scope pos) c p0 tg iter1 ifs it (.ref D) B.env) (hs : ∀ x, foldedSetIterable iter1 B.env x = pure x) (hv : ∀ i ∈ vs1, i ∈ vs) (nxt : LvOk B (.ListComp elt gs scope pos) (c + 1) D iter1 vs1 next) :
    LvOk B (.ListComp elt gs scope pos) c D iter vs (lvMid wi g tt vs next) := by
  intro P s σ H Nx I h
  have h1 := pi.run P s σ H _ I h
  rw [hxe] at h1
  refine thnF h1 fun x s1 hx => thnF hx fun itv s2 ⟨it, fp, tn, J, H2, e, I2, T, st2, f2, W, ⟨m, w0⟩, turn⟩ => ?_
  subst e
  have lp : codeAny (model B.prog B.w) B.A (.compLoop (.ListComp elt gs scope pos) c (.ref it) (.ref D) B.env) (lvEnd B P σ vs Nx) s2 := by
    refine loop_mid (heq _) hs (LvI B P σ vs fp tn W) ?_ m ⟨0, H2, I2.weak (wipe_length _ _) (fun j v e => (wipe_some e).1), st2, fun b hb => (f2 b hb).1, w0⟩
    rintro k s3 ⟨j, H3, I3, st3, n3, w3⟩
    have fp3 : ∀ b ∈ fp, FpOk B P H3 b := fun b hb => ⟨n3 b hb, (f2 b hb).2⟩
    rcases turn j k H3 w3 with ⟨stop, nx⟩ | ⟨go, N1, hN, step⟩
    · refine thnF (T.done B rfl rfl rfl hc j P s3 _ H3 (fun _ _ => False) I3 fp3 st3 stop) fun r s4 ⟨hr, I4⟩ => ?_
      subst hr
      exact ⟨_, H3, I4, (wipe_length σ vs).symm, fun i v e => e, nx⟩
    · refine thnF (T.item B rfl rfl rfl hc j P s3 _ H3 (fun _ _ => False) I3 fp3 st3 go) fun r s4 ⟨u, hr, h4⟩ => ?_
      subst hr
      refine thnF h4 fun _ s5 ⟨x1, H5, I5, r5, y5, st5, n5⟩ => ?_
      have I5' := I5.pinned (fun b hb => ⟨n5 b hb, (f2 b hb).2⟩) (T.obj _ _ st5)
      have g1 := pg.run _ s5 (wipe σ vs) H5 x1 u _ I5' r5 (step x1 H5 y5)
      rw [hxe] at g1
      refine thnF g1 fun _ s6 ⟨σ6, H6, I6, hw, q6⟩ => ?_
      have g2 := pt.run _ s6 σ6 H6 _ I6 q6
      rw [hxe] at g2
      refine thnF g2 fun b s7 ⟨H7, I7, q7⟩ => ?_
      have l6 : (wipe σ vs).length = σ6.length := (known hw).symm
      have k6 : ∀ (i : Nat) v, (wipe σ vs)[i]? = some (some v) → σ6[i]? = some (some v) := fun i v e => by rw [← hw] at e; exact (wipe_some e).1
      have k7 : ∀ (i : Nat) v, (wipe σ vs)[i]? = some (some v) → (wipe σ6 vs1)[i]? = some (some v) := fun i v e => by
        rw [← hw] at e
        obtain ⟨e1, e2⟩ := wipe_some e
        rw [wipe_out fun z => e2 (hv i z)]
        exact e1
      cases b with
      | false => exact lvI_fin T st5 hN I7 l6 k6 q7
      | true =>
        refine thnF (nxt _ s7 σ6 H7 N1 I7 q7) fun y s8 h8 => thnF h8 fun u2 s9 h9 => codeAny_mono h9 fun r s' hr => ?_
        cases r with
        | error e => exact hr
        | ok fl =>
          obtain ⟨σ9, H9, I9, l9, k9, nx⟩ := hr
          exact lvI_fin T st5 hN I9 (l6.trans l9) (fun i v e => k9 i v (k7 i v e)) nx
  exact st lp (T.self B.A 0 _ _ _ st2 lp)
end
end MT
set_option Elab.async false
set_option linter.all false
set_option maxRecDepth 100000
set_option maxHeartbeats 1000000
namespace MT
open PySem PySem.Spec PyProof.Rows L2
section
variable {X : Cx} {elt t0 i0 t1 i1 t2 i2 : Expr} {f0 f1 f2 : List Expr} {scope : Scope} {own : List (Str × Nat)} {vs1 vs2 : List Nat} {pos pos' : Pos} {wi w1 w2 : TI} {g g1 g2 : TG} {tt tt1 tt2 : TT} {te : TE}
/-- a reading of a part of the block, wherever it lies -/
abbrev InBlk (X : Cx) (scope : Scope) (p : Cx → Prop) : Prop := ∀ (s : Shared) (H : Hp) (C : Addr) (cl : List (Str × Addr)) (fp : List Addr), p (X.blk s H scope (compEnvC scope cl C X.env) fp)
/-- [elt for t0 in i0 if .. for t1 in i1 if .. for t2 in i2 if ..] -/
def tLc3 (wi : TI) (g : TG) (tt : TT) (w1 : TI) (g1 : TG) (tt1 : TT) (w2 : TI) (g2 : TG) (tt2 : TT) (te : TE) (vs vs1 vs2 : List Nat) : TE := tLcN wi g tt vs fun D => lvMid w1 g1 tt1 vs1 (lvLast w2 g2 tt2 te vs2 D)
theorem pe_lc3 (hc : X.calm = true) (hN : X.N.Nodup) (hi : PI X t0 i0 wi) (ok : BlkOk X.N X.env.scope scope own) (hv : ∀ i ∈ vs1, i ∈ own.map (·.2)) (hv2 : ∀ i ∈ vs2, i ∈ vs1)
    (hg : InBlk X scope fun B => PG B t0 g) (ht : InBlk X scope fun B => PTs B f0 tt) (hi1 : InBlk X scope fun B => PI B t1 i1 w1) (hg1 : InBlk X scope fun B => PG B t1 g1) (ht1 : InBlk X scope fun B => PTs B f1 tt1)
    (hi2 : InBlk X scope fun B => PI B t2 i2 w2) (hg2 : InBlk X scope fun B => PG B t2 g2) (ht2 : InBlk X scope fun B => PTs B f2 tt2) (he : InBlk X scope fun B => PE B elt te)
    (hs : ∀ x, foldedSetIterable i0 X.env x = pure x := by intro _; rfl) (hs1 : ∀ env x, foldedSetIterable i1 env x = pure x := by intro _ _; rfl) (hs2 : ∀ env x, foldedSetIterable i2 env x = pure x := by intro _ _; rfl) :
    PE X (.ListComp elt [⟨t0, i0, f0, 0⟩, ⟨t1, i1, f1, 0⟩, ⟨t2, i2, f2, 0⟩] scope pos) (tLc3 wi g tt w1 g1 tt1 w2 g2 tt2 te (own.map (·.2)) vs1 vs2) := by
  refine ⟨fun pins s σ H Q I h => ?_⟩
  rw [eval_ListComp]
  have fr : ∀ y ∈ scope.names, y.2 = .free → ∃ c, X.env.cells.lookup y.1 = some c := fun y hy e => (ok.free y hy e).elim (fun k => I.ok.has _ (.inl k)) (fun k => I.ok.has _ (.inr k))
  refine wpAny_comprehension_free rfl hs (closure_ok fr) ok.kind (fun y hy e => by rw [ok.uniq y hy, e]) (thn (hi.run pins s σ H _ I h) fun xv s1 hx => thn hx fun itv s2 ⟨it, fp, tn, J, H2, e, I2, T, st2, fq, q⟩ => ?_)
  subst e
  refine wpAny_newObj_type (newEnv_comp ?_) (show 0 ≤ sizeLine by decide)
  generalize hD : s2.heap.objs.size = D
  have nD : H2 D = none := I2.hok.fresh (Nat.le_of_eq hD)
  obtain ⟨W, ⟨m0, w0⟩, turn⟩ := q D nD
  generalize hq3 : ({ s2 with heap := s2.heap.push { cls := .type "list", data := .seq ([] : List Value).toArray } } : Shared) = s3
  have e3 : s3.heap = s2.heap.push { cls := .type "list", data := .seq ([] : List Value).toArray } := by rw [← hq3]
  have I3 : Inv X pins σ (upd H2 D (.lst [])) s3 := by
    subst hq3 hD
    exact I2.laid (t' := s2.toks) (fun b o e => Heap.get?_push_of_some _ e) (Nat.le_refl _) ⟨Nat.zero_le _, [], 0, .nil, Heap.get?_push_size _ rfl⟩
  have lt2 : ∀ b ∈ fp, b < s2.heap.objs.size := fun b hb => by obtain ⟨o, e, _⟩ := T.obj _ _ st2 b hb; exact Heap.lt_size e
  have q3 : ∀ b ∈ fp, FpOk X pins (upd H2 D (.lst [])) b ∧ b < s3.heap.objs.size := fun b hb =>
    ⟨⟨by rw [upd_ne (by rw [← hD]; exact Nat.ne_of_lt (lt2 b hb))]; exact (fq b hb).1, (fq b hb).2⟩, by rw [e3, Heap.size_push]; exact Nat.lt_succ_of_lt (lt2 b hb)⟩
  have st3 : tn 0 s3.heap := T.keep _ _ _ st2 fun b _ o e => by rw [e3]; exact Heap.get?_push_of_some _ e
  have I4 := block_start I3 ok hN q3
  generalize hH3 : upd H2 D (.lst []) = H3 at I3 I4 w0 q3
  show codeAny _ _ (.compStart (.ListComp elt [⟨t0, i0, f0, 0⟩, ⟨t1, i1, f1, 0⟩, ⟨t2, i2, f2, 0⟩] scope pos) 0 (.ref it) (.ref D) (compEnvC scope (cellsFrom (s3.heap.objs.size + 1) scope.names (cloFrom X.env.cells scope.names [])) s3.heap.objs.size X.env)) (compPost (model X.prog X.w) X.A X.xe none _ (.ref D) s3.heap.objs.size) { s3 with heap := pushCells (s3.heap.push { cls := .type "dict", data := .dict #[] }) scope.names }
  generalize hcl : cellsFrom (s3.heap.objs.size + 1) scope.names (cloFrom X.env.cells scope.names []) = cl at I4 ⊢
  have b0 := hg s3 H3 s3.heap.objs.size cl fp; have b1 := ht s3 H3 s3.heap.objs.size cl fp; have b2 := hi1 s3 H3 s3.heap.objs.size cl fp; have b3 := hg1 s3 H3 s3.heap.objs.size cl fp; have b4 := ht1 s3 H3 s3.heap.objs.size cl fp
  have b5 := hi2 s3 H3 s3.heap.objs.size cl fp; have b6 := hg2 s3 H3 s3.heap.objs.size cl fp; have b7 := ht2 s3 H3 s3.heap.objs.size cl fp; have b8 := he s3 H3 s3.heap.objs.size cl fp
  generalize hq4 : ({ s3 with heap := pushCells (s3.heap.push { cls := .type "dict", data := .dict #[] }) scope.names } : Shared) = s4 at I4 ⊢
  have st4 : tn 0 s4.heap := T.keep _ _ _ st3 fun b _ o e => by rw [← hq4]; exact pushCells_keeps _ _ _ _ (Heap.get?_push_of_some _ e)
  generalize hB : X.blk s3 H3 scope (compEnvC scope cl s3.heap.objs.size X.env) fp = B at I4 b0 b1 b2 b3 b4 b5 b6 b7 b8
  have eB : B.env = compEnvC scope cl s3.heap.objs.size X.env := by rw [← hB]
  have xB : B.xe = fun _ _ => False := by rw [← hB]
  have cB : B.calm = true := by rw [← hB]; exact hc
  have stat : ∀ {σ' : L2.St} {H' : Hp} {s' : Shared}, Inv B [] σ' H' s' → (∀ b ∈ fp, H' b = none) → ∀ b ∈ fp, FpOk B [] H' b := by
    subst hB
    exact fun {σ' H' s'} I' n b hb => ⟨n b hb, (I'.ok.exf b hb).1, I'.ok.exfs b hb, .inl hb, fun x c e => (I'.ok.exf b hb).2 x c e, fun p hp => by cases hp⟩
  have nxt : LvOk B (.ListComp elt [⟨t0, i0, f0, 0⟩, ⟨t1, i1, f1, 0⟩, ⟨t2, i2, f2, 0⟩] scope pos) 1 D i1 vs1 (lvMid w1 g1 tt1 vs1 (lvLast w2 g2 tt2 te vs2 D)) :=
    lv_mid (p0 := i1.pos) xB cB b2 b3 b4 starts1 (fun _ => by rfl) (hs2 B.env) hv2 (lv_last (p0 := i2.pos) xB cB b5 b6 b7 b8 starts2 fun _ => by rfl)
  have TB : Turn B.prog B.w B.K t0 J fp it tn := by subst hB; exact T
  have nfp : ∀ b ∈ fp, H3 b = none := fun b hb => (q3 b hb).1.1
  have loop : ∀ R : Result → Shared → Prop, (∀ H5 s6, Inv B [] (wipe σ (own.map (·.2))) H5 s6 → Q (.ref D) H5 → R (.ok .next) s6) → codeAny (model B.prog B.w) B.A (.compLoop (.ListComp elt [⟨t0, i0, f0, 0⟩, ⟨t1, i1, f1, 0⟩, ⟨t2, i2, f2, 0⟩] scope pos) 0 (.ref it) (.ref D) B.env) R s4 := fun R hR => by
    refine loop_mid (p0 := i0.pos) (by rfl) (hs1 B.env) (LvI B [] σ (own.map (·.2)) fp tn W) ?_ m0 ⟨0, H3, I4, st4, nfp, w0⟩
    rintro n s5 ⟨i, H5, I5, st5, n5, w5⟩
    rcases turn i n H5 w5 with ⟨stop, qq⟩ | ⟨go, N1, hN, step⟩
    · refine thnF (TB.done B rfl rfl rfl cB i [] s5 _ H5 (fun _ _ => False) I5 (stat I5 n5) st5 stop) fun r s6 ⟨hr, I6⟩ => ?_
      subst hr
      exact hR H5 s6 I6 qq
    · refine thnF (TB.item B rfl rfl rfl cB i [] s5 _ H5 (fun _ _ => False) I5 (stat I5 n5) st5 go) fun r s6 ⟨u, hr, h6⟩ => ?_
      subst hr
      refine thnF h6 fun _ s7 ⟨x, H7, I7, r7, y7, st7, n7⟩ => ?_
      have g7 := b0.run _ s7 (wipe σ (own.map (·.2))) H7 x u _ (I7.pinned (stat I7 n7) (TB.obj _ _ st7)) r7 (step x H7 y7)
      rw [xB] at g7
      refine thnF g7 fun _ s8 ⟨σ8, H8, I8, hw, q8⟩ => ?_
      have g8 := b1.run _ s8 σ8 H8 _ I8 q8
      rw [xB] at g8
      refine thnF g8 fun b s9 ⟨H9, I9, q9⟩ => ?_
      have l8 : (wipe σ (own.map (·.2))).length = σ8.length := (known hw).symm
      have k8 : ∀ (i : Nat) v, (wipe σ (own.map (·.2)))[i]? = some (some v) → σ8[i]? = some (some v) := fun i v e => by rw [← hw] at e; exact (wipe_some e).1
      cases b with
      | false => exact lvI_fin TB st7 hN I9 l8 k8 q9
      | true =>
        refine thnF (nxt _ s9 σ8 H9 N1 I9 q9) fun y s10 h10 => thnF h10 fun u2 s11 h11 => codeAny_mono h11 fun r s' hr => ?_
        cases r with
        | error e => exact hr
        | ok fl =>
          obtain ⟨σ9, Hz, Iz, lz, kz, nx⟩ := hr
          exact lvI_fin TB st7 hN Iz (l8.trans lz) (fun j v e => kz j v (by
            rw [← hw] at e
            obtain ⟨e1, e2⟩ := wipe_some e
            rw [wipe_out fun z => e2 (hv j z)]
            exact e1)) nx
  subst hB
  have fin := loop (compPost (model X.prog X.w) X.A X.xe none (EP X pins σ Q) (.ref D) s3.heap.objs.size) fun H5 s6 I6 qq => by
    have I7 : Inv X pins σ H5 s6 := I3.call' (ch := fp) I6.os I6.base I6.hok I6.bare fun b hb => ⟨(q3 b hb).1.2.2.2.1, (q3 b hb).1.2.1, (q3 b hb).1.2.2.2.2.1, (q3 b hb).1.2.2.2.2.2⟩
    have nC : H5 s3.heap.objs.size = none := I6.free
    obtain ⟨m, hn, _⟩ := I6.loc
    have hn : s6.heap.Ns s3.heap.objs.size m := hn
    obtain ⟨z0, z1, z2, z3, z4, z5⟩ := I3.fpOk (Nat.le_refl _) nC
    exact ⟨m, hn, fun h'' sb => ⟨.ref D, H5, I7.turned (t' := s6.toks) (fun b o hb e => (sb.2 b hb).trans e) z0 z1 z3 z4 z5, rfl, qq⟩⟩
  exact codeAny_compStart_list fin (T.self X.A 0 _ _ _ st4 fin)
end
end MT
set_option Elab.async false
set_option linter.all false
set_option maxRecDepth 100000
set_option maxHeartbeats 1000000
namespace MT
open PySem PySem.Spec PyProof.Rows L2
/-! ### comprehensions, by the values of what is walked -/
/-- the heap but for D -/
def SmD (D : Addr) (H H' : Hp) : Prop := ∀ b o, b ≠ D → H b = some o → H' b = some o
theorem SmD.refl {D : Addr} {H : Hp} : SmD D H H := fun _ _ _ e => e
theorem SmD.trans {D : Addr} {H H' H'' : Hp} (a : SmD D H H') (b : SmD D H' H'') : SmD D H H'' := fun x o n e => b x o n (a x o n e)
theorem SmD.of {D : Addr} {H H' : Hp} (s : Same H H') : SmD D H H' := fun b o _ e => s b o e
theorem SmD.upd {D : Addr} {H : Hp} {o : HO} : SmD D H (upd H D o) := fun b u n e => by rw [upd_ne n]; exact e
theorem SmD.same {D : Addr} {H H' : Hp} (s : SmD D H H') (h : H D = none) : Same H H' := fun b o e => s b o (fun z => by rw [z, h] at e; cases e) e
theorem wipe_in : ∀ {vs : List Nat} {σ : L2.St} {i : Nat}, i ∈ vs → (wipe σ vs)[i]? = (σ[i]?).map fun _ => none
  | v :: vs, σ, i, h => by
    show ((wipe σ vs).set v none)[i]? = _
    by_cases e : v = i
    · subst e
      rw [List.getElem?_set_self']
      by_cases k : v ∈ vs
      · rw [wipe_in k]; cases σ[v]? <;> rfl
      · rw [wipe_out k]; cases σ[v]? <;> rfl
    · rw [List.getElem?_set_ne e]
      exact wipe_in ((List.mem_cons.mp h).resolve_left (Ne.symm e))
theorem wipe_set_in {vs : List Nat} {σ : L2.St} {j : Nat} {v : Option V} (h : j ∈ vs) : wipe (σ.set j v) vs = wipe σ vs := by
  refine List.ext_getElem? fun i => ?_
  by_cases k : i ∈ vs
  · rw [wipe_in k, wipe_in k]
    by_cases e : j = i
    · subst e; rw [List.getElem?_set_self']; cases σ[j]? <;> rfl
    · rw [List.getElem?_set_ne e]
  · rw [wipe_out k, wipe_out k, List.getElem?_set_ne (fun e => k (by rw [← e]; exact h))]
theorem wipe_wipe {vs : List Nat} {σ : L2.St} : wipe (wipe σ vs) vs = wipe σ vs := by
  refine List.ext_getElem? fun i => ?_
  by_cases k : i ∈ vs
  · rw [wipe_in k, wipe_in k]; cases σ[i]? <;> rfl
  · rw [wipe_out k]
theorem loop_W {J : It} {n : Nat} {G : Hp → Prop} {Y : Nat → Hp → V → Hp → Prop} (w : Walk J n G Y) {H1 : Hp} {End : Hp → Prop} {body : V → Hp → (Hp → Prop) → Prop} (Pv : Nat → Hp → Prop) (h0 : Pv 0 H1) (hG : ∀ i H, i ≤ n → Pv i H → G H)
    (hs : ∀ i x H H', i < n → Pv i H → Y i H x H' → body x H' (Pv (i + 1))) (hd : ∀ H, Pv n H → End H) :
    ∃ W : Nat → Nat → Hp → Prop, (∃ m, W 0 m H1) ∧ ∀ i m H, W i m H → (J.stop i H ∧ End H) ∨ (J.go i H ∧ ∃ Nx : Hp → Prop, (∀ H', Nx H' → ∃ m', m' < m ∧ W (i + 1) m' H') ∧ ∀ x H', J.yld i H x H' → body x H' Nx) := by
  refine ⟨fun i m H => m = n - i ∧ i ≤ n ∧ Pv i H, ⟨n, by omega, Nat.zero_le _, h0⟩, ?_⟩
  rintro i m H ⟨rfl, hi, p⟩
  have q := hG i H hi p
  by_cases hlt : i < n
  · exact .inr ⟨w.goes i H hlt q, Pv (i + 1), fun H' p' => ⟨n - (i + 1), by omega, rfl, hlt, p'⟩, fun x H' y => hs i x H H' hlt p (w.yields i H x H' hlt q y)⟩
  · have e : i = n := by omega
    subst e
    exact .inl ⟨w.stops H q, hd H p⟩
/-- wi walks the values xs -/
def Src (wi : TI) (σ : L2.St) (H : Hp) (xs : List V) : Prop := ∃ (J : It) (G : Hp → Prop), (∀ R : It → Hp → Prop, R J H → wi σ H R) ∧ Walk J xs.length G (YFn fun i => xs.getD i .non) ∧ ∀ H', Same H H' → G H'
/-- the same, beside the list at D that grows -/
def SrcD (D : Addr) (wi : TI) (σ : L2.St) (H : Hp) (xs : List V) : Prop := ∃ (J : It) (G : Hp → Prop), (∀ R : It → Hp → Prop, R J H → wi σ H R) ∧ Walk J xs.length G (YFn fun i => xs.getD i .non) ∧ ∀ H', SmD D H H' → G H'
section
variable {wi : TI} {σ : L2.St} {H H0 : Hp} {xs : List V} {D : Addr} {j : Nat} {vs : List Nat} {tt : TT} {te : TE} {K : PySem.W.Frag}
theorem Src.beside (s : Src wi σ H xs) (h : H D = none) : SrcD D wi σ H xs := by
  obtain ⟨J, G, a, b, c⟩ := s
  exact ⟨J, G, a, b, fun H' z => c H' (z.same h)⟩
theorem srcSq {t : TE} {a : Addr} (h : ∀ Q : VK, Q (.ref a) H → t σ H Q) (e : seqO (H a) = some xs) (hn : xs.length < sizeLine) : Src (iSq K t) σ H xs := src_seq h e hn
theorem srcSqD {t : TE} {a : Addr} (h : ∀ Q : VK, Q (.ref a) H → t σ H Q) (e : seqO (H a) = some xs) (hn : xs.length < sizeLine) (ha : a ≠ D) : SrcD D (iSq K t) σ H xs := by
  have sm : ∀ H' o, H a = some o → SmD D H H' → H' a = some o := fun H' o q s => s a o ha q
  cases q : H a with
  | none => rw [q] at e; cases e
  | some o =>
    rw [q] at e
    cases o with
    | lst ys => cases e; exact ⟨_, _, fun R r => h _ ⟨a, rfl, .inl ⟨xs, .of q, r⟩⟩, walk_fnL (K := K), fun H' s => .of (sm H' _ q s)⟩
    | tup ys => cases e; exact ⟨_, _, fun R r => h _ ⟨a, rfl, .inr ⟨xs, .of q, r⟩⟩, walk_fnT (K := K), fun H' s => .of (sm H' _ q s)⟩
    | frz ob u =>
      cases u with
      | lst ys => cases e; exact ⟨_, _, fun R r => h _ ⟨a, rfl, .inl ⟨xs, .inl (.inr ⟨ob, q⟩), r⟩⟩, walk_fnL (K := K), fun H' s => .inl (.inr ⟨ob, sm H' _ q s⟩)⟩
      | _ => cases e
    | _ => cases e
theorem srcRng {t : TE} {n : Nat} (hn : n ≤ 1000000) (h : ∀ Q : VK, Q (.int (n : Int)) H → t σ H Q) : Src (iRng1 (tCons t tNil)) σ H ((List.range n).map fun i : Nat => V.int (i : Int)) := by
  refine ⟨Itr 0 n, fun _ => True, fun R r => h _ ⟨n, rfl, by omega, by omega, by simpa using r⟩, ?_, fun _ _ => trivial⟩
  have e : ((List.range n).map fun i : Nat => V.int (i : Int)).length = n := by simp
  rw [e]
  refine walk_range.mono (fun _ h => h) fun i H x H' hi _ y => ⟨y.1, y.2.trans ?_⟩
  show V.int (0 + (i : Int)) = (List.map (fun i : Nat => V.int (i : Int)) (List.range n)).getD i V.non
  rw [List.getD_eq_getElem?_getD, List.getElem?_map, List.getElem?_range hi]
  simp
theorem getD_mem {i : Nat} (h : i < xs.length) : xs.getD i .non ∈ xs := by
  rw [List.getD_eq_getElem?_getD, List.getElem?_eq_getElem h]
  exact List.getElem_mem h
theorem take_next {i : Nat} (h : i < xs.length) : xs.take (i + 1) = xs.take i ++ [xs.getD i .non] := by
  rw [List.take_succ, List.getD_eq_getElem?_getD, List.getElem?_eq_getElem h]
  rfl
theorem fm_le {α : Type} (p : V → Bool) (L : V → List α) (i : Nat) : (((xs.take i).filter p).flatMap L).length ≤ ((xs.filter p).flatMap L).length := by
  have e : xs.filter p = (xs.take i).filter p ++ (xs.drop i).filter p := by rw [← List.filter_append, List.take_append_drop]
  rw [e, List.flatMap_append, List.length_append]
  omega
theorem fm_next (p : V → Bool) (L : V → List V) {i : Nat} (h : i < xs.length) : ((xs.take (i + 1)).filter p).flatMap L = ((xs.take i).filter p).flatMap L ++ if p (xs.getD i .non) = true then L (xs.getD i .non) else [] := by
  rw [take_next h, List.filter_append, List.flatMap_append]
  congr 1
  by_cases q : p (xs.getD i .non) = true
  · rw [List.filter_cons_of_pos (by exact q), if_pos q]; simp
  · rw [List.filter_cons_of_neg (by exact q), if_neg q]; rfl
/-- a level of a comprehension: each x that is kept puts L x to D -/
theorem lv_step {body : V → Hp → (Hp → Prop) → Prop} {acc0 : List V} {End : Hp → Prop} (s : SrcD D wi σ H0 xs) (hD : H0 D = some (.lst acc0)) (p : V → Bool) (L : V → List V)
    (hb : ∀ x H1 acc (Nx : Hp → Prop), x ∈ xs → SmD D H0 H1 → H1 D = some (.lst acc) → acc.length + (if p x = true then L x else []).length ≤ acc0.length + ((xs.filter p).flatMap L).length → (∀ H2, SmD D H1 H2 → H2 D = some (.lst (acc ++ if p x = true then L x else [])) → Nx H2) → body x H1 Nx)
    (hd : ∀ H1, SmD D H0 H1 → H1 D = some (.lst (acc0 ++ (xs.filter p).flatMap L)) → End H1) :
    wi σ H0 fun J H1 => ∃ W : Nat → Nat → Hp → Prop, (∃ m, W 0 m H1) ∧ ∀ i m H, W i m H → (J.stop i H ∧ End H) ∨ (J.go i H ∧ ∃ Nx : Hp → Prop, (∀ H', Nx H' → ∃ m', m' < m ∧ W (i + 1) m' H') ∧ ∀ x H', J.yld i H x H' → body x H' Nx) := by
  obtain ⟨J, G, a, b, c⟩ := s
  refine a _ (loop_W b (fun i H => SmD D H0 H ∧ H D = some (.lst (acc0 ++ ((xs.take i).filter p).flatMap L))) ⟨.refl, by simpa using hD⟩ (fun i H _ h => c H h.1) (fun i x H H' hi h y => ?_) fun H h => hd H h.1 (by simpa using h.2))
  obtain ⟨rfl, rfl⟩ := y
  show body (xs.getD i .non) _ _
  refine hb _ H' _ _ (getD_mem hi) h.1 h.2 ?_ fun H2 s2 e2 => ⟨h.1.trans s2, by rw [e2, fm_next p L hi, List.append_assoc]⟩
  have := fm_le (xs := xs) p L (i + 1)
  rw [fm_next p L hi, List.length_append] at this
  rw [List.length_append]
  omega
/-- the last clause -/
theorem lvLast_v {acc0 : List V} {Nx : Hp → Prop} (s : SrcD D wi σ H0 xs) (hj : j ∈ vs) (hD : H0 D = some (.lst acc0)) (p : V → Bool) (f : V → V) (hz : acc0.length + (xs.filter p).length < sizeLine)
    (ht : ∀ x H1 (K' : Bool → Hp → Prop), x ∈ xs → SmD D H0 H1 → (∀ H2, Same H1 H2 → K' (p x) H2) → tt ((wipe σ vs).set j (some x)) H1 K')
    (he : ∀ x H1 K', x ∈ xs → p x = true → SmD D H0 H1 → (∀ H2, Same H1 H2 → K' (f x) H2) → te ((wipe σ vs).set j (some x)) H1 K')
    (hd : ∀ H1, SmD D H0 H1 → H1 D = some (.lst (acc0 ++ (xs.filter p).map f)) → Nx H1) : lvLast wi (gName j) tt te vs D σ H0 Nx := by
  have fl : ∀ ys : List V, ys.flatMap (fun x => [f x]) = ys.map f := fun ys => by induction ys with
    | nil => rfl
    | cons y ys ih => rw [List.flatMap_cons, ih]; rfl
  refine lv_step (body := fun x H' Nx => gName j x (wipe σ vs) H' fun σ4 H4 => wipe σ4 vs = wipe σ vs ∧ tt σ4 H4 fun b H5 => if b = true then te σ4 H5 fun y H6 => ∃ acc, H6 D = some (.lst acc) ∧ acc.length < sizeLine ∧ Nx (upd H6 D (.lst (acc ++ [y]))) else Nx H5) s hD p (fun x => [f x]) (fun x H1 acc N hx s1 e1 hl n => ?_) (fun H1 s1 e1 => hd H1 s1 (by rw [← fl]; exact e1))
  refine ⟨by rw [wipe_set_in hj, wipe_wipe], ht x H1 _ hx s1 fun H2 s2 => ?_⟩
  have e2 := s2 _ _ e1
  by_cases hp : p x = true
  · rw [hp]
    refine he x H2 _ hx hp (s1.trans (.of s2)) fun H3 s3 => ⟨acc, s3 _ _ e2, ?_, n _ (((SmD.of s2).trans (.of s3)).trans .upd) (by rw [upd_same, if_pos hp])⟩
    rw [fl, List.length_map] at hl
    omega
  · rw [eq_false_of_ne_true hp]
    exact n H2 (.of s2) (by rw [if_neg hp, List.append_nil]; exact e2)
/-- a clause ahead of others -/
theorem lvMid_v {acc0 : List V} {Nx : Hp → Prop} {next : Lv} (s : SrcD D wi σ H0 xs) (hj : j ∈ vs) (hD : H0 D = some (.lst acc0)) (p : V → Bool) (L : V → List V) (hz : acc0.length + ((xs.filter p).flatMap L).length < sizeLine)
    (ht : ∀ x H1 (K' : Bool → Hp → Prop), x ∈ xs → SmD D H0 H1 → (∀ H2, Same H1 H2 → K' (p x) H2) → tt ((wipe σ vs).set j (some x)) H1 K')
    (hn : ∀ x H1 acc (N : Hp → Prop), x ∈ xs → p x = true → SmD D H0 H1 → H1 D = some (.lst acc) → acc.length + (L x).length < sizeLine → (∀ H2, SmD D H1 H2 → H2 D = some (.lst (acc ++ L x)) → N H2) → next ((wipe σ vs).set j (some x)) H1 N)
    (hd : ∀ H1, SmD D H0 H1 → H1 D = some (.lst (acc0 ++ (xs.filter p).flatMap L)) → Nx H1) : lvMid wi (gName j) tt vs next σ H0 Nx := by
  refine lv_step (body := fun x H' Nx => gName j x (wipe σ vs) H' fun σ4 H4 => wipe σ4 vs = wipe σ vs ∧ tt σ4 H4 fun b H5 => if b = true then next σ4 H5 Nx else Nx H5) s hD p L (fun x H1 acc N hx s1 e1 hl n => ?_) hd
  refine ⟨by rw [wipe_set_in hj, wipe_wipe], ht x H1 _ hx s1 fun H2 s2 => ?_⟩
  have e2 := s2 _ _ e1
  by_cases hp : p x = true
  · rw [hp]
    rw [if_pos hp] at hl n
    exact hn x H2 acc N hx hp (s1.trans (.of s2)) e2 (by omega) fun H3 s3 e3 => n H3 ((SmD.of s2).trans s3) e3
  · rw [eq_false_of_ne_true hp]
    exact n H2 (.of s2) (by rw [if_neg hp, List.append_nil]; exact e2)
/-- a comprehension of several clauses -/
theorem lcN_v {Q : VK} {next : Addr → Lv} (s : Src wi σ H0 xs) (hj : j ∈ vs) (p : V → Bool) (L : V → List V) (hz : ((xs.filter p).flatMap L).length < sizeLine)
    (ht : ∀ x H1 (K' : Bool → Hp → Prop), x ∈ xs → Same H0 H1 → (∀ H2, Same H1 H2 → K' (p x) H2) → tt ((wipe σ vs).set j (some x)) H1 K')
    (hn : ∀ D x H1 acc (N : Hp → Prop), x ∈ xs → p x = true → H0 D = none → Same H0 H1 → H1 D = some (.lst acc) → acc.length + (L x).length < sizeLine → (∀ H2, SmD D H1 H2 → H2 D = some (.lst (acc ++ L x)) → N H2) → next D ((wipe σ vs).set j (some x)) H1 N)
    (hd : ∀ D H1, H0 D = none → Same H0 H1 → H1 D = some (.lst ((xs.filter p).flatMap L)) → Q (.ref D) H1) : tLcN wi (gName j) tt vs next σ H0 Q := by
  obtain ⟨J, G, a, b, c⟩ := s
  refine a _ fun D hD => ?_
  have z := lv_step (wi := fun σ H R => R J H) (σ := σ) (H0 := upd H0 D (.lst [])) (End := fun H => Q (.ref D) H) (body := fun x H' Nx => gName j x (wipe σ vs) H' fun σ4 H4 => wipe σ4 vs = wipe σ vs ∧ tt σ4 H4 fun b H5 => if b = true then next D σ4 H5 Nx else Nx H5)
    (acc0 := []) (xs := xs) (D := D) ⟨J, G, fun R r => r, b, fun H' s' => c H' ((SmD.upd.trans s').same hD)⟩ upd_same p L (fun x H1 acc N hx s1 e1 hl n => ?_) fun H1 s1 e1 => hd D H1 hD ((SmD.upd.trans s1).same hD) (by simpa using e1)
  · exact z
  · have s0 : Same H0 H1 := (SmD.upd.trans s1).same hD
    refine ⟨by rw [wipe_set_in hj, wipe_wipe], ht x H1 _ hx s0 fun H2 s2 => ?_⟩
    have e2 := s2 _ _ e1
    by_cases hp : p x = true
    · rw [hp]
      rw [if_pos hp] at hl n
      exact hn D x H2 acc N hx hp hD (s0.trans s2) e2 (by simp only [List.length_nil, Nat.zero_add] at hl; omega) fun H3 s3 e3 => n H3 ((SmD.of s2).trans s3) e3
    · rw [eq_false_of_ne_true hp]
      exact n H2 (.of s2) (by rw [if_neg hp, List.append_nil]; exact e2)
/-- of one clause -/
theorem lc_v {Q : VK} (s : Src wi σ H0 xs) (hj : j ∈ vs) (p : V → Bool) (f : V → V) (hz : xs.length < sizeLine)
    (ht : ∀ x H1 (K' : Bool → Hp → Prop), x ∈ xs → Same H0 H1 → (∀ H2, Same H1 H2 → K' (p x) H2) → tt ((wipe σ vs).set j (some x)) H1 K')
    (he : ∀ x H1 K', x ∈ xs → p x = true → Same H0 H1 → (∀ H2, Same H1 H2 → K' (f x) H2) → te ((wipe σ vs).set j (some x)) H1 K')
    (hd : ∀ D H1, H0 D = none → Same H0 H1 → H1 D = some (.lst ((xs.filter p).map f)) → Q (.ref D) H1) : tLc wi (gName j) tt te vs σ H0 Q := by
  obtain ⟨J, G, a, b, c⟩ := s
  refine a _ fun D hD => ?_
  have z := lvLast_v (wi := fun σ H R => R J H) (σ := σ) (tt := tt) (te := te) (H0 := upd H0 D (.lst [])) (Nx := fun H => Q (.ref D) H) (acc0 := []) (xs := xs) (D := D) (j := j) (vs := vs) ⟨J, G, fun R r => r, b, fun H' s' => c H' ((SmD.upd.trans s').same hD)⟩ hj upd_same p f
    (by have := List.length_filter_le p xs; simp; omega) (fun x H1 K' hx s1 k => ht x H1 K' hx ((SmD.upd.trans s1).same hD) k) (fun x H1 K' hx hp s1 k => he x H1 K' hx hp ((SmD.upd.trans s1).same hD) k) fun H1 s1 e1 => hd D H1 hD ((SmD.upd.trans s1).same hD) (by simpa using e1)
  exact z
theorem lc2_is {wi1 : TI} {g g1 : TG} {tt1 : TT} {vs1 : List Nat} : tLc2 wi g tt wi1 g1 tt1 te vs vs1 = tLcN wi g tt vs fun D => lvLast wi1 g1 tt1 te vs1 D := rfl
end
end MT
set_option Elab.async false
set_option linter.all false
set_option maxRecDepth 100000
set_option maxHeartbeats 1000000
namespace MT
open PySem PySem.Spec PyProof.Rows L2
section
variable {wi : TI} {σ : L2.St} {H : Hp} {xs : List V} {C : Addr} {j : Nat} {tb : TS} {D : Ends} {K : PySem.W.Frag}
/-- for x in the values xs -/
theorem for_v (s : Src wi σ H xs) (Pv : Nat → L2.St → Hp → Prop) (h0 : Pv 0 σ H) (hG : ∀ i σ' H', Pv i σ' H' → Same H H')
    (hs : ∀ i σ' H', i < xs.length → Pv i σ' H' → tb { D with nx := Pv (i + 1), ct := Pv (i + 1), bk := D.nx } (σ'.set j (some (xs.getD i .non))) H') (hd : ∀ σ' H', Pv xs.length σ' H' → D.nx σ' H') : tFor wi (gName j) tb D σ H := by
  obtain ⟨J, G, a, b, c⟩ := s
  refine a _ (for_it b Pv h0 (fun i σ' H' _ p => c H' (hG i σ' H' p)) (fun i x σ' H1 H' hi p y => ?_) hd)
  obtain ⟨rfl, rfl⟩ := y
  exact hs i σ' H' hi p
/-- the same, the object at C changes -/
theorem for_vD (s : SrcD C wi σ H xs) (Pv : Nat → L2.St → Hp → Prop) (h0 : Pv 0 σ H) (hG : ∀ i σ' H', Pv i σ' H' → SmD C H H')
    (hs : ∀ i σ' H', i < xs.length → Pv i σ' H' → tb { D with nx := Pv (i + 1), ct := Pv (i + 1), bk := D.nx } (σ'.set j (some (xs.getD i .non))) H') (hd : ∀ σ' H', Pv xs.length σ' H' → D.nx σ' H') : tFor wi (gName j) tb D σ H := by
  obtain ⟨J, G, a, b, c⟩ := s
  refine a _ (for_it b Pv h0 (fun i σ' H' _ p => c H' (hG i σ' H' p)) (fun i x σ' H1 H' hi p y => ?_) hd)
  obtain ⟨rfl, rfl⟩ := y
  exact hs i σ' H' hi p
/-- a range that is walked, whatever changes -/
theorem for_rng {t : TE} {n : Nat} (hn : n ≤ 1000000) (h : ∀ Q : VK, Q (.int (n : Int)) H → t σ H Q) (Pv : Nat → L2.St → Hp → Prop) (h0 : Pv 0 σ H)
    (hs : ∀ (i : Nat) σ' H', i < n → Pv i σ' H' → tb { D with nx := Pv (i + 1), ct := Pv (i + 1), bk := D.nx } (σ'.set j (some (.int (i : Int)))) H') (hd : ∀ σ' H', Pv n σ' H' → D.nx σ' H') : tFor (iRng1 (tCons t tNil)) (gName j) tb D σ H := by
  refine h _ ⟨n, rfl, by omega, by omega, ?_⟩
  have e : ((n : Nat) : Int).toNat = n := by omega
  rw [e]
  refine for_it walk_range Pv h0 (fun i σ' H' _ p => trivial) (fun i x σ' H1 H' hi p y => ?_) hd
  obtain ⟨rfl, rfl⟩ := y
  have := hs i σ' H' hi p
  show tb _ (σ'.set j (some (.int (0 + (i : Int))))) H'
  rw [Int.zero_add]
  exact this
end
theorem wipe_cons0 {σ : L2.St} {i : Nat} {vs : List Nat} : wipe σ (i :: vs) = (wipe σ vs).set i none := rfl
end MT
set_option Elab.async false
set_option linter.all false
set_option maxRecDepth 100000
set_option maxHeartbeats 4000000
namespace K44
open PySem PySem.Spec PyProof.Rows L2 MT
open SX (S)
/-- what the top has written -/
structure Top (K : PySem.W.Frag) (w : World) (mg : Str → Option Value) : Prop where
  f_isinstance : mg "isinstance" = none
  f_int : mg "int" = none
  f_bool : mg "bool" = none
  f_str : mg "str" = none
  f_list : mg "list" = none
  f_tuple : mg "tuple" = none
  f_dict : mg "dict" = none
  f_len : mg "len" = none
  f_all : mg "all" = none
  f_range : mg "range" = none
  f_sum : mg "sum" = none
  f_abs : mg "abs" = none
  f_max : mg "max" = none
  f_min : mg "min" = none
  f_zip : mg "zip" = none
  g_LETTERS : ∃ t, mg "LETTERS" = some (.str (S [97, 98, 99, 100, 101, 102, 103, 104, 105, 106, 107, 108, 109, 110, 111, 112, 113, 114, 115, 116, 117, 118, 119, 120, 121, 122]) t)
  g_MOST_LETTERS : ∃ t, mg "MOST_LETTERS" = some (.int 12 t)
  g_MOST_ATOMS : ∃ t, mg "MOST_ATOMS" = some (.int 12 t)
  f_sorted : mg "sorted" = none
  f_set : mg "set" = none
end K44
set_option Elab.async false
set_option linter.all false
set_option maxRecDepth 100000
set_option maxHeartbeats 4000000
namespace K44
open PySem PySem.Spec PyProof.Rows L2 MT
open SX (S)
abbrev s_is_integer : Stmt := top 6
theorem sc_is_integer : FnScope ["value"] ["value"] (defScope s_is_integer) := ⟨rfl, rfl, rfl, by decide +kernel, rfl, by decide +kernel, by decide +kernel⟩
theorem b_is_integer : Plain "is_integer" s_is_integer ["value"] := fun _ _ _ _ _ _ us hl => match us, hl with | [_], _ => rfl
def t_is_integer (K : PySem.W.Frag) : TS := (tRet (tAndV (tIs .int (tVar 0)) (tNotV (tIs .bl (tVar 0)))))
theorem d_is_integer {P : Program} {w : World} {K : PySem.W.Frag} {mg : Str → Option Value} {base : Heap} {k : Nat} (T : Top K w mg) {f : Addr} {cdv : Value} {A : Around} {outer : List Env} {s : Shared} {H : Hp} {E : XK} (hr : Room k (A.deeper (envOfC "is_integer" (defScope s_is_integer) s.heap.objs.size f cdv))) : PSs (cxN P w K mg base ["value"] "is_integer" (defScope s_is_integer) f cdv A outer s H E) (defBody s_is_integer) (t_is_integer K) :=
  (pss_one (ps_ret (pe_and (xe_is .int (pv 0) T.f_isinstance T.f_int) (pe_one (pe_not (xe_is .bl (pv 0) T.f_isinstance T.f_bool))))))

abbrev s_is_between : Stmt := top 7
theorem sc_is_between : FnScope ["value", "least", "most"] ["value", "least", "most"] (defScope s_is_between) := ⟨rfl, rfl, rfl, by decide +kernel, rfl, by decide +kernel, by decide +kernel⟩
theorem b_is_between : Plain "is_between" s_is_between ["value", "least", "most"] := fun _ _ _ _ _ _ us hl => match us, hl with | [_, _, _], _ => rfl
def t_is_between (K : PySem.W.Frag) (sp_is_integer : Sp) : TS := (tRet (tAndV (tFn sp_is_integer (tCons (tVar 0) tNil)) (tChain (rI0 fun i j => .bl (decide (i ≤ j))) (rI0 fun i j => .bl (decide (i ≤ j))) (tVar 1) (tVar 0) (tVar 2))))
theorem d_is_between {P : Program} {w : World} {K : PySem.W.Frag} {mg : Str → Option Value} {base : Heap} {k : Nat} {k_is_integer : Nat} {sp_is_integer : Sp} (T : Top K w mg) (c_is_integer : Cal P w K mg base k_is_integer "is_integer" ["value"] sp_is_integer) (l_is_integer : k_is_integer ≤ k) {f : Addr} {cdv : Value} {A : Around} {outer : List Env} {s : Shared} {H : Hp} {E : XK} (hr : Room k (A.deeper (envOfC "is_between" (defScope s_is_between) s.heap.objs.size f cdv))) : PSs (cxN P w K mg base ["value", "least", "most"] "is_between" (defScope s_is_between) f cdv A outer s H E) (defBody s_is_between) (t_is_between K sp_is_integer) :=
  (pss_one (ps_ret (pe_and (xe_call c_is_integer hr l_is_integer (pa_cons (pv 0) pa_nil)) (pe_one (pe_chain op_le op_le (pv 1) (pv 0) (pv 2))))))

abbrev s_is_count : Stmt := top 8
theorem sc_is_count : FnScope ["value"] ["value"] (defScope s_is_count) := ⟨rfl, rfl, rfl, by decide +kernel, rfl, by decide +kernel, by decide +kernel⟩
theorem b_is_count : Plain "is_count" s_is_count ["value"] := fun _ _ _ _ _ _ us hl => match us, hl with | [_], _ => rfl
def t_is_count (K : PySem.W.Frag) (sp_is_integer : Sp) : TS := (tRet (tAndV (tFn sp_is_integer (tCons (tVar 0) tNil)) (tOp (rI0 fun i j => .bl (decide (j ≤ i))) (tVar 0) (tC (.int 0)))))
theorem d_is_count {P : Program} {w : World} {K : PySem.W.Frag} {mg : Str → Option Value} {base : Heap} {k : Nat} {k_is_integer : Nat} {sp_is_integer : Sp} (T : Top K w mg) (c_is_integer : Cal P w K mg base k_is_integer "is_integer" ["value"] sp_is_integer) (l_is_integer : k_is_integer ≤ k) {f : Addr} {cdv : Value} {A : Around} {outer : List Env} {s : Shared} {H : Hp} {E : XK} (hr : Room k (A.deeper (envOfC "is_count" (defScope s_is_count) s.heap.objs.size f cdv))) : PSs (cxN P w K mg base ["value"] "is_count" (defScope s_is_count) f cdv A outer s H E) (defBody s_is_count) (t_is_count K sp_is_integer) :=
  (pss_one (ps_ret (pe_and (xe_call c_is_integer hr l_is_integer (pa_cons (pv 0) pa_nil)) (pe_one (pe_cmpR op_ge (pv 0) pe_int (nomark _))))))

abbrev s_is_list : Stmt := top 9
theorem sc_is_list : FnScope ["value"] ["value"] (defScope s_is_list) := ⟨rfl, rfl, rfl, by decide +kernel, rfl, by decide +kernel, by decide +kernel⟩
theorem b_is_list : Plain "is_list" s_is_list ["value"] := fun _ _ _ _ _ _ us hl => match us, hl with | [_], _ => rfl
def t_is_list (K : PySem.W.Frag) : TS := (tRet (tIss [.lst, .tup] (tVar 0)))
theorem d_is_list {P : Program} {w : World} {K : PySem.W.Frag} {mg : Str → Option Value} {base : Heap} {k : Nat} (T : Top K w mg) {f : Addr} {cdv : Value} {A : Around} {outer : List Env} {s : Shared} {H : Hp} {E : XK} (hr : Room k (A.deeper (envOfC "is_list" (defScope s_is_list) s.heap.objs.size f cdv))) : PSs (cxN P w K mg base ["value"] "is_list" (defScope s_is_list) f cdv A outer s H E) (defBody s_is_list) (t_is_list K) :=
  (pss_one (ps_ret (xe_iss [.lst, .tup] (pv 0) T.f_isinstance (.cons T.f_list rfl (by decide +kernel) (by decide) (by decide) rfl (.cons T.f_tuple rfl (by decide +kernel) (by decide) (by decide) rfl .nil)) (by decide))))

abbrev s_is_tuple_of : Stmt := top 10
theorem sc_is_tuple_of : FnScope ["value", "many"] ["value", "many"] (defScope s_is_tuple_of) := ⟨rfl, rfl, rfl, by decide +kernel, rfl, by decide +kernel, by decide +kernel⟩
theorem b_is_tuple_of : Plain "is_tuple_of" s_is_tuple_of ["value", "many"] := fun _ _ _ _ _ _ us hl => match us, hl with | [_, _], _ => rfl
def t_is_tuple_of (K : PySem.W.Frag) : TS := (tRet (tAndV (tIs .tup (tVar 0)) (tOp rEqM (tCB rLenM (tCons (tVar 0) tNil)) (tVar 1))))
theorem d_is_tuple_of {P : Program} {w : World} {K : PySem.W.Frag} {mg : Str → Option Value} {base : Heap} {k : Nat} (T : Top K w mg) {f : Addr} {cdv : Value} {A : Around} {outer : List Env} {s : Shared} {H : Hp} {E : XK} (hr : Room k (A.deeper (envOfC "is_tuple_of" (defScope s_is_tuple_of) s.heap.objs.size f cdv))) : PSs (cxN P w K mg base ["value", "many"] "is_tuple_of" (defScope s_is_tuple_of) f cdv A outer s H E) (defBody s_is_tuple_of) (t_is_tuple_of K) :=
  (pss_one (ps_ret (pe_and (xe_is .tup (pv 0) T.f_isinstance T.f_tuple) (pe_one (pe_cmpR op_eqM (pe_callB call_lenM (by rfl) T.f_len (by decide +kernel) (pa_cons (pv 0) pa_nil)) (pv 1) (nomark _))))))

abbrev s_ascends : Stmt := top 11
theorem sc_ascends : FnScope ["items", "one", "other"] ["items"] (defScope s_ascends) := ⟨rfl, rfl, rfl, by decide +kernel, rfl, by decide +kernel, by decide +kernel⟩
theorem b_ascends : Plain "ascends" s_ascends ["items"] := fun _ _ _ _ _ _ us hl => match us, hl with | [_], _ => rfl
def t_ascends (K : PySem.W.Frag) : TS := (tRet (tCB (rAllM fun bs => bs.all id) (tCons (tLc (RZ.iZipA K (tCons (tVar 0) (tCons (tSl rSlM (tVar 0) (tPart (tC (.int 1))) tNoPart) tNil))) (gTup K 2 (gCons (gName 1) (gCons (gName 2) gNil))) tYes (tOp (rI0 fun i j => .bl (decide (i < j))) (tVar 1) (tVar 2)) [1, 2]) tNil)))
theorem d_ascends {P : Program} {w : World} {K : PySem.W.Frag} {mg : Str → Option Value} {base : Heap} {k : Nat} (T : Top K w mg) {f : Addr} {cdv : Value} {A : Around} {outer : List Env} {s : Shared} {H : Hp} {E : XK} (hr : Room k (A.deeper (envOfC "ascends" (defScope s_ascends) s.heap.objs.size f cdv))) : PSs (cxN P w K mg base ["items", "one", "other"] "ascends" (defScope s_ascends) f cdv A outer s H E) (defBody s_ascends) (t_ascends K) :=
  (pss_one (ps_ret (pe_callB (call_allM rfl) (by rfl) T.f_all (by decide +kernel) (pa_cons (pe_lc (own := [("one", 1), ("other", 2)]) (g := (gTup K 2 (gCons (gName 1) (gCons (gName 2) gNil)))) (tt := tYes) rfl sc_ascends.nd (RZ.pi_zipA (by rfl) T.f_zip (pa_cons (pv 0) (pa_cons (pe_slice sl_M (pv 0) (po_some pe_int) po_none) pa_nil))) (blkOk_by (own := [("one", 1), ("other", 2)]) (N := ["items", "one", "other"]) (sc := defScope s_ascends) (by decide +kernel)) (fun _ _ _ _ _ => (pg_tup rfl (pgs_cons (pg_name (i := 1) sc_ascends.nd rfl (.inl rfl)) (pgs_cons (pg_name (i := 2) sc_ascends.nd rfl (.inl rfl)) pgs_nil)))) (fun _ _ _ _ _ => pts_nil) (fun _ _ _ _ _ => (pe_cmpR op_lt (pv 1) (pv 2) (nomark _)))) pa_nil))))

abbrev s_is_word : Stmt := top 12
theorem sc_is_word : FnScope ["value", "sign"] ["value"] (defScope s_is_word) := ⟨rfl, rfl, rfl, by decide +kernel, rfl, by decide +kernel, by decide +kernel⟩
theorem b_is_word : Plain "is_word" s_is_word ["value"] := fun _ _ _ _ _ _ us hl => match us, hl with | [_], _ => rfl
def t_is_word (K : PySem.W.Frag) : TS := (tSeq (tIfS (tOr (tNot (tB (tIs .str (tVar 0)))) (tNot (tTest (tChain (rI0 fun i j => .bl (decide (i ≤ j))) (rI0 fun i j => .bl (decide (i ≤ j))) (tC (.int 1)) (tCB rLenM (tCons (tVar 0) tNil)) (tC (.int (12))))))) (tRet (tC (.bl false))) tNext) (tRet (tCB (rAllM fun bs => bs.all id) (tCons (tLc (iStr (tVar 0)) (gName 1) tYes (tOp (rSignIn false) (tVar 1) (tC (.str (S [97, 98, 99, 100, 101, 102, 103, 104, 105, 106, 107, 108, 109, 110, 111, 112, 113, 114, 115, 116, 117, 118, 119, 120, 121, 122])))) [1]) tNil))))
theorem d_is_word {P : Program} {w : World} {K : PySem.W.Frag} {mg : Str → Option Value} {base : Heap} {k : Nat} (T : Top K w mg) {f : Addr} {cdv : Value} {A : Around} {outer : List Env} {s : Shared} {H : Hp} {E : XK} (hr : Room k (A.deeper (envOfC "is_word" (defScope s_is_word) s.heap.objs.size f cdv))) : PSs (cxN P w K mg base ["value", "sign"] "is_word" (defScope s_is_word) f cdv A outer s H E) (defBody s_is_word) (t_is_word K) :=
  (pss_cons (ps_if (PW.pt (pw_or (pt_not (pt_val (xe_is .str (pv 0) T.f_isinstance T.f_str))) (pw_or1 (pt_not (pt_chain op_le op_le pe_int (pe_callB call_lenM (by rfl) T.f_len (by decide +kernel) (pa_cons (pv 0) pa_nil)) (xe_gint T.g_MOST_LETTERS))))))
  (pss_one (ps_ret pe_bl))
  pss_nil)
  (pss_one (ps_ret (pe_callB (call_allM rfl) (by rfl) T.f_all (by decide +kernel) (pa_cons (pe_lc (own := [("sign", 1)]) (g := (gName 1)) (tt := tYes) rfl sc_is_word.nd (pi_str (pv 0)) (blkOk_by (own := [("sign", 1)]) (N := ["value", "sign"]) (sc := defScope s_is_word) (by decide +kernel)) (fun _ _ _ _ _ => (pg_name (i := 1) sc_is_word.nd rfl (Or.inl rfl))) (fun _ _ _ _ _ => pts_nil) (fun _ _ _ _ _ => (pe_cmpR op_signIn (pv 1) (xe_gstr T.g_LETTERS) (by rfl)))) pa_nil)))))

end K44
set_option Elab.async false
set_option linter.all false
set_option maxRecDepth 100000
set_option maxHeartbeats 4000000
namespace K44
open PySem PySem.Spec PyProof.Rows L2 MT
open SX (S)
abbrev s_is_join_atom : Stmt := top 15
theorem sc_is_join_atom : FnScope ["many", "value", "x"] ["many", "value"] (defScope s_is_join_atom) := ⟨rfl, rfl, rfl, by decide +kernel, rfl, by decide +kernel, by decide +kernel⟩
theorem b_is_join_atom : Plain "is_join_atom" s_is_join_atom ["many", "value"] := fun _ _ _ _ _ _ us hl => match us, hl with | [_, _], _ => rfl
def t_is_join_atom (K : PySem.W.Frag) (sp_is_tuple_of : Sp) (sp_is_word : Sp) (sp_is_between : Sp) : TS := (tSeq (tIfS (tOr (tNot (tB (tFn sp_is_tuple_of (tCons (tVar 1) (tCons (tC (.int 3)) tNil))))) (tOr (tTest (tOp rNeM (tOp rIxM (tVar 1) (tC (.int 0))) (tC (.str (S [105, 110]))))) (tOr (tNot (tB (tFn sp_is_word (tCons (tOp rIxM (tVar 1) (tC (.int 1))) tNil)))) (tNot (tB (tIs .tup (tOp rIxM (tVar 1) (tC (.int 2))))))))) (tRet (tC (.bl false))) tNext) (tRet (tAndV (tChain (rI0 fun i j => .bl (decide (i ≤ j))) (rI0 fun i j => .bl (decide (i ≤ j))) (tC (.int 1)) (tCB rLenM (tCons (tOp rIxM (tVar 1) (tC (.int 2))) tNil)) (tC (.int 3))) (tCB (rAllM fun bs => bs.all id) (tCons (tLc (iSq K (tOp rIxM (tVar 1) (tC (.int 2)))) (gName 2) tYes (tFn sp_is_between (tCons (tVar 2) (tCons (tC (.int 0)) (tCons (tOp (rI0 fun i j => .int (i - j)) (tVar 0) (tC (.int 1))) tNil)))) [2]) tNil)))))
theorem d_is_join_atom {P : Program} {w : World} {K : PySem.W.Frag} {mg : Str → Option Value} {base : Heap} {k : Nat} {k_is_tuple_of : Nat} {sp_is_tuple_of : Sp} {k_is_word : Nat} {sp_is_word : Sp} {k_is_between : Nat} {sp_is_between : Sp} (T : Top K w mg) (c_is_tuple_of : Cal P w K mg base k_is_tuple_of "is_tuple_of" ["value", "many"] sp_is_tuple_of) (l_is_tuple_of : k_is_tuple_of ≤ k) (c_is_word : Cal P w K mg base k_is_word "is_word" ["value"] sp_is_word) (l_is_word : k_is_word ≤ k) (c_is_between : Cal P w K mg base k_is_between "is_between" ["value", "least", "most"] sp_is_between) (l_is_between : k_is_between ≤ k) {f : Addr} {cdv : Value} {A : Around} {outer : List Env} {s : Shared} {H : Hp} {E : XK} (hr : Room k (A.deeper (envOfC "is_join_atom" (defScope s_is_join_atom) s.heap.objs.size f cdv))) : PSs (cxN P w K mg base ["many", "value", "x"] "is_join_atom" (defScope s_is_join_atom) f cdv A outer s H E) (defBody s_is_join_atom) (t_is_join_atom K sp_is_tuple_of sp_is_word sp_is_between) :=
  (pss_cons (ps_if (PW.pt (pw_or (pt_not (pt_val (xe_call c_is_tuple_of hr l_is_tuple_of (pa_cons (pv 1) (pa_cons pe_int pa_nil))))) (pw_or (pt_cmpR op_neM (pe_ix ix_M (pv 1) pe_int (fun _ _ => rfl)) (xe_str (by decide +kernel)) (nomark _)) (pw_or (pt_not (pt_val (xe_call c_is_word hr l_is_word (pa_cons (pe_ix ix_M (pv 1) pe_int (fun _ _ => rfl)) pa_nil)))) (pw_or1 (pt_not (pt_val (xe_is .tup (pe_ix ix_M (pv 1) pe_int (fun _ _ => rfl)) T.f_isinstance T.f_tuple))))))))
  (pss_one (ps_ret pe_bl))
  pss_nil)
  (pss_one (ps_ret (pe_and (pe_chain op_le op_le pe_int (pe_callB call_lenM (by rfl) T.f_len (by decide +kernel) (pa_cons (pe_ix ix_M (pv 1) pe_int (fun _ _ => rfl)) pa_nil)) pe_int) (pe_one (pe_callB (call_allM rfl) (by rfl) T.f_all (by decide +kernel) (pa_cons (pe_lc (own := [("x", 2)]) (g := (gName 2)) (tt := tYes) rfl sc_is_join_atom.nd (pi_sq (pe_ix ix_M (pv 1) pe_int (fun _ _ => rfl))) (blkOk_by (own := [("x", 2)]) (N := ["many", "value", "x"]) (sc := defScope s_is_join_atom) (by decide +kernel)) (fun _ _ _ _ _ => (pg_name (i := 2) sc_is_join_atom.nd rfl (Or.inl rfl))) (fun _ _ _ _ _ => pts_nil) (fun _ _ _ _ _ => (xe_call c_is_between hr l_is_between (pa_cons (pv 2) (pa_cons pe_int (pa_cons (pe_op op_sub (pv 0) pe_int) pa_nil)))))) pa_nil)))))))

abbrev s_is_join_conjunction : Stmt := top 16
theorem sc_is_join_conjunction : FnScope ["value", "atom"] ["value"] (defScope s_is_join_conjunction) := ⟨rfl, rfl, rfl, by decide +kernel, rfl, by decide +kernel, by decide +kernel⟩
theorem b_is_join_conjunction : Plain "is_join_conjunction" s_is_join_conjunction ["value"] := fun _ _ _ _ _ _ us hl => match us, hl with | [_], _ => rfl
def t_is_join_conjunction (K : PySem.W.Frag) (sp_is_tuple_of : Sp) (sp_is_count : Sp) (sp_is_list : Sp) (sp_is_join_atom : Sp) : TS := (tSeq (tIfS (tOr (tNot (tB (tFn sp_is_tuple_of (tCons (tVar 0) (tCons (tC (.int 2)) tNil))))) (tOr (tNot (tB (tFn sp_is_count (tCons (tOp rIxM (tVar 0) (tC (.int 0))) tNil)))) (tOr (tNot (tB (tFn sp_is_list (tCons (tOp rIxM (tVar 0) (tC (.int 1))) tNil)))) (tTest (tOp (rI0 fun i j => .bl (decide (j < i))) (tCB rLenM (tCons (tOp rIxM (tVar 0) (tC (.int 1))) tNil)) (tC (.int (12)))))))) (tRet (tC (.bl false))) tNext) (tRet (tCB (rAllM fun bs => bs.all id) (tCons (tLc (iSq K (tOp rIxM (tVar 0) (tC (.int 1)))) (gName 1) tYes (tFn sp_is_join_atom (tCons (tOp rIxM (tVar 0) (tC (.int 0))) (tCons (tVar 1) tNil))) [1]) tNil))))
theorem d_is_join_conjunction {P : Program} {w : World} {K : PySem.W.Frag} {mg : Str → Option Value} {base : Heap} {k : Nat} {k_is_tuple_of : Nat} {sp_is_tuple_of : Sp} {k_is_count : Nat} {sp_is_count : Sp} {k_is_list : Nat} {sp_is_list : Sp} {k_is_join_atom : Nat} {sp_is_join_atom : Sp} (T : Top K w mg) (c_is_tuple_of : Cal P w K mg base k_is_tuple_of "is_tuple_of" ["value", "many"] sp_is_tuple_of) (l_is_tuple_of : k_is_tuple_of ≤ k) (c_is_count : Cal P w K mg base k_is_count "is_count" ["value"] sp_is_count) (l_is_count : k_is_count ≤ k) (c_is_list : Cal P w K mg base k_is_list "is_list" ["value"] sp_is_list) (l_is_list : k_is_list ≤ k) (c_is_join_atom : Cal P w K mg base k_is_join_atom "is_join_atom" ["many", "value"] sp_is_join_atom) (l_is_join_atom : k_is_join_atom ≤ k) {f : Addr} {cdv : Value} {A : Around} {outer : List Env} {s : Shared} {H : Hp} {E : XK} (hr : Room k (A.deeper (envOfC "is_join_conjunction" (defScope s_is_join_conjunction) s.heap.objs.size f cdv))) : PSs (cxN P w K mg base ["value", "atom"] "is_join_conjunction" (defScope s_is_join_conjunction) f cdv A outer s H E) (defBody s_is_join_conjunction) (t_is_join_conjunction K sp_is_tuple_of sp_is_count sp_is_list sp_is_join_atom) :=
  (pss_cons (ps_if (PW.pt (pw_or (pt_not (pt_val (xe_call c_is_tuple_of hr l_is_tuple_of (pa_cons (pv 0) (pa_cons pe_int pa_nil))))) (pw_or (pt_not (pt_val (xe_call c_is_count hr l_is_count (pa_cons (pe_ix ix_M (pv 0) pe_int (fun _ _ => rfl)) pa_nil)))) (pw_or (pt_not (pt_val (xe_call c_is_list hr l_is_list (pa_cons (pe_ix ix_M (pv 0) pe_int (fun _ _ => rfl)) pa_nil)))) (pw_or1 (pt_cmpR op_gt (pe_callB call_lenM (by rfl) T.f_len (by decide +kernel) (pa_cons (pe_ix ix_M (pv 0) pe_int (fun _ _ => rfl)) pa_nil)) (xe_gint T.g_MOST_ATOMS) (nomark _)))))))
  (pss_one (ps_ret pe_bl))
  pss_nil)
  (pss_one (ps_ret (pe_callB (call_allM rfl) (by rfl) T.f_all (by decide +kernel) (pa_cons (pe_lc (own := [("atom", 1)]) (g := (gName 1)) (tt := tYes) rfl sc_is_join_conjunction.nd (pi_sq (pe_ix ix_M (pv 0) pe_int (fun _ _ => rfl))) (blkOk_by (own := [("atom", 1)]) (N := ["value", "atom"]) (sc := defScope s_is_join_conjunction) (by decide +kernel)) (fun _ _ _ _ _ => (pg_name (i := 1) sc_is_join_conjunction.nd rfl (Or.inl rfl))) (fun _ _ _ _ _ => pts_nil) (fun _ _ _ _ _ => (xe_call c_is_join_atom hr l_is_join_atom (pa_cons (pe_ix ix_M (pv 0) pe_int (fun _ _ => rfl)) (pa_cons (pv 1) pa_nil))))) pa_nil)))))

abbrev s_check_conjunction : Stmt := top 17
theorem sc_check_conjunction : FnScope ["conjunction"] ["conjunction"] (defScope s_check_conjunction) := ⟨rfl, rfl, rfl, by decide +kernel, rfl, by decide +kernel, by decide +kernel⟩
theorem b_check_conjunction : Plain "check_conjunction" s_check_conjunction ["conjunction"] := fun _ _ _ _ _ _ us hl => match us, hl with | [_], _ => rfl
def t_check_conjunction (K : PySem.W.Frag) (sp_is_join_conjunction : Sp) (E : XK) : TS := (tIfS (tNot (tB (tFn sp_is_join_conjunction (tCons (tVar 0) tNil)))) (tRaiseO (He.ga K "InvalidConjunction") "given" (fun cls d _ H2 => E cls d H2) (tVar 0)) tNext)
theorem d_check_conjunction {P : Program} {w : World} {K : PySem.W.Frag} {mg : Str → Option Value} {base : Heap} {k : Nat} {k_is_join_conjunction : Nat} {sp_is_join_conjunction : Sp} {k_e : Nat} (T : Top K w mg) (c_is_join_conjunction : Cal P w K mg base k_is_join_conjunction "is_join_conjunction" ["value"] sp_is_join_conjunction) (l_is_join_conjunction : k_is_join_conjunction ≤ k) (e_InvalidConjunction : ExcO P w K mg base k_e "InvalidConjunction" "given" (He.ga K "InvalidConjunction")) (l_e : k_e + 1 ≤ k) {f : Addr} {cdv : Value} {A : Around} {outer : List Env} {s : Shared} {H : Hp} {E : XK} (hr : Room k (A.deeper (envOfC "check_conjunction" (defScope s_check_conjunction) s.heap.objs.size f cdv))) : PSs (cxOf (L2.CX P w) P w K mg base ["conjunction"] "check_conjunction" (defScope s_check_conjunction) f cdv A outer s H E) (defBody s_check_conjunction) (t_check_conjunction K sp_is_join_conjunction E) := by
  have tk : Takes (cxOf (L2.CX P w) P w K mg base ["conjunction"] "check_conjunction" (defScope s_check_conjunction) f cdv A outer s H E) (fun cls d _ H2 => E cls d H2) := takes_of rfl rfl rfl rfl
  exact (pss_one (ps_if (pt_not (pt_val (xe_call c_is_join_conjunction hr l_is_join_conjunction (pa_cons (pv 0) pa_nil))))
  (pss_one (ps_raiseO rfl tk e_InvalidConjunction hr l_e (pv 0)))
  pss_nil))

abbrev s_variables_left : Stmt := top 18
theorem sc_variables_left : FnScope ["atoms", "left", "found", "index", "others", "other", "x"] ["atoms", "left"] (defScope s_variables_left) := ⟨rfl, rfl, rfl, by decide +kernel, rfl, by decide +kernel, by decide +kernel⟩
theorem b_variables_left : Plain "variables_left" s_variables_left ["atoms", "left"] := fun _ _ _ _ _ _ us hl => match us, hl with | [_, _], _ => rfl
def t_variables_left (K : PySem.W.Frag) : TS := (tSeq (tAsg tDNewK (gName 2)) (tSeq (tFor (iSq K (tVar 1)) (gName 3) (tSeq (tAsg (tLc2 (iSq K (tVar 1)) (gName 5) (tTest (tOp rNeM (tVar 5) (tVar 3))) (iSq K (tOp rIxM (tOp rIxM (tVar 0) (tVar 5)) (tC (.int 2)))) (gName 6) tYes (tVar 6) [5, 6] [6]) (gName 4)) (tAsg (tLc (iSq K (tOp rIxM (tOp rIxM (tVar 0) (tVar 3)) (tC (.int 2)))) (gName 6) (tTest (tOp (rInM false) (tVar 6) (tVar 4))) (tVar 6) [6]) (gSub (tVar 2) (tVar 3) rSetDM)))) (tRet (tVar 2))))
theorem d_variables_left {P : Program} {w : World} {K : PySem.W.Frag} {mg : Str → Option Value} {base : Heap} {k : Nat} (T : Top K w mg) {f : Addr} {cdv : Value} {A : Around} {outer : List Env} {s : Shared} {H : Hp} {E : XK} (hr : Room k (A.deeper (envOfC "variables_left" (defScope s_variables_left) s.heap.objs.size f cdv))) : PSs (cxN P w K mg base ["atoms", "left", "found", "index", "others", "other", "x"] "variables_left" (defScope s_variables_left) f cdv A outer s H E) (defBody s_variables_left) (t_variables_left K) :=
  (pss_cons (ps_set (i := 2) sc_variables_left.nd rfl (.inl rfl) pe_dnewK)
  (pss_cons (ps_for PassesOwn.never rfl (pi_sq (pv 1)) (pg_name (i := 3) sc_variables_left.nd rfl (.inr rfl))
  (pss_cons (ps_set (i := 4) sc_variables_left.nd rfl (.inr rfl) (pe_lc2 (own := [("other", 5), ("x", 6)]) (vs1 := [6]) (g := (gName 5)) (tt := (tTest (tOp rNeM (tVar 5) (tVar 3)))) (g1 := (gName 6)) (tt1 := tYes) rfl sc_variables_left.nd (pi_sq (pv 1)) (blkOk_by (own := [("other", 5), ("x", 6)]) (N := ["atoms", "left", "found", "index", "others", "other", "x"]) (sc := defScope s_variables_left) (by decide +kernel)) (by decide) (fun _ _ _ _ _ => (pg_name (i := 5) sc_variables_left.nd rfl (Or.inl rfl))) (fun _ _ _ _ _ => (pts_one (pt_cmpR op_neM (pv 5) (pv 3) (nomark _)))) (fun _ _ _ _ _ => (pi_sq (pe_ix ix_M (pe_ix ix_M (pv 0) (pv 5) (fun _ _ => rfl)) pe_int (fun _ _ => rfl)))) (fun _ _ _ _ _ => (pg_name (i := 6) sc_variables_left.nd rfl (Or.inl rfl))) (fun _ _ _ _ _ => pts_nil) (fun _ _ _ _ _ => (pv 6))))
  (pss_one (ps_asg (pe_lc (own := [("x", 6)]) (g := (gName 6)) (tt := (tTest (tOp (rInM false) (tVar 6) (tVar 4)))) rfl sc_variables_left.nd (pi_sq (pe_ix ix_M (pe_ix ix_M (pv 0) (pv 3) (fun _ _ => rfl)) pe_int (fun _ _ => rfl))) (blkOk_by (own := [("x", 6)]) (N := ["atoms", "left", "found", "index", "others", "other", "x"]) (sc := defScope s_variables_left) (by decide +kernel)) (fun _ _ _ _ _ => (pg_name (i := 6) sc_variables_left.nd rfl (Or.inl rfl))) (fun _ _ _ _ _ => (pts_one (pt_cmpR op_inM (pv 6) (pv 4) (by rfl)))) (fun _ _ _ _ _ => (pv 6))) (pg_sub (pv 2) (pv 3) (set_dictM (ru1 hr)))))))
  (pss_one (ps_ret (pv 2)))))

abbrev s_next_out : Stmt := top 19
theorem sc_next_out : FnScope ["atoms", "left", "kept", "shared", "index", "other", "x"] ["atoms", "left", "kept"] (defScope s_next_out) := ⟨rfl, rfl, rfl, by decide +kernel, rfl, by decide +kernel, by decide +kernel⟩
theorem b_next_out : Plain "next_out" s_next_out ["atoms", "left", "kept"] := fun _ _ _ _ _ _ us hl => match us, hl with | [_, _, _], _ => rfl
def t_next_out (K : PySem.W.Frag) (sp_variables_left : Sp) : TS := (tSeq (tAsg (tFn sp_variables_left (tCons (tVar 0) (tCons (tVar 1) tNil))) (gName 3)) (tSeq (tFor (iSq K (tVar 1)) (gName 4) (tFor (iSq K (tVar 1)) (gName 5) (tIfS (tAnd (tTest (tOp rNeM (tVar 5) (tVar 4))) (tAnd (tTest (tOp (rInM true) (tVar 4) (tVar 2))) (tB (tCB (rAllM fun bs => bs.all id) (tCons (tLc (iSq K (tDGet (tVar 3) (tVar 4))) (gName 6) tYes (tOp (rInM false) (tVar 6) (tOp rIxM (tOp rIxM (tVar 0) (tVar 5)) (tC (.int 2)))) [6]) tNil))))) (tRet (tTup (tCons (tVar 4) (tCons (tVar 5) tNil)))) tNext))) (tRet (tC .non))))
theorem d_next_out {P : Program} {w : World} {K : PySem.W.Frag} {mg : Str → Option Value} {base : Heap} {k : Nat} {k_variables_left : Nat} {sp_variables_left : Sp} (T : Top K w mg) (c_variables_left : Cal P w K mg base k_variables_left "variables_left" ["atoms", "left"] sp_variables_left) (l_variables_left : k_variables_left ≤ k) {f : Addr} {cdv : Value} {A : Around} {outer : List Env} {s : Shared} {H : Hp} {E : XK} (hr : Room k (A.deeper (envOfC "next_out" (defScope s_next_out) s.heap.objs.size f cdv))) : PSs (cxN P w K mg base ["atoms", "left", "kept", "shared", "index", "other", "x"] "next_out" (defScope s_next_out) f cdv A outer s H E) (defBody s_next_out) (t_next_out K sp_variables_left) :=
  (pss_cons (ps_set (i := 3) sc_next_out.nd rfl (.inl rfl) (xe_call c_variables_left hr l_variables_left (pa_cons (pv 0) (pa_cons (pv 1) pa_nil))))
  (pss_cons (ps_for PassesOwn.never rfl (pi_sq (pv 1)) (pg_name (i := 4) sc_next_out.nd rfl (.inl rfl))
  (pss_one (ps_for PassesOwn.never rfl (pi_sq (pv 1)) (pg_name (i := 5) sc_next_out.nd rfl (.inr rfl))
  (pss_one (ps_if (PW.pt (pw_and (pt_cmpR op_neM (pv 5) (pv 4) (nomark _)) (pw_and (pt_cmpR op_notInM (pv 4) (pv 2) (by rfl)) (pw_and1 (pt_val (pe_callB (call_allM rfl) (by rfl) T.f_all (by decide +kernel) (pa_cons (pe_lc (own := [("x", 6)]) (g := (gName 6)) (tt := tYes) rfl sc_next_out.nd (pi_sq (pe_dget (ru1 hr) (pv 3) (pv 4) (fun _ _ => rfl))) (blkOk_by (own := [("x", 6)]) (N := ["atoms", "left", "kept", "shared", "index", "other", "x"]) (sc := defScope s_next_out) (by decide +kernel)) (fun _ _ _ _ _ => (pg_name (i := 6) sc_next_out.nd rfl (Or.inl rfl))) (fun _ _ _ _ _ => pts_nil) (fun _ _ _ _ _ => (pe_cmpR op_inM (pv 6) (pe_ix ix_M (pe_ix ix_M (pv 0) (pv 5) (fun _ _ => rfl)) pe_int (fun _ _ => rfl)) (by rfl)))) pa_nil)))))))
  (pss_one (ps_ret (pe_tup (pa_cons (pv 4) (pa_cons (pv 5) pa_nil)))))
  pss_nil)))))
  (pss_one (ps_ret pe_non))))

abbrev s_struck_out : Stmt := top 20
theorem sc_struck_out : FnScope ["atoms", "kept", "left", "tree", "pair", "index"] ["atoms", "kept"] (defScope s_struck_out) := ⟨rfl, rfl, rfl, by decide +kernel, rfl, by decide +kernel, by decide +kernel⟩
theorem b_struck_out : Plain "struck_out" s_struck_out ["atoms", "kept"] := fun _ _ _ _ _ _ us hl => match us, hl with | [_, _], _ => rfl
def t_struck_out (K : PySem.W.Frag) (sp_next_out : Sp) : TS := (tSeq (tPar 2 3 (tCons (tLstRg (tRg1 (tCB rLenM (tCons (tVar 0) tNil)))) (tCons (tLst tNil) tNil))) (tSeq (tAsg (tFn sp_next_out (tCons (tVar 0) (tCons (tVar 2) (tCons (tVar 1) tNil)))) (gName 4)) (tSeq (tWhile (tB (tNotN (tVar 4))) (tSeq (tDrop (tBM K "list" rAppendM (tVar 3) (tCons (tVar 4) tNil))) (tSeq (tAsg (tLc (iSq K (tVar 2)) (gName 5) (tTest (tOp rNeM (tVar 5) (tOp rIxM (tVar 4) (tC (.int 0))))) (tVar 5) [5]) (gName 2)) (tAsg (tFn sp_next_out (tCons (tVar 0) (tCons (tVar 2) (tCons (tVar 1) tNil)))) (gName 4))))) (tRet (tTup (tCons (tVar 3) (tCons (tVar 2) tNil)))))))
theorem d_struck_out {P : Program} {w : World} {K : PySem.W.Frag} {mg : Str → Option Value} {base : Heap} {k : Nat} {k_next_out : Nat} {sp_next_out : Sp} (T : Top K w mg) (c_next_out : Cal P w K mg base k_next_out "next_out" ["atoms", "left", "kept"] sp_next_out) (l_next_out : k_next_out ≤ k) {f : Addr} {cdv : Value} {A : Around} {outer : List Env} {s : Shared} {H : Hp} {E : XK} (hr : Room k (A.deeper (envOfC "struck_out" (defScope s_struck_out) s.heap.objs.size f cdv))) : PSs (cxN P w K mg base ["atoms", "kept", "left", "tree", "pair", "index"] "struck_out" (defScope s_struck_out) f cdv A outer s H E) (defBody s_struck_out) (t_struck_out K sp_next_out) :=
  (pss_cons (ps_par (i := 2) (j := 3) rfl sc_struck_out.nd rfl rfl (by decide) rfl rfl (pa_cons (pe_listRg rfl (by rfl) T.f_list (prg_1 (by rfl) T.f_range (pe_callB call_lenM (by rfl) T.f_len (by decide +kernel) (pa_cons (pv 0) pa_nil)))) (pa_cons (pe_lst pa_nil) pa_nil)) (by rfl))
  (pss_cons (ps_set (i := 4) sc_struck_out.nd rfl (.inr rfl) (xe_call c_next_out hr l_next_out (pa_cons (pv 0) (pa_cons (pv 2) (pa_cons (pv 1) pa_nil)))))
  (pss_cons (ps_while PassesOwn.never (pt_cmp (pc_notN (pv 4)))
  (pss_cons (ps_expr (pe_bm PySem.F.plainAttrs_list PySem.F.slot_list_append PySem.F.type_list_append mt_appendM (pv 3) (pa_cons (pv 4) pa_nil)))
  (pss_cons (ps_setLc (i := 2) (own := [("index", 5)]) (g := (gName 5)) (tt := (tTest (tOp rNeM (tVar 5) (tOp rIxM (tVar 4) (tC (.int 0)))))) rfl sc_struck_out.nd rfl rfl (sw_true rfl rfl rfl (by decide +kernel)) (pi_sq (pv 2)) (blkOk_by (own := [("index", 5)]) (N := ["atoms", "kept", "left", "tree", "pair", "index"]) (sc := defScope s_struck_out) (by decide +kernel)) (fun _ _ _ _ _ => (pg_name (i := 5) sc_struck_out.nd rfl (Or.inl rfl))) (fun _ _ _ _ _ => (pts_one (pt_cmpR op_neM (pv 5) (pe_ix ix_M (pv 4) pe_int (fun _ _ => rfl)) (nomark _)))) (fun _ _ _ _ _ => (pv 5)))
  (pss_one (ps_set (i := 4) sc_struck_out.nd rfl (.inr rfl) (xe_call c_next_out hr l_next_out (pa_cons (pv 0) (pa_cons (pv 2) (pa_cons (pv 1) pa_nil)))))))))
  (pss_one (ps_ret (pe_tup (pa_cons (pv 3) (pa_cons (pv 2) pa_nil))))))))

end K44
set_option Elab.async false
set_option linter.all false
set_option maxRecDepth 100000
set_option maxHeartbeats 4000000
namespace K44
open PySem PySem.Spec PyProof.Rows L2 MT
open SX (S)
abbrev s_join_tree : Stmt := top 21
theorem sc_join_tree : FnScope ["conjunction", "tree", "left"] ["conjunction"] (defScope s_join_tree) := ⟨rfl, rfl, rfl, by decide +kernel, rfl, by decide +kernel, by decide +kernel⟩
theorem b_join_tree : Plain "join_tree" s_join_tree ["conjunction"] := fun _ _ _ _ _ _ us hl => match us, hl with | [_], _ => rfl
def t_join_tree (K : PySem.W.Frag) (sp_check_conjunction : Sp) (sp_struck_out : Sp) (E : XK) : TS := (tSeq (tDrop (tFnX sp_check_conjunction (fun cls d _ H2 => E cls d H2) (tCons (tVar 0) tNil))) (tSeq (tAsg (tFn sp_struck_out (tCons (tOp rIxM (tVar 0) (tC (.int 1))) (tCons (tLst tNil) tNil))) (gTup K 2 (gCons (gName 1) (gCons (gName 2) gNil)))) (tRet (tIf (tTest (tOp (rI0 fun i j => .bl (decide (i ≤ j))) (tCB rLenM (tCons (tVar 2) tNil)) (tC (.int 1)))) (tTup (tCons (tC (.str (S [116, 114, 101, 101]))) (tCons (tCB rSortPM (tCons (tVar 1) tNil)) tNil))) (tTup (tCons (tC (.str (S [114, 105, 110, 103]))) (tCons (tVar 2) tNil)))))))
theorem d_join_tree {P : Program} {w : World} {K : PySem.W.Frag} {mg : Str → Option Value} {base : Heap} {k : Nat} {k_check_conjunction : Nat} {sp_check_conjunction : Sp} {k_struck_out : Nat} {sp_struck_out : Sp} (T : Top K w mg) (c_check_conjunction : Cal P w K mg base k_check_conjunction "check_conjunction" ["conjunction"] sp_check_conjunction) (l_check_conjunction : k_check_conjunction ≤ k) (c_struck_out : Cal P w K mg base k_struck_out "struck_out" ["atoms", "kept"] sp_struck_out) (l_struck_out : k_struck_out ≤ k) {f : Addr} {cdv : Value} {A : Around} {outer : List Env} {s : Shared} {H : Hp} {E : XK} (hr : Room k (A.deeper (envOfC "join_tree" (defScope s_join_tree) s.heap.objs.size f cdv))) : PSs (cxOf (L2.CX P w) P w K mg base ["conjunction", "tree", "left"] "join_tree" (defScope s_join_tree) f cdv A outer s H E) (defBody s_join_tree) (t_join_tree K sp_check_conjunction sp_struck_out E) := by
  have tk : Takes (cxOf (L2.CX P w) P w K mg base ["conjunction", "tree", "left"] "join_tree" (defScope s_join_tree) f cdv A outer s H E) (fun cls d _ H2 => E cls d H2) := takes_of rfl rfl rfl rfl
  exact (pss_cons (ps_expr (xe_callX c_check_conjunction hr l_check_conjunction (fun σ => passes_call tk fun _ _ _ _ h => h) (pa_cons (pv 0) pa_nil)))
  (pss_cons (ps_asg (xe_call c_struck_out hr l_struck_out (pa_cons (pe_ix ix_M (pv 0) pe_int (fun _ _ => rfl)) (pa_cons (pe_lst pa_nil) pa_nil))) (pg_tup rfl (pgs_cons (pg_name (i := 1) sc_join_tree.nd rfl (.inl rfl)) (pgs_cons (pg_name (i := 2) sc_join_tree.nd rfl (.inl rfl)) pgs_nil))))
  (pss_one (ps_ret (pe_ifExp (pt_cmpR op_le (pe_callB call_lenM (by rfl) T.f_len (by decide +kernel) (pa_cons (pv 2) pa_nil)) pe_int (nomark _)) (pe_tup (pa_cons (xe_str (by decide +kernel)) (pa_cons (pe_callB call_sortPM (by rfl) T.f_sorted (by decide +kernel) (pa_cons (pv 1) pa_nil)) pa_nil))) (pe_tup (pa_cons (xe_str (by decide +kernel)) (pa_cons (pv 2) pa_nil))))))))

abbrev s_is_ring : Stmt := top 22
theorem sc_is_ring : FnScope ["conjunction", "value", "many", "index"] ["conjunction", "value"] (defScope s_is_ring) := ⟨rfl, rfl, rfl, by decide +kernel, rfl, by decide +kernel, by decide +kernel⟩
theorem b_is_ring : Plain "is_ring" s_is_ring ["conjunction", "value"] := fun _ _ _ _ _ _ us hl => match us, hl with | [_, _], _ => rfl
def t_is_ring (K : PySem.W.Frag) (sp_check_conjunction : Sp) (sp_is_list : Sp) (sp_is_between : Sp) (sp_ascends : Sp) (sp_struck_out : Sp) (sp_next_out : Sp) (E : XK) : TS := (tSeq (tDrop (tFnX sp_check_conjunction (fun cls d _ H2 => E cls d H2) (tCons (tVar 0) tNil))) (tSeq (tAsg (tCB rLenM (tCons (tOp rIxM (tVar 0) (tC (.int 1))) tNil)) (gName 2)) (tSeq (tIfS (tOr (tNot (tB (tFn sp_is_list (tCons (tVar 1) tNil)))) (tOr (tTest (tOp (rI0 fun i j => .bl (decide (i < j))) (tCB rLenM (tCons (tVar 1) tNil)) (tC (.int 3)))) (tNot (tB (tCB (rAllM fun bs => bs.all id) (tCons (tLc (iSq K (tVar 1)) (gName 3) tYes (tFn sp_is_between (tCons (tVar 3) (tCons (tC (.int 0)) (tCons (tOp (rI0 fun i j => .int (i - j)) (tVar 2) (tC (.int 1))) tNil)))) [3]) tNil)))))) (tRet (tC (.bl false))) tNext) (tSeq (tIfS (tOr (tNot (tB (tFn sp_ascends (tCons (tCB rListM (tCons (tVar 1) tNil)) tNil)))) (tTest (tOp (rNeI true) (tOp rIxM (tFn sp_struck_out (tCons (tOp rIxM (tVar 0) (tC (.int 1))) (tCons (tVar 1) tNil))) (tC (.int 1))) (tCB rListM (tCons (tVar 1) tNil))))) (tRet (tC (.bl false))) tNext) (tRet (tIsN (tFn sp_next_out (tCons (tOp rIxM (tVar 0) (tC (.int 1))) (tCons (tCB rListM (tCons (tVar 1) tNil)) (tCons (tLst tNil) tNil))))))))))
theorem d_is_ring {P : Program} {w : World} {K : PySem.W.Frag} {mg : Str → Option Value} {base : Heap} {k : Nat} {k_check_conjunction : Nat} {sp_check_conjunction : Sp} {k_is_list : Nat} {sp_is_list : Sp} {k_is_between : Nat} {sp_is_between : Sp} {k_ascends : Nat} {sp_ascends : Sp} {k_struck_out : Nat} {sp_struck_out : Sp} {k_next_out : Nat} {sp_next_out : Sp} (T : Top K w mg) (c_check_conjunction : Cal P w K mg base k_check_conjunction "check_conjunction" ["conjunction"] sp_check_conjunction) (l_check_conjunction : k_check_conjunction ≤ k) (c_is_list : Cal P w K mg base k_is_list "is_list" ["value"] sp_is_list) (l_is_list : k_is_list ≤ k) (c_is_between : Cal P w K mg base k_is_between "is_between" ["value", "least", "most"] sp_is_between) (l_is_between : k_is_between ≤ k) (c_ascends : Cal P w K mg base k_ascends "ascends" ["items"] sp_ascends) (l_ascends : k_ascends ≤ k) (c_struck_out : Cal P w K mg base k_struck_out "struck_out" ["atoms", "kept"] sp_struck_out) (l_struck_out : k_struck_out ≤ k) (c_next_out : Cal P w K mg base k_next_out "next_out" ["atoms", "left", "kept"] sp_next_out) (l_next_out : k_next_out ≤ k) {f : Addr} {cdv : Value} {A : Around} {outer : List Env} {s : Shared} {H : Hp} {E : XK} (hr : Room k (A.deeper (envOfC "is_ring" (defScope s_is_ring) s.heap.objs.size f cdv))) : PSs (cxOf (L2.CX P w) P w K mg base ["conjunction", "value", "many", "index"] "is_ring" (defScope s_is_ring) f cdv A outer s H E) (defBody s_is_ring) (t_is_ring K sp_check_conjunction sp_is_list sp_is_between sp_ascends sp_struck_out sp_next_out E) := by
  have tk : Takes (cxOf (L2.CX P w) P w K mg base ["conjunction", "value", "many", "index"] "is_ring" (defScope s_is_ring) f cdv A outer s H E) (fun cls d _ H2 => E cls d H2) := takes_of rfl rfl rfl rfl
  exact (pss_cons (ps_expr (xe_callX c_check_conjunction hr l_check_conjunction (fun σ => passes_call tk fun _ _ _ _ h => h) (pa_cons (pv 0) pa_nil)))
  (pss_cons (ps_set (i := 2) sc_is_ring.nd rfl (.inr rfl) (pe_callB call_lenM (by rfl) T.f_len (by decide +kernel) (pa_cons (pe_ix ix_M (pv 0) pe_int (fun _ _ => rfl)) pa_nil)))
  (pss_cons (ps_if (PW.pt (pw_or (pt_not (pt_val (xe_call c_is_list hr l_is_list (pa_cons (pv 1) pa_nil)))) (pw_or (pt_cmpR op_lt (pe_callB call_lenM (by rfl) T.f_len (by decide +kernel) (pa_cons (pv 1) pa_nil)) pe_int (nomark _)) (pw_or1 (pt_not (pt_val (pe_callB (call_allM rfl) (by rfl) T.f_all (by decide +kernel) (pa_cons (pe_lc (own := [("index", 3)]) (g := (gName 3)) (tt := tYes) rfl sc_is_ring.nd (pi_sq (pv 1)) (blkOk_by (own := [("index", 3)]) (N := ["conjunction", "value", "many", "index"]) (sc := defScope s_is_ring) (by decide +kernel)) (fun _ _ _ _ _ => (pg_name (i := 3) sc_is_ring.nd rfl (Or.inl rfl))) (fun _ _ _ _ _ => pts_nil) (fun _ _ _ _ _ => (xe_call c_is_between hr l_is_between (pa_cons (pv 3) (pa_cons pe_int (pa_cons (pe_op op_sub (pv 2) pe_int) pa_nil)))))) pa_nil))))))))
  (pss_one (ps_ret pe_bl))
  pss_nil)
  (pss_cons (ps_if (PW.pt (pw_or (pt_not (pt_val (xe_call c_ascends hr l_ascends (pa_cons (pe_callTy call_listM (by rfl) T.f_list (by decide +kernel) (pa_cons (pv 1) pa_nil)) pa_nil)))) (pw_or1 (pt_cmpR (op_neI hr.units) (pe_ix ix_M (xe_call c_struck_out hr l_struck_out (pa_cons (pe_ix ix_M (pv 0) pe_int (fun _ _ => rfl)) (pa_cons (pv 1) pa_nil))) pe_int (fun _ _ => rfl)) (pe_callTy call_listM (by rfl) T.f_list (by decide +kernel) (pa_cons (pv 1) pa_nil)) (nomark _)))))
  (pss_one (ps_ret pe_bl))
  pss_nil)
  (pss_one (ps_ret (pe_cmp (pc_isN (xe_call c_next_out hr l_next_out (pa_cons (pe_ix ix_M (pv 0) pe_int (fun _ _ => rfl)) (pa_cons (pe_callTy call_listM (by rfl) T.f_list (by decide +kernel) (pa_cons (pv 1) pa_nil)) (pa_cons (pe_lst pa_nil) pa_nil))))))))))))

abbrev s_are_links : Stmt := top 23
theorem sc_are_links : FnScope ["many", "value", "pair", "index"] ["many", "value"] (defScope s_are_links) := ⟨rfl, rfl, rfl, by decide +kernel, rfl, by decide +kernel, by decide +kernel⟩
theorem b_are_links : Plain "are_links" s_are_links ["many", "value"] := fun _ _ _ _ _ _ us hl => match us, hl with | [_, _], _ => rfl
def t_are_links (K : PySem.W.Frag) (sp_is_list : Sp) (sp_is_tuple_of : Sp) (sp_is_between : Sp) (sp_ascends : Sp) : TS := (tSeq (tIfS (tOr (tNot (tB (tFn sp_is_list (tCons (tVar 1) tNil)))) (tNot (tB (tCB (rAllM fun bs => bs.all id) (tCons (tLc (iSq K (tVar 1)) (gName 2) tYes (tFn sp_is_tuple_of (tCons (tVar 2) (tCons (tC (.int 2)) tNil))) [2]) tNil))))) (tRet (tC (.bl false))) tNext) (tSeq (tIfS (tNot (tB (tCB (rAllM fun bs => bs.all id) (tCons (tLc2 (iSq K (tVar 1)) (gName 2) tYes (iSq K (tVar 2)) (gName 3) tYes (tFn sp_is_between (tCons (tVar 3) (tCons (tC (.int 0)) (tCons (tOp (rI0 fun i j => .int (i - j)) (tVar 0) (tC (.int 1))) tNil)))) [2, 3] [3]) tNil)))) (tRet (tC (.bl false))) tNext) (tRet (tFn sp_ascends (tCons (tLc (iSq K (tVar 1)) (gName 2) tYes (tOp rIxM (tVar 2) (tC (.int 0))) [2]) tNil)))))
theorem d_are_links {P : Program} {w : World} {K : PySem.W.Frag} {mg : Str → Option Value} {base : Heap} {k : Nat} {k_is_list : Nat} {sp_is_list : Sp} {k_is_tuple_of : Nat} {sp_is_tuple_of : Sp} {k_is_between : Nat} {sp_is_between : Sp} {k_ascends : Nat} {sp_ascends : Sp} (T : Top K w mg) (c_is_list : Cal P w K mg base k_is_list "is_list" ["value"] sp_is_list) (l_is_list : k_is_list ≤ k) (c_is_tuple_of : Cal P w K mg base k_is_tuple_of "is_tuple_of" ["value", "many"] sp_is_tuple_of) (l_is_tuple_of : k_is_tuple_of ≤ k) (c_is_between : Cal P w K mg base k_is_between "is_between" ["value", "least", "most"] sp_is_between) (l_is_between : k_is_between ≤ k) (c_ascends : Cal P w K mg base k_ascends "ascends" ["items"] sp_ascends) (l_ascends : k_ascends ≤ k) {f : Addr} {cdv : Value} {A : Around} {outer : List Env} {s : Shared} {H : Hp} {E : XK} (hr : Room k (A.deeper (envOfC "are_links" (defScope s_are_links) s.heap.objs.size f cdv))) : PSs (cxN P w K mg base ["many", "value", "pair", "index"] "are_links" (defScope s_are_links) f cdv A outer s H E) (defBody s_are_links) (t_are_links K sp_is_list sp_is_tuple_of sp_is_between sp_ascends) :=
  (pss_cons (ps_if (PW.pt (pw_or (pt_not (pt_val (xe_call c_is_list hr l_is_list (pa_cons (pv 1) pa_nil)))) (pw_or1 (pt_not (pt_val (pe_callB (call_allM rfl) (by rfl) T.f_all (by decide +kernel) (pa_cons (pe_lc (own := [("pair", 2)]) (g := (gName 2)) (tt := tYes) rfl sc_are_links.nd (pi_sq (pv 1)) (blkOk_by (own := [("pair", 2)]) (N := ["many", "value", "pair", "index"]) (sc := defScope s_are_links) (by decide +kernel)) (fun _ _ _ _ _ => (pg_name (i := 2) sc_are_links.nd rfl (Or.inl rfl))) (fun _ _ _ _ _ => pts_nil) (fun _ _ _ _ _ => (xe_call c_is_tuple_of hr l_is_tuple_of (pa_cons (pv 2) (pa_cons pe_int pa_nil))))) pa_nil)))))))
  (pss_one (ps_ret pe_bl))
  pss_nil)
  (pss_cons (ps_if (pt_not (pt_val (pe_callB (call_allM rfl) (by rfl) T.f_all (by decide +kernel) (pa_cons (pe_lc2 (own := [("pair", 2), ("index", 3)]) (vs1 := [3]) (g := (gName 2)) (tt := tYes) (g1 := (gName 3)) (tt1 := tYes) rfl sc_are_links.nd (pi_sq (pv 1)) (blkOk_by (own := [("pair", 2), ("index", 3)]) (N := ["many", "value", "pair", "index"]) (sc := defScope s_are_links) (by decide +kernel)) (by decide) (fun _ _ _ _ _ => (pg_name (i := 2) sc_are_links.nd rfl (Or.inl rfl))) (fun _ _ _ _ _ => pts_nil) (fun _ _ _ _ _ => (pi_sq (pv 2))) (fun _ _ _ _ _ => (pg_name (i := 3) sc_are_links.nd rfl (Or.inl rfl))) (fun _ _ _ _ _ => pts_nil) (fun _ _ _ _ _ => (xe_call c_is_between hr l_is_between (pa_cons (pv 3) (pa_cons pe_int (pa_cons (pe_op op_sub (pv 0) pe_int) pa_nil)))))) pa_nil))))
  (pss_one (ps_ret pe_bl))
  pss_nil)
  (pss_one (ps_ret (xe_call c_ascends hr l_ascends (pa_cons (pe_lc (own := [("pair", 2)]) (g := (gName 2)) (tt := tYes) rfl sc_are_links.nd (pi_sq (pv 1)) (blkOk_by (own := [("pair", 2)]) (N := ["many", "value", "pair", "index"]) (sc := defScope s_are_links) (by decide +kernel)) (fun _ _ _ _ _ => (pg_name (i := 2) sc_are_links.nd rfl (Or.inl rfl))) (fun _ _ _ _ _ => pts_nil) (fun _ _ _ _ _ => (pe_ix ix_M (pv 2) pe_int (fun _ _ => rfl)))) pa_nil))))))

abbrev s_way_up : Stmt := top 24
theorem sc_way_up : FnScope ["parents", "index", "found"] ["parents", "index"] (defScope s_way_up) := ⟨rfl, rfl, rfl, by decide +kernel, rfl, by decide +kernel, by decide +kernel⟩
theorem b_way_up : Plain "way_up" s_way_up ["parents", "index"] := fun _ _ _ _ _ _ us hl => match us, hl with | [_, _], _ => rfl
def t_way_up (K : PySem.W.Frag) : TS := (tSeq (tAsg (tLst (tCons (tVar 1) tNil)) (gName 2)) (tSeq (tWhile (tAnd (tB (tDIn (tOp rIxM (tVar 2) (tUn (rU fun i => .int (-i)) (tC (.int 1)))) (tVar 0))) (tTest (tOp (rI0 fun i j => .bl (decide (i ≤ j))) (tCB rLenM (tCons (tVar 2) tNil)) (tOp rAddM (tCB rLenM2 (tCons (tVar 0) tNil)) (tC (.int 1)))))) (tDrop (tBM K "list" rAppendM (tVar 2) (tCons (tDGet (tVar 0) (tOp rIxM (tVar 2) (tUn (rU fun i => .int (-i)) (tC (.int 1))))) tNil)))) (tRet (tVar 2))))
theorem d_way_up {P : Program} {w : World} {K : PySem.W.Frag} {mg : Str → Option Value} {base : Heap} {k : Nat} (T : Top K w mg) {f : Addr} {cdv : Value} {A : Around} {outer : List Env} {s : Shared} {H : Hp} {E : XK} (hr : Room k (A.deeper (envOfC "way_up" (defScope s_way_up) s.heap.objs.size f cdv))) : PSs (cxN P w K mg base ["parents", "index", "found"] "way_up" (defScope s_way_up) f cdv A outer s H E) (defBody s_way_up) (t_way_up K) :=
  (pss_cons (ps_set (i := 2) sc_way_up.nd rfl (.inl rfl) (pe_lst (pa_cons (pv 1) pa_nil)))
  (pss_cons (ps_while PassesOwn.never (PW.pt (pw_and (pt_cmp (pc_din (ru1 hr) (pe_ix ix_M (pv 2) (pe_un un_neg pe_int) (fun _ _ => rfl)) (pv 0))) (pw_and1 (pt_cmpR op_le (pe_callB call_lenM (by rfl) T.f_len (by decide +kernel) (pa_cons (pv 2) pa_nil)) (pe_op op_addM (pe_callB call_lenM2 (by rfl) T.f_len (by decide +kernel) (pa_cons (pv 0) pa_nil)) pe_int) (nomark _)))))
  (pss_one (ps_expr (pe_bm PySem.F.plainAttrs_list PySem.F.slot_list_append PySem.F.type_list_append mt_appendM (pv 2) (pa_cons (pe_dget (ru1 hr) (pv 0) (pe_ix ix_M (pv 2) (pe_un un_neg pe_int) (fun _ _ => rfl)) (fun _ _ => rfl)) pa_nil)))))
  (pss_one (ps_ret (pv 2)))))

abbrev s_between : Stmt := top 25
theorem sc_between : FnScope ["parents", "one", "other", "first", "second", "shared", "index"] ["parents", "one", "other"] (defScope s_between) := ⟨rfl, rfl, rfl, by decide +kernel, rfl, by decide +kernel, by decide +kernel⟩
theorem b_between : Plain "between" s_between ["parents", "one", "other"] := fun _ _ _ _ _ _ us hl => match us, hl with | [_, _, _], _ => rfl
def t_between (K : PySem.W.Frag) (sp_way_up : Sp) : TS := (tSeq (tAsg (tTup (tCons (tFn sp_way_up (tCons (tVar 0) (tCons (tVar 1) tNil))) (tCons (tFn sp_way_up (tCons (tVar 0) (tCons (tVar 2) tNil))) tNil))) (gTup K 2 (gCons (gName 3) (gCons (gName 4) gNil)))) (tSeq (tAsg (tOp rIxM (tLc (iSq K (tVar 3)) (gName 6) (tTest (tOp (rInM false) (tVar 6) (tVar 4))) (tVar 6) [6]) (tC (.int 0))) (gName 5)) (tRet (tLst (StX.tStar K (tSl rSlM (tVar 3) tNoPart (tPart (tOp rAddM (tBM K "list" rIndexM (tVar 3) (tCons (tVar 5) tNil)) (tC (.int 1))))) (StX.tStar K (tSl rSlM (tVar 4) tNoPart (tPart (tBM K "list" rIndexM (tVar 4) (tCons (tVar 5) tNil)))) tNil))))))
theorem d_between {P : Program} {w : World} {K : PySem.W.Frag} {mg : Str → Option Value} {base : Heap} {k : Nat} {k_way_up : Nat} {sp_way_up : Sp} (T : Top K w mg) (c_way_up : Cal P w K mg base k_way_up "way_up" ["parents", "index"] sp_way_up) (l_way_up : k_way_up ≤ k) {f : Addr} {cdv : Value} {A : Around} {outer : List Env} {s : Shared} {H : Hp} {E : XK} (hr : Room k (A.deeper (envOfC "between" (defScope s_between) s.heap.objs.size f cdv))) : PSs (cxN P w K mg base ["parents", "one", "other", "first", "second", "shared", "index"] "between" (defScope s_between) f cdv A outer s H E) (defBody s_between) (t_between K sp_way_up) :=
  (pss_cons (ps_asg (pe_tup (pa_cons (xe_call c_way_up hr l_way_up (pa_cons (pv 0) (pa_cons (pv 1) pa_nil))) (pa_cons (xe_call c_way_up hr l_way_up (pa_cons (pv 0) (pa_cons (pv 2) pa_nil))) pa_nil))) (pg_tup rfl (pgs_cons (pg_name (i := 3) sc_between.nd rfl (.inl rfl)) (pgs_cons (pg_name (i := 4) sc_between.nd rfl (.inr rfl)) pgs_nil))))
  (pss_cons (ps_set (i := 5) sc_between.nd rfl (.inl rfl) (pe_ix ix_M (pe_lc (own := [("index", 6)]) (g := (gName 6)) (tt := (tTest (tOp (rInM false) (tVar 6) (tVar 4)))) rfl sc_between.nd (pi_sq (pv 3)) (blkOk_by (own := [("index", 6)]) (N := ["parents", "one", "other", "first", "second", "shared", "index"]) (sc := defScope s_between) (by decide +kernel)) (fun _ _ _ _ _ => (pg_name (i := 6) sc_between.nd rfl (Or.inl rfl))) (fun _ _ _ _ _ => (pts_one (pt_cmpR op_inM (pv 6) (pv 4) (by rfl)))) (fun _ _ _ _ _ => (pv 6))) pe_int (fun _ _ => rfl)))
  (pss_one (ps_ret (pe_lst (StX.pa_star (pe_slice sl_M (pv 3) po_none (po_some (pe_op op_addM (pe_bm PySem.F.plainAttrs_list PySem.F.slot_list_index PySem.F.type_list_index mt_indexM (pv 3) (pa_cons (pv 5) pa_nil)) pe_int))) (StX.pa_star (pe_slice sl_M (pv 4) po_none (po_some (pe_bm PySem.F.plainAttrs_list PySem.F.slot_list_index PySem.F.type_list_index mt_indexM (pv 4) (pa_cons (pv 5) pa_nil)))) pa_nil)))))))

abbrev s_is_tree_of : Stmt := top 27
theorem sc_is_tree_of : FnScope ["conjunction", "value", "many", "atoms", "parents", "child", "parent", "index", "x"] ["conjunction", "value"] (defScope s_is_tree_of) := ⟨rfl, rfl, rfl, by decide +kernel, rfl, by decide +kernel, by decide +kernel⟩
theorem b_is_tree_of : Plain "is_tree_of" s_is_tree_of ["conjunction", "value"] := fun _ _ _ _ _ _ us hl => match us, hl with | [_, _], _ => rfl
def t_is_tree_of (K : PySem.W.Frag) (sp_are_links : Sp) (sp_way_up : Sp) (sp_hangs_together : Sp) : TS := (tSeq (tAsg (tVar 0) (gTup K 2 (gCons (gName 2) (gCons (gName 3) gNil)))) (tSeq (tIfS (tOr (tNot (tB (tFn sp_are_links (tCons (tCB rLenM (tCons (tVar 3) tNil)) (tCons (tVar 1) tNil))))) (tTest (tOp rNeM (tCB rLenM (tCons (tVar 1) tNil)) (tCB rMaxM (tCons (tOp (rI0 fun i j => .int (i - j)) (tCB rLenM (tCons (tVar 3) tNil)) (tC (.int 1))) (tCons (tC (.int 0)) tNil)))))) (tRet (tC (.bl false))) tNext) (tSeq (tAsg (tDc (iSq K (tVar 1)) (gTup K 2 (gCons (gName 5) (gCons (gName 6) gNil))) tYes (tVar 5) (tVar 6) [5, 6]) (gName 4)) (tSeq (tIfS (tNot (tB (tCB (rAllM fun bs => bs.all id) (tCons (tLc (iRng1 (tCons (tCB rLenM (tCons (tVar 3) tNil)) tNil)) (gName 7) tYes (tOp (rI0 fun i j => .bl (decide (i ≤ j))) (tCB rLenM (tCons (tFn sp_way_up (tCons (tVar 4) (tCons (tVar 7) tNil))) tNil)) (tCB rLenM (tCons (tVar 3) tNil))) [7]) tNil)))) (tRet (tC (.bl false))) tNext) (tRet (tCB (rAllM fun bs => bs.all id) (tCons (tLc (iRng1 (tCons (tVar 2) tNil)) (gName 8) tYes (tFn sp_hangs_together (tCons (tVar 3) (tCons (tVar 4) (tCons (tVar 8) tNil)))) [8]) tNil)))))))
theorem d_is_tree_of {P : Program} {w : World} {K : PySem.W.Frag} {mg : Str → Option Value} {base : Heap} {k : Nat} {k_are_links : Nat} {sp_are_links : Sp} {k_way_up : Nat} {sp_way_up : Sp} {k_hangs_together : Nat} {sp_hangs_together : Sp} (T : Top K w mg) (c_are_links : Cal P w K mg base k_are_links "are_links" ["many", "value"] sp_are_links) (l_are_links : k_are_links ≤ k) (c_way_up : Cal P w K mg base k_way_up "way_up" ["parents", "index"] sp_way_up) (l_way_up : k_way_up ≤ k) (c_hangs_together : Cal P w K mg base k_hangs_together "hangs_together" ["atoms", "parents", "x"] sp_hangs_together) (l_hangs_together : k_hangs_together ≤ k) {f : Addr} {cdv : Value} {A : Around} {outer : List Env} {s : Shared} {H : Hp} {E : XK} (hr : Room k (A.deeper (envOfC "is_tree_of" (defScope s_is_tree_of) s.heap.objs.size f cdv))) : PSs (cxN P w K mg base ["conjunction", "value", "many", "atoms", "parents", "child", "parent", "index", "x"] "is_tree_of" (defScope s_is_tree_of) f cdv A outer s H E) (defBody s_is_tree_of) (t_is_tree_of K sp_are_links sp_way_up sp_hangs_together) :=
  (pss_cons (ps_asg (pv 0) (pg_tup rfl (pgs_cons (pg_name (i := 2) sc_is_tree_of.nd rfl (.inl rfl)) (pgs_cons (pg_name (i := 3) sc_is_tree_of.nd rfl (.inr rfl)) pgs_nil))))
  (pss_cons (ps_if (PW.pt (pw_or (pt_not (pt_val (xe_call c_are_links hr l_are_links (pa_cons (pe_callB call_lenM (by rfl) T.f_len (by decide +kernel) (pa_cons (pv 3) pa_nil)) (pa_cons (pv 1) pa_nil))))) (pw_or1 (pt_cmpR op_neM (pe_callB call_lenM (by rfl) T.f_len (by decide +kernel) (pa_cons (pv 1) pa_nil)) (pe_callB (call_maxM rfl) (by rfl) T.f_max (by decide +kernel) (pa_cons (pe_op op_sub (pe_callB call_lenM (by rfl) T.f_len (by decide +kernel) (pa_cons (pv 3) pa_nil)) pe_int) (pa_cons pe_int pa_nil))) (nomark _)))))
  (pss_one (ps_ret pe_bl))
  pss_nil)
  (pss_cons (ps_set (i := 4) sc_is_tree_of.nd rfl (.inr rfl) (pe_dc (own := [("child", 5), ("parent", 6)]) (g := (gTup K 2 (gCons (gName 5) (gCons (gName 6) gNil)))) (tt := tYes) rfl sc_is_tree_of.nd (pi_sq (pv 1)) (blkOk_by (own := [("child", 5), ("parent", 6)]) (N := ["conjunction", "value", "many", "atoms", "parents", "child", "parent", "index", "x"]) (sc := defScope s_is_tree_of) (by decide +kernel)) (fun _ _ _ _ _ => (pg_tup rfl (pgs_cons (pg_name (i := 5) sc_is_tree_of.nd rfl (.inl rfl)) (pgs_cons (pg_name (i := 6) sc_is_tree_of.nd rfl (.inl rfl)) pgs_nil)))) (fun _ _ _ _ _ => pts_nil) (fun _ _ _ _ _ => (pv 5)) (fun _ _ _ _ _ => (pv 6))))
  (pss_cons (ps_if (pt_not (pt_val (pe_callB (call_allM rfl) (by rfl) T.f_all (by decide +kernel) (pa_cons (pe_lc (own := [("index", 7)]) (g := (gName 7)) (tt := tYes) rfl sc_is_tree_of.nd (pi_range1 (by rfl) T.f_range (pa_cons (pe_callB call_lenM (by rfl) T.f_len (by decide +kernel) (pa_cons (pv 3) pa_nil)) pa_nil)) (blkOk_by (own := [("index", 7)]) (N := ["conjunction", "value", "many", "atoms", "parents", "child", "parent", "index", "x"]) (sc := defScope s_is_tree_of) (by decide +kernel)) (fun _ _ _ _ _ => (pg_name (i := 7) sc_is_tree_of.nd rfl (Or.inl rfl))) (fun _ _ _ _ _ => pts_nil) (fun _ _ _ _ _ => (pe_cmpR op_le (pe_callB call_lenM (by rfl) T.f_len (by decide +kernel) (pa_cons (xe_call c_way_up hr l_way_up (pa_cons (pv 4) (pa_cons (pv 7) pa_nil))) pa_nil)) (pe_callB call_lenM (by rfl) T.f_len (by decide +kernel) (pa_cons (pv 3) pa_nil)) (nomark _)))) pa_nil))))
  (pss_one (ps_ret pe_bl))
  pss_nil)
  (pss_one (ps_ret (pe_callB (call_allM rfl) (by rfl) T.f_all (by decide +kernel) (pa_cons (pe_lc (own := [("x", 8)]) (g := (gName 8)) (tt := tYes) rfl sc_is_tree_of.nd (pi_range1 (by rfl) T.f_range (pa_cons (pv 2) pa_nil)) (blkOk_by (own := [("x", 8)]) (N := ["conjunction", "value", "many", "atoms", "parents", "child", "parent", "index", "x"]) (sc := defScope s_is_tree_of) (by decide +kernel)) (fun _ _ _ _ _ => (pg_name (i := 8) sc_is_tree_of.nd rfl (Or.inl rfl))) (fun _ _ _ _ _ => pts_nil) (fun _ _ _ _ _ => (xe_call c_hangs_together hr l_hangs_together (pa_cons (pv 3) (pa_cons (pv 4) (pa_cons (pv 8) pa_nil)))))) pa_nil))))))))

abbrev s_is_join_tree : Stmt := top 28
theorem sc_is_join_tree : FnScope ["conjunction", "value"] ["conjunction", "value"] (defScope s_is_join_tree) := ⟨rfl, rfl, rfl, by decide +kernel, rfl, by decide +kernel, by decide +kernel⟩
theorem b_is_join_tree : Plain "is_join_tree" s_is_join_tree ["conjunction", "value"] := fun _ _ _ _ _ _ us hl => match us, hl with | [_, _], _ => rfl
def t_is_join_tree (K : PySem.W.Frag) (sp_check_conjunction : Sp) (sp_is_tree_of : Sp) (E : XK) : TS := (tSeq (tDrop (tFnX sp_check_conjunction (fun cls d _ H2 => E cls d H2) (tCons (tVar 0) tNil))) (tRet (tFn sp_is_tree_of (tCons (tVar 0) (tCons (tVar 1) tNil)))))
theorem d_is_join_tree {P : Program} {w : World} {K : PySem.W.Frag} {mg : Str → Option Value} {base : Heap} {k : Nat} {k_check_conjunction : Nat} {sp_check_conjunction : Sp} {k_is_tree_of : Nat} {sp_is_tree_of : Sp} (T : Top K w mg) (c_check_conjunction : Cal P w K mg base k_check_conjunction "check_conjunction" ["conjunction"] sp_check_conjunction) (l_check_conjunction : k_check_conjunction ≤ k) (c_is_tree_of : Cal P w K mg base k_is_tree_of "is_tree_of" ["conjunction", "value"] sp_is_tree_of) (l_is_tree_of : k_is_tree_of ≤ k) {f : Addr} {cdv : Value} {A : Around} {outer : List Env} {s : Shared} {H : Hp} {E : XK} (hr : Room k (A.deeper (envOfC "is_join_tree" (defScope s_is_join_tree) s.heap.objs.size f cdv))) : PSs (cxOf (L2.CX P w) P w K mg base ["conjunction", "value"] "is_join_tree" (defScope s_is_join_tree) f cdv A outer s H E) (defBody s_is_join_tree) (t_is_join_tree K sp_check_conjunction sp_is_tree_of E) := by
  have tk : Takes (cxOf (L2.CX P w) P w K mg base ["conjunction", "value"] "is_join_tree" (defScope s_is_join_tree) f cdv A outer s H E) (fun cls d _ H2 => E cls d H2) := takes_of rfl rfl rfl rfl
  exact (pss_cons (ps_expr (xe_callX c_check_conjunction hr l_check_conjunction (fun σ => passes_call tk fun _ _ _ _ h => h) (pa_cons (pv 0) pa_nil)))
  (pss_one (ps_ret (xe_call c_is_tree_of hr l_is_tree_of (pa_cons (pv 0) (pa_cons (pv 1) pa_nil))))))

end K44
set_option Elab.async false
set_option linter.all false
set_option maxRecDepth 100000
set_option maxHeartbeats 4000000
namespace K44
open PySem PySem.Spec PyProof.Rows L2 MT
open SX (S)
abbrev s_law_cell : Stmt := top 30
theorem sc_law_cell : FnScope ["script", "k"] ["script", "k"] (defScope s_law_cell) := ⟨rfl, rfl, rfl, by decide +kernel, rfl, by decide +kernel, by decide +kernel⟩
theorem b_law_cell : Plain "_law_cell" s_law_cell ["script", "k"] := fun _ _ _ _ _ _ us hl => match us, hl with | [_, _], _ => rfl
def t_law_cell (K : PySem.W.Frag) : TS := (tRet (tIf (tTest (tOp (rI0 fun i j => .bl (decide (i < j))) (tVar 1) (tCB rLenM (tCons (tVar 0) tNil)))) (tOp rIxM (tVar 0) (tVar 1)) (tOp rAddM (tOp (rI CMulW fun i j => .int (i * j)) (tC (.int 9907)) (tVar 1)) (tOp (rI (fun _ j => j ≠ 0) fun i j => .int (i.fmod j)) (tCB rInt (tCons (tCB rSumM (tCons (tSl rSlM (tVar 0) tNoPart (tPart (tC (.int 1)))) tNil)) tNil)) (tC (.int 1000003))))))
theorem d_law_cell {P : Program} {w : World} {K : PySem.W.Frag} {mg : Str → Option Value} {base : Heap} {k : Nat} (T : Top K w mg) {f : Addr} {cdv : Value} {A : Around} {outer : List Env} {s : Shared} {H : Hp} {E : XK} (hr : Room k (A.deeper (envOfC "_law_cell" (defScope s_law_cell) s.heap.objs.size f cdv))) : PSs (cxN P w K mg base ["script", "k"] "_law_cell" (defScope s_law_cell) f cdv A outer s H E) (defBody s_law_cell) (t_law_cell K) :=
  (pss_one (ps_ret (pe_ifExp (pt_cmpR op_lt (pv 1) (pe_callB call_lenM (by rfl) T.f_len (by decide +kernel) (pa_cons (pv 0) pa_nil)) (nomark _)) (pe_ix ix_M (pv 0) (pv 1) (fun _ _ => rfl)) (pe_op op_addM (pe_op op_mulW pe_int (pv 1)) (pe_op op_modN (pe_callTy call_intM (by rfl) T.f_int (by decide +kernel) (pa_cons (pe_callB (call_sumM rfl) (by rfl) T.f_sum (by decide +kernel) (pa_cons (pe_slice sl_M (pv 0) po_none (po_some pe_int)) pa_nil)) pa_nil)) pe_int)))))

abbrev s_law_box : Stmt := top 31
theorem sc_law_box : FnScope ["great"] ["great"] (defScope s_law_box) := ⟨rfl, rfl, rfl, by decide +kernel, rfl, by decide +kernel, by decide +kernel⟩
theorem b_law_box : Plain "_law_box" s_law_box ["great"] := fun _ _ _ _ _ _ us hl => match us, hl with | [_], _ => rfl
def t_law_box (K : PySem.W.Frag) : TS := (tRet (tLst (tCons (tCB rAbs (tCons (tVar 0) tNil)) (tCons (tOp (rI0 fun i j => .bl (decide (j ≤ i))) (tCB rAbs (tCons (tVar 0) tNil)) (tOp (rI CPow fun i j => .int (i ^ j.toNat)) (tC (.int 10)) (tC (.int 18)))) (tCons (tOp (rI (fun _ j => j ≠ 0) fun i j => .int (i.fmod j)) (tCB rInt (tCons (tCB rAbs (tCons (tVar 0) tNil)) tNil)) (tC (.int 2147483629))) (tCons (tC (.int 0)) tNil))))))
theorem d_law_box {P : Program} {w : World} {K : PySem.W.Frag} {mg : Str → Option Value} {base : Heap} {k : Nat} (T : Top K w mg) {f : Addr} {cdv : Value} {A : Around} {outer : List Env} {s : Shared} {H : Hp} {E : XK} (hr : Room k (A.deeper (envOfC "_law_box" (defScope s_law_box) s.heap.objs.size f cdv))) : PSs (cxN P w K mg base ["great"] "_law_box" (defScope s_law_box) f cdv A outer s H E) (defBody s_law_box) (t_law_box K) :=
  (pss_one (ps_ret (pe_lst (pa_cons (pe_callB call_absM (by rfl) T.f_abs (by decide +kernel) (pa_cons (pv 0) pa_nil)) (pa_cons (pe_cmpR op_ge (pe_callB call_absM (by rfl) T.f_abs (by decide +kernel) (pa_cons (pv 0) pa_nil)) (pe_op op_pow pe_int pe_int) (nomark _)) (pa_cons (pe_op op_modN (pe_callTy call_intM (by rfl) T.f_int (by decide +kernel) (pa_cons (pe_callB call_absM (by rfl) T.f_abs (by decide +kernel) (pa_cons (pv 0) pa_nil)) pa_nil)) pe_int) (pa_cons pe_int pa_nil)))))))

abbrev s_law_take : Stmt := top 32
theorem sc_law_take : FnScope ["box", "many", "digit", "mixed"] ["box", "many"] (defScope s_law_take) := ⟨rfl, rfl, rfl, by decide +kernel, rfl, by decide +kernel, by decide +kernel⟩
theorem b_law_take : Plain "_law_take" s_law_take ["box", "many"] := fun _ _ _ _ _ _ us hl => match us, hl with | [_, _], _ => rfl
def t_law_take (K : PySem.W.Frag) : TS := (tSeq (tIfS (tAnd (tB (tOp rIxM (tVar 0) (tC (.int 1)))) (tTest (tOp (rI0 fun i j => .bl (decide (j < i))) (tOp rIxM (tVar 0) (tC (.int 0))) (tC (.int 0))))) (tSeq (tAsg (tOp (rI (fun _ j => j ≠ 0) fun i j => .int (i.fmod j)) (tCB rInt (tCons (tOp rIxM (tVar 0) (tC (.int 0))) tNil)) (tVar 1)) (gName 2)) (tSeq (tAsg (tOp (rI CDivN fun i j => .int (i.fdiv j)) (tCB rInt (tCons (tOp rIxM (tVar 0) (tC (.int 0))) tNil)) (tVar 1)) (gSub (tVar 0) (tC (.int 0)) rSetL)) (tRet (tVar 2)))) tNext) (tSeq (tAsg (tOp rAddM (tOp rIxM (tVar 0) (tC (.int 3))) (tC (.int 1))) (gSub (tVar 0) (tC (.int 3)) rSetL)) (tSeq (tAsg (tOp (rI (fun _ j => j ≠ 0) fun i j => .int (i.fmod j)) (tCB rInt (tCons (tOp (rI CPow fun i j => .int (i ^ j.toNat)) (tOp rAddM (tOp rAddM (tOp rIxM (tVar 0) (tC (.int 2))) (tOp (rI CMulW fun i j => .int (i * j)) (tC (.int 15487129)) (tOp rIxM (tVar 0) (tC (.int 3))))) (tC (.int 179426029))) (tC (.int 5))) tNil)) (tC (.int 2147483647))) (gName 3)) (tRet (tOp (rI (fun _ j => j ≠ 0) fun i j => .int (i.fmod j)) (tCB rInt (tCons (tOp (rI CDivN fun i j => .int (i.fdiv j)) (tOp (rI (fun _ j => j ≠ 0) fun i j => .int (i.fmod j)) (tCB rInt (tCons (tOp (rI CPow fun i j => .int (i ^ j.toNat)) (tOp rAddM (tOp (rI CMulW fun i j => .int (i * j)) (tVar 3) (tC (.int 48271))) (tOp (rI CMulW fun i j => .int (i * j)) (tC (.int 9929)) (tOp rIxM (tVar 0) (tC (.int 3))))) (tC (.int 3))) tNil)) (tC (.int 2147483587))) (tC (.int 64))) tNil)) (tVar 1))))))
theorem d_law_take {P : Program} {w : World} {K : PySem.W.Frag} {mg : Str → Option Value} {base : Heap} {k : Nat} (T : Top K w mg) {f : Addr} {cdv : Value} {A : Around} {outer : List Env} {s : Shared} {H : Hp} {E : XK} (hr : Room k (A.deeper (envOfC "_law_take" (defScope s_law_take) s.heap.objs.size f cdv))) : PSs (cxN P w K mg base ["box", "many", "digit", "mixed"] "_law_take" (defScope s_law_take) f cdv A outer s H E) (defBody s_law_take) (t_law_take K) :=
  (pss_cons (ps_if (PW.pt (pw_and (pt_val (pe_ix ix_M (pv 0) pe_int (fun _ _ => rfl))) (pw_and1 (pt_cmpR op_gt (pe_ix ix_M (pv 0) pe_int (fun _ _ => rfl)) pe_int (nomark _)))))
  (pss_cons (ps_set (i := 2) sc_law_take.nd rfl (.inl rfl) (pe_op op_modN (pe_callTy call_intM (by rfl) T.f_int (by decide +kernel) (pa_cons (pe_ix ix_M (pv 0) pe_int (fun _ _ => rfl)) pa_nil)) (pv 1)))
  (pss_cons (ps_asg (pe_op op_fdivN (pe_callTy call_intM (by rfl) T.f_int (by decide +kernel) (pa_cons (pe_ix ix_M (pv 0) pe_int (fun _ _ => rfl)) pa_nil)) (pv 1)) (pg_sub (pv 0) pe_int set_list))
  (pss_one (ps_ret (pv 2)))))
  pss_nil)
  (pss_cons (ps_asg (pe_op op_addM (pe_ix ix_M (pv 0) pe_int (fun _ _ => rfl)) pe_int) (pg_sub (pv 0) pe_int set_list))
  (pss_cons (ps_set (i := 3) sc_law_take.nd rfl (.inl rfl) (pe_op op_modN (pe_callTy call_intM (by rfl) T.f_int (by decide +kernel) (pa_cons (pe_op op_pow (pe_op op_addM (pe_op op_addM (pe_ix ix_M (pv 0) pe_int (fun _ _ => rfl)) (pe_op op_mulW pe_int (pe_ix ix_M (pv 0) pe_int (fun _ _ => rfl)))) pe_int) pe_int) pa_nil)) pe_int))
  (pss_one (ps_ret (pe_op op_modN (pe_callTy call_intM (by rfl) T.f_int (by decide +kernel) (pa_cons (pe_op op_fdivN (pe_op op_modN (pe_callTy call_intM (by rfl) T.f_int (by decide +kernel) (pa_cons (pe_op op_pow (pe_op op_addM (pe_op op_mulW (pv 3) pe_int) (pe_op op_mulW pe_int (pe_ix ix_M (pv 0) pe_int (fun _ _ => rfl)))) pe_int) pa_nil)) pe_int) pe_int) pa_nil)) (pv 1)))))))

abbrev s_law_mixed : Stmt := top 33
theorem sc_law_mixed : FnScope ["box", "items", "left", "found", "k"] ["box", "items"] (defScope s_law_mixed) := ⟨rfl, rfl, rfl, by decide +kernel, rfl, by decide +kernel, by decide +kernel⟩
theorem b_law_mixed : Plain "_law_mixed" s_law_mixed ["box", "items"] := fun _ _ _ _ _ _ us hl => match us, hl with | [_, _], _ => rfl
def t_law_mixed (K : PySem.W.Frag) (sp_law_take : Sp) : TS := (tSeq (tPar 2 3 (tCons (tCB rListM (tCons (tVar 1) tNil)) (tCons (tLst tNil) tNil))) (tSeq (tFor (iRng1 (tCons (tCB rLenM (tCons (tVar 1) tNil)) tNil)) (gName 4) (tDrop (tBM K "list" rAppendM (tVar 3) (tCons (tBM K "list" rPopAtM (tVar 2) (tCons (tFn sp_law_take (tCons (tVar 0) (tCons (tCB rLenM (tCons (tVar 2) tNil)) tNil))) tNil)) tNil)))) (tRet (tVar 3))))
theorem d_law_mixed {P : Program} {w : World} {K : PySem.W.Frag} {mg : Str → Option Value} {base : Heap} {k : Nat} {k_law_take : Nat} {sp_law_take : Sp} (T : Top K w mg) (c_law_take : Cal P w K mg base k_law_take "_law_take" ["box", "many"] sp_law_take) (l_law_take : k_law_take ≤ k) {f : Addr} {cdv : Value} {A : Around} {outer : List Env} {s : Shared} {H : Hp} {E : XK} (hr : Room k (A.deeper (envOfC "_law_mixed" (defScope s_law_mixed) s.heap.objs.size f cdv))) : PSs (cxN P w K mg base ["box", "items", "left", "found", "k"] "_law_mixed" (defScope s_law_mixed) f cdv A outer s H E) (defBody s_law_mixed) (t_law_mixed K sp_law_take) :=
  (pss_cons (ps_par (i := 2) (j := 3) rfl sc_law_mixed.nd rfl rfl (by decide) rfl rfl (pa_cons (pe_callTy call_listM (by rfl) T.f_list (by decide +kernel) (pa_cons (pv 1) pa_nil)) (pa_cons (pe_lst pa_nil) pa_nil)) (by rfl))
  (pss_cons (ps_for PassesOwn.never rfl (pi_range1 (by rfl) T.f_range (pa_cons (pe_callB call_lenM (by rfl) T.f_len (by decide +kernel) (pa_cons (pv 1) pa_nil)) pa_nil)) (pg_name (i := 4) sc_law_mixed.nd rfl (.inl rfl))
  (pss_one (ps_expr (pe_bm PySem.F.plainAttrs_list PySem.F.slot_list_append PySem.F.type_list_append mt_appendM (pv 3) (pa_cons (pe_bm PySem.F.plainAttrs_list PySem.F.slot_list_pop PySem.F.type_list_pop mt_popAtM (pv 2) (pa_cons (xe_call c_law_take hr l_law_take (pa_cons (pv 0) (pa_cons (pe_callB call_lenM (by rfl) T.f_len (by decide +kernel) (pa_cons (pv 2) pa_nil)) pa_nil))) pa_nil)) pa_nil)))))
  (pss_one (ps_ret (pv 3)))))

abbrev s_law_same : Stmt := top 34
theorem sc_law_same : FnScope ["told", "due", "key", "k"] ["told", "due"] (defScope s_law_same) := ⟨rfl, rfl, rfl, by decide +kernel, rfl, by decide +kernel, by decide +kernel⟩
theorem b_law_same : Plain "_law_same" s_law_same ["told", "due"] := fun _ _ _ _ _ _ us hl => match us, hl with | [_, _], _ => rfl
def t_law_same (K : PySem.W.Frag) (sp_law_same : Sp) : TS := (tSeq (tIfS (tOr (tB (tIsN (tVar 1))) (tB (tIs .bl (tVar 1)))) (tRet (tIf (tB (tIsN (tVar 1))) (tIsN (tVar 0)) (tIf (tB (tVar 1)) (tOp rIsBM (tVar 0) (tC (.bl true))) (tOp rIsBM (tVar 0) (tC (.bl false)))))) tNext) (tSeq (tIfS (tB (tIs .int (tVar 1))) (tRet (tAndV (tIs .int (tVar 0)) (tAndV (tNotV (tIs .bl (tVar 0))) (tOp rEqM (tVar 0) (tVar 1))))) tNext) (tSeq (tIfS (tB (tIs .str (tVar 1))) (tRet (tAndV (tIs .str (tVar 0)) (tOp rEqM (tVar 0) (tVar 1)))) tNext) (tSeq (tIfS (tB (tIs .dct (tVar 1))) (tSeq (tIfS (tOr (tNot (tB (tIs .dct (tVar 0)))) (tTest (tOp rNeM (tCB rLenM2 (tCons (tVar 0) tNil)) (tCB rLenM2 (tCons (tVar 1) tNil))))) (tRet (tC (.bl false))) tNext) (tSeq (tLock (tFor (iKeys (tVar 1)) (gName 2) (tIfS (tOr (tB (tDNotIn (tVar 2) (tVar 0))) (tNot (tB (tFn sp_law_same (tCons (tDGet (tVar 0) (tVar 2)) (tCons (tDGet (tVar 1) (tVar 2)) tNil)))))) (tRet (tC (.bl false))) tNext))) (tRet (tC (.bl true))))) tNext) (tSeq (tIfS (tOr (tNot (tB (tIss [.lst, .tup] (tVar 1)))) (tOr (tNot (tB (tIss [.lst, .tup] (tVar 0)))) (tOr (tTest (tOp rNeM (tIs .lst (tVar 0)) (tIs .lst (tVar 1)))) (tTest (tOp rNeM (tCB rLenM2 (tCons (tVar 0) tNil)) (tCB rLenM2 (tCons (tVar 1) tNil))))))) (tRet (tC (.bl false))) tNext) (tSeq (tFor (iRng1 (tCons (tCB rLenM2 (tCons (tVar 1) tNil)) tNil)) (gName 3) (tIfS (tNot (tB (tFn sp_law_same (tCons (tOp rIxM (tVar 0) (tVar 3)) (tCons (tOp rIxM (tVar 1) (tVar 3)) tNil))))) (tRet (tC (.bl false))) tNext)) (tRet (tC (.bl true)))))))))
theorem d_law_same {P : Program} {w : World} {K : PySem.W.Frag} {mg : Str → Option Value} {base : Heap} {k : Nat} {k_law_same : Nat} {sp_law_same : Sp} (T : Top K w mg) (c_law_same : Cal P w K mg base k_law_same "_law_same" ["told", "due"] sp_law_same) (l_law_same : k_law_same ≤ k) {f : Addr} {cdv : Value} {A : Around} {outer : List Env} {s : Shared} {H : Hp} {E : XK} (hr : Room k (A.deeper (envOfC "_law_same" (defScope s_law_same) s.heap.objs.size f cdv))) : PSs (cxN P w K mg base ["told", "due", "key", "k"] "_law_same" (defScope s_law_same) f cdv A outer s H E) (defBody s_law_same) (t_law_same K sp_law_same) :=
  (pss_cons (ps_if (PW.pt (pw_or (pt_cmp (pc_isN (pv 1))) (pw_or1 (pt_val (xe_is .bl (pv 1) T.f_isinstance T.f_bool)))))
  (pss_one (ps_ret (pe_ifExp (pt_cmp (pc_isN (pv 1))) (pe_cmp (pc_isN (pv 0))) (pe_ifExp (pt_val (pv 1)) (pe_cmpR op_isBM (pv 0) pe_bl (nomark _)) (pe_cmpR op_isBM (pv 0) pe_bl (nomark _))))))
  pss_nil)
  (pss_cons (ps_if (pt_val (xe_is .int (pv 1) T.f_isinstance T.f_int))
  (pss_one (ps_ret (pe_and (xe_is .int (pv 0) T.f_isinstance T.f_int) (pe_and (pe_not (xe_is .bl (pv 0) T.f_isinstance T.f_bool)) (pe_one (pe_cmpR op_eqM (pv 0) (pv 1) (nomark _)))))))
  pss_nil)
  (pss_cons (ps_if (pt_val (xe_is .str (pv 1) T.f_isinstance T.f_str))
  (pss_one (ps_ret (pe_and (xe_is .str (pv 0) T.f_isinstance T.f_str) (pe_one (pe_cmpR op_eqM (pv 0) (pv 1) (nomark _))))))
  pss_nil)
  (pss_cons (ps_if (pt_val (xe_is .dct (pv 1) T.f_isinstance T.f_dict))
  (pss_cons (ps_if (PW.pt (pw_or (pt_not (pt_val (xe_is .dct (pv 0) T.f_isinstance T.f_dict))) (pw_or1 (pt_cmpR op_neM (pe_callB call_lenM2 (by rfl) T.f_len (by decide +kernel) (pa_cons (pv 0) pa_nil)) (pe_callB call_lenM2 (by rfl) T.f_len (by decide +kernel) (pa_cons (pv 1) pa_nil)) (nomark _)))))
  (pss_one (ps_ret pe_bl))
  pss_nil)
  (pss_cons (ps_lock (ps_for PassesOwn.never rfl (pi_keys (pv 1)) (pg_name (i := 2) sc_law_same.nd rfl (.inl rfl))
  (pss_one (ps_if (PW.pt (pw_or (pt_cmp (pc_dnotin (ru1 hr) (pv 2) (pv 0))) (pw_or1 (pt_not (pt_val (xe_call c_law_same hr l_law_same (pa_cons (pe_dget (ru1 hr) (pv 0) (pv 2) (fun _ _ => rfl)) (pa_cons (pe_dget (ru1 hr) (pv 1) (pv 2) (fun _ _ => rfl)) pa_nil))))))))
  (pss_one (ps_ret pe_bl))
  pss_nil))))
  (pss_one (ps_ret pe_bl))))
  pss_nil)
  (pss_cons (ps_if (PW.pt (pw_or (pt_not (pt_val (xe_iss [.lst, .tup] (pv 1) T.f_isinstance (.cons T.f_list rfl (by decide +kernel) (by decide) (by decide) rfl (.cons T.f_tuple rfl (by decide +kernel) (by decide) (by decide) rfl .nil)) (by decide)))) (pw_or (pt_not (pt_val (xe_iss [.lst, .tup] (pv 0) T.f_isinstance (.cons T.f_list rfl (by decide +kernel) (by decide) (by decide) rfl (.cons T.f_tuple rfl (by decide +kernel) (by decide) (by decide) rfl .nil)) (by decide)))) (pw_or (pt_cmpR op_neM (xe_is .lst (pv 0) T.f_isinstance T.f_list) (xe_is .lst (pv 1) T.f_isinstance T.f_list) (nomark _)) (pw_or1 (pt_cmpR op_neM (pe_callB call_lenM2 (by rfl) T.f_len (by decide +kernel) (pa_cons (pv 0) pa_nil)) (pe_callB call_lenM2 (by rfl) T.f_len (by decide +kernel) (pa_cons (pv 1) pa_nil)) (nomark _)))))))
  (pss_one (ps_ret pe_bl))
  pss_nil)
  (pss_cons (ps_for PassesOwn.never rfl (pi_range1 (by rfl) T.f_range (pa_cons (pe_callB call_lenM2 (by rfl) T.f_len (by decide +kernel) (pa_cons (pv 1) pa_nil)) pa_nil)) (pg_name (i := 3) sc_law_same.nd rfl (.inl rfl))
  (pss_one (ps_if (pt_not (pt_val (xe_call c_law_same hr l_law_same (pa_cons (pe_ix ix_M (pv 0) (pv 3) (fun _ _ => rfl)) (pa_cons (pe_ix ix_M (pv 1) (pv 3) (fun _ _ => rfl)) pa_nil)))))
  (pss_one (ps_ret pe_bl))
  pss_nil)))
  (pss_one (ps_ret pe_bl))))))))

abbrev s_law_grow : Stmt := top 35
theorem sc_law_grow : FnScope ["value", "item"] ["value"] (defScope s_law_grow) := ⟨rfl, rfl, rfl, by decide +kernel, rfl, by decide +kernel, by decide +kernel⟩
theorem b_law_grow : Plain "_law_grow" s_law_grow ["value"] := fun _ _ _ _ _ _ us hl => match us, hl with | [_], _ => rfl
def t_law_grow (K : PySem.W.Frag) (sp_law_grow : Sp) : TS := (tIfS (tB (tIs .lst (tVar 0))) (tDrop (tBM K "list" rAppendM (tVar 0) (tCons (tC (.str (S [109, 111, 114, 101]))) tNil))) (tIfS (tB (tIs .dct (tVar 0))) (tAsg (tC (.int 1)) (gSub (tVar 0) (tC (.str (S [109, 111, 114, 101]))) rSetDM)) (tIfS (tB (tIs .tup (tVar 0))) (tFor (iSq K (tVar 0)) (gName 1) (tDrop (tFn sp_law_grow (tCons (tVar 1) tNil)))) tNext)))
theorem d_law_grow {P : Program} {w : World} {K : PySem.W.Frag} {mg : Str → Option Value} {base : Heap} {k : Nat} {k_law_grow : Nat} {sp_law_grow : Sp} (T : Top K w mg) (c_law_grow : Cal P w K mg base k_law_grow "_law_grow" ["value"] sp_law_grow) (l_law_grow : k_law_grow ≤ k) {f : Addr} {cdv : Value} {A : Around} {outer : List Env} {s : Shared} {H : Hp} {E : XK} (hr : Room k (A.deeper (envOfC "_law_grow" (defScope s_law_grow) s.heap.objs.size f cdv))) : PSs (cxN P w K mg base ["value", "item"] "_law_grow" (defScope s_law_grow) f cdv A outer s H E) (defBody s_law_grow) (t_law_grow K sp_law_grow) :=
  (pss_one (ps_if (pt_val (xe_is .lst (pv 0) T.f_isinstance T.f_list))
  (pss_one (ps_expr (pe_bm PySem.F.plainAttrs_list PySem.F.slot_list_append PySem.F.type_list_append mt_appendM (pv 0) (pa_cons (xe_str (by decide +kernel)) pa_nil))))
  (pss_one (ps_if (pt_val (xe_is .dct (pv 0) T.f_isinstance T.f_dict))
  (pss_one (ps_asg pe_int (pg_sub (pv 0) (xe_str (by decide +kernel)) (set_dictM (ru1 hr)))))
  (pss_one (ps_if (pt_val (xe_is .tup (pv 0) T.f_isinstance T.f_tuple))
  (pss_one (ps_for PassesOwn.never rfl (pi_sq (pv 0)) (pg_name (i := 1) sc_law_grow.nd rfl (.inl rfl))
  (pss_one (ps_expr (xe_call c_law_grow hr l_law_grow (pa_cons (pv 1) pa_nil))))))
  pss_nil))))))

abbrev s_law_is_below : Stmt := top 36
theorem sc_law_is_below : FnScope ["value", "many"] ["value", "many"] (defScope s_law_is_below) := ⟨rfl, rfl, rfl, by decide +kernel, rfl, by decide +kernel, by decide +kernel⟩
theorem b_law_is_below : Plain "_law_is_below" s_law_is_below ["value", "many"] := fun _ _ _ _ _ _ us hl => match us, hl with | [_, _], _ => rfl
def t_law_is_below (K : PySem.W.Frag) : TS := (tRet (tAndV (tIs .int (tVar 0)) (tAndV (tNotV (tIs .bl (tVar 0))) (tChain (rI0 fun i j => .bl (decide (i ≤ j))) (rI0 fun i j => .bl (decide (i < j))) (tC (.int 0)) (tVar 0) (tVar 1)))))
theorem d_law_is_below {P : Program} {w : World} {K : PySem.W.Frag} {mg : Str → Option Value} {base : Heap} {k : Nat} (T : Top K w mg) {f : Addr} {cdv : Value} {A : Around} {outer : List Env} {s : Shared} {H : Hp} {E : XK} (hr : Room k (A.deeper (envOfC "_law_is_below" (defScope s_law_is_below) s.heap.objs.size f cdv))) : PSs (cxN P w K mg base ["value", "many"] "_law_is_below" (defScope s_law_is_below) f cdv A outer s H E) (defBody s_law_is_below) (t_law_is_below K) :=
  (pss_one (ps_ret (pe_and (xe_is .int (pv 0) T.f_isinstance T.f_int) (pe_and (pe_not (xe_is .bl (pv 0) T.f_isinstance T.f_bool)) (pe_one (pe_chain op_le op_lt pe_int (pv 0) (pv 1)))))))

end K44
set_option Elab.async false
set_option linter.all false
set_option maxRecDepth 100000
set_option maxHeartbeats 4000000
namespace K44
open PySem PySem.Spec PyProof.Rows L2 MT
open SX (S)
abbrev s_law_left_out : Stmt := top 37
theorem sc_law_left_out : FnScope ["atoms", "order", "kept", "left", "links", "turn", "pair", "index", "shared", "x", "other"] ["atoms", "order", "kept"] (defScope s_law_left_out) := ⟨rfl, rfl, rfl, by decide +kernel, rfl, by decide +kernel, by decide +kernel⟩
theorem b_law_left_out : Plain "_law_left_out" s_law_left_out ["atoms", "order", "kept"] := fun _ _ _ _ _ _ us hl => match us, hl with | [_, _, _], _ => rfl
def t_law_left_out (K : PySem.W.Frag) : TS := (tSeq (tAsg (tTup (tCons (tCB rListM (tCons (tVar 1) tNil)) (tCons (tLst tNil) tNil))) (gTup K 2 (gCons (gName 3) (gCons (gName 4) gNil)))) (tSeq (tFor (iRng1 (tCons (tCB rLenM (tCons (tVar 1) tNil)) tNil)) (gName 5) (tSeq (tAsg (tC .non) (gName 6)) (tSeq (tFor (iSq K (tVar 3)) (gName 7) (tSeq (tAsg (tLc (iSq K (tOp rIxM (tOp rIxM (tVar 0) (tVar 7)) (tC (.int 2)))) (gName 9) (tB (tEqNil true (tLc (iSq K (tVar 3)) (gName 10) (tAnd (tTest (tOp rNeM (tVar 10) (tVar 7))) (tTest (tOp (rInM false) (tVar 9) (tOp rIxM (tOp rIxM (tVar 0) (tVar 10)) (tC (.int 2)))))) (tVar 10) [10]))) (tVar 9) [9]) (gName 8)) (tFor (iSq K (tVar 3)) (gName 10) (tIfS (tAnd (tB (tIsN (tVar 6))) (tAnd (tTest (tOp rNeM (tVar 10) (tVar 7))) (tAnd (tTest (tOp (rInM true) (tVar 7) (tVar 2))) (tB (tEqNil false (tLc (iSq K (tVar 8)) (gName 9) (tTest (tOp (rInM true) (tVar 9) (tOp rIxM (tOp rIxM (tVar 0) (tVar 10)) (tC (.int 2))))) (tVar 9) [9])))))) (tAsg (tTup (tCons (tVar 7) (tCons (tVar 10) tNil))) (gName 6)) tNext)))) (tIfS (tB (tNotN (tVar 6))) (tSeq (tDrop (tBM K "list" rAppendM (tVar 4) (tCons (tVar 6) tNil))) (tAsg (tLc (iSq K (tVar 3)) (gName 7) (tTest (tOp rNeM (tVar 7) (tOp rIxM (tVar 6) (tC (.int 0))))) (tVar 7) [7]) (gName 3))) tNext)))) (tRet (tTup (tCons (tCB rSortPM (tCons (tVar 4) tNil)) (tCons (tCB rSortM (tCons (tVar 3) tNil)) tNil))))))
theorem d_law_left_out {P : Program} {w : World} {K : PySem.W.Frag} {mg : Str → Option Value} {base : Heap} {k : Nat} (T : Top K w mg) {f : Addr} {cdv : Value} {A : Around} {outer : List Env} {s : Shared} {H : Hp} {E : XK} (hr : Room k (A.deeper (envOfC "_law_left_out" (defScope s_law_left_out) s.heap.objs.size f cdv))) : PSs (cxN P w K mg base ["atoms", "order", "kept", "left", "links", "turn", "pair", "index", "shared", "x", "other"] "_law_left_out" (defScope s_law_left_out) f cdv A outer s H E) (defBody s_law_left_out) (t_law_left_out K) :=
  (pss_cons (ps_asg (pe_tup (pa_cons (pe_callTy call_listM (by rfl) T.f_list (by decide +kernel) (pa_cons (pv 1) pa_nil)) (pa_cons (pe_lst pa_nil) pa_nil))) (pg_tup rfl (pgs_cons (pg_name (i := 3) sc_law_left_out.nd rfl (.inr rfl)) (pgs_cons (pg_name (i := 4) sc_law_left_out.nd rfl (.inl rfl)) pgs_nil))))
  (pss_cons (ps_for PassesOwn.never rfl (pi_range1 (by rfl) T.f_range (pa_cons (pe_callB call_lenM (by rfl) T.f_len (by decide +kernel) (pa_cons (pv 1) pa_nil)) pa_nil)) (pg_name (i := 5) sc_law_left_out.nd rfl (.inl rfl))
  (pss_cons (ps_set (i := 6) sc_law_left_out.nd rfl (.inr rfl) pe_non)
  (pss_cons (ps_for PassesOwn.never rfl (pi_sq (pv 3)) (pg_name (i := 7) sc_law_left_out.nd rfl (.inr rfl))
  (pss_cons (ps_setLc (i := 8) (own := [("x", 9)]) (g := (gName 9)) (tt := (tB (tEqNil true (tLc (iSq K (tVar 3)) (gName 10) (tAnd (tTest (tOp rNeM (tVar 10) (tVar 7))) (tTest (tOp (rInM false) (tVar 9) (tOp rIxM (tOp rIxM (tVar 0) (tVar 10)) (tC (.int 2)))))) (tVar 10) [10])))) rfl sc_law_left_out.nd rfl rfl (sw_true rfl rfl rfl (by decide +kernel)) (pi_sq (pe_ix ix_M (pe_ix ix_M (pv 0) (pv 7) (fun _ _ => rfl)) pe_int (fun _ _ => rfl))) (blkOk_by (own := [("x", 9)]) (N := ["atoms", "order", "kept", "left", "links", "turn", "pair", "index", "shared", "x", "other"]) (sc := defScope s_law_left_out) (by decide +kernel)) (fun _ _ _ _ _ => (pg_name (i := 9) sc_law_left_out.nd rfl (Or.inr rfl))) (fun _ _ _ _ _ => (pts_one (xt_neNil (pe_lc (own := [("other", 10)]) (g := (gName 10)) (tt := (tAnd (tTest (tOp rNeM (tVar 10) (tVar 7))) (tTest (tOp (rInM false) (tVar 9) (tOp rIxM (tOp rIxM (tVar 0) (tVar 10)) (tC (.int 2))))))) rfl sc_law_left_out.nd (pi_sq (pv 3)) (blkOk_by (own := [("other", 10)]) (by kernel_rfl)) (fun _ _ _ _ _ => (pg_name (i := 10) sc_law_left_out.nd rfl (Or.inl rfl))) (fun _ _ _ _ _ => (pts_one (PW.pt (pw_and (pt_cmpR op_neM (pv 10) (pv 7) (nomark _)) (pw_and1 (pt_cmpR op_inM (pv 9) (pe_ix ix_M (pe_ix ix_M (pv 0) (pv 10) (fun _ _ => rfl)) pe_int (fun _ _ => rfl)) (by rfl))))))) (fun _ _ _ _ _ => (pv 10))) hr.units0))) (fun _ _ _ _ _ => (pv 9)))
  (pss_one (ps_for PassesOwn.never rfl (pi_sq (pv 3)) (pg_name (i := 10) sc_law_left_out.nd rfl (.inr rfl))
  (pss_one (ps_if (PW.pt (pw_and (pt_cmp (pc_isN (pv 6))) (pw_and (pt_cmpR op_neM (pv 10) (pv 7) (nomark _)) (pw_and (pt_cmpR op_notInM (pv 7) (pv 2) (by rfl)) (pw_and1 (xt_eqNil (pe_lc (own := [("x", 9)]) (g := (gName 9)) (tt := (tTest (tOp (rInM true) (tVar 9) (tOp rIxM (tOp rIxM (tVar 0) (tVar 10)) (tC (.int 2)))))) rfl sc_law_left_out.nd (pi_sq (pv 8)) (blkOk_by (own := [("x", 9)]) (N := ["atoms", "order", "kept", "left", "links", "turn", "pair", "index", "shared", "x", "other"]) (sc := defScope s_law_left_out) (by decide +kernel)) (fun _ _ _ _ _ => (pg_name (i := 9) sc_law_left_out.nd rfl (Or.inl rfl))) (fun _ _ _ _ _ => (pts_one (pt_cmpR op_notInM (pv 9) (pe_ix ix_M (pe_ix ix_M (pv 0) (pv 10) (fun _ _ => rfl)) pe_int (fun _ _ => rfl)) (by rfl)))) (fun _ _ _ _ _ => (pv 9))) hr.units0))))))
  (pss_one (ps_set (i := 6) sc_law_left_out.nd rfl (.inr rfl) (pe_tup (pa_cons (pv 7) (pa_cons (pv 10) pa_nil)))))
  pss_nil))))))
  (pss_one (ps_if (pt_cmp (pc_notN (pv 6)))
  (pss_cons (ps_expr (pe_bm PySem.F.plainAttrs_list PySem.F.slot_list_append PySem.F.type_list_append mt_appendM (pv 4) (pa_cons (pv 6) pa_nil)))
  (pss_one (ps_set (i := 3) sc_law_left_out.nd rfl (.inr rfl) (pe_lc (own := [("index", 7)]) (g := (gName 7)) (tt := (tTest (tOp rNeM (tVar 7) (tOp rIxM (tVar 6) (tC (.int 0)))))) rfl sc_law_left_out.nd (pi_sq (pv 3)) (blkOk_by (own := [("index", 7)]) (N := ["atoms", "order", "kept", "left", "links", "turn", "pair", "index", "shared", "x", "other"]) (sc := defScope s_law_left_out) (by decide +kernel)) (fun _ _ _ _ _ => (pg_name (i := 7) sc_law_left_out.nd rfl (Or.inl rfl))) (fun _ _ _ _ _ => (pts_one (pt_cmpR op_neM (pv 7) (pe_ix ix_M (pv 6) pe_int (fun _ _ => rfl)) (nomark _)))) (fun _ _ _ _ _ => (pv 7))))))
  pss_nil)))))
  (pss_one (ps_ret (pe_tup (pa_cons (pe_callB call_sortPM (by rfl) T.f_sorted (by decide +kernel) (pa_cons (pv 4) pa_nil)) (pa_cons (pe_callB call_sortM (by rfl) T.f_sorted (by decide +kernel) (pa_cons (pv 3) pa_nil)) pa_nil)))))))

abbrev s_law_is_tree : Stmt := top 38
theorem sc_law_is_tree : FnScope ["atoms", "value", "many", "pair", "children", "k", "used", "atom", "x", "has", "index", "met", "turn", "child", "parent"] ["atoms", "value"] (defScope s_law_is_tree) := ⟨rfl, rfl, rfl, by decide +kernel, rfl, by decide +kernel, by decide +kernel⟩
theorem b_law_is_tree : Plain "_law_is_tree" s_law_is_tree ["atoms", "value"] := fun _ _ _ _ _ _ us hl => match us, hl with | [_, _], _ => rfl
def t_law_is_tree (K : PySem.W.Frag) (w : World) (sp_law_is_below : Sp) : TS := (tSeq (tAsg (tCB rLenM (tCons (tVar 0) tNil)) (gName 2)) (tSeq (tIfS (tOr (tNot (tB (tIss [.lst, .tup] (tVar 1)))) (tTest (tOp rNeM (tCB rLenM (tCons (tVar 1) tNil)) (tCB rMaxM (tCons (tC (.int 0)) (tCons (tOp (rI0 fun i j => .int (i - j)) (tVar 2) (tC (.int 1))) tNil)))))) (tRet (tC (.bl false))) tNext) (tSeq (tFor (iSq K (tVar 1)) (gName 3) (tIfS (tOr (tNot (tB (tIs .tup (tVar 3)))) (tOr (tTest (tOp rNeM (tCB rLenM (tCons (tVar 3) tNil)) (tC (.int 2)))) (tOr (tNot (tB (tFn sp_law_is_below (tCons (tOp rIxM (tVar 3) (tC (.int 0))) (tCons (tVar 2) tNil))))) (tNot (tB (tFn sp_law_is_below (tCons (tOp rIxM (tVar 3) (tC (.int 1))) (tCons (tVar 2) tNil)))))))) (tRet (tC (.bl false))) tNext)) (tSeq (tAsg (tLc (iSq K (tVar 1)) (gName 3) tYes (tOp rIxM (tVar 3) (tC (.int 0))) [3]) (gName 4)) (tSeq (tIfS (tB (tEqNil true (tLc (iRng2 (tCons (tC (.int 1)) (tCons (tCB rLenM (tCons (tVar 4) tNil)) tNil))) (gName 5) (tTest (tOp (rI0 fun i j => .bl (decide (j ≤ i))) (tOp rIxM (tVar 4) (tOp (rI0 fun i j => .int (i - j)) (tVar 5) (tC (.int 1)))) (tOp rIxM (tVar 4) (tVar 5)))) (tVar 5) [5]))) (tRet (tC (.bl false))) tNext) (tSeq (tAsg (tLst tNil) (gName 6)) (tSeq (tFor (iSq K (tVar 0)) (gName 7) (tDrop (tBM K "list" rExtendM (tVar 6) (tCons (tCB rListM (tCons (tOp rIxM (tVar 7) (tC (.int 2))) tNil)) tNil)))) (tSeq (tFor (iSq K (tOp rAddM (tLst (tCons (tC .non) tNil)) (tCB (rSortSetM w) (tCons (tCB (rSetM w) (tCons (tVar 6) tNil)) tNil)))) (gName 8) (tSeq (tAsg (tLc (iRng1 (tCons (tVar 2) tNil)) (gName 10) (tOr (tB (tIsN (tVar 8))) (tTest (tOp (rInM false) (tVar 8) (tOp rIxM (tOp rIxM (tVar 0) (tVar 10)) (tC (.int 2)))))) (tVar 10) [10]) (gName 9)) (tSeq (tAsg (tSl rSlM (tVar 9) tNoPart (tPart (tC (.int 1)))) (gName 11)) (tSeq (tFor (iRng1 (tCons (tVar 2) tNil)) (gName 12) (tFor (iSq K (tVar 1)) (gTup K 2 (gCons (gName 13) (gCons (gName 14) gNil))) (tIfS (tAnd (tTest (tOp (rInM false) (tVar 13) (tVar 9))) (tAnd (tTest (tOp (rInM false) (tVar 14) (tVar 9))) (tTest (tOp rNeM (tOp (rInM false) (tVar 13) (tVar 11)) (tOp (rInM false) (tVar 14) (tVar 11)))))) (tDrop (tBM K "list" rAppendM (tVar 11) (tCons (tIf (tTest (tOp (rInM false) (tVar 13) (tVar 11))) (tVar 14) (tVar 13)) tNil))) tNext))) (tIfS (tTest (tOp rNeM (tCB rLenM (tCons (tVar 11) tNil)) (tCB rLenM (tCons (tVar 9) tNil)))) (tRet (tC (.bl false))) tNext))))) (tRet (tC (.bl true)))))))))))
theorem d_law_is_tree {P : Program} {w : World} {K : PySem.W.Frag} {mg : Str → Option Value} {base : Heap} {k : Nat} {k_law_is_below : Nat} {sp_law_is_below : Sp} (T : Top K w mg) (c_law_is_below : Cal P w K mg base k_law_is_below "_law_is_below" ["value", "many"] sp_law_is_below) (l_law_is_below : k_law_is_below ≤ k) {f : Addr} {cdv : Value} {A : Around} {outer : List Env} {s : Shared} {H : Hp} {E : XK} (hr : Room k (A.deeper (envOfC "_law_is_tree" (defScope s_law_is_tree) s.heap.objs.size f cdv))) : PSs (cxN P w K mg base ["atoms", "value", "many", "pair", "children", "k", "used", "atom", "x", "has", "index", "met", "turn", "child", "parent"] "_law_is_tree" (defScope s_law_is_tree) f cdv A outer s H E) (defBody s_law_is_tree) (t_law_is_tree K w sp_law_is_below) :=
  (pss_cons (ps_set (i := 2) sc_law_is_tree.nd rfl (.inl rfl) (pe_callB call_lenM (by rfl) T.f_len (by decide +kernel) (pa_cons (pv 0) pa_nil)))
  (pss_cons (ps_if (PW.pt (pw_or (pt_not (pt_val (xe_iss [.lst, .tup] (pv 1) T.f_isinstance (.cons T.f_list rfl (by decide +kernel) (by decide) (by decide) rfl (.cons T.f_tuple rfl (by decide +kernel) (by decide) (by decide) rfl .nil)) (by decide)))) (pw_or1 (pt_cmpR op_neM (pe_callB call_lenM (by rfl) T.f_len (by decide +kernel) (pa_cons (pv 1) pa_nil)) (pe_callB (call_maxM rfl) (by rfl) T.f_max (by decide +kernel) (pa_cons pe_int (pa_cons (pe_op op_sub (pv 2) pe_int) pa_nil))) (nomark _)))))
  (pss_one (ps_ret pe_bl))
  pss_nil)
  (pss_cons (ps_for PassesOwn.never rfl (pi_sq (pv 1)) (pg_name (i := 3) sc_law_is_tree.nd rfl (.inl rfl))
  (pss_one (ps_if (PW.pt (pw_or (pt_not (pt_val (xe_is .tup (pv 3) T.f_isinstance T.f_tuple))) (pw_or (pt_cmpR op_neM (pe_callB call_lenM (by rfl) T.f_len (by decide +kernel) (pa_cons (pv 3) pa_nil)) pe_int (nomark _)) (pw_or (pt_not (pt_val (xe_call c_law_is_below hr l_law_is_below (pa_cons (pe_ix ix_M (pv 3) pe_int (fun _ _ => rfl)) (pa_cons (pv 2) pa_nil))))) (pw_or1 (pt_not (pt_val (xe_call c_law_is_below hr l_law_is_below (pa_cons (pe_ix ix_M (pv 3) pe_int (fun _ _ => rfl)) (pa_cons (pv 2) pa_nil))))))))))
  (pss_one (ps_ret pe_bl))
  pss_nil)))
  (pss_cons (ps_set (i := 4) sc_law_is_tree.nd rfl (.inr rfl) (pe_lc (own := [("pair", 3)]) (g := (gName 3)) (tt := tYes) rfl sc_law_is_tree.nd (pi_sq (pv 1)) (blkOk_by (own := [("pair", 3)]) (N := ["atoms", "value", "many", "pair", "children", "k", "used", "atom", "x", "has", "index", "met", "turn", "child", "parent"]) (sc := defScope s_law_is_tree) (by decide +kernel)) (fun _ _ _ _ _ => (pg_name (i := 3) sc_law_is_tree.nd rfl (Or.inl rfl))) (fun _ _ _ _ _ => pts_nil) (fun _ _ _ _ _ => (pe_ix ix_M (pv 3) pe_int (fun _ _ => rfl)))))
  (pss_cons (ps_if (xt_neNil (pe_lc (own := [("k", 5)]) (g := (gName 5)) (tt := (tTest (tOp (rI0 fun i j => .bl (decide (j ≤ i))) (tOp rIxM (tVar 4) (tOp (rI0 fun i j => .int (i - j)) (tVar 5) (tC (.int 1)))) (tOp rIxM (tVar 4) (tVar 5))))) rfl sc_law_is_tree.nd (pi_range2 (by rfl) T.f_range (pa_cons pe_int (pa_cons (pe_callB call_lenM (by rfl) T.f_len (by decide +kernel) (pa_cons (pv 4) pa_nil)) pa_nil))) (blkOk_by (own := [("k", 5)]) (N := ["atoms", "value", "many", "pair", "children", "k", "used", "atom", "x", "has", "index", "met", "turn", "child", "parent"]) (sc := defScope s_law_is_tree) (by decide +kernel)) (fun _ _ _ _ _ => (pg_name (i := 5) sc_law_is_tree.nd rfl (Or.inl rfl))) (fun _ _ _ _ _ => (pts_one (pt_cmpR op_ge (pe_ix ix_M (pv 4) (pe_op op_sub (pv 5) pe_int) (fun _ _ => rfl)) (pe_ix ix_M (pv 4) (pv 5) (fun _ _ => rfl)) (nomark _)))) (fun _ _ _ _ _ => (pv 5))) hr.units0)
  (pss_one (ps_ret pe_bl))
  pss_nil)
  (pss_cons (ps_set (i := 6) sc_law_is_tree.nd rfl (.inl rfl) (pe_lst pa_nil))
  (pss_cons (ps_for PassesOwn.never rfl (pi_sq (pv 0)) (pg_name (i := 7) sc_law_is_tree.nd rfl (.inl rfl))
  (pss_one (ps_expr (pe_bm PySem.F.plainAttrs_list PySem.F.slot_list_extend PySem.F.type_list_extend mt_extendM (pv 6) (pa_cons (pe_callTy call_listM (by rfl) T.f_list (by decide +kernel) (pa_cons (pe_ix ix_M (pv 7) pe_int (fun _ _ => rfl)) pa_nil)) pa_nil)))))
  (pss_cons (ps_for PassesOwn.never rfl (pi_sq (pe_op op_addM (pe_lst (pa_cons pe_non pa_nil)) (pe_callB (call_sortSetM rfl) (by rfl) T.f_sorted (by decide +kernel) (pa_cons (pe_callTy (call_setM rfl) (by rfl) T.f_set (by decide +kernel) (pa_cons (pv 6) pa_nil)) pa_nil)))) (pg_name (i := 8) sc_law_is_tree.nd rfl (.inr rfl))
  (pss_cons (ps_setLc (i := 9) (own := [("index", 10)]) (g := (gName 10)) (tt := (tOr (tB (tIsN (tVar 8))) (tTest (tOp (rInM false) (tVar 8) (tOp rIxM (tOp rIxM (tVar 0) (tVar 10)) (tC (.int 2))))))) rfl sc_law_is_tree.nd rfl rfl (sw_true rfl rfl rfl (by decide +kernel)) (pi_range1 (by rfl) T.f_range (pa_cons (pv 2) pa_nil)) (blkOk_by (own := [("index", 10)]) (N := ["atoms", "value", "many", "pair", "children", "k", "used", "atom", "x", "has", "index", "met", "turn", "child", "parent"]) (sc := defScope s_law_is_tree) (by decide +kernel)) (fun _ _ _ _ _ => (pg_name (i := 10) sc_law_is_tree.nd rfl (Or.inl rfl))) (fun _ _ _ _ _ => (pts_one (PW.pt (pw_or (pt_cmp (pc_isN (pv 8))) (pw_or1 (pt_cmpR op_inM (pv 8) (pe_ix ix_M (pe_ix ix_M (pv 0) (pv 10) (fun _ _ => rfl)) pe_int (fun _ _ => rfl)) (by rfl))))))) (fun _ _ _ _ _ => (pv 10)))
  (pss_cons (ps_set (i := 11) sc_law_is_tree.nd rfl (.inl rfl) (pe_slice sl_M (pv 9) po_none (po_some pe_int)))
  (pss_cons (ps_for PassesOwn.never rfl (pi_range1 (by rfl) T.f_range (pa_cons (pv 2) pa_nil)) (pg_name (i := 12) sc_law_is_tree.nd rfl (.inl rfl))
  (pss_one (ps_for PassesOwn.never rfl (pi_sq (pv 1)) (pg_tup rfl (pgs_cons (pg_name (i := 13) sc_law_is_tree.nd rfl (.inl rfl)) (pgs_cons (pg_name (i := 14) sc_law_is_tree.nd rfl (.inl rfl)) pgs_nil)))
  (pss_one (ps_if (PW.pt (pw_and (pt_cmpR op_inM (pv 13) (pv 9) (by rfl)) (pw_and (pt_cmpR op_inM (pv 14) (pv 9) (by rfl)) (pw_and1 (pt_cmpR op_neM (pe_cmpR op_inM (pv 13) (pv 11) (by rfl)) (pe_cmpR op_inM (pv 14) (pv 11) (by rfl)) (nomark _))))))
  (pss_one (ps_expr (pe_bm PySem.F.plainAttrs_list PySem.F.slot_list_append PySem.F.type_list_append mt_appendM (pv 11) (pa_cons (pe_ifExp (pt_cmpR op_inM (pv 13) (pv 11) (by rfl)) (pv 14) (pv 13)) pa_nil))))
  pss_nil)))))
  (pss_one (ps_if (pt_cmpR op_neM (pe_callB call_lenM (by rfl) T.f_len (by decide +kernel) (pa_cons (pv 11) pa_nil)) (pe_callB call_lenM (by rfl) T.f_len (by decide +kernel) (pa_cons (pv 9) pa_nil)) (nomark _))
  (pss_one (ps_ret pe_bl))
  pss_nil))))))
  (pss_one (ps_ret pe_bl))))))))))

abbrev s_law_is_left : Stmt := top 39
theorem sc_law_is_left : FnScope ["atoms", "value", "one", "k", "every"] ["atoms", "value"] (defScope s_law_is_left) := ⟨rfl, rfl, rfl, by decide +kernel, rfl, by decide +kernel, by decide +kernel⟩
theorem b_law_is_left : Plain "_law_is_left" s_law_is_left ["atoms", "value"] := fun _ _ _ _ _ _ us hl => match us, hl with | [_, _], _ => rfl
def t_law_is_left (K : PySem.W.Frag) (sp_law_is_below : Sp) (sp_law_left_out : Sp) : TS := (tSeq (tIfS (tOr (tNot (tB (tIss [.lst, .tup] (tVar 1)))) (tOr (tTest (tOp (rI0 fun i j => .bl (decide (i < j))) (tCB rLenM (tCons (tVar 1) tNil)) (tC (.int 3)))) (tB (tEqNil true (tLc (iSq K (tVar 1)) (gName 2) (tNot (tB (tFn sp_law_is_below (tCons (tVar 2) (tCons (tCB rLenM (tCons (tVar 0) tNil)) tNil))))) (tVar 2) [2]))))) (tRet (tC (.bl false))) tNext) (tSeq (tIfS (tB (tEqNil true (tLc (iRng2 (tCons (tC (.int 1)) (tCons (tCB rLenM (tCons (tVar 1) tNil)) tNil))) (gName 3) (tTest (tOp (rI0 fun i j => .bl (decide (j ≤ i))) (tOp rIxM (tVar 1) (tOp (rI0 fun i j => .int (i - j)) (tVar 3) (tC (.int 1)))) (tOp rIxM (tVar 1) (tVar 3)))) (tVar 3) [3]))) (tRet (tC (.bl false))) tNext) (tSeq (tAsg (tLstRg (tRg1 (tCB rLenM (tCons (tVar 0) tNil)))) (gName 4)) (tRet (tAndV (tOp (rNeI false) (tOp rIxM (tFn sp_law_left_out (tCons (tVar 0) (tCons (tRevL K (tVar 4)) (tCons (tCB rListM (tCons (tVar 1) tNil)) tNil)))) (tC (.int 1))) (tCB rListM (tCons (tVar 1) tNil))) (tOp (rNeI false) (tOp rIxM (tFn sp_law_left_out (tCons (tVar 0) (tCons (tCB rListM (tCons (tVar 1) tNil)) (tCons (tLst tNil) tNil)))) (tC (.int 1))) (tCB rListM (tCons (tVar 1) tNil))))))))
theorem d_law_is_left {P : Program} {w : World} {K : PySem.W.Frag} {mg : Str → Option Value} {base : Heap} {k : Nat} {k_law_is_below : Nat} {sp_law_is_below : Sp} {k_law_left_out : Nat} {sp_law_left_out : Sp} (T : Top K w mg) (c_law_is_below : Cal P w K mg base k_law_is_below "_law_is_below" ["value", "many"] sp_law_is_below) (l_law_is_below : k_law_is_below ≤ k) (c_law_left_out : Cal P w K mg base k_law_left_out "_law_left_out" ["atoms", "order", "kept"] sp_law_left_out) (l_law_left_out : k_law_left_out ≤ k) {f : Addr} {cdv : Value} {A : Around} {outer : List Env} {s : Shared} {H : Hp} {E : XK} (hr : Room k (A.deeper (envOfC "_law_is_left" (defScope s_law_is_left) s.heap.objs.size f cdv))) : PSs (cxN P w K mg base ["atoms", "value", "one", "k", "every"] "_law_is_left" (defScope s_law_is_left) f cdv A outer s H E) (defBody s_law_is_left) (t_law_is_left K sp_law_is_below sp_law_left_out) :=
  (pss_cons (ps_if (PW.pt (pw_or (pt_not (pt_val (xe_iss [.lst, .tup] (pv 1) T.f_isinstance (.cons T.f_list rfl (by decide +kernel) (by decide) (by decide) rfl (.cons T.f_tuple rfl (by decide +kernel) (by decide) (by decide) rfl .nil)) (by decide)))) (pw_or (pt_cmpR op_lt (pe_callB call_lenM (by rfl) T.f_len (by decide +kernel) (pa_cons (pv 1) pa_nil)) pe_int (nomark _)) (pw_or1 (xt_neNil (pe_lc (own := [("one", 2)]) (g := (gName 2)) (tt := (tNot (tB (tFn sp_law_is_below (tCons (tVar 2) (tCons (tCB rLenM (tCons (tVar 0) tNil)) tNil)))))) rfl sc_law_is_left.nd (pi_sq (pv 1)) (blkOk_by (own := [("one", 2)]) (N := ["atoms", "value", "one", "k", "every"]) (sc := defScope s_law_is_left) (by decide +kernel)) (fun _ _ _ _ _ => (pg_name (i := 2) sc_law_is_left.nd rfl (Or.inl rfl))) (fun _ _ _ _ _ => (pts_one (pt_not (pt_val (xe_call c_law_is_below hr l_law_is_below (pa_cons (pv 2) (pa_cons (pe_callB call_lenM (by rfl) T.f_len (by decide +kernel) (pa_cons (pv 0) pa_nil)) pa_nil))))))) (fun _ _ _ _ _ => (pv 2))) hr.units0)))))
  (pss_one (ps_ret pe_bl))
  pss_nil)
  (pss_cons (ps_if (xt_neNil (pe_lc (own := [("k", 3)]) (g := (gName 3)) (tt := (tTest (tOp (rI0 fun i j => .bl (decide (j ≤ i))) (tOp rIxM (tVar 1) (tOp (rI0 fun i j => .int (i - j)) (tVar 3) (tC (.int 1)))) (tOp rIxM (tVar 1) (tVar 3))))) rfl sc_law_is_left.nd (pi_range2 (by rfl) T.f_range (pa_cons pe_int (pa_cons (pe_callB call_lenM (by rfl) T.f_len (by decide +kernel) (pa_cons (pv 1) pa_nil)) pa_nil))) (blkOk_by (own := [("k", 3)]) (N := ["atoms", "value", "one", "k", "every"]) (sc := defScope s_law_is_left) (by decide +kernel)) (fun _ _ _ _ _ => (pg_name (i := 3) sc_law_is_left.nd rfl (Or.inl rfl))) (fun _ _ _ _ _ => (pts_one (pt_cmpR op_ge (pe_ix ix_M (pv 1) (pe_op op_sub (pv 3) pe_int) (fun _ _ => rfl)) (pe_ix ix_M (pv 1) (pv 3) (fun _ _ => rfl)) (nomark _)))) (fun _ _ _ _ _ => (pv 3))) hr.units0)
  (pss_one (ps_ret pe_bl))
  pss_nil)
  (pss_cons (ps_set (i := 4) sc_law_is_left.nd rfl (.inl rfl) (pe_listRg rfl (by rfl) T.f_list (prg_1 (by rfl) T.f_range (pe_callB call_lenM (by rfl) T.f_len (by decide +kernel) (pa_cons (pv 0) pa_nil)))))
  (pss_one (ps_ret (pe_and (pe_cmpR (op_eqI hr.units) (pe_ix ix_M (xe_call c_law_left_out hr l_law_left_out (pa_cons (pv 0) (pa_cons (pe_revL (pv 4)) (pa_cons (pe_callTy call_listM (by rfl) T.f_list (by decide +kernel) (pa_cons (pv 1) pa_nil)) pa_nil)))) pe_int (fun _ _ => rfl)) (pe_callTy call_listM (by rfl) T.f_list (by decide +kernel) (pa_cons (pv 1) pa_nil)) (nomark _)) (pe_one (pe_cmpR (op_eqI hr.units) (pe_ix ix_M (xe_call c_law_left_out hr l_law_left_out (pa_cons (pv 0) (pa_cons (pe_callTy call_listM (by rfl) T.f_list (by decide +kernel) (pa_cons (pv 1) pa_nil)) (pa_cons (pe_lst pa_nil) pa_nil)))) pe_int (fun _ _ => rfl)) (pe_callTy call_listM (by rfl) T.f_list (by decide +kernel) (pa_cons (pv 1) pa_nil)) (nomark _)))))))))

end K44
set_option Elab.async false
set_option linter.all false
set_option maxRecDepth 100000
set_option maxHeartbeats 4000000
namespace K44
open PySem PySem.Spec PyProof.Rows L2 MT
open SX (S)
abbrev s_law_conjunction : Stmt := top 40
theorem sc_law_conjunction : FnScope ["box", "names", "most", "many", "way", "atoms", "words", "name", "long", "k", "turn", "known", "variables", "place"] ["box", "names", "most"] (defScope s_law_conjunction) := ⟨rfl, rfl, rfl, by decide +kernel, rfl, by decide +kernel, by decide +kernel⟩
theorem b_law_conjunction : Plain "_law_conjunction" s_law_conjunction ["box", "names", "most"] := fun _ _ _ _ _ _ us hl => match us, hl with | [_, _, _], _ => rfl
def t_law_conjunction (K : PySem.W.Frag) (sp_law_take : Sp) (sp_law_mixed : Sp) : TS := (tSeq (tPar3 3 4 5 (tCons (tOp rAddM (tC (.int 1)) (tFn sp_law_take (tCons (tVar 0) (tCons (tC (.int 7)) tNil)))) (tCons (tFn sp_law_take (tCons (tVar 0) (tCons (tC (.int 4)) tNil))) (tCons (tLst tNil) tNil)))) (tSeq (tAsg (tCB rSortSM (tCons (tCB rListDM (tCons (tVar 1) tNil)) tNil)) (gName 6)) (tSeq (tIfS (tAnd (tTest (tOp rEqM (tVar 4) (tC (.int 1)))) (tB (tEqNil true (tLc (iSq K (tVar 6)) (gName 7) (tTest (tOp rEqM (tDGet (tVar 1) (tVar 7)) (tC (.int 2)))) (tVar 7) [7])))) (tSeq (tAsg (tTup (tCons (tOp rIxM (tLc (iSq K (tVar 6)) (gName 7) (tTest (tOp rEqM (tDGet (tVar 1) (tVar 7)) (tC (.int 2)))) (tVar 7) [7]) (tC (.int 0))) (tCons (tOp rAddM (tC (.int 3)) (tFn sp_law_take (tCons (tVar 0) (tCons (tC (.int 3)) tNil)))) tNil))) (gTup K 2 (gCons (gName 7) (gCons (gName 8) gNil)))) (tSeq (tAsg (tCB rMaxM (tCons (tVar 3) (tCons (tVar 8) tNil))) (gName 3)) (tAsg (tLc (iRng1 (tCons (tVar 8) tNil)) (gName 9) tYes (tTup (tCons (tC (.str (S [105, 110]))) (tCons (tVar 7) (tCons (tTup (tCons (tVar 9) (tCons (tOp (rI (fun _ j => j ≠ 0) fun i j => .int (i.fmod j)) (tCB rInt (tCons (tOp rAddM (tVar 9) (tC (.int 1))) tNil)) (tVar 8)) tNil))) tNil)))) [9]) (gName 5)))) tNext) (tSeq (tFor (iRng1 (tCons (tFn sp_law_take (tCons (tVar 0) (tCons (tCB rMaxM (tCons (tC (.int 1)) (tCons (tOp (rI0 fun i j => .int (i - j)) (tOp rAddM (tVar 2) (tC (.int 1))) (tCB rLenM (tCons (tVar 5) tNil))) tNil))) tNil))) tNil)) (gName 10) (tSeq (tAsg (tOp rIxM (tVar 6) (tFn sp_law_take (tCons (tVar 0) (tCons (tCB rLenM (tCons (tVar 6) tNil)) tNil)))) (gName 7)) (tSeq (tAsg (tIf (tB (tEqNil true (tVar 5))) (tCB rListM (tCons (tOp rIxM (tOp rIxM (tVar 5) (tFn sp_law_take (tCons (tVar 0) (tCons (tCB rLenM (tCons (tVar 5) tNil)) tNil)))) (tC (.int 2))) tNil)) (tLst tNil)) (gName 11)) (tSeq (tAsg (tLst tNil) (gName 12)) (tSeq (tFor (iRng1 (tCons (tDGet (tVar 1) (tVar 7)) tNil)) (gName 13) (tIfS (tAnd (tTest (tOp rNeM (tVar 4) (tC (.int 2)))) (tAnd (tB (tEqNil true (tVar 11))) (tTest (tOp rEqM (tFn sp_law_take (tCons (tVar 0) (tCons (tC (.int 2)) tNil))) (tC (.int 0)))))) (tDrop (tBM K "list" rAppendM (tVar 12) (tCons (tOp rIxM (tVar 11) (tFn sp_law_take (tCons (tVar 0) (tCons (tCB rLenM (tCons (tVar 11) tNil)) tNil)))) tNil))) (tIfS (tAnd (tTest (tOp rEqM (tVar 4) (tC (.int 0)))) (tTest (tOp (rI0 fun i j => .bl (decide (i < j))) (tVar 3) (tC (.int 14))))) (tSeq (tDrop (tBM K "list" rAppendM (tVar 12) (tCons (tVar 3) tNil))) (tAsg (tOp rAddM (tVar 3) (tC (.int 1))) (gName 3))) (tDrop (tBM K "list" rAppendM (tVar 12) (tCons (tFn sp_law_take (tCons (tVar 0) (tCons (tVar 3) tNil))) tNil)))))) (tDrop (tBM K "list" rAppendM (tVar 5) (tCons (tTup (tCons (tC (.str (S [105, 110]))) (tCons (tVar 7) (tCons (tCB rTupM (tCons (tVar 12) tNil)) tNil)))) tNil)))))))) (tRet (tTup (tCons (tVar 3) (tCons (tFn sp_law_mixed (tCons (tVar 0) (tCons (tVar 5) tNil))) tNil))))))))
theorem d_law_conjunction {P : Program} {w : World} {K : PySem.W.Frag} {mg : Str → Option Value} {base : Heap} {k : Nat} {k_law_take : Nat} {sp_law_take : Sp} {k_law_mixed : Nat} {sp_law_mixed : Sp} (T : Top K w mg) (c_law_take : Cal P w K mg base k_law_take "_law_take" ["box", "many"] sp_law_take) (l_law_take : k_law_take ≤ k) (c_law_mixed : Cal P w K mg base k_law_mixed "_law_mixed" ["box", "items"] sp_law_mixed) (l_law_mixed : k_law_mixed ≤ k) {f : Addr} {cdv : Value} {A : Around} {outer : List Env} {s : Shared} {H : Hp} {E : XK} (hr : Room k (A.deeper (envOfC "_law_conjunction" (defScope s_law_conjunction) s.heap.objs.size f cdv))) : PSs (cxN P w K mg base ["box", "names", "most", "many", "way", "atoms", "words", "name", "long", "k", "turn", "known", "variables", "place"] "_law_conjunction" (defScope s_law_conjunction) f cdv A outer s H E) (defBody s_law_conjunction) (t_law_conjunction K sp_law_take sp_law_mixed) :=
  (pss_cons (ps_par3 (i := 3) (j := 4) (l := 5) rfl sc_law_conjunction.nd rfl rfl rfl (by decide) (by decide) (by decide) rfl rfl rfl (pa_cons (pe_op op_addM pe_int (xe_call c_law_take hr l_law_take (pa_cons (pv 0) (pa_cons pe_int pa_nil)))) (pa_cons (xe_call c_law_take hr l_law_take (pa_cons (pv 0) (pa_cons pe_int pa_nil))) (pa_cons (pe_lst pa_nil) pa_nil))) (by rfl))
  (pss_cons (ps_set (i := 6) sc_law_conjunction.nd rfl (.inl rfl) (pe_callB call_sortSM (by rfl) T.f_sorted (by decide +kernel) (pa_cons (pe_callTy (call_listDM rfl) (by rfl) T.f_list (by decide +kernel) (pa_cons (pv 1) pa_nil)) pa_nil)))
  (pss_cons (ps_if (PW.pt (pw_and (pt_cmpR op_eqM (pv 4) pe_int (nomark _)) (pw_and1 (xt_neNil (pe_lc (own := [("name", 7)]) (g := (gName 7)) (tt := (tTest (tOp rEqM (tDGet (tVar 1) (tVar 7)) (tC (.int 2))))) rfl sc_law_conjunction.nd (pi_sq (pv 6)) (blkOk_by (own := [("name", 7)]) (N := ["box", "names", "most", "many", "way", "atoms", "words", "name", "long", "k", "turn", "known", "variables", "place"]) (sc := defScope s_law_conjunction) (by decide +kernel)) (fun _ _ _ _ _ => (pg_name (i := 7) sc_law_conjunction.nd rfl (Or.inl rfl))) (fun _ _ _ _ _ => (pts_one (pt_cmpR op_eqM (pe_dget (ru1 hr) (pv 1) (pv 7) (fun _ _ => rfl)) pe_int (nomark _)))) (fun _ _ _ _ _ => (pv 7))) hr.units0))))
  (pss_cons (ps_asg (pe_tup (pa_cons (pe_ix ix_M (pe_lc (own := [("name", 7)]) (g := (gName 7)) (tt := (tTest (tOp rEqM (tDGet (tVar 1) (tVar 7)) (tC (.int 2))))) rfl sc_law_conjunction.nd (pi_sq (pv 6)) (blkOk_by (own := [("name", 7)]) (N := ["box", "names", "most", "many", "way", "atoms", "words", "name", "long", "k", "turn", "known", "variables", "place"]) (sc := defScope s_law_conjunction) (by decide +kernel)) (fun _ _ _ _ _ => (pg_name (i := 7) sc_law_conjunction.nd rfl (Or.inl rfl))) (fun _ _ _ _ _ => (pts_one (pt_cmpR op_eqM (pe_dget (ru1 hr) (pv 1) (pv 7) (fun _ _ => rfl)) pe_int (nomark _)))) (fun _ _ _ _ _ => (pv 7))) pe_int (fun _ _ => rfl)) (pa_cons (pe_op op_addM pe_int (xe_call c_law_take hr l_law_take (pa_cons (pv 0) (pa_cons pe_int pa_nil)))) pa_nil))) (pg_tup rfl (pgs_cons (pg_name (i := 7) sc_law_conjunction.nd rfl (.inr rfl)) (pgs_cons (pg_name (i := 8) sc_law_conjunction.nd rfl (.inr rfl)) pgs_nil))))
  (pss_cons (ps_set (i := 3) sc_law_conjunction.nd rfl (.inl rfl) (pe_callB (call_maxM rfl) (by rfl) T.f_max (by decide +kernel) (pa_cons (pv 3) (pa_cons (pv 8) pa_nil))))
  (pss_one (ps_setLc (i := 5) (own := [("k", 9)]) (g := (gName 9)) (tt := tYes) rfl sc_law_conjunction.nd rfl rfl (sw_true rfl rfl rfl (by decide +kernel)) (pi_range1 (by rfl) T.f_range (pa_cons (pv 8) pa_nil)) (blkOk_by (own := [("k", 9)]) (N := ["box", "names", "most", "many", "way", "atoms", "words", "name", "long", "k", "turn", "known", "variables", "place"]) (sc := defScope s_law_conjunction) (by decide +kernel)) (fun _ _ _ _ _ => (pg_name (i := 9) sc_law_conjunction.nd rfl (Or.inl rfl))) (fun _ _ _ _ _ => pts_nil) (fun _ _ _ _ _ => (pe_tup (pa_cons (xe_str (by decide +kernel)) (pa_cons (pv 7) (pa_cons (pe_tup (pa_cons (pv 9) (pa_cons (pe_op op_modN (pe_callTy call_intM (by rfl) T.f_int (by decide +kernel) (pa_cons (pe_op op_addM (pv 9) pe_int) pa_nil)) (pv 8)) pa_nil))) pa_nil)))))))))
  pss_nil)
  (pss_cons (ps_for PassesOwn.never rfl (pi_range1 (by rfl) T.f_range (pa_cons (xe_call c_law_take hr l_law_take (pa_cons (pv 0) (pa_cons (pe_callB (call_maxM rfl) (by rfl) T.f_max (by decide +kernel) (pa_cons pe_int (pa_cons (pe_op op_sub (pe_op op_addM (pv 2) pe_int) (pe_callB call_lenM (by rfl) T.f_len (by decide +kernel) (pa_cons (pv 5) pa_nil))) pa_nil))) pa_nil))) pa_nil)) (pg_name (i := 10) sc_law_conjunction.nd rfl (.inl rfl))
  (pss_cons (ps_set (i := 7) sc_law_conjunction.nd rfl (.inr rfl) (pe_ix ix_M (pv 6) (xe_call c_law_take hr l_law_take (pa_cons (pv 0) (pa_cons (pe_callB call_lenM (by rfl) T.f_len (by decide +kernel) (pa_cons (pv 6) pa_nil)) pa_nil))) (fun _ _ => rfl)))
  (pss_cons (ps_set (i := 11) sc_law_conjunction.nd rfl (.inl rfl) (pe_ifExp (xt_neNil (pv 5) hr.units0) (pe_callTy call_listM (by rfl) T.f_list (by decide +kernel) (pa_cons (pe_ix ix_M (pe_ix ix_M (pv 5) (xe_call c_law_take hr l_law_take (pa_cons (pv 0) (pa_cons (pe_callB call_lenM (by rfl) T.f_len (by decide +kernel) (pa_cons (pv 5) pa_nil)) pa_nil))) (fun _ _ => rfl)) pe_int (fun _ _ => rfl)) pa_nil)) (pe_lst pa_nil)))
  (pss_cons (ps_set (i := 12) sc_law_conjunction.nd rfl (.inl rfl) (pe_lst pa_nil))
  (pss_cons (ps_for PassesOwn.never rfl (pi_range1 (by rfl) T.f_range (pa_cons (pe_dget (ru1 hr) (pv 1) (pv 7) (fun _ _ => rfl)) pa_nil)) (pg_name (i := 13) sc_law_conjunction.nd rfl (.inl rfl))
  (pss_one (ps_if (PW.pt (pw_and (pt_cmpR op_neM (pv 4) pe_int (nomark _)) (pw_and (xt_neNil (pv 11) hr.units0) (pw_and1 (pt_cmpR op_eqM (xe_call c_law_take hr l_law_take (pa_cons (pv 0) (pa_cons pe_int pa_nil))) pe_int (nomark _))))))
  (pss_one (ps_expr (pe_bm PySem.F.plainAttrs_list PySem.F.slot_list_append PySem.F.type_list_append mt_appendM (pv 12) (pa_cons (pe_ix ix_M (pv 11) (xe_call c_law_take hr l_law_take (pa_cons (pv 0) (pa_cons (pe_callB call_lenM (by rfl) T.f_len (by decide +kernel) (pa_cons (pv 11) pa_nil)) pa_nil))) (fun _ _ => rfl)) pa_nil))))
  (pss_one (ps_if (PW.pt (pw_and (pt_cmpR op_eqM (pv 4) pe_int (nomark _)) (pw_and1 (pt_cmpR op_lt (pv 3) pe_int (nomark _)))))
  (pss_cons (ps_expr (pe_bm PySem.F.plainAttrs_list PySem.F.slot_list_append PySem.F.type_list_append mt_appendM (pv 12) (pa_cons (pv 3) pa_nil)))
  (pss_one (ps_set (i := 3) sc_law_conjunction.nd rfl (.inl rfl) (pe_op op_addM (pv 3) pe_int))))
  (pss_one (ps_expr (pe_bm PySem.F.plainAttrs_list PySem.F.slot_list_append PySem.F.type_list_append mt_appendM (pv 12) (pa_cons (xe_call c_law_take hr l_law_take (pa_cons (pv 0) (pa_cons (pv 3) pa_nil))) pa_nil)))))))))
  (pss_one (ps_expr (pe_bm PySem.F.plainAttrs_list PySem.F.slot_list_append PySem.F.type_list_append mt_appendM (pv 5) (pa_cons (pe_tup (pa_cons (xe_str (by decide +kernel)) (pa_cons (pv 7) (pa_cons (pe_callTy call_tupM (by rfl) T.f_tuple (by decide +kernel) (pa_cons (pv 12) pa_nil)) pa_nil)))) pa_nil)))))))))
  (pss_one (ps_ret (pe_tup (pa_cons (pv 3) (pa_cons (xe_call c_law_mixed hr l_law_mixed (pa_cons (pv 0) (pa_cons (pv 5) pa_nil))) pa_nil)))))))))

abbrev s_law_near : Stmt := top 42
theorem sc_law_near : FnScope ["box", "atoms", "links", "left", "many", "every", "found", "pair", "at", "one", "k"] ["box", "atoms", "links", "left"] (defScope s_law_near) := ⟨rfl, rfl, rfl, by decide +kernel, rfl, by decide +kernel, by decide +kernel⟩
theorem b_law_near : Plain "_law_near" s_law_near ["box", "atoms", "links", "left"] := fun _ _ _ _ _ _ us hl => match us, hl with | [_, _, _, _], _ => rfl
def t_law_near (K : PySem.W.Frag) (sp_law_take : Sp) (sp_law_mixed : Sp) : TS := (tSeq (tPar 4 5 (tCons (tCB rLenM (tCons (tVar 1) tNil)) (tCons (tLstRg (tRg1 (tCB rLenM (tCons (tVar 1) tNil)))) tNil))) (tSeq (tAsg (tLst (tCons (tVar 2) (tCons (tCB rTupM (tCons (tVar 2) tNil)) (tCons (tRevL K (tVar 2)) (tCons (tSl rSlM (tVar 2) (tPart (tC (.int 1))) tNoPart) (tCons (tOp rAddM (tVar 2) (tSl rSlM (tVar 2) tNoPart (tPart (tC (.int 1))))) (tCons (tLc (iSq K (tVar 2)) (gName 7) tYes (tCB rListM (tCons (tVar 7) tNil)) [7]) (tCons (tC .non) (tCons (tC (.int 7)) (tCons (tC (.str (S [116, 114, 101, 101]))) (tCons tDNewK (tCons (tLst (tCons (tC .non) tNil)) (tCons (tLst (tCons (tTup tNil) tNil)) tNil))))))))))))) (gName 6)) (tSeq (tAsg (tFn sp_law_take (tCons (tVar 0) (tCons (tCB rMaxM (tCons (tC (.int 1)) (tCons (tCB rLenM (tCons (tVar 2) tNil)) tNil))) tNil))) (gName 8)) (tSeq (tFor (iSq K (tIf (tB (tEqNil true (tVar 2))) (tLst (tCons (tTup (tCons (tOp rIxM (tOp rIxM (tVar 2) (tVar 8)) (tC (.int 1))) (tCons (tOp rIxM (tOp rIxM (tVar 2) (tVar 8)) (tC (.int 0))) tNil))) (tCons (tTup (tCons (tOp rIxM (tOp rIxM (tVar 2) (tVar 8)) (tC (.int 0))) (tCons (tFn sp_law_take (tCons (tVar 0) (tCons (tVar 4) tNil))) tNil))) (tCons (tTup (tCons (tOp rIxM (tOp rIxM (tVar 2) (tVar 8)) (tC (.int 0))) (tCons (tC (.bl true)) tNil))) (tCons (tOp rAddM (tOp rIxM (tVar 2) (tVar 8)) (tTup (tCons (tC (.int 0)) tNil))) tNil))))) (tLst tNil))) (gName 7) (tDrop (tBM K "list" rAppendM (tVar 6) (tCons (tOp rAddM (tOp rAddM (tSl rSlM (tVar 2) tNoPart (tPart (tVar 8))) (tLst (tCons (tVar 7) tNil))) (tSl rSlM (tVar 2) (tPart (tOp rAddM (tVar 8) (tC (.int 1)))) tNoPart)) tNil)))) (tSeq (tAsg (tOp rAddM (tVar 6) (tLst (tCons (tVar 3) (tCons (tCB rTupM (tCons (tVar 3) tNil)) (tCons (tRevL K (tVar 3)) (tCons (tSl rSlM (tVar 3) (tPart (tC (.int 1))) tNoPart) (tCons (tCB rSortM (tCons (tOp rAddM (tVar 3) (tLst (tCons (tFn sp_law_take (tCons (tVar 0) (tCons (tCB rMaxM (tCons (tC (.int 1)) (tCons (tVar 4) tNil))) tNil))) tNil))) tNil)) (tCons (tVar 5) (tCons (tSl rSlM (tVar 5) tNoPart (tPart (tC (.int 3)))) (tCons (tSl rSlM (tVar 5) (tPart (tC (.int 1))) tNoPart) (tCons (tLc (iSq K (tVar 3)) (gName 9) tYes (tCB rStrI (tCons (tVar 9) tNil)) [9]) (tCons (tOp rRepM (tLst (tCons (tC (.bl true)) tNil)) (tC (.int 3))) tNil)))))))))))) (gName 6)) (tRet (tOp rAddM (tVar 6) (tLst (tCons (tCB rSortM (tCons (tSl rSlM (tFn sp_law_mixed (tCons (tVar 0) (tCons (tVar 5) tNil))) tNoPart (tPart (tOp rAddM (tC (.int 3)) (tFn sp_law_take (tCons (tVar 0) (tCons (tC (.int 3)) tNil)))))) tNil)) (tCons (tLc (iSq K (tSl rSlM (tVar 5) tNoPart (tPart (tUn (rU fun i => .int (-i)) (tC (.int 1)))))) (gName 10) tYes (tTup (tCons (tVar 10) (tCons (tOp rAddM (tVar 10) (tC (.int 1))) tNil))) [10]) (tCons (tLc (iSq K (tSl rSlM (tVar 5) (tPart (tC (.int 1))) tNoPart)) (gName 10) tYes (tTup (tCons (tVar 10) (tCons (tC (.int 0)) tNil))) [10]) tNil)))))))))))
theorem d_law_near {P : Program} {w : World} {K : PySem.W.Frag} {mg : Str → Option Value} {base : Heap} {k : Nat} {k_law_take : Nat} {sp_law_take : Sp} {k_law_mixed : Nat} {sp_law_mixed : Sp} (T : Top K w mg) (c_law_take : Cal P w K mg base k_law_take "_law_take" ["box", "many"] sp_law_take) (l_law_take : k_law_take ≤ k) (c_law_mixed : Cal P w K mg base k_law_mixed "_law_mixed" ["box", "items"] sp_law_mixed) (l_law_mixed : k_law_mixed ≤ k) {f : Addr} {cdv : Value} {A : Around} {outer : List Env} {s : Shared} {H : Hp} {E : XK} (hr : Room k (A.deeper (envOfC "_law_near" (defScope s_law_near) s.heap.objs.size f cdv))) : PSs (cxN P w K mg base ["box", "atoms", "links", "left", "many", "every", "found", "pair", "at", "one", "k"] "_law_near" (defScope s_law_near) f cdv A outer s H E) (defBody s_law_near) (t_law_near K sp_law_take sp_law_mixed) :=
  (pss_cons (ps_par (i := 4) (j := 5) rfl sc_law_near.nd rfl rfl (by decide) rfl rfl (pa_cons (pe_callB call_lenM (by rfl) T.f_len (by decide +kernel) (pa_cons (pv 1) pa_nil)) (pa_cons (pe_listRg rfl (by rfl) T.f_list (prg_1 (by rfl) T.f_range (pe_callB call_lenM (by rfl) T.f_len (by decide +kernel) (pa_cons (pv 1) pa_nil)))) pa_nil)) (by rfl))
  (pss_cons (ps_set (i := 6) sc_law_near.nd rfl (.inl rfl) (pe_lst (pa_cons (pv 2) (pa_cons (pe_callTy call_tupM (by rfl) T.f_tuple (by decide +kernel) (pa_cons (pv 2) pa_nil)) (pa_cons (pe_revL (pv 2)) (pa_cons (pe_slice sl_M (pv 2) (po_some pe_int) po_none) (pa_cons (pe_op op_addM (pv 2) (pe_slice sl_M (pv 2) po_none (po_some pe_int))) (pa_cons (pe_lc (own := [("pair", 7)]) (g := (gName 7)) (tt := tYes) rfl sc_law_near.nd (pi_sq (pv 2)) (blkOk_by (own := [("pair", 7)]) (N := ["box", "atoms", "links", "left", "many", "every", "found", "pair", "at", "one", "k"]) (sc := defScope s_law_near) (by decide +kernel)) (fun _ _ _ _ _ => (pg_name (i := 7) sc_law_near.nd rfl (Or.inl rfl))) (fun _ _ _ _ _ => pts_nil) (fun _ _ _ _ _ => (pe_callTy call_listM (by rfl) T.f_list (by decide +kernel) (pa_cons (pv 7) pa_nil)))) (pa_cons pe_non (pa_cons pe_int (pa_cons (xe_str (by decide +kernel)) (pa_cons pe_dnewK (pa_cons (pe_lst (pa_cons pe_non pa_nil)) (pa_cons (pe_lst (pa_cons (pe_tup pa_nil) pa_nil)) pa_nil))))))))))))))
  (pss_cons (ps_set (i := 8) sc_law_near.nd rfl (.inl rfl) (xe_call c_law_take hr l_law_take (pa_cons (pv 0) (pa_cons (pe_callB (call_maxM rfl) (by rfl) T.f_max (by decide +kernel) (pa_cons pe_int (pa_cons (pe_callB call_lenM (by rfl) T.f_len (by decide +kernel) (pa_cons (pv 2) pa_nil)) pa_nil))) pa_nil))))
  (pss_cons (ps_for PassesOwn.never rfl (pi_sq (pe_ifExp (xt_neNil (pv 2) hr.units0) (pe_lst (pa_cons (pe_tup (pa_cons (pe_ix ix_M (pe_ix ix_M (pv 2) (pv 8) (fun _ _ => rfl)) pe_int (fun _ _ => rfl)) (pa_cons (pe_ix ix_M (pe_ix ix_M (pv 2) (pv 8) (fun _ _ => rfl)) pe_int (fun _ _ => rfl)) pa_nil))) (pa_cons (pe_tup (pa_cons (pe_ix ix_M (pe_ix ix_M (pv 2) (pv 8) (fun _ _ => rfl)) pe_int (fun _ _ => rfl)) (pa_cons (xe_call c_law_take hr l_law_take (pa_cons (pv 0) (pa_cons (pv 4) pa_nil))) pa_nil))) (pa_cons (pe_tup (pa_cons (pe_ix ix_M (pe_ix ix_M (pv 2) (pv 8) (fun _ _ => rfl)) pe_int (fun _ _ => rfl)) (pa_cons pe_bl pa_nil))) (pa_cons (pe_op op_addM (pe_ix ix_M (pv 2) (pv 8) (fun _ _ => rfl)) (pe_tup (pa_cons pe_int pa_nil))) pa_nil))))) (pe_lst pa_nil))) (pg_name (i := 7) sc_law_near.nd rfl (.inl rfl))
  (pss_one (ps_expr (pe_bm PySem.F.plainAttrs_list PySem.F.slot_list_append PySem.F.type_list_append mt_appendM (pv 6) (pa_cons (pe_op op_addM (pe_op op_addM (pe_slice sl_M (pv 2) po_none (po_some (pv 8))) (pe_lst (pa_cons (pv 7) pa_nil))) (pe_slice sl_M (pv 2) (po_some (pe_op op_addM (pv 8) pe_int)) po_none)) pa_nil)))))
  (pss_cons (ps_set (i := 6) sc_law_near.nd rfl (.inl rfl) (pe_op op_addM (pv 6) (pe_lst (pa_cons (pv 3) (pa_cons (pe_callTy call_tupM (by rfl) T.f_tuple (by decide +kernel) (pa_cons (pv 3) pa_nil)) (pa_cons (pe_revL (pv 3)) (pa_cons (pe_slice sl_M (pv 3) (po_some pe_int) po_none) (pa_cons (pe_callB call_sortM (by rfl) T.f_sorted (by decide +kernel) (pa_cons (pe_op op_addM (pv 3) (pe_lst (pa_cons (xe_call c_law_take hr l_law_take (pa_cons (pv 0) (pa_cons (pe_callB (call_maxM rfl) (by rfl) T.f_max (by decide +kernel) (pa_cons pe_int (pa_cons (pv 4) pa_nil))) pa_nil))) pa_nil))) pa_nil)) (pa_cons (pv 5) (pa_cons (pe_slice sl_M (pv 5) po_none (po_some pe_int)) (pa_cons (pe_slice sl_M (pv 5) (po_some pe_int) po_none) (pa_cons (pe_lc (own := [("one", 9)]) (g := (gName 9)) (tt := tYes) rfl sc_law_near.nd (pi_sq (pv 3)) (blkOk_by (own := [("one", 9)]) (N := ["box", "atoms", "links", "left", "many", "every", "found", "pair", "at", "one", "k"]) (sc := defScope s_law_near) (by decide +kernel)) (fun _ _ _ _ _ => (pg_name (i := 9) sc_law_near.nd rfl (Or.inl rfl))) (fun _ _ _ _ _ => pts_nil) (fun _ _ _ _ _ => (pe_callTy call_strM (by rfl) T.f_str (by decide +kernel) (pa_cons (pv 9) pa_nil)))) (pa_cons (pe_op op_repM (pe_lst (pa_cons pe_bl pa_nil)) pe_int) pa_nil)))))))))))))
  (pss_one (ps_ret (pe_op op_addM (pv 6) (pe_lst (pa_cons (pe_callB call_sortM (by rfl) T.f_sorted (by decide +kernel) (pa_cons (pe_slice sl_M (xe_call c_law_mixed hr l_law_mixed (pa_cons (pv 0) (pa_cons (pv 5) pa_nil))) po_none (po_some (pe_op op_addM pe_int (xe_call c_law_take hr l_law_take (pa_cons (pv 0) (pa_cons pe_int pa_nil)))))) pa_nil)) (pa_cons (pe_lc (own := [("k", 10)]) (g := (gName 10)) (tt := tYes) rfl sc_law_near.nd (pi_sq (pe_slice sl_M (pv 5) po_none (po_some (pe_un un_neg pe_int)))) (blkOk_by (own := [("k", 10)]) (N := ["box", "atoms", "links", "left", "many", "every", "found", "pair", "at", "one", "k"]) (sc := defScope s_law_near) (by decide +kernel)) (fun _ _ _ _ _ => (pg_name (i := 10) sc_law_near.nd rfl (Or.inl rfl))) (fun _ _ _ _ _ => pts_nil) (fun _ _ _ _ _ => (pe_tup (pa_cons (pv 10) (pa_cons (pe_op op_addM (pv 10) pe_int) pa_nil))))) (pa_cons (pe_lc (own := [("k", 10)]) (g := (gName 10)) (tt := tYes) rfl sc_law_near.nd (pi_sq (pe_slice sl_M (pv 5) (po_some pe_int) po_none)) (blkOk_by (own := [("k", 10)]) (N := ["box", "atoms", "links", "left", "many", "every", "found", "pair", "at", "one", "k"]) (sc := defScope s_law_near) (by decide +kernel)) (fun _ _ _ _ _ => (pg_name (i := 10) sc_law_near.nd rfl (Or.inl rfl))) (fun _ _ _ _ _ => pts_nil) (fun _ _ _ _ _ => (pe_tup (pa_cons (pv 10) (pa_cons pe_int pa_nil))))) pa_nil))))))))))))

end K44
set_option Elab.async false
set_option linter.all false
set_option maxRecDepth 100000
set_option maxHeartbeats 4000000
namespace K44
open PySem PySem.Spec PyProof.Rows L2 MT
open SX (S)
abbrev s_law_asked : Stmt := top 41
theorem sc_law_asked : FnScope ["word", "conjunction", "value", "named", "e"] ["word", "conjunction", "value", "named"] (defScope s_law_asked) := ⟨rfl, rfl, rfl, by decide +kernel, rfl, by decide +kernel, by decide +kernel⟩
theorem b_law_asked : Plain "_law_asked" s_law_asked ["word", "conjunction", "value", "named"] := fun _ _ _ _ _ _ us hl => match us, hl with | [_, _, _, _], _ => rfl
def t_askedB (sp_join_tree sp_is_join_tree sp_is_ring : Sp) (W : WX) : TS := tSeq (tIfS (tTest (tOp rEqM (tVar 0) (tC (.str (S [116, 114, 101, 101]))))) (tRet (tLst (tCons (tC (.str (S [116, 111, 108, 100]))) (tCons (tIf (tB (tVar 3)) (tFnW sp_join_tree W (tVar 1)) (tFnW sp_join_tree W (tVar 1))) tNil)))) tNext) (tSeq (tIfS (tTest (tOp rEqM (tVar 0) (tC (.str (S [105, 115]))))) (tRet (tLst (tCons (tC (.str (S [116, 111, 108, 100]))) (tCons (tIf (tB (tVar 3)) (tFnK2 sp_is_join_tree W (tVar 2) (tVar 1)) (tFnW2 sp_is_join_tree W (tVar 1) (tVar 2))) tNil)))) tNext)
  (tRet (tLst (tCons (tC (.str (S [116, 111, 108, 100]))) (tCons (tIf (tB (tVar 3)) (tFnK2 sp_is_ring W (tVar 2) (tVar 1)) (tFnW2 sp_is_ring W (tVar 1) (tVar 2))) tNil)))))
def t_askedH (C : Addr) : HTS := fun a cls d => tRet (tLst (tCons (tC (.str (S [99, 111, 110, 106, 117, 110, 99, 116, 105, 111, 110]))) (tCons (tXf a cls d C "given" (tVar 4)) tNil)))
def t_law_asked (K : PySem.W.Frag) (sp_join_tree sp_is_join_tree sp_is_ring : Sp) : TS := fun D σ H => t_askedB sp_join_tree sp_is_join_tree sp_is_ring (wAsM K (fun _ _ _ _ => False) D [(.ref (He.ga K "InvalidConjunction"), 4, t_askedH (He.ga K "InvalidConjunction"))]) D σ H
theorem d_law_asked {P : Program} {w : World} {K : PySem.W.Frag} {mg : Str → Option Value} {base : Heap} {k k_e k_join_tree k_is_join_tree k_is_ring : Nat} {sp_join_tree sp_is_join_tree sp_is_ring : Sp} (T : Top K w mg) (c_join_tree : CalK P w K mg base k_join_tree "join_tree" "conjunction" sp_join_tree) (l_join_tree : k_join_tree ≤ k)
    (c_is_join_tree : CalK2 P w K mg base k_is_join_tree "is_join_tree" "conjunction" "value" sp_is_join_tree) (l_is_join_tree : k_is_join_tree ≤ k) (c_is_ring : CalK2 P w K mg base k_is_ring "is_ring" "conjunction" "value" sp_is_ring) (l_is_ring : k_is_ring ≤ k) (e1 : ExcO P w K mg base k_e "InvalidConjunction" "given" (He.ga K "InvalidConjunction"))
    {f : Addr} {cdv : Value} {A : Around} {outer : List Env} {s : Shared} {H : Hp} {E : XK} (hr : Room k (A.deeper (envOfC "_law_asked" (defScope s_law_asked) s.heap.objs.size f cdv))) :
    PSs (cxN P w K mg base ["word", "conjunction", "value", "named", "e"] "_law_asked" (defScope s_law_asked) f cdv A outer s H E) (defBody s_law_asked) (t_law_asked K sp_join_tree sp_is_join_tree sp_is_ring) :=
  pss_one (ps_try_asM (tb := t_askedB sp_join_tree sp_is_join_tree sp_is_ring) rfl rfl sc_law_asked.nd takes_none5
    (fun W pn xe tk _ => pss_cons (ps_if (pt_cmpR op_eqM (pv 0) (xe_str (by decide +kernel)) (nomark _))
        (pss_one (ps_ret (pe_lst (pa_cons (xe_str (by decide +kernel)) (pa_cons (pe_ifExp (pt_val (pv 3)) (xe_callWK tk c_join_tree hr l_join_tree (pv 1)) (xe_callW tk c_join_tree hr l_join_tree (pv 1))) pa_nil)))))
        pss_nil)
      (pss_cons (ps_if (pt_cmpR op_eqM (pv 0) (xe_str (by decide +kernel)) (nomark _))
        (pss_one (ps_ret (pe_lst (pa_cons (xe_str (by decide +kernel)) (pa_cons (pe_ifExp (pt_val (pv 3)) (xe_callK2 tk c_is_join_tree (hr.mono l_is_join_tree) (pv 2) (pv 1)) (xe_callW2 tk c_is_join_tree (hr.mono l_is_join_tree) (pv 1) (pv 2))) pa_nil)))))
        pss_nil)
      (pss_one (ps_ret (pe_lst (pa_cons (xe_str (by decide +kernel)) (pa_cons (pe_ifExp (pt_val (pv 3)) (xe_callK2 tk c_is_ring (hr.mono l_is_ring) (pv 2) (pv 1)) (xe_callW2 tk c_is_ring (hr.mono l_is_ring) (pv 1) (pv 2))) pa_nil)))))))
    (.cons (i := 4) (ts := t_askedH (He.ga K "InvalidConjunction")) ⟨rfl, by decide, .inl e1.gm⟩ rfl rfl (fun a oe cls d pn hz hf => pss_one (ps_ret (pe_lst (pa_cons (xe_str (by decide +kernel)) (pa_cons (pe_xf e1.xf e1.no hz hf (pv 4)) pa_nil))))) .nil))
end K44
set_option Elab.async false
set_option linter.all false
set_option maxRecDepth 100000
set_option maxHeartbeats 4000000
namespace K44
open PySem PySem.Spec PyProof.Rows L2 MT
open SX (S)
abbrev s_law_conjunction_right : Stmt := top 43
theorem sc_law_conjunction_right : FnScope ["box", "conjunction", "named", "many", "atoms", "every", "ways", "given", "some", "told", "kept", "value", "due"] ["box", "conjunction", "named"] (defScope s_law_conjunction_right) := ⟨rfl, rfl, rfl, by decide +kernel, rfl, by decide +kernel, by decide +kernel⟩
theorem b_law_conjunction_right : Plain "_law_conjunction_right" s_law_conjunction_right ["box", "conjunction", "named"] := fun _ _ _ _ _ _ us hl => match us, hl with | [_, _, _], _ => rfl
def t_law_conjunction_right (K : PySem.W.Frag) (sp_law_left_out : Sp) (sp_law_mixed : Sp) (sp_law_asked : Sp) (sp_law_same : Sp) (sp_law_is_left : Sp) (sp_law_is_tree : Sp) (sp_law_near : Sp) : TS := (tSeq (tAsg (tVar 1) (gTup K 2 (gCons (gName 3) (gCons (gName 4) gNil)))) (tSeq (tAsg (tLstRg (tRg1 (tCB rLenM (tCons (tVar 4) tNil)))) (gName 5)) (tSeq (tAsg (tLst (tCons (tFn sp_law_left_out (tCons (tVar 4) (tCons (tFn sp_law_mixed (tCons (tVar 0) (tCons (tVar 5) tNil))) (tCons (tLst tNil) tNil)))) (tCons (tFn sp_law_left_out (tCons (tVar 4) (tCons (tVar 5) (tCons (tLst tNil) tNil)))) tNil))) (gName 6)) (tSeq (tIfS (tTest (tOp rNeM (tOp (rI0 fun i j => .bl (decide (j < i))) (tCB rLenM (tCons (tOp rIxM (tOp rIxM (tVar 6) (tC (.int 0))) (tC (.int 1))) tNil)) (tC (.int 1))) (tOp (rI0 fun i j => .bl (decide (j < i))) (tCB rLenM (tCons (tOp rIxM (tOp rIxM (tVar 6) (tC (.int 1))) (tC (.int 1))) tNil)) (tC (.int 1))))) (tRet (tC (.bl false))) tNext) (tSeq (tAsg (tLst (tCons (tTup (tCons (tVar 3) (tCons (tCB rListM (tCons (tVar 4) tNil)) tNil))) (tCons (tTup (tCons (tVar 3) (tCons (tCB rTupM (tCons (tVar 4) tNil)) tNil))) tNil))) (gName 7)) (tSeq (tFor (iSq K (tRevL K (tVar 7))) (gName 8) (tSeq (tAsg (tFn sp_law_asked (tCons (tC (.str (S [116, 114, 101, 101]))) (tCons (tVar 8) (tCons (tC .non) (tCons (tVar 2) tNil))))) (gName 9)) (tSeq (tIfS (tOr (tTest (tOp rNeM (tOp rIxM (tVar 9) (tC (.int 0))) (tC (.str (S [116, 111, 108, 100]))))) (tOr (tNot (tB (tIs .tup (tOp rIxM (tVar 9) (tC (.int 1)))))) (tOr (tTest (tOp rNeM (tCB rLenM (tCons (tOp rIxM (tVar 9) (tC (.int 1))) tNil)) (tC (.int 2)))) (tNot (tB (tIs .lst (tOp rIxM (tOp rIxM (tVar 9) (tC (.int 1))) (tC (.int 1))))))))) (tRet (tC (.bl false))) tNext) (tIfS (tTest (tOp (rI0 fun i j => .bl (decide (j < i))) (tCB rLenM (tCons (tOp rIxM (tOp rIxM (tVar 6) (tC (.int 0))) (tC (.int 1))) tNil)) (tC (.int 1)))) (tIfS (tOr (tNot (tB (tFn sp_law_same (tCons (tOp rIxM (tOp rIxM (tVar 9) (tC (.int 1))) (tC (.int 0))) (tCons (tC (.str (S [114, 105, 110, 103]))) tNil))))) (tNot (tB (tFn sp_law_is_left (tCons (tVar 4) (tCons (tOp rIxM (tOp rIxM (tVar 9) (tC (.int 1))) (tC (.int 1))) tNil)))))) (tRet (tC (.bl false))) tNext) (tIfS (tOr (tNot (tB (tFn sp_law_same (tCons (tOp rIxM (tOp rIxM (tVar 9) (tC (.int 1))) (tC (.int 0))) (tCons (tC (.str (S [116, 114, 101, 101]))) tNil))))) (tNot (tB (tFn sp_law_is_tree (tCons (tVar 4) (tCons (tOp rIxM (tOp rIxM (tVar 9) (tC (.int 1))) (tC (.int 1))) tNil)))))) (tRet (tC (.bl false))) tNext))))) (tSeq (tAsg (tCB rListM (tCons (tOp rIxM (tOp rIxM (tVar 9) (tC (.int 1))) (tC (.int 1))) tNil)) (gName 10)) (tSeq (tDrop (tBM K "list" rAppendM (tOp rIxM (tOp rIxM (tVar 9) (tC (.int 1))) (tC (.int 1))) (tCons (tC (.str (S [109, 111, 114, 101]))) tNil))) (tSeq (tIfS (tNot (tB (tFn sp_law_same (tCons (tFn sp_law_asked (tCons (tC (.str (S [116, 114, 101, 101]))) (tCons (tOp rIxM (tVar 7) (tC (.int 0))) (tCons (tC .non) (tCons (tNotV (tVar 2)) tNil))))) (tCons (tLst (tCons (tC (.str (S [116, 111, 108, 100]))) (tCons (tTup (tCons (tOp rIxM (tOp rIxM (tVar 9) (tC (.int 1))) (tC (.int 0))) (tCons (tVar 10) tNil))) tNil))) tNil))))) (tRet (tC (.bl false))) tNext) (tSeq (tFor (iSq K (tOp rAddM (tFn sp_law_near (tCons (tVar 0) (tCons (tVar 4) (tCons (tOp rIxM (tOp rIxM (tVar 6) (tC (.int 0))) (tC (.int 0))) (tCons (tOp rIxM (tOp rIxM (tVar 6) (tC (.int 0))) (tC (.int 1))) tNil))))) (tLst (tCons (tVar 10) tNil)))) (gName 11) (tSeq (tAsg (tLst (tCons (tFn sp_law_is_tree (tCons (tVar 4) (tCons (tVar 11) tNil))) (tCons (tFn sp_law_is_left (tCons (tVar 4) (tCons (tVar 11) tNil))) tNil))) (gName 12)) (tSeq (tIfS (tNot (tB (tFn sp_law_same (tCons (tLst (tCons (tFn sp_law_asked (tCons (tC (.str (S [105, 115]))) (tCons (tOp rIxM (tVar 7) (tC (.int 0))) (tCons (tVar 11) (tCons (tVar 2) tNil))))) (tCons (tFn sp_law_asked (tCons (tC (.str (S [114, 105, 110, 103]))) (tCons (tOp rIxM (tVar 7) (tC (.int 1))) (tCons (tVar 11) (tCons (tNotV (tVar 2)) tNil))))) tNil))) (tCons (tLst (tCons (tLst (tCons (tC (.str (S [116, 111, 108, 100]))) (tCons (tOp rIxM (tVar 12) (tC (.int 0))) tNil))) (tCons (tLst (tCons (tC (.str (S [116, 111, 108, 100]))) (tCons (tOp rIxM (tVar 12) (tC (.int 1))) tNil))) tNil))) tNil))))) (tRet (tC (.bl false))) tNext) (tAsg (tNotV (tVar 2)) (gName 2))))) (tRet (tC (.bl true)))))))))))))
theorem d_law_conjunction_right {P : Program} {w : World} {K : PySem.W.Frag} {mg : Str → Option Value} {base : Heap} {k : Nat} {k_law_left_out : Nat} {sp_law_left_out : Sp} {k_law_mixed : Nat} {sp_law_mixed : Sp} {k_law_asked : Nat} {sp_law_asked : Sp} {k_law_same : Nat} {sp_law_same : Sp} {k_law_is_left : Nat} {sp_law_is_left : Sp} {k_law_is_tree : Nat} {sp_law_is_tree : Sp} {k_law_near : Nat} {sp_law_near : Sp} (T : Top K w mg) (c_law_left_out : Cal P w K mg base k_law_left_out "_law_left_out" ["atoms", "order", "kept"] sp_law_left_out) (l_law_left_out : k_law_left_out ≤ k) (c_law_mixed : Cal P w K mg base k_law_mixed "_law_mixed" ["box", "items"] sp_law_mixed) (l_law_mixed : k_law_mixed ≤ k) (c_law_asked : Cal P w K mg base k_law_asked "_law_asked" ["word", "conjunction", "value", "named"] sp_law_asked) (l_law_asked : k_law_asked ≤ k) (c_law_same : Cal P w K mg base k_law_same "_law_same" ["told", "due"] sp_law_same) (l_law_same : k_law_same ≤ k) (c_law_is_left : Cal P w K mg base k_law_is_left "_law_is_left" ["atoms", "value"] sp_law_is_left) (l_law_is_left : k_law_is_left ≤ k) (c_law_is_tree : Cal P w K mg base k_law_is_tree "_law_is_tree" ["atoms", "value"] sp_law_is_tree) (l_law_is_tree : k_law_is_tree ≤ k) (c_law_near : Cal P w K mg base k_law_near "_law_near" ["box", "atoms", "links", "left"] sp_law_near) (l_law_near : k_law_near ≤ k) {f : Addr} {cdv : Value} {A : Around} {outer : List Env} {s : Shared} {H : Hp} {E : XK} (hr : Room k (A.deeper (envOfC "_law_conjunction_right" (defScope s_law_conjunction_right) s.heap.objs.size f cdv))) : PSs (cxN P w K mg base ["box", "conjunction", "named", "many", "atoms", "every", "ways", "given", "some", "told", "kept", "value", "due"] "_law_conjunction_right" (defScope s_law_conjunction_right) f cdv A outer s H E) (defBody s_law_conjunction_right) (t_law_conjunction_right K sp_law_left_out sp_law_mixed sp_law_asked sp_law_same sp_law_is_left sp_law_is_tree sp_law_near) :=
  (pss_cons (ps_asg (pv 1) (pg_tup rfl (pgs_cons (pg_name (i := 3) sc_law_conjunction_right.nd rfl (.inl rfl)) (pgs_cons (pg_name (i := 4) sc_law_conjunction_right.nd rfl (.inl rfl)) pgs_nil))))
  (pss_cons (ps_set (i := 5) sc_law_conjunction_right.nd rfl (.inl rfl) (pe_listRg rfl (by rfl) T.f_list (prg_1 (by rfl) T.f_range (pe_callB call_lenM (by rfl) T.f_len (by decide +kernel) (pa_cons (pv 4) pa_nil)))))
  (pss_cons (ps_set (i := 6) sc_law_conjunction_right.nd rfl (.inl rfl) (pe_lst (pa_cons (xe_call c_law_left_out hr l_law_left_out (pa_cons (pv 4) (pa_cons (xe_call c_law_mixed hr l_law_mixed (pa_cons (pv 0) (pa_cons (pv 5) pa_nil))) (pa_cons (pe_lst pa_nil) pa_nil)))) (pa_cons (xe_call c_law_left_out hr l_law_left_out (pa_cons (pv 4) (pa_cons (pv 5) (pa_cons (pe_lst pa_nil) pa_nil)))) pa_nil))))
  (pss_cons (ps_if (pt_cmpR op_neM (pe_cmpR op_gt (pe_callB call_lenM (by rfl) T.f_len (by decide +kernel) (pa_cons (pe_ix ix_M (pe_ix ix_M (pv 6) pe_int (fun _ _ => rfl)) pe_int (fun _ _ => rfl)) pa_nil)) pe_int (nomark _)) (pe_cmpR op_gt (pe_callB call_lenM (by rfl) T.f_len (by decide +kernel) (pa_cons (pe_ix ix_M (pe_ix ix_M (pv 6) pe_int (fun _ _ => rfl)) pe_int (fun _ _ => rfl)) pa_nil)) pe_int (nomark _)) (nomark _))
  (pss_one (ps_ret pe_bl))
  pss_nil)
  (pss_cons (ps_set (i := 7) sc_law_conjunction_right.nd rfl (.inl rfl) (pe_lst (pa_cons (pe_tup (pa_cons (pv 3) (pa_cons (pe_callTy call_listM (by rfl) T.f_list (by decide +kernel) (pa_cons (pv 4) pa_nil)) pa_nil))) (pa_cons (pe_tup (pa_cons (pv 3) (pa_cons (pe_callTy call_tupM (by rfl) T.f_tuple (by decide +kernel) (pa_cons (pv 4) pa_nil)) pa_nil))) pa_nil))))
  (pss_cons (ps_for PassesOwn.never rfl (pi_sq (pe_revL (pv 7))) (pg_name (i := 8) sc_law_conjunction_right.nd rfl (.inl rfl))
  (pss_cons (ps_set (i := 9) sc_law_conjunction_right.nd rfl (.inl rfl) (xe_call c_law_asked hr l_law_asked (pa_cons (xe_str (by decide +kernel)) (pa_cons (pv 8) (pa_cons pe_non (pa_cons (pv 2) pa_nil))))))
  (pss_cons (ps_if (PW.pt (pw_or (pt_cmpR op_neM (pe_ix ix_M (pv 9) pe_int (fun _ _ => rfl)) (xe_str (by decide +kernel)) (nomark _)) (pw_or (pt_not (pt_val (xe_is .tup (pe_ix ix_M (pv 9) pe_int (fun _ _ => rfl)) T.f_isinstance T.f_tuple))) (pw_or (pt_cmpR op_neM (pe_callB call_lenM (by rfl) T.f_len (by decide +kernel) (pa_cons (pe_ix ix_M (pv 9) pe_int (fun _ _ => rfl)) pa_nil)) pe_int (nomark _)) (pw_or1 (pt_not (pt_val (xe_is .lst (pe_ix ix_M (pe_ix ix_M (pv 9) pe_int (fun _ _ => rfl)) pe_int (fun _ _ => rfl)) T.f_isinstance T.f_list))))))))
  (pss_one (ps_ret pe_bl))
  pss_nil)
  (pss_one (ps_if (pt_cmpR op_gt (pe_callB call_lenM (by rfl) T.f_len (by decide +kernel) (pa_cons (pe_ix ix_M (pe_ix ix_M (pv 6) pe_int (fun _ _ => rfl)) pe_int (fun _ _ => rfl)) pa_nil)) pe_int (nomark _))
  (pss_one (ps_if (PW.pt (pw_or (pt_not (pt_val (xe_call c_law_same hr l_law_same (pa_cons (pe_ix ix_M (pe_ix ix_M (pv 9) pe_int (fun _ _ => rfl)) pe_int (fun _ _ => rfl)) (pa_cons (xe_str (by decide +kernel)) pa_nil))))) (pw_or1 (pt_not (pt_val (xe_call c_law_is_left hr l_law_is_left (pa_cons (pv 4) (pa_cons (pe_ix ix_M (pe_ix ix_M (pv 9) pe_int (fun _ _ => rfl)) pe_int (fun _ _ => rfl)) pa_nil))))))))
  (pss_one (ps_ret pe_bl))
  pss_nil))
  (pss_one (ps_if (PW.pt (pw_or (pt_not (pt_val (xe_call c_law_same hr l_law_same (pa_cons (pe_ix ix_M (pe_ix ix_M (pv 9) pe_int (fun _ _ => rfl)) pe_int (fun _ _ => rfl)) (pa_cons (xe_str (by decide +kernel)) pa_nil))))) (pw_or1 (pt_not (pt_val (xe_call c_law_is_tree hr l_law_is_tree (pa_cons (pv 4) (pa_cons (pe_ix ix_M (pe_ix ix_M (pv 9) pe_int (fun _ _ => rfl)) pe_int (fun _ _ => rfl)) pa_nil))))))))
  (pss_one (ps_ret pe_bl))
  pss_nil)))))))
  (pss_cons (ps_set (i := 10) sc_law_conjunction_right.nd rfl (.inl rfl) (pe_callTy call_listM (by rfl) T.f_list (by decide +kernel) (pa_cons (pe_ix ix_M (pe_ix ix_M (pv 9) pe_int (fun _ _ => rfl)) pe_int (fun _ _ => rfl)) pa_nil)))
  (pss_cons (ps_expr (pe_bm PySem.F.plainAttrs_list PySem.F.slot_list_append PySem.F.type_list_append mt_appendM (pe_ix ix_M (pe_ix ix_M (pv 9) pe_int (fun _ _ => rfl)) pe_int (fun _ _ => rfl)) (pa_cons (xe_str (by decide +kernel)) pa_nil)))
  (pss_cons (ps_if (pt_not (pt_val (xe_call c_law_same hr l_law_same (pa_cons (xe_call c_law_asked hr l_law_asked (pa_cons (xe_str (by decide +kernel)) (pa_cons (pe_ix ix_M (pv 7) pe_int (fun _ _ => rfl)) (pa_cons pe_non (pa_cons (pe_not (pv 2)) pa_nil))))) (pa_cons (pe_lst (pa_cons (xe_str (by decide +kernel)) (pa_cons (pe_tup (pa_cons (pe_ix ix_M (pe_ix ix_M (pv 9) pe_int (fun _ _ => rfl)) pe_int (fun _ _ => rfl)) (pa_cons (pv 10) pa_nil))) pa_nil))) pa_nil)))))
  (pss_one (ps_ret pe_bl))
  pss_nil)
  (pss_cons (ps_for PassesOwn.never rfl (pi_sq (pe_op op_addM (xe_call c_law_near hr l_law_near (pa_cons (pv 0) (pa_cons (pv 4) (pa_cons (pe_ix ix_M (pe_ix ix_M (pv 6) pe_int (fun _ _ => rfl)) pe_int (fun _ _ => rfl)) (pa_cons (pe_ix ix_M (pe_ix ix_M (pv 6) pe_int (fun _ _ => rfl)) pe_int (fun _ _ => rfl)) pa_nil))))) (pe_lst (pa_cons (pv 10) pa_nil)))) (pg_name (i := 11) sc_law_conjunction_right.nd rfl (.inl rfl))
  (pss_cons (ps_set (i := 12) sc_law_conjunction_right.nd rfl (.inl rfl) (pe_lst (pa_cons (xe_call c_law_is_tree hr l_law_is_tree (pa_cons (pv 4) (pa_cons (pv 11) pa_nil))) (pa_cons (xe_call c_law_is_left hr l_law_is_left (pa_cons (pv 4) (pa_cons (pv 11) pa_nil))) pa_nil))))
  (pss_cons (ps_if (pt_not (pt_val (xe_call c_law_same hr l_law_same (pa_cons (pe_lst (pa_cons (xe_call c_law_asked hr l_law_asked (pa_cons (xe_str (by decide +kernel)) (pa_cons (pe_ix ix_M (pv 7) pe_int (fun _ _ => rfl)) (pa_cons (pv 11) (pa_cons (pv 2) pa_nil))))) (pa_cons (xe_call c_law_asked hr l_law_asked (pa_cons (xe_str (by decide +kernel)) (pa_cons (pe_ix ix_M (pv 7) pe_int (fun _ _ => rfl)) (pa_cons (pv 11) (pa_cons (pe_not (pv 2)) pa_nil))))) pa_nil))) (pa_cons (pe_lst (pa_cons (pe_lst (pa_cons (xe_str (by decide +kernel)) (pa_cons (pe_ix ix_M (pv 12) pe_int (fun _ _ => rfl)) pa_nil))) (pa_cons (pe_lst (pa_cons (xe_str (by decide +kernel)) (pa_cons (pe_ix ix_M (pv 12) pe_int (fun _ _ => rfl)) pa_nil))) pa_nil))) pa_nil)))))
  (pss_one (ps_ret pe_bl))
  pss_nil)
  (pss_one (ps_set (i := 2) sc_law_conjunction_right.nd rfl (.inl rfl) (pe_not (pv 2)))))))
  (pss_one (ps_ret pe_bl))))))))))))

abbrev s_law_refused : Stmt := top 44
theorem sc_law_refused : FnScope ["box", "conjunction", "named", "many", "atoms", "two", "bad", "value", "word", "told"] ["box", "conjunction", "named"] (defScope s_law_refused) := ⟨rfl, rfl, rfl, by decide +kernel, rfl, by decide +kernel, by decide +kernel⟩
theorem b_law_refused : Plain "_law_refused" s_law_refused ["box", "conjunction", "named"] := fun _ _ _ _ _ _ us hl => match us, hl with | [_, _, _], _ => rfl
def t_law_refused (K : PySem.W.Frag) (sp_law_take : Sp) (sp_law_asked : Sp) (sp_law_same : Sp) (sp_law_grow : Sp) : TS := (tSeq (tAsg (tVar 1) (gTup K 2 (gCons (gName 3) (gCons (gName 4) gNil)))) (tSeq (tAsg (tTup (tCons (tC (.str (S [105, 110]))) (tCons (tC (.str (S [101, 100, 103, 101]))) (tCons (tTup (tCons (tC (.int 0)) (tCons (tC (.int 0)) tNil))) tNil)))) (gName 5)) (tSeq (tAsg (tLst (tCons (tC .non) (tCons (tC (.int 7)) (tCons (tC (.str (S [97, 116, 111, 109, 115]))) (tCons tDNewK (tCons (tTup tNil) (tCons (tLst (tCons (tVar 3) (tCons (tCB rListM (tCons (tVar 4) tNil)) tNil))) (tCons (tTup (tCons (tVar 3) tNil)) (tCons (tTup (tCons (tVar 3) (tCons (tCB rListM (tCons (tVar 4) tNil)) (tCons (tC (.int 1)) tNil)))) (tCons (tTup (tCons (tUn (rU fun i => .int (-i)) (tC (.int 1))) (tCons (tLst tNil) tNil))) (tCons (tTup (tCons (tC (.bl true)) (tCons (tLst tNil) tNil))) (tCons (tTup (tCons (tC (.str (S [49]))) (tCons (tLst tNil) tNil))) (tCons (tTup (tCons (tVar 3) (tCons (tC .non) tNil))) (tCons (tTup (tCons (tVar 3) (tCons (tC (.str (S [101, 100, 103, 101]))) tNil))) (tCons (tTup (tCons (tC (.int 1)) (tCons (tOp rRepM (tLst (tCons (tVar 5) tNil)) (tC (.int 13))) tNil))) tNil))))))))))))))) (gName 6)) (tSeq (tAsg (tOp rAddM (tVar 6) (tLst (tCons (tTup (tCons (tC (.int 1)) (tCons (tLst (tCons (tTup (tCons (tC (.str (S [111, 117, 116]))) (tCons (tC (.str (S [101, 100, 103, 101]))) (tCons (tTup (tCons (tC (.int 0)) (tCons (tC (.int 0)) tNil))) tNil)))) tNil)) tNil))) (tCons (tTup (tCons (tC (.int 1)) (tCons (tLst (tCons (tTup (tCons (tC (.str (S [115, 97, 109, 101]))) (tCons (tC (.int 0)) (tCons (tC (.int 0)) tNil)))) tNil)) tNil))) (tCons (tTup (tCons (tC (.int 1)) (tCons (tLst (tCons (tTup (tCons (tC (.str (S [105, 110]))) (tCons (tC (.str (S [69, 100, 103, 101]))) (tCons (tTup (tCons (tC (.int 0)) (tCons (tC (.int 0)) tNil))) tNil)))) tNil)) tNil))) (tCons (tTup (tCons (tC (.int 1)) (tCons (tLst (tCons (tTup (tCons (tC (.str (S [105, 110]))) (tCons (tC (.str (S [101, 100, 103, 101]))) (tCons (tLst (tCons (tC (.int 0)) (tCons (tC (.int 0)) tNil))) tNil)))) tNil)) tNil))) (tCons (tTup (tCons (tC (.int 1)) (tCons (tLst (tCons (tTup (tCons (tC (.str (S [105, 110]))) (tCons (tC (.str (S [101, 100, 103, 101]))) (tCons (tTup tNil) tNil)))) tNil)) tNil))) (tCons (tTup (tCons (tC (.int 1)) (tCons (tLst (tCons (tTup (tCons (tC (.str (S [105, 110]))) (tCons (tC (.str (S [101, 100, 103, 101]))) (tCons (tTup (tCons (tC (.int 0)) (tCons (tC (.int 0)) (tCons (tC (.int 0)) (tCons (tC (.int 0)) tNil))))) tNil)))) tNil)) tNil))) tNil)))))))) (gName 6)) (tSeq (tAsg (tOp rAddM (tVar 6) (tLst (tCons (tTup (tCons (tC (.int 1)) (tCons (tLst (tCons (tTup (tCons (tC (.str (S [105, 110]))) (tCons (tC (.str (S [101, 100, 103, 101]))) (tCons (tTup (tCons (tC (.int 0)) (tCons (tC (.int 1)) tNil))) tNil)))) tNil)) tNil))) (tCons (tTup (tCons (tC (.int 1)) (tCons (tLst (tCons (tTup (tCons (tC (.str (S [105, 110]))) (tCons (tC (.str (S [101, 100, 103, 101]))) (tCons (tTup (tCons (tC (.int 0)) (tCons (tC (.bl true)) tNil))) tNil)))) tNil)) tNil))) (tCons (tTup (tCons (tC (.int 1)) (tCons (tLst (tCons (tCB rListM (tCons (tVar 5) tNil)) tNil)) tNil))) (tCons (tTup (tCons (tC (.int 1)) (tCons (tLst (tCons (tTup (tCons (tC (.str (S [105, 110]))) (tCons (tC (.str (S []))) (tCons (tTup (tCons (tC (.int 0)) tNil)) tNil)))) tNil)) tNil))) (tCons (tTup (tCons (tC (.int 1)) (tCons (tLst (tCons (tTup (tCons (tC (.str (S [105, 110]))) (tCons (tC (.str (S [97, 98, 99, 100, 101, 102, 103, 104, 105, 106, 107, 108, 109]))) (tCons (tTup (tCons (tC (.int 0)) tNil)) tNil)))) tNil)) tNil))) (tCons (tTup (tCons (tC (.int 1)) (tCons (tLst (tCons (tTup (tCons (tC (.str (S [105, 110]))) (tCons (tC (.int 5)) (tCons (tTup (tCons (tC (.int 0)) tNil)) tNil)))) tNil)) tNil))) (tCons (tTup (tCons (tC (.int 1)) (tCons (tLst (tCons (tC .non) tNil)) tNil))) tNil))))))))) (gName 6)) (tSeq (tAsg (tOp rIxM (tVar 6) (tFn sp_law_take (tCons (tVar 0) (tCons (tCB rLenM (tCons (tVar 6) tNil)) tNil)))) (gName 7)) (tSeq (tFor (iSq K (tLst (tCons (tC (.str (S [116, 114, 101, 101]))) (tCons (tC (.str (S [105, 115]))) (tCons (tC (.str (S [114, 105, 110, 103]))) tNil))))) (gName 8) (tSeq (tAsg (tFn sp_law_asked (tCons (tVar 8) (tCons (tVar 7) (tCons (tLst tNil) (tCons (tVar 2) tNil))))) (gName 9)) (tSeq (tIfS (tOr (tTest (tOp rNeM (tOp rIxM (tVar 9) (tC (.int 0))) (tC (.str (S [99, 111, 110, 106, 117, 110, 99, 116, 105, 111, 110]))))) (tNot (tB (tFn sp_law_same (tCons (tOp rIxM (tVar 9) (tC (.int 1))) (tCons (tVar 7) tNil)))))) (tRet (tC (.bl false))) tNext) (tSeq (tDrop (tFn sp_law_grow (tCons (tVar 7) tNil))) (tSeq (tIfS (tNot (tB (tFn sp_law_same (tCons (tOp rIxM (tVar 9) (tC (.int 1))) (tCons (tVar 7) tNil))))) (tRet (tC (.bl false))) tNext) (tSeq (tAsg (tOp rIxM (tLst (tCons (tC .non) (tCons (tTup (tCons (tC (.int 1)) (tCons (tLst (tCons (tTup (tCons (tC (.str (S [111, 117, 116]))) (tCons (tC (.str (S [101, 100, 103, 101]))) (tCons (tTup (tCons (tC (.int 0)) (tCons (tC (.int 0)) tNil))) tNil)))) tNil)) tNil))) tNil))) (tFn sp_law_take (tCons (tVar 0) (tCons (tC (.int 2)) tNil)))) (gName 7)) (tAsg (tNotV (tVar 2)) (gName 2)))))))) (tRet (tC (.bl true))))))))))
theorem d_law_refused {P : Program} {w : World} {K : PySem.W.Frag} {mg : Str → Option Value} {base : Heap} {k : Nat} {k_law_take : Nat} {sp_law_take : Sp} {k_law_asked : Nat} {sp_law_asked : Sp} {k_law_same : Nat} {sp_law_same : Sp} {k_law_grow : Nat} {sp_law_grow : Sp} (T : Top K w mg) (c_law_take : Cal P w K mg base k_law_take "_law_take" ["box", "many"] sp_law_take) (l_law_take : k_law_take ≤ k) (c_law_asked : Cal P w K mg base k_law_asked "_law_asked" ["word", "conjunction", "value", "named"] sp_law_asked) (l_law_asked : k_law_asked ≤ k) (c_law_same : Cal P w K mg base k_law_same "_law_same" ["told", "due"] sp_law_same) (l_law_same : k_law_same ≤ k) (c_law_grow : Cal P w K mg base k_law_grow "_law_grow" ["value"] sp_law_grow) (l_law_grow : k_law_grow ≤ k) {f : Addr} {cdv : Value} {A : Around} {outer : List Env} {s : Shared} {H : Hp} {E : XK} (hr : Room k (A.deeper (envOfC "_law_refused" (defScope s_law_refused) s.heap.objs.size f cdv))) : PSs (cxN P w K mg base ["box", "conjunction", "named", "many", "atoms", "two", "bad", "value", "word", "told"] "_law_refused" (defScope s_law_refused) f cdv A outer s H E) (defBody s_law_refused) (t_law_refused K sp_law_take sp_law_asked sp_law_same sp_law_grow) :=
  (pss_cons (ps_asg (pv 1) (pg_tup rfl (pgs_cons (pg_name (i := 3) sc_law_refused.nd rfl (.inl rfl)) (pgs_cons (pg_name (i := 4) sc_law_refused.nd rfl (.inl rfl)) pgs_nil))))
  (pss_cons (ps_set (i := 5) sc_law_refused.nd rfl (.inl rfl) (pe_tup (pa_cons (xe_str (by decide +kernel)) (pa_cons (xe_str (by decide +kernel)) (pa_cons (pe_tup (pa_cons pe_int (pa_cons pe_int pa_nil))) pa_nil)))))
  (pss_cons (ps_set (i := 6) sc_law_refused.nd rfl (.inl rfl) (pe_lst (pa_cons pe_non (pa_cons pe_int (pa_cons (xe_str (by decide +kernel)) (pa_cons pe_dnewK (pa_cons (pe_tup pa_nil) (pa_cons (pe_lst (pa_cons (pv 3) (pa_cons (pe_callTy call_listM (by rfl) T.f_list (by decide +kernel) (pa_cons (pv 4) pa_nil)) pa_nil))) (pa_cons (pe_tup (pa_cons (pv 3) pa_nil)) (pa_cons (pe_tup (pa_cons (pv 3) (pa_cons (pe_callTy call_listM (by rfl) T.f_list (by decide +kernel) (pa_cons (pv 4) pa_nil)) (pa_cons pe_int pa_nil)))) (pa_cons (pe_tup (pa_cons (pe_un un_neg pe_int) (pa_cons (pe_lst pa_nil) pa_nil))) (pa_cons (pe_tup (pa_cons pe_bl (pa_cons (pe_lst pa_nil) pa_nil))) (pa_cons (pe_tup (pa_cons (xe_str (by decide +kernel)) (pa_cons (pe_lst pa_nil) pa_nil))) (pa_cons (pe_tup (pa_cons (pv 3) (pa_cons pe_non pa_nil))) (pa_cons (pe_tup (pa_cons (pv 3) (pa_cons (xe_str (by decide +kernel)) pa_nil))) (pa_cons (pe_tup (pa_cons pe_int (pa_cons (pe_op op_repM (pe_lst (pa_cons (pv 5) pa_nil)) pe_int) pa_nil))) pa_nil))))))))))))))))
  (pss_cons (ps_set (i := 6) sc_law_refused.nd rfl (.inl rfl) (pe_op op_addM (pv 6) (pe_lst (pa_cons (pe_tup (pa_cons pe_int (pa_cons (pe_lst (pa_cons (pe_tup (pa_cons (xe_str (by decide +kernel)) (pa_cons (xe_str (by decide +kernel)) (pa_cons (pe_tup (pa_cons pe_int (pa_cons pe_int pa_nil))) pa_nil)))) pa_nil)) pa_nil))) (pa_cons (pe_tup (pa_cons pe_int (pa_cons (pe_lst (pa_cons (pe_tup (pa_cons (xe_str (by decide +kernel)) (pa_cons pe_int (pa_cons pe_int pa_nil)))) pa_nil)) pa_nil))) (pa_cons (pe_tup (pa_cons pe_int (pa_cons (pe_lst (pa_cons (pe_tup (pa_cons (xe_str (by decide +kernel)) (pa_cons (xe_str (by decide +kernel)) (pa_cons (pe_tup (pa_cons pe_int (pa_cons pe_int pa_nil))) pa_nil)))) pa_nil)) pa_nil))) (pa_cons (pe_tup (pa_cons pe_int (pa_cons (pe_lst (pa_cons (pe_tup (pa_cons (xe_str (by decide +kernel)) (pa_cons (xe_str (by decide +kernel)) (pa_cons (pe_lst (pa_cons pe_int (pa_cons pe_int pa_nil))) pa_nil)))) pa_nil)) pa_nil))) (pa_cons (pe_tup (pa_cons pe_int (pa_cons (pe_lst (pa_cons (pe_tup (pa_cons (xe_str (by decide +kernel)) (pa_cons (xe_str (by decide +kernel)) (pa_cons (pe_tup pa_nil) pa_nil)))) pa_nil)) pa_nil))) (pa_cons (pe_tup (pa_cons pe_int (pa_cons (pe_lst (pa_cons (pe_tup (pa_cons (xe_str (by decide +kernel)) (pa_cons (xe_str (by decide +kernel)) (pa_cons (pe_tup (pa_cons pe_int (pa_cons pe_int (pa_cons pe_int (pa_cons pe_int pa_nil))))) pa_nil)))) pa_nil)) pa_nil))) pa_nil)))))))))
  (pss_cons (ps_set (i := 6) sc_law_refused.nd rfl (.inl rfl) (pe_op op_addM (pv 6) (pe_lst (pa_cons (pe_tup (pa_cons pe_int (pa_cons (pe_lst (pa_cons (pe_tup (pa_cons (xe_str (by decide +kernel)) (pa_cons (xe_str (by decide +kernel)) (pa_cons (pe_tup (pa_cons pe_int (pa_cons pe_int pa_nil))) pa_nil)))) pa_nil)) pa_nil))) (pa_cons (pe_tup (pa_cons pe_int (pa_cons (pe_lst (pa_cons (pe_tup (pa_cons (xe_str (by decide +kernel)) (pa_cons (xe_str (by decide +kernel)) (pa_cons (pe_tup (pa_cons pe_int (pa_cons pe_bl pa_nil))) pa_nil)))) pa_nil)) pa_nil))) (pa_cons (pe_tup (pa_cons pe_int (pa_cons (pe_lst (pa_cons (pe_callTy call_listM (by rfl) T.f_list (by decide +kernel) (pa_cons (pv 5) pa_nil)) pa_nil)) pa_nil))) (pa_cons (pe_tup (pa_cons pe_int (pa_cons (pe_lst (pa_cons (pe_tup (pa_cons (xe_str (by decide +kernel)) (pa_cons (xe_str (by decide +kernel)) (pa_cons (pe_tup (pa_cons pe_int pa_nil)) pa_nil)))) pa_nil)) pa_nil))) (pa_cons (pe_tup (pa_cons pe_int (pa_cons (pe_lst (pa_cons (pe_tup (pa_cons (xe_str (by decide +kernel)) (pa_cons (xe_str (by decide +kernel)) (pa_cons (pe_tup (pa_cons pe_int pa_nil)) pa_nil)))) pa_nil)) pa_nil))) (pa_cons (pe_tup (pa_cons pe_int (pa_cons (pe_lst (pa_cons (pe_tup (pa_cons (xe_str (by decide +kernel)) (pa_cons pe_int (pa_cons (pe_tup (pa_cons pe_int pa_nil)) pa_nil)))) pa_nil)) pa_nil))) (pa_cons (pe_tup (pa_cons pe_int (pa_cons (pe_lst (pa_cons pe_non pa_nil)) pa_nil))) pa_nil))))))))))
  (pss_cons (ps_set (i := 7) sc_law_refused.nd rfl (.inl rfl) (pe_ix ix_M (pv 6) (xe_call c_law_take hr l_law_take (pa_cons (pv 0) (pa_cons (pe_callB call_lenM (by rfl) T.f_len (by decide +kernel) (pa_cons (pv 6) pa_nil)) pa_nil))) (fun _ _ => rfl)))
  (pss_cons (ps_for PassesOwn.never rfl (pi_sq (pe_lst (pa_cons (xe_str (by decide +kernel)) (pa_cons (xe_str (by decide +kernel)) (pa_cons (xe_str (by decide +kernel)) pa_nil))))) (pg_name (i := 8) sc_law_refused.nd rfl (.inl rfl))
  (pss_cons (ps_set (i := 9) sc_law_refused.nd rfl (.inl rfl) (xe_call c_law_asked hr l_law_asked (pa_cons (pv 8) (pa_cons (pv 7) (pa_cons (pe_lst pa_nil) (pa_cons (pv 2) pa_nil))))))
  (pss_cons (ps_if (PW.pt (pw_or (pt_cmpR op_neM (pe_ix ix_M (pv 9) pe_int (fun _ _ => rfl)) (xe_str (by decide +kernel)) (nomark _)) (pw_or1 (pt_not (pt_val (xe_call c_law_same hr l_law_same (pa_cons (pe_ix ix_M (pv 9) pe_int (fun _ _ => rfl)) (pa_cons (pv 7) pa_nil))))))))
  (pss_one (ps_ret pe_bl))
  pss_nil)
  (pss_cons (ps_expr (xe_call c_law_grow hr l_law_grow (pa_cons (pv 7) pa_nil)))
  (pss_cons (ps_if (pt_not (pt_val (xe_call c_law_same hr l_law_same (pa_cons (pe_ix ix_M (pv 9) pe_int (fun _ _ => rfl)) (pa_cons (pv 7) pa_nil)))))
  (pss_one (ps_ret pe_bl))
  pss_nil)
  (pss_cons (ps_set (i := 7) sc_law_refused.nd rfl (.inl rfl) (pe_ix ix_M (pe_lst (pa_cons pe_non (pa_cons (pe_tup (pa_cons pe_int (pa_cons (pe_lst (pa_cons (pe_tup (pa_cons (xe_str (by decide +kernel)) (pa_cons (xe_str (by decide +kernel)) (pa_cons (pe_tup (pa_cons pe_int (pa_cons pe_int pa_nil))) pa_nil)))) pa_nil)) pa_nil))) pa_nil))) (xe_call c_law_take hr l_law_take (pa_cons (pv 0) (pa_cons pe_int pa_nil))) (fun _ _ => rfl)))
  (pss_one (ps_set (i := 2) sc_law_refused.nd rfl (.inl rfl) (pe_not (pv 2))))))))))
  (pss_one (ps_ret pe_bl)))))))))

abbrev s_law : Stmt := top 45
theorem sc_law : FnScope ["script", "names", "great", "k", "box", "named", "turn"] ["script"] (defScope s_law) := ⟨rfl, rfl, rfl, by decide +kernel, rfl, by decide +kernel, by decide +kernel⟩
theorem b_law : Plain "law" s_law ["script"] := fun _ _ _ _ _ _ us hl => match us, hl with | [_], _ => rfl
def t_law (K : PySem.W.Frag) (sp_law_box : Sp) (sp_law_cell : Sp) (sp_law_take : Sp) (sp_law_conjunction_right : Sp) (sp_law_conjunction : Sp) (sp_law_refused : Sp) : TS := (tSeq (tPar 1 2 (tCons (tDisp [((tC (.str (S [101, 100, 103, 101]))), (tC (.int 2))), ((tC (.str (S [111, 110, 101]))), (tC (.int 1))), ((tC (.str (S [116, 104, 114, 101, 101]))), (tC (.int 3))), ((tC (.str (S [112, 97, 105, 114]))), (tC (.int 2)))]) (tCons (tOp rEqM (tOp (rI (fun _ j => j ≠ 0) fun i j => .int (i.fmod j)) (tCB rInt (tCons (tCB rSumM (tCons (tSl rSlM (tVar 0) tNoPart (tPart (tC (.int 1)))) tNil)) tNil)) (tC (.int 8))) (tC (.int 3))) tNil))) (tSeq (tFor (iRng1 (tCons (tCB rMaxM (tCons (tC (.int 2)) (tCons (tCB rMinM (tCons (tC (.int 4)) (tCons (tCB rLenM (tCons (tVar 0) tNil)) tNil))) tNil))) tNil)) (gName 3) (tSeq (tAsg (tFn sp_law_box (tCons (tFn sp_law_cell (tCons (tVar 0) (tCons (tVar 3) tNil))) tNil)) (gName 4)) (tSeq (tAsg (tOp rEqM (tFn sp_law_take (tCons (tVar 4) (tCons (tC (.int 2)) tNil))) (tC (.int 0))) (gName 5)) (tSeq (tFor (iRng1 (tCons (tC (.int 2)) tNil)) (gName 6) (tSeq (tIfS (tNot (tB (tFn sp_law_conjunction_right (tCons (tVar 4) (tCons (tFn sp_law_conjunction (tCons (tVar 4) (tCons (tVar 1) (tCons (tIf (tAnd (tB (tVar 2)) (tTest (tOp rEqM (tVar 3) (tC (.int 0))))) (tC (.int 12)) (tC (.int 8))) tNil)))) (tCons (tVar 5) tNil)))))) (tRet (tC (.bl false))) tNext) (tAsg (tNotV (tVar 5)) (gName 5)))) (tIfS (tNot (tB (tFn sp_law_refused (tCons (tVar 4) (tCons (tFn sp_law_conjunction (tCons (tVar 4) (tCons (tVar 1) (tCons (tC (.int 4)) tNil)))) (tCons (tVar 5) tNil)))))) (tRet (tC (.bl false))) tNext))))) (tRet (tC (.bl true)))))
theorem d_law {P : Program} {w : World} {K : PySem.W.Frag} {mg : Str → Option Value} {base : Heap} {k : Nat} {k_law_box : Nat} {sp_law_box : Sp} {k_law_cell : Nat} {sp_law_cell : Sp} {k_law_take : Nat} {sp_law_take : Sp} {k_law_conjunction_right : Nat} {sp_law_conjunction_right : Sp} {k_law_conjunction : Nat} {sp_law_conjunction : Sp} {k_law_refused : Nat} {sp_law_refused : Sp} (T : Top K w mg) (c_law_box : Cal P w K mg base k_law_box "_law_box" ["great"] sp_law_box) (l_law_box : k_law_box ≤ k) (c_law_cell : Cal P w K mg base k_law_cell "_law_cell" ["script", "k"] sp_law_cell) (l_law_cell : k_law_cell ≤ k) (c_law_take : Cal P w K mg base k_law_take "_law_take" ["box", "many"] sp_law_take) (l_law_take : k_law_take ≤ k) (c_law_conjunction_right : Cal P w K mg base k_law_conjunction_right "_law_conjunction_right" ["box", "conjunction", "named"] sp_law_conjunction_right) (l_law_conjunction_right : k_law_conjunction_right ≤ k) (c_law_conjunction : Cal P w K mg base k_law_conjunction "_law_conjunction" ["box", "names", "most"] sp_law_conjunction) (l_law_conjunction : k_law_conjunction ≤ k) (c_law_refused : Cal P w K mg base k_law_refused "_law_refused" ["box", "conjunction", "named"] sp_law_refused) (l_law_refused : k_law_refused ≤ k) {f : Addr} {cdv : Value} {A : Around} {outer : List Env} {s : Shared} {H : Hp} {E : XK} (hr : Room k (A.deeper (envOfC "law" (defScope s_law) s.heap.objs.size f cdv))) : PSs (cxN P w K mg base ["script", "names", "great", "k", "box", "named", "turn"] "law" (defScope s_law) f cdv A outer s H E) (defBody s_law) (t_law K sp_law_box sp_law_cell sp_law_take sp_law_conjunction_right sp_law_conjunction sp_law_refused) :=
  (pss_cons (ps_par (i := 1) (j := 2) rfl sc_law.nd rfl rfl (by decide) rfl rfl (pa_cons (pe_disp (pps_cons (xe_str (by decide +kernel)) pe_int (pps_cons (xe_str (by decide +kernel)) pe_int (pps_cons (xe_str (by decide +kernel)) pe_int (pps_cons (xe_str (by decide +kernel)) pe_int pps_nil)))) rfl rfl (by simp) (by simp)) (pa_cons (pe_cmpR op_eqM (pe_op op_modN (pe_callTy call_intM (by rfl) T.f_int (by decide +kernel) (pa_cons (pe_callB (call_sumM rfl) (by rfl) T.f_sum (by decide +kernel) (pa_cons (pe_slice sl_M (pv 0) po_none (po_some pe_int)) pa_nil)) pa_nil)) pe_int) pe_int (nomark _)) pa_nil)) (by rfl))
  (pss_cons (ps_for PassesOwn.never rfl (pi_range1 (by rfl) T.f_range (pa_cons (pe_callB (call_maxM rfl) (by rfl) T.f_max (by decide +kernel) (pa_cons pe_int (pa_cons (pe_callB (call_minM rfl) (by rfl) T.f_min (by decide +kernel) (pa_cons pe_int (pa_cons (pe_callB call_lenM (by rfl) T.f_len (by decide +kernel) (pa_cons (pv 0) pa_nil)) pa_nil))) pa_nil))) pa_nil)) (pg_name (i := 3) sc_law.nd rfl (.inl rfl))
  (pss_cons (ps_set (i := 4) sc_law.nd rfl (.inl rfl) (xe_call c_law_box hr l_law_box (pa_cons (xe_call c_law_cell hr l_law_cell (pa_cons (pv 0) (pa_cons (pv 3) pa_nil))) pa_nil)))
  (pss_cons (ps_set (i := 5) sc_law.nd rfl (.inl rfl) (pe_cmpR op_eqM (xe_call c_law_take hr l_law_take (pa_cons (pv 4) (pa_cons pe_int pa_nil))) pe_int (nomark _)))
  (pss_cons (ps_for PassesOwn.never rfl (pi_range1 (by rfl) T.f_range (pa_cons pe_int pa_nil)) (pg_name (i := 6) sc_law.nd rfl (.inl rfl))
  (pss_cons (ps_if (pt_not (pt_val (xe_call c_law_conjunction_right hr l_law_conjunction_right (pa_cons (pv 4) (pa_cons (xe_call c_law_conjunction hr l_law_conjunction (pa_cons (pv 4) (pa_cons (pv 1) (pa_cons (pe_ifExp (PW.pt (pw_and (pt_val (pv 2)) (pw_and1 (pt_cmpR op_eqM (pv 3) pe_int (nomark _))))) pe_int pe_int) pa_nil)))) (pa_cons (pv 5) pa_nil))))))
  (pss_one (ps_ret pe_bl))
  pss_nil)
  (pss_one (ps_set (i := 5) sc_law.nd rfl (.inl rfl) (pe_not (pv 5))))))
  (pss_one (ps_if (pt_not (pt_val (xe_call c_law_refused hr l_law_refused (pa_cons (pv 4) (pa_cons (xe_call c_law_conjunction hr l_law_conjunction (pa_cons (pv 4) (pa_cons (pv 1) (pa_cons pe_int pa_nil)))) (pa_cons (pv 5) pa_nil))))))
  (pss_one (ps_ret pe_bl))
  pss_nil))))))
  (pss_one (ps_ret pe_bl))))

end K44
set_option Elab.async false
set_option linter.all false
set_option maxRecDepth 100000
set_option maxHeartbeats 4000000
namespace K44
open PySem PySem.Spec PyProof.Rows L2 MT
open SX (S)
abbrev s_hangs_together : Stmt := top 26
theorem sc_hangs_together : FnScope ["atoms", "parents", "x", "has", "index", "one", "other"] ["atoms", "parents", "x"] (defScope s_hangs_together) := ⟨rfl, rfl, rfl, by decide +kernel, rfl, by decide +kernel, by decide +kernel⟩
theorem b_hangs_together : Plain "hangs_together" s_hangs_together ["atoms", "parents", "x"] := fun _ _ _ _ _ _ us hl => match us, hl with | [_, _, _], _ => rfl
def t_hangs_together (K : PySem.W.Frag) (sp_between : Sp) : TS := (tSeq (tAsg (tLc (iRng1 (tCons (tCB rLenM (tCons (tVar 0) tNil)) tNil)) (gName 4) (tTest (tOp (rInM false) (tVar 2) (tOp rIxM (tOp rIxM (tVar 0) (tVar 4)) (tC (.int 2))))) (tVar 4) [4]) (gName 3)) (tRet (tCB (rAllM fun bs => bs.all id) (tCons (tLc3 (iSq K (tVar 3)) (gName 5) tYes (iSq K (tVar 3)) (gName 6) tYes (iSq K (tFn sp_between (tCons (tVar 1) (tCons (tVar 5) (tCons (tVar 6) tNil))))) (gName 4) tYes (tOp (rInM false) (tVar 4) (tVar 3)) [5, 6, 4] [6, 4] [4]) tNil))))
theorem d_hangs_together {P : Program} {w : World} {K : PySem.W.Frag} {mg : Str → Option Value} {base : Heap} {k : Nat} {k_between : Nat} {sp_between : Sp} (T : Top K w mg) (c_between : Cal P w K mg base k_between "between" ["parents", "one", "other"] sp_between) (l_between : k_between ≤ k) {f : Addr} {cdv : Value} {A : Around} {outer : List Env} {s : Shared} {H : Hp} {E : XK} (hr : Room k (A.deeper (envOfC "hangs_together" (defScope s_hangs_together) s.heap.objs.size f cdv))) : PSs (cxN P w K mg base ["atoms", "parents", "x", "has", "index", "one", "other"] "hangs_together" (defScope s_hangs_together) f cdv A outer s H E) (defBody s_hangs_together) (t_hangs_together K sp_between) :=
  (pss_cons (ps_set (i := 3) sc_hangs_together.nd rfl (.inr rfl) (pe_lc (own := [("index", 4)]) (g := (gName 4)) (tt := (tTest (tOp (rInM false) (tVar 2) (tOp rIxM (tOp rIxM (tVar 0) (tVar 4)) (tC (.int 2)))))) rfl sc_hangs_together.nd (pi_range1 (by rfl) T.f_range (pa_cons (pe_callB call_lenM (by rfl) T.f_len (by decide +kernel) (pa_cons (pv 0) pa_nil)) pa_nil)) (blkOk_by (own := [("index", 4)]) (N := ["atoms", "parents", "x", "has", "index", "one", "other"]) (sc := defScope s_hangs_together) (by decide +kernel)) (fun _ _ _ _ _ => (pg_name (i := 4) sc_hangs_together.nd rfl (Or.inl rfl))) (fun _ _ _ _ _ => (pts_one (pt_cmpR op_inM (pv 2) (pe_ix ix_M (pe_ix ix_M (pv 0) (pv 4) (fun _ _ => rfl)) pe_int (fun _ _ => rfl)) (by rfl)))) (fun _ _ _ _ _ => (pv 4))))
  (pss_one (ps_ret (pe_callB (call_allM rfl) (by rfl) T.f_all (by decide +kernel) (pa_cons (pe_lc3 (own := [("one", 5), ("other", 6), ("index", 4)]) (vs1 := [6, 4]) (vs2 := [4]) (g := (gName 5)) (tt := tYes) (g1 := (gName 6)) (tt1 := tYes) (g2 := (gName 4)) (tt2 := tYes) rfl sc_hangs_together.nd (pi_sq (pv 3)) (blkOk_by (own := [("one", 5), ("other", 6), ("index", 4)]) (N := ["atoms", "parents", "x", "has", "index", "one", "other"]) (sc := defScope s_hangs_together) (by decide +kernel)) (by decide) (by decide) (fun _ _ _ _ _ => (pg_name (i := 5) sc_hangs_together.nd rfl (Or.inl rfl))) (fun _ _ _ _ _ => pts_nil) (fun _ _ _ _ _ => (pi_sq (pv 3))) (fun _ _ _ _ _ => (pg_name (i := 6) sc_hangs_together.nd rfl (Or.inl rfl))) (fun _ _ _ _ _ => pts_nil) (fun _ _ _ _ _ => (pi_sq (xe_call c_between hr l_between (pa_cons (pv 1) (pa_cons (pv 5) (pa_cons (pv 6) pa_nil)))))) (fun _ _ _ _ _ => (pg_name (i := 4) sc_hangs_together.nd rfl (Or.inl rfl))) (fun _ _ _ _ _ => pts_nil) (fun _ _ _ _ _ => (pe_cmpR op_inM (pv 4) (pv 3) (by rfl)))) pa_nil)))))

end K44
set_option Elab.async false
set_option linter.all false
set_option maxRecDepth 100000
set_option maxHeartbeats 4000000
namespace K44
open PySem PySem.Spec PyProof.Rows L2 MT
open SX (S)
local macro_rules | `(tactic| walk_at "mt") => `(tactic| simp only [L2.start, List.map_cons, List.map_nil, List.length_cons, List.length_nil, List.replicate_succ, List.replicate_zero, Nat.reduceSub, Nat.reduceAdd, Nat.sub_self, Nat.zero_add, List.cons_append, List.nil_append, List.append_nil, List.getElem?_cons_zero, List.getElem?_cons_succ, List.set_cons_zero, List.set_cons_succ, Option.some.injEq, exists_eq_left', exists_eq_left, exists_eq_right, V.bl.injEq, V.int.injEq, V.str.injEq, V.ref.injEq, reduceCtorEq, false_and, and_false, true_and, and_true, false_or, or_false, exists_false, exists_const, ↓reduceIte, Bool.false_eq_true, decide_eq_true_eq, Bool.and_eq_true, Bool.not_true, Bool.not_false, List.cons.injEq, exists_and_left, exists_and_right,
  tRet, rInM, rNeI, rSortM, rIndexM, rRepM, rSetDM, rListDM, rPopAtM, tLstRg, tRg1, tDIn, tBM, tBM0, tAndV, tOrV, tNotV, tAnd, tOr, tNot, tB, tTest, tIf, tIfS, tC, tVar, tOp, tUn, tChain, rI0, rI, rU, tFn, tCons, tNil, tCB, tTup, tLst, tAsg, gName, tNext, tDrop, tRetN, tPar, tPar3, tAug, tReplC, tRevS, rLenM2, rIsBM, tDNotIn, tDGet, rSumM, rMaxM, rMinM, gSub, rSetL, tRaiseO, tFnW, tXf, gTup, gUnl, gCons, gNil, rPopM, rAppendM, rExtendM, rTupM, rListM, ipI, tIs, tIss, rLenM, rIxM, rAddM, rEqM, rNeM, rSignIn, rInt, rAbs, rStrI, tSl, tPart, tNoPart, rSlM, tIsN, tNotN, List.any_cons, List.any_nil, Bool.or_false, tSeq, isa, D.ty, decide_true, decide_false, Bool.true_or, Bool.or_true, Bool.false_or, Bool.and_true, Bool.true_and, Bool.false_and, Bool.and_false, eq_self_iff_true, not_true_eq_false, not_false_eq_true, bne_self_eq_false])
abbrev E0N (Q : VK) : Ends := { nx := fun _ H' => Q .non H', rt := Q }
/-- value v of data d, told by a part of H -/
def Dat (H : Hp) (v : V) (d : D) : Prop := ∃ F, Same F H ∧ Rep F v d
theorem Dat.ty {H : Hp} {v : V} {d : D} (h : Dat H v d) : tyOf H v = some d.ty := by
  obtain ⟨F, s, r⟩ := h
  exact r.ty s
theorem Dat.mono {H H' : Hp} {v : V} {d : D} (h : Dat H v d) (s : Same H H') : Dat H' v d := by
  obtain ⟨F, s0, r⟩ := h
  exact ⟨F, s0.trans s, r⟩
theorem Dat.bl {H : Hp} {b : Bool} : Dat H (.bl b) (.bl b) := ⟨H, .refl _, .bl b⟩
theorem Dat.int {H : Hp} {b : Int} : Dat H (.int b) (.int b) := ⟨H, .refl _, .int b⟩
/-- a list or a tuple of data -/
def Dats (H : Hp) (vs : List V) (ds : List D) : Prop := ∃ F, Same F H ∧ RepL F vs ds
theorem Dats.mono {H H' : Hp} {v : List V} {d : List D} (h : Dats H v d) (s : Same H H') : Dats H' v d := by
  obtain ⟨F, s0, r⟩ := h
  exact ⟨F, s0.trans s, r⟩
theorem Dats.length {H : Hp} {v : List V} {d : List D} (h : Dats H v d) : v.length = d.length := by
  obtain ⟨F, s0, r⟩ := h
  exact r.length
theorem Dats.at {H : Hp} {v : List V} {ds : List D} {i : Nat} {d : D} (h : Dats H v ds) (e : ds[i]? = some d) : ∃ w, v[i]? = some w ∧ Dat H w d := by
  obtain ⟨F, s0, r⟩ := h
  obtain ⟨w, e1, r1⟩ := r.getD e
  exact ⟨w, e1, F, s0, r1⟩
theorem Dat.tup {H : Hp} {v : V} {ds : List D} (h : Dat H v (.tup ds)) : ∃ a vs, v = .ref a ∧ H a = some (.tup vs) ∧ Dats H vs ds ∧ ds.length ≤ BL := by
  obtain ⟨F, s0, r⟩ := h
  cases r with
  | tup h r z => exact ⟨_, _, rfl, s0 _ _ h, ⟨F, s0, r⟩, z⟩
/-- the things of a list or a tuple -/
def itemsD : D → Option (List D)
  | .lst ds => some ds
  | .tup ds => some ds
  | _ => none
theorem Dat.seq {H : Hp} {v : V} {d : D} {ds : List D} (h : Dat H v d) (e : itemsD d = some ds) : ∃ a vs, v = .ref a ∧ seqO (H a) = some vs ∧ Dats H vs ds ∧ ds.length ≤ BL := by
  obtain ⟨F, s0, r⟩ := h
  cases r with
  | lst h r z => cases e; exact ⟨_, _, rfl, by rw [s0 _ _ h]; rfl, ⟨F, s0, r⟩, z⟩
  | tup h r z => cases e; exact ⟨_, _, rfl, by rw [s0 _ _ h]; rfl, ⟨F, s0, r⟩, z⟩
  | _ => cases e
theorem bl_sl {n : Nat} (h : n ≤ BL) : n < sizeLine := Nat.lt_of_le_of_lt h (by decide +kernel)
theorem bl_le {n : Nat} (h : n ≤ BL) : n ≤ sizeLine := Nat.le_of_lt (bl_sl h)
theorem Sl (l : List Nat) : (S l).length = l.length := SX.S_len l
def spIsInteger : Sp := fun vs H Q _ => ∃ v d, vs = [v] ∧ Dat H v d ∧ Q (.bl (decide (d.ty = .int))) H
def btw (lo hi : Int) : D → Bool
  | .int i => decide (lo ≤ i) && decide (i ≤ hi)
  | _ => false
def spBetween : Sp := fun vs H Q _ => ∃ v d lo hi, vs = [v, .int lo, .int hi] ∧ Dat H v d ∧ Q (.bl (btw lo hi d)) H
theorem pr_is_integer {K : PySem.W.Frag} (vs : List V) (H : Hp) (Q : VK) (E : XK) (h : spIsInteger vs H Q E) : t_is_integer K (E0N Q) (L2.start ["value"] vs) H := by
  obtain ⟨v, d, rfl, ht, q⟩ := h
  unfold t_is_integer
  walk_at "mt"
  simp only [ht.ty]
  walk_at "mt"
  cases d <;> simpa [isa, D.ty] using q
theorem pr_is_between {K : PySem.W.Frag} (vs : List V) (H : Hp) (Q : VK) (E : XK) (h : spBetween vs H Q E) : t_is_between K spIsInteger (E0N Q) (L2.start ["value", "least", "most"] vs) H := by
  obtain ⟨v, d, lo, hi, rfl, ht, q⟩ := h
  unfold t_is_between
  walk_at "mt"
  refine ⟨v, d, rfl, ht, ?_⟩
  obtain ⟨F, s, r⟩ := ht
  cases r with
  | int i =>
    simp only [D.ty]
    walk_at "mt"
    simp only [btw] at q
    by_cases h1 : lo ≤ i
    · simp only [h1]
      walk_at "mt"
      simpa [h1] using q
    · simp only [h1]
      walk_at "mt"
      simpa [h1] using q
  | _ =>
    simp only [D.ty]
    walk_at "mt"
    simpa [btw] using q
def cntD : D → Bool
  | .int i => decide (0 ≤ i)
  | _ => false
def spIsCount : Sp := fun vs H Q _ => ∃ v d, vs = [v] ∧ Dat H v d ∧ Q (.bl (cntD d)) H
theorem pr_is_count {K : PySem.W.Frag} (vs : List V) (H : Hp) (Q : VK) (E : XK) (h : spIsCount vs H Q E) : t_is_count K spIsInteger (E0N Q) (L2.start ["value"] vs) H := by
  obtain ⟨v, d, rfl, ht, q⟩ := h
  unfold t_is_count
  walk_at "mt"
  refine ⟨v, d, rfl, ht, ?_⟩
  obtain ⟨F, s, r⟩ := ht
  cases r with
  | int i =>
    simp only [D.ty]
    walk_at "mt"
    simpa [cntD] using q
  | _ =>
    simp only [D.ty]
    walk_at "mt"
    simpa [cntD] using q
def lstD (d : D) : Bool := (itemsD d).isSome
def spIsList : Sp := fun vs H Q _ => ∃ v d, vs = [v] ∧ Dat H v d ∧ Q (.bl (lstD d)) H
theorem pr_is_list {K : PySem.W.Frag} (vs : List V) (H : Hp) (Q : VK) (E : XK) (h : spIsList vs H Q E) : t_is_list K (E0N Q) (L2.start ["value"] vs) H := by
  obtain ⟨v, d, rfl, ht, q⟩ := h
  unfold t_is_list
  walk_at "mt"
  simp only [ht.ty]
  walk_at "mt"
  cases d <;> simpa [isa, D.ty, lstD, itemsD] using q
def tupD (n : Nat) : D → Bool
  | .tup ds => decide (ds.length = n)
  | _ => false
def spTupleOf : Sp := fun vs H Q _ => ∃ v d, ∃ n : Nat, vs = [v, .int n] ∧ Dat H v d ∧ Q (.bl (tupD n d)) H
theorem pr_is_tuple_of {K : PySem.W.Frag} (vs : List V) (H : Hp) (Q : VK) (E : XK) (h : spTupleOf vs H Q E) : t_is_tuple_of K (E0N Q) (L2.start ["value", "many"] vs) H := by
  obtain ⟨v, d, n, rfl, ht, q⟩ := h
  unfold t_is_tuple_of
  walk_at "mt"
  simp only [ht.ty]
  walk_at "mt"
  obtain ⟨F, s, r⟩ := id ht
  cases r with
  | tup h r z =>
    walk_at "mt"
    rw [s _ _ h]
    refine ⟨_, rfl, ?_⟩
    rw [r.length]
    simpa [tupD, Int.ofNat_inj] using q
  | _ =>
    walk_at "mt"
    simpa [tupD] using q
/-- all([sign in set for sign in text]) -/
theorem all_str {σ : L2.St} {H : Hp} {i j : Nat} {l set : List Nat} {Q : VK} (hi : σ[i]? = some (some (.str (S l)))) (hj : j < σ.length) (hl : l.length ≤ BL) (q : ∀ H', Same H H' → Q (.bl (l.all fun c => decide (c ∈ set))) H') :
    tLc (iStr (tVar i)) (gName j) tYes (tOp (rSignIn false) (tVar j) (tC (.str (S set)))) [j] σ H fun x H1 => rAllM (fun bs => bs.all id) [x] H1 Q := by
  refine tLc_B (src_varStr hi) walk_fnS (fun _ _ => trivial) (bl_sl hl) (fun k => .bl (decide (l.getD k 0 ∈ set))) (fun k H1 K' hk s kk => ?_) fun D H1 s hD => ?_
  · unfold tOp tVar tC rSignIn
    refine ⟨_, List.getElem?_set_self hj, l.getD k 0, rfl, ?_⟩
    simp only [Bool.false_eq_true, ↓reduceIte]
    exact kk H1 (.refl _)
  · unfold rAllM
    refine ⟨(List.range l.length).map fun k => decide (l.getD k 0 ∈ set), ?_, ?_⟩
    · rw [hD, List.map_map]; rfl
    · have e : ((List.range l.length).map fun k => decide (l.getD k 0 ∈ set)).all id = l.all fun c => decide (c ∈ set) := by
        rw [map_range_getD l 0 (fun c => decide (c ∈ set)), List.all_map]
        rfl
      show Q (.bl (List.all _ id)) H1
      rw [e]
      exact q H1 s
abbrev letters : List Nat := [97, 98, 99, 100, 101, 102, 103, 104, 105, 106, 107, 108, 109, 110, 111, 112, 113, 114, 115, 116, 117, 118, 119, 120, 121, 122]
def wordD : D → Bool
  | .str l => decide (1 ≤ l.length) && decide (l.length ≤ 12) && l.all fun c => decide (c ∈ letters)
  | _ => false
def spIsWord : Sp := fun vs H Q _ => ∃ v d, vs = [v] ∧ Dat H v d ∧ ∀ H', Same H H' → Q (.bl (wordD d)) H'
theorem pr_is_word {K : PySem.W.Frag} (vs : List V) (H : Hp) (Q : VK) (E : XK) (h : spIsWord vs H Q E) : t_is_word K (E0N Q) (L2.start ["value", "sign"] vs) H := by
  obtain ⟨v, d, rfl, ht, q⟩ := h
  unfold t_is_word
  walk_at "mt"
  simp only [ht.ty]
  walk_at "mt"
  obtain ⟨F, s, r⟩ := ht
  cases r with
  | @str l hl =>
    walk_at "mt"
    refine ⟨by rw [Sl]; exact bl_le hl, ?_⟩
    rw [Sl]
    split
    · rename_i h1
      split
      · rename_i h2
        have e : wordD (.str l) = false := by
          have : ¬ l.length ≤ 12 := by simp at h2; omega
          simp only [wordD, this, decide_false, Bool.and_false, Bool.false_and]
        rw [← e]; exact q H (.refl _)
      · rename_i h2
        refine all_str rfl (Nat.lt_succ_self 1) hl fun H' s' => ?_
        have e : wordD (.str l) = l.all fun c => decide (c ∈ letters) := by
          have h3 : l.length ≤ 12 := by simp at h2; omega
          have h4 : 1 ≤ l.length := by omega
          simp only [wordD, h3, h4, decide_true, Bool.true_and]
        have := q H' s'
        rw [e] at this
        exact this
    · rename_i h1
      have e : wordD (.str l) = false := by
        have : ¬ 1 ≤ l.length := by omega
        simp only [wordD, this, decide_false, Bool.false_and]
      rw [← e]; exact q H (.refl _)
  | _ =>
    walk_at "mt"
    exact q H (.refl _)
end K44
set_option Elab.async false
set_option linter.all false
set_option maxRecDepth 100000
set_option maxHeartbeats 4000000
namespace K44
open PySem PySem.Spec PyProof.Rows L2 MT
open SX (S)
local macro_rules | `(tactic| walk_at "mt") => `(tactic| simp only [L2.start, List.map_cons, List.map_nil, List.length_cons, List.length_nil, List.replicate_succ, List.replicate_zero, Nat.reduceSub, Nat.reduceAdd, Nat.sub_self, Nat.zero_add, List.cons_append, List.nil_append, List.append_nil, List.getElem?_cons_zero, List.getElem?_cons_succ, List.set_cons_zero, List.set_cons_succ, Option.some.injEq, exists_eq_left', exists_eq_left, exists_eq_right, V.bl.injEq, V.int.injEq, V.str.injEq, V.ref.injEq, reduceCtorEq, false_and, and_false, true_and, and_true, false_or, or_false, exists_false, exists_const, ↓reduceIte, Bool.false_eq_true, decide_eq_true_eq, Bool.and_eq_true, Bool.not_true, Bool.not_false, List.cons.injEq, exists_and_left, exists_and_right,
  tRet, rInM, rNeI, rSortM, rIndexM, rRepM, rSetDM, rListDM, rPopAtM, tLstRg, tRg1, tDIn, tBM, tBM0, tAndV, tOrV, tNotV, tAnd, tOr, tNot, tB, tTest, tIf, tIfS, tC, tVar, tOp, tUn, tChain, rI0, rI, rU, tFn, tCons, tNil, tCB, tTup, tLst, tAsg, gName, tNext, tDrop, tRetN, tPar, tPar3, tAug, tReplC, tRevS, rLenM2, rIsBM, tDNotIn, tDGet, rSumM, rMaxM, rMinM, gSub, rSetL, tRaiseO, tFnW, tXf, gTup, gUnl, gCons, gNil, rPopM, rAppendM, rExtendM, rTupM, rListM, ipI, tIs, tIss, rLenM, rIxM, rAddM, rEqM, rNeM, rSignIn, rInt, rAbs, rStrI, tSl, tPart, tNoPart, rSlM, tIsN, tNotN, List.any_cons, List.any_nil, Bool.or_false, tSeq, isa, D.ty, decide_true, decide_false, Bool.true_or, Bool.or_true, Bool.false_or, Bool.and_true, Bool.true_and, Bool.false_and, Bool.and_false, eq_self_iff_true, not_true_eq_false, not_false_eq_true, bne_self_eq_false])
/-- all([te for x in a list or tuple]) -/
theorem all_seq {K : PySem.W.Frag} {σ : L2.St} {H : Hp} {j : Nat} {a : Addr} {vs : List V} {t te : TE} {Q : VK} (src : ∀ Q : VK, Q (.ref a) H → t σ H Q) (e : seqO (H a) = some vs) (hn : vs.length < sizeLine) (f : Nat → Bool)
    (he : ∀ i H1 K', i < vs.length → Same H H1 → (∀ H2, Same H1 H2 → K' (.bl (f i)) H2) → te (σ.set j (some (vs.getD i .non))) H1 K') (q : ∀ H', Same H H' → Q (.bl ((List.range vs.length).all f)) H') :
    tLc (iSq K t) (gName j) tYes te [j] σ H fun x H1 => rAllM (fun bs => bs.all id) [x] H1 Q := by
  obtain ⟨J, G, h1, h2, h3⟩ := src_seq (K := K) src e hn
  refine tLc_B h1 h2 h3 hn (fun k => .bl (f k)) he fun D H1 s hD => ?_
  unfold rAllM
  refine ⟨(List.range vs.length).map f, by rw [hD, List.map_map]; rfl, ?_⟩
  have z : ((List.range vs.length).map f).all id = (List.range vs.length).all f := by rw [List.all_map]; rfl
  show Q (.bl (List.all _ id)) H1
  rw [z]
  exact q H1 s
theorem all_range_get {α : Type} (l : List α) (d : α) (p : α → Bool) : (List.range l.length).all (fun i => p (l.getD i d)) = l.all p := by
  have h := congrArg (fun bs => bs.all id) (map_range_getD l d p)
  simpa [List.all_map, Function.comp_def] using h
/-- all(f(x) for x in data) -/
theorem all_dats {K : PySem.W.Frag} {σ : L2.St} {H : Hp} {j : Nat} {a : Addr} {vs : List V} {ds : List D} {t te : TE} {Q : VK} (src : ∀ Q : VK, Q (.ref a) H → t σ H Q) (e : seqO (H a) = some vs) (hd : Dats H vs ds) (hn : ds.length ≤ BL) (f : D → Bool)
    (he : ∀ v d H1 K', d ∈ ds → Same H H1 → Dat H1 v d → (∀ H2, Same H1 H2 → K' (.bl (f d)) H2) → te (σ.set j (some v)) H1 K') (q : ∀ H', Same H H' → Q (.bl (ds.all f)) H') :
    tLc (iSq K t) (gName j) tYes te [j] σ H fun x H1 => rAllM (fun bs => bs.all id) [x] H1 Q := by
  have hl := hd.length
  refine all_seq src e (by rw [hl]; exact bl_sl hn) (fun i => f (ds.getD i .non)) (fun i H1 K' hi s k => ?_) ?_
  · have hi2 : i < ds.length := by omega
    have e1 : ds[i]? = some (ds.getD i .non) := by rw [List.getD_eq_getElem?_getD, List.getElem?_eq_getElem hi2]; rfl
    obtain ⟨w, e2, r⟩ := (hd.mono s).at e1
    have e3 : vs.getD i .non = w := by rw [List.getD_eq_getElem?_getD, e2]; rfl
    rw [e3]
    exact he w _ H1 K' (List.mem_of_getElem? e1) s r k
  · rw [hl, all_range_get ds .non f]
    exact q
def headOk : D → Bool
  | .tup [h, _, _] => decide (h.ty = .str)
  | _ => true
def joinAtomD (many : Int) : D → Bool
  | .tup [.str w, nm, .tup xs] => decide (w = [105, 110]) && wordD nm && (decide (1 ≤ xs.length) && decide (xs.length ≤ 3)) && xs.all (btw 0 (many - 1))
  | _ => false
def spJoinAtom : Sp := fun vs H Q _ => ∃ v d many, vs = [.int many, v] ∧ Dat H v d ∧ headOk d = true ∧ ∀ H', Same H H' → Q (.bl (joinAtomD many d)) H'
theorem Dats.three {H : Hp} {vs : List V} {a b c : D} (h : Dats H vs [a, b, c]) : ∃ x y z, vs = [x, y, z] ∧ Dat H x a ∧ Dat H y b ∧ Dat H z c := by
  obtain ⟨F, s, r⟩ := h
  cases r with
  | cons h1 r => cases r with
    | cons h2 r => cases r with
      | cons h3 r => cases r; exact ⟨_, _, _, rfl, ⟨F, s, h1⟩, ⟨F, s, h2⟩, ⟨F, s, h3⟩⟩
theorem Dats.two {H : Hp} {vs : List V} {a b : D} (h : Dats H vs [a, b]) : ∃ x y, vs = [x, y] ∧ Dat H x a ∧ Dat H y b := by
  obtain ⟨F, s, r⟩ := h
  cases r with
  | cons h1 r => cases r with
    | cons h2 r => cases r; exact ⟨_, _, rfl, ⟨F, s, h1⟩, ⟨F, s, h2⟩⟩
theorem Dat.str {H : Hp} {v : V} {l : List Nat} (h : Dat H v (.str l)) : v = .str (S l) ∧ l.length ≤ BL := by
  obtain ⟨F, s, r⟩ := h
  cases r with
  | str h => exact ⟨rfl, h⟩
theorem tup3 {d : D} (h : tupD 3 d = true) : ∃ a b c, d = .tup [a, b, c] := by
  cases d with
  | tup ds =>
    have : ds.length = 3 := of_decide_eq_true h
    match ds, this with
    | [a, b, c], _ => exact ⟨a, b, c, rfl⟩
  | _ => cases h
theorem joinAtom_no {many : Int} {d : D} (h : tupD 3 d = false) : joinAtomD many d = false := by
  unfold joinAtomD
  split
  · cases h
  · rfl
theorem ty_str {d : D} (h : d.ty = .str) : ∃ l, d = .str l := by
  cases d with
  | str l => exact ⟨l, rfl⟩
  | _ => cases h
theorem ty_tup {d : D} (h : d.ty = .tup) : ∃ l, d = .tup l := by
  cases d with
  | tup l => exact ⟨l, rfl⟩
  | _ => cases h
/-- t[k], t told to be the list or tuple at p -/
theorem src_ix {σ : L2.St} {H : Hp} {p : Addr} {xs : List V} {v : V} {k : Int} {t : TE} (h : ∀ Q : VK, Q (.ref p) H → t σ H Q) (e : seqO (H p) = some xs) (hv : atI xs k = some v) : ∀ Q : VK, Q v H → tOp rIxM t (tC (.int k)) σ H Q := fun Q q => h _ ⟨xs, v, e, hv, q⟩
theorem src_var {σ : L2.St} {H : Hp} {i : Nat} {v : V} (h : σ[i]? = some (some v)) : ∀ Q : VK, Q v H → tVar i σ H Q := fun Q q => ⟨v, h, q⟩
theorem pr_is_join_atom {K : PySem.W.Frag} (vs : List V) (H : Hp) (Q : VK) (E : XK) (h : spJoinAtom vs H Q E) : t_is_join_atom K spTupleOf spIsWord spBetween (E0N Q) (L2.start ["many", "value", "x"] vs) H := by
  obtain ⟨v, d, many, rfl, ht, ho, q⟩ := h
  unfold t_is_join_atom
  generalize hA : (tRet (tAndV _ _)) = P
  walk_at "mt"
  refine ⟨v, d, 3, rfl, ht, ?_⟩
  cases h3 : tupD 3 d with
  | false =>
    walk_at "mt"
    rw [joinAtom_no h3] at q
    exact q H (.refl _)
  | true =>
    walk_at "mt"
    obtain ⟨a, b, c, rfl⟩ := tup3 h3
    obtain ⟨p, ws, rfl, e, hw, _⟩ := ht.tup
    obtain ⟨x, y, z, rfl, hx, hy, hz⟩ := hw.three
    obtain ⟨l, rfl⟩ := ty_str (of_decide_eq_true ho)
    obtain ⟨rfl, hl⟩ := hx.str
    have g : ∀ H', Same H H' → seqO (H' p) = some [.str (S l), y, z] := fun H' s => by rw [s _ _ e]; rfl
    refine ⟨_, g H (.refl _), _, rfl, ?_⟩
    by_cases h1 : l = [105, 110]
    · subst h1
      dsimp only
      simp only [decide_true, Bool.not_true, Bool.false_eq_true, ↓reduceIte]
      refine ⟨_, g H (.refl _), _, rfl, y, b, rfl, hy, fun H1 s1 => ?_⟩
      refine ⟨wordD b, rfl, ?_⟩
      cases hb : wordD b with
      | false =>
        simp only [Bool.not_false, ↓reduceIte]
        have : joinAtomD many (.tup [.str [105, 110], b, c]) = false := by cases c <;> simp [joinAtomD, hb]
        rw [this] at q
        exact q H1 s1
      | true =>
        simp only [Bool.not_true, Bool.false_eq_true, ↓reduceIte]
        refine ⟨_, g H1 s1, _, rfl, c.ty, (hz.mono s1).ty, ?_⟩
        by_cases hc : c.ty = .tup
        · obtain ⟨xs, rfl⟩ := ty_tup hc
          simp only [D.ty, decide_true, Bool.true_or, Bool.not_true, Bool.false_eq_true, ↓reduceIte]
          subst hA
          obtain ⟨u, us, rfl, eu, hu, hul⟩ := (hz.mono s1).tup
          have hlen := hu.length
          have gu : seqO (H1 u) = some us := by rw [eu]; rfl
          walk_at "mt"
          refine ⟨_, g H1 s1, _, rfl, us, gu, ?_⟩
          by_cases k1 : 1 ≤ xs.length
          · have k1' : (1 : Int) ≤ us.length := by omega
            simp only [k1', decide_true, ↓reduceIte]
            by_cases k2 : xs.length ≤ 3
            · have k2' : (us.length : Int) ≤ 3 := by omega
              simp only [k2', decide_true, ↓reduceIte]
              refine all_dats (ds := xs) (src_ix (src_var rfl) (g H1 s1) rfl) gu hu hul (btw 0 (many - 1)) (fun w d H2 K' _ s2 hd k => ?_) fun H2 s2 => ?_
              · walk_at "mt"
                exact ⟨w, d, 0, many - 1, rfl, hd, k H2 (.refl _)⟩
              · have : joinAtomD many (.tup [.str [105, 110], b, .tup xs]) = xs.all (btw 0 (many - 1)) := by simp [joinAtomD, hb, k1, k2]
                rw [this] at q
                exact q H2 (s1.trans s2)
            · have k2' : ¬ (us.length : Int) ≤ 3 := by omega
              simp only [k2', decide_false, Bool.false_eq_true, ↓reduceIte]
              have : joinAtomD many (.tup [.str [105, 110], b, .tup xs]) = false := by simp [joinAtomD, k2]
              rw [this] at q
              exact q H1 s1
          · have k1' : ¬ (1 : Int) ≤ us.length := by omega
            simp only [k1', decide_false, Bool.false_eq_true, ↓reduceIte]
            have : joinAtomD many (.tup [.str [105, 110], b, .tup xs]) = false := by simp only [joinAtomD, k1, decide_false, Bool.false_and, Bool.and_false]
            rw [this] at q
            exact q H1 s1
        · have : joinAtomD many (.tup [.str [105, 110], b, c]) = false := by cases c <;> first | rfl | exact absurd rfl hc
          rw [this] at q
          cases c <;> first | exact q H1 s1 | exact absurd rfl hc
    · have hne : ¬ (S l = S [105, 110]) := fun z => h1 (SX.S_inj z)
      dsimp only
      simp only [hne, decide_false, Bool.not_false, ↓reduceIte]
      have : joinAtomD many (.tup [.str l, b, c]) = false := by cases c <;> simp [joinAtomD, h1]
      rw [this] at q
      exact q H (.refl _)
end K44
set_option Elab.async false
set_option linter.all false
set_option maxRecDepth 100000
set_option maxHeartbeats 4000000
namespace K44
open PySem PySem.Spec PyProof.Rows L2 MT
open SX (S)
local macro_rules | `(tactic| walk_at "mt") => `(tactic| simp only [L2.start, List.map_cons, List.map_nil, List.length_cons, List.length_nil, List.replicate_succ, List.replicate_zero, Nat.reduceSub, Nat.reduceAdd, Nat.sub_self, Nat.zero_add, List.cons_append, List.nil_append, List.append_nil, List.getElem?_cons_zero, List.getElem?_cons_succ, List.set_cons_zero, List.set_cons_succ, Option.some.injEq, exists_eq_left', exists_eq_left, exists_eq_right, V.bl.injEq, V.int.injEq, V.str.injEq, V.ref.injEq, reduceCtorEq, false_and, and_false, true_and, and_true, false_or, or_false, exists_false, exists_const, ↓reduceIte, Bool.false_eq_true, decide_eq_true_eq, Bool.and_eq_true, Bool.not_true, Bool.not_false, List.cons.injEq, exists_and_left, exists_and_right,
  tRet, rInM, rNeI, rSortM, rIndexM, rRepM, rSetDM, rListDM, rPopAtM, tLstRg, tRg1, tDIn, tBM, tBM0, tAndV, tOrV, tNotV, tAnd, tOr, tNot, tB, tTest, tIf, tIfS, tC, tVar, tOp, tUn, tChain, rI0, rI, rU, tFn, tCons, tNil, tCB, tTup, tLst, tAsg, gName, tNext, tDrop, tRetN, tPar, tPar3, tAug, tReplC, tRevS, rLenM2, rIsBM, tDNotIn, tDGet, rSumM, rMaxM, rMinM, gSub, rSetL, tRaiseO, tFnW, tXf, gTup, gUnl, gCons, gNil, rPopM, rAppendM, rExtendM, rTupM, rListM, ipI, tIs, tIss, rLenM, rIxM, rAddM, rEqM, rNeM, rSignIn, rInt, rAbs, rStrI, tSl, tPart, tNoPart, rSlM, tIsN, tNotN, List.any_cons, List.any_nil, Bool.or_false, tSeq, isa, D.ty, decide_true, decide_false, Bool.true_or, Bool.or_true, Bool.false_or, Bool.and_true, Bool.true_and, Bool.false_and, Bool.and_false, eq_self_iff_true, not_true_eq_false, not_false_eq_true, bne_self_eq_false])
def conjD : D → Bool
  | .tup [.int m, x] => decide (0 ≤ m) && (match itemsD x with | some ds => decide (ds.length ≤ 12) && ds.all (joinAtomD m) | none => false)
  | _ => false
def headsOk : D → Bool
  | .tup [_, x] => (match itemsD x with | some ds => ds.all headOk | none => true)
  | _ => true
def spJoinConj : Sp := fun vs H Q _ => ∃ v d, vs = [v] ∧ Dat H v d ∧ headsOk d = true ∧ ∀ H', Same H H' → Q (.bl (conjD d)) H'
theorem tup2 {d : D} (h : tupD 2 d = true) : ∃ a b, d = .tup [a, b] := by
  cases d with
  | tup ds =>
    have : ds.length = 2 := of_decide_eq_true h
    match ds, this with
    | [a, b], _ => exact ⟨a, b, rfl⟩
  | _ => cases h
theorem conjD_no {d : D} (h : tupD 2 d = false) : conjD d = false := by
  unfold conjD
  split
  · cases h
  · rfl
theorem cnt_int {d : D} (h : cntD d = true) : ∃ m : Int, d = .int m ∧ 0 ≤ m := by
  cases d with
  | int m => exact ⟨m, rfl, of_decide_eq_true h⟩
  | _ => cases h
theorem Dat.intv {H : Hp} {v : V} {m : Int} (h : Dat H v (.int m)) : v = .int m := by
  obtain ⟨F, s, r⟩ := h
  cases r; rfl
theorem conjD_cnt {a b : D} (h : cntD a = false) : conjD (.tup [a, b]) = false := by
  cases a with
  | int m => simp only [conjD, show decide (0 ≤ m) = false from h, Bool.false_and]
  | _ => rfl
theorem conjD_lst {a b : D} (h : lstD b = false) : conjD (.tup [a, b]) = false := by
  have : itemsD b = none := by
    unfold lstD at h
    cases e : itemsD b with
    | none => rfl
    | some x => rw [e] at h; cases h
  cases a with
  | int m => simp only [conjD, this, Bool.and_false]
  | _ => rfl
theorem pr_is_join_conjunction {K : PySem.W.Frag} (vs : List V) (H : Hp) (Q : VK) (E : XK) (h : spJoinConj vs H Q E) : t_is_join_conjunction K spTupleOf spIsCount spIsList spJoinAtom (E0N Q) (L2.start ["value", "atom"] vs) H := by
  obtain ⟨v, d, rfl, ht, ho, q⟩ := h
  unfold t_is_join_conjunction
  generalize hA : (tRet (tCB _ _)) = P
  walk_at "mt"
  refine ⟨v, d, 2, rfl, ht, ?_⟩
  cases h2 : tupD 2 d with
  | false =>
    walk_at "mt"
    rw [conjD_no h2] at q
    exact q H (.refl _)
  | true =>
    walk_at "mt"
    obtain ⟨a, b, rfl⟩ := tup2 h2
    obtain ⟨p, ws, rfl, e, hw, _⟩ := ht.tup
    obtain ⟨x, y, rfl, hx, hy⟩ := hw.two
    have g : ∀ H', Same H H' → seqO (H' p) = some [x, y] := fun H' s => by rw [s _ _ e]; rfl
    refine ⟨_, g H (.refl _), _, rfl, x, a, rfl, hx, ?_⟩
    refine ⟨cntD a, rfl, ?_⟩
    cases hc : cntD a with
    | false =>
      simp only [Bool.not_false, ↓reduceIte]
      rw [conjD_cnt hc] at q
      exact q H (.refl _)
    | true =>
      obtain ⟨m, rfl, hm⟩ := cnt_int hc
      obtain rfl := hx.intv
      simp only [Bool.not_true, Bool.false_eq_true, ↓reduceIte]
      refine ⟨_, g H (.refl _), _, rfl, y, b, rfl, hy, ?_⟩
      refine ⟨lstD b, rfl, ?_⟩
      cases hl : lstD b with
      | false =>
        simp only [Bool.not_false, ↓reduceIte]
        rw [conjD_lst hl] at q
        exact q H (.refl _)
      | true =>
        obtain ⟨ds, hds⟩ := Option.isSome_iff_exists.mp hl
        obtain ⟨u, us, rfl, eu, hu, hul⟩ := hy.seq hds
        simp only [Bool.not_true, Bool.false_eq_true, ↓reduceIte]
        refine ⟨_, g H (.refl _), _, rfl, us, eu, ?_⟩
        have hlen := hu.length
        have hq : conjD (.tup [.int m, b]) = (decide (ds.length ≤ 12) && ds.all (joinAtomD m)) := by simp only [conjD, hds, hm, decide_true, Bool.true_and]
        by_cases k : ds.length ≤ 12
        · have k' : ¬ (12 : Int) < us.length := by omega
          simp only [k', decide_false, Bool.false_eq_true, ↓reduceIte]
          subst hA
          unfold tRet tCB tCons tNil
          refine all_dats (ds := ds) (src_ix (src_var rfl) (g H (.refl _)) rfl) eu hu hul (joinAtomD m) (fun w d H2 K' hd s2 hw2 kk => ?_) fun H2 s2 => ?_
          · walk_at "mt"
            refine ⟨_, g H2 s2, _, rfl, w, d, m, rfl, hw2, ?_, kk⟩
            have : ds.all headOk = true := by simpa [headsOk, hds] using ho
            exact List.all_eq_true.mp this d hd
          · rw [hq, decide_eq_true k, Bool.true_and] at q
            exact q H2 s2
        · have k' : (12 : Int) < us.length := by omega
          simp only [k', decide_true, ↓reduceIte]
          rw [hq, decide_eq_false k, Bool.false_and] at q
          exact q H (.refl _)
def spCheck (K : PySem.W.Frag) : Sp := fun vs H Q E => ∃ v d, vs = [v] ∧ Dat H v d ∧ headsOk d = true ∧ (conjD d = true → ∀ H', Same H H' → Q .non H') ∧
  (conjD d = false → ∀ H' x, Same H H' → H' x = none → E (.ref (He.ga K "InvalidConjunction")) (some x) (upd H' x (.xd [("given", v)])))
theorem pr_check_conjunction {K : PySem.W.Frag} (vs : List V) (H : Hp) (Q : VK) (E : XK) (h : spCheck K vs H Q E) : t_check_conjunction K spJoinConj E (E0N Q) (L2.start ["conjunction"] vs) H := by
  obtain ⟨v, d, rfl, ht, ho, q1, q2⟩ := h
  unfold t_check_conjunction
  walk_at "mt"
  refine ⟨v, d, rfl, ht, ho, fun H' s => ?_⟩
  refine ⟨conjD d, rfl, ?_⟩
  cases hc : conjD d with
  | true =>
    simp only [Bool.not_true, Bool.false_eq_true, ↓reduceIte]
    exact q1 hc H' s
  | false =>
    simp only [Bool.not_false, ↓reduceIte]
    exact fun x hx => q2 hc H' x s hx
end K44
set_option Elab.async false
set_option linter.all false
set_option maxRecDepth 100000
set_option maxHeartbeats 4000000
namespace K44
open PySem PySem.Spec PyProof.Rows L2 MT
open SX (S)
local macro_rules | `(tactic| walk_at "mt") => `(tactic| simp only [L2.start, List.map_cons, List.map_nil, List.length_cons, List.length_nil, List.replicate_succ, List.replicate_zero, Nat.reduceSub, Nat.reduceAdd, Nat.sub_self, Nat.zero_add, List.cons_append, List.nil_append, List.append_nil, List.getElem?_cons_zero, List.getElem?_cons_succ, List.set_cons_zero, List.set_cons_succ, Option.some.injEq, exists_eq_left', exists_eq_left, exists_eq_right, V.bl.injEq, V.int.injEq, V.str.injEq, V.ref.injEq, reduceCtorEq, false_and, and_false, true_and, and_true, false_or, or_false, exists_false, exists_const, ↓reduceIte, Bool.false_eq_true, decide_eq_true_eq, Bool.and_eq_true, Bool.not_true, Bool.not_false, List.cons.injEq, exists_and_left, exists_and_right,
  tRet, rInM, rNeI, rSortM, rIndexM, rRepM, rSetDM, rListDM, rPopAtM, tLstRg, tRg1, tDIn, tBM, tBM0, tAndV, tOrV, tNotV, tAnd, tOr, tNot, tB, tTest, tIf, tIfS, tC, tVar, tOp, tUn, tChain, rI0, rI, rU, tFn, tCons, tNil, tCB, tTup, tLst, tAsg, gName, tNext, tDrop, tRetN, tPar, tPar3, tAug, tReplC, tRevS, rLenM2, rIsBM, tDNotIn, tDGet, rSumM, rMaxM, rMinM, gSub, rSetL, tRaiseO, tFnW, tXf, gTup, gUnl, gCons, gNil, rPopM, rAppendM, rExtendM, rTupM, rListM, ipI, tIs, tIss, rLenM, rIxM, rAddM, rEqM, rNeM, rSignIn, rInt, rAbs, rStrI, tSl, tPart, tNoPart, rSlM, tIsN, tNotN, List.any_cons, List.any_nil, Bool.or_false, tSeq, isa, D.ty, decide_true, decide_false, Bool.true_or, Bool.or_true, Bool.false_or, Bool.and_true, Bool.true_and, Bool.false_and, Bool.and_false, eq_self_iff_true, not_true_eq_false, not_false_eq_true, bne_self_eq_false])
/-! ### the plain law: what is struck -/
def vat (A : List (List Int)) (i : Int) : List Int := A.getD i.toNat []
def oth (A : List (List Int)) (left : List Int) (i : Int) : List Int := (left.filter fun o => !decide (o = i)).flatMap (vat A)
def shd (A : List (List Int)) (left : List Int) (i : Int) : List Int := (vat A i).filter fun x => decide (x ∈ oth A left i)
def fits (A : List (List Int)) (left kept : List Int) (i o : Int) : Bool := !decide (o = i) && (!decide (i ∈ kept) && (shd A left i).all fun x => decide (x ∈ vat A o))
def nextOut (A : List (List Int)) (left kept : List Int) : Option (Int × Int) := left.findSome? fun i => left.findSome? fun o => if fits A left kept i o = true then some (i, o) else none
/-! ### atoms in the heap -/
def AtV (H : Hp) (v : V) (xs : List Int) : Prop := ∃ t u nm, v = .ref t ∧ H t = some (.tup [.str (S [105, 110]), nm, .ref u]) ∧ H u = some (.tup (xs.map V.int))
structure Ats (H : Hp) (a : Addr) (A : List (List Int)) : Prop where
  ex : ∃ vs, seqO (H a) = some vs ∧ vs.length = A.length ∧ ∀ (i : Nat) xs, A[i]? = some xs → ∃ v, vs[i]? = some v ∧ AtV H v xs
  sz : A.length ≤ 12
  wd : ∀ xs ∈ A, xs.length ≤ 3
theorem AtV.mono {H H' : Hp} {v : V} {xs : List Int} (h : AtV H v xs) (s : Same H H') : AtV H' v xs := by
  obtain ⟨t, u, nm, e, h1, h2⟩ := h
  exact ⟨t, u, nm, e, s _ _ h1, s _ _ h2⟩
theorem seq_mono {H H' : Hp} {a : Addr} {vs : List V} (h : seqO (H a) = some vs) (s : Same H H') : seqO (H' a) = some vs := by
  cases e : H a with
  | none => rw [e] at h; cases h
  | some o => rw [s _ _ e, ← e]; exact h
theorem Ats.mono {H H' : Hp} {a : Addr} {A : List (List Int)} (h : Ats H a A) (s : Same H H') : Ats H' a A := by
  obtain ⟨⟨vs, h1, h2, h3⟩, h4, h5⟩ := h
  exact ⟨⟨vs, seq_mono h1 s, h2, fun i xs e => by obtain ⟨v, a, b⟩ := h3 i xs e; exact ⟨v, a, b.mono s⟩⟩, h4, h5⟩
theorem vat_len {H : Hp} {a : Addr} {A : List (List Int)} (h : Ats H a A) (n : Int) : (vat A n).length ≤ 3 := by
  unfold vat
  rw [List.getD_eq_getElem?_getD]
  cases e : A[n.toNat]? with
  | none => simp
  | some xs => exact h.wd xs (List.mem_of_getElem? e)
theorem atI_nn {α : Type} {xs : List α} {n : Int} (h0 : 0 ≤ n) (h1 : n < xs.length) : atI xs n = xs[n.toNat]? := by
  unfold atI ixN
  rw [if_pos h0, if_pos h1]
  rfl
/-- what stands at atoms[i] -/
theorem Ats.at {H : Hp} {a : Addr} {A : List (List Int)} (h : Ats H a A) {n : Int} (h0 : 0 ≤ n) (h1 : n < A.length) : ∃ t u nm vs, seqO (H a) = some vs ∧ atI vs n = some (.ref t) ∧ H t = some (.tup [.str (S [105, 110]), nm, .ref u]) ∧ H u = some (.tup ((vat A n).map V.int)) := by
  obtain ⟨⟨vs, h2, h3, h4⟩, _, _⟩ := h
  have hi : n.toNat < A.length := by omega
  have e : A[n.toNat]? = some (vat A n) := by unfold vat; rw [List.getD_eq_getElem?_getD, List.getElem?_eq_getElem hi]; rfl
  obtain ⟨v, e2, t, u, nm, rfl, e3, e4⟩ := h4 _ _ e
  exact ⟨t, u, nm, vs, h2, by rw [atI_nn h0 (by omega), e2], e3, e4⟩
/-- atoms[n][2] -/
theorem src_vars {H : Hp} {a : Addr} {A : List (List Int)} {n : Int} {σ : L2.St} {i j : Nat} (h : Ats H a A) (h0 : 0 ≤ n) (h1 : n < A.length) (ha : σ[i]? = some (some (.ref a))) (hn : σ[j]? = some (some (.int n))) :
    ∃ u, H u = some (.tup ((vat A n).map V.int)) ∧ ∀ Q : VK, Q (.ref u) H → tOp rIxM (tOp rIxM (tVar i) (tVar j)) (tC (.int 2)) σ H Q := by
  obtain ⟨t, u, nm, vs, e1, e2, e3, e4⟩ := h.at h0 h1
  exact ⟨u, e4, src_ix (fun Q q => ⟨_, ha, _, hn, vs, _, e1, e2, q⟩) (by rw [e3]; rfl) rfl⟩
/-- numbers of atoms -/
def InR (A : List (List Int)) (left : List Int) : Prop := ∀ i ∈ left, 0 ≤ i ∧ i < (A.length : Int)
theorem oth_len {H : Hp} {a : Addr} {A : List (List Int)} (h : Ats H a A) : ∀ left : List Int, (left.flatMap (vat A)).length ≤ 3 * left.length
  | [] => by simp
  | i :: left => by
    have h1 := oth_len h left
    have h2 := vat_len h i
    rw [List.flatMap_cons, List.length_append, List.length_cons]
    omega
def spVarsLeft : Sp := fun vs H Q _ => ∃ a l A left, vs = [.ref a, .ref l] ∧ Ats H a A ∧ H l = some (.lst (left.map V.int)) ∧ InR A left ∧ left.length ≤ 1000 ∧
  ∀ p H' kvs, Same H H' → H p = none → H' p = some (.dK kvs) → (∀ i ∈ left, ∃ q, valV kvs (.inl i) = some (.ref q) ∧ H' q = some (.lst ((shd A left i).map V.int))) → Q (.ref p) H'
theorem int_at {ns : List Int} {k : Nat} (h : k < ns.length) : (ns.map V.int).getD k .non = .int (ns.getD k 0) := by
  rw [List.getD_eq_getElem?_getD, List.getElem?_map, List.getElem?_eq_getElem h, List.getD_eq_getElem?_getD, List.getElem?_eq_getElem h]
  rfl
theorem int_of_mem {ns : List Int} {x : V} (h : x ∈ ns.map V.int) : ∃ n, x = .int n ∧ n ∈ ns := by
  obtain ⟨n, h1, h2⟩ := List.mem_map.mp h
  exact ⟨n, h2.symm, h1⟩
def iv : V → Int
  | .int n => n
  | _ => 0
theorem filter_int (p : Int → Bool) (ns : List Int) : (ns.map V.int).filter (fun x => p (iv x)) = (ns.filter p).map V.int := by
  rw [List.filter_map]
  rfl
theorem map_id (ns : List Int) : (ns.map V.int).map (fun x => V.int (iv x)) = ns.map V.int := by
  rw [List.map_map]
  rfl
theorem flat_int (L : Int → List Int) (ns : List Int) : (ns.map V.int).flatMap (fun x => (L (iv x)).map V.int) = (ns.flatMap L).map V.int := by
  induction ns with
  | nil => rfl
  | cons n ns ih => rw [List.map_cons, List.flatMap_cons, List.flatMap_cons, List.map_append, ih]; rfl
theorem big1 {n : Nat} (h : n ≤ 100000) : n < sizeLine := bl_sl (by unfold BL; omega)
theorem putK_le {κ : Type} [DecidableEq κ] (c : List (κ × V)) (k : κ) (x : V) : (putK c k x).length ≤ c.length + 1 := by
  unfold putK
  split
  · rw [List.length_map]; omega
  · rw [List.length_append]; simp
theorem pr_variables_left {K : PySem.W.Frag} (vs : List V) (H : Hp) (Q : VK) (E : XK) (h : spVarsLeft vs H Q E) : t_variables_left K (E0N Q) (L2.start ["atoms", "left", "found", "index", "others", "other", "x"] vs) H := by
  obtain ⟨a, l, A, left, rfl, hA, hl, hr, hz, q⟩ := h
  unfold t_variables_left
  generalize hB : (tSeq (tAsg (tLc2 _ _ _ _ _ _ _ _ _) _) _ : TS) = B
  walk_at "mt"
  intro p hp
  have hpl : l ≠ p := fun z => by rw [z, hp] at hl; cases hl
  have hl1 : (upd H p (.dK [])) l = some (.lst (left.map V.int)) := by rw [upd_ne hpl]; exact hl
  refine for_vD (C := p) (xs := left.map V.int) (srcSqD (src_var rfl) (by rw [hl1]; rfl) (by rw [List.length_map]; exact big1 (by omega)) hpl)
    (fun k σ' H' => ∃ kvs x3 x4 x5 x6, σ' = [some (.ref a), some (.ref l), some (.ref p), x3, x4, x5, x6] ∧ SmD p H H' ∧ H' p = some (.dK kvs) ∧ kvs.length ≤ k ∧ ∀ i ∈ left.take k, ∃ q, q ≠ p ∧ valV kvs (.inl i) = some (.ref q) ∧ H' q = some (.lst ((shd A left i).map V.int)))
    ⟨[], _, _, _, _, rfl, .upd, upd_same, Nat.le_refl _, by simp⟩ (fun k σ' H' ⟨_, _, _, _, _, _, s, _⟩ => fun b o n e => s b o n (by rw [upd_ne n] at e; exact e)) (fun k σ' H' hk ⟨kvs, x3, x4, x5, x6, es, s, e1, hkl, hkv⟩ => ?_) fun σ' H' ⟨kvs, x3, x4, x5, x6, es, s, e1, hkl, hkv⟩ => ?_
  · subst es
    rw [List.length_map] at hk
    rw [int_at hk]
    generalize hi : left.getD k 0 = i
    have hil : i ∈ left := by rw [← hi, List.getD_eq_getElem?_getD, List.getElem?_eq_getElem hk]; exact List.getElem_mem hk
    have hs : Same H H' := s.same hp
    subst hB
    unfold tSeq tAsg
    show tLc2 _ _ _ _ _ _ _ _ _ _ _ _
    rw [lc2_is]
    have hlH : H' l = some (.lst (left.map V.int)) := hs _ _ hl
    refine lcN_v (xs := left.map V.int) (srcSq (src_var rfl) (by rw [hlH]; rfl) (by rw [List.length_map]; exact big1 (by omega))) (by simp) (fun x => !decide (iv x = i)) (fun x => (vat A (iv x)).map V.int) ?_ (fun x H1 K' hx s1 kk => ?_) (fun D x H1 acc N hx hpx hD s1 e2 hz2 kn => ?_) fun D H1 hD s1 e2 => ?_
    · rw [filter_int (fun n => !decide (n = i)), flat_int, List.length_map]
      refine big1 ?_
      have h1 := oth_len hA (left.filter fun n => !decide (n = i))
      have h2 := List.length_filter_le (fun n => !decide (n = i)) left
      omega
    · obtain ⟨n, rfl, hn⟩ := int_of_mem hx
      exact ⟨_, rfl, _, rfl, _, rfl, kk H1 (.refl _)⟩
    · obtain ⟨n, rfl, hn⟩ := int_of_mem hx
      obtain ⟨u, eu, su⟩ := src_vars (i := 0) (j := 5) (σ := [some (.ref a), some (.ref l), some (.ref p), some (.int i), x4, some (.int n), none]) (hA.mono (hs.trans s1)) (hr n hn).1 (hr n hn).2 rfl rfl
      have huD : u ≠ D := fun z => by rw [z, e2] at eu; cases eu
      refine lvLast_v (xs := (vat A n).map V.int) (srcSqD su (by rw [eu]; rfl) (by rw [List.length_map]; exact big1 (by have := vat_len hA n; omega)) huD) (by simp) e2 (fun _ => true) (fun x => V.int (iv x)) (by rw [List.filter_eq_self.mpr (fun _ _ => rfl)]; exact hz2) (fun x H2 K' _ s2 kk => kk H2 (.refl _)) (fun x H2 K' hx2 _ s2 kk => ?_) fun H2 s2 e3 => kn H2 s2 ?_
      · obtain ⟨m, rfl, _⟩ := int_of_mem hx2
        exact ⟨_, rfl, kk H2 (.refl _)⟩
      · rw [e3, List.filter_eq_self.mpr (fun _ _ => rfl), map_id]; rfl
    · rw [filter_int (fun n => !decide (n = i)), flat_int] at e2
      unfold gName
      dsimp only [List.set_cons_zero, List.set_cons_succ]
      have s3 : Same H H1 := hs.trans s1
      obtain ⟨u, eu, su⟩ := src_vars (i := 0) (j := 3) (σ := [some (.ref a), some (.ref l), some (.ref p), some (.int i), some (.ref D), x5, x6]) (hA.mono s3) (hr i hil).1 (hr i hil).2 rfl rfl
      refine lc_v (xs := (vat A i).map V.int) (srcSq su (by rw [eu]; rfl) (by rw [List.length_map]; exact big1 (by have := vat_len hA i; omega))) (by simp) (fun x => decide (iv x ∈ oth A left i)) (fun x => V.int (iv x)) (by rw [List.length_map]; exact big1 (by have := vat_len hA i; omega)) (fun x H2 K' hx s2 kk => ?_) (fun x H2 K' hx _ s2 kk => ?_) fun D2 H2 hD2 s2 e3 => ?_
      · obtain ⟨m, rfl, _⟩ := int_of_mem hx
        refine ⟨_, rfl, _, rfl, _, by rw [s2 _ _ e2]; rfl, rfl, flat_ints _, ?_⟩
        rw [inV_int]
        exact ⟨_, rfl, kk H2 (.refl _)⟩
      · obtain ⟨m, rfl, _⟩ := int_of_mem hx
        exact ⟨_, rfl, kk H2 (.refl _)⟩
      · rw [filter_int (fun n => decide (n ∈ oth A left i)), map_id] at e3
        have ep : H2 p = some (.dK kvs) := s2 _ _ (s1 _ _ e1)
        have nD2 : D2 ≠ p := fun z => by rw [z, s1 _ _ e1] at hD2; cases hD2
        refine ⟨_, rfl, _, rfl, kvs, .inl i, ep, rfl, big1 (by omega), _, _, _, _, _, rfl, ((s.trans (.of (s1.trans s2))).trans .upd), upd_same, Nat.le_trans (putK_le _ _ _) (by omega), fun j hj => ?_⟩
        rw [valV_put]
        by_cases hji : j = i
        · subst hji
          exact ⟨D2, nD2, by rw [if_pos rfl], by rw [upd_ne nD2]; exact e3⟩
        · rw [if_neg (fun z => hji (by cases z; rfl))]
          have hj2 : j ∈ left.take k := by
            rw [List.take_succ, List.mem_append] at hj
            refine hj.resolve_right fun z => hji ?_
            rw [List.getElem?_eq_getElem hk] at z
            rw [← hi, List.getD_eq_getElem?_getD, List.getElem?_eq_getElem hk]
            simpa using z
          obtain ⟨q2, n1, n2, n3⟩ := hkv j hj2
          exact ⟨q2, n1, n2, by rw [upd_ne n1]; exact s2 _ _ (s1 _ _ n3)⟩
  · subst es
    walk_at "mt"
    rw [List.length_map, List.take_length] at hkv
    exact q p H' kvs (s.same hp) hp e1 fun i hi => by obtain ⟨q2, _, h1, h2⟩ := hkv i hi; exact ⟨q2, h1, h2⟩
end K44
set_option Elab.async false
set_option linter.all false
set_option maxRecDepth 100000
set_option maxHeartbeats 4000000
namespace K44
open PySem PySem.Spec PyProof.Rows L2 MT
open SX (S)
local macro_rules | `(tactic| walk_at "mt") => `(tactic| simp only [L2.start, List.map_cons, List.map_nil, List.length_cons, List.length_nil, List.replicate_succ, List.replicate_zero, Nat.reduceSub, Nat.reduceAdd, Nat.sub_self, Nat.zero_add, List.cons_append, List.nil_append, List.append_nil, List.getElem?_cons_zero, List.getElem?_cons_succ, List.set_cons_zero, List.set_cons_succ, Option.some.injEq, exists_eq_left', exists_eq_left, exists_eq_right, V.bl.injEq, V.int.injEq, V.str.injEq, V.ref.injEq, reduceCtorEq, false_and, and_false, true_and, and_true, false_or, or_false, exists_false, exists_const, ↓reduceIte, Bool.false_eq_true, decide_eq_true_eq, Bool.and_eq_true, Bool.not_true, Bool.not_false, List.cons.injEq, exists_and_left, exists_and_right,
  tRet, rInM, rNeI, rSortM, rIndexM, rRepM, rSetDM, rListDM, rPopAtM, tLstRg, tRg1, tDIn, tBM, tBM0, tAndV, tOrV, tNotV, tAnd, tOr, tNot, tB, tTest, tIf, tIfS, tC, tVar, tOp, tUn, tChain, rI0, rI, rU, tFn, tCons, tNil, tCB, tTup, tLst, tAsg, gName, tNext, tDrop, tRetN, tPar, tPar3, tAug, tReplC, tRevS, rLenM2, rIsBM, tDNotIn, tDGet, rSumM, rMaxM, rMinM, gSub, rSetL, tRaiseO, tFnW, tXf, gTup, gUnl, gCons, gNil, rPopM, rAppendM, rExtendM, rTupM, rListM, ipI, tIs, tIss, rLenM, rIxM, rAddM, rEqM, rNeM, rSignIn, rInt, rAbs, rStrI, tSl, tPart, tNoPart, rSlM, tIsN, tNotN, List.any_cons, List.any_nil, Bool.or_false, tSeq, isa, D.ty, decide_true, decide_false, Bool.true_or, Bool.or_true, Bool.false_or, Bool.and_true, Bool.true_and, Bool.false_and, Bool.and_false, eq_self_iff_true, not_true_eq_false, not_false_eq_true, bne_self_eq_false])
/-- all([te for x in xs]) -/
theorem all_v {wi : TI} {σ : L2.St} {H : Hp} {xs : List V} {j : Nat} {te : TE} {Q : VK} (s : Src wi σ H xs) (hz : xs.length < sizeLine) (f : V → Bool) (he : ∀ x H1 K', x ∈ xs → Same H H1 → (∀ H2, Same H1 H2 → K' (.bl (f x)) H2) → te ((wipe σ [j]).set j (some x)) H1 K')
    (q : ∀ H', Same H H' → Q (.bl (xs.all f)) H') : tLc wi (gName j) tYes te [j] σ H fun x H1 => rAllM (fun bs => bs.all id) [x] H1 Q := by
  refine lc_v s (by simp) (fun _ => true) (fun x => .bl (f x)) hz (fun x H1 K' _ _ k => k H1 (.refl _)) (fun x H1 K' hx _ s1 k => he x H1 K' hx s1 k) fun D H1 _ s1 e => ?_
  rw [List.filter_eq_self.mpr (fun _ _ => rfl)] at e
  unfold rAllM
  refine ⟨xs.map f, by rw [e, List.map_map]; rfl, ?_⟩
  have z : (xs.map f).all id = xs.all f := by rw [List.all_map]; rfl
  show Q (.bl (List.all _ id)) H1
  rw [z]
  exact q H1 s1
theorem all_int (f : Int → Bool) (ns : List Int) : (ns.map V.int).all (fun x => f (iv x)) = ns.all f := by
  rw [List.all_map]
  rfl
def Kept (H : Hp) (v : V) (kept : List Int) : Prop := ∃ b, v = .ref b ∧ seqO (H b) = some (kept.map V.int)
theorem Kept.mono {H H' : Hp} {v : V} {kept : List Int} (h : Kept H v kept) (s : Same H H') : Kept H' v kept := by
  obtain ⟨b, e, h⟩ := h
  exact ⟨b, e, seq_mono h s⟩
def spNextOut : Sp := fun vs H Q _ => ∃ a l kv A left kept, vs = [.ref a, .ref l, kv] ∧ Ats H a A ∧ H l = some (.lst (left.map V.int)) ∧ InR A left ∧ left.length ≤ 1000 ∧ Kept H kv kept ∧
  (nextOut A left kept = none → ∀ H', Same H H' → Q .non H') ∧ (∀ i o, nextOut A left kept = some (i, o) → ∀ p H', Same H H' → H p = none → H' p = some (.tup [.int i, .int o]) → Q (.ref p) H')
theorem fs_next {α β : Type} (f : α → Option β) (l : List α) (d : α) {k : Nat} (hk : k < l.length) (h : (l.take k).findSome? f = none) : (l.take (k + 1)).findSome? f = f (l.getD k d) := by
  have e : l.take (k + 1) = l.take k ++ [l.getD k d] := by
    rw [List.take_succ, List.getD_eq_getElem?_getD, List.getElem?_eq_getElem hk]; rfl
  rw [e, List.findSome?_append, h]
  show (match f (l.getD k d) with | some b => some b | none => none) = _
  cases f (l.getD k d) <;> rfl
theorem fs_some {α β : Type} (f : α → Option β) (l : List α) {k : Nat} {r : β} (h : (l.take k).findSome? f = some r) : l.findSome? f = some r := by
  have e := List.take_append_drop k l
  rw [← e, List.findSome?_append, h]
  rfl
theorem pr_next_out {K : PySem.W.Frag} (vs : List V) (H : Hp) (Q : VK) (E : XK) (h : spNextOut vs H Q E) : t_next_out K spVarsLeft (E0N Q) (L2.start ["atoms", "left", "kept", "shared", "index", "other", "x"] vs) H := by
  obtain ⟨a, l, kv, A, left, kept, rfl, hA, hl, hr, hz, hk, q1, q2⟩ := h
  unfold t_next_out
  generalize hB : (tFor (iSq K (tVar 1)) (gName 5) _ : TS) = B
  walk_at "mt"
  refine ⟨a, l, A, left, rfl, hA, hl, hr, hz, fun d H1 kvs s1 hd1 ed hv => ?_⟩
  have hlen : (left.map V.int).length < sizeLine := by rw [List.length_map]; exact big1 (by omega)
  refine for_v (xs := left.map V.int) (srcSq (src_var rfl) (by rw [s1 _ _ hl]; rfl) hlen)
    (fun k σ' H' => ∃ x4 x5 x6, σ' = [some (.ref a), some (.ref l), some kv, some (.ref d), x4, x5, x6] ∧ Same H1 H' ∧ (left.take k).findSome? (fun i => left.findSome? fun o => if fits A left kept i o = true then some (i, o) else none) = none)
    ⟨_, _, _, rfl, .refl _, rfl⟩ (fun k σ' H' ⟨_, _, _, _, s, _⟩ => s) (fun k σ' H' hkk ⟨x4, x5, x6, es, s2, n2⟩ => ?_) fun σ' H' ⟨x4, x5, x6, es, s2, n2⟩ => ?_
  · subst es
    rw [List.length_map] at hkk
    rw [int_at hkk]
    have fsO := fs_next (fun i => left.findSome? fun o => if fits A left kept i o = true then some (i, o) else none) left 0 hkk n2
    generalize hi : left.getD k 0 = i at fsO
    have hil : i ∈ left := by rw [← hi, List.getD_eq_getElem?_getD, List.getElem?_eq_getElem hkk]; exact List.getElem_mem hkk
    subst hB
    dsimp only [List.set_cons_zero, List.set_cons_succ]
    refine for_v (xs := left.map V.int) (srcSq (src_var rfl) (by rw [s2 _ _ (s1 _ _ hl)]; rfl) hlen)
      (fun m σ'' H'' => ∃ x5 x6, σ'' = [some (.ref a), some (.ref l), some kv, some (.ref d), some (.int i), x5, x6] ∧ Same H' H'' ∧ (left.take m).findSome? (fun o => if fits A left kept i o = true then some (i, o) else none) = none)
      ⟨_, _, rfl, .refl _, rfl⟩ (fun m σ'' H'' ⟨_, _, _, s, _⟩ => s) (fun m σ'' H'' hm ⟨y5, y6, es2, s3, n3⟩ => ?_) fun σ'' H'' ⟨y5, y6, es2, s3, n3⟩ => ?_
    · subst es2
      rw [List.length_map] at hm
      rw [int_at hm]
      have fsI := fs_next (fun o => if fits A left kept i o = true then some (i, o) else none) left 0 hm n3
      generalize ho : left.getD m 0 = o at fsI
      have hol : o ∈ left := by rw [← ho, List.getD_eq_getElem?_getD, List.getElem?_eq_getElem hm]; exact List.getElem_mem hm
      walk_at "mt"
      have no : fits A left kept i o = false → (List.take (m + 1) left).findSome? (fun o => if fits A left kept i o = true then some (i, o) else none) = none := fun z => by rw [fsI, z]; rfl
      have sa : Same H H'' := s1.trans (s2.trans s3)
      by_cases h1 : o = i
      · rw [if_neg (by simp [h1])]
        exact ⟨⟨_, rfl⟩, s3, no (by simp [fits, h1])⟩
      · rw [if_pos (by simp [h1])]
        obtain ⟨b, rfl, hb⟩ := hk
        refine ⟨_, seq_mono hb sa, rfl, flat_ints _, ?_⟩
        rw [inV_int]
        by_cases h2 : i ∈ kept
        · rw [if_neg (by simp [h2])]
          exact ⟨⟨_, rfl⟩, s3, no (by simp [fits, h2])⟩
        · rw [if_pos (by simp [h2])]
          obtain ⟨q, hq, eq⟩ := hv i hil
          have eq2 : H'' q = some (.lst ((shd A left i).map V.int)) := (s2.trans s3) _ _ eq
          have sl : (shd A left i).length ≤ 3 := Nat.le_trans (List.length_filter_le _ _) (vat_len hA i)
          refine all_v (xs := (shd A left i).map V.int) (srcSq (a := q) (fun Q z => ⟨_, rfl, _, rfl, d, _, rfl, .inl ⟨kvs, .inl i, .inl ((s2.trans s3) _ _ ed), rfl, hq.symm⟩, z⟩) (by rw [eq2]; rfl) (by rw [List.length_map]; exact big1 (by omega))) (by rw [List.length_map]; exact big1 (by omega))
            (fun x => decide (iv x ∈ vat A o)) (fun x H3 K' hx s4 kk => ?_) fun H3 s4 => ?_
          · obtain ⟨n, rfl, hn⟩ := int_of_mem hx
            obtain ⟨u, eu, su⟩ := src_vars (i := 0) (j := 5) (σ := [some (.ref a), some (.ref l), some (.ref b), some (.ref d), some (.int i), some (.int o), some (.int n)]) (hA.mono (sa.trans s4)) (hr o hol).1 (hr o hol).2 rfl rfl
            refine ⟨_, rfl, su _ ⟨_, by rw [eu]; rfl, rfl, flat_ints _, ?_⟩⟩
            rw [inV_int]
            exact kk H3 (.refl _)
          · refine ⟨_, rfl, ?_⟩
            rw [all_int (fun n => decide (n ∈ vat A o))]
            have fe : fits A left kept i o = (shd A left i).all fun x => decide (x ∈ vat A o) := by simp [fits, h1, h2]
            cases ha : (shd A left i).all fun n => decide (n ∈ vat A o) with
            | false =>
              exact ⟨⟨_, rfl⟩, s3.trans s4, no (by rw [fe]; exact ha)⟩
            | true =>
              refine ⟨by decide +kernel, fun p hp => ?_⟩
              have hfit : fits A left kept i o = true := by rw [fe]; exact ha
              have e1 : left.findSome? (fun o => if fits A left kept i o = true then some (i, o) else none) = some (i, o) := fs_some _ _ (k := m + 1) (by rw [fsI, if_pos hfit])
              have e2 : nextOut A left kept = some (i, o) := fs_some _ _ (k := k + 1) (by rw [fsO, e1])
              exact q2 i o e2 p _ ((sa.trans s4).trans (same_upd hp)) (Same.free (sa.trans s4) hp) upd_same
    · subst es2
      rw [List.length_map, List.take_length] at n3
      exact ⟨_, _, _, rfl, s2.trans s3, by rw [fsO]; exact n3⟩
  · subst es
    rw [List.length_map, List.take_length] at n2
    walk_at "mt"
    exact q1 n2 H' (s1.trans s2)
end K44
set_option Elab.async false
set_option linter.all false
set_option maxRecDepth 100000
set_option maxHeartbeats 4000000
namespace K44
open PySem PySem.Spec PyProof.Rows L2 MT
open SX (S)
local macro_rules | `(tactic| walk_at "mt") => `(tactic| simp only [L2.start, List.map_cons, List.map_nil, List.length_cons, List.length_nil, List.replicate_succ, List.replicate_zero, Nat.reduceSub, Nat.reduceAdd, Nat.sub_self, Nat.zero_add, List.cons_append, List.nil_append, List.append_nil, List.getElem?_cons_zero, List.getElem?_cons_succ, List.set_cons_zero, List.set_cons_succ, Option.some.injEq, exists_eq_left', exists_eq_left, exists_eq_right, V.bl.injEq, V.int.injEq, V.str.injEq, V.ref.injEq, reduceCtorEq, false_and, and_false, true_and, and_true, false_or, or_false, exists_false, exists_const, ↓reduceIte, Bool.false_eq_true, decide_eq_true_eq, Bool.and_eq_true, Bool.not_true, Bool.not_false, List.cons.injEq, exists_and_left, exists_and_right,
  tRet, rInM, rNeI, rSortM, rIndexM, rRepM, rSetDM, rListDM, rPopAtM, tLstRg, tRg1, tDIn, tBM, tBM0, tAndV, tOrV, tNotV, tAnd, tOr, tNot, tB, tTest, tIf, tIfS, tC, tVar, tOp, tUn, tChain, rI0, rI, rU, tFn, tCons, tNil, tCB, tTup, tLst, tAsg, gName, tNext, tDrop, tRetN, tPar, tPar3, tAug, tReplC, tRevS, rLenM2, rIsBM, tDNotIn, tDGet, rSumM, rMaxM, rMinM, gSub, rSetL, tRaiseO, tFnW, tXf, gTup, gUnl, gCons, gNil, rPopM, rAppendM, rExtendM, rTupM, rListM, ipI, tIs, tIss, rLenM, rIxM, rAddM, rEqM, rNeM, rSignIn, rInt, rAbs, rStrI, tSl, tPart, tNoPart, rSlM, tIsN, tNotN, List.any_cons, List.any_nil, Bool.or_false, tSeq, isa, D.ty, decide_true, decide_false, Bool.true_or, Bool.or_true, Bool.false_or, Bool.and_true, Bool.true_and, Bool.false_and, Bool.and_false, eq_self_iff_true, not_true_eq_false, not_false_eq_true, bne_self_eq_false])
def less (left : List Int) (i : Int) : List Int := left.filter fun j => !decide (j = i)
def strike (A : List (List Int)) (kept : List Int) : Nat → List Int → List (Int × Int) × List Int
  | 0, left => ([], left)
  | f + 1, left => match nextOut A left kept with
    | none => ([], left)
    | some p => (p :: (strike A kept f (less left p.1)).1, (strike A kept f (less left p.1)).2)
def rng (n : Nat) : List Int := (List.range n).map fun i : Nat => (i : Int)
def struck (A : List (List Int)) (kept : List Int) : List (Int × Int) × List Int := strike A kept A.length (rng A.length)
theorem nextOut_in {A : List (List Int)} {left kept : List Int} {i o : Int} (h : nextOut A left kept = some (i, o)) : i ∈ left ∧ o ∈ left ∧ fits A left kept i o = true := by
  obtain ⟨i', h1, h2⟩ := List.exists_of_findSome?_eq_some h
  obtain ⟨o', h3, h4⟩ := List.exists_of_findSome?_eq_some h2
  split at h4
  · rename_i hf
    cases h4
    exact ⟨h1, h3, hf⟩
  · cases h4
theorem less_len {left : List Int} {i : Int} (h : i ∈ left) : (less left i).length < left.length := by
  unfold less
  refine Nat.lt_of_le_of_ne (List.length_filter_le _ _) fun e => ?_
  have := List.length_filter_eq_length_iff.mp e i h
  simp at this
theorem strike_same {A : List (List Int)} {kept : List Int} : ∀ (n f g : Nat) (left : List Int), left.length ≤ n → left.length ≤ f → left.length ≤ g → strike A kept f left = strike A kept g left := by
  intro n
  induction n with
  | zero =>
    intro f g left hn _ _
    have : left = [] := List.length_eq_zero_iff.mp (by omega)
    subst this
    have e : ∀ f, strike A kept f [] = ([], []) := fun f => by cases f <;> rfl
    rw [e, e]
  | succ n ih =>
    intro f g left hn hf hg
    cases q : nextOut A left kept with
    | none =>
      have e : ∀ f, strike A kept f left = ([], left) := fun f => by cases f with
        | zero => rfl
        | succ f => simp only [strike, q]
      rw [e, e]
    | some p =>
      obtain ⟨i, o⟩ := p
      have hi := (nextOut_in q).1
      have hl := less_len hi
      cases f with
      | zero => omega
      | succ f => cases g with
        | zero => omega
        | succ g =>
          simp only [strike, q]
          rw [ih f g (less left i) (by omega) (by omega) (by omega)]
theorem strike_none {A : List (List Int)} {kept left : List Int} (h : nextOut A left kept = none) : strike A kept left.length left = ([], left) := by
  cases e : left.length with
  | zero => rfl
  | succ n => simp only [strike, h]
theorem strike_some {A : List (List Int)} {kept left : List Int} {i o : Int} (h : nextOut A left kept = some (i, o)) : strike A kept left.length left = ((i, o) :: (strike A kept (less left i).length (less left i)).1, (strike A kept (less left i).length (less left i)).2) := by
  have hl := less_len (nextOut_in h).1
  cases e : left.length with
  | zero => omega
  | succ n =>
    simp only [strike, h]
    rw [strike_same n n (less left i).length (less left i) (by omega) (by omega) (Nat.le_refl _)]
theorem inR_less {A : List (List Int)} {left : List Int} {i : Int} (h : InR A left) : InR A (less left i) := fun j hj => h j (List.mem_filter.mp hj).1
theorem inR_rng {A : List (List Int)} : InR A (rng A.length) := fun i hi => by
  obtain ⟨k, hk, rfl⟩ := List.mem_map.mp hi
  have := List.mem_range.mp hk
  omega
def PairsAt (H : Hp) (ps : List V) (ts : List (Int × Int)) : Prop := ps.length = ts.length ∧ ∀ (i : Nat) v q, ps[i]? = some v → ts[i]? = some q → pairAt H v q
theorem pairAt_mono {H H' : Hp} {v : V} {q : Int × Int} (h : pairAt H v q) (s : Same H H') : pairAt H' v q := by
  obtain ⟨t, e, h⟩ := h
  exact ⟨t, e, s _ _ h⟩
theorem PairsAt.mono {H H' : Hp} {ps : List V} {ts : List (Int × Int)} (h : PairsAt H ps ts) (s : Same H H') : PairsAt H' ps ts := ⟨h.1, fun i v q a b => pairAt_mono (h.2 i v q a b) s⟩
theorem PairsAt.monoD {H H' : Hp} {D : Addr} {xs : List V} {ps : List V} {ts : List (Int × Int)} (h : PairsAt H ps ts) (hD : H D = some (.lst xs)) (s : SmD D H H') : PairsAt H' ps ts := ⟨h.1, fun i v q a b => by
  obtain ⟨t, e, z⟩ := h.2 i v q a b
  exact ⟨t, e, s _ _ (fun w => by rw [w, hD] at z; cases z) z⟩⟩
theorem PairsAt.snoc {H : Hp} {ps : List V} {ts : List (Int × Int)} {v : V} {q : Int × Int} (h : PairsAt H ps ts) (hv : pairAt H v q) : PairsAt H (ps ++ [v]) (ts ++ [q]) := by
  refine ⟨by rw [List.length_append, List.length_append, h.1]; rfl, fun i w r h1 h2 => ?_⟩
  by_cases hi : i < ps.length
  · rw [List.getElem?_append_left hi] at h1
    rw [List.getElem?_append_left (by have := h.1; omega)] at h2
    exact h.2 i w r h1 h2
  · have e := h.1
    rw [List.getElem?_append_right (by omega)] at h1 h2
    rw [← e] at h2
    cases k : i - ps.length with
    | zero => rw [k] at h1 h2; simp at h1 h2; rw [← h1, ← h2]; exact hv
    | succ k2 => rw [k] at h1; simp at h1
def spStruckOut : Sp := fun vs H Q _ => ∃ a kv A kept, vs = [.ref a, kv] ∧ Ats H a A ∧ Kept H kv kept ∧
  ∀ p t l ps H', Same H H' → H t = none → H l = none → l ≠ t → H' p = some (.tup [.ref t, .ref l]) → H' t = some (.lst ps) → H' l = some (.lst ((struck A kept).2.map V.int)) → PairsAt H' ps (struck A kept).1 → Q (.ref p) H'
/-- what next_out told -/
def Told (H : Hp) (v : V) : Option (Int × Int) → Prop
  | none => v = .non
  | some q => pairAt H v q
theorem rgV_rng (n : Nat) : rgV 0 (n : Int) = (rng n).map V.int := by
  unfold rgV rng
  rw [List.map_map]
  have : ((n : Int) - 0).toNat = n := by omega
  rw [this]
  refine List.map_congr_left fun i _ => ?_
  show V.int (0 + (i : Int)) = V.int (i : Int)
  rw [Int.zero_add]
theorem pr_struck_out {K : PySem.W.Frag} (vs : List V) (H : Hp) (Q : VK) (E : XK) (h : spStruckOut vs H Q E) : t_struck_out K spNextOut (E0N Q) (L2.start ["atoms", "kept", "left", "tree", "pair", "index"] vs) H := by
  obtain ⟨a, kv, A, kept, rfl, hA, hk, q⟩ := h
  unfold t_struck_out
  generalize hB : (tWhile _ _ : TS) = B
  walk_at "mt"
  obtain ⟨va, ea, la, _⟩ := hA.ex
  have h12 := hA.sz
  refine ⟨va, ea, RgOk.of_le (by omega) (by omega) (by omega) (by omega), fun l hl => ⟨by decide +kernel, fun t ht => ?_⟩⟩
  rw [la, rgV_rng] at ht ⊢
  have hlt : t ≠ l := fun z => by rw [z, upd_same] at ht; cases ht
  have ht0 : H t = none := by rw [upd_ne hlt] at ht; exact ht
  have s0 : Same H (upd (upd H l (.lst ((rng A.length).map V.int))) t (.lst [])) := (same_upd hl).trans (same_upd ht)
  have el : (upd (upd H l (.lst ((rng A.length).map V.int))) t (.lst [])) l = some (.lst ((rng A.length).map V.int)) := by rw [upd_ne (Ne.symm hlt), upd_same]
  have rl : (rng A.length).length = A.length := by unfold rng; rw [List.length_map, List.length_range]
  generalize hH0 : upd (upd H l (.lst ((rng A.length).map V.int))) t (.lst []) = H0 at s0 el ⊢
  have et : H0 t = some (.lst []) := by rw [← hH0]; exact upd_same
  have wh : ∀ (pv : V) (H1 : Hp), Same H0 H1 → Told H1 pv (nextOut A (rng A.length) kept) → B { nx := tRet (tTup (tCons (tVar 3) (tCons (tVar 2) tNil))) (E0N Q), rt := Q } [some (.ref a), some kv, some (.ref l), some (.ref t), some pv, none] H1 := by
    intro pv H1 s1 hp
    subst hB
    unfold tWhile
    refine ⟨fun m σ' H' => ∃ l left tr ps pv x5, m = left.length ∧ σ' = [some (.ref a), some kv, some (.ref l), some (.ref t), some pv, x5] ∧ SmD t H H' ∧ H l = none ∧ l ≠ t ∧ H' l = some (.lst (left.map V.int)) ∧ H' t = some (.lst ps) ∧ PairsAt H' ps tr ∧ InR A left ∧ left.length ≤ 12 ∧ tr.length ≤ 12 - left.length ∧
      (tr ++ (strike A kept left.length left).1, (strike A kept left.length left).2) = struck A kept ∧ Told H' pv (nextOut A left kept),
      ⟨_, l, rng A.length, [], [], pv, none, rfl, rfl, .of (s0.trans s1), hl, Ne.symm hlt, s1 _ _ el, s1 _ _ et, ⟨rfl, by simp⟩, inR_rng, by omega, by simp, by rw [List.nil_append, rl]; rfl, hp⟩, ?_⟩
    rintro m σ' H' ⟨l, left, tr, ps, pv, x5, rfl, rfl, s, hl, hlt, el, et, hps, hr, hz, hz2, hst, hp⟩
    have sH : Same H H' := s.same ht0
    cases hno : nextOut A left kept with
    | none =>
      rw [hno] at hp
      obtain rfl : pv = .non := hp
      walk_at "mt"
      refine ⟨by decide +kernel, fun p hp => ?_⟩
      rw [strike_none hno] at hst
      have e1 : struck A kept = (tr, left) := by rw [← hst, List.append_nil]
      refine q p t l ps _ (sH.trans (same_upd hp)) ht0 hl hlt upd_same ?_ ?_ ?_
      · rw [upd_ne (ne_of_none et hp)]; exact et
      · rw [upd_ne (ne_of_none el hp), e1]; exact el
      · rw [e1]; exact hps.mono (same_upd hp)
    | some io =>
      obtain ⟨i, o⟩ := io
      rw [hno] at hp
      obtain ⟨u, rfl, eu⟩ := hp
      walk_at "mt"
      obtain ⟨hil, hol, hf⟩ := nextOut_in hno
      have hlt2 := less_len hil
      rw [strike_some hno] at hst
      refine ⟨fun σ' H2 => ∃ pv l2, σ' = [some (.ref a), some kv, some (.ref l2), some (.ref t), some pv, x5] ∧ SmD t H H2 ∧ H l2 = none ∧ l2 ≠ t ∧ H2 l2 = some (.lst ((less left i).map V.int)) ∧ H2 t = some (.lst (ps ++ [.ref u])) ∧ PairsAt H2 (ps ++ [.ref u]) (tr ++ [(i, o)]) ∧ Told H2 pv (nextOut A (less left i) kept), ?_, tyL et, ps, et, ?_, ?_⟩
      · rintro σ2 H2 ⟨pv, l2, rfl, s2, z1, z2, z3, z4, z5, z6⟩
        refine ⟨_, hlt2, l2, less left i, rfl, tr ++ [(i, o)], ps ++ [.ref u], pv, ⟨x5, rfl⟩, s2, z1, z2, z3, z4, z5, inR_less hr, by omega, ?_, ?_, z6⟩
        · rw [List.length_append]; simp; omega
        · rw [← hst, List.append_assoc]; rfl
      · have := hps.1
        exact big1 (by omega)
      · have et2 : (upd H' t (.lst (ps ++ [.ref u]))) t = some (.lst (ps ++ [.ref u])) := upd_same
        have el2 : (upd H' t (.lst (ps ++ [.ref u]))) l = some (.lst (left.map V.int)) := by rw [upd_ne hlt]; exact el
        have nut : u ≠ t := fun z => by rw [z, et] at eu; cases eu
        have eu2 : (upd H' t (.lst (ps ++ [.ref u]))) u = some (.tup [.int i, .int o]) := by rw [upd_ne nut]; exact eu
        have s3 : SmD t H (upd H' t (.lst (ps ++ [.ref u]))) := s.trans .upd
        have p3 : PairsAt (upd H' t (.lst (ps ++ [.ref u]))) (ps ++ [.ref u]) (tr ++ [(i, o)]) := (hps.monoD et .upd).snoc ⟨u, rfl, eu2⟩
        generalize upd H' t (.lst (ps ++ [.ref u])) = H3 at et2 el2 eu2 s3 p3 ⊢
        refine lc_v (xs := left.map V.int) (srcSq (src_var rfl) (by rw [el2]; rfl) (by rw [List.length_map]; exact big1 (by omega))) (by simp) (fun x => !decide (iv x = i)) (fun x => V.int (iv x)) (by rw [List.length_map]; exact big1 (by omega)) (fun x H4 K' hx s4 kk => ?_) (fun x H4 K' hx _ s4 kk => ?_) fun D H4 hD s4 e4 => ?_
        · obtain ⟨n, rfl, _⟩ := int_of_mem hx
          refine ⟨_, rfl, src_ix (v := .int i) (src_var rfl) (by rw [s4 _ _ eu2]; rfl) rfl _ ⟨_, rfl, kk H4 (.refl _)⟩⟩
        · obtain ⟨n, rfl, _⟩ := int_of_mem hx
          exact ⟨_, rfl, kk H4 (.refl _)⟩
        · rw [filter_int (fun n => !decide (n = i)), map_id] at e4
          have sH4 : Same H H4 := (s3.trans (.of s4)).same ht0
          have nDt : D ≠ t := fun z => by rw [z, et2] at hD; cases hD
          have HD : H D = none := Same.free (s3.same ht0) hD
          have fin : ∀ pv H5, Same H4 H5 → Told H5 pv (nextOut A (less left i) kept) → ∃ pv' l2, ([some (.ref a), some kv, some (.ref D), some (.ref t), some pv, x5] : L2.St) = [some (.ref a), some kv, some (.ref l2), some (.ref t), some pv', x5] ∧ SmD t H H5 ∧ H l2 = none ∧ l2 ≠ t ∧ H5 l2 = some (.lst ((less left i).map V.int)) ∧ H5 t = some (.lst (ps ++ [.ref u])) ∧ PairsAt H5 (ps ++ [.ref u]) (tr ++ [(i, o)]) ∧ Told H5 pv' (nextOut A (less left i) kept) := fun pv H5 s5 z =>
            ⟨pv, D, rfl, s3.trans (.of (s4.trans s5)), HD, nDt, s5 _ _ e4, (s4.trans s5) _ _ et2, p3.mono (s4.trans s5), z⟩
          refine ⟨a, D, kv, A, less left i, kept, rfl, hA.mono sH4, e4, inR_less hr, by omega, hk.mono sH4, fun hn H5 s5 => fin .non H5 s5 (by rw [hn]; rfl), fun i2 o2 hn p H5 s5 hp0 ep => fin (.ref p) H5 s5 (by rw [hn]; exact ⟨p, rfl, ep⟩)⟩
  refine ⟨_, _, ⟨rfl, rfl⟩, a, l, kv, A, rng A.length, kept, rfl, hA.mono s0, el, inR_rng, by rw [rl]; omega, hk.mono s0, fun hn H' s => ?_, fun i o hn p H' s hp0 ep => ?_⟩
  · have := wh .non H' s (by rw [hn]; rfl)
    subst hB
    exact this
  · have := wh (.ref p) H' s (by rw [hn]; exact ⟨p, rfl, ep⟩)
    subst hB
    exact this
end K44
set_option Elab.async false
set_option linter.all false
set_option maxRecDepth 100000
set_option maxHeartbeats 4000000
namespace K44
open PySem PySem.Spec PyProof.Rows L2 MT
open SX (S)
local macro_rules | `(tactic| walk_at "mt") => `(tactic| simp only [L2.start, List.map_cons, List.map_nil, List.length_cons, List.length_nil, List.replicate_succ, List.replicate_zero, Nat.reduceSub, Nat.reduceAdd, Nat.sub_self, Nat.zero_add, List.cons_append, List.nil_append, List.append_nil, List.getElem?_cons_zero, List.getElem?_cons_succ, List.set_cons_zero, List.set_cons_succ, Option.some.injEq, exists_eq_left', exists_eq_left, exists_eq_right, V.bl.injEq, V.int.injEq, V.str.injEq, V.ref.injEq, reduceCtorEq, false_and, and_false, true_and, and_true, false_or, or_false, exists_false, exists_const, ↓reduceIte, Bool.false_eq_true, decide_eq_true_eq, Bool.and_eq_true, Bool.not_true, Bool.not_false, List.cons.injEq, exists_and_left, exists_and_right,
  tRet, rInM, rNeI, rSortM, rIndexM, rRepM, rSetDM, rListDM, rPopAtM, tLstRg, tRg1, tDIn, tBM, tBM0, tAndV, tOrV, tNotV, tAnd, tOr, tNot, tB, tTest, tIf, tIfS, tC, tVar, tOp, tUn, tChain, rI0, rI, rU, tFn, tCons, tNil, tCB, tTup, tLst, tAsg, gName, tNext, tDrop, tRetN, tPar, tPar3, tAug, tReplC, tRevS, rLenM2, rIsBM, tDNotIn, tDGet, rSumM, rMaxM, rMinM, gSub, rSetL, tRaiseO, tFnW, tXf, gTup, gUnl, gCons, gNil, rPopM, rAppendM, rExtendM, rTupM, rListM, ipI, tIs, tIss, rLenM, rIxM, rAddM, rEqM, rNeM, rSignIn, rInt, rAbs, rStrI, tSl, tPart, tNoPart, rSlM, tIsN, tNotN, List.any_cons, List.any_nil, Bool.or_false, tSeq, isa, D.ty, decide_true, decide_false, Bool.true_or, Bool.or_true, Bool.false_or, Bool.and_true, Bool.true_and, Bool.false_and, Bool.and_false, eq_self_iff_true, not_true_eq_false, not_false_eq_true, bne_self_eq_false])
theorem cut1 (xs : List V) : cutV xs (some 1) none = xs.drop 1 := by
  have e := HT.sIx_nat xs.length 0 1
  unfold cutV
  rw [show (some (1 : Int)) = some ((1 : Nat) : Int) from rfl, e, HT.sIx_none]
  cases xs with
  | nil => rfl
  | cons x xs => simp
theorem cutTo (xs : List V) (k : Nat) (h : k ≤ xs.length) : cutV xs none (some (k : Int)) = xs.take k := by
  unfold cutV
  rw [HT.sIx_nat, HT.sIx_none, Nat.min_eq_left h]
  simp
def ascB (ns : List Int) : Bool := (ns.zip (ns.drop 1)).all fun p => decide (p.1 < p.2)
def spAscends : Sp := fun vs H Q _ => ∃ a ns, vs = [.ref a] ∧ H a = some (.lst (ns.map V.int)) ∧ ns.length ≤ BL ∧ ∀ H', Same H H' → Q (.bl (ascB ns)) H'
theorem zip_take {ns ms : List Int} {k : Nat} {x y : Int} (hx : ns[k]? = some x) (hy : ms[k]? = some y) : (ns.zip ms).take (k + 1) = (ns.zip ms).take k ++ [(x, y)] := by
  rw [List.take_succ]
  congr 1
  rw [List.getElem?_zip_eq_some (z := (x, y)) |>.mpr ⟨hx, hy⟩]
  rfl
theorem sl_from1 {σ : L2.St} {H : Hp} {Q : VK} {a : Addr} {xs : List V} {t : TE} (h : ∀ Q : VK, Q (.ref a) H → t σ H Q) (e : H a = some (.lst xs)) (q : ∀ p, H p = none → Q (.ref p) (upd H p (.lst (xs.drop 1)))) : tSl rSlM t (tPart (tC (.int 1))) tNoPart σ H Q := by
  unfold tSl tPart tNoPart tC
  refine h _ ⟨1, rfl, ?_⟩
  unfold rSlM
  dsimp only
  rw [e]
  dsimp only
  intro p hp
  rw [cut1]
  exact q p hp
theorem pr_ascends {K : PySem.W.Frag} (vs : List V) (H : Hp) (Q : VK) (E : XK) (h : spAscends vs H Q E) : t_ascends K (E0N Q) (L2.start ["items", "one", "other"] vs) H := by
  obtain ⟨a, ns, rfl, ha, hz, q⟩ := h
  unfold t_ascends
  refine ⟨_, rfl, sl_from1 (src_var rfl) ha fun b hb => ?_⟩
  rw [← List.map_drop]
  have hab : a ≠ b := fun z => by rw [z, hb] at ha; cases ha
  generalize hH1 : upd H b (.lst ((ns.drop 1).map V.int)) = H1
  have e1 : H1 a = some (.lst (ns.map V.int)) := by rw [← hH1, upd_ne hab]; exact ha
  have e2 : H1 b = some (.lst ((ns.drop 1).map V.int)) := by rw [← hH1]; exact upd_same
  have s0 : Same H H1 := by rw [← hH1]; exact same_upd hb
  refine ⟨a, b, ns.map V.int, (ns.drop 1).map V.int, rfl, .inl ⟨.of e1, .of e2, fun D hD => ?_⟩⟩
  have hnD : ∀ {x o}, H1 x = some o → x ≠ D := fun e z => by rw [z, hD] at e; cases e
  refine lc_it (walk_zip (K := K) (n := (ns.zip (ns.drop 1)).length) (by simp)) (fun i H' => Same H1 H' ∧ H' D = some (.lst (((ns.zip (ns.drop 1)).take i).map fun p => V.bl (decide (p.1 < p.2))))) ⟨same_upd hD, upd_same⟩ (fun i H' _ h => ⟨.of (h.1 _ _ e1), .of (h.1 _ _ e2)⟩) (fun i x H' H'' hi h y => ?_) fun H' h => ?_
  · obtain ⟨T, x1, y1, rfl, hT, rfl, hx, hy⟩ := y
    obtain ⟨s1, eD⟩ := h
    have nTD : D ≠ T := fun z => by rw [← z, eD] at hT; cases hT
    dsimp only at hx hy
    rw [List.getElem?_map] at hx hy
    obtain ⟨m, hm, rfl⟩ := Option.map_eq_some_iff.mp hx
    obtain ⟨m2, hm2, rfl⟩ := Option.map_eq_some_iff.mp hy
    refine ⟨T, [.int m, .int m2], rfl, .of upd_same, rfl, _, _, rfl, _, _, rfl, rfl, rfl, ?_⟩
    show tYes _ _ _
    unfold tYes
    simp only [↓reduceIte]
    refine ⟨_, rfl, _, rfl, ?_⟩
    refine ⟨m, m2, rfl, rfl, ?_⟩
    refine ⟨_, by rw [upd_ne nTD]; exact eD, ?_, ?_, ?_⟩
    · rw [List.length_map]
      refine bl_sl ?_
      have : ((ns.zip (ns.drop 1)).take i).length ≤ ns.length := by rw [List.length_take, List.length_zip]; omega
      omega
    · intro b2 o e
      rw [upd_ne (hnD e), upd_ne (fun z => by rw [z] at e; have := s1 _ _ e; rw [hT] at this; cases this)]
      exact s1 _ _ e
    · rw [upd_same, zip_take hm hm2, List.map_append]
      rfl
  · obtain ⟨s1, eD⟩ := h
    rw [List.take_length] at eD
    refine ⟨(ns.zip (ns.drop 1)).map fun p => decide (p.1 < p.2), by rw [eD, List.map_map]; rfl, ?_⟩
    have z : ((ns.zip (ns.drop 1)).map fun p => decide (p.1 < p.2)).all id = ascB ns := by rw [List.all_map]; rfl
    show Q (.bl (List.all _ id)) H'
    rw [z]
    exact q H' (s0.trans s1)
end K44
set_option Elab.async false
set_option linter.all false
set_option maxRecDepth 100000
set_option maxHeartbeats 4000000
namespace K44
open PySem PySem.Spec PyProof.Rows L2 MT
open SX (S)
local macro_rules | `(tactic| walk_at "mt") => `(tactic| simp only [L2.start, List.map_cons, List.map_nil, List.length_cons, List.length_nil, List.replicate_succ, List.replicate_zero, Nat.reduceSub, Nat.reduceAdd, Nat.sub_self, Nat.zero_add, List.cons_append, List.nil_append, List.append_nil, List.getElem?_cons_zero, List.getElem?_cons_succ, List.set_cons_zero, List.set_cons_succ, Option.some.injEq, exists_eq_left', exists_eq_left, exists_eq_right, V.bl.injEq, V.int.injEq, V.str.injEq, V.ref.injEq, reduceCtorEq, false_and, and_false, true_and, and_true, false_or, or_false, exists_false, exists_const, ↓reduceIte, Bool.false_eq_true, decide_eq_true_eq, Bool.and_eq_true, Bool.not_true, Bool.not_false, List.cons.injEq, exists_and_left, exists_and_right,
  tRet, rInM, rNeI, rSortM, rIndexM, rRepM, rSetDM, rListDM, rPopAtM, tLstRg, tRg1, tDIn, tBM, tBM0, tAndV, tOrV, tNotV, tAnd, tOr, tNot, tB, tTest, tIf, tIfS, tC, tVar, tOp, tUn, tChain, rI0, rI, rU, tFn, tCons, tNil, tCB, tTup, tLst, tAsg, gName, tNext, tDrop, tRetN, tPar, tPar3, tAug, tReplC, tRevS, rLenM2, rIsBM, tDNotIn, tDGet, rSumM, rMaxM, rMinM, gSub, rSetL, tRaiseO, tFnW, tXf, gTup, gUnl, gCons, gNil, rPopM, rAppendM, rExtendM, rTupM, rListM, ipI, tIs, tIss, rLenM, rIxM, rAddM, rEqM, rNeM, rSignIn, rInt, rAbs, rStrI, tSl, tPart, tNoPart, rSlM, tIsN, tNotN, List.any_cons, List.any_nil, Bool.or_false, tSeq, isa, D.ty, decide_true, decide_false, Bool.true_or, Bool.or_true, Bool.false_or, Bool.and_true, Bool.true_and, Bool.false_and, Bool.and_false, eq_self_iff_true, not_true_eq_false, not_false_eq_true, bne_self_eq_false])
def intD : D → Int
  | .int i => i
  | _ => 0
def avars : D → List Int
  | .tup [_, _, .tup xs] => xs.map intD
  | _ => []
def varsD : D → List (List Int)
  | .tup [_, x] => ((itemsD x).getD []).map avars
  | _ => []
def manyD : D → Int
  | .tup [.int m, _] => m
  | _ => 0
theorem joinAtom_at {m : Int} {d : D} (h : joinAtomD m d = true) : ∃ nm xs, d = .tup [.str [105, 110], nm, .tup xs] ∧ xs.length ≤ 3 ∧ xs.all (btw 0 (m - 1)) = true := by
  unfold joinAtomD at h
  split at h
  · rename_i w nm xs
    simp only [Bool.and_eq_true, decide_eq_true_eq] at h
    obtain ⟨⟨⟨rfl, h2⟩, h3, h4⟩, h5⟩ := h
    exact ⟨nm, xs, rfl, h4, h5⟩
  · cases h
theorem conj_at {d : D} (h : conjD d = true) : ∃ m x ds, d = .tup [.int m, x] ∧ itemsD x = some ds ∧ 0 ≤ m ∧ ds.length ≤ 12 ∧ ds.all (joinAtomD m) = true := by
  unfold conjD at h
  split at h
  · rename_i m x
    rw [Bool.and_eq_true, decide_eq_true_eq] at h
    cases e : itemsD x with
    | none => rw [e] at h; cases h.2
    | some ds =>
      rw [e] at h
      simp only [Bool.and_eq_true, decide_eq_true_eq] at h
      exact ⟨m, x, ds, rfl, e, h.1, h.2.1, h.2.2⟩
  · cases h
theorem Dats.ints {H : Hp} {lo hi : Int} {vs : List V} {ds : List D} (h : Dats H vs ds) (k : ds.all (btw lo hi) = true) : vs = (ds.map intD).map V.int := by
  obtain ⟨F, s, r⟩ := h
  clear s
  induction ds generalizing vs with
  | nil => cases r; rfl
  | cons d ds ih =>
    rw [List.all_cons, Bool.and_eq_true] at k
    cases r with
    | cons r1 r2 =>
      rw [ih k.2 r2]
      cases r1 with
      | int i => rfl
      | _ => cases k.1
theorem atV_of {H : Hp} {v : V} {d : D} {m : Int} (h : Dat H v d) (k : joinAtomD m d = true) : AtV H v (avars d) ∧ (avars d).length ≤ 3 := by
  obtain ⟨nm, xs, rfl, h3, h4⟩ := joinAtom_at k
  obtain ⟨t, ws, rfl, e, hw, _⟩ := h.tup
  obtain ⟨x, y, z, rfl, hx, hy, hz⟩ := hw.three
  obtain ⟨rfl, _⟩ := hx.str
  obtain ⟨u, us, rfl, eu, hu, _⟩ := hz.tup
  have e3 := hu.ints h4
  subst e3
  exact ⟨⟨t, u, y, rfl, e, eu⟩, by show (xs.map intD).length ≤ 3; rw [List.length_map]; exact h3⟩
theorem conj_ats {H : Hp} {v : V} {d : D} (h : Dat H v d) (k : conjD d = true) : ∃ p a, v = .ref p ∧ H p = some (.tup [.int (manyD d), .ref a]) ∧ 0 ≤ manyD d ∧ Ats H a (varsD d) := by
  obtain ⟨m, x, ds, rfl, e, h0, h12, ha⟩ := conj_at k
  obtain ⟨p, ws, rfl, ep, hw, _⟩ := h.tup
  obtain ⟨y, z, rfl, hy, hz⟩ := hw.two
  obtain rfl := hy.intv
  obtain ⟨a, us, rfl, ea, hu, _⟩ := hz.seq e
  have ev : varsD (.tup [.int m, x]) = ds.map avars := by simp only [varsD, e, Option.getD_some]
  rw [ev]
  refine ⟨p, a, rfl, ep, h0, ⟨us, ea, by rw [List.length_map]; exact hu.length, fun i xs hx => ?_⟩, by rw [List.length_map]; exact h12, fun xs hx => ?_⟩
  · rw [List.getElem?_map] at hx
    obtain ⟨d, hd, rfl⟩ := Option.map_eq_some_iff.mp hx
    obtain ⟨w, hw2, hdat⟩ := hu.at hd
    exact ⟨w, hw2, (atV_of hdat (List.all_eq_true.mp ha d (List.mem_of_getElem? hd))).1⟩
  · obtain ⟨d, hd, rfl⟩ := List.mem_map.mp hx
    obtain ⟨i, hi⟩ := List.mem_iff_getElem?.mp hd
    obtain ⟨w, _, hdat⟩ := hu.at hi
    exact (atV_of hdat (List.all_eq_true.mp ha d hd)).2
/-- what join_tree raises: whatever check_conjunction does -/
def Raises (K : PySem.W.Frag) (H : Hp) (v : V) (E : XK) : Prop := ∀ H' x, Same H H' → H' x = none → E (.ref (He.ga K "InvalidConjunction")) (some x) (upd H' x (.xd [("given", v)]))
def lexLe (p q : Int × Int) : Prop := p.1 < q.1 ∨ p.1 = q.1 ∧ p.2 ≤ q.2
def spJoinTree (K : PySem.W.Frag) : Sp := fun vs H Q E => ∃ v d, vs = [v] ∧ Dat H v d ∧ headsOk d = true ∧ (conjD d = false → Raises K H v E) ∧
  (conjD d = true → ((struck (varsD d) []).2.length ≤ 1 → ∀ p l ws ts H', ts.Perm (struck (varsD d) []).1 → ts.Pairwise lexLe → Same H H' → H l = none → H' l = some (.lst ws) → PairsAt H' ws ts → H' p = some (.tup [.str (S [116, 114, 101, 101]), .ref l]) → Q (.ref p) H') ∧
    (1 < (struck (varsD d) []).2.length → ∀ p l H', Same H H' → H l = none → H' l = some (.lst ((struck (varsD d) []).2.map V.int)) → H' p = some (.tup [.str (S [114, 105, 110, 103]), .ref l]) → Q (.ref p) H'))
theorem pairs_perm {H : Hp} {ps ws : List V} {ts : List (Int × Int)} (h : PairsAt H ps ts) (hp : ws.Perm ps) (hs : ∀ (i j : Nat) v w q r, i < j → ws[i]? = some v → ws[j]? = some w → pairAt H v q → pairAt H w r → q.1 < r.1 ∨ q.1 = r.1 ∧ q.2 ≤ r.2) : ∃ us, us.Perm ts ∧ us.Pairwise lexLe ∧ PairsAt H ws us := by
  classical
  let k : V → Int × Int := fun v => if e : ∃ q, pairAt H v q then e.choose else (0, 0)
  have hk : ∀ v q, pairAt H v q → k v = q := fun v q z => by
    have e : ∃ q, pairAt H v q := ⟨q, z⟩
    have : k v = e.choose := dif_pos e
    rw [this]
    exact pairAt_one e.choose_spec z
  have hall : ∀ v ∈ ps, pairAt H v (k v) := fun v hv => by
    obtain ⟨i, hi⟩ := List.mem_iff_getElem?.mp hv
    have hl : i < ts.length := by rw [← h.1]; exact (List.getElem?_eq_some_iff.mp hi).1
    have := h.2 i v _ hi (List.getElem?_eq_getElem hl)
    rw [hk v _ this]; exact this
  have e1 : ps.map k = ts := by
    refine List.ext_getElem? fun i => ?_
    rw [List.getElem?_map]
    cases hi : ps[i]? with
    | none =>
      have : ts.length ≤ i := by rw [← h.1]; exact List.getElem?_eq_none_iff.mp hi
      rw [List.getElem?_eq_none this]; rfl
    | some v =>
      have hl : i < ts.length := by rw [← h.1]; exact (List.getElem?_eq_some_iff.mp hi).1
      rw [Option.map_some, hk v _ (h.2 i v _ hi (List.getElem?_eq_getElem hl)), List.getElem?_eq_getElem hl]
  have hw : ∀ v ∈ ws, pairAt H v (k v) := fun v hv => hall v (hp.mem_iff.mp hv)
  refine ⟨ws.map k, by rw [← e1]; exact hp.map k, ?_, by rw [List.length_map], fun i v q hi hq => ?_⟩
  · rw [List.pairwise_map, List.pairwise_iff_getElem]
    intro i j hi hj hij
    exact hs i j ws[i] ws[j] _ _ hij (List.getElem?_eq_getElem hi) (List.getElem?_eq_getElem hj) (hw _ (List.getElem_mem hi)) (hw _ (List.getElem_mem hj))
  · rw [List.getElem?_map, hi] at hq
    cases hq
    exact hw v (List.mem_of_getElem? hi)
theorem struck_le {A : List (List Int)} {kept : List Int} : ∀ (f : Nat) (left : List Int), (strike A kept f left).2.length ≤ left.length
  | 0, left => Nat.le_refl _
  | f + 1, left => by
    rw [strike]
    split
    · exact Nat.le_refl _
    · exact Nat.le_trans (struck_le f _) (List.length_filter_le _ _)
theorem pr_join_tree {K : PySem.W.Frag} (vs : List V) (H : Hp) (Q : VK) (E : XK) (h : spJoinTree K vs H Q E) : t_join_tree K (spCheck K) spStruckOut E (E0N Q) (L2.start ["conjunction", "tree", "left"] vs) H := by
  obtain ⟨v, d, rfl, hd, ho, qe, q⟩ := h
  unfold t_join_tree
  generalize hB : (tRet (tIf _ _ _) : TS) = B
  walk_at "mt"
  unfold tFnX
  walk_at "mt"
  refine ⟨v, d, rfl, hd, ho, fun hc H1 s1 => ?_, fun hc => qe hc⟩
  obtain ⟨p, a, rfl, ep, h0, hA⟩ := conj_ats (hd.mono s1) hc
  obtain ⟨q1, q2⟩ := q hc
  refine ⟨_, by rw [ep]; rfl, _, rfl, Nat.zero_le _, fun k hk => ?_⟩
  have s2 : Same H (upd H1 k (.lst [])) := s1.trans (same_upd hk)
  refine ⟨a, _, varsD d, [], rfl, hA.mono (same_upd hk), ⟨k, rfl, by rw [upd_same]; rfl⟩, fun r t l ps H2 s3 ht hl hlt er et el hps => ?_⟩
  have sH : Same H H2 := s2.trans s3
  have hl0 : H l = none := Same.free s2 hl
  refine ⟨r, rfl, [.ref t, .ref l], .of er, rfl, _, _, rfl, _, _, rfl, rfl, ?_⟩
  subst hB
  have hsz : (struck (varsD d) []).2.length ≤ 12 := Nat.le_trans (struck_le _ _) (by have := hA.sz; unfold rng; rw [List.length_map, List.length_range]; omega)
  generalize hS : struck (varsD d) [] = S at *
  walk_at "mt"
  rw [el]
  refine ⟨_, rfl, ?_⟩
  rw [List.length_map]
  by_cases h1 : S.2.length ≤ 1
  · rw [if_pos (by omega)]
    unfold rSortPM
    refine ⟨ps, et, fun v hv => ?_, fun ws hw hs p1 hp1 => ?_⟩
    · obtain ⟨i, hi⟩ := List.mem_iff_getElem?.mp hv
      have hil : i < S.1.length := by rw [← hps.1]; exact (List.getElem?_eq_some_iff.mp hi).1
      exact ⟨_, hps.2 i v _ hi (List.getElem?_eq_getElem hil)⟩
    · obtain ⟨us, u1, u2, u3⟩ := pairs_perm hps hw hs
      refine ⟨by decide +kernel, fun p2 hp2 => ?_⟩
      have n12 : p1 ≠ p2 := fun z => by rw [← z, upd_same] at hp2; cases hp2
      refine q1 h1 p2 p1 ws us _ u1 u2 ((sH.trans (same_upd hp1)).trans (same_upd hp2)) (Same.free sH hp1) ?_ ((u3.mono (same_upd hp1)).mono (same_upd hp2)) upd_same
      rw [upd_ne n12]; exact upd_same
  · rw [if_neg (by omega)]
    refine ⟨by decide +kernel, fun p2 hp2 => ?_⟩
    refine q2 (by omega) p2 l _ (sH.trans (same_upd hp2)) hl0 ?_ upd_same
    rw [upd_ne (ne_of_none el hp2)]; exact el
end K44
set_option Elab.async false
set_option linter.all false
set_option maxRecDepth 100000
set_option maxHeartbeats 4000000
namespace K44
open PySem PySem.Spec PyProof.Rows L2 MT
open SX (S)
local macro_rules | `(tactic| walk_at "mt") => `(tactic| simp only [L2.start, List.map_cons, List.map_nil, List.length_cons, List.length_nil, List.replicate_succ, List.replicate_zero, Nat.reduceSub, Nat.reduceAdd, Nat.sub_self, Nat.zero_add, List.cons_append, List.nil_append, List.append_nil, List.getElem?_cons_zero, List.getElem?_cons_succ, List.set_cons_zero, List.set_cons_succ, Option.some.injEq, exists_eq_left', exists_eq_left, exists_eq_right, V.bl.injEq, V.int.injEq, V.str.injEq, V.ref.injEq, reduceCtorEq, false_and, and_false, true_and, and_true, false_or, or_false, exists_false, exists_const, ↓reduceIte, Bool.false_eq_true, decide_eq_true_eq, Bool.and_eq_true, Bool.not_true, Bool.not_false, List.cons.injEq, exists_and_left, exists_and_right,
  tRet, rInM, rNeI, rSortM, rIndexM, rRepM, rSetDM, rListDM, rPopAtM, tLstRg, tRg1, tDIn, tBM, tBM0, tAndV, tOrV, tNotV, tAnd, tOr, tNot, tB, tTest, tIf, tIfS, tC, tVar, tOp, tUn, tChain, rI0, rI, rU, tFn, tCons, tNil, tCB, tTup, tLst, tAsg, gName, tNext, tDrop, tRetN, tPar, tPar3, tAug, tReplC, tRevS, rLenM2, rIsBM, tDNotIn, tDGet, rSumM, rMaxM, rMinM, gSub, rSetL, tRaiseO, tFnW, tXf, gTup, gUnl, gCons, gNil, rPopM, rAppendM, rExtendM, rTupM, rListM, ipI, tIs, tIss, rLenM, rIxM, rAddM, rEqM, rNeM, rSignIn, rInt, rAbs, rStrI, tSl, tPart, tNoPart, rSlM, tIsN, tNotN, List.any_cons, List.any_nil, Bool.or_false, tSeq, isa, D.ty, decide_true, decide_false, Bool.true_or, Bool.or_true, Bool.false_or, Bool.and_true, Bool.true_and, Bool.false_and, Bool.and_false, eq_self_iff_true, not_true_eq_false, not_false_eq_true, bne_self_eq_false])
theorem asc_cons {a b : Int} {ns : List Int} : ascB (a :: b :: ns) = (decide (a < b) && ascB (b :: ns)) := by
  unfold ascB
  simp
theorem asc_iff : ∀ ns : List Int, ascB ns = true ↔ ns.Pairwise (· < ·)
  | [] => by simp [ascB]
  | [a] => by simp [ascB]
  | a :: b :: ns => by
    rw [asc_cons, Bool.and_eq_true, decide_eq_true_eq, asc_iff (b :: ns)]
    constructor
    · rintro ⟨h1, h2⟩
      refine List.pairwise_cons.mpr ⟨fun x hx => ?_, h2⟩
      rcases List.mem_cons.mp hx with rfl | hx
      · exact h1
      · have := (List.pairwise_cons.mp h2).1 x hx
        omega
    · intro h
      obtain ⟨h1, h2⟩ := List.pairwise_cons.mp h
      exact ⟨h1 b List.mem_cons_self, h2⟩
theorem asc_len : ∀ (ns : List Int) (lo hi : Int), ns.Pairwise (· < ·) → (∀ x ∈ ns, lo ≤ x ∧ x < hi) → (ns.length : Int) ≤ max 0 (hi - lo)
  | [], _, _, _, _ => by simp; omega
  | a :: ns, lo, hi, hp, h => by
    have h1 := h a List.mem_cons_self
    have h2 := asc_len ns (a + 1) hi (List.pairwise_cons.mp hp).2 fun x hx => ⟨(List.pairwise_cons.mp hp).1 x hx, (h x (List.mem_cons_of_mem _ hx)).2⟩
    rw [List.length_cons]
    omega
theorem all_btw {n : Int} {ds : List D} (h : ds.all (btw 0 (n - 1)) = true) : ∀ x ∈ ds.map intD, 0 ≤ x ∧ x < n := fun x hx => by
  obtain ⟨d, hd, rfl⟩ := List.mem_map.mp hx
  have := List.all_eq_true.mp h d hd
  cases d with
  | int i => simp [btw] at this; show 0 ≤ i ∧ i < n; omega
  | _ => cases this
def ringN (A : List (List Int)) (ns : List Int) : Bool := ascB ns && (decide ((struck A ns).2 = ns) && (nextOut A ns []).isNone)
def ringB (A : List (List Int)) (e : D) : Bool := match itemsD e with
  | none => false
  | some ds => decide (3 ≤ ds.length) && (ds.all (btw 0 ((A.length : Int) - 1)) && ringN A (ds.map intD))
def spIsRing (K : PySem.W.Frag) : Sp := fun vs H Q E => ∃ v x d e, vs = [v, x] ∧ Dat H v d ∧ headsOk d = true ∧ Dat H x e ∧ (conjD d = false → Raises K H v E) ∧ (conjD d = true → ∀ H', Same H H' → Q (.bl (ringB (varsD d) e)) H')
theorem pr_is_ring {K : PySem.W.Frag} (vs : List V) (H : Hp) (Q : VK) (E : XK) (h : spIsRing K vs H Q E) : t_is_ring K (spCheck K) spIsList spBetween spAscends spStruckOut spNextOut E (E0N Q) (L2.start ["conjunction", "value", "many", "index"] vs) H := by
  obtain ⟨v, x, d, e, rfl, hd, ho, he, qe, q⟩ := h
  unfold t_is_ring
  generalize hB : (tSeq (tIfS (tOr (tNot (tB (tFn spAscends _))) _) _ _) _ : TS) = B
  generalize hP : (tSeq (tIfS (tOr (tNot (tB (tFn spIsList _))) _) _ _) B : TS) = P
  walk_at "mt"
  unfold tFnX
  walk_at "mt"
  refine ⟨v, d, rfl, hd, ho, fun hc H1 s1 => ?_, fun hc => qe hc⟩
  obtain ⟨p, a, rfl, ep, h0, hA⟩ := conj_ats (hd.mono s1) hc
  replace q := q hc
  obtain ⟨va, ea, la, _⟩ := hA.ex
  refine ⟨[.int (manyD d), .ref a], by rw [ep]; rfl, .ref a, rfl, ?_⟩
  refine ⟨va, ea, ?_⟩
  rw [la]
  subst hP
  cases hl : itemsD e with
  | none =>
    have e0 : ringB (varsD d) e = false := by simp only [ringB, hl]
    have e1 : lstD e = false := by simp only [lstD, hl]; rfl
    refine ⟨_, rfl, x, e, rfl, he.mono s1, _, rfl, ?_⟩
    rw [e1]
    walk_at "mt"
    rw [e0] at q
    exact q H1 s1
  | some ds =>
    have e0 : ringB (varsD d) e = (decide (3 ≤ ds.length) && (ds.all (btw 0 (((varsD d).length : Int) - 1)) && ringN (varsD d) (ds.map intD))) := by simp only [ringB, hl]
    have e1 : lstD e = true := by simp only [lstD, hl]; rfl
    obtain ⟨b, us, rfl, eb, hu, hbl⟩ := (he.mono s1).seq hl
    have hul := hu.length
    walk_at "mt"
    refine ⟨_, e, rfl, he.mono s1, ?_⟩
    rw [e1]
    walk_at "mt"
    refine ⟨us, eb, ?_⟩
    by_cases h3 : 3 ≤ ds.length
    · rw [if_neg (by omega)]
      refine all_dats (ds := ds) (Q := fun x H1 => ∃ c, x = V.bl c ∧ _) (src_var rfl) eb hu hbl (btw 0 (((varsD d).length : Int) - 1)) (fun w dd H2 K' _ s2 hw kk => ?_) fun H2 s2 => ?_
      · walk_at "mt"
        exact ⟨w, dd, 0, _, rfl, hw, kk H2 (.refl _)⟩
      · refine ⟨_, rfl, ?_⟩
        cases hall : ds.all (btw 0 (((varsD d).length : Int) - 1)) with
        | false =>
          rw [hall] at e0
          simp only [Bool.not_false, ↓reduceIte]
          rw [e0] at q
          simp only [Bool.false_and, Bool.and_false] at q
          exact q H2 (s1.trans s2)
        | true =>
          simp only [Bool.not_true, Bool.false_eq_true, ↓reduceIte]
          rw [e0, hall, decide_eq_true h3] at q
          simp only [Bool.true_and] at q
          have hin := all_btw hall
          have hus := hu.ints hall
          generalize ds.map intD = ns at hin hus q ⊢
          subst hus
          clear hu hall e0
          subst hB
          have eb2 : seqO (H2 b) = some (ns.map V.int) := seq_mono eb s2
          have hbl2 : ns.length ≤ BL := by rw [List.length_map] at hul; omega
          generalize hC : (tRet (tIsN _) : TS) = C
          unfold tSeq tIfS tOr tNot tB tFn
          refine ⟨_, rfl, _, eb2, fun l hl2 => ⟨l, ns, rfl, upd_same, hbl2, fun H3 s3 => ?_⟩⟩
          have sA : Same H H3 := s1.trans (s2.trans ((same_upd hl2).trans s3))
          refine ⟨_, rfl, ?_⟩
          cases hasc : ascB ns with
          | false =>
            have : ringN (varsD d) ns = false := by simp only [ringN, hasc, Bool.false_and]
            rw [this] at q
            exact q H3 sA
          | true =>
            have ep3 : H3 p = some (.tup [.int (manyD d), .ref a]) := (s2.trans ((same_upd hl2).trans s3)) _ _ ep
            have hA3 : Ats H3 a (varsD d) := hA.mono (s2.trans ((same_upd hl2).trans s3))
            have eb3 : seqO (H3 b) = some (ns.map V.int) := seq_mono eb2 ((same_upd hl2).trans s3)
            have h12 := hA.sz
            have hnl : ns.length ≤ 12 := by
              have := asc_len ns 0 (varsD d).length ((asc_iff ns).mp hasc) hin
              omega
            subst hC
            walk_at "mt"
            refine ⟨[.int (manyD d), .ref a], by rw [ep3]; rfl, .ref a, rfl, ?_⟩
            refine ⟨a, .ref b, varsD d, ns, rfl, hA3, ⟨b, rfl, eb3⟩, fun r t l2 ps H4 s4 ht hl4 _ er et el hps => ?_⟩
            refine ⟨[.ref t, .ref l2], by rw [er]; rfl, .ref l2, rfl, ns.map V.int, seq_mono eb3 s4, fun l3 hl3 => ?_⟩
            refine ⟨(struck (varsD d) ns).2, by rw [upd_ne (ne_of_none el hl3)]; exact el, ns, upd_same, ?_⟩
            by_cases hst : (struck (varsD d) ns).2 = ns
            · rw [if_neg (by simp [hst])]
              have s5 : Same H3 (upd H4 l3 (.lst (ns.map V.int))) := s4.trans (same_upd hl3)
              refine ⟨[.int (manyD d), .ref a], by rw [s5 _ _ ep3]; rfl, .ref a, rfl, ns.map V.int, seq_mono eb3 s5, fun l5 hl5 => ⟨Nat.zero_le _, fun l6 hl6 => ?_⟩⟩
              have s6 : Same H3 (upd (upd (upd H4 l3 (.lst (ns.map V.int))) l5 (.lst (ns.map V.int))) l6 (.lst [])) := (s5.trans (same_upd hl5)).trans (same_upd hl6)
              have n56 : l5 ≠ l6 := fun z => by rw [← z, upd_same] at hl6; cases hl6
              have er : ringN (varsD d) ns = (nextOut (varsD d) ns []).isNone := by simp only [ringN, hasc, hst, decide_true, Bool.true_and]
              rw [er] at q
              refine ⟨a, l5, .ref l6, varsD d, ns, [], rfl, hA3.mono s6, by rw [upd_ne n56]; exact upd_same, hin, by omega, ⟨l6, rfl, by rw [upd_same]; rfl⟩, fun hn H7 s7 => ?_, fun i o hn p7 H7 s7 hp7 ep7 => ?_⟩
              · walk_at "mt"
                rw [hn] at q
                exact q H7 (sA.trans (s6.trans s7))
              · walk_at "mt"
                rw [hn] at q
                exact q H7 (sA.trans (s6.trans s7))
            · rw [if_pos (by simp [hst])]
              have er : ringN (varsD d) ns = false := by simp only [ringN, hst, decide_false, Bool.false_and, Bool.and_false]
              rw [er] at q
              exact q _ (sA.trans (s4.trans (same_upd hl3)))
    · rw [if_pos (by omega)]
      rw [e0, decide_eq_false h3, Bool.false_and] at q
      exact q H1 s1
end K44
set_option Elab.async false
set_option linter.all false
set_option maxRecDepth 100000
set_option maxHeartbeats 4000000
namespace K44
open PySem PySem.Spec PyProof.Rows L2 MT
open SX (S)
local macro_rules | `(tactic| walk_at "mt") => `(tactic| simp only [L2.start, List.map_cons, List.map_nil, List.length_cons, List.length_nil, List.replicate_succ, List.replicate_zero, Nat.reduceSub, Nat.reduceAdd, Nat.sub_self, Nat.zero_add, List.cons_append, List.nil_append, List.append_nil, List.getElem?_cons_zero, List.getElem?_cons_succ, List.set_cons_zero, List.set_cons_succ, Option.some.injEq, exists_eq_left', exists_eq_left, exists_eq_right, V.bl.injEq, V.int.injEq, V.str.injEq, V.ref.injEq, reduceCtorEq, false_and, and_false, true_and, and_true, false_or, or_false, exists_false, exists_const, ↓reduceIte, Bool.false_eq_true, decide_eq_true_eq, Bool.and_eq_true, Bool.not_true, Bool.not_false, List.cons.injEq, exists_and_left, exists_and_right,
  tRet, rInM, rNeI, rSortM, rIndexM, rRepM, rSetDM, rListDM, rPopAtM, tLstRg, tRg1, tDIn, tBM, tBM0, tAndV, tOrV, tNotV, tAnd, tOr, tNot, tB, tTest, tIf, tIfS, tC, tVar, tOp, tUn, tChain, rI0, rI, rU, tFn, tCons, tNil, tCB, tTup, tLst, tAsg, gName, tNext, tDrop, tRetN, tPar, tPar3, tAug, tReplC, tRevS, rLenM2, rIsBM, tDNotIn, tDGet, rSumM, rMaxM, rMinM, gSub, rSetL, tRaiseO, tFnW, tXf, gTup, gUnl, gCons, gNil, rPopM, rAppendM, rExtendM, rTupM, rListM, ipI, tIs, tIss, rLenM, rIxM, rAddM, rEqM, rNeM, rSignIn, rInt, rAbs, rStrI, tSl, tPart, tNoPart, rSlM, tIsN, tNotN, List.any_cons, List.any_nil, Bool.or_false, tSeq, isa, D.ty, decide_true, decide_false, Bool.true_or, Bool.or_true, Bool.false_or, Bool.and_true, Bool.true_and, Bool.false_and, Bool.and_false, eq_self_iff_true, not_true_eq_false, not_false_eq_true, bne_self_eq_false])
def btwV (lo hi : Int) : V → Bool
  | .int i => decide (lo ≤ i) && decide (i ≤ hi)
  | _ => false
theorem btwV_of {F : Hp} {w : V} {d : D} {lo hi : Int} (r : Rep F w d) : btwV lo hi w = btw lo hi d := by cases r <;> rfl
def tupOf (H : Hp) : V → List V
  | .ref t => (match H t with | some (.tup ws) => ws | _ => [])
  | _ => []
def subD : D → List D
  | .tup xs => xs
  | _ => []
theorem sub_of {F H : Hp} (s : Same F H) {w : V} {d : D} {lo hi : Int} (r : Rep F w d) (k : tupD 2 d = true) : (tupOf H w).all (btwV lo hi) = (subD d).all (btw lo hi) ∧ (tupOf H w).length = 2 := by
  cases r with
  | @tup a xs ds h rl z =>
    have e : tupOf H (.ref a) = xs := by show (match H a with | some (.tup ws) => ws | _ => []) = xs; rw [s _ _ h]
    rw [e]
    have k2 : ds.length = 2 := of_decide_eq_true k
    refine ⟨?_, by rw [rl.length, k2]⟩
    show xs.all (btwV lo hi) = ds.all (btw lo hi)
    clear h e k k2 z
    induction ds generalizing xs with
    | nil => cases rl; rfl
    | cons d ds ih =>
      cases rl with
      | cons r1 r2 => rw [List.all_cons, List.all_cons, btwV_of r1, ih r2]
  | _ => cases k
theorem subs_of {H : Hp} {us : List V} {ds : List D} {lo hi : Int} (h : Dats H us ds) (k : ds.all (tupD 2) = true) : (us.flatMap (tupOf H)).all (btwV lo hi) = (ds.flatMap subD).all (btw lo hi) ∧ (us.flatMap (tupOf H)).length = 2 * us.length := by
  obtain ⟨F, s, r⟩ := h
  induction ds generalizing us with
  | nil => cases r; exact ⟨rfl, rfl⟩
  | cons d ds ih =>
    rw [List.all_cons, Bool.and_eq_true] at k
    cases r with
    | cons r1 r2 =>
      obtain ⟨h1, h2⟩ := sub_of s r1 k.1 (lo := lo) (hi := hi)
      obtain ⟨h3, h4⟩ := ih k.2 r2
      rw [List.flatMap_cons, List.flatMap_cons, List.all_append, List.all_append, h1, h3, List.length_append, h2, h4, List.length_cons]
      exact ⟨rfl, by omega⟩
def pairD : D → Int × Int
  | .tup [a, b] => (intD a, intD b)
  | _ => (0, 0)
def linksB (n : Int) (e : D) : Bool := match itemsD e with
  | none => false
  | some ds => ds.all (tupD 2) && ((ds.flatMap subD).all (btw 0 (n - 1)) && ascB ((ds.map pairD).map Prod.fst))
def spAreLinks : Sp := fun vs H Q _ => ∃ n v e, vs = [.int n, v] ∧ Dat H v e ∧ ((itemsD e).getD []).length ≤ 100000 ∧ ∀ H', Same H H' → Q (.bl (linksB n e)) H'
theorem bl_ints {Q : VK} {us : List V} (f : V → Bool) (H : Hp) (D : Addr) (e : H D = some (.lst (us.map fun w => V.bl (f w)))) (q : Q (.bl (us.all f)) H) : rAllM (fun bs => bs.all id) [.ref D] H Q := by
  unfold rAllM
  refine ⟨us.map f, by rw [e, List.map_map]; rfl, ?_⟩
  have z : (us.map f).all id = us.all f := by rw [List.all_map]; rfl
  show Q (.bl (List.all _ id)) H
  rw [z]
  exact q
theorem pair_at {H : Hp} {w : V} {d : D} {n : Int} (h : Dat H w d) (k : tupD 2 d = true) (b : (subD d).all (btw 0 (n - 1)) = true) : ∃ t, w = .ref t ∧ H t = some (.tup [.int (pairD d).1, .int (pairD d).2]) := by
  obtain ⟨x, y, rfl⟩ := tup2 k
  obtain ⟨t, ws, rfl, e, hw, _⟩ := h.tup
  have e2 := hw.ints b
  subst e2
  exact ⟨t, rfl, e⟩
theorem all_flat {n : Int} {ds : List D} (h : (ds.flatMap subD).all (btw 0 (n - 1)) = true) {d : D} (hd : d ∈ ds) : (subD d).all (btw 0 (n - 1)) = true := by
  rw [List.all_eq_true] at h ⊢
  exact fun x hx => h x (List.mem_flatMap.mpr ⟨d, hd, hx⟩)
theorem firsts {H : Hp} {n : Int} {us : List V} {ds : List D} (h : Dats H us ds) (h2 : ds.all (tupD 2) = true) (hb : (ds.flatMap subD).all (btw 0 (n - 1)) = true) : us.map (fun x => (tupOf H x).getD 0 .non) = ((ds.map pairD).map Prod.fst).map V.int := by
  obtain ⟨F, s, r⟩ := h
  induction ds generalizing us with
  | nil => cases r; rfl
  | cons d ds ih =>
    rw [List.all_cons, Bool.and_eq_true] at h2
    have hb1 := all_flat hb (List.mem_cons_self (a := d) (l := ds))
    rw [List.flatMap_cons, List.all_append, Bool.and_eq_true] at hb
    cases r with
    | @cons v _ _ _ r1 r2 =>
      obtain ⟨t, rfl, et⟩ := pair_at (n := n) ⟨F, s, r1⟩ h2.1 hb1
      have e6 : tupOf H (.ref t) = [.int (pairD d).1, .int (pairD d).2] := by show (match H t with | some (.tup ws) => ws | _ => []) = _; rw [et]
      rw [List.map_cons, ih h2.2 hb.2 r2, e6]
      rfl
theorem tup_of_mem {H : Hp} {us : List V} {ds : List D} (h : Dats H us ds) {x : V} (hx : x ∈ us) : ∃ d ∈ ds, Dat H x d := by
  obtain ⟨F, s, r⟩ := h
  obtain ⟨i, hi⟩ := List.mem_iff_getElem?.mp hx
  obtain ⟨d, h1, h2⟩ := r.get hi
  exact ⟨d, List.mem_of_getElem? h1, F, s, h2⟩
theorem pr_are_links {K : PySem.W.Frag} (vs : List V) (H : Hp) (Q : VK) (E : XK) (h : spAreLinks vs H Q E) : t_are_links K spIsList spTupleOf spBetween spAscends (E0N Q) (L2.start ["many", "value", "pair", "index"] vs) H := by
  obtain ⟨n, v, e, rfl, he, hz, q⟩ := h
  unfold t_are_links
  generalize hB : (tSeq (tIfS (tNot (tB (tCB _ (tCons (tLc2 _ _ _ _ _ _ _ _ _) _)))) _ _) _ : TS) = B
  walk_at "mt"
  refine ⟨v, e, rfl, he, ?_⟩
  cases hl : itemsD e with
  | none =>
    have e1 : lstD e = false := by simp only [lstD, hl]; rfl
    rw [e1]
    walk_at "mt"
    have : linksB n e = false := by simp only [linksB, hl]
    rw [this] at q
    exact q H (.refl _)
  | some ds =>
    have e1 : lstD e = true := by simp only [lstD, hl]; rfl
    have e0 : linksB n e = (ds.all (tupD 2) && ((ds.flatMap subD).all (btw 0 (n - 1)) && ascB ((ds.map pairD).map Prod.fst))) := by simp only [linksB, hl]
    rw [hl] at hz
    replace hz : ds.length ≤ 100000 := hz
    rw [e1]
    obtain ⟨b, us, rfl, eb, hu, hbl⟩ := he.seq hl
    have hul := hu.length
    walk_at "mt"
    refine all_dats (ds := ds) (Q := fun x H1 => ∃ c, x = V.bl c ∧ _) (src_var rfl) eb hu hbl (tupD 2) (fun w dd H2 K' _ s2 hw kk => ?_) fun H2 s2 => ?_
    · walk_at "mt"
      exact ⟨w, dd, 2, rfl, hw, kk H2 (.refl _)⟩
    · refine ⟨_, rfl, ?_⟩
      cases h2 : ds.all (tupD 2) with
      | false =>
        simp only [Bool.not_false, ↓reduceIte]
        rw [e0, h2] at q
        exact q H2 s2
      | true =>
        simp only [Bool.not_true, Bool.false_eq_true, ↓reduceIte]
        rw [e0, h2, Bool.true_and] at q
        subst hB
        have hu2 := hu.mono s2
        obtain ⟨f1, f2⟩ := subs_of (lo := 0) (hi := n - 1) hu2 h2
        have eb2 : seqO (H2 b) = some us := seq_mono eb s2
        have hmap : us.flatMap (fun x => (tupOf H2 x).map fun w => V.bl (btwV 0 (n - 1) w)) = (us.flatMap (tupOf H2)).map fun w => V.bl (btwV 0 (n - 1) w) := by rw [List.map_flatMap]
        unfold tSeq tIfS tNot tB tCB
        show tLc2 _ _ _ _ _ _ _ _ _ _ _ _
        rw [lc2_is]
        refine lcN_v (xs := us) (srcSq (src_var rfl) eb2 (by rw [hul]; exact bl_sl hbl)) (by simp) (fun _ => true) (fun x => (tupOf H2 x).map fun w => V.bl (btwV 0 (n - 1) w)) ?_ (fun x H3 K' hx s3 kk => kk H3 (.refl _)) (fun Dc x H3 acc N hx hpx hD s3 e3 hz2 kn => ?_) fun Dc H3 hD s3 e3 => ?_
        · rw [List.filter_eq_self.mpr (fun _ _ => rfl), hmap, List.length_map, f2]
          exact bl_sl (by unfold BL; omega)
        · obtain ⟨d, hd, hx2⟩ := tup_of_mem hu2 hx
          obtain ⟨y1, y2, rfl⟩ := tup2 (List.all_eq_true.mp h2 d hd)
          obtain ⟨t, ws, rfl, et, hw, _⟩ := hx2.tup
          have e4 : tupOf H2 (.ref t) = ws := by show (match H2 t with | some (.tup ws) => ws | _ => []) = ws; rw [et]
          rw [e4] at kn hz2
          have et3 := s3 _ _ et
          have ntD : t ≠ Dc := fun z => by rw [z, e3] at et3; cases et3
          refine lvLast_v (xs := ws) (srcSqD (src_var rfl) (by rw [et3]; rfl) (by rw [hw.length]; exact big1 (by simp)) ntD) (by simp) e3 (fun _ => true) (fun w => V.bl (btwV 0 (n - 1) w)) (by rw [List.filter_eq_self.mpr (fun _ _ => rfl)]; simpa using hz2) (fun x H4 K' _ s4 kk => kk H4 (.refl _)) (fun x H4 K' hx4 _ s4 kk => ?_) fun H4 s4 e5 => kn H4 s4 ?_
          · obtain ⟨d4, _, hx5⟩ := tup_of_mem hw hx4
            have nD : ∀ {y : V} {dd : D}, Dat H2 y dd → Dat H4 y dd := fun z => by
              obtain ⟨F, sF, rF⟩ := z
              refine ⟨F, ?_, rF⟩
              have := (SmD.of (D := Dc) s3).trans s4
              exact fun b o eF => this b o (fun z => by rw [z] at eF; have := sF _ _ eF; rw [hD] at this; cases this) (sF _ _ eF)
            obtain ⟨F, sF, rF⟩ := id hx5
            refine ⟨_, rfl, _, rfl, n, 1, rfl, rfl, x, d4, 0, n - 1, rfl, nD hx5, ?_⟩
            rw [← btwV_of rF]
            exact kk H4 (.refl _)
          · rw [e5, List.filter_eq_self.mpr (fun _ _ => rfl)]
        · rw [List.filter_eq_self.mpr (fun _ _ => rfl), hmap] at e3
          unfold tNil
          dsimp only
          refine bl_ints (btwV 0 (n - 1)) H3 Dc e3 ?_
          refine ⟨_, rfl, ?_⟩
          rw [f1]
          cases hb : (ds.flatMap subD).all (btw 0 (n - 1)) with
          | false =>
            rw [hb, Bool.false_and] at q
            exact q H3 (s2.trans s3)
          | true =>
            rw [hb, Bool.true_and] at q
            simp only [Bool.not_true, Bool.false_eq_true, ↓reduceIte]
            have hu3 := hu2.mono s3
            have pa : ∀ x ∈ us, ∃ d ∈ ds, ∃ t, x = .ref t ∧ H3 t = some (.tup [.int (pairD d).1, .int (pairD d).2]) := fun x hx => by
              obtain ⟨d, hd, hx2⟩ := tup_of_mem hu3 hx
              obtain ⟨t, e1, e2⟩ := pair_at (n := n) hx2 (List.all_eq_true.mp h2 d hd) (all_flat hb hd)
              exact ⟨d, hd, t, e1, e2⟩
            have em := firsts hu3 h2 hb
            unfold tNext tRet tFn tCons
            dsimp only
            refine lc_v (xs := us) (srcSq (src_var rfl) (seq_mono eb2 s3) (by rw [hul]; exact bl_sl hbl)) (by simp) (fun _ => true) (fun x => (tupOf H3 x).getD 0 .non) (by rw [hul]; exact bl_sl hbl) (fun x H4 K' hx s4 kk => kk H4 (.refl _)) (fun x H4 K' hx _ s4 kk => ?_) fun D2 H4 hD2 s4 e4 => ?_
            · obtain ⟨d, hd, t, rfl, et⟩ := pa x hx
              have e6 : tupOf H3 (.ref t) = [.int (pairD d).1, .int (pairD d).2] := by show (match H3 t with | some (.tup ws) => ws | _ => []) = _; rw [et]
              refine src_ix (v := .int (pairD d).1) (src_var rfl) (by rw [s4 _ _ et]; rfl) rfl _ ?_
              rw [e6] at kk
              exact kk H4 (.refl _)
            · rw [List.filter_eq_self.mpr (fun _ _ => rfl), em] at e4
              exact ⟨D2, (ds.map pairD).map Prod.fst, rfl, e4, by rw [List.length_map, List.length_map]; exact hbl, fun H5 s5 => q H5 (s2.trans (s3.trans (s4.trans s5)))⟩
end K44
set_option Elab.async false
set_option linter.all false
set_option maxRecDepth 100000
set_option maxHeartbeats 4000000
namespace K44
open PySem PySem.Spec PyProof.Rows L2 MT
open SX (S)
local macro_rules | `(tactic| walk_at "mt") => `(tactic| simp only [L2.start, List.map_cons, List.map_nil, List.length_cons, List.length_nil, List.replicate_succ, List.replicate_zero, Nat.reduceSub, Nat.reduceAdd, Nat.sub_self, Nat.zero_add, List.cons_append, List.nil_append, List.append_nil, List.getElem?_cons_zero, List.getElem?_cons_succ, List.set_cons_zero, List.set_cons_succ, Option.some.injEq, exists_eq_left', exists_eq_left, exists_eq_right, V.bl.injEq, V.int.injEq, V.str.injEq, V.ref.injEq, reduceCtorEq, false_and, and_false, true_and, and_true, false_or, or_false, exists_false, exists_const, ↓reduceIte, Bool.false_eq_true, decide_eq_true_eq, Bool.and_eq_true, Bool.not_true, Bool.not_false, List.cons.injEq, exists_and_left, exists_and_right,
  tRet, rInM, rNeI, rSortM, rIndexM, rRepM, rSetDM, rListDM, rPopAtM, tLstRg, tRg1, tDIn, tBM, tBM0, tAndV, tOrV, tNotV, tAnd, tOr, tNot, tB, tTest, tIf, tIfS, tC, tVar, tOp, tUn, tChain, rI0, rI, rU, tFn, tCons, tNil, tCB, tTup, tLst, tAsg, gName, tNext, tDrop, tRetN, tPar, tPar3, tAug, tReplC, tRevS, rLenM2, rIsBM, tDNotIn, tDGet, rSumM, rMaxM, rMinM, gSub, rSetL, tRaiseO, tFnW, tXf, gTup, gUnl, gCons, gNil, rPopM, rAppendM, rExtendM, rTupM, rListM, ipI, tIs, tIss, rLenM, rIxM, rAddM, rEqM, rNeM, rSignIn, rInt, rAbs, rStrI, tSl, tPart, tNoPart, rSlM, tIsN, tNotN, List.any_cons, List.any_nil, Bool.or_false, tSeq, isa, D.ty, decide_true, decide_false, Bool.true_or, Bool.or_true, Bool.false_or, Bool.and_true, Bool.true_and, Bool.false_and, Bool.and_false, eq_self_iff_true, not_true_eq_false, not_false_eq_true, bne_self_eq_false])
/-- the dict of parents: ints to ints -/
def ParAt (H : Hp) (a : Addr) (f : Int → Option Int) (n : Nat) : Prop := ∃ kvs, H a = some (.dK kvs) ∧ kvs.length = n ∧ ∀ i : Int, valV kvs (.inl i) = (f i).map V.int
theorem ParAt.mono {H H' : Hp} {a : Addr} {f : Int → Option Int} {n : Nat} (h : ParAt H a f n) (s : Same H H') : ParAt H' a f n := by
  obtain ⟨kvs, e, l, v⟩ := h
  exact ⟨kvs, s _ _ e, l, v⟩
theorem ParAt.get {H : Hp} {a : Addr} {f : Int → Option Int} {n : Nat} (h : ParAt H a f n) (i : Int) : DGet H a (.int i) ((f i).map V.int) := by
  obtain ⟨kvs, e, _, v⟩ := h
  exact .inl ⟨kvs, .inl i, .inl e, rfl, (v i).symm⟩
def climb (f : Int → Option Int) : Nat → Int → List Int
  | 0, i => [i]
  | k + 1, i => i :: (match f i with
    | none => []
    | some j => climb f k j)
theorem climb_len (f : Int → Option Int) : ∀ (k : Nat) (i : Int), (climb f k i).length ≤ k + 1
  | 0, _ => Nat.le_refl _
  | k + 1, i => by
    rw [climb, List.length_cons]
    cases f i with
    | none => exact Nat.succ_le_succ (Nat.zero_le _)
    | some j => exact Nat.succ_le_succ (climb_len f k j)
def spWayUp : Sp := fun vs H Q _ => ∃ a i f n, vs = [.ref a, .int i] ∧ ParAt H a f n ∧ n ≤ 1000 ∧ ∀ p H', Same H H' → H p = none → H' p = some (.lst ((climb f (n + 1) i).map V.int)) → Q (.ref p) H'
theorem last_int (ns : List Int) (j : Int) : atI ((ns ++ [j]).map V.int) (-1) = some (.int j) := by
  unfold atI ixN
  rw [if_neg (by omega), if_pos (by rw [List.length_map, List.length_append, List.length_singleton]; omega)]
  show ((ns ++ [j]).map V.int)[((-1 : Int) + (((ns ++ [j]).map V.int).length : Nat)).toNat]? = _
  have : ((-1 : Int) + (((ns ++ [j]).map V.int).length : Nat)).toNat = ns.length := by rw [List.length_map, List.length_append]; simp; omega
  rw [this, List.getElem?_map, List.getElem?_append_right (Nat.le_refl _)]
  simp
theorem pr_way_up {K : PySem.W.Frag} (vs : List V) (H : Hp) (Q : VK) (E : XK) (h : spWayUp vs H Q E) : t_way_up K (E0N Q) (L2.start ["parents", "index", "found"] vs) H := by
  obtain ⟨a, i, f, n, rfl, hP, hn, q⟩ := h
  unfold t_way_up
  generalize hB : (tWhile _ _ : TS) = B
  walk_at "mt"
  refine ⟨by decide +kernel, fun l hl => ?_⟩
  subst hB
  unfold tWhile
  refine ⟨fun m σ' H' => ∃ pre j, σ' = [some (.ref a), some (.int i), some (.ref l)] ∧ SmD l H H' ∧ H' l = some (.lst ((pre ++ [j]).map V.int)) ∧ pre.length + m = n + 1 ∧ climb f (n + 1) i = pre ++ climb f m j, ⟨n + 1, [], i, rfl, .upd, upd_same, by simp, rfl⟩, ?_⟩
  rintro m σ' H' ⟨pre, j, rfl, s, e, hm, hc⟩
  have sH : Same H H' := s.same hl
  have hP' := hP.mono sH
  obtain ⟨kvs, ek, lk, _⟩ := id hP'
  have src : ∀ Q : VK, Q (.int j) H' → tOp rIxM (tVar 2) (tUn (rU fun i => .int (-i)) (tC (.int 1))) [some (.ref a), some (.int i), some (.ref l)] H' Q := fun Q q => ⟨_, rfl, 1, rfl, _, _, by rw [e]; rfl, last_int pre j, q⟩
  have tst : ∀ (b : Bool) (k : Bool → Hp → Prop), decide (((pre ++ [j]).length : Int) ≤ (n : Int) + 1) = b → k b H' → tTest (tOp (rI0 fun i j => .bl (decide (i ≤ j))) (tCB rLenM (tCons (tVar 2) tNil)) (tOp rAddM (tCB rLenM2 (tCons (tVar 0) tNil)) (tC (.int 1)))) [some (.ref a), some (.int i), some (.ref l)] H' k := by
    intro b k hb hk
    unfold tTest tOp tCB tCons tNil tVar tC
    refine ⟨_, rfl, (pre ++ [j]).map V.int, by rw [e]; rfl, _, rfl, n, by rw [ek]; show some kvs.length = some n; rw [lk], ?_⟩
    refine ⟨_, _, rfl, rfl, ?_⟩
    refine ⟨_, rfl, ?_⟩
    rw [List.length_map, hb]
    exact hk
  unfold tAnd tB tDIn
  refine src _ ⟨_, rfl, a, _, rfl, hP'.get j, _, rfl, ?_⟩
  have fin : climb f m j = [j] → tRet (tVar 2) (E0N Q) [some (.ref a), some (.int i), some (.ref l)] H' := fun hj => by
    rw [hj] at hc
    walk_at "mt"
    exact q l H' sH hl (by rw [hc]; exact e)
  cases hf : f j with
  | none =>
    have : climb f m j = [j] := by cases m with
      | zero => rfl
      | succ m => rw [climb, hf]
    exact fin this
  | some j2 =>
    cases m with
    | zero =>
      have hlen : ¬ ((pre ++ [j]).length : Int) ≤ (n : Int) + 1 := by rw [List.length_append]; simp; omega
      dsimp only [Option.map_some, Option.isSome_some]
      rw [if_pos rfl]
      refine tst false _ (decide_eq_false hlen) ?_
      exact fin rfl
    | succ m =>
      have hlen : ((pre ++ [j]).length : Int) ≤ (n : Int) + 1 := by rw [List.length_append, List.length_singleton]; omega
      dsimp only [Option.map_some, Option.isSome_some]
      rw [if_pos rfl]
      refine tst true _ (decide_eq_true hlen) ?_
      rw [if_pos rfl]
      refine ⟨fun σ2 H2 => σ2 = [some (.ref a), some (.int i), some (.ref l)] ∧ SmD l H H2 ∧ H2 l = some (.lst ((pre ++ [j] ++ [j2]).map V.int)), ?_, ?_⟩
      · rintro σ2 H2 ⟨rfl, s2, e2⟩
        refine ⟨m, Nat.lt_succ_self m, pre ++ [j], j2, rfl, s2, e2, by rw [List.length_append, List.length_singleton]; omega, ?_⟩
        rw [hc, climb, hf, List.append_assoc]
        rfl
      · unfold tDrop tBM
        refine ⟨_, rfl, tyL e, ?_⟩
        unfold tCons tDGet
        refine ⟨_, rfl, ?_⟩
        refine src _ ?_
        refine ⟨a, .int j2, rfl, by have := hP'.get j; rw [hf] at this; exact this, ?_⟩
        refine ⟨_, e, big1 (by rw [List.length_map]; omega), rfl, s.trans .upd, by rw [upd_same, List.map_append (l₂ := [j2])]; rfl⟩
end K44
set_option Elab.async false
set_option linter.all false
set_option maxRecDepth 100000
set_option maxHeartbeats 4000000
namespace K44
open PySem PySem.Spec PyProof.Rows L2 MT
open SX (S)
local macro_rules | `(tactic| walk_at "mt") => `(tactic| simp only [L2.start, List.map_cons, List.map_nil, List.length_cons, List.length_nil, List.replicate_succ, List.replicate_zero, Nat.reduceSub, Nat.reduceAdd, Nat.sub_self, Nat.zero_add, List.cons_append, List.nil_append, List.append_nil, List.getElem?_cons_zero, List.getElem?_cons_succ, List.set_cons_zero, List.set_cons_succ, Option.some.injEq, exists_eq_left', exists_eq_left, exists_eq_right, V.bl.injEq, V.int.injEq, V.str.injEq, V.ref.injEq, reduceCtorEq, false_and, and_false, true_and, and_true, false_or, or_false, exists_false, exists_const, ↓reduceIte, Bool.false_eq_true, decide_eq_true_eq, Bool.and_eq_true, Bool.not_true, Bool.not_false, List.cons.injEq, exists_and_left, exists_and_right,
  tRet, rInM, rNeI, rSortM, rIndexM, rRepM, rSetDM, rListDM, rPopAtM, tLstRg, tRg1, tDIn, tBM, tBM0, tAndV, tOrV, tNotV, tAnd, tOr, tNot, tB, tTest, tIf, tIfS, tC, tVar, tOp, tUn, tChain, rI0, rI, rU, tFn, tCons, tNil, tCB, tTup, tLst, tAsg, gName, tNext, tDrop, tRetN, tPar, tPar3, tAug, tReplC, tRevS, rLenM2, rIsBM, tDNotIn, tDGet, rSumM, rMaxM, rMinM, gSub, rSetL, tRaiseO, tFnW, tXf, gTup, gUnl, gCons, gNil, rPopM, rAppendM, rExtendM, rTupM, rListM, ipI, tIs, tIss, rLenM, rIxM, rAddM, rEqM, rNeM, rSignIn, rInt, rAbs, rStrI, tSl, tPart, tNoPart, rSlM, tIsN, tNotN, List.any_cons, List.any_nil, Bool.or_false, tSeq, isa, D.ty, decide_true, decide_false, Bool.true_or, Bool.or_true, Bool.false_or, Bool.and_true, Bool.true_and, Bool.false_and, Bool.and_false, eq_self_iff_true, not_true_eq_false, not_false_eq_true, bne_self_eq_false])
def meet (f : Int → Option Int) (n : Nat) (a b : Int) : Option Int := (climb f (n + 1) a).find? fun i => decide (i ∈ climb f (n + 1) b)
def btwn (f : Int → Option Int) (n : Nat) (a b : Int) : List Int := match meet f n a b with
  | some s => (climb f (n + 1) a).take ((climb f (n + 1) a).idxOf s + 1) ++ (climb f (n + 1) b).take ((climb f (n + 1) b).idxOf s)
  | none => []
def spBetw : Sp := fun vs H Q _ => ∃ d a b f n, vs = [.ref d, .int a, .int b] ∧ ParAt H d f n ∧ n ≤ 1000 ∧ (meet f n a b).isSome = true ∧ ∀ p H', Same H H' → H p = none → H' p = some (.lst ((btwn f n a b).map V.int)) → Q (.ref p) H'
theorem find_head {α : Type} (p : α → Bool) (l : List α) {s : α} (h : l.find? p = some s) : (l.filter p).head? = some s := by
  rw [List.head?_filter]; exact h
theorem idx_at {ns : List Int} {s : Int} (h : s ∈ ns) : ns[ns.idxOf s]? = some s ∧ ∀ m, m < ns.idxOf s → ns[m]? ≠ some s := by
  induction ns with
  | nil => cases h
  | cons a ns ih =>
    by_cases e : a = s
    · subst e
      rw [List.idxOf_cons_self]
      exact ⟨rfl, fun m hm => by omega⟩
    · have hs : s ∈ ns := (List.mem_cons.mp h).resolve_left (Ne.symm e)
      obtain ⟨h1, h2⟩ := ih hs
      have e2 : (a :: ns).idxOf s = ns.idxOf s + 1 := by simp [List.idxOf_cons, beq_eq_false_iff_ne.mpr e]
      rw [e2]
      refine ⟨h1, fun m hm => ?_⟩
      cases m with
      | zero => intro z; exact e (by simpa using z)
      | succ m => exact h2 m (by omega)
theorem sl_to {σ : L2.St} {H : Hp} {Q : VK} {a : Addr} {xs : List V} {k : Nat} {t tk : TE} (h : ∀ Q : VK, Q (.ref a) H → t σ H Q) (hk : ∀ Q : VK, Q (.int (k : Int)) H → tk σ H Q) (e : H a = some (.lst xs)) (hl : k ≤ xs.length) (q : ∀ p, H p = none → Q (.ref p) (upd H p (.lst (xs.take k)))) : tSl rSlM t tNoPart (tPart tk) σ H Q := by
  unfold tSl tPart tNoPart
  refine h _ (hk _ ⟨k, rfl, ?_⟩)
  unfold rSlM
  dsimp only
  rw [e]
  dsimp only
  intro p hp
  rw [cutTo xs k hl]
  exact q p hp
theorem src_index {K : PySem.W.Frag} {σ : L2.St} {H : Hp} {i j : Nat} {l : Addr} {ns : List Int} {s : Int} (hi : σ[i]? = some (some (.ref l))) (hj : σ[j]? = some (some (.int s))) (e : H l = some (.lst (ns.map V.int))) (h : s ∈ ns) : ∀ Q : VK, Q (.int ((ns.idxOf s : Nat) : Int)) H → tBM K "list" rIndexM (tVar i) (tCons (tVar j) tNil) σ H Q := fun Q q =>
  ⟨_, hi, tyL e, _, hj, ns, ns.idxOf s, e, (idx_at h).1, (idx_at h).2, q⟩
theorem pr_between {K : PySem.W.Frag} (vs : List V) (H : Hp) (Q : VK) (E : XK) (h : spBetw vs H Q E) : t_between K spWayUp (E0N Q) (L2.start ["parents", "one", "other", "first", "second", "shared", "index"] vs) H := by
  obtain ⟨d, a, b, f, n, rfl, hP, hn, hm, q⟩ := h
  obtain ⟨s, hs⟩ := Option.isSome_iff_exists.mp hm
  have hsA : s ∈ climb f (n + 1) a := List.mem_of_find?_eq_some hs
  have hsB : s ∈ climb f (n + 1) b := by
    have := List.find?_some (p := fun i => decide (i ∈ climb f (n + 1) b)) hs
    exact of_decide_eq_true this
  have hq : btwn f n a b = (climb f (n + 1) a).take ((climb f (n + 1) a).idxOf s + 1) ++ (climb f (n + 1) b).take ((climb f (n + 1) b).idxOf s) := by unfold btwn; rw [hs]
  have hlA := climb_len f (n + 1) a
  have hlB := climb_len f (n + 1) b
  have hfd := find_head _ _ hs
  unfold t_between
  generalize hB : (tSeq (tAsg (tOp rIxM (tLc _ _ _ _ _) _) _) _ : TS) = B
  walk_at "mt"
  refine ⟨d, a, f, n, rfl, hP, hn, fun p H1 s1 hp ep => ?_⟩
  refine ⟨d, b, f, n, rfl, hP.mono s1, hn, fun p2 H2 s2 hp2 ep2 => ?_⟩
  refine ⟨by decide +kernel, fun t ht => ⟨[.ref p, .ref p2], .of upd_same, rfl, _, _, rfl, _, _, rfl, rfl, ?_⟩⟩
  have s3 : Same H2 (upd H2 t (.tup [.ref p, .ref p2])) := same_upd ht
  generalize upd H2 t (.tup [.ref p, .ref p2]) = H3 at s3 ⊢
  have e1 : H3 p = some (.lst ((climb f (n + 1) a).map V.int)) := (s2.trans s3) _ _ ep
  have e2 : H3 p2 = some (.lst ((climb f (n + 1) b).map V.int)) := s3 _ _ ep2
  have sA : Same H H3 := s1.trans (s2.trans s3)
  clear hP ep ep2 hp hp2 s1 s2 s3 ht
  generalize climb f (n + 1) a = ca at *
  generalize climb f (n + 1) b = cb at *
  subst hB
  unfold tSeq tAsg
  show tLc _ _ _ _ _ _ _ _
  refine lc_v (xs := ca.map V.int) (srcSq (src_var rfl) (by rw [e1]; rfl) (by rw [List.length_map]; exact big1 (by omega))) (by simp) (fun x => decide (iv x ∈ cb)) (fun x => V.int (iv x)) (by rw [List.length_map]; exact big1 (by omega)) (fun x H4 K' hx s4 kk => ?_) (fun x H4 K' hx _ s4 kk => ?_) fun D H4 hD s4 e4 => ?_
  · obtain ⟨m, rfl, _⟩ := int_of_mem hx
    refine ⟨_, rfl, _, rfl, _, by rw [s4 _ _ e2]; rfl, rfl, flat_ints _, ?_⟩
    rw [inV_int]
    exact ⟨_, rfl, kk H4 (.refl _)⟩
  · obtain ⟨m, rfl, _⟩ := int_of_mem hx
    exact ⟨_, rfl, kk H4 (.refl _)⟩
  · rw [filter_int (fun n => decide (n ∈ cb)), map_id] at e4
    have at0 : atI ((ca.filter fun n => decide (n ∈ cb)).map V.int) 0 = some (.int s) := by
      cases hf : ca.filter fun n => decide (n ∈ cb) with
      | nil => rw [hf] at hfd; cases hfd
      | cons z zs =>
        rw [hf] at hfd
        have : z = s := by simpa using hfd
        subst this
        simp [atI, ixN]
    refine ⟨_, .int s, by rw [e4]; rfl, at0, ?_⟩
    have f1 := s4 _ _ e1
    have f2 := s4 _ _ e2
    obtain ⟨i1, i2⟩ := idx_at hsA
    obtain ⟨j1, j2⟩ := idx_at hsB
    have li := (List.getElem?_eq_some_iff.mp i1).1
    have lj := (List.getElem?_eq_some_iff.mp j1).1
    unfold gName
    dsimp only [List.set_cons_zero, List.set_cons_succ]
    unfold tRet tLst StX.tStar
    dsimp only
    refine sl_to (k := ca.idxOf s + 1) (src_var rfl) (fun Q q => ?_) f1 (by rw [List.length_map]; omega) fun u hu => ?_
    · exact src_index (s := s) rfl rfl f1 hsA _ q
    · refine ⟨u, _, rfl, .inr (.of upd_same), ?_⟩
      have g2 : (upd H4 u (.lst ((ca.map V.int).take (ca.idxOf s + 1)))) p2 = some (.lst (cb.map V.int)) := by rw [upd_ne (ne_of_none f2 hu)]; exact f2
      refine sl_to (k := cb.idxOf s) (src_var rfl) (src_index (s := s) rfl rfl g2 hsB) g2 (by rw [List.length_map]; omega) fun u2 hu2 => ?_
      refine ⟨u2, _, rfl, .inr (.of upd_same), ?_⟩
      refine ⟨?_, fun r hr => ?_⟩
      · rw [List.append_nil, List.length_append, List.length_take, List.length_take, List.length_map, List.length_map]
        exact Nat.le_of_lt (big1 (by omega))
      · refine q r _ (sA.trans (s4.trans (((same_upd hu).trans (same_upd hu2)).trans (same_upd hr)))) (Same.free (sA.trans (s4.trans ((same_upd hu).trans (same_upd hu2)))) hr) ?_
        rw [upd_same, hq, List.append_nil, List.map_append, List.map_take, List.map_take]
end K44
set_option Elab.async false
set_option linter.all false
set_option maxRecDepth 100000
set_option maxHeartbeats 4000000
namespace K44
open PySem PySem.Spec PyProof.Rows L2 MT
open SX (S)
local macro_rules | `(tactic| walk_at "mt") => `(tactic| simp only [L2.start, List.map_cons, List.map_nil, List.length_cons, List.length_nil, List.replicate_succ, List.replicate_zero, Nat.reduceSub, Nat.reduceAdd, Nat.sub_self, Nat.zero_add, List.cons_append, List.nil_append, List.append_nil, List.getElem?_cons_zero, List.getElem?_cons_succ, List.set_cons_zero, List.set_cons_succ, Option.some.injEq, exists_eq_left', exists_eq_left, exists_eq_right, V.bl.injEq, V.int.injEq, V.str.injEq, V.ref.injEq, reduceCtorEq, false_and, and_false, true_and, and_true, false_or, or_false, exists_false, exists_const, ↓reduceIte, Bool.false_eq_true, decide_eq_true_eq, Bool.and_eq_true, Bool.not_true, Bool.not_false, List.cons.injEq, exists_and_left, exists_and_right,
  tRet, rInM, rNeI, rSortM, rIndexM, rRepM, rSetDM, rListDM, rPopAtM, tLstRg, tRg1, tDIn, tBM, tBM0, tAndV, tOrV, tNotV, tAnd, tOr, tNot, tB, tTest, tIf, tIfS, tC, tVar, tOp, tUn, tChain, rI0, rI, rU, tFn, tCons, tNil, tCB, tTup, tLst, tAsg, gName, tNext, tDrop, tRetN, tPar, tPar3, tAug, tReplC, tRevS, rLenM2, rIsBM, tDNotIn, tDGet, rSumM, rMaxM, rMinM, gSub, rSetL, tRaiseO, tFnW, tXf, gTup, gUnl, gCons, gNil, rPopM, rAppendM, rExtendM, rTupM, rListM, ipI, tIs, tIss, rLenM, rIxM, rAddM, rEqM, rNeM, rSignIn, rInt, rAbs, rStrI, tSl, tPart, tNoPart, rSlM, tIsN, tNotN, List.any_cons, List.any_nil, Bool.or_false, tSeq, isa, D.ty, decide_true, decide_false, Bool.true_or, Bool.or_true, Bool.false_or, Bool.and_true, Bool.true_and, Bool.false_and, Bool.and_false, eq_self_iff_true, not_true_eq_false, not_false_eq_true, bne_self_eq_false])
def hasX (A : List (List Int)) (x : Int) : List Int := (rng A.length).filter fun i => decide (x ∈ vat A i)
def hangB (A : List (List Int)) (f : Int → Option Int) (n : Nat) (x : Int) : Bool := (hasX A x).all fun one => (hasX A x).all fun other => (btwn f n one other).all fun i => decide (i ∈ hasX A x)
def spHangs : Sp := fun vs H Q _ => ∃ a d x A f n, vs = [.ref a, .ref d, .int x] ∧ Ats H a A ∧ ParAt H d f n ∧ n ≤ 100 ∧ (∀ one ∈ hasX A x, ∀ other ∈ hasX A x, (meet f n one other).isSome = true) ∧ ∀ H', Same H H' → Q (.bl (hangB A f n x)) H'
theorem flat_le {α β : Type} (f : α → List β) (c : Nat) : ∀ l : List α, (∀ x ∈ l, (f x).length ≤ c) → (l.flatMap f).length ≤ l.length * c
  | [], _ => by simp
  | x :: l, h => by
    have h1 := h x List.mem_cons_self
    have h2 := flat_le f c l fun y hy => h y (List.mem_cons_of_mem _ hy)
    rw [List.flatMap_cons, List.length_append, List.length_cons, Nat.succ_mul]
    omega
theorem btwn_len (f : Int → Option Int) (n : Nat) (a b : Int) : (btwn f n a b).length ≤ 2 * (n + 2) := by
  unfold btwn
  split
  · have h1 := climb_len f (n + 1) a
    have h2 := climb_len f (n + 1) b
    rw [List.length_append, List.length_take, List.length_take]
    omega
  · simp
theorem src_len {H : Hp} {a : Addr} {vs : List V} {σ : L2.St} {i : Nat} (h : σ[i]? = some (some (.ref a))) (e : seqO (H a) = some vs) : ∀ Q : VK, Q (.int (vs.length : Int)) H → tCB rLenM (tCons (tVar i) tNil) σ H Q := fun Q q => ⟨_, h, vs, e, q⟩
theorem rng_vals (n : Nat) : (List.range n).map (fun i : Nat => V.int (i : Int)) = (rng n).map V.int := by
  unfold rng
  rw [List.map_map]
  rfl
theorem filter_tt {α : Type} (l : List α) : l.filter (fun _ => true) = l := List.filter_eq_self.mpr fun _ _ => rfl
theorem rng_len (n : Nat) : (rng n).length = n := by unfold rng; rw [List.length_map, List.length_range]
theorem pr_hangs_together {K : PySem.W.Frag} (vs : List V) (H : Hp) (Q : VK) (E : XK) (h : spHangs vs H Q E) : t_hangs_together K spBetw (E0N Q) (L2.start ["atoms", "parents", "x", "has", "index", "one", "other"] vs) H := by
  obtain ⟨a, d, x, A, f, n, rfl, hA, hP, hn, hm, q⟩ := h
  unfold t_hangs_together
  generalize hB : (tRet (tCB _ _) : TS) = B
  obtain ⟨va, ea, la, _⟩ := hA.ex
  have h12 := hA.sz
  unfold tSeq tAsg
  show tLc _ _ _ _ _ _ _ _
  refine lc_v (xs := (rng A.length).map V.int) (by rw [← rng_vals, ← la]; exact srcRng (by omega) (src_len rfl ea)) (by simp) (fun v => decide (x ∈ vat A (iv v))) (fun v => V.int (iv v)) (by rw [List.length_map, rng_len]; exact big1 (by omega)) (fun v H1 K' hv s1 kk => ?_) (fun v H1 K' hv _ s1 kk => ?_) fun D1 H1 hD1 s1 e1 => ?_
  · obtain ⟨i, rfl, hi⟩ := int_of_mem hv
    obtain ⟨u, eu, su⟩ := src_vars (i := 0) (j := 4) (σ := [some (.ref a), some (.ref d), some (.int x), none, some (.int i), none, none]) (hA.mono s1) (inR_rng i hi).1 (inR_rng i hi).2 rfl rfl
    refine ⟨_, rfl, su _ ⟨_, by rw [eu]; rfl, rfl, flat_ints _, ?_⟩⟩
    rw [inV_int]
    exact ⟨_, rfl, kk H1 (.refl _)⟩
  · obtain ⟨i, rfl, hi⟩ := int_of_mem hv
    exact ⟨_, rfl, kk H1 (.refl _)⟩
  · rw [filter_int (fun i => decide (x ∈ vat A i)), map_id] at e1
    replace e1 : H1 D1 = some (.lst ((hasX A x).map V.int)) := e1
    have hl : (hasX A x).length ≤ 12 := Nat.le_trans (List.length_filter_le _ _) (by rw [rng_len]; exact h12)
    have hq : ∀ H', Same H H' → Q (.bl (hangB A f n x)) H' := q
    have hdef : hangB A f n x = ((hasX A x).flatMap fun one => (hasX A x).flatMap fun other => btwn f n one other).all fun i => decide (i ∈ hasX A x) := by
      unfold hangB
      rw [List.all_flatMap]
      congr 1
      funext one
      rw [List.all_flatMap]
    rw [hdef] at hq
    clear hdef q
    generalize hasX A x = has at *
    have b1 : ∀ one : Int, (has.flatMap fun other => btwn f n one other).length ≤ 12 * 204 := fun one => by
      have := flat_le (fun other => btwn f n one other) 204 has fun y _ => Nat.le_trans (btwn_len f n one y) (by omega)
      omega
    have b2 : (has.flatMap fun one => has.flatMap fun other => btwn f n one other).length ≤ 12 * (12 * 204) := by
      have := flat_le (fun one => has.flatMap fun other => btwn f n one other) (12 * 204) has fun y _ => b1 y
      have h3 : has.length * (12 * 204) ≤ 12 * (12 * 204) := Nat.mul_le_mul_right _ hl
      omega
    subst hB
    have hlen : (has.map V.int).length < sizeLine := by rw [List.length_map]; exact big1 (by omega)
    let bb : Int → V := fun i => V.bl (decide (i ∈ has))
    have fm2 : ∀ one : Int, (has.map V.int).flatMap (fun o => (btwn f n one (iv o)).map bb) = (has.flatMap fun o => btwn f n one o).map bb := fun one => by rw [List.flatMap_map, List.map_flatMap]; rfl
    have fm1 : (has.map V.int).flatMap (fun o => (has.flatMap fun p => btwn f n (iv o) p).map bb) = (has.flatMap fun o => has.flatMap fun p => btwn f n o p).map bb := by rw [List.flatMap_map, List.map_flatMap]; rfl
    have key : ∀ Q2 : VK, (∀ Dd H2, Same H1 H2 → H2 Dd = some (.lst ((has.flatMap fun o => has.flatMap fun p => btwn f n o p).map bb)) → Q2 (.ref Dd) H2) → (tLc3 (iSq K (tVar 3)) (gName 5) tYes (iSq K (tVar 3)) (gName 6) tYes (iSq K (tFn spBetw (tCons (tVar 1) (tCons (tVar 5) (tCons (tVar 6) tNil))))) (gName 4) tYes (tOp (rInM false) (tVar 4) (tVar 3)) [5, 6, 4] [6, 4] [4]) [some (.ref a), some (.ref d), some (.int x), some (.ref D1), none, none, none] H1 Q2 := by
      intro Q2 hQ2
      refine lcN_v (xs := has.map V.int) (srcSq (src_var rfl) (by rw [e1]; rfl) hlen) (by simp) (fun _ => true) (fun o => (has.flatMap fun p => btwn f n (iv o) p).map bb) ?_ (fun v H2 K' hv s2 kk => kk H2 (.refl _)) (fun Dd v H2 acc N hv hpv hD s2 e2 hz2 kn => ?_) fun Dd H2 hD s2 e2 => hQ2 Dd H2 s2 (by rw [e2, filter_tt, fm1])
      · rw [filter_tt, fm1, List.length_map]
        exact big1 (by omega)
      · obtain ⟨one, rfl, ho⟩ := int_of_mem hv
        have nD1 : D1 ≠ Dd := fun z => by rw [z, hD] at e1; cases e1
        have f1 := s2 _ _ e1
        refine lvMid_v (xs := has.map V.int) (srcSqD (src_var rfl) (by rw [f1]; rfl) hlen nD1) (by simp) e2 (fun _ => true) (fun o => (btwn f n one (iv o)).map bb) ?_ (fun v2 H3 K' _ s3 kk => kk H3 (.refl _)) (fun v2 H3 acc2 N2 hv2 _ s3 e3 hz3 kn2 => ?_) fun H3 s3 e3 => kn H3 s3 (by rw [e3, filter_tt, fm2 one]; rfl)
        · rw [filter_tt, fm2 one]; exact hz2
        · obtain ⟨other, rfl, ho2⟩ := int_of_mem hv2
          have g1 : H3 D1 = some (.lst (has.map V.int)) := s3 _ _ nD1 f1
          have sH3 : Same H1 H3 := fun b o e => s3 b o (fun z => by rw [z, hD] at e; cases e) (s2 b o e)
          have bl4 := btwn_len f n one other
          have e5 : (V.int one) = .int one := rfl
          unfold lvLast iSq tFn
          refine ⟨_, rfl, _, rfl, _, rfl, d, one, other, f, n, rfl, hP.mono (s1.trans sH3), by omega, hm one ho other ho2, fun p H4 s4 hp ep => ?_⟩
          refine ⟨p, rfl, .inl ⟨_, .of ep, ?_⟩⟩
          have e4 : H4 Dd = some (.lst acc2) := s4 _ _ e3
          have npD : p ≠ Dd := fun z => by rw [z, e3] at hp; cases hp
          have g2 : H4 D1 = some (.lst (has.map V.int)) := s4 _ _ g1
          have mp : ((btwn f n one other).map V.int).map (fun v => bb (iv v)) = (btwn f n one other).map bb := by rw [List.map_map]; rfl
          have z := lvLast_v (wi := fun _ H R => R (Itl K p) H) (σ := [some (.ref a), some (.ref d), some (.int x), some (.ref D1), none, some (.int one), some (.int other)]) (tt := tYes) (te := tOp (rInM false) (tVar 4) (tVar 3)) (H0 := H4) (Nx := N2) (acc0 := acc2) (xs := (btwn f n one other).map V.int) (D := Dd) (j := 4) (vs := [4])
            ⟨Itl K p, fun H => SqL K H p ((btwn f n one other).map V.int), fun R r => r, walk_fnL (K := K), fun H' s' => .of (s' _ _ npD ep)⟩ (by simp) e4 (fun _ => true) (fun v => bb (iv v)) (by rw [filter_tt, List.length_map]; rw [List.length_map] at hz3; exact hz3) (fun v H5 K' _ s5 kk => kk H5 (.refl _)) (fun v H5 K' hv5 _ s5 kk => ?_) fun H5 s5 e5 => kn2 H5 ((SmD.of s4).trans s5) (by rw [e5, filter_tt, mp]; rfl)
          · exact z
          · obtain ⟨m, rfl, _⟩ := int_of_mem hv5
            refine ⟨_, rfl, _, rfl, has.map V.int, by rw [s5 _ _ nD1 g2]; rfl, rfl, flat_ints _, ?_⟩
            rw [inV_int]
            exact kk H5 (.refl _)
    refine key (fun x H => rAllM (fun bs => bs.all id) [x] H Q) fun Dd H2 s2 e2 => ?_
    have h2 := hq H2 (s1.trans s2)
    refine bl_ints (us := (has.flatMap fun o => has.flatMap fun p => btwn f n o p).map V.int) (fun v => decide (iv v ∈ has)) H2 Dd ?_ ?_
    · rw [e2, List.map_map]; rfl
    · rw [all_int (fun i => decide (i ∈ has))]
      exact h2
end K44
set_option Elab.async false
set_option linter.all false
set_option maxRecDepth 100000
set_option maxHeartbeats 4000000
namespace K44
open PySem PySem.Spec PyProof.Rows L2 MT
open SX (S)
local macro_rules | `(tactic| walk_at "mt") => `(tactic| simp only [L2.start, List.map_cons, List.map_nil, List.length_cons, List.length_nil, List.replicate_succ, List.replicate_zero, Nat.reduceSub, Nat.reduceAdd, Nat.sub_self, Nat.zero_add, List.cons_append, List.nil_append, List.append_nil, List.getElem?_cons_zero, List.getElem?_cons_succ, List.set_cons_zero, List.set_cons_succ, Option.some.injEq, exists_eq_left', exists_eq_left, exists_eq_right, V.bl.injEq, V.int.injEq, V.str.injEq, V.ref.injEq, reduceCtorEq, false_and, and_false, true_and, and_true, false_or, or_false, exists_false, exists_const, ↓reduceIte, Bool.false_eq_true, decide_eq_true_eq, Bool.and_eq_true, Bool.not_true, Bool.not_false, List.cons.injEq, exists_and_left, exists_and_right,
  tRet, rInM, rNeI, rSortM, rIndexM, rRepM, rSetDM, rListDM, rPopAtM, tLstRg, tRg1, tDIn, tBM, tBM0, tAndV, tOrV, tNotV, tAnd, tOr, tNot, tB, tTest, tIf, tIfS, tC, tVar, tOp, tUn, tChain, rI0, rI, rU, tFn, tCons, tNil, tCB, tTup, tLst, tAsg, gName, tNext, tDrop, tRetN, tPar, tPar3, tAug, tReplC, tRevS, rLenM2, rIsBM, tDNotIn, tDGet, rSumM, rMaxM, rMinM, gSub, rSetL, tRaiseO, tFnW, tXf, gTup, gUnl, gCons, gNil, rPopM, rAppendM, rExtendM, rTupM, rListM, ipI, tIs, tIss, rLenM, rIxM, rAddM, rEqM, rNeM, rSignIn, rInt, rAbs, rStrI, tSl, tPart, tNoPart, rSlM, tIsN, tNotN, List.any_cons, List.any_nil, Bool.or_false, tSeq, isa, D.ty, decide_true, decide_false, Bool.true_or, Bool.or_true, Bool.false_or, Bool.and_true, Bool.true_and, Bool.false_and, Bool.and_false, eq_self_iff_true, not_true_eq_false, not_false_eq_true, bne_self_eq_false])
def par (ps : List (Int × Int)) : Int → Option Int := fun i => (ps.find? fun p => decide (p.1 = i)).map (·.2)
def treeN (A : List (List Int)) (many : Int) (ps : List (Int × Int)) : Bool := (rng A.length).all (fun i => decide ((climb (par ps) (ps.length + 1) i).length ≤ A.length)) && (rng many.toNat).all fun x => hangB A (par ps) ps.length x
def treeB (A : List (List Int)) (many : Int) (e : D) : Bool := match itemsD e with
  | none => false
  | some ds => linksB A.length e && (decide ((ds.length : Int) = max ((A.length : Int) - 1) 0) && treeN A many (ds.map pairD))
theorem nodup_le : ∀ (n : Nat) (l : List Int), l.Nodup → (∀ x ∈ l, 0 ≤ x ∧ x < (n : Int)) → l.length ≤ n
  | 0, l, _, h => by
    cases l with
    | nil => exact Nat.le_refl _
    | cons x l => have := h x List.mem_cons_self; omega
  | n + 1, l, hn, h => by
    by_cases hm : (n : Int) ∈ l
    · have h1 := nodup_le n (l.erase (n : Int)) (hn.erase _) fun x hx => by
        have h2 := (List.Nodup.mem_erase_iff hn).mp hx
        have h3 := h x h2.2
        have h4 : x ≠ (n : Int) := h2.1
        omega
      rw [List.length_erase_of_mem hm] at h1
      omega
    · have h1 := nodup_le n l hn fun x hx => by
        have h3 := h x hx
        have h4 : x ≠ (n : Int) := fun z => hm (by rw [← z]; exact hx)
        omega
      omega
theorem climb_end (f : Int → Option Int) : ∀ (k : Nat) (i : Int), (climb f k i).length ≤ k → ∃ r ∈ climb f k i, f r = none
  | 0, i, h => by simp [climb] at h
  | k + 1, i, h => by
    rw [climb] at h ⊢
    cases hf : f i with
    | none => exact ⟨i, List.mem_cons_self, hf⟩
    | some j =>
      rw [hf] at h
      obtain ⟨r, h1, h2⟩ := climb_end f k j (by simpa using h)
      exact ⟨r, List.mem_cons_of_mem _ h1, h2⟩
theorem climb_in (f : Int → Option Int) (p : Int → Prop) (hp : ∀ i j, f i = some j → p j) : ∀ (k : Nat) (i : Int), p i → ∀ r ∈ climb f k i, p r
  | 0, i, h, r, hr => by
    have : r = i := by simpa [climb] using hr
    rw [this]; exact h
  | k + 1, i, h, r, hr => by
    rw [climb] at hr
    rcases List.mem_cons.mp hr with rfl | hr
    · exact h
    · cases hf : f i with
      | none => rw [hf] at hr; cases hr
      | some j => rw [hf] at hr; exact climb_in f p hp k j (hp i j hf) r hr
structure Links (n : Nat) (ps : List (Int × Int)) : Prop where
  asc : (ps.map Prod.fst).Pairwise (· < ·)
  one : ∀ p ∈ ps, 0 ≤ p.1 ∧ p.1 < (n : Int)
  two : ∀ p ∈ ps, 0 ≤ p.2 ∧ p.2 < (n : Int)
  len : ps.length + 1 = n
theorem par_some {ps : List (Int × Int)} {i j : Int} (h : par ps i = some j) : (i, j) ∈ ps := by
  unfold par at h
  obtain ⟨p, h1, h2⟩ := Option.map_eq_some_iff.mp h
  have h3 := List.find?_some (p := fun p : Int × Int => decide (p.1 = i)) h1
  have h4 := List.mem_of_find?_eq_some h1
  have h5 : p.1 = i := of_decide_eq_true h3
  rw [← h5, ← h2]
  exact h4
theorem par_none {ps : List (Int × Int)} {i : Int} (h : par ps i = none) : i ∉ ps.map Prod.fst := by
  unfold par at h
  rw [Option.map_eq_none_iff, List.find?_eq_none] at h
  intro hm
  obtain ⟨p, hp, e⟩ := List.mem_map.mp hm
  have := h p hp
  simp [e] at this
theorem root_one {n : Nat} {ps : List (Int × Int)} (L : Links n ps) {r s : Int} (hr : par ps r = none) (hs : par ps s = none) (r0 : 0 ≤ r ∧ r < (n : Int)) (s0 : 0 ≤ s ∧ s < (n : Int)) : r = s := by
  refine Classical.byContradiction fun ne => ?_
  have nd : (ps.map Prod.fst).Nodup := L.asc.imp fun h => by omega
  have h1 := nodup_le n (r :: s :: ps.map Prod.fst) (List.nodup_cons.mpr ⟨fun z => by
    rcases List.mem_cons.mp z with z | z
    · exact ne z
    · exact par_none hr z, List.nodup_cons.mpr ⟨par_none hs, nd⟩⟩) fun x hx => by
      rcases List.mem_cons.mp hx with rfl | hx
      · exact r0
      · rcases List.mem_cons.mp hx with rfl | hx
        · exact s0
        · obtain ⟨p, hp, rfl⟩ := List.mem_map.mp hx
          exact L.one p hp
  have := L.len
  simp at h1
  omega
theorem meet_some {n : Nat} {ps : List (Int × Int)} (L : Links n ps) (hc : ∀ i ∈ rng n, (climb (par ps) (ps.length + 1) i).length ≤ n) {a b : Int} (ha : a ∈ rng n) (hb : b ∈ rng n) : (meet (par ps) ps.length a b).isSome = true := by
  have rg : ∀ i ∈ rng n, 0 ≤ i ∧ i < (n : Int) := fun i hi => by
    obtain ⟨k, hk, rfl⟩ := List.mem_map.mp hi
    have := List.mem_range.mp hk
    omega
  have st : ∀ i j, par ps i = some j → 0 ≤ j ∧ j < (n : Int) := fun i j h => L.two _ (par_some h)
  have hl := L.len
  obtain ⟨r, r1, r2⟩ := climb_end (par ps) (ps.length + 1) a (by have := hc a ha; omega)
  obtain ⟨s, s1, s2⟩ := climb_end (par ps) (ps.length + 1) b (by have := hc b hb; omega)
  have e := root_one L r2 s2 (climb_in _ (fun j => 0 ≤ j ∧ j < (n : Int)) st _ a (rg a ha) r r1) (climb_in _ (fun j => 0 ≤ j ∧ j < (n : Int)) st _ b (rg b hb) s s1)
  subst e
  unfold meet
  rw [List.find?_isSome]
  exact ⟨r, r1, decide_eq_true s1⟩
theorem links_of {n : Nat} {e : D} {ds : List D} (hl : itemsD e = some ds) (h : linksB n e = true) (hz : (ds.length : Int) = max ((n : Int) - 1) 0) (hn : 1 ≤ n) : Links n (ds.map pairD) := by
  simp only [linksB, hl, Bool.and_eq_true] at h
  obtain ⟨h2, hb, ha⟩ := h
  have two : ∀ d ∈ ds, 0 ≤ (pairD d).1 ∧ (pairD d).1 < (n : Int) ∧ 0 ≤ (pairD d).2 ∧ (pairD d).2 < (n : Int) := fun d hd => by
    obtain ⟨x, y, rfl⟩ := tup2 (List.all_eq_true.mp h2 d hd)
    have h3 := all_btw (all_flat hb hd)
    have h4 := h3 (intD x) (by simp [subD])
    have h5 := h3 (intD y) (by simp [subD])
    exact ⟨h4.1, h4.2, h5.1, h5.2⟩
  refine ⟨(asc_iff _).mp ha, fun p hp => ?_, fun p hp => ?_, by rw [List.length_map]; omega⟩
  · obtain ⟨d, hd, rfl⟩ := List.mem_map.mp hp
    exact ⟨(two d hd).1, (two d hd).2.1⟩
  · obtain ⟨d, hd, rfl⟩ := List.mem_map.mp hp
    exact ⟨(two d hd).2.2.1, (two d hd).2.2.2⟩
/-- the dict of pairs -/
def kvP (ps : List (Int × Int)) : List (Key × V) := ps.map fun p => (.inl p.1, .int p.2)
theorem val_kvP (ps : List (Int × Int)) (i : Int) : valV (kvP ps) (.inl i) = (par ps i).map V.int := by
  unfold valV kvP par
  rw [List.find?_map, Option.map_map, Option.map_map]
  congr 1
  congr 1
  funext p
  simp [Function.comp_def]
theorem put_kvP {ps : List (Int × Int)} {c p : Int} (h : c ∉ ps.map Prod.fst) : putK (kvP ps) (.inl c) (.int p) = kvP (ps ++ [(c, p)]) := by
  have : valV (kvP ps) (.inl c) = none := by
    rw [val_kvP]
    cases e : par ps c with
    | none => rfl
    | some j => exact absurd (List.mem_map.mpr ⟨_, par_some e, rfl⟩) h
  rw [putK_new _ this]
  unfold kvP
  rw [List.map_append]
  rfl
end K44
set_option Elab.async false
set_option linter.all false
set_option maxRecDepth 100000
set_option maxHeartbeats 4000000
namespace K44
open PySem PySem.Spec PyProof.Rows L2 MT
open SX (S)
local macro_rules | `(tactic| walk_at "mt") => `(tactic| simp only [L2.start, List.map_cons, List.map_nil, List.length_cons, List.length_nil, List.replicate_succ, List.replicate_zero, Nat.reduceSub, Nat.reduceAdd, Nat.sub_self, Nat.zero_add, List.cons_append, List.nil_append, List.append_nil, List.getElem?_cons_zero, List.getElem?_cons_succ, List.set_cons_zero, List.set_cons_succ, Option.some.injEq, exists_eq_left', exists_eq_left, exists_eq_right, V.bl.injEq, V.int.injEq, V.str.injEq, V.ref.injEq, reduceCtorEq, false_and, and_false, true_and, and_true, false_or, or_false, exists_false, exists_const, ↓reduceIte, Bool.false_eq_true, decide_eq_true_eq, Bool.and_eq_true, Bool.not_true, Bool.not_false, List.cons.injEq, exists_and_left, exists_and_right,
  tRet, rInM, rNeI, rSortM, rIndexM, rRepM, rSetDM, rListDM, rPopAtM, tLstRg, tRg1, tDIn, tBM, tBM0, tAndV, tOrV, tNotV, tAnd, tOr, tNot, tB, tTest, tIf, tIfS, tC, tVar, tOp, tUn, tChain, rI0, rI, rU, tFn, tCons, tNil, tCB, tTup, tLst, tAsg, gName, tNext, tDrop, tRetN, tPar, tPar3, tAug, tReplC, tRevS, rLenM2, rIsBM, tDNotIn, tDGet, rSumM, rMaxM, rMinM, gSub, rSetL, tRaiseO, tFnW, tXf, gTup, gUnl, gCons, gNil, rPopM, rAppendM, rExtendM, rTupM, rListM, ipI, tIs, tIss, rLenM, rIxM, rAddM, rEqM, rNeM, rSignIn, rInt, rAbs, rStrI, tSl, tPart, tNoPart, rSlM, tIsN, tNotN, List.any_cons, List.any_nil, Bool.or_false, tSeq, isa, D.ty, decide_true, decide_false, Bool.true_or, Bool.or_true, Bool.false_or, Bool.and_true, Bool.true_and, Bool.false_and, Bool.and_false, eq_self_iff_true, not_true_eq_false, not_false_eq_true, bne_self_eq_false])
def szD (e : D) : Prop := ((itemsD e).getD []).length ≤ 100000
def spIsTreeOf : Sp := fun vs H Q _ => ∃ v x d e, vs = [v, x] ∧ Dat H v d ∧ conjD d = true ∧ manyD d ≤ 100000 ∧ Dat H x e ∧ szD e ∧ ∀ H', Same H H' → Q (.bl (treeB (varsD d) (manyD d) e)) H'
/-- the dict of the pairs that are walked -/
theorem dc_pairs {K : PySem.W.Frag} {s0 s1 s2 s3 s4 s5 s6 s7 s8 : Option V} {H : Hp} {Q : VK} {us : List V} {ps : List (Int × Int)} {wi : TI} (s : Src wi [s0, s1, s2, s3, s4, s5, s6, s7, s8] H us) (hl : ps.length = us.length) (hz : us.length < sizeLine)
    (hat : ∀ (i : Nat) u p, us[i]? = some u → ps[i]? = some p → ∃ t, u = .ref t ∧ H t = some (.tup [.int p.1, .int p.2])) (nd : (ps.map Prod.fst).Nodup) (q : ∀ D H', Same H H' → H D = none → H' D = some (.dK (kvP ps)) → Q (.ref D) H') :
    tDc wi (gTup K 2 (gCons (gName 5) (gCons (gName 6) gNil))) tYes (tVar 5) (tVar 6) [5, 6] [s0, s1, s2, s3, s4, s5, s6, s7, s8] H Q := by
  obtain ⟨J, G, a, b, c⟩ := s
  refine a _ fun D hD => ?_
  refine loop_W (End := fun H' => Q (.ref D) H') (body := fun x H' Nx => (gTup K 2 (gCons (gName 5) (gCons (gName 6) gNil))) x (wipe [s0, s1, s2, s3, s4, s5, s6, s7, s8] [5, 6]) H' fun σ2 H2 => wipe σ2 [5, 6] = wipe [s0, s1, s2, s3, s4, s5, s6, s7, s8] [5, 6] ∧ tYes σ2 H2 fun b H3 =>
    if b = true then (tVar 5) σ2 H3 fun y H4 => (tVar 6) σ2 H4 fun z H5 => ∃ kvs k, y = kV k ∧ H5 D = some (.dK kvs) ∧ kvs.length < sizeLine ∧ Nx (upd H5 D (.dK (putK kvs k z))) else Nx H3)
    b (fun i H' => SmD D H H' ∧ H' D = some (.dK (kvP (ps.take i)))) ⟨.upd, upd_same⟩ (fun i H' _ h => c H' (h.1.same hD)) (fun i x H1 H' hi h y => ?_) fun H' h => q D H' (h.1.same hD) hD (by rw [h.2, ← hl, List.take_length])
  obtain ⟨rfl, rfl⟩ := y
  obtain ⟨sm, eD⟩ := h
  have hi2 : i < ps.length := by omega
  have e1 : us[i]? = some (us.getD i .non) := by rw [List.getD_eq_getElem?_getD, List.getElem?_eq_getElem hi]; rfl
  obtain ⟨t, e2, et⟩ := hat i _ ps[i] e1 (List.getElem?_eq_getElem hi2)
  show gTup K 2 _ (us.getD i .non) _ _ _
  rw [e2]
  have et2 : H' t = some (.tup [.int ps[i].1, .int ps[i].2]) := (sm.same hD) _ _ et
  refine ⟨t, _, rfl, .of et2, rfl, _, _, rfl, _, _, rfl, rfl, rfl, ?_⟩
  show tYes _ _ _
  unfold tYes
  simp only [↓reduceIte]
  refine ⟨_, rfl, _, rfl, kvP (ps.take i), .inl ps[i].1, rfl, eD, ?_, ?_, ?_⟩
  · unfold kvP; rw [List.length_map, List.length_take]; omega
  · exact sm.trans .upd
  · rw [upd_same, put_kvP, List.take_succ, List.getElem?_eq_getElem hi2]
    · rfl
    · intro hm
      have e3 : ps = ps.take i ++ ps[i] :: ps.drop (i + 1) := by rw [← List.drop_eq_getElem_cons hi2, List.take_append_drop]
      rw [e3, List.map_append, List.map_cons] at nd
      exact (List.nodup_append.mp nd).2.2 _ hm _ List.mem_cons_self rfl
theorem pr_is_tree_of {K : PySem.W.Frag} (vs : List V) (H : Hp) (Q : VK) (E : XK) (h : spIsTreeOf vs H Q E) : t_is_tree_of K spAreLinks spWayUp spHangs (E0N Q) (L2.start ["conjunction", "value", "many", "atoms", "parents", "child", "parent", "index", "x"] vs) H := by
  obtain ⟨v, x, d, e, rfl, hd, hc, hmz, he, hz, q⟩ := h
  unfold t_is_tree_of
  generalize hB : (tSeq (tAsg (tDc _ _ _ _ _ _) _) _ : TS) = B
  obtain ⟨p, a, rfl, ep, h0, hA⟩ := conj_ats hd hc
  obtain ⟨va, ea, la, _⟩ := hA.ex
  have h12 := hA.sz
  generalize hvd : varsD d = A at *
  generalize hmd : manyD d = many at *
  walk_at "mt"
  refine ⟨[.int many, .ref a], .of ep, rfl, _, _, rfl, _, _, rfl, rfl, ?_⟩
  walk_at "mt"
  refine ⟨va, ea, ?_⟩
  rw [la]
  refine ⟨A.length, x, e, rfl, he, hz, fun H1 s1 => ?_⟩
  refine ⟨_, rfl, ?_⟩
  cases hl : linksB A.length e with
  | false =>
    have : treeB A many e = false := by
      unfold treeB
      split
      · rfl
      · rw [hl]; rfl
    rw [this] at q
    exact q H1 s1
  | true =>
    cases hi : itemsD e with
    | none => simp only [linksB, hi] at hl; cases hl
    | some ds =>
      have e0 : treeB A many e = (decide ((ds.length : Int) = max ((A.length : Int) - 1) 0) && treeN A many (ds.map pairD)) := by simp only [treeB, hi, hl, Bool.true_and]
      obtain ⟨b, us, rfl, eb, hu, hbl⟩ := (he.mono s1).seq hi
      have hul := hu.length
      walk_at "mt"
      refine ⟨us, eb, va, seq_mono ea s1, ?_⟩
      rw [la, hul]
      rw [e0] at q
      by_cases hsz : (ds.length : Int) = max ((A.length : Int) - 1) 0
      · rw [if_neg (by simp [hsz])]
        rw [decide_eq_true hsz, Bool.true_and] at q
        simp only [linksB, hi, Bool.and_eq_true] at hl
        obtain ⟨h2, hb, hasc⟩ := id hl
        have hu1 := hu
        have LK : 1 ≤ A.length → Links A.length (ds.map pairD) := fun h1 => links_of hi (by simp only [linksB, hi, Bool.and_eq_true]; exact hl) hsz h1
        have hpl : (ds.map pairD).length = ds.length := List.length_map ..
        have nd : ((ds.map pairD).map Prod.fst).Nodup := ((asc_iff _).mp hasc).imp fun h => by omega
        have hat : ∀ (i : Nat) u pq, us[i]? = some u → (ds.map pairD)[i]? = some pq → ∃ t, u = .ref t ∧ H1 t = some (.tup [.int pq.1, .int pq.2]) := fun i u pq h1 h3 => by
          rw [List.getElem?_map] at h3
          obtain ⟨dd, h4, rfl⟩ := Option.map_eq_some_iff.mp h3
          obtain ⟨w, h5, h6⟩ := hu1.at h4
          rw [h1] at h5
          cases h5
          exact pair_at (n := A.length) h6 (List.all_eq_true.mp h2 dd (List.mem_of_getElem? h4)) (all_flat hb (List.mem_of_getElem? h4))
        generalize ds.map pairD = ps at *
        subst hB
        unfold tSeq tAsg
        refine dc_pairs (us := us) (ps := ps) (srcSq (src_var rfl) eb (by rw [hul]; exact bl_sl hbl)) (by rw [hpl, hul]) (by rw [hul]; exact bl_sl hbl) hat nd fun dc H2 s2 hdc edc => ?_
        have hP : ParAt H2 dc (par ps) ps.length := ⟨kvP ps, edc, by unfold kvP; rw [List.length_map], val_kvP ps⟩
        have sA : Same H H2 := s1.trans s2
        have hps : ps.length ≤ 12 := by omega
        unfold gName
        dsimp only [List.set_cons_zero, List.set_cons_succ]
        have ea2 : seqO (H2 a) = some va := seq_mono ea sA
        have key1 : ∀ Q2 : VK, (∀ H3, Same H2 H3 → Q2 (.bl ((rng A.length).all fun i => decide ((climb (par ps) (ps.length + 1) i).length ≤ A.length))) H3) →
            tCB (rAllM fun bs => bs.all id) (tCons (tLc (iRng1 (tCons (tCB rLenM (tCons (tVar 3) tNil)) tNil)) (gName 7) tYes (tOp (rI0 fun i j => .bl (decide (i ≤ j))) (tCB rLenM (tCons (tFn spWayUp (tCons (tVar 4) (tCons (tVar 7) tNil))) tNil)) (tCB rLenM (tCons (tVar 3) tNil))) [7]) tNil) [some (.ref p), some (.ref b), some (.int many), some (.ref a), some (.ref dc), none, none, none, none] H2 Q2 := by
          intro Q2 hQ2
          refine all_v (xs := (rng A.length).map V.int) (by rw [← rng_vals, ← la]; exact srcRng (by omega) (src_len rfl ea2)) (by rw [List.length_map, rng_len]; exact big1 (by omega)) (fun v => decide ((climb (par ps) (ps.length + 1) (iv v)).length ≤ A.length)) (fun v H3 K' hv s3 kk => ?_) fun H3 s3 => by
            rw [all_int (fun i => decide ((climb (par ps) (ps.length + 1) i).length ≤ A.length))]; exact hQ2 H3 s3
          obtain ⟨i, rfl, hi⟩ := int_of_mem hv
          refine ⟨_, rfl, _, rfl, dc, i, par ps, ps.length, rfl, hP.mono s3, by omega, fun u H4 s4 hu4 eu => ?_⟩
          refine ⟨_, by rw [eu]; rfl, _, rfl, va, seq_mono ea2 (s3.trans s4), ?_⟩
          refine ⟨_, _, rfl, rfl, ?_⟩
          have e7 : decide (((((climb (par ps) (ps.length + 1) i).map V.int).length : Nat) : Int) ≤ ((va.length : Nat) : Int)) = decide ((climb (par ps) (ps.length + 1) (iv (.int i))).length ≤ A.length) := by
            rw [List.length_map, la]
            exact decide_eq_decide.mpr (by show _ ↔ (climb (par ps) (ps.length + 1) i).length ≤ A.length; omega)
          show K' (V.bl (decide (_ ≤ _))) H4
          rw [e7]
          exact kk H4 s4
        unfold tIfS tNot tB
        refine key1 _ fun H3 s3 => ⟨_, rfl, ?_⟩
        have sB : Same H H3 := sA.trans s3
        cases hall : (rng A.length).all fun i => decide ((climb (par ps) (ps.length + 1) i).length ≤ A.length) with
        | false =>
          have : treeN A many ps = false := by simp only [treeN, hall, Bool.false_and]
          rw [this] at q
          exact q H3 sB
        | true =>
          have e9 : treeN A many ps = (rng many.toNat).all fun x => hangB A (par ps) ps.length x := by simp only [treeN, hall, Bool.true_and]
          rw [e9] at q
          have hm : ∀ x, ∀ one ∈ hasX A x, ∀ other ∈ hasX A x, (meet (par ps) ps.length one other).isSome = true := fun x one h1 other h2 => by
            have k1 := (List.mem_filter.mp h1).1
            have k2 := (List.mem_filter.mp h2).1
            have n1 : 1 ≤ A.length := by
              obtain ⟨k, hk, _⟩ := List.mem_map.mp k1
              have := List.mem_range.mp hk
              omega
            refine meet_some (LK n1) (fun i hi => ?_) k1 k2
            have := List.all_eq_true.mp hall i hi
            exact of_decide_eq_true this
          have ml : ((many.toNat : Nat) : Int) = many := by omega
          simp only [Bool.not_true, Bool.false_eq_true, ↓reduceIte]
          unfold tNext tRet
          dsimp only
          refine all_v (xs := (rng many.toNat).map V.int) (by rw [← rng_vals]; exact srcRng (by omega) (by rw [ml]; exact src_var rfl)) (by rw [List.length_map, rng_len]; exact bl_sl (by unfold BL; omega)) (fun v => hangB A (par ps) ps.length (iv v)) (fun v H4 K' hv s4 kk => ?_) fun H4 s4 => by
            rw [all_int (fun x => hangB A (par ps) ps.length x)]; exact q H4 (sB.trans s4)
          obtain ⟨x, rfl, hx⟩ := int_of_mem hv
          exact ⟨_, rfl, _, rfl, _, rfl, a, dc, x, A, par ps, ps.length, rfl, hA.mono (sB.trans s4), hP.mono (s3.trans s4), by omega, hm x, kk⟩
      · rw [if_pos (by simp [hsz])]
        rw [decide_eq_false hsz, Bool.false_and] at q
        exact q H1 s1
end K44
set_option Elab.async false
set_option linter.all false
set_option maxRecDepth 100000
set_option maxHeartbeats 4000000
namespace K44
open PySem PySem.Spec PyProof.Rows L2 MT
open SX (S)
local macro_rules | `(tactic| walk_at "mt") => `(tactic| simp only [L2.start, List.map_cons, List.map_nil, List.length_cons, List.length_nil, List.replicate_succ, List.replicate_zero, Nat.reduceSub, Nat.reduceAdd, Nat.sub_self, Nat.zero_add, List.cons_append, List.nil_append, List.append_nil, List.getElem?_cons_zero, List.getElem?_cons_succ, List.set_cons_zero, List.set_cons_succ, Option.some.injEq, exists_eq_left', exists_eq_left, exists_eq_right, V.bl.injEq, V.int.injEq, V.str.injEq, V.ref.injEq, reduceCtorEq, false_and, and_false, true_and, and_true, false_or, or_false, exists_false, exists_const, ↓reduceIte, Bool.false_eq_true, decide_eq_true_eq, Bool.and_eq_true, Bool.not_true, Bool.not_false, List.cons.injEq, exists_and_left, exists_and_right,
  tRet, rInM, rNeI, rSortM, rIndexM, rRepM, rSetDM, rListDM, rPopAtM, tLstRg, tRg1, tDIn, tBM, tBM0, tAndV, tOrV, tNotV, tAnd, tOr, tNot, tB, tTest, tIf, tIfS, tC, tVar, tOp, tUn, tChain, rI0, rI, rU, tFn, tCons, tNil, tCB, tTup, tLst, tAsg, gName, tNext, tDrop, tRetN, tPar, tPar3, tAug, tReplC, tRevS, rLenM2, rIsBM, tDNotIn, tDGet, rSumM, rMaxM, rMinM, gSub, rSetL, tRaiseO, tFnW, tXf, gTup, gUnl, gCons, gNil, rPopM, rAppendM, rExtendM, rTupM, rListM, ipI, tIs, tIss, rLenM, rIxM, rAddM, rEqM, rNeM, rSignIn, rInt, rAbs, rStrI, tSl, tPart, tNoPart, rSlM, tIsN, tNotN, List.any_cons, List.any_nil, Bool.or_false, tSeq, isa, D.ty, decide_true, decide_false, Bool.true_or, Bool.or_true, Bool.false_or, Bool.and_true, Bool.true_and, Bool.false_and, Bool.and_false, eq_self_iff_true, not_true_eq_false, not_false_eq_true, bne_self_eq_false])
def spIsJoinTree (K : PySem.W.Frag) : Sp := fun vs H Q E => ∃ v x d e, vs = [v, x] ∧ Dat H v d ∧ headsOk d = true ∧ manyD d ≤ 100000 ∧ Dat H x e ∧ szD e ∧ (conjD d = false → Raises K H v E) ∧ (conjD d = true → ∀ H', Same H H' → Q (.bl (treeB (varsD d) (manyD d) e)) H')
theorem pr_is_join_tree {K : PySem.W.Frag} (vs : List V) (H : Hp) (Q : VK) (E : XK) (h : spIsJoinTree K vs H Q E) : t_is_join_tree K (spCheck K) spIsTreeOf E (E0N Q) (L2.start ["conjunction", "value"] vs) H := by
  obtain ⟨v, x, d, e, rfl, hd, ho, hm, he, hz, qe, q⟩ := h
  unfold t_is_join_tree
  generalize hB : (tRet (tFn spIsTreeOf _) : TS) = B
  walk_at "mt"
  unfold tFnX
  walk_at "mt"
  refine ⟨v, d, rfl, hd, ho, fun hc H1 s1 => ?_, fun hc => qe hc⟩
  subst hB
  walk_at "mt"
  exact ⟨v, x, d, e, rfl, hd.mono s1, hc, hm, he.mono s1, hz, fun H' s => q hc H' (s1.trans s)⟩
end K44
set_option Elab.async false
set_option linter.all false
set_option maxRecDepth 100000
set_option maxHeartbeats 4000000
namespace K44
open PySem PySem.Spec PyProof.Rows L2 MT
open SX (S)
local macro_rules | `(tactic| walk_at "mt") => `(tactic| simp only [L2.start, List.map_cons, List.map_nil, List.length_cons, List.length_nil, List.replicate_succ, List.replicate_zero, Nat.reduceSub, Nat.reduceAdd, Nat.sub_self, Nat.zero_add, List.cons_append, List.nil_append, List.append_nil, List.getElem?_cons_zero, List.getElem?_cons_succ, List.set_cons_zero, List.set_cons_succ, Option.some.injEq, exists_eq_left', exists_eq_left, exists_eq_right, V.bl.injEq, V.int.injEq, V.str.injEq, V.ref.injEq, reduceCtorEq, false_and, and_false, true_and, and_true, false_or, or_false, exists_false, exists_const, ↓reduceIte, Bool.false_eq_true, decide_eq_true_eq, Bool.and_eq_true, Bool.not_true, Bool.not_false, List.cons.injEq, exists_and_left, exists_and_right,
  tRet, rInM, rNeI, rSortM, rIndexM, rRepM, rSetDM, rListDM, rPopAtM, tLstRg, tRg1, tDIn, tBM, tBM0, tAndV, tOrV, tNotV, tAnd, tOr, tNot, tB, tTest, tIf, tIfS, tC, tVar, tOp, tUn, tChain, rI0, rI, rU, tFn, tCons, tNil, tCB, tTup, tLst, tAsg, gName, tNext, tDrop, tRetN, tPar, tPar3, tAug, tReplC, tRevS, rLenM2, rIsBM, tDNotIn, tDGet, rSumM, rMaxM, rMinM, gSub, rSetL, tRaiseO, tFnW, tXf, gTup, gUnl, gCons, gNil, rPopM, rAppendM, rExtendM, rTupM, rListM, ipI, tIs, tIss, rLenM, rIxM, rAddM, rEqM, rNeM, rSignIn, rInt, rAbs, rStrI, tSl, tPart, tNoPart, rSlM, tIsN, tNotN, List.any_cons, List.any_nil, Bool.or_false, tSeq, isa, D.ty, decide_true, decide_false, Bool.true_or, Bool.or_true, Bool.false_or, Bool.and_true, Bool.true_and, Bool.false_and, Bool.and_false, eq_self_iff_true, not_true_eq_false, not_false_eq_true, bne_self_eq_false])
theorem at0 {α : Type} {x : α} {xs : List α} : atI (x :: xs) 0 = some x := by simp [atI, ixN]
theorem at1 {α : Type} {x y : α} {xs : List α} : atI (x :: y :: xs) 1 = some y := by
  have := atI_nat (xs := x :: y :: xs) (j := 1) (v := y) rfl
  simpa using this
/-- the source of what is drawn -/
def Bx (H : Hp) (b : Addr) (c : Nat) : Prop := ∃ (n : Int) (g : Bool) (m : Int) (k : Nat), H b = some (.lst [.int n, .bl g, .int m, .int (k : Int)]) ∧ 0 ≤ n ∧ 0 ≤ m ∧ m < 2147483648 ∧ k ≤ c
def cutV' (ns : List Int) (lo hi : Option Int) : List Int := (ns.drop (HT.sIx ns.length 0 lo)).take (HT.sIx ns.length ns.length hi - HT.sIx ns.length 0 lo)
theorem cutV_map (ns : List Int) (lo hi : Option Int) : cutV (ns.map V.int) lo hi = (cutV' ns lo hi).map V.int := by
  unfold cutV cutV'
  rw [List.length_map, List.map_take, List.map_drop]
def spCell : Sp := fun vs H Q _ => ∃ (s : Addr) (ns : List Int) (o : Obj) (k : Nat), vs = [.ref s, .int (k : Int)] ∧ H s = some (.frz o (.lst (ns.map V.int))) ∧ k ≤ 1000 ∧ ∀ i H', Same H H' → Q (.int i) H'
theorem pr_law_cell {K : PySem.W.Frag} (vs : List V) (H : Hp) (Q : VK) (E : XK) (h : spCell vs H Q E) : t_law_cell K (E0N Q) (L2.start ["script", "k"] vs) H := by
  obtain ⟨s, ns, o, k, rfl, hs, hk, q⟩ := h
  unfold t_law_cell
  walk_at "mt"
  refine ⟨ns.map V.int, by rw [hs]; rfl, ?_⟩
  rw [List.length_map]
  split
  · rename_i hlt
    have hlt : k < ns.length := by omega
    refine ⟨_, by rw [hs]; rfl, .int ns[k], atI_nat (by rw [List.getElem?_map, List.getElem?_eq_getElem hlt]; rfl), q _ _ (.refl _)⟩
  · have hm : CMulW 9907 (k : Int) := wide_mul (a := 20) (b := 20) (by decide) (by show k < 2 ^ 20; omega) (by decide) (by decide) (by decide)
    refine ⟨hm, ?_⟩
    rw [hs]
    dsimp only
    intro p hp
    refine ⟨cutV' ns none (some 1), ?_, by decide, q _ _ (same_upd hp)⟩
    rw [upd_same, cutV_map]
/-- int of the given size, a box of it -/
def spBox : Sp := fun vs H Q _ => ∃ g : Int, vs = [.int g] ∧ ∀ b o, H b = none → Bx (upd H b o) b 0 → Q (.ref b) (upd H b o)
theorem fmod_rng {i : Int} {n : Nat} (h : 0 < n) : ∃ r : Nat, i.fmod (n : Int) = (r : Int) ∧ r < n := by
  have h1 := Int.emod_nonneg i (show (n : Int) ≠ 0 by omega)
  have h2 := Int.emod_lt_of_pos i (show (0 : Int) < n by omega)
  rw [Int.fmod_eq_emod_of_nonneg i (by omega)]
  exact ⟨(i % (n : Int)).toNat, by omega, by omega⟩
theorem pr_law_box {K : PySem.W.Frag} (vs : List V) (H : Hp) (Q : VK) (E : XK) (h : spBox vs H Q E) : t_law_box K (E0N Q) (L2.start ["great"] vs) H := by
  obtain ⟨g, rfl, q⟩ := h
  unfold t_law_box
  walk_at "mt"
  refine ⟨⟨by decide, by decide, by decide⟩, by decide, by decide +kernel, fun b hb => q b _ hb ?_⟩
  obtain ⟨r, hr, hlt⟩ := fmod_rng (i := (g.natAbs : Int)) (n := 2147483629) (by decide)
  exact ⟨_, _, _, 0, upd_same, by omega, by rw [show (2147483629 : Int) = ((2147483629 : Nat) : Int) from rfl, hr]; omega, by rw [show (2147483629 : Int) = ((2147483629 : Nat) : Int) from rfl, hr]; omega, Nat.le_refl _⟩
theorem seqO_lst {xs : List V} : seqO (some (.lst xs)) = some xs := rfl
theorem at2 {α : Type} {x y z : α} {xs : List α} : atI (x :: y :: z :: xs) 2 = some z := by
  have := atI_nat (xs := x :: y :: z :: xs) (j := 2) (v := z) rfl
  simpa using this
theorem at3 {α : Type} {x y z w : α} {xs : List α} : atI (x :: y :: z :: w :: xs) 3 = some w := by
  have := atI_nat (xs := x :: y :: z :: w :: xs) (j := 3) (v := w) rfl
  simpa using this
def spTake : Sp := fun vs H Q _ => ∃ (b : Addr) (many c : Nat), vs = [.ref b, .int (many : Int)] ∧ 1 ≤ many ∧ many ≤ 1000000 ∧ Bx H b c ∧ c ≤ 1000000000 ∧ ∀ (r : Nat) o, r < many → Bx (upd H b o) b (c + 1) → Q (.int (r : Int)) (upd H b o)
theorem pr_law_take {K : PySem.W.Frag} (vs : List V) (H : Hp) (Q : VK) (E : XK) (h : spTake vs H Q E) : t_law_take K (E0N Q) (L2.start ["box", "many", "digit", "mixed"] vs) H := by
  obtain ⟨b, many, c, rfl, h1, h2, ⟨n, g, m, k, hb, hn, hm, hm2, hk⟩, hc, q⟩ := h
  unfold t_law_take
  walk_at "mt"
  simp only [hb, seqO_lst, HO.lst.injEq, at0, at1, at2, at3, Option.some.injEq, exists_eq_left', exists_eq_left, V.bl.injEq, V.int.injEq, List.length_cons, List.length_nil, List.set_cons_zero]
  walk_at "mt"
  have rm := fun i => fmod_rng (i := i) (n := many) (by omega)
  have p64 : (2 : Nat) ^ 64 = 18446744073709551616 := by decide
  split
  · split
    · refine ⟨by omega, ⟨by omega, by omega⟩, 0, rfl, ?_⟩
      obtain ⟨r, hr, hlt⟩ := rm n
      rw [hr]
      refine q r _ hlt ⟨n.fdiv many, g, m, k, by rw [upd_same]; rfl, ?_, hm, hm2, by omega⟩
      rw [Int.fdiv_eq_ediv_of_nonneg _ (by omega)]
      exact Int.ediv_nonneg hn (by omega)
    all_goals (
      refine ⟨3, rfl, ?_⟩
      simp only [List.set_cons_succ, List.set_cons_zero, upd_same, seqO_lst, at2, at3, Option.some.injEq, exists_eq_left', exists_eq_left, V.int.injEq]
      have ek : ((k : Int) + 1) = ((k + 1 : Nat) : Int) := by omega
      rw [ek]
      have hm1 : CMulW 15487129 ((k + 1 : Nat) : Int) := wide_mul (a := 30) (b := 40) (by decide) (by omega) (by decide) (by decide) (by decide)
      refine ⟨hm1, ⟨by decide, by decide, by omega⟩, by decide, ?_⟩
      obtain ⟨r1, hr1, hl1⟩ := fmod_rng (i := (m + 15487129 * ((k + 1 : Nat) : Int) + 179426029) ^ Int.toNat 5) (n := 2147483647) (by decide)
      have e1 : (2147483647 : Int) = ((2147483647 : Nat) : Int) := rfl
      rw [e1, hr1]
      refine ⟨wide_mul (a := 32) (b := 32) (by omega) (by decide) (by decide) (by decide) (by decide), wide_mul (a := 20) (b := 40) (by decide) (by omega) (by decide) (by decide) (by decide), ⟨by decide, by decide, by omega⟩, by decide, ?_⟩
      refine ⟨⟨by decide, by decide⟩, by omega, ?_⟩
      obtain ⟨r, hr, hlt⟩ := rm ((((r1 : Int) * 48271 + 9929 * ((k + 1 : Nat) : Int)) ^ Int.toNat 3).fmod 2147483587 |>.fdiv 64)
      rw [hr]
      exact q r _ hlt ⟨n, g, m, k + 1, upd_same, hn, hm, hm2, by omega⟩)
  · all_goals (
      refine ⟨3, rfl, ?_⟩
      simp only [List.set_cons_succ, List.set_cons_zero, upd_same, seqO_lst, at2, at3, Option.some.injEq, exists_eq_left', exists_eq_left, V.int.injEq]
      have ek : ((k : Int) + 1) = ((k + 1 : Nat) : Int) := by omega
      rw [ek]
      have hm1 : CMulW 15487129 ((k + 1 : Nat) : Int) := wide_mul (a := 30) (b := 40) (by decide) (by omega) (by decide) (by decide) (by decide)
      refine ⟨hm1, ⟨by decide, by decide, by omega⟩, by decide, ?_⟩
      obtain ⟨r1, hr1, hl1⟩ := fmod_rng (i := (m + 15487129 * ((k + 1 : Nat) : Int) + 179426029) ^ Int.toNat 5) (n := 2147483647) (by decide)
      have e1 : (2147483647 : Int) = ((2147483647 : Nat) : Int) := rfl
      rw [e1, hr1]
      refine ⟨wide_mul (a := 32) (b := 32) (by omega) (by decide) (by decide) (by decide) (by decide), wide_mul (a := 20) (b := 40) (by decide) (by omega) (by decide) (by decide) (by decide), ⟨by decide, by decide, by omega⟩, by decide, ?_⟩
      refine ⟨⟨by decide, by decide⟩, by omega, ?_⟩
      obtain ⟨r, hr, hlt⟩ := rm ((((r1 : Int) * 48271 + 9929 * ((k + 1 : Nat) : Int)) ^ Int.toNat 3).fmod 2147483587 |>.fdiv 64)
      rw [hr]
      exact q r _ hlt ⟨n, g, m, k + 1, upd_same, hn, hm, hm2, by omega⟩)


def blwD (n : Int) : D → Bool
  | .int i => decide (0 ≤ i) && decide (i < n)
  | _ => false
def spBelow : Sp := fun vs H Q _ => ∃ v d n, vs = [v, .int n] ∧ Dat H v d ∧ Q (.bl (blwD n d)) H
theorem pr_law_is_below {K : PySem.W.Frag} (vs : List V) (H : Hp) (Q : VK) (E : XK) (h : spBelow vs H Q E) : t_law_is_below K (E0N Q) (L2.start ["value", "many"] vs) H := by
  obtain ⟨v, d, n, rfl, ht, q⟩ := h
  unfold t_law_is_below
  walk_at "mt"
  simp only [ht.ty]
  walk_at "mt"
  obtain ⟨F, s, r⟩ := ht
  cases r with
  | int i =>
    walk_at "mt"
    by_cases h1 : 0 ≤ i
    · simp only [h1]
      walk_at "mt"
      simpa [blwD, h1] using q
    · simp only [h1]
      walk_at "mt"
      simpa [blwD, h1] using q
  | bl b =>
    walk_at "mt"
    simpa [blwD] using q
  | _ =>
    walk_at "mt"
    simpa [blwD] using q
end K44
set_option Elab.async false
set_option linter.all false
set_option maxRecDepth 100000
set_option maxHeartbeats 4000000
namespace K44
open PySem PySem.Spec PyProof.Rows L2 MT
open SX (S)
local macro_rules | `(tactic| walk_at "mt") => `(tactic| simp only [L2.start, List.map_cons, List.map_nil, List.length_cons, List.length_nil, List.replicate_succ, List.replicate_zero, Nat.reduceSub, Nat.reduceAdd, Nat.sub_self, Nat.zero_add, List.cons_append, List.nil_append, List.append_nil, List.getElem?_cons_zero, List.getElem?_cons_succ, List.set_cons_zero, List.set_cons_succ, Option.some.injEq, exists_eq_left', exists_eq_left, exists_eq_right, V.bl.injEq, V.int.injEq, V.str.injEq, V.ref.injEq, reduceCtorEq, false_and, and_false, true_and, and_true, false_or, or_false, exists_false, exists_const, ↓reduceIte, Bool.false_eq_true, decide_eq_true_eq, Bool.and_eq_true, Bool.not_true, Bool.not_false, List.cons.injEq, exists_and_left, exists_and_right,
  tRet, rInM, rNeI, rSortM, rIndexM, rRepM, rSetDM, rListDM, rPopAtM, tLstRg, tRg1, tDIn, tBM, tBM0, tAndV, tOrV, tNotV, tAnd, tOr, tNot, tB, tTest, tIf, tIfS, tC, tVar, tOp, tUn, tChain, rI0, rI, rU, tFn, tCons, tNil, tCB, tTup, tLst, tAsg, gName, tNext, tDrop, tRetN, tPar, tPar3, tAug, tReplC, tRevS, rLenM2, rIsBM, tDNotIn, tDGet, rSumM, rMaxM, rMinM, gSub, rSetL, tRaiseO, tFnW, tXf, gTup, gUnl, gCons, gNil, rPopM, rAppendM, rExtendM, rTupM, rListM, ipI, tIs, tIss, rLenM, rIxM, rAddM, rEqM, rNeM, rSignIn, rInt, rAbs, rStrI, tSl, tPart, tNoPart, rSlM, tIsN, tNotN, List.any_cons, List.any_nil, Bool.or_false, tSeq, isa, D.ty, decide_true, decide_false, Bool.true_or, Bool.or_true, Bool.false_or, Bool.and_true, Bool.true_and, Bool.false_and, Bool.and_false, eq_self_iff_true, not_true_eq_false, not_false_eq_true, bne_self_eq_false])
abbrev noH : Hp := fun _ => none
theorem no_same {H : Hp} : Same noH H := fun _ _ e => by cases e
mutual
def depth : D → Nat
  | .tup ds => depths ds + 1
  | .lst ds => depths ds + 1
  | _ => 0
def depths : List D → Nat
  | [] => 0
  | d :: ds => max (depth d) (depths ds)
end
theorem depths_get : ∀ {ds : List D} {k : Nat} {d : D}, ds[k]? = some d → depth d ≤ depths ds
  | [], _, _, h => by simp at h
  | x :: ds, 0, d, h => by simp at h; subst h; unfold depths; omega
  | x :: ds, k + 1, d, h => by
    have := depths_get (ds := ds) (k := k) (d := d) (by simpa using h)
    unfold depths; omega
/-- told and due are the same data -/
def spSame (n : Nat) : Sp := fun vs H Q _ => ∃ v w d, vs = [v, w] ∧ Dat H v d ∧ Dat H w d ∧ (depth d + 1 < n ∨ (d.ty = .int ∧ 0 < n)) ∧ Q (.bl true) H
def y_sq (K : PySem.W.Frag) (sp : Sp) : TS := (tSeq (tIfS (tOr (tNot (tB (tIss [.lst, .tup] (tVar 1)))) (tOr (tNot (tB (tIss [.lst, .tup] (tVar 0)))) (tOr (tTest (tOp rNeM (tIs .lst (tVar 0)) (tIs .lst (tVar 1)))) (tTest (tOp rNeM (tCB rLenM2 (tCons (tVar 0) tNil)) (tCB rLenM2 (tCons (tVar 1) tNil))))))) (tRet (tC (.bl false))) tNext) (tSeq (tFor (iRng1 (tCons (tCB rLenM2 (tCons (tVar 1) tNil)) tNil)) (gName 3) (tIfS (tNot (tB (tFn sp (tCons (tOp rIxM (tVar 0) (tVar 3)) (tCons (tOp rIxM (tVar 1) (tVar 3)) tNil))))) (tRet (tC (.bl false))) tNext)) (tRet (tC (.bl true)))))
theorem same_sq {K : PySem.W.Frag} {sp : Sp} {n : Nat} {H F1 F2 : Hp} {a b : Addr} {xs ys : List V} {ds : List D} {T : Ty} {Q : VK} (hsp : ∀ v w d Q, Dat H v d → Dat H w d → depth d ≤ depths ds → Q (.bl true) H → sp [v, w] H Q E0) (s1 : Same F1 H) (s2' : Same F2 H)
    (ta : tyOf H (.ref a) = some T) (tb : tyOf H (.ref b) = some T) (hT : T = .lst ∨ T = .tup) (la : lenO (H a) = some ds.length) (lb : lenO (H b) = some ds.length) (ea : seqO (H a) = some xs) (eb : seqO (H b) = some ys) (rx : RepL F1 xs ds) (ry : RepL F2 ys ds) (hl : ds.length ≤ BL) (q : Q (.bl true) H) :
    y_sq K sp (E0N Q) [some (.ref a), some (.ref b), none, none] H := by
  unfold y_sq
  have hx := rx.length
  have hy := ry.length
  have BLe : BL = 1000000 := rfl
  generalize hF : (tSeq (tFor _ _ _) _ : TS) = Z
  have hZ : Z (E0N Q) [some (.ref a), some (.ref b), none, none] H := by
    subst hF
    unfold tSeq tFor iRng1
    generalize hB : (tIfS _ _ _ : TS) = B
    walk_at "mt"
    refine ⟨ds.length, lb, by omega, by omega, ?_⟩
    have en : ((ds.length : Nat) : Int).toNat = ds.length := by omega
    rw [en]
    refine for_range (lo := 0) (g := gName 3) (tb := B) (D := { E0N Q with nx := tRet (tC (.bl true)) (E0N Q) }) (fun i σ H2 => ∃ s2 s3, H2 = H ∧ σ = [some (.ref a), some (.ref b), s2, s3]) ⟨_, _, rfl, rfl⟩ (fun i σ H2 hi z => ?_) fun σ H2 z => ?_
    · obtain ⟨s2, s3, rfl, rfl⟩ := z
      have hix : i < xs.length := by omega
      have hiy : i < ys.length := by omega
      have ei : (0 : Int) + (i : Nat) = ((i : Nat) : Int) := by omega
      rw [ei]
      subst hB
      walk_at "mt"
      refine ⟨xs, ea, xs[i], atI_nat (List.getElem?_eq_getElem hix), ys, eb, ys[i], atI_nat (List.getElem?_eq_getElem hiy), ?_⟩
      obtain ⟨d, hd, rv⟩ := rx.get (List.getElem?_eq_getElem hix)
      obtain ⟨d2, hd2, rw2⟩ := ry.get (List.getElem?_eq_getElem hiy)
      rw [hd] at hd2
      cases hd2
      refine hsp _ _ d _ ⟨F1, s1, rv⟩ ⟨F2, s2', rw2⟩ (depths_get hd) ?_
      refine ⟨true, rfl, ?_⟩
      simp only [Bool.not_true, Bool.false_eq_true, ↓reduceIte]
      exact ⟨trivial, _, rfl⟩
    · obtain ⟨s2, s3, rfl, rfl⟩ := z
      exact q
  rcases hT with rfl | rfl
  all_goals (
    walk_at "mt"
    simp only [ta, tb]
    walk_at "mt"
    refine ⟨_, la, _, lb, ?_⟩
    simp only [decide_true, Bool.not_true, Bool.false_eq_true, ↓reduceIte]
    exact hZ)
def y_dc (K : PySem.W.Frag) (sp : Sp) : TS := (tSeq (tIfS (tOr (tNot (tB (tIs .dct (tVar 0)))) (tTest (tOp rNeM (tCB rLenM2 (tCons (tVar 0) tNil)) (tCB rLenM2 (tCons (tVar 1) tNil))))) (tRet (tC (.bl false))) tNext) (tSeq (tLock (tFor (iKeys (tVar 1)) (gName 2) (tIfS (tOr (tB (tDNotIn (tVar 2) (tVar 0))) (tNot (tB (tFn sp (tCons (tDGet (tVar 0) (tVar 2)) (tCons (tDGet (tVar 1) (tVar 2)) tNil)))))) (tRet (tC (.bl false))) tNext))) (tRet (tC (.bl true)))))
theorem upd_back {H : Hp} {d : Addr} {o u : HO} (h : H d = some u) : upd (upd H d o) d u = H := by
  funext b
  by_cases e : b = d
  · rw [e, upd_same, h]
  · rw [upd_ne e, upd_ne e]
theorem same_dc {K : PySem.W.Frag} {sp : Sp} {H : Hp} {a b : Addr} {ds : List (List Nat × Int)} {De : L2.Ends} (hsp : ∀ i H Q, Q (.bl true) H → sp [.int i, .int i] H Q E0)
    (ha : H a = some (.dK (ds.map fun q => (Sum.inr (S q.1), V.int q.2)))) (hb : H b = some (.dK (ds.map fun q => (Sum.inr (S q.1), V.int q.2)))) (hl : ds.length ≤ 1) (q : De.rt (.bl true) H) :
    y_dc K sp De [some (.ref a), some (.ref b), none, none] H := by
  unfold y_dc
  have ta : tyOf H (.ref a) = some .dct := by show tyO (H a) = _; rw [ha]; rfl
  have la : lenO (H a) = some ds.length := by rw [ha]; show some (List.length _) = _; rw [List.length_map]
  have lb : lenO (H b) = some ds.length := by rw [hb]; show some (List.length _) = _; rw [List.length_map]
  generalize hL : (tLock _ : TS) = L
  walk_at "mt"
  simp only [ta]
  walk_at "mt"
  refine ⟨_, la, _, lb, ?_⟩
  simp only [decide_true, Bool.not_true, Bool.false_eq_true, ↓reduceIte]
  subst hL
  unfold tLock
  refine ⟨b, _, hb, trivial, fun od => ?_⟩
  unfold tFor iKeys
  refine ⟨.ref b, rfl, b, od, rfl, .inl ⟨_, upd_same, ?_⟩⟩
  have rd : ∀ x, (x = a ∨ x = b) → Rd (upd H b (.frz od (.dK (ds.map fun q => (Sum.inr (S q.1), V.int q.2))))) x (.dK (ds.map fun q => (Sum.inr (S q.1), V.int q.2))) := by
    intro x hx
    by_cases e : x = b
    · exact .inr ⟨od, by rw [e, upd_same]⟩
    · rcases hx with rfl | rfl
      · exact .inl (by rw [upd_ne e]; exact ha)
      · exact absurd rfl e
  generalize hB : (tIfS _ _ _ : TS) = B
  refine for_it (J := Itk b od _) walk_keys (g := gName 2) (tb := B) (fun i σ H2 => ∃ s2, H2 = upd H b (.frz od (.dK (ds.map fun q => (Sum.inr (S q.1), V.int q.2)))) ∧ σ = [some (.ref a), some (.ref b), s2, none]) ⟨_, rfl, rfl⟩ (fun i σ H2 hi z => ?_) (fun i x σ H2 H3 hi z y => ?_) fun σ H2 z => ?_
  · obtain ⟨s2, rfl, rfl⟩ := z
    exact upd_same
  · obtain ⟨s2, rfl, rfl⟩ := z
    obtain ⟨rfl, k, v, hk, rfl⟩ := y
    subst hB
    obtain ⟨k0, i0, rfl, rfl, rfl⟩ : ∃ k0 i0, ds = [(k0, i0)] ∧ k = Sum.inr (S k0) ∧ v = .int i0 := by
      match ds, hl with
      | [], _ => simp at hk
      | [(k0, i0)], _ =>
        cases i with
        | zero => simp at hk; exact ⟨k0, i0, rfl, hk.1.symm, hk.2.symm⟩
        | succ i => simp at hk
    have gt : ∀ x, (x = a ∨ x = b) → DGet (upd H b (.frz od (.dK ([(k0, i0)].map fun q => (Sum.inr (S q.1), V.int q.2))))) x (.str (S k0)) (some (.int i0)) := fun x hx => .inl ⟨_, Sum.inr (S k0), rd x hx, rfl, by simp [valV]⟩
    unfold gName tIfS tOr tB tDNotIn tNot tFn tCons tNil tDGet tVar
    refine ⟨_, rfl, _, rfl, a, some (.int i0), rfl, gt a (.inl rfl), false, rfl, ?_⟩
    simp only [Bool.false_eq_true, ↓reduceIte]
    refine ⟨_, rfl, _, rfl, a, .int i0, rfl, gt a (.inl rfl), _, rfl, _, rfl, b, .int i0, rfl, gt b (.inr rfl), hsp _ _ _ ⟨true, rfl, ?_⟩⟩
    simp only [Bool.not_true, Bool.false_eq_true, ↓reduceIte]
    exact ⟨_, rfl, rfl⟩
  · obtain ⟨s2, rfl, rfl⟩ := z
    refine ⟨upd_same, ?_⟩
    rw [upd_back hb]
    exact q
theorem pr_law_same {K : PySem.W.Frag} {sp : Sp} {n : Nat} (hsp : ∀ m, n = m + 1 → ∀ vs H Q E, spSame m vs H Q E → sp vs H Q E) (vs : List V) (H : Hp) (Q : VK) (E : XK) (h : spSame n vs H Q E) : t_law_same K sp (E0N Q) (L2.start ["told", "due", "key", "k"] vs) H := by
  obtain ⟨v, w, d, rfl, hv, hw, hd, q⟩ := h
  obtain ⟨m, rfl⟩ : ∃ m, n = m + 1 := ⟨n - 1, by omega⟩
  have tv := hv.ty
  have tw := hw.ty
  have dc := @same_dc K sp
  have sq := @same_sq K sp
  unfold y_dc at dc
  unfold y_sq at sq
  unfold t_law_same
  revert dc sq
  generalize (tSeq (tIfS _ _ _) (tSeq (tFor _ _ _) _) : TS) = SQ
  generalize (tSeq (tIfS _ _ _) (tSeq (tLock _) _) : TS) = DC
  intro dc sq
  obtain ⟨F1, s1, r1⟩ := hv
  obtain ⟨F2, s2, r2⟩ := hw
  walk_at "mt"
  have int_ok : ∀ i H Q, 0 < m → Q (.bl true) H → sp [.int i, .int i] H Q E0 := fun i H Q hm q => hsp m rfl _ _ _ _ ⟨_, _, .int i, rfl, ⟨noH, no_same, .int i⟩, ⟨noH, no_same, .int i⟩, .inr ⟨rfl, hm⟩, q⟩
  cases r1 with
  | non =>
    cases r2
    walk_at "mt"
    simpa using q
  | bl b =>
    cases r2
    simp only [tv]
    walk_at "mt"
    cases b
    · simpa using q
    · simpa using q
  | int i =>
    cases r2
    simp only [tv]
    walk_at "mt"
    simpa using q
  | @str l hl =>
    cases r2
    simp only [tv]
    walk_at "mt"
    simpa using q
  | @lst a xs ds e1 rx hl =>
    cases r2 with
    | @lst b ys _ e2 ry _ =>
      simp only [tv, tw]
      walk_at "mt"
      have ea := s1 _ _ e1
      have eb := s2 _ _ e2
      have hds : depths ds + 1 < m := by
        rcases hd with hd | ⟨hd, _⟩
        · simp only [depth] at hd; omega
        · cases hd
      exact sq (n := 0) (fun v w d Q h1 h2 h3 q => hsp m rfl _ _ _ _ ⟨v, w, d, rfl, h1, h2, .inl (by omega), q⟩) s1 s2 tv tw (.inl rfl) (by rw [ea, ← rx.length]; rfl) (by rw [eb, ← ry.length]; rfl) (by rw [ea]; rfl) (by rw [eb]; rfl) rx ry hl q
  | @tup a xs ds e1 rx hl =>
    cases r2 with
    | @tup b ys _ e2 ry _ =>
      simp only [tv, tw]
      walk_at "mt"
      have ea := s1 _ _ e1
      have eb := s2 _ _ e2
      have hds : depths ds + 1 < m := by
        rcases hd with hd | ⟨hd, _⟩
        · simp only [depth] at hd; omega
        · cases hd
      exact sq (n := 0) (fun v w d Q h1 h2 h3 q => hsp m rfl _ _ _ _ ⟨v, w, d, rfl, h1, h2, .inl (by omega), q⟩) s1 s2 tv tw (.inr rfl) (by rw [ea, ← rx.length]; rfl) (by rw [eb, ← ry.length]; rfl) (by rw [ea]; rfl) (by rw [eb]; rfl) rx ry hl q
  | @dct a ds hl e1 =>
    cases r2 with
    | @dct b _ _ e2 =>
      simp only [tv, tw]
      walk_at "mt"
      have hm : 0 < m := by
        rcases hd with hd | ⟨hd, _⟩
        · simp only [depth] at hd; omega
        · cases hd
      exact dc (fun i H Q q => int_ok i H Q hm q) (s1 _ _ e1) (s2 _ _ e2) hl q
end K44
set_option Elab.async false
set_option linter.all false
set_option maxRecDepth 100000
set_option maxHeartbeats 4000000
namespace K44
open PySem PySem.Spec PyProof.Rows L2 MT
open SX (S)
local macro_rules | `(tactic| walk_at "mt") => `(tactic| simp only [L2.start, List.map_cons, List.map_nil, List.length_cons, List.length_nil, List.replicate_succ, List.replicate_zero, Nat.reduceSub, Nat.reduceAdd, Nat.sub_self, Nat.zero_add, List.cons_append, List.nil_append, List.append_nil, List.getElem?_cons_zero, List.getElem?_cons_succ, List.set_cons_zero, List.set_cons_succ, Option.some.injEq, exists_eq_left', exists_eq_left, exists_eq_right, V.bl.injEq, V.int.injEq, V.str.injEq, V.ref.injEq, reduceCtorEq, false_and, and_false, true_and, and_true, false_or, or_false, exists_false, exists_const, ↓reduceIte, Bool.false_eq_true, decide_eq_true_eq, Bool.and_eq_true, Bool.not_true, Bool.not_false, List.cons.injEq, exists_and_left, exists_and_right,
  tRet, rInM, rNeI, rSortM, rIndexM, rRepM, rSetDM, rListDM, rPopAtM, tLstRg, tRg1, tDIn, tBM, tBM0, tAndV, tOrV, tNotV, tAnd, tOr, tNot, tB, tTest, tIf, tIfS, tC, tVar, tOp, tUn, tChain, rI0, rI, rU, tFn, tCons, tNil, tCB, tTup, tLst, tAsg, gName, tNext, tDrop, tRetN, tPar, tPar3, tAug, tReplC, tRevS, rLenM2, rIsBM, tDNotIn, tDGet, rSumM, rMaxM, rMinM, gSub, rSetL, tRaiseO, tFnW, tXf, gTup, gUnl, gCons, gNil, rPopM, rAppendM, rExtendM, rTupM, rListM, ipI, tIs, tIss, rLenM, rIxM, rAddM, rEqM, rNeM, rSignIn, rInt, rAbs, rStrI, tSl, tPart, tNoPart, rSlM, tIsN, tNotN, List.any_cons, List.any_nil, Bool.or_false, tSeq, isa, D.ty, decide_true, decide_false, Bool.true_or, Bool.or_true, Bool.false_or, Bool.and_true, Bool.true_and, Bool.false_and, Bool.and_false, eq_self_iff_true, not_true_eq_false, not_false_eq_true, bne_self_eq_false])
def y_shared (K : PySem.W.Frag) : TE := tLc (iSq K (tOp rIxM (tOp rIxM (tVar 0) (tVar 7)) (tC (.int 2)))) (gName 9) (tB (tEqNil true (tLc (iSq K (tVar 3)) (gName 10) (tAnd (tTest (tOp rNeM (tVar 10) (tVar 7))) (tTest (tOp (rInM false) (tVar 9) (tOp rIxM (tOp rIxM (tVar 0) (tVar 10)) (tC (.int 2)))))) (tVar 10) [10]))) (tVar 9) [9]
def y_out (K : PySem.W.Frag) : TE := tLc (iSq K (tVar 8)) (gName 9) (tTest (tOp (rInM true) (tVar 9) (tOp rIxM (tOp rIxM (tVar 0) (tVar 10)) (tC (.int 2))))) (tVar 9) [9]
def y_pick (K : PySem.W.Frag) : TS := tFor (iSq K (tVar 3)) (gName 10) (tIfS (tAnd (tB (tIsN (tVar 6))) (tAnd (tTest (tOp rNeM (tVar 10) (tVar 7))) (tAnd (tTest (tOp (rInM true) (tVar 7) (tVar 2))) (tB (tEqNil false (y_out K)))))) (tAsg (tTup (tCons (tVar 7) (tCons (tVar 10) tNil))) (gName 6)) tNext)
def y_search (K : PySem.W.Frag) : TS := tFor (iSq K (tVar 3)) (gName 7) (tSeq (tAsg (y_shared K) (gName 8)) (y_pick K))
theorem emp_filter {α : Type} (p : α → Bool) (l : List α) : (l.filter p).isEmpty = !l.any p := by
  induction l with
  | nil => rfl
  | cons a l ih =>
    by_cases h : p a = true
    · rw [List.filter_cons_of_pos h]; simp [h]
    · rw [List.filter_cons_of_neg h, ih]; simp [h]
theorem emp_map {α β : Type} (f : α → β) (l : List α) : (l.map f).isEmpty = l.isEmpty := by cases l <;> rfl
theorem oth_mem {A : List (List Int)} {left : List Int} {i x : Int} : (left.any fun o => !decide (o = i) && decide (x ∈ vat A o)) = decide (x ∈ oth A left i) := by
  rw [Bool.eq_iff_iff, List.any_eq_true, decide_eq_true_eq]
  unfold oth
  rw [List.mem_flatMap]
  constructor
  · rintro ⟨o, h1, h2⟩
    rw [Bool.and_eq_true, decide_eq_true_eq] at h2
    exact ⟨o, List.mem_filter.mpr ⟨h1, h2.1⟩, h2.2⟩
  · rintro ⟨o, h1, h2⟩
    have h3 := List.mem_filter.mp h1
    exact ⟨o, h3.1, by rw [Bool.and_eq_true, decide_eq_true_eq]; exact ⟨h3.2, h2⟩⟩
section
variable {K : PySem.W.Frag} {H : Hp} {a l t : Addr} {ov kv : V} {A : List (List Int)} {left kept : List Int} {x5 x6 x7 x8 x9 x10 : Option V}
theorem lo_shared {i : Int} {Q : VK} (hA : Ats H a A) (hl : H l = some (.lst (left.map V.int))) (hr : InR A left) (hz : left.length ≤ 1000) (hi : i ∈ left) (q : ∀ D H1, H D = none → Same H H1 → H1 D = some (.lst ((shd A left i).map V.int)) → Q (.ref D) H1) :
    y_shared K [some (.ref a), some ov, some kv, some (.ref l), some (.ref t), x5, x6, some (.int i), x8, x9, x10] H Q := by
  obtain ⟨u, eu, su⟩ := src_vars (i := 0) (j := 7) (σ := [some (.ref a), some ov, some kv, some (.ref l), some (.ref t), x5, x6, some (.int i), x8, x9, x10]) hA (hr i hi).1 (hr i hi).2 rfl rfl
  have h3 := vat_len hA i
  unfold y_shared
  refine lc_v (xs := (vat A i).map V.int) (srcSq su (by rw [eu]; rfl) (by rw [List.length_map]; exact big1 (by omega))) (by simp) (fun x => decide (iv x ∈ oth A left i)) (fun x => V.int (iv x)) (by rw [List.length_map]; exact big1 (by omega)) (fun v H1 K' hv s1 kk => ?_) (fun v H1 K' hv _ s1 kk => ?_) fun D H1 hD s1 e1 => q D H1 hD s1 (by rw [e1, filter_int (fun n => decide (n ∈ oth A left i)), map_id]; rfl)
  · obtain ⟨x, rfl, hx⟩ := int_of_mem hv
    unfold tB tEqNil
    refine lc_v (xs := left.map V.int) (srcSq (a := l) (src_var rfl) (by rw [s1 _ _ hl]; rfl) (by rw [List.length_map]; exact big1 (by omega))) (by simp) (fun o => !decide (iv o = i) && decide (x ∈ vat A (iv o))) (fun o => V.int (iv o)) (by rw [List.length_map]; exact big1 (by omega)) (fun w H2 K2 hw s2 k2 => ?_) (fun w H2 K2 hw _ s2 k2 => ?_) fun D2 H2 _ s2 e2 => ?_
    · obtain ⟨o, rfl, ho⟩ := int_of_mem hw
      unfold tAnd tTest tOp
      refine ⟨_, rfl, _, rfl, _, rfl, ?_⟩
      show (if (!decide (o = i)) = true then _ else _)
      by_cases h1 : o = i
      · rw [if_neg (by simp [h1])]
        have e : (!decide (o = i) && decide (x ∈ vat A o)) = false := by simp [h1]
        have k3 : K2 (!decide (o = i) && decide (x ∈ vat A o)) H2 := k2 H2 (.refl _)
        rw [e] at k3
        exact k3
      · rw [if_pos (by simp [h1])]
        obtain ⟨u2, eu2, su2⟩ := src_vars (i := 0) (j := 10) (σ := [some (.ref a), some ov, some kv, some (.ref l), some (.ref t), x5, x6, some (.int i), x8, some (.int x), some (.int o)]) (hA.mono (s1.trans s2)) (hr o ho).1 (hr o ho).2 rfl rfl
        refine ⟨_, rfl, su2 _ ⟨_, by rw [eu2]; rfl, rfl, flat_ints _, ?_⟩⟩
        rw [inV_int]
        refine ⟨_, rfl, ?_⟩
        have e : (!decide (o = i) && decide (x ∈ vat A o)) = decide (x ∈ vat A o) := by simp [h1]
        have k3 : K2 (!decide (o = i) && decide (x ∈ vat A o)) H2 := k2 H2 (.refl _)
        rw [e] at k3
        exact k3
    · obtain ⟨o, rfl, ho⟩ := int_of_mem hw
      exact ⟨_, rfl, k2 H2 (.refl _)⟩
    · refine ⟨D2, _, rfl, e2, _, rfl, ?_⟩
      have e3 : (((left.map V.int).filter fun o => !decide (iv o = i) && decide (x ∈ vat A (iv o))).map fun o => V.int (iv o)).isEmpty = !decide (x ∈ oth A left i) := by
        rw [emp_map, filter_int (fun o => !decide (o = i) && decide (x ∈ vat A o)), emp_map, emp_filter, oth_mem]
      rw [e3]
      show K' (!!decide (x ∈ oth A left i)) H2
      rw [Bool.not_not]
      exact kk H2 s2
  · obtain ⟨x, rfl, hx⟩ := int_of_mem hv
    exact ⟨_, rfl, kk H1 (.refl _)⟩
theorem lo_pick {i : Int} {sh : Addr} {pv : V} {r : Option (Int × Int)} {D : Ends} (hA : Ats H a A) (hl : H l = some (.lst (left.map V.int))) (hr : InR A left) (hz : left.length ≤ 1000) (hk : Kept H kv kept) (hsh : H sh = some (.lst ((shd A left i).map V.int))) (hp : Told H pv r)
    (q : ∀ pv' x9 x10 H2, Same H H2 → Told H2 pv' (r.or (left.findSome? fun o => if fits A left kept i o = true then some (i, o) else none)) → D.nx [some (.ref a), some ov, some kv, some (.ref l), some (.ref t), x5, some pv', some (.int i), some (.ref sh), x9, x10] H2) :
    y_pick K D [some (.ref a), some ov, some kv, some (.ref l), some (.ref t), x5, some pv, some (.int i), some (.ref sh), x9, x10] H := by
  have sl : (shd A left i).length ≤ 3 := Nat.le_trans (List.length_filter_le _ _) (vat_len hA i)
  unfold y_pick
  refine for_v (xs := left.map V.int) (srcSq (a := l) (src_var rfl) (by rw [hl]; rfl) (by rw [List.length_map]; exact big1 (by omega)))
    (fun m σ' H' => ∃ pv' x9 x10, σ' = [some (.ref a), some ov, some kv, some (.ref l), some (.ref t), x5, some pv', some (.int i), some (.ref sh), x9, x10] ∧ Same H H' ∧ Told H' pv' (r.or ((left.take m).findSome? fun o => if fits A left kept i o = true then some (i, o) else none)))
    ⟨_, _, _, rfl, .refl _, by simpa using hp⟩ (fun m σ' H' ⟨_, _, _, _, s, _⟩ => s) (fun m σ' H' hm ⟨pv', y9, y10, es, s, tp⟩ => ?_) fun σ' H' ⟨pv', y9, y10, es, s, tp⟩ => ?_
  · subst es
    rw [List.length_map] at hm
    rw [int_at hm]
    generalize ho : left.getD m 0 = o
    have hol : o ∈ left := by rw [← ho, List.getD_eq_getElem?_getD, List.getElem?_eq_getElem hm]; exact List.getElem_mem hm
    have et : left.take (m + 1) = left.take m ++ [o] := by rw [← ho, List.take_succ, List.getD_eq_getElem?_getD, List.getElem?_eq_getElem hm]; rfl
    have stay : ∀ H3 y9 y10, Same H' H3 → (r.or ((left.take m).findSome? fun o => if fits A left kept i o = true then some (i, o) else none) ≠ none ∨ fits A left kept i o = false) → ∃ pv'' x9 x10, ([some (.ref a), some ov, some kv, some (.ref l), some (.ref t), x5, some pv', some (.int i), some (.ref sh), y9, y10] : L2.St) = [some (.ref a), some ov, some kv, some (.ref l), some (.ref t), x5, some pv'', some (.int i), some (.ref sh), x9, x10] ∧ Same H H3 ∧ Told H3 pv'' (r.or ((left.take (m + 1)).findSome? fun o => if fits A left kept i o = true then some (i, o) else none)) := fun H3 y9 y10 s3 hc => by
      refine ⟨pv', y9, y10, rfl, s.trans s3, ?_⟩
      have e2 : r.or ((left.take (m + 1)).findSome? fun o => if fits A left kept i o = true then some (i, o) else none) = r.or ((left.take m).findSome? fun o => if fits A left kept i o = true then some (i, o) else none) := by
        rw [et, List.findSome?_append]
        cases hr1 : r with
        | some z => rfl
        | none =>
          show ((left.take m).findSome? _).or _ = (left.take m).findSome? _
          cases hf : (left.take m).findSome? fun o => if fits A left kept i o = true then some (i, o) else none with
          | some z => rfl
          | none =>
            rcases hc with hc | hc
            · rw [hr1, hf] at hc; exact absurd rfl hc
            · simp [hc]
      rw [e2]
      revert tp
      cases r.or ((left.take m).findSome? fun o => if fits A left kept i o = true then some (i, o) else none) with
      | none => exact fun z => z
      | some z => exact fun w => pairAt_mono w s3
    dsimp only [List.set_cons_zero, List.set_cons_succ]
    generalize hz0 : r.or ((left.take m).findSome? fun o => if fits A left kept i o = true then some (i, o) else none) = z0 at stay tp
    cases z0 with
    | some z =>
      obtain ⟨w, rfl, ew⟩ := tp
      walk_at "mt"
      have := stay H' y9 (some (.int o)) (.refl _) (.inl (by simp))
      simpa using this
    | none =>
      obtain rfl : pv' = .non := tp
      unfold y_out
      walk_at "mt"
      have none_ : ∀ H3 y9, Same H' H3 → fits A left kept i o = false → ∃ pv', (V.non = pv' ∧ ∃ x, some (V.int o) = x) ∧ Same H H3 ∧ Told H3 pv' (r.or ((left.take (m + 1)).findSome? fun o => if fits A left kept i o = true then some (i, o) else none)) := fun H3 y9 s3 hf => by
        obtain ⟨pv'', z9, z10, e, s4, tp⟩ := stay H3 y9 (some (.int o)) s3 (.inr hf)
        refine ⟨pv'', ⟨?_, _, rfl⟩, s4, tp⟩
        simp only [List.cons.injEq, Option.some.injEq] at e
        exact e.2.2.2.2.2.2.1
      have h0 : r = none ∧ (left.take m).findSome? (fun o => if fits A left kept i o = true then some (i, o) else none) = none := Option.or_eq_none_iff.mp hz0
      by_cases h1 : o = i
      · rw [if_neg (by simp [h1])]
        have := none_ H' y9 (.refl _) (by simp [fits, h1])
        simpa using this
      · rw [if_pos (by simp [h1])]
        obtain ⟨b, rfl, hb⟩ := hk
        refine ⟨_, seq_mono hb s, rfl, flat_ints _, ?_⟩
        rw [inV_int]
        by_cases h2 : i ∈ kept
        · rw [if_neg (by simp [h2])]
          have := none_ H' y9 (.refl _) (by simp [fits, h2])
          simpa using this
        · rw [if_pos (by simp [h2])]
          have eq2 : H' sh = some (.lst ((shd A left i).map V.int)) := s _ _ hsh
          have fe : fits A left kept i o = (shd A left i).all fun x => decide (x ∈ vat A o) := by simp [fits, h1, h2]
          unfold tEqNil
          refine lc_v (xs := (shd A left i).map V.int) (srcSq (a := sh) (src_var rfl) (by rw [eq2]; rfl) (by rw [List.length_map]; exact big1 (by omega))) (by simp) (fun x => !decide (iv x ∈ vat A o)) (fun x => V.int (iv x)) (by rw [List.length_map]; exact big1 (by omega)) (fun v H3 K' hv s3 kk => ?_) (fun v H3 K' hv _ s3 kk => ?_) fun D3 H3 _ s3 e3 => ?_
          · obtain ⟨x, rfl, hx⟩ := int_of_mem hv
            obtain ⟨u2, eu2, su2⟩ := src_vars (i := 0) (j := 10) (σ := [some (.ref a), some ov, some (.ref b), some (.ref l), some (.ref t), x5, some .non, some (.int i), some (.ref sh), some (.int x), some (.int o)]) (hA.mono (s.trans s3)) (hr o hol).1 (hr o hol).2 rfl rfl
            refine ⟨_, rfl, su2 _ ⟨_, by rw [eu2]; rfl, rfl, flat_ints _, ?_⟩⟩
            rw [inV_int]
            exact ⟨_, rfl, kk H3 (.refl _)⟩
          · obtain ⟨x, rfl, hx⟩ := int_of_mem hv
            exact ⟨_, rfl, kk H3 (.refl _)⟩
          · have e4 : ((((shd A left i).map V.int).filter fun x => !decide (iv x ∈ vat A o)).map fun x => V.int (iv x)).isEmpty = fits A left kept i o := by
              rw [emp_map, filter_int (fun x => !decide (x ∈ vat A o)), emp_map, emp_filter, fe, Bool.eq_iff_iff, Bool.not_eq_true', List.any_eq_false, List.all_eq_true]
              constructor
              · intro h x hx
                have := h x hx
                simpa using this
              · intro h x hx
                have := h x hx
                simpa using this
            refine ⟨D3, _, rfl, e3, _, rfl, ?_⟩
            simp only [Bool.false_eq_true, ↓reduceIte]
            rw [e4]
            cases hf : fits A left kept i o with
            | false =>
              rw [if_neg (by decide)]
              have := none_ H3 y9 s3 hf
              simpa using this
            | true =>
              rw [if_pos rfl]
              refine ⟨by decide +kernel, fun p hp => ⟨_, ⟨rfl, _, rfl⟩, s.trans (s3.trans (same_upd hp)), ?_⟩⟩
              rw [h0.1, et, List.findSome?_append, h0.2]
              show Told _ _ ([o].findSome? fun o => if fits A left kept i o = true then some (i, o) else none)
              simp only [List.findSome?_cons, hf, ↓reduceIte]
              exact ⟨p, rfl, upd_same⟩
  · subst es
    rw [List.length_map, List.take_length] at tp
    exact q pv' _ _ H' s tp
end
end K44
set_option Elab.async false
set_option linter.all false
set_option maxRecDepth 100000
set_option maxHeartbeats 4000000
namespace K44
open PySem PySem.Spec PyProof.Rows L2 MT
open SX (S)
local macro_rules | `(tactic| walk_at "mt") => `(tactic| simp only [L2.start, List.map_cons, List.map_nil, List.length_cons, List.length_nil, List.replicate_succ, List.replicate_zero, Nat.reduceSub, Nat.reduceAdd, Nat.sub_self, Nat.zero_add, List.cons_append, List.nil_append, List.append_nil, List.getElem?_cons_zero, List.getElem?_cons_succ, List.set_cons_zero, List.set_cons_succ, Option.some.injEq, exists_eq_left', exists_eq_left, exists_eq_right, V.bl.injEq, V.int.injEq, V.str.injEq, V.ref.injEq, reduceCtorEq, false_and, and_false, true_and, and_true, false_or, or_false, exists_false, exists_const, ↓reduceIte, Bool.false_eq_true, decide_eq_true_eq, Bool.and_eq_true, Bool.not_true, Bool.not_false, List.cons.injEq, exists_and_left, exists_and_right,
  tRet, rInM, rNeI, rSortM, rIndexM, rRepM, rSetDM, rListDM, rPopAtM, tLstRg, tRg1, tDIn, tBM, tBM0, tAndV, tOrV, tNotV, tAnd, tOr, tNot, tB, tTest, tIf, tIfS, tC, tVar, tOp, tUn, tChain, rI0, rI, rU, tFn, tCons, tNil, tCB, tTup, tLst, tAsg, gName, tNext, tDrop, tRetN, tPar, tPar3, tAug, tReplC, tRevS, rLenM2, rIsBM, tDNotIn, tDGet, rSumM, rMaxM, rMinM, gSub, rSetL, tRaiseO, tFnW, tXf, gTup, gUnl, gCons, gNil, rPopM, rAppendM, rExtendM, rTupM, rListM, ipI, tIs, tIss, rLenM, rIxM, rAddM, rEqM, rNeM, rSignIn, rInt, rAbs, rStrI, tSl, tPart, tNoPart, rSlM, tIsN, tNotN, List.any_cons, List.any_nil, Bool.or_false, tSeq, isa, D.ty, decide_true, decide_false, Bool.true_or, Bool.or_true, Bool.false_or, Bool.and_true, Bool.true_and, Bool.false_and, Bool.and_false, eq_self_iff_true, not_true_eq_false, not_false_eq_true, bne_self_eq_false])
section
variable {K : PySem.W.Frag} {H : Hp} {a l t : Addr} {ov kv : V} {A : List (List Int)} {left kept : List Int} {x5 x6 x7 x8 x9 x10 : Option V}
theorem told_mono {H H' : Hp} {pv : V} {r : Option (Int × Int)} (h : Told H pv r) (s : Same H H') : Told H' pv r := by
  cases r with
  | none => exact h
  | some z => exact pairAt_mono h s
theorem lo_search {D : Ends} (hA : Ats H a A) (hl : H l = some (.lst (left.map V.int))) (hr : InR A left) (hz : left.length ≤ 1000) (hk : Kept H kv kept)
    (q : ∀ pv' x7 x8 x9 x10 H2, Same H H2 → Told H2 pv' (nextOut A left kept) → D.nx [some (.ref a), some ov, some kv, some (.ref l), some (.ref t), x5, some pv', x7, x8, x9, x10] H2) :
    y_search K D [some (.ref a), some ov, some kv, some (.ref l), some (.ref t), x5, some .non, x7, x8, x9, x10] H := by
  unfold y_search
  refine for_v (xs := left.map V.int) (srcSq (a := l) (src_var rfl) (by rw [hl]; rfl) (by rw [List.length_map]; exact big1 (by omega)))
    (fun k σ' H' => ∃ pv' x7 x8 x9 x10, σ' = [some (.ref a), some ov, some kv, some (.ref l), some (.ref t), x5, some pv', x7, x8, x9, x10] ∧ Same H H' ∧ Told H' pv' ((left.take k).findSome? fun i => left.findSome? fun o => if fits A left kept i o = true then some (i, o) else none))
    ⟨_, _, _, _, _, rfl, .refl _, rfl⟩ (fun m σ' H' ⟨_, _, _, _, _, _, s, _⟩ => s) (fun k σ' H' hkk ⟨pv', y7, y8, y9, y10, es, s, tp⟩ => ?_) fun σ' H' ⟨pv', y7, y8, y9, y10, es, s, tp⟩ => ?_
  · subst es
    rw [List.length_map] at hkk
    rw [int_at hkk]
    generalize hi : left.getD k 0 = i
    have hil : i ∈ left := by rw [← hi, List.getD_eq_getElem?_getD, List.getElem?_eq_getElem hkk]; exact List.getElem_mem hkk
    have et : left.take (k + 1) = left.take k ++ [i] := by rw [← hi, List.take_succ, List.getD_eq_getElem?_getD, List.getElem?_eq_getElem hkk]; rfl
    dsimp only [List.set_cons_zero, List.set_cons_succ]
    unfold tSeq tAsg
    refine lo_shared (hA.mono s) (s _ _ hl) hr hz hil fun D1 H1 hD1 s1 e1 => ?_
    refine lo_pick (hA.mono (s.trans s1)) ((s.trans s1) _ _ hl) hr hz (hk.mono (s.trans s1)) e1 (told_mono tp s1) fun pv2 z9 z10 H2 s2 tp2 => ?_
    refine ⟨pv2, _, _, _, _, rfl, (s.trans s1).trans s2, ?_⟩
    rw [et, List.findSome?_append]
    have e5 : [i].findSome? (fun i => left.findSome? fun o => if fits A left kept i o = true then some (i, o) else none) = left.findSome? fun o => if fits A left kept i o = true then some (i, o) else none := by
      rw [List.findSome?_cons]
      cases left.findSome? fun o => if fits A left kept i o = true then some (i, o) else none <;> rfl
    rw [e5]
    exact tp2
  · subst es
    rw [List.length_map, List.take_length] at tp
    exact q pv' _ _ _ _ H' s tp
end
def spLeftOut : Sp := fun vs H Q _ => ∃ a ov kv A order kept, vs = [.ref a, ov, kv] ∧ Ats H a A ∧ Kept H ov order ∧ InR A order ∧ order.length ≤ 100 ∧ Kept H kv kept ∧
  ∀ (p t l : Addr) (ws : List V) (ts : List (Int × Int)) (ms : List Int) (H' : Hp), ts.Perm (strike A kept order.length order).1 → ts.Pairwise lexLe → ms.Perm (strike A kept order.length order).2 → ms.Pairwise (· ≤ ·) → Same H H' → H t = none → H l = none → H' p = some (.tup [.ref t, .ref l]) → H' t = some (.lst ws) → PairsAt H' ws ts → H' l = some (.lst (ms.map V.int)) → Q (.ref p) H'
theorem pr_law_left_out {K : PySem.W.Frag} (vs : List V) (H : Hp) (Q : VK) (E : XK) (h : spLeftOut vs H Q E) : t_law_left_out K (E0N Q) (L2.start ["atoms", "order", "kept", "left", "links", "turn", "pair", "index", "shared", "x", "other"] vs) H := by
  obtain ⟨a, ov, kv, A, order, kept, rfl, hA, ho, hr, hn, hk, q⟩ := h
  obtain ⟨b, rfl, hb⟩ := ho
  unfold t_law_left_out
  generalize hR : (tRet (tTup _) : TS) = R
  generalize hB : (tFor (iRng1 _) (gName 5) _ : TS) = B
  walk_at "mt"
  refine ⟨order.map V.int, hb, fun l hl => ⟨Nat.zero_le _, fun t ht => ⟨by decide +kernel, fun u hu => ?_⟩⟩⟩
  refine ⟨[.ref l, .ref t], .of upd_same, rfl, _, _, rfl, _, _, rfl, rfl, ?_⟩
  have hlt : l ≠ t := fun z => by rw [← z, upd_same] at ht; cases ht
  have ht0 : H t = none := by rw [upd_ne (Ne.symm hlt)] at ht; exact ht
  have s0 : Same H _ := ((same_upd hl).trans (same_upd ht)).trans (same_upd (o := .tup [.ref l, .ref t]) hu)
  have el : (upd (upd (upd H l (.lst (order.map V.int))) t (.lst [])) u (.tup [.ref l, .ref t])) l = some (.lst (order.map V.int)) := same_upd hu _ _ (same_upd ht _ _ upd_same)
  have et : (upd (upd (upd H l (.lst (order.map V.int))) t (.lst [])) u (.tup [.ref l, .ref t])) t = some (.lst []) := same_upd hu _ _ upd_same
  generalize upd (upd (upd H l (.lst (order.map V.int))) t (.lst [])) u (.tup [.ref l, .ref t]) = H0 at s0 el et ⊢
  subst hB
  have hb0 := seq_mono hb s0
  have e0 : (order.map V.int).length = order.length := List.length_map ..
  refine for_rng (n := order.length) (by omega) (by rw [← e0]; exact src_len rfl hb0)
    (fun k σ' H' => ∃ l left tr ps x5 x6 x7 x8 x9 x10, σ' = [some (.ref a), some (.ref b), some kv, some (.ref l), some (.ref t), x5, x6, x7, x8, x9, x10] ∧ SmD t H H' ∧ H l = none ∧ l ≠ t ∧ H' l = some (.lst (left.map V.int)) ∧ H' t = some (.lst ps) ∧ PairsAt H' ps tr ∧ InR A left ∧ left.length ≤ order.length ∧ tr.length ≤ k ∧
      (tr ++ (strike A kept (order.length - k) left).1, (strike A kept (order.length - k) left).2) = strike A kept order.length order)
    ⟨l, order, [], [], _, _, _, _, _, _, rfl, .of s0, hl, hlt, el, et, ⟨rfl, by simp⟩, hr, Nat.le_refl _, Nat.zero_le _, rfl⟩
    (fun k σ' H' hkk ⟨l, left, tr, ps, x5, x6, x7, x8, x9, x10, es, s, hl, hlt, el, et, hps, hr, hz, hz2, hst⟩ => ?_)
    fun σ' H' ⟨l, left, tr, ps, x5, x6, x7, x8, x9, x10, es, s, hl, hlt, el, et, hps, hr, hz, hz2, hst⟩ => ?_
  · subst es
    have sH : Same H H' := s.same ht0
    dsimp only [List.set_cons_zero, List.set_cons_succ]
    unfold tSeq tAsg tC
    show y_search K _ [some (.ref a), some (.ref b), some kv, some (.ref l), some (.ref t), some (.int k), some .non, x7, x8, x9, x10] H'
    refine lo_search (hA.mono sH) el hr (by omega) (hk.mono sH) fun pv y7 y8 y9 y10 H2 s2 tp => ?_
    have ek : order.length - k = (order.length - (k + 1)) + 1 := by omega
    rw [ek] at hst
    cases hno : nextOut A left kept with
    | none =>
      rw [hno] at tp
      obtain rfl : pv = .non := tp
      have e1 : ∀ f, strike A kept f left = ([], left) := fun f => by cases f with
        | zero => rfl
        | succ f => simp only [strike, hno]
      rw [e1] at hst
      walk_at "mt"
      exact ⟨l, ⟨rfl, _, rfl⟩, s.trans (.of s2), hl, hlt, left, s2 _ _ el, tr, ps, s2 _ _ et, hps.mono s2, hr, hz, by omega, by rw [e1]; exact hst⟩
    | some io =>
      obtain ⟨i, o⟩ := io
      rw [hno] at tp
      obtain ⟨c, rfl, ec⟩ := tp
      walk_at "mt"
      obtain ⟨hil, hol, hf⟩ := nextOut_in hno
      simp only [strike, hno] at hst
      have et2 := s2 _ _ et
      refine ⟨tyL et2, ps, et2, big1 (by have := hps.1; omega), ?_⟩
      have nct : c ≠ t := fun z => by rw [z, et2] at ec; cases ec
      have et3 : (upd H2 t (.lst (ps ++ [.ref c]))) t = some (.lst (ps ++ [.ref c])) := upd_same
      have el3 : (upd H2 t (.lst (ps ++ [.ref c]))) l = some (.lst (left.map V.int)) := by rw [upd_ne hlt]; exact s2 _ _ el
      have ec3 : (upd H2 t (.lst (ps ++ [.ref c]))) c = some (.tup [.int i, .int o]) := by rw [upd_ne nct]; exact ec
      have s3 : SmD t H (upd H2 t (.lst (ps ++ [.ref c]))) := (s.trans (.of s2)).trans .upd
      have p3 : PairsAt (upd H2 t (.lst (ps ++ [.ref c]))) (ps ++ [.ref c]) (tr ++ [(i, o)]) := ((hps.mono s2).monoD et2 .upd).snoc ⟨c, rfl, ec3⟩
      generalize upd H2 t (.lst (ps ++ [.ref c])) = H3 at et3 el3 ec3 s3 p3 ⊢
      refine lc_v (xs := left.map V.int) (srcSq (a := l) (src_var rfl) (by rw [el3]; rfl) (by rw [List.length_map]; exact big1 (by omega))) (by simp) (fun x => !decide (iv x = i)) (fun x => V.int (iv x)) (by rw [List.length_map]; exact big1 (by omega)) (fun x H4 K' hx s4 kk => ?_) (fun x H4 K' hx _ s4 kk => ?_) fun D1 H4 hD s4 e4 => ?_
      · obtain ⟨n, rfl, _⟩ := int_of_mem hx
        refine ⟨_, rfl, src_ix (v := .int i) (src_var rfl) (by rw [s4 _ _ ec3]; rfl) rfl _ ⟨_, rfl, kk H4 (.refl _)⟩⟩
      · obtain ⟨n, rfl, _⟩ := int_of_mem hx
        exact ⟨_, rfl, kk H4 (.refl _)⟩
      · rw [filter_int (fun n => !decide (n = i)), map_id] at e4
        have nDt : D1 ≠ t := fun z => by rw [z, et3] at hD; cases hD
        exact ⟨D1, ⟨rfl, _, rfl⟩, s3.trans (.of s4), Same.free (s3.same ht0) hD, nDt, less left i, e4, tr ++ [(i, o)], ps ++ [.ref c], s4 _ _ et3, p3.mono s4, inR_less hr, Nat.le_trans (List.length_filter_le _ _) hz, by rw [List.length_append]; simp; omega, by rw [← hst, List.append_assoc]; rfl⟩
  · subst es
    have sH : Same H H' := s.same ht0
    rw [Nat.sub_self] at hst
    replace hst : (tr, left) = strike A kept order.length order := by rw [← hst]; simp [strike]
    rw [← hst] at q
    subst hR
    walk_at "mt"
    unfold rSortPM
    refine ⟨ps, et, fun v hv => ?_, fun ws hw hs p1 hp1 => ?_⟩
    · obtain ⟨i, hi⟩ := List.mem_iff_getElem?.mp hv
      have hil : i < tr.length := by rw [← hps.1]; exact (List.getElem?_eq_some_iff.mp hi).1
      exact ⟨_, hps.2 i v _ hi (List.getElem?_eq_getElem hil)⟩
    · obtain ⟨us, u1, u2, u3⟩ := pairs_perm hps hw hs
      refine ⟨left, (same_upd hp1) _ _ el, fun ms m1 m2 p2 hp2 => ⟨by decide +kernel, fun p3 hp3 => ?_⟩⟩
      have n12 : p1 ≠ p2 := fun z => by rw [← z, upd_same] at hp2; cases hp2
      have f1 : H p1 = none := Same.free sH hp1
      have f2 : H p2 = none := Same.free (sH.trans (same_upd hp1)) hp2
      refine q p3 p1 p2 ws us ms _ u1 u2 m1 m2 (((sH.trans (same_upd hp1)).trans (same_upd hp2)).trans (same_upd hp3)) f1 f2 upd_same ?_ (((u3.mono (same_upd hp1)).mono (same_upd hp2)).mono (same_upd hp3)) ?_
      · exact same_upd hp3 _ _ (same_upd hp2 _ _ upd_same)
      · exact same_upd hp3 _ _ upd_same
end K44
set_option Elab.async false
set_option linter.all false
set_option maxRecDepth 100000
set_option maxHeartbeats 4000000
namespace K44
open PySem PySem.Spec PyProof.Rows L2 MT
open SX (S)
local macro_rules | `(tactic| walk_at "mt") => `(tactic| simp only [L2.start, List.map_cons, List.map_nil, List.length_cons, List.length_nil, List.replicate_succ, List.replicate_zero, Nat.reduceSub, Nat.reduceAdd, Nat.sub_self, Nat.zero_add, List.cons_append, List.nil_append, List.append_nil, List.getElem?_cons_zero, List.getElem?_cons_succ, List.set_cons_zero, List.set_cons_succ, Option.some.injEq, exists_eq_left', exists_eq_left, exists_eq_right, V.bl.injEq, V.int.injEq, V.str.injEq, V.ref.injEq, reduceCtorEq, false_and, and_false, true_and, and_true, false_or, or_false, exists_false, exists_const, ↓reduceIte, Bool.false_eq_true, decide_eq_true_eq, Bool.and_eq_true, Bool.not_true, Bool.not_false, List.cons.injEq, exists_and_left, exists_and_right,
  tRet, rInM, rNeI, rSortM, rIndexM, rRepM, rSetDM, rListDM, rPopAtM, tLstRg, tRg1, tDIn, tBM, tBM0, tAndV, tOrV, tNotV, tAnd, tOr, tNot, tB, tTest, tIf, tIfS, tC, tVar, tOp, tUn, tChain, rI0, rI, rU, tFn, tCons, tNil, tCB, tTup, tLst, tAsg, gName, tNext, tDrop, tRetN, tPar, tPar3, tAug, tReplC, tRevS, rLenM2, rIsBM, tDNotIn, tDGet, rSumM, rMaxM, rMinM, gSub, rSetL, tRaiseO, tFnW, tXf, gTup, gUnl, gCons, gNil, rPopM, rAppendM, rExtendM, rTupM, rListM, ipI, tIs, tIss, rLenM, rIxM, rAddM, rEqM, rNeM, rSignIn, rInt, rAbs, rStrI, tSl, tPart, tNoPart, rSlM, tIsN, tNotN, List.any_cons, List.any_nil, Bool.or_false, tSeq, isa, D.ty, decide_true, decide_false, Bool.true_or, Bool.or_true, Bool.false_or, Bool.and_true, Bool.true_and, Bool.false_and, Bool.and_false, eq_self_iff_true, not_true_eq_false, not_false_eq_true, bne_self_eq_false])
theorem asc_idx : ∀ ns : List Int, ascB ns = (List.range (ns.length - 1)).all fun i => decide (ns.getD i 0 < ns.getD (i + 1) 0)
  | [] => rfl
  | [a] => rfl
  | a :: b :: ns => by
    rw [asc_cons, asc_idx (b :: ns)]
    have e : (a :: b :: ns).length - 1 = ((b :: ns).length - 1) + 1 := rfl
    rw [e, List.range_succ_eq_map, List.all_cons, List.all_map]
    rfl
theorem srcRng2 {σ : L2.St} {H : Hp} {t : TE} {n : Nat} (hn : n ≤ 1000000) (h : ∀ Q : VK, Q (.int (n : Int)) H → t σ H Q) : Src (iRng2 (tCons (tC (.int 1)) (tCons t tNil))) σ H ((List.range (n - 1)).map fun i : Nat => V.int (1 + (i : Int))) := by
  refine ⟨Itr 1 (n - 1), fun _ => True, fun R r => h _ ⟨1, n, rfl, ⟨by omega, by omega, by omega, by omega⟩, ?_⟩, ?_, fun _ _ => trivial⟩
  · have e : ((n : Int) - 1).toNat = n - 1 := by omega
    rw [e]; exact r
  · have e : ((List.range (n - 1)).map fun i : Nat => V.int (1 + (i : Int))).length = n - 1 := by simp
    rw [e]
    refine walk_range.mono (fun _ h => h) fun i H x H' hi _ y => ⟨y.1, y.2.trans ?_⟩
    show V.int (1 + (i : Int)) = (List.map (fun i : Nat => V.int (1 + (i : Int))) (List.range (n - 1))).getD i V.non
    rw [List.getD_eq_getElem?_getD, List.getElem?_map, List.getElem?_range hi]
    rfl
theorem seq_at {ns : List Int} {k : Nat} (h : k < ns.length) : atI (ns.map V.int) (k : Int) = some (.int (ns.getD k 0)) := by
  rw [atI_nn (by omega) (by rw [List.length_map]; omega)]
  have : ((k : Nat) : Int).toNat = k := by omega
  rw [this, List.getElem?_map, List.getElem?_eq_getElem h, List.getD_eq_getElem?_getD, List.getElem?_eq_getElem h]
  rfl
/-- [k for k in range(1, len(xs)) if xs[k - 1] >= xs[k]] != [] -/
theorem asc_chk {σ : L2.St} {H : Hp} {c k : Nat} {b : Addr} {ns : List Int} {Q : VK} (hck : k ≠ c) (hk : k < σ.length) (hc : σ[c]? = some (some (.ref b))) (e : seqO (H b) = some (ns.map V.int)) (hz : ns.length ≤ 1000000) (q : ∀ H', Same H H' → Q (.bl (!ascB ns)) H') :
    tEqNil true (tLc (iRng2 (tCons (tC (.int 1)) (tCons (tCB rLenM (tCons (tVar c) tNil)) tNil))) (gName k) (tTest (tOp (rI0 fun i j => .bl (decide (j ≤ i))) (tOp rIxM (tVar c) (tOp (rI0 fun i j => .int (i - j)) (tVar k) (tC (.int 1)))) (tOp rIxM (tVar c) (tVar k)))) (tVar k) [k]) σ H Q := by
  unfold tEqNil
  have e0 : (ns.map V.int).length = ns.length := List.length_map ..
  have sr := srcRng2 (n := ns.length) (σ := σ) (H := H) (t := tCB rLenM (tCons (tVar c) tNil)) hz (by rw [← e0]; exact src_len hc e)
  have hset : ∀ x, ((wipe σ [k]).set k (some x))[c]? = some (some (.ref b)) := fun x => by
    rw [List.getElem?_set_ne hck]
    show ((σ.set k none) : L2.St)[c]? = _
    rw [List.getElem?_set_ne hck]; exact hc
  have hself : ∀ x, ((wipe σ [k]).set k (some x))[k]? = some (some x) := fun x => List.getElem?_set_self (by rw [wipe_length]; exact hk)
  refine lc_v sr (by simp) (fun x => decide (ns.getD (iv x).toNat 0 ≤ ns.getD ((iv x).toNat - 1) 0)) (fun x => V.int (iv x)) (by rw [List.length_map, List.length_range]; exact bl_sl (by unfold BL; omega)) (fun x H1 K' hx s1 kk => ?_) (fun x H1 K' hx _ s1 kk => ?_) fun D1 H1 _ s1 e1 => ?_
  · obtain ⟨i, hi, rfl⟩ := List.mem_map.mp hx
    have hi := List.mem_range.mp hi
    have t1 : (iv (.int (1 + (i : Int)))).toNat = i + 1 := by show (1 + (i : Int)).toNat = i + 1; omega
    rw [t1, Nat.add_sub_cancel] at kk
    have a1 := seq_at (ns := ns) (k := i) (by omega)
    have a2 := seq_at (ns := ns) (k := i + 1) (by omega)
    refine ⟨_, hset _, _, hself _, 1 + (i : Int), 1, rfl, rfl, ?_⟩
    refine ⟨_, _, seq_mono e s1, by rw [show (1 + (i : Int)) - 1 = ((i : Nat) : Int) by omega]; exact a1, ?_⟩
    refine ⟨_, hset _, _, hself _, _, _, seq_mono e s1, by rw [show (1 + (i : Int)) = ((i + 1 : Nat) : Int) by omega]; exact a2, ?_⟩
    exact ⟨_, _, rfl, rfl, _, rfl, kk H1 (.refl _)⟩
  · obtain ⟨i, hi, rfl⟩ := List.mem_map.mp hx
    exact ⟨_, hself _, kk H1 (.refl _)⟩
  · refine ⟨D1, _, rfl, e1, ?_⟩
    have e2 : ((((List.range (ns.length - 1)).map fun i : Nat => V.int (1 + (i : Int))).filter fun x => decide (ns.getD (iv x).toNat 0 ≤ ns.getD ((iv x).toNat - 1) 0)).map fun x => V.int (iv x)).isEmpty = ascB ns := by
      rw [emp_map, List.filter_map, emp_map, emp_filter, asc_idx, Bool.eq_iff_iff, Bool.not_eq_true', List.any_eq_false, List.all_eq_true]
      have t1 : ∀ i : Nat, (iv (.int (1 + (i : Int)))).toNat = i + 1 := fun i => by show (1 + (i : Int)).toNat = i + 1; omega
      constructor
      · intro h i hi
        have := h i hi
        simp only [Function.comp_apply, t1, Nat.add_sub_cancel, decide_eq_true_eq] at this
        exact decide_eq_true (by omega)
      · intro h i hi
        have := of_decide_eq_true (h i hi)
        simp only [Function.comp_apply, t1, Nat.add_sub_cancel, decide_eq_true_eq]
        omega
    rw [if_pos rfl, e2]
    exact q H1 s1
end K44
set_option Elab.async false
set_option linter.all false
set_option maxRecDepth 100000
set_option maxHeartbeats 4000000
namespace K44
open PySem PySem.Spec PyProof.Rows L2 MT
open SX (S)
local macro_rules | `(tactic| walk_at "mt") => `(tactic| simp only [L2.start, List.map_cons, List.map_nil, List.length_cons, List.length_nil, List.replicate_succ, List.replicate_zero, Nat.reduceSub, Nat.reduceAdd, Nat.sub_self, Nat.zero_add, List.cons_append, List.nil_append, List.append_nil, List.getElem?_cons_zero, List.getElem?_cons_succ, List.set_cons_zero, List.set_cons_succ, Option.some.injEq, exists_eq_left', exists_eq_left, exists_eq_right, V.bl.injEq, V.int.injEq, V.str.injEq, V.ref.injEq, reduceCtorEq, false_and, and_false, true_and, and_true, false_or, or_false, exists_false, exists_const, ↓reduceIte, Bool.false_eq_true, decide_eq_true_eq, Bool.and_eq_true, Bool.not_true, Bool.not_false, List.cons.injEq, exists_and_left, exists_and_right,
  tRet, rInM, rNeI, rSortM, rIndexM, rRepM, rSetDM, rListDM, rPopAtM, tLstRg, tRg1, tDIn, tBM, tBM0, tAndV, tOrV, tNotV, tAnd, tOr, tNot, tB, tTest, tIf, tIfS, tC, tVar, tOp, tUn, tChain, rI0, rI, rU, tFn, tCons, tNil, tCB, tTup, tLst, tAsg, gName, tNext, tDrop, tRetN, tPar, tPar3, tAug, tReplC, tRevS, rLenM2, rIsBM, tDNotIn, tDGet, rSumM, rMaxM, rMinM, gSub, rSetL, tRaiseO, tFnW, tXf, gTup, gUnl, gCons, gNil, rPopM, rAppendM, rExtendM, rTupM, rListM, ipI, tIs, tIss, rLenM, rIxM, rAddM, rEqM, rNeM, rSignIn, rInt, rAbs, rStrI, tSl, tPart, tNoPart, rSlM, tIsN, tNotN, List.any_cons, List.any_nil, Bool.or_false, tSeq, isa, D.ty, decide_true, decide_false, Bool.true_or, Bool.or_true, Bool.false_or, Bool.and_true, Bool.true_and, Bool.false_and, Bool.and_false, eq_self_iff_true, not_true_eq_false, not_false_eq_true, bne_self_eq_false])
theorem perm_sorted {l m : List Int} (h : l.Perm m) (hl : l.Pairwise (· ≤ ·)) (hm : m.Pairwise (· ≤ ·)) : l = m := List.Perm.eq_of_pairwise (fun a b _ _ h1 h2 => Int.le_antisymm h1 h2) hl hm h
def leftN (A : List (List Int)) (ns : List Int) : Bool := ascB ns && (decide ((strike A ns A.length (rng A.length).reverse).2.Perm ns) && decide ((strike A [] ns.length ns).2.Perm ns))
def leftB (A : List (List Int)) (e : D) : Bool := match itemsD e with
  | none => false
  | some ds => decide (3 ≤ ds.length) && (ds.all (blwD A.length) && leftN A (ds.map intD))
def spLawLeft : Sp := fun vs H Q _ => ∃ a v A e, vs = [.ref a, v] ∧ Ats H a A ∧ Dat H v e ∧ ∀ H', Same H H' → Q (.bl (leftB A e)) H'
theorem blw_int {n : Int} {d : D} (h : blwD n d = true) : ∃ i : Int, d = .int i ∧ 0 ≤ i ∧ i < n := by
  cases d with
  | int i => simp [blwD] at h; exact ⟨i, rfl, h.1, h.2⟩
  | _ => cases h
theorem all_blw {n : Int} {ds : List D} (h : ds.all (blwD n) = true) : ds.all (btw 0 (n - 1)) = true := by
  rw [List.all_eq_true] at h ⊢
  intro d hd
  obtain ⟨i, rfl, h1, h2⟩ := blw_int (h d hd)
  simp only [btw, Bool.and_eq_true, decide_eq_true_eq]
  omega
theorem sort_eq {X ms ns : List Int} (h : ms.Perm X) (hs : ms.Pairwise (· ≤ ·)) (ha : ascB ns = true) : decide (ms = ns) = decide (X.Perm ns) := by
  refine decide_eq_decide.mpr ⟨fun e => by rw [← e]; exact h.symm, fun e => perm_sorted (h.trans e) hs (((asc_iff ns).mp ha).imp fun h => by omega)⟩
def blwV (n : Int) : V → Bool
  | .int i => decide (0 ≤ i) && decide (i < n)
  | _ => false
theorem blwV_of {n : Int} {F : Hp} {v : V} {d : D} (r : Rep F v d) : blwV n v = blwD n d := by cases r <;> rfl
theorem blwV_all {n : Int} {F : Hp} {us : List V} {ds : List D} (r : RepL F us ds) : (!us.any fun x => !blwV n x) = ds.all (blwD n) := by
  induction ds generalizing us with
  | nil => cases r; rfl
  | cons d ds ih =>
    cases r with
    | cons r1 r2 => rw [List.any_cons, List.all_cons, ← ih r2, blwV_of r1, Bool.not_or, Bool.not_not]
/-- [one for one in value if not below] != [] -/
theorem blw_chk {σ : L2.St} {H : Hp} {c k : Nat} {b a : Addr} {us va : List V} {ds : List D} {Q : VK} (hck : k ≠ c) (hk0 : k ≠ 0) (hk : k < σ.length) (hc : σ[c]? = some (some (.ref b))) (h0 : σ[0]? = some (some (.ref a))) (eb : seqO (H b) = some us) (hu : Dats H us ds) (ea : seqO (H a) = some va) (hz : ds.length ≤ BL) {K : PySem.W.Frag}
    (q : ∀ H', Same H H' → Q (.bl (!ds.all (blwD va.length))) H') :
    tEqNil true (tLc (iSq K (tVar c)) (gName k) (tNot (tB (tFn spBelow (tCons (tVar k) (tCons (tCB rLenM (tCons (tVar 0) tNil)) tNil))))) (tVar k) [k]) σ H Q := by
  unfold tEqNil
  have hul := hu.length
  have hset : ∀ x i, k ≠ i → ((wipe σ [k]).set k (some x))[i]? = σ[i]? := fun x i hi => by
    rw [List.getElem?_set_ne hi]
    show ((σ.set k none) : L2.St)[i]? = _
    rw [List.getElem?_set_ne hi]
  have hself : ∀ x, ((wipe σ [k]).set k (some x))[k]? = some (some x) := fun x => List.getElem?_set_self (by rw [wipe_length]; exact hk)
  refine lc_v (xs := us) (srcSq (src_var hc) eb (by rw [hul]; exact bl_sl hz)) (by simp) (fun x => !blwV va.length x) id (by rw [hul]; exact bl_sl hz) (fun x H1 K' hx s1 kk => ?_) (fun x H1 K' hx _ s1 kk => ?_) fun D1 H1 _ s1 e1 => ?_
  · obtain ⟨d, hd, hx2⟩ := tup_of_mem (hu.mono s1) hx
    obtain ⟨F, sF, rF⟩ := id hx2
    refine ⟨_, hself _, .ref a, by rw [hset _ _ hk0]; exact h0, va, seq_mono ea s1, x, d, va.length, rfl, hx2, ?_⟩
    refine ⟨_, rfl, ?_⟩
    rw [← blwV_of rF]
    exact kk H1 (.refl _)
  · exact ⟨_, hself _, kk H1 (.refl _)⟩
  · refine ⟨D1, _, rfl, e1, ?_⟩
    obtain ⟨F, sF, rF⟩ := hu
    have e2 : ((us.filter fun x => !blwV va.length x).map id).isEmpty = ds.all (blwD va.length) := by rw [List.map_id, emp_filter, blwV_all rF]
    rw [if_pos rfl, e2]
    exact q H1 s1
theorem pr_law_is_left {K : PySem.W.Frag} (vs : List V) (H : Hp) (Q : VK) (E : XK) (h : spLawLeft vs H Q E) : t_law_is_left K spBelow spLeftOut (E0N Q) (L2.start ["atoms", "value", "one", "k", "every"] vs) H := by
  obtain ⟨a, v, A, e, rfl, hA, he, q⟩ := h
  obtain ⟨va, ea, la, _⟩ := hA.ex
  have h12 := hA.sz
  have blk := @blw_chk
  have ack := @asc_chk
  unfold t_law_is_left
  generalize hC : (tSeq (tAsg (tLstRg _) (gName 4)) _ : TS) = C
  generalize hB : (tSeq (tIfS (tB (tEqNil true (tLc (iRng2 _) _ _ _ _))) _ _) C : TS) = B
  generalize hN : (tEqNil true _ : TE) = N
  walk_at "mt"
  rw [he.ty]
  refine ⟨_, rfl, ?_⟩
  cases hi : itemsD e with
  | none =>
    have e0 : leftB A e = false := by simp only [leftB, hi]
    rw [e0] at q
    cases e <;> first | (cases hi; done) | (walk_at "mt"; exact q H (.refl _))
  | some ds =>
    have e0 : leftB A e = (decide (3 ≤ ds.length) && (ds.all (blwD A.length) && leftN A (ds.map intD))) := by simp only [leftB, hi]
    obtain ⟨b, us, rfl, eb, hu, hbl⟩ := he.seq hi
    have hul := hu.length
    have rest : ∃ ys, seqO (H b) = some ys ∧ (if ((ys.length : Nat) : Int) < 3 then Q (.bl false) H else N [some (.ref a), some (.ref b), none, none, none] H fun x H1 => ∃ c, x = .bl c ∧ if c = true then Q (.bl false) H1 else B (E0N Q) [some (.ref a), some (.ref b), none, none, none] H1) := by
      refine ⟨us, eb, ?_⟩
      by_cases h3 : 3 ≤ ds.length
      · rw [if_neg (by omega)]
        rw [decide_eq_true h3, Bool.true_and] at e0
        subst hN
        refine blk (by decide) (by decide) (by show 2 < 5; decide) rfl rfl eb hu ea hbl fun H1 s1 => ⟨_, rfl, ?_⟩
        rw [la]
        cases hall : ds.all (blwD A.length) with
        | false =>
          rw [e0, hall] at q
          exact q H1 s1
        | true =>
          rw [e0, hall, Bool.true_and] at q
          simp only [Bool.not_true, Bool.false_eq_true, ↓reduceIte]
          have hb2 := all_blw hall
          have hin := all_btw hb2
          have hus := hu.ints hb2
          generalize ds.map intD = ns at hin hus q ⊢
          subst hus
          subst hB
          rw [List.length_map] at hul
          unfold tSeq tIfS tB
          refine ack (by decide) (by show 3 < 5; decide) rfl (seq_mono eb s1) (by unfold BL at hbl; omega) fun H2 s2 => ⟨_, rfl, ?_⟩
          have sA : Same H H2 := s1.trans s2
          cases hasc : ascB ns with
          | false =>
            have : leftN A ns = false := by simp only [leftN, hasc, Bool.false_and]
            rw [this] at q
            exact q H2 sA
          | true =>
            have e1 : leftN A ns = (decide ((strike A ns A.length (rng A.length).reverse).2.Perm ns) && decide ((strike A [] ns.length ns).2.Perm ns)) := by simp only [leftN, hasc, Bool.true_and]
            rw [e1] at q
            have hnl : ns.length ≤ 12 := by
              have := asc_len ns 0 A.length ((asc_iff ns).mp hasc) hin
              omega
            simp only [Bool.not_true, Bool.false_eq_true, ↓reduceIte]
            subst hC
            walk_at "mt"
            clear blk ack
            have lr : (strike A ns A.length (rng A.length).reverse) = strike A ns (rng A.length).reverse.length (rng A.length).reverse := by rw [List.length_reverse, rng_len]
            refine ⟨va, seq_mono ea sA, RgOk.of_le (by omega) (by omega) (by omega) (by omega), fun l1 h1 => ?_⟩
            rw [la, rgV_rng]
            refine ⟨_, rfl, l1, _, rfl, .of upd_same, fun l2 h2 => ?_⟩
            have s2' : Same H _ := sA.trans ((same_upd (o := .lst ((rng A.length).map V.int)) h1).trans (same_upd (o := .lst ((rng A.length).map V.int).reverse) h2))
            have eb2 : seqO (H2 b) = some (ns.map V.int) := seq_mono (seq_mono eb s1) s2
            have el2 : (upd (upd H2 l1 (.lst ((rng A.length).map V.int))) l2 (.lst ((rng A.length).map V.int).reverse)) l2 = some (.lst ((rng A.length).map V.int).reverse) := upd_same
            have eb3 := seq_mono (seq_mono eb2 (same_upd (o := .lst ((rng A.length).map V.int)) h1)) (same_upd (o := .lst ((rng A.length).map V.int).reverse) h2)
            generalize upd (upd H2 l1 (.lst ((rng A.length).map V.int))) l2 (.lst ((rng A.length).map V.int).reverse) = H3 at s2' el2 eb3 ⊢
            refine ⟨ns.map V.int, eb3, fun l3 h3 => ?_⟩
            have s4 : Same H3 (upd H3 l3 (.lst (ns.map V.int))) := same_upd h3
            have el3 : (upd H3 l3 (.lst (ns.map V.int))) l3 = some (.lst (ns.map V.int)) := upd_same
            generalize upd H3 l3 (.lst (ns.map V.int)) = H4 at s4 el3 ⊢
            refine ⟨a, .ref l2, .ref l3, A, (rng A.length).reverse, ns, rfl, hA.mono (s2'.trans s4), ⟨l2, rfl, by rw [s4 _ _ el2, ← List.map_reverse]; rfl⟩, fun i hi => inR_rng i (List.mem_reverse.mp hi), by rw [List.length_reverse, rng_len]; omega, ⟨l3, rfl, by rw [el3]; rfl⟩, fun p t l ws ts ms H5 _ _ p3 p4 s5 _ _ ep _ _ el => ?_⟩
            rw [← lr] at p3
            have eb5 := seq_mono (seq_mono eb3 s4) s5
            refine ⟨[.ref t, .ref l], by rw [ep]; rfl, .ref l, rfl, ns.map V.int, eb5, fun l4 h4 => ?_⟩
            refine ⟨ms, same_upd h4 _ _ el, ns, upd_same, ?_⟩
            have d1 := sort_eq p3 p4 hasc
            have sB : Same H (upd H5 l4 (.lst (ns.map V.int))) := s2'.trans (s4.trans (s5.trans (same_upd h4)))
            by_cases hms : ms = ns
            · rw [if_pos hms]
              rw [← d1, decide_eq_true hms, Bool.true_and] at q
              have eb6 := seq_mono eb5 (same_upd (o := .lst (ns.map V.int)) h4)
              refine ⟨ns.map V.int, eb6, fun l6 h6 => ⟨Nat.zero_le _, fun l7 h7 => ?_⟩⟩
              have el6 : (upd (upd (upd H5 l4 (.lst (ns.map V.int))) l6 (.lst (ns.map V.int))) l7 (.lst [])) l6 = some (.lst (ns.map V.int)) := same_upd h7 _ _ upd_same
              have el7 : (upd (upd (upd H5 l4 (.lst (ns.map V.int))) l6 (.lst (ns.map V.int))) l7 (.lst [])) l7 = some (.lst []) := upd_same
              have sC : Same H (upd (upd (upd H5 l4 (.lst (ns.map V.int))) l6 (.lst (ns.map V.int))) l7 (.lst [])) := sB.trans ((same_upd h6).trans (same_upd h7))
              have eb7 := seq_mono (seq_mono eb6 (same_upd (o := .lst (ns.map V.int)) h6)) (same_upd (o := .lst []) h7)
              generalize upd (upd (upd H5 l4 (.lst (ns.map V.int))) l6 (.lst (ns.map V.int))) l7 (.lst []) = H7 at el6 el7 sC eb7 ⊢
              refine ⟨a, .ref l6, .ref l7, A, ns, [], rfl, hA.mono sC, ⟨l6, rfl, by rw [el6]; rfl⟩, hin, by omega, ⟨l7, rfl, by rw [el7]; rfl⟩, fun p t l ws ts ms2 H8 _ _ p3 p4 s8 _ _ ep _ _ el => ?_⟩
              refine ⟨[.ref t, .ref l], by rw [ep]; rfl, .ref l, rfl, ns.map V.int, seq_mono eb7 s8, fun l9 h9 => ?_⟩
              refine ⟨ms2, same_upd h9 _ _ el, ns, upd_same, ?_⟩
              rw [← sort_eq p3 p4 hasc] at q
              exact q _ (sC.trans (s8.trans (same_upd h9)))
            · rw [if_neg hms]
              rw [← d1, decide_eq_false hms, Bool.false_and] at q
              exact q _ sB
      · rw [if_pos (by omega)]
        rw [e0, decide_eq_false h3, Bool.false_and] at q
        exact q H (.refl _)
    have hty : e.ty = .lst ∨ e.ty = .tup := by
      cases e with
      | lst _ => exact .inl rfl
      | tup _ => exact .inr rfl
      | _ => cases hi
    rcases hty with hty | hty
    all_goals (
      rw [hty]
      walk_at "mt"
      exact rest)
end K44
set_option Elab.async false
set_option linter.all false
set_option maxRecDepth 100000
set_option maxHeartbeats 4000000
namespace K44
open PySem PySem.Spec PyProof.Rows L2 MT
open SX (S)
local macro_rules | `(tactic| walk_at "mt") => `(tactic| simp only [L2.start, List.map_cons, List.map_nil, List.length_cons, List.length_nil, List.replicate_succ, List.replicate_zero, Nat.reduceSub, Nat.reduceAdd, Nat.sub_self, Nat.zero_add, List.cons_append, List.nil_append, List.append_nil, List.getElem?_cons_zero, List.getElem?_cons_succ, List.set_cons_zero, List.set_cons_succ, Option.some.injEq, exists_eq_left', exists_eq_left, exists_eq_right, V.bl.injEq, V.int.injEq, V.str.injEq, V.ref.injEq, reduceCtorEq, false_and, and_false, true_and, and_true, false_or, or_false, exists_false, exists_const, ↓reduceIte, Bool.false_eq_true, decide_eq_true_eq, Bool.and_eq_true, Bool.not_true, Bool.not_false, List.cons.injEq, exists_and_left, exists_and_right,
  tRet, rInM, rNeI, rSortM, rIndexM, rRepM, rSetDM, rListDM, rPopAtM, tLstRg, tRg1, tDIn, tBM, tBM0, tAndV, tOrV, tNotV, tAnd, tOr, tNot, tB, tTest, tIf, tIfS, tC, tVar, tOp, tUn, tChain, rI0, rI, rU, tFn, tCons, tNil, tCB, tTup, tLst, tAsg, gName, tNext, tDrop, tRetN, tPar, tPar3, tAug, tReplC, tRevS, rLenM2, rIsBM, tDNotIn, tDGet, rSumM, rMaxM, rMinM, gSub, rSetL, tRaiseO, tFnW, tXf, gTup, gUnl, gCons, gNil, rPopM, rAppendM, rExtendM, rTupM, rListM, ipI, tIs, tIss, rLenM, rIxM, rAddM, rEqM, rNeM, rSignIn, rInt, rAbs, rStrI, tSl, tPart, tNoPart, rSlM, tIsN, tNotN, List.any_cons, List.any_nil, Bool.or_false, tSeq, isa, D.ty, decide_true, decide_false, Bool.true_or, Bool.or_true, Bool.false_or, Bool.and_true, Bool.true_and, Bool.false_and, Bool.and_false, eq_self_iff_true, not_true_eq_false, not_false_eq_true, bne_self_eq_false])
def metStep (has met : List Int) (p : Int × Int) : List Int := if (decide (p.1 ∈ has) && (decide (p.2 ∈ has) && !decide (decide (p.1 ∈ met) = decide (p.2 ∈ met)))) = true then met ++ [if decide (p.1 ∈ met) = true then p.2 else p.1] else met
def metN (has : List Int) (ps : List (Int × Int)) : Nat → List Int → List Int
  | 0, m => m
  | k + 1, m => ps.foldl (metStep has) (metN has ps k m)
theorem metStep_len (has met : List Int) (p : Int × Int) : (metStep has met p).length ≤ met.length + 1 := by
  unfold metStep
  split
  · rw [List.length_append]; simp
  · omega
theorem metR_len (has : List Int) : ∀ (ps : List (Int × Int)) (met : List Int), (ps.foldl (metStep has) met).length ≤ met.length + ps.length
  | [], met => by simp
  | p :: ps, met => by
    have h1 := metStep_len has met p
    have h2 := metR_len has ps (metStep has met p)
    rw [List.foldl_cons, List.length_cons]
    omega
theorem metN_len (has : List Int) (ps : List (Int × Int)) (m : List Int) : ∀ k, (metN has ps k m).length ≤ m.length + k * ps.length
  | 0 => by simp [metN]
  | k + 1 => by
    have h1 := metN_len has ps m k
    have h2 := metR_len has ps (metN has ps k m)
    rw [metN, Nat.succ_mul]
    omega
theorem for_pairsD {K : PySem.W.Frag} {C : Addr} {xs0 : List V} {wi : TI} {σ : L2.St} {H : Hp} {us : List V} {ps : List (Int × Int)} {tb : TS} {D : Ends} (s : SrcD C wi σ H us) (hl : us.length = ps.length) (hC : H C = some (.lst xs0))
    (hat : ∀ (i : Nat) u p, us[i]? = some u → ps[i]? = some p → ∃ t, u = .ref t ∧ H t = some (.tup [.int p.1, .int p.2])) (Pv : Nat → L2.St → Hp → Prop) (h0 : Pv 0 σ H) (hG : ∀ i σ' H', Pv i σ' H' → SmD C H H')
    (hs : ∀ i σ' H' p, ps[i]? = some p → Pv i σ' H' → tb { D with nx := Pv (i + 1), ct := Pv (i + 1), bk := D.nx } ((σ'.set 13 (some (.int p.1))).set 14 (some (.int p.2))) H') (hd : ∀ σ' H', Pv ps.length σ' H' → D.nx σ' H') :
    tFor wi (gTup K 2 (gCons (gName 13) (gCons (gName 14) gNil))) tb D σ H := by
  obtain ⟨J, G, a, b, c⟩ := s
  refine a _ (for_it b Pv h0 (fun i σ' H' _ p => c H' (hG i σ' H' p)) (fun i x σ' H1 H' hi p y => ?_) (by rw [hl]; exact hd))
  obtain ⟨rfl, rfl⟩ := y
  have hi2 : i < ps.length := by omega
  have e1 : us[i]? = some (us.getD i .non) := by rw [List.getD_eq_getElem?_getD, List.getElem?_eq_getElem hi]; rfl
  obtain ⟨t, e2, et⟩ := hat i _ ps[i] e1 (List.getElem?_eq_getElem hi2)
  have ntC : t ≠ C := fun z => by rw [z, hC] at et; cases et
  have et2 := hG i σ' H' p _ _ ntC et
  show gTup K 2 _ (us.getD i .non) _ _ _
  rw [e2]
  exact ⟨t, _, rfl, .of et2, rfl, _, _, rfl, _, _, rfl, rfl, hs i σ' H' ps[i] (List.getElem?_eq_getElem hi2) p⟩
def y_met (K : PySem.W.Frag) : TS := tFor (iRng1 (tCons (tVar 2) tNil)) (gName 12) (tFor (iSq K (tVar 1)) (gTup K 2 (gCons (gName 13) (gCons (gName 14) gNil))) (tIfS (tAnd (tTest (tOp (rInM false) (tVar 13) (tVar 9))) (tAnd (tTest (tOp (rInM false) (tVar 14) (tVar 9))) (tTest (tOp rNeM (tOp (rInM false) (tVar 13) (tVar 11)) (tOp (rInM false) (tVar 14) (tVar 11)))))) (tDrop (tBM K "list" rAppendM (tVar 11) (tCons (tIf (tTest (tOp (rInM false) (tVar 13) (tVar 11))) (tVar 14) (tVar 13)) tNil))) tNext))
theorem met_loop {K : PySem.W.Frag} {a b hs mt : Addr} {n : Nat} {H : Hp} {us : List V} {ps : List (Int × Int)} {has m0 : List Int} {x3 x4 x5 x6 x7 x8 x10 x12 x13 x14 : Option V} {D : Ends} (eb : seqO (H b) = some us) (hl : us.length = ps.length) (hn : n ≤ 100) (hps : ps.length ≤ 100) (hm0 : m0.length ≤ 100)
    (hat : ∀ (i : Nat) u p, us[i]? = some u → ps[i]? = some p → ∃ t, u = .ref t ∧ H t = some (.tup [.int p.1, .int p.2])) (eh : H hs = some (.lst (has.map V.int))) (em : H mt = some (.lst (m0.map V.int))) (nhm : hs ≠ mt) (nbm : b ≠ mt)
    (q : ∀ x12 x13 x14 H', SmD mt H H' → H' mt = some (.lst ((metN has ps n m0).map V.int)) → D.nx [some (.ref a), some (.ref b), some (.int (n : Int)), x3, x4, x5, x6, x7, x8, some (.ref hs), x10, some (.ref mt), x12, x13, x14] H') :
    y_met K D [some (.ref a), some (.ref b), some (.int (n : Int)), x3, x4, x5, x6, x7, x8, some (.ref hs), x10, some (.ref mt), x12, x13, x14] H := by
  unfold y_met
  refine for_rng (n := n) (by omega) (src_var rfl) (fun k σ' H' => ∃ x12 x13 x14, σ' = [some (.ref a), some (.ref b), some (.int (n : Int)), x3, x4, x5, x6, x7, x8, some (.ref hs), x10, some (.ref mt), x12, x13, x14] ∧ SmD mt H H' ∧ H' mt = some (.lst ((metN has ps k m0).map V.int)))
    ⟨_, _, _, rfl, .refl, em⟩ (fun k σ' H1 hk ⟨y12, y13, y14, es, s1, e1⟩ => ?_) fun σ' H1 ⟨y12, y13, y14, es, s1, e1⟩ => by subst es; exact q _ _ _ H1 s1 e1
  subst es
  dsimp only [List.set_cons_zero, List.set_cons_succ]
  have eb1 : seqO (H1 b) = some us := by
    cases z : H b with
    | none => rw [z] at eb; cases eb
    | some o => rw [s1 _ _ nbm z, ← z]; exact eb
  have hat1 : ∀ (i : Nat) u p, us[i]? = some u → ps[i]? = some p → ∃ t, u = .ref t ∧ H1 t = some (.tup [.int p.1, .int p.2]) := fun i u p h1 h2 => by
    obtain ⟨t, e2, e3⟩ := hat i u p h1 h2
    exact ⟨t, e2, s1 _ _ (fun z => by rw [z, em] at e3; cases e3) e3⟩
  have eh1 := s1 _ _ nhm eh
  have lm := metN_len has ps m0 k
  have lk : k * ps.length ≤ 100 * 100 := Nat.mul_le_mul (by omega) hps
  generalize hmk : metN has ps k m0 = mk at e1 lm
  refine for_pairsD (C := mt) (srcSqD (src_var rfl) eb1 (by rw [hl]; exact big1 (by omega)) nbm) hl e1 hat1
    (fun i σ' H' => ∃ x13 x14, σ' = [some (.ref a), some (.ref b), some (.int (n : Int)), x3, x4, x5, x6, x7, x8, some (.ref hs), x10, some (.ref mt), some (.int (k : Int)), x13, x14] ∧ SmD mt H1 H' ∧ H' mt = some (.lst (((ps.take i).foldl (metStep has) mk).map V.int)))
    ⟨_, _, rfl, .refl, e1⟩ (fun i σ' H' ⟨_, _, _, s, _⟩ => s) (fun i σ' H2 p hp ⟨z13, z14, es, s2, e2⟩ => ?_) fun σ' H2 ⟨z13, z14, es, s2, e2⟩ => ?_
  · subst es
    have eh2 := s2 _ _ nhm eh1
    have et : ps.take (i + 1) = ps.take i ++ [p] := by rw [List.take_succ, hp]; rfl
    have lm2 := metR_len has (ps.take i) mk
    have lt : (ps.take i).length ≤ ps.length := by rw [List.length_take]; omega
    rw [et, List.foldl_append]
    generalize (ps.take i).foldl (metStep has) mk = met at e2 lm2
    show (tIfS _ _ _) _ [some (.ref a), some (.ref b), some (.int (n : Int)), x3, x4, x5, x6, x7, x8, some (.ref hs), x10, some (.ref mt), some (.int (k : Int)), some (.int p.1), some (.int p.2)] H2
    have keep : metStep has met p = met → (∃ x, some (V.int p.snd) = x) ∧ SmD mt H1 H2 ∧ H2 mt = some (.lst (([p].foldl (metStep has) met).map V.int)) := fun h => ⟨⟨_, rfl⟩, s2, by rw [e2]; show _ = some (HO.lst ((metStep has met p).map V.int)); rw [h]⟩
    walk_at "mt"
    refine ⟨has.map V.int, by rw [eh2]; rfl, rfl, flat_ints _, ?_⟩
    rw [inV_int]
    by_cases h1 : p.1 ∈ has
    · rw [if_pos (decide_eq_true h1)]
      refine ⟨has.map V.int, by rw [eh2]; rfl, rfl, flat_ints _, ?_⟩
      rw [inV_int]
      by_cases h2 : p.2 ∈ has
      · rw [if_pos (decide_eq_true h2)]
        refine ⟨met.map V.int, by rw [e2]; rfl, rfl, flat_ints _, met.map V.int, by rw [e2]; rfl, rfl, flat_ints _, ?_⟩
        rw [inV_int, inV_int]
        by_cases h3 : decide (p.1 ∈ met) = decide (p.2 ∈ met)
        · rw [if_neg (by simp [h3])]
          exact keep (by unfold metStep; rw [if_neg (by simp [h3])])
        · rw [if_pos (by simp [h3])]
          refine ⟨tyL e2, met.map V.int, by rw [e2]; rfl, rfl, flat_ints _, ?_⟩
          rw [inV_int]
          have em2 : metStep has met p = met ++ [if decide (p.1 ∈ met) = true then p.2 else p.1] := by
            unfold metStep
            rw [if_pos (by simp [h1, h2, h3])]
          have lz : (met.map V.int).length < sizeLine := by rw [List.length_map]; exact big1 (by omega)
          cases h4 : decide (p.1 ∈ met) with
          | true =>
            rw [if_pos rfl]
            rw [h4, if_pos rfl] at em2
            exact ⟨_, e2, lz, ⟨_, rfl⟩, s2.trans .upd, by rw [upd_same]; show _ = some (HO.lst ((metStep has met p).map V.int)); rw [em2, List.map_append]; rfl⟩
          | false =>
            rw [if_neg (by decide)]
            rw [h4, if_neg (by decide)] at em2
            exact ⟨_, e2, lz, ⟨_, rfl⟩, s2.trans .upd, by rw [upd_same]; show _ = some (HO.lst ((metStep has met p).map V.int)); rw [em2, List.map_append]; rfl⟩
      · rw [if_neg (by simp [h2])]
        exact keep (by unfold metStep; rw [if_neg (by simp [h2])])
    · rw [if_neg (by simp [h1])]
      exact keep (by unfold metStep; rw [if_neg (by simp [h1])])
  · subst es
    rw [List.take_length] at e2
    refine ⟨_, _, _, rfl, s1.trans s2, ?_⟩
    rw [e2, metN, hmk]
end K44
set_option Elab.async false
set_option linter.all false
set_option maxRecDepth 100000
set_option maxHeartbeats 4000000
namespace K44
open PySem PySem.Spec PyProof.Rows L2 MT
open SX (S)
local macro_rules | `(tactic| walk_at "mt") => `(tactic| simp only [L2.start, List.map_cons, List.map_nil, List.length_cons, List.length_nil, List.replicate_succ, List.replicate_zero, Nat.reduceSub, Nat.reduceAdd, Nat.sub_self, Nat.zero_add, List.cons_append, List.nil_append, List.append_nil, List.getElem?_cons_zero, List.getElem?_cons_succ, List.set_cons_zero, List.set_cons_succ, Option.some.injEq, exists_eq_left', exists_eq_left, exists_eq_right, V.bl.injEq, V.int.injEq, V.str.injEq, V.ref.injEq, reduceCtorEq, false_and, and_false, true_and, and_true, false_or, or_false, exists_false, exists_const, ↓reduceIte, Bool.false_eq_true, decide_eq_true_eq, Bool.and_eq_true, Bool.not_true, Bool.not_false, List.cons.injEq, exists_and_left, exists_and_right,
  tRet, rInM, rNeI, rSortM, rIndexM, rRepM, rSetDM, rListDM, rPopAtM, tLstRg, tRg1, tDIn, tBM, tBM0, tAndV, tOrV, tNotV, tAnd, tOr, tNot, tB, tTest, tIf, tIfS, tC, tVar, tOp, tUn, tChain, rI0, rI, rU, tFn, tCons, tNil, tCB, tTup, tLst, tAsg, gName, tNext, tDrop, tRetN, tPar, tPar3, tAug, tReplC, tRevS, rLenM2, rIsBM, tDNotIn, tDGet, rSumM, rMaxM, rMinM, gSub, rSetL, tRaiseO, tFnW, tXf, gTup, gUnl, gCons, gNil, rPopM, rAppendM, rExtendM, rTupM, rListM, ipI, tIs, tIss, rLenM, rIxM, rAddM, rEqM, rNeM, rSignIn, rInt, rAbs, rStrI, tSl, tPart, tNoPart, rSlM, tIsN, tNotN, List.any_cons, List.any_nil, Bool.or_false, tSeq, isa, D.ty, decide_true, decide_false, Bool.true_or, Bool.or_true, Bool.false_or, Bool.and_true, Bool.true_and, Bool.false_and, Bool.and_false, eq_self_iff_true, not_true_eq_false, not_false_eq_true, bne_self_eq_false])
def goodP (n : Int) (d : D) : Bool := tupD 2 d && (subD d).all (blwD n)
def y_pairs (K : PySem.W.Frag) : TS := tFor (iSq K (tVar 1)) (gName 3) (tIfS (tOr (tNot (tB (tIs .tup (tVar 3)))) (tOr (tTest (tOp rNeM (tCB rLenM (tCons (tVar 3) tNil)) (tC (.int 2)))) (tOr (tNot (tB (tFn spBelow (tCons (tOp rIxM (tVar 3) (tC (.int 0))) (tCons (tVar 2) tNil))))) (tNot (tB (tFn spBelow (tCons (tOp rIxM (tVar 3) (tC (.int 1))) (tCons (tVar 2) tNil)))))))) (tRet (tC (.bl false))) tNext)
theorem pairs_loop {K : PySem.W.Frag} {a b : Addr} {n : Int} {H : Hp} {us : List V} {ds : List D} {x3 x4 x5 x6 x7 x8 x9 x10 x11 x12 x13 x14 : Option V} {D : Ends} (eb : seqO (H b) = some us) (hu : Dats H us ds) (hbl : ds.length ≤ BL)
    (q : ∀ x3, ds.all (goodP n) = true → D.nx [some (.ref a), some (.ref b), some (.int n), x3, x4, x5, x6, x7, x8, x9, x10, x11, x12, x13, x14] H) (qf : ds.all (goodP n) = false → D.rt (.bl false) H) :
    y_pairs K D [some (.ref a), some (.ref b), some (.int n), x3, x4, x5, x6, x7, x8, x9, x10, x11, x12, x13, x14] H := by
  have hul := hu.length
  unfold y_pairs
  refine for_v (xs := us) (srcSq (src_var rfl) eb (by rw [hul]; exact bl_sl hbl)) (fun k σ' H' => ∃ x3, σ' = [some (.ref a), some (.ref b), some (.int n), x3, x4, x5, x6, x7, x8, x9, x10, x11, x12, x13, x14] ∧ H' = H ∧ (ds.take k).all (goodP n) = true)
    ⟨_, rfl, rfl, rfl⟩ (fun k σ' H' ⟨_, _, e, _⟩ => by rw [e]; exact .refl _) (fun k σ' H' hk ⟨y3, es, eH, hall⟩ => ?_) fun σ' H' ⟨y3, es, eH, hall⟩ => by
      subst es; subst eH
      rw [hul, List.take_length] at hall
      exact q y3 hall
  subst es; subst eH
  have hk2 : k < ds.length := by omega
  obtain ⟨w, hw, hdat⟩ := hu.at (List.getElem?_eq_getElem hk2)
  have e3 : us.getD k .non = w := by rw [List.getD_eq_getElem?_getD, hw]; rfl
  rw [e3]
  have et : ds.take (k + 1) = ds.take k ++ [ds[k]] := by rw [List.take_succ, List.getElem?_eq_getElem hk2]; rfl
  have bad : goodP n ds[k] = false → D.rt (.bl false) H' := fun h => qf (by
    rw [List.all_eq_false]
    exact ⟨ds[k], List.getElem_mem hk2, by rw [h]; decide⟩)
  have good : goodP n ds[k] = true → (∃ x, some w = x) ∧ True ∧ (ds.take (k + 1)).all (goodP n) = true := fun h => ⟨⟨_, rfl⟩, trivial, by rw [et, List.all_append, hall, List.all_cons, h]; rfl⟩
  generalize ds[k] = d at hdat bad good
  dsimp only [List.set_cons_zero, List.set_cons_succ]
  walk_at "mt"
  rw [hdat.ty]
  refine ⟨_, rfl, ?_⟩
  by_cases hty : d.ty = .tup
  · obtain ⟨xs, rfl⟩ := ty_tup hty
    obtain ⟨t, ws, rfl, ew, hws, _⟩ := hdat.tup
    have hwl := hws.length
    walk_at "mt"
    refine ⟨ws, by rw [ew]; rfl, ?_⟩
    by_cases h2 : xs.length = 2
    · rw [if_neg (by simp; omega)]
      obtain ⟨x, y, he⟩ : ∃ x y, xs = [x, y] := by
        match xs, h2 with
        | [x, y], _ => exact ⟨x, y, rfl⟩
      subst he
      obtain ⟨v1, v2, rfl, d1, d2⟩ := hws.two
      have gp : goodP n (.tup [x, y]) = (blwD n x && blwD n y) := by simp [goodP, tupD, subD]
      refine ⟨_, by rw [ew]; rfl, _, rfl, v1, x, n, rfl, d1, ?_⟩
      refine ⟨_, rfl, ?_⟩
      cases hb1 : blwD n x with
      | false =>
        simp only [Bool.not_false, ↓reduceIte]
        exact bad (by rw [gp, hb1]; rfl)
      | true =>
        simp only [Bool.not_true, Bool.false_eq_true, ↓reduceIte]
        refine ⟨_, by rw [ew]; rfl, _, rfl, v2, y, n, rfl, d2, ?_⟩
        refine ⟨_, rfl, ?_⟩
        cases hb2 : blwD n y with
        | false =>
          simp only [Bool.not_false, ↓reduceIte]
          exact bad (by rw [gp, hb1, hb2]; rfl)
        | true =>
          simp only [Bool.not_true, Bool.false_eq_true, ↓reduceIte]
          simpa using good (by rw [gp, hb1, hb2]; rfl)
    · rw [if_pos (by simp; omega)]
      exact bad (by simp [goodP, tupD, h2])
  · have e1 : goodP n d = false := by cases d <;> first | rfl | exact absurd rfl hty
    rw [if_pos (by simp [hty])]
    exact bad e1
def hasO (A : List (List Int)) : Option Int → List Int
  | none => rng A.length
  | some x => hasX A x
def connB (A : List (List Int)) (ps : List (Int × Int)) (o : Option Int) : Bool := decide ((metN (hasO A o) ps A.length ((hasO A o).take 1)).length = (hasO A o).length)
def lawTreeN (A : List (List Int)) (ps : List (Int × Int)) : Bool := ascB (ps.map Prod.fst) && (connB A ps none && A.flatten.all fun x => connB A ps (some x))
def lawTreeB (A : List (List Int)) (e : D) : Bool := match itemsD e with
  | none => false
  | some ds => decide ((ds.length : Int) = max 0 ((A.length : Int) - 1)) && (ds.all (goodP A.length) && lawTreeN A (ds.map pairD))
def inO (A : List (List Int)) (o : Option Int) (i : Int) : Bool := match o with
  | none => true
  | some x => decide (x ∈ vat A i)
def ov : Option Int → V
  | none => .non
  | some x => .int x
def y_x (K : PySem.W.Frag) : TS := tSeq (tAsg (tLc (iRng1 (tCons (tVar 2) tNil)) (gName 10) (tOr (tB (tIsN (tVar 8))) (tTest (tOp (rInM false) (tVar 8) (tOp rIxM (tOp rIxM (tVar 0) (tVar 10)) (tC (.int 2)))))) (tVar 10) [10]) (gName 9)) (tSeq (tAsg (tSl rSlM (tVar 9) tNoPart (tPart (tC (.int 1)))) (gName 11)) (tSeq (y_met K) (tIfS (tTest (tOp rNeM (tCB rLenM (tCons (tVar 11) tNil)) (tCB rLenM (tCons (tVar 9) tNil)))) (tRet (tC (.bl false))) tNext)))
theorem cut01 (xs : List V) : cutV xs none (some 1) = xs.take 1 := by
  unfold cutV
  rw [show (some (1 : Int)) = some ((1 : Nat) : Int) from rfl, HT.sIx_nat, HT.sIx_none]
  cases xs with
  | nil => rfl
  | cons x xs => simp
theorem x_turn {K : PySem.W.Frag} {a b : Addr} {A : List (List Int)} {H : Hp} {us : List V} {ps : List (Int × Int)} {o : Option Int} {x3 x4 x5 x6 x7 x9 x10 x11 x12 x13 x14 : Option V} {D : Ends} (hA : Ats H a A) (eb : seqO (H b) = some us) (hl : us.length = ps.length) (hps : ps.length ≤ 100)
    (hat : ∀ (i : Nat) u p, us[i]? = some u → ps[i]? = some p → ∃ t, u = .ref t ∧ H t = some (.tup [.int p.1, .int p.2]))
    (q : ∀ x9 x10 x11 x12 x13 x14 H', Same H H' → connB A ps o = true → D.nx [some (.ref a), some (.ref b), some (.int (A.length : Int)), x3, x4, x5, x6, x7, some (ov o), x9, x10, x11, x12, x13, x14] H') (qf : ∀ H', Same H H' → connB A ps o = false → D.rt (.bl false) H') :
    y_x K D [some (.ref a), some (.ref b), some (.int (A.length : Int)), x3, x4, x5, x6, x7, some (ov o), x9, x10, x11, x12, x13, x14] H := by
  have h12 := hA.sz
  unfold y_x
  generalize hM : y_met K = M
  unfold tSeq tAsg
  show tLc _ _ _ _ _ _ _ _
  refine lc_v (xs := (rng A.length).map V.int) (by rw [← rng_vals]; exact srcRng (by omega) (src_var rfl)) (by simp) (fun v => inO A o (iv v)) (fun v => V.int (iv v)) (by rw [List.length_map, rng_len]; exact big1 (by omega)) (fun v H1 K' hv s1 kk => ?_) (fun v H1 K' hv _ s1 kk => ?_) fun D1 H1 hD1 s1 e1 => ?_
  · obtain ⟨i, rfl, hi⟩ := int_of_mem hv
    cases o with
    | none => exact ⟨_, rfl, true, rfl, kk H1 (.refl _)⟩
    | some x =>
      obtain ⟨u, eu, su⟩ := src_vars (i := 0) (j := 10) (σ := [some (.ref a), some (.ref b), some (.int (A.length : Int)), x3, x4, x5, x6, x7, some (.int x), x9, some (.int i), x11, x12, x13, x14]) (hA.mono s1) (inR_rng i hi).1 (inR_rng i hi).2 rfl rfl
      refine ⟨_, rfl, false, rfl, ?_⟩
      refine ⟨_, rfl, su _ ⟨_, by rw [eu]; rfl, rfl, flat_ints _, ?_⟩⟩
      rw [show ov (some x) = V.int x from rfl, inV_int]
      exact ⟨_, rfl, kk H1 (.refl _)⟩
  · obtain ⟨i, rfl, hi⟩ := int_of_mem hv
    exact ⟨_, rfl, kk H1 (.refl _)⟩
  · have eh : H1 D1 = some (.lst ((hasO A o).map V.int)) := by
      rw [e1, filter_int (fun i => inO A o i), map_id]
      cases o with
      | none => rw [show (fun i => inO A none i) = fun _ => true from rfl, filter_tt]; rfl
      | some x => rfl
    have hl2 : (hasO A o).length ≤ 12 := by
      cases o with
      | none => show (rng A.length).length ≤ 12; rw [rng_len]; exact h12
      | some x => exact Nat.le_trans (List.length_filter_le _ _) (by rw [rng_len]; exact h12)
    have hdef : connB A ps o = decide ((metN (hasO A o) ps A.length ((hasO A o).take 1)).length = (hasO A o).length) := rfl
    clear e1
    generalize hasO A o = has at eh hl2 hdef
    unfold gName
    dsimp only [List.set_cons_zero, List.set_cons_succ]
    unfold tSl tNoPart tPart tC
    refine ⟨_, rfl, 1, rfl, ?_⟩
    unfold rSlM
    dsimp only
    rw [eh]
    dsimp only
    intro m hm
    rw [cut01, ← List.map_take]
    have s2 : Same H (upd H1 m (.lst ((has.take 1).map V.int))) := s1.trans (same_upd hm)
    have em : (upd H1 m (.lst ((has.take 1).map V.int))) m = some (.lst ((has.take 1).map V.int)) := upd_same
    have eh2 : (upd H1 m (.lst ((has.take 1).map V.int))) D1 = some (.lst (has.map V.int)) := same_upd hm _ _ eh
    have nm : ∀ {x z}, H x = some z → x ≠ m := fun e z => by have := s1 _ _ e; rw [z, hm] at this; cases this
    have nDm : D1 ≠ m := fun z => by rw [z, hm] at eh; cases eh
    have nbm : b ≠ m := by
      cases z : H b with
      | none => rw [z] at eb; cases eb
      | some o => exact nm z
    have hm0 : H m = none := Same.free s1 hm
    generalize upd H1 m (.lst ((has.take 1).map V.int)) = H2 at s2 em eh2 ⊢
    subst hM
    have hat2 : ∀ (i : Nat) u p, us[i]? = some u → ps[i]? = some p → ∃ t, u = .ref t ∧ H2 t = some (.tup [.int p.1, .int p.2]) := fun i u p h1 h2 => by
      obtain ⟨t, e2, e3⟩ := hat i u p h1 h2
      exact ⟨t, e2, s2 _ _ e3⟩
    refine met_loop (seq_mono eb s2) hl (by omega) hps (by rw [List.length_take]; omega) hat2 eh2 em nDm nbm fun y12 y13 y14 H3 s3 e3 => ?_
    have sA : Same H H3 := (SmD.trans (.of s2) s3).same hm0
    have eh3 := s3 _ _ nDm eh2
    walk_at "mt"
    rw [e3, eh3]
    refine ⟨_, rfl, _, rfl, ?_⟩
    rw [List.length_map, List.length_map]
    by_cases hq : (metN has ps A.length (has.take 1)).length = has.length
    · rw [if_neg (by simp [hq])]
      exact q _ _ _ _ _ _ H3 sA (by rw [hdef]; exact decide_eq_true hq)
    · rw [if_pos (by simp; omega)]
      exact qf H3 sA (by rw [hdef]; exact decide_eq_false hq)
end K44
set_option Elab.async false
set_option linter.all false
set_option maxRecDepth 100000
set_option maxHeartbeats 4000000
namespace K44
open PySem PySem.Spec PyProof.Rows L2 MT
open SX (S)
local macro_rules | `(tactic| walk_at "mt") => `(tactic| simp only [L2.start, List.map_cons, List.map_nil, List.length_cons, List.length_nil, List.replicate_succ, List.replicate_zero, Nat.reduceSub, Nat.reduceAdd, Nat.sub_self, Nat.zero_add, List.cons_append, List.nil_append, List.append_nil, List.getElem?_cons_zero, List.getElem?_cons_succ, List.set_cons_zero, List.set_cons_succ, Option.some.injEq, exists_eq_left', exists_eq_left, exists_eq_right, V.bl.injEq, V.int.injEq, V.str.injEq, V.ref.injEq, reduceCtorEq, false_and, and_false, true_and, and_true, false_or, or_false, exists_false, exists_const, ↓reduceIte, Bool.false_eq_true, decide_eq_true_eq, Bool.and_eq_true, Bool.not_true, Bool.not_false, List.cons.injEq, exists_and_left, exists_and_right,
  tRet, rInM, rNeI, rSortM, rIndexM, rRepM, rSetDM, rListDM, rPopAtM, tLstRg, tRg1, tDIn, tBM, tBM0, tAndV, tOrV, tNotV, tAnd, tOr, tNot, tB, tTest, tIf, tIfS, tC, tVar, tOp, tUn, tChain, rI0, rI, rU, tFn, tCons, tNil, tCB, tTup, tLst, tAsg, gName, tNext, tDrop, tRetN, tPar, tPar3, tAug, tReplC, tRevS, rLenM2, rIsBM, tDNotIn, tDGet, rSumM, rMaxM, rMinM, gSub, rSetL, tRaiseO, tFnW, tXf, gTup, gUnl, gCons, gNil, rPopM, rAppendM, rExtendM, rTupM, rListM, ipI, tIs, tIss, rLenM, rIxM, rAddM, rEqM, rNeM, rSignIn, rInt, rAbs, rStrI, tSl, tPart, tNoPart, rSlM, tIsN, tNotN, List.any_cons, List.any_nil, Bool.or_false, tSeq, isa, D.ty, decide_true, decide_false, Bool.true_or, Bool.or_true, Bool.false_or, Bool.and_true, Bool.true_and, Bool.false_and, Bool.and_false, eq_self_iff_true, not_true_eq_false, not_false_eq_true, bne_self_eq_false])
def spLawTree : Sp := fun vs H Q _ => ∃ a v A e, vs = [.ref a, v] ∧ Ats H a A ∧ Dat H v e ∧ ∀ H', Same H H' → Q (.bl (lawTreeB A e)) H'
theorem goodP_two {n : Int} {ds : List D} (h : ds.all (goodP n) = true) : ds.all (tupD 2) = true ∧ (ds.flatMap subD).all (btw 0 (n - 1)) = true := by
  refine ⟨?_, ?_⟩
  · rw [List.all_eq_true] at h ⊢
    intro d hd
    have := h d hd
    rw [goodP, Bool.and_eq_true] at this
    exact this.1
  · rw [List.all_eq_true]
    intro x hx
    obtain ⟨d, hd, hx2⟩ := List.mem_flatMap.mp hx
    have := List.all_eq_true.mp h d hd
    rw [goodP, Bool.and_eq_true] at this
    have h3 := all_blw this.2
    exact List.all_eq_true.mp h3 x hx2
theorem atom_vars {H : Hp} {a : Addr} {A : List (List Int)} (h : Ats H a A) {vs : List V} (e : seqO (H a) = some vs) {k : Nat} (hk : k < vs.length) : ∃ t u nm, vs.getD k .non = .ref t ∧ H t = some (.tup [.str (S [105, 110]), nm, .ref u]) ∧ H u = some (.tup ((A.getD k []).map V.int)) := by
  obtain ⟨⟨vs2, e2, e3, e4⟩, _, _⟩ := h
  rw [e] at e2
  cases e2
  have hk2 : k < A.length := by omega
  obtain ⟨v, e5, t, u, nm, rfl, e6, e7⟩ := e4 k A[k] (List.getElem?_eq_getElem hk2)
  refine ⟨t, u, nm, by rw [List.getD_eq_getElem?_getD, e5]; rfl, e6, ?_⟩
  rw [List.getD_eq_getElem?_getD, List.getElem?_eq_getElem hk2]
  exact e7
theorem flat_take {A : List (List Int)} {k : Nat} (hk : k < A.length) : (A.take (k + 1)).flatten = (A.take k).flatten ++ A.getD k [] := by
  rw [List.take_succ, List.getElem?_eq_getElem hk, List.getD_eq_getElem?_getD, List.getElem?_eq_getElem hk, List.flatten_append]
  simp
theorem flat_sz {A : List (List Int)} (h : ∀ xs ∈ A, xs.length ≤ 3) : A.flatten.length ≤ 3 * A.length := by
  induction A with
  | nil => simp
  | cons x A ih =>
    have h1 := h x List.mem_cons_self
    have h2 := ih fun y hy => h y (List.mem_cons_of_mem _ hy)
    rw [List.flatten_cons, List.length_append, List.length_cons]
    omega
theorem pr_law_is_tree {K : PySem.W.Frag} {w : World} (vs : List V) (H : Hp) (Q : VK) (E : XK) (h : spLawTree vs H Q E) : t_law_is_tree K w spBelow (E0N Q) (L2.start ["atoms", "value", "many", "pair", "children", "k", "used", "atom", "x", "has", "index", "met", "turn", "child", "parent"] vs) H := by
  obtain ⟨a, v, A, e, rfl, hA, he, q⟩ := h
  obtain ⟨va, ea, la, _⟩ := id hA.ex
  have h12 := hA.sz
  have pl := @pairs_loop K
  have xt := @x_turn K
  unfold y_pairs at pl
  unfold y_x y_met at xt
  have ack := @asc_chk
  unfold t_law_is_tree
  generalize hX : (tSeq (tFor (iSq K (tOp rAddM _ _)) (gName 8) _) _ : TS) = X
  generalize hU : (tFor (iSq K (tVar 0)) (gName 7) _ : TS) = U
  generalize hC : (tSeq (tAsg (tLc _ (gName 3) tYes _ _) (gName 4)) _ : TS) = C
  generalize hP : (tSeq (tFor (iSq K (tVar 1)) (gName 3) _) C : TS) = P
  walk_at "mt"
  refine ⟨va, ea, ?_⟩
  rw [la, he.ty]
  refine ⟨_, rfl, ?_⟩
  cases hi : itemsD e with
  | none =>
    have e0 : lawTreeB A e = false := by simp only [lawTreeB, hi]
    rw [e0] at q
    cases e <;> first | (cases hi; done) | (walk_at "mt"; exact q H (.refl _))
  | some ds =>
    have e0 : lawTreeB A e = (decide ((ds.length : Int) = max 0 ((A.length : Int) - 1)) && (ds.all (goodP A.length) && lawTreeN A (ds.map pairD))) := by simp only [lawTreeB, hi]
    obtain ⟨b, us, rfl, eb, hu, hbl⟩ := he.seq hi
    have hul := hu.length
    have rest : ∃ ys, seqO (H b) = some ys ∧ (if (!decide (((ys.length : Nat) : Int) = max 0 ((A.length : Int) - 1))) = true then Q (.bl false) H else P (E0N Q) [some (.ref a), some (.ref b), some (.int (A.length : Int)), none, none, none, none, none, none, none, none, none, none, none, none] H) := by
      refine ⟨us, eb, ?_⟩
      rw [hul]
      by_cases hsz : (ds.length : Int) = max 0 ((A.length : Int) - 1)
      · rw [if_neg (by simp [hsz])]
        rw [decide_eq_true hsz, Bool.true_and] at e0
        subst hP
        unfold tSeq
        refine pl eb hu hbl (fun y3 hg => ?_) fun hg => by rw [e0, hg] at q; exact q H (.refl _)
        rw [e0, hg, Bool.true_and] at q
        obtain ⟨g2, gb⟩ := goodP_two hg
        have em := firsts hu g2 gb
        have hpl : (ds.map pairD).length = ds.length := List.length_map ..
        have hat : ∀ (i : Nat) u pq, us[i]? = some u → (ds.map pairD)[i]? = some pq → ∃ t, u = .ref t ∧ H t = some (.tup [.int pq.1, .int pq.2]) := fun i u pq h1 h3 => by
          rw [List.getElem?_map] at h3
          obtain ⟨dd, h4, rfl⟩ := Option.map_eq_some_iff.mp h3
          obtain ⟨w, h5, h6⟩ := hu.at h4
          rw [h1] at h5
          cases h5
          exact pair_at (n := A.length) h6 (List.all_eq_true.mp g2 dd (List.mem_of_getElem? h4)) (all_flat gb (List.mem_of_getElem? h4))
        generalize ds.map pairD = ps at *
        have hps : ps.length ≤ 12 := by omega
        subst hC
        unfold tSeq tAsg
        dsimp only
        refine lc_v (xs := us) (srcSq (a := b) (src_var rfl) eb (by rw [hul]; exact bl_sl hbl)) (by simp) (fun _ => true) (fun x => (tupOf H x).getD 0 .non) (by rw [hul]; exact bl_sl hbl) (fun x H4 K' hx s4 kk => kk H4 (.refl _)) (fun x H4 K' hx _ s4 kk => ?_) fun D1 H1 hD1 s1 e1 => ?_
        · obtain ⟨d, hd, hx2⟩ := tup_of_mem hu hx
          obtain ⟨t, rfl, et⟩ := pair_at (n := A.length) hx2 (List.all_eq_true.mp g2 d hd) (all_flat gb hd)
          have e6 : tupOf H (.ref t) = [.int (pairD d).1, .int (pairD d).2] := by show (match H t with | some (.tup ws) => ws | _ => []) = _; rw [et]
          refine src_ix (v := .int (pairD d).1) (src_var rfl) (by rw [s4 _ _ et]; rfl) rfl _ ?_
          rw [e6] at kk
          exact kk H4 (.refl _)
        · rw [filter_tt, em] at e1
          unfold gName
          dsimp only [List.set_cons_zero, List.set_cons_succ]
          unfold tIfS tB
          refine ack (by decide) (by show 5 < 15; decide) rfl (by rw [e1]; rfl) (by rw [List.length_map]; omega) fun H2 s2 => ⟨_, rfl, ?_⟩
          cases hasc : ascB (ps.map Prod.fst) with
          | false =>
            have : lawTreeN A ps = false := by simp only [lawTreeN, hasc, Bool.false_and]
            rw [this] at q
            exact q H2 (s1.trans s2)
          | true =>
            have e3 : lawTreeN A ps = (connB A ps none && A.flatten.all fun x => connB A ps (some x)) := by simp only [lawTreeN, hasc, Bool.true_and]
            rw [e3] at q
            simp only [Bool.not_true, Bool.false_eq_true, ↓reduceIte]
            unfold tNext tLst tNil
            refine ⟨Nat.zero_le _, fun m hm => ?_⟩
            dsimp only
            have sA : Same H (upd H2 m (.lst [])) := (s1.trans s2).trans (same_upd hm)
            have hm0 : H m = none := Same.free (s1.trans s2) hm
            have em0 : (upd H2 m (.lst [])) m = some (.lst []) := upd_same
            generalize upd H2 m (.lst []) = H3 at sA em0 ⊢
            have nm : ∀ {x z}, H x = some z → x ≠ m := fun e z => by rw [z, hm0] at e; cases e
            have nam : a ≠ m := by
              cases z : H a with
              | none => rw [z] at ea; cases ea
              | some o => exact nm z
            subst hU
            refine for_vD (C := m) (xs := va) (srcSqD (a := a) (src_var rfl) (seq_mono ea sA) (by rw [la]; exact big1 (by omega)) nam)
              (fun k σ' H' => ∃ x7, σ' = [some (.ref a), some (.ref b), some (.int (A.length : Int)), y3, some (.ref D1), none, some (.ref m), x7, none, none, none, none, none, none, none] ∧ SmD m H3 H' ∧ H' m = some (.lst ((A.take k).flatten.map V.int)))
              ⟨_, rfl, .refl, em0⟩ (fun k σ' H' ⟨_, _, s, _⟩ => s) (fun k σ' H' hk ⟨x7, es, s, ek⟩ => ?_) fun σ' H' ⟨x7, es, s, ek⟩ => ?_
            · subst es
              have sH : Same H H' := (SmD.trans (.of sA) s).same hm0
              obtain ⟨t, u, nm2, e5, et, eu⟩ := atom_vars (hA.mono sH) (seq_mono ea sH) hk
              rw [e5]
              have hk2 : k < A.length := by omega
              have fz := flat_sz (A := A.take (k + 1)) fun xs hxs => hA.wd xs (List.mem_of_mem_take hxs)
              rw [flat_take hk2, List.length_append, List.length_take] at fz
              dsimp only [List.set_cons_zero, List.set_cons_succ]
              walk_at "mt"
              refine ⟨tyL ek, [.str (S [105, 110]), nm2, .ref u], by rw [et]; rfl, .ref u, rfl, (A.getD k []).map V.int, by rw [eu]; rfl, fun l hl => ?_⟩
              have nlm : l ≠ m := fun z => by rw [z, ek] at hl; cases hl
              refine ⟨_, same_upd hl _ _ ek, _, upd_same, ?_, ?_⟩
              · rw [List.length_map, List.length_map]
                exact Nat.le_of_lt (big1 (by omega))
              · refine ⟨(s.trans (.of (same_upd hl))).trans .upd, ?_⟩
                rw [upd_same, flat_take hk2, List.map_append]
            · subst es
              have sH : Same H H' := (SmD.trans (.of sA) s).same hm0
              rw [la, List.take_length] at ek
              have fz := flat_sz hA.wd
              subst hX
              generalize hTT : (tRet (tC (.bl true)) : TS) = TT
              generalize hBd : (tSeq (tAsg (tLc (iRng1 (tCons (tVar 2) tNil)) (gName 10) _ _ _) (gName 9)) _ : TS) = Bd at xt ⊢
              unfold tSeq tFor iSq tOp tLst tCB tCons tNil tC
              refine ⟨by decide +kernel, fun p1 hp1 => ⟨_, rfl, A.flatten, (same_upd hp1) _ _ ek, by omega, fun p2 c hc hp2 => ⟨_, c, upd_same, by omega, fun ns hns hmem hcl p3 hp3 => ?_⟩⟩⟩
              show rAddM (.ref p1) (.ref p3) _ _
              have f1 : (upd (upd (upd H' p1 (.lst [.non])) p2 (SetO w p2 (fun j => decide (j ∈ A.flatten)) c)) p3 (.lst (ns.map V.int))) p1 = some (.lst [.non]) := same_upd hp3 _ _ (same_upd hp2 _ _ upd_same)
              have f3 : (upd (upd (upd H' p1 (.lst [.non])) p2 (SetO w p2 (fun j => decide (j ∈ A.flatten)) c)) p3 (.lst (ns.map V.int))) p3 = some (.lst (ns.map V.int)) := upd_same
              have sB : Same H (upd (upd (upd H' p1 (.lst [.non])) p2 (SetO w p2 (fun j => decide (j ∈ A.flatten)) c)) p3 (.lst (ns.map V.int))) := sH.trans (((same_upd hp1).trans (same_upd hp2)).trans (same_upd hp3))
              generalize upd (upd (upd H' p1 (.lst [.non])) p2 (SetO w p2 (fun j => decide (j ∈ A.flatten)) c)) p3 (.lst (ns.map V.int)) = H5 at f1 f3 sB ⊢
              unfold rAddM
              dsimp only
              rw [f1, f3]
              dsimp only
              have hnl : ns.length ≤ 36 := by
                omega
              refine ⟨by rw [List.length_map, List.length_singleton]; exact Nat.le_of_lt (big1 (by omega)), fun r hr => ⟨r, rfl, .inl ⟨_, .of upd_same, ?_⟩⟩⟩
              have sC : Same H (upd H5 r (.lst ([.non] ++ ns.map V.int))) := sB.trans (same_upd hr)
              have er : (upd H5 r (.lst ([.non] ++ ns.map V.int))) r = some (.lst (([none] ++ ns.map some).map ov)) := by rw [upd_same, List.map_append, List.map_map]; rfl
              generalize upd H5 r (.lst ([.non] ++ ns.map V.int)) = H6 at sC er ⊢
              have hop : (([none] ++ ns.map some : List (Option Int)).all (connB A ps)) = (connB A ps none && A.flatten.all fun x => connB A ps (some x)) := by
                rw [List.all_append, List.all_map, List.all_cons, List.all_nil, Bool.and_true]
                congr 1
                rw [Bool.eq_iff_iff, List.all_eq_true, List.all_eq_true]
                exact ⟨fun h x hx => h x ((hmem x).mpr (decide_eq_true hx)), fun h x hx => h x (of_decide_eq_true ((hmem x).mp hx))⟩
              rw [← hop] at q
              have hol : ([none] ++ ns.map some : List (Option Int)).length ≤ 37 := by rw [List.length_append, List.length_map, List.length_singleton]; omega
              generalize ([none] ++ ns.map some : List (Option Int)) = opts at er q hol
              have z := for_v (wi := fun _ H R => R (Itl K r) H) (j := 8) (tb := Bd) (D := { nx := TT (E0N Q), rt := Q }) (xs := opts.map ov) (σ := [some (.ref a), some (.ref b), some (.int (A.length : Int)), y3, some (.ref D1), none, some (.ref m), x7, none, none, none, none, none, none, none]) (H := H6)
                ⟨Itl K r, fun H => SqL K H r (opts.map ov), fun R r => r, walk_fnL (K := K), fun H' s' => .of (s' _ _ er)⟩
                (fun k σ' H' => ∃ x8 x9 x10 x11 x12 x13 x14, σ' = [some (.ref a), some (.ref b), some (.int (A.length : Int)), y3, some (.ref D1), none, some (.ref m), x7, x8, x9, x10, x11, x12, x13, x14] ∧ Same H6 H' ∧ (opts.take k).all (connB A ps) = true)
                ⟨_, _, _, _, _, _, _, rfl, .refl _, rfl⟩ (fun k σ' H' ⟨_, _, _, _, _, _, _, _, s, _⟩ => s) (fun k σ' H' hk ⟨x8, x9, x10, x11, x12, x13, x14, es, s, hall⟩ => ?_) fun σ' H' ⟨x8, x9, x10, x11, x12, x13, x14, es, s, hall⟩ => ?_
              · exact z
              · subst es
                rw [List.length_map] at hk
                have eo : (opts.map ov).getD k .non = ov opts[k] := by rw [List.getD_eq_getElem?_getD, List.getElem?_map, List.getElem?_eq_getElem hk]; rfl
                have et : opts.take (k + 1) = opts.take k ++ [opts[k]] := by rw [List.take_succ, List.getElem?_eq_getElem hk]; rfl
                rw [eo]
                refine xt (hA.mono (sC.trans s)) (seq_mono eb (sC.trans s)) (by rw [hul, hpl]) (by omega) (fun i u p h1 h2 => by obtain ⟨t, e2, e3⟩ := hat i u p h1 h2; exact ⟨t, e2, (sC.trans s) _ _ e3⟩) (fun y9 y10 y11 y12 y13 y14 H7 s7 hc => ?_) fun H7 s7 hc => ?_
                · exact ⟨_, _, _, _, _, _, _, rfl, s.trans s7, by rw [et, List.all_append, hall, List.all_cons, hc]; rfl⟩
                · have hf : opts.all (connB A ps) = false := by
                    rw [List.all_eq_false]
                    exact ⟨opts[k], List.getElem_mem hk, by rw [hc]; decide⟩
                  rw [hf] at q
                  exact q H7 (sC.trans (s.trans s7))
              · subst es
                rw [List.length_map, List.take_length] at hall
                rw [hall] at q
                subst hTT
                exact q H' (sC.trans s)
      · rw [if_pos (by simp [hsz])]
        rw [e0, decide_eq_false hsz, Bool.false_and] at q
        exact q H (.refl _)
    have hty : e.ty = .lst ∨ e.ty = .tup := by
      cases e with
      | lst _ => exact .inl rfl
      | tup _ => exact .inr rfl
      | _ => cases hi
    rcases hty with hty | hty
    all_goals (
      rw [hty]
      walk_at "mt"
      exact rest)
end K44
set_option Elab.async false
set_option linter.all false
set_option maxRecDepth 100000
set_option maxHeartbeats 4000000
namespace K44
open PySem PySem.Spec PyProof.Rows L2 MT
open SX (S)
local macro_rules | `(tactic| walk_at "mt") => `(tactic| simp only [L2.start, List.map_cons, List.map_nil, List.length_cons, List.length_nil, List.replicate_succ, List.replicate_zero, Nat.reduceSub, Nat.reduceAdd, Nat.sub_self, Nat.zero_add, List.cons_append, List.nil_append, List.append_nil, List.getElem?_cons_zero, List.getElem?_cons_succ, List.set_cons_zero, List.set_cons_succ, Option.some.injEq, exists_eq_left', exists_eq_left, exists_eq_right, V.bl.injEq, V.int.injEq, V.str.injEq, V.ref.injEq, reduceCtorEq, false_and, and_false, true_and, and_true, false_or, or_false, exists_false, exists_const, ↓reduceIte, Bool.false_eq_true, decide_eq_true_eq, Bool.and_eq_true, Bool.not_true, Bool.not_false, List.cons.injEq, exists_and_left, exists_and_right,
  tRet, rInM, rNeI, rSortM, rIndexM, rRepM, rSetDM, rListDM, rPopAtM, tLstRg, tRg1, tDIn, tBM, tBM0, tAndV, tOrV, tNotV, tAnd, tOr, tNot, tB, tTest, tIf, tIfS, tC, tVar, tOp, tUn, tChain, rI0, rI, rU, tFn, tCons, tNil, tCB, tTup, tLst, tAsg, gName, tNext, tDrop, tRetN, tPar, tPar3, tAug, tReplC, tRevS, rLenM2, rIsBM, tDNotIn, tDGet, rSumM, rMaxM, rMinM, gSub, rSetL, tRaiseO, tFnW, tXf, gTup, gUnl, gCons, gNil, rPopM, rAppendM, rExtendM, rTupM, rListM, ipI, tIs, tIss, rLenM, rIxM, rAddM, rEqM, rNeM, rSignIn, rInt, rAbs, rStrI, tSl, tPart, tNoPart, rSlM, tIsN, tNotN, List.any_cons, List.any_nil, Bool.or_false, tSeq, isa, D.ty, decide_true, decide_false, Bool.true_or, Bool.or_true, Bool.false_or, Bool.and_true, Bool.true_and, Bool.false_and, Bool.and_false, eq_self_iff_true, not_true_eq_false, not_false_eq_true, bne_self_eq_false])
def spMixed : Sp := fun vs H Q _ => ∃ b p xs c, vs = [.ref b, .ref p] ∧ seqO (H p) = some xs ∧ xs.length ≤ 1000 ∧ Bx H b c ∧ c ≤ 900000000 ∧
  ∀ r ys H', ys.Perm xs → SmD b H H' → Bx H' b (c + xs.length) → H r = none → H' r = some (.lst ys) → Q (.ref r) H'
theorem Bx.ne {H : Hp} {b : Addr} {c : Nat} (h : Bx H b c) : H b ≠ none := by
  obtain ⟨n, g, m, k, e, _⟩ := h
  rw [e]; intro z; cases z
theorem Bx.mono {H : Hp} {b : Addr} {c d : Nat} (h : Bx H b c) (hd : c ≤ d) : Bx H b d := by
  obtain ⟨n, g, m, k, e, h1, h2, h3, h4⟩ := h
  exact ⟨n, g, m, k, e, h1, h2, h3, by omega⟩
theorem Bx.same {H H' : Hp} {b : Addr} {c : Nat} (h : Bx H b c) (s : H' b = H b) : Bx H' b c := by
  obtain ⟨n, g, m, k, e, h1⟩ := h
  exact ⟨n, g, m, k, by rw [s, e], h1⟩
theorem Bx.ext {H H' : Hp} {b : Addr} {c : Nat} (h : Bx H b c) (s : Same H H') : Bx H' b c := by
  obtain ⟨n, g, m, k, e, h1⟩ := h
  exact ⟨n, g, m, k, s _ _ e, h1⟩
theorem erase_perm {α : Type} : ∀ (l : List α) (i : Nat) (h : i < l.length), (l[i] :: l.eraseIdx i).Perm l
  | a :: l, 0, _ => .refl _
  | a :: l, i + 1, h => by
    have := erase_perm l i (by simpa using h)
    exact (List.Perm.swap a _ _).trans (this.cons a)
theorem pr_law_mixed {K : PySem.W.Frag} (vs : List V) (H : Hp) (Q : VK) (E : XK) (h : spMixed vs H Q E) : t_law_mixed K spTake (E0N Q) (L2.start ["box", "items", "left", "found", "k"] vs) H := by
  obtain ⟨b, p, xs, c, rfl, hp, hz, hb, hc, q⟩ := h
  unfold t_law_mixed
  generalize hB : (tFor (iRng1 _) (gName 4) _ : TS) = B
  walk_at "mt"
  refine ⟨xs, hp, fun l hl => ⟨Nat.zero_le _, fun r hr => ?_⟩⟩
  refine ⟨_, _, ⟨rfl, rfl⟩, ?_⟩
  have nlr : l ≠ r := fun z => by rw [← z, upd_same] at hr; cases hr
  have s0 : Same H _ := (same_upd (o := .lst xs) hl).trans (same_upd (o := .lst []) hr)
  have hr0 : H r = none := by rw [upd_ne (Ne.symm nlr)] at hr; exact hr
  have el : (upd (upd H l (.lst xs)) r (.lst [])) l = some (.lst xs) := by rw [upd_ne nlr, upd_same]
  have er : (upd (upd H l (.lst xs)) r (.lst [])) r = some (.lst []) := upd_same
  generalize upd (upd H l (.lst xs)) r (.lst []) = H0 at s0 el er ⊢
  have nlb : l ≠ b := fun z => hb.ne (by rw [← z]; exact hl)
  have nrb : r ≠ b := fun z => hb.ne (by rw [← z]; exact hr0)
  subst hB
  refine for_rng (n := xs.length) (by omega) (src_len rfl (seq_mono hp s0)) (fun k σ' H' => ∃ x4 rest fnd, σ' = [some (.ref b), some (.ref p), some (.ref l), some (.ref r), x4] ∧ SmD b H H' ∧ H' l = some (.lst rest) ∧ H' r = some (.lst fnd) ∧ Bx H' b (c + k) ∧ (fnd ++ rest).Perm xs ∧ fnd.length = k)
    ⟨_, xs, [], rfl, .of s0, el, er, hb.ext s0, .refl _, rfl⟩ (fun k σ' H' hk ⟨x4, rest, fnd, es, s, el, er, hb', hpm, hfl⟩ => ?_) fun σ' H' ⟨x4, rest, fnd, es, s, el, er, hb', hpm, hfl⟩ => ?_
  · subst es
    have hlen := hpm.length_eq
    rw [List.length_append] at hlen
    dsimp only [List.set_cons_zero, List.set_cons_succ]
    walk_at "mt"
    refine ⟨tyL er, tyL el, rest, by rw [el]; rfl, ?_⟩
    refine ⟨b, rest.length, c + k, rfl, by omega, by omega, hb', by omega, fun i o hi hb2 => ?_⟩
    have el2 : (upd H' b o) l = some (.lst rest) := by rw [upd_ne nlb]; exact el
    have er2 : (upd H' b o) r = some (.lst fnd) := by rw [upd_ne nrb]; exact er
    have s2 : SmD b H (upd H' b o) := s.trans .upd
    generalize upd H' b o = H2 at el2 er2 s2 hb2 ⊢
    refine ⟨rest, el2, by omega, by omega, i, rfl, rest[i], List.getElem?_eq_getElem hi, fnd, ?_, big1 (by omega), ?_⟩
    · rw [upd_ne (Ne.symm nlr)]; exact er2
    · refine ⟨?_, rest.eraseIdx i, ?_, fnd ++ [rest[i]], upd_same, ?_, ?_, by rw [List.length_append, hfl]; rfl⟩
      · intro x o n e
        rw [upd_ne (fun z => by rw [z, hr0] at e; cases e), upd_ne (fun z => by rw [z, hl] at e; cases e)]
        exact s2 x o n e
      · rw [upd_ne nlr, upd_same]
      · exact (hb2.same (by rw [upd_ne (Ne.symm nrb), upd_ne (Ne.symm nlb)])).mono (by omega)
      · rw [List.append_assoc]
        exact ((erase_perm rest i hi).append_left fnd).trans hpm
  · subst es
    have hlen := hpm.length_eq
    rw [List.length_append] at hlen
    have hr0' : rest = [] := List.length_eq_zero_iff.mp (by omega)
    subst hr0'
    rw [List.append_nil] at hpm
    walk_at "mt"
    exact q r fnd H' hpm s hb' hr0 er
end K44
set_option Elab.async false
set_option linter.all false
set_option maxRecDepth 100000
set_option maxHeartbeats 4000000
namespace K44
open PySem PySem.Spec PyProof.Rows L2 MT
open SX (S)
local macro_rules | `(tactic| walk_at "mt") => `(tactic| simp only [L2.start, List.map_cons, List.map_nil, List.length_cons, List.length_nil, List.replicate_succ, List.replicate_zero, Nat.reduceSub, Nat.reduceAdd, Nat.sub_self, Nat.zero_add, List.cons_append, List.nil_append, List.append_nil, List.getElem?_cons_zero, List.getElem?_cons_succ, List.set_cons_zero, List.set_cons_succ, Option.some.injEq, exists_eq_left', exists_eq_left, exists_eq_right, V.bl.injEq, V.int.injEq, V.str.injEq, V.ref.injEq, reduceCtorEq, false_and, and_false, true_and, and_true, false_or, or_false, exists_false, exists_const, ↓reduceIte, Bool.false_eq_true, decide_eq_true_eq, Bool.and_eq_true, Bool.not_true, Bool.not_false, List.cons.injEq, exists_and_left, exists_and_right,
  tRet, rInM, rNeI, rSortM, rIndexM, rRepM, rSetDM, rListDM, rPopAtM, tLstRg, tRg1, tDIn, tBM, tBM0, tAndV, tOrV, tNotV, tAnd, tOr, tNot, tB, tTest, tIf, tIfS, tC, tVar, tOp, tUn, tChain, rI0, rI, rU, tFn, tCons, tNil, tCB, tTup, tLst, tAsg, gName, tNext, tDrop, tRetN, tPar, tPar3, tAug, tReplC, tRevS, rLenM2, rIsBM, tDNotIn, tDGet, rSumM, rMaxM, rMinM, gSub, rSetL, tRaiseO, tFnW, tXf, gTup, gUnl, gCons, gNil, rPopM, rAppendM, rExtendM, rTupM, rListM, ipI, tIs, tIss, rLenM, rIxM, rAddM, rEqM, rNeM, rSignIn, rInt, rAbs, rStrI, tSl, tPart, tNoPart, rSlM, tIsN, tNotN, List.any_cons, List.any_nil, Bool.or_false, tSeq, isa, D.ty, decide_true, decide_false, Bool.true_or, Bool.or_true, Bool.false_or, Bool.and_true, Bool.true_and, Bool.false_and, Bool.and_false, eq_self_iff_true, not_true_eq_false, not_false_eq_true, bne_self_eq_false])
/-! ### the plain law: the order of the strikes does not count -/
section
variable {A : List (List Int)} {K : List Int} {Done : (Int → Prop) → Prop} {L M : Int → Prop}
def Shr (A : List (List Int)) (L : Int → Prop) (i x : Int) : Prop := x ∈ vat A i ∧ ∃ o, L o ∧ o ≠ i ∧ x ∈ vat A o
def Rem (A : List (List Int)) (K : List Int) (L : Int → Prop) (i : Int) : Prop := L i ∧ i ∉ K ∧ ∃ j, L j ∧ j ≠ i ∧ ∀ x, Shr A L i x → x ∈ vat A j
def Del (L : Int → Prop) (i : Int) : Int → Prop := fun o => L o ∧ o ≠ i
def Add (M : Int → Prop) (i : Int) : Int → Prop := fun o => M o ∨ o = i
inductive Red (A : List (List Int)) (K : List Int) (Done : (Int → Prop) → Prop) : (Int → Prop) → Prop
  | done {L : Int → Prop} : Done L → Red A K Done L
  | step {L : Int → Prop} {i : Int} : Rem A K L i → Red A K Done (Del L i) → Red A K Done L
theorem del_del {i k : Int} : Del (Del L i) k = Del (Del L k) i := funext fun o => propext ⟨fun h => ⟨⟨h.1.1, h.2⟩, h.1.2⟩, fun h => ⟨⟨h.1.1, h.2⟩, h.1.2⟩⟩
theorem del_add {i r : Int} (h : r ≠ i) : Del (Add M i) r = Add (Del M r) i := funext fun o => propext ⟨fun h2 => h2.1.elim (fun z => .inl ⟨z, h2.2⟩) .inr, fun h2 => h2.elim (fun z => ⟨.inl z.1, z.2⟩) fun z => ⟨.inr z, by rw [z]; exact Ne.symm h⟩⟩
theorem del_self {i : Int} (h : ¬ M i) : Del (Add M i) i = M := funext fun o => propext ⟨fun h2 => h2.1.resolve_right h2.2, fun h2 => ⟨.inl h2, fun z => h (by rw [← z]; exact h2)⟩⟩
theorem red_swap (hD : ∀ M i k, ¬ M i → ¬ M k → i ≠ k → i ∉ K → k ∉ K → Done (Add M i) → Done (Add M k)) (h : Red A K Done L) : ∀ (M : Int → Prop) (i k : Int), L = Add M i → ¬ M i → ¬ M k → i ≠ k → i ∉ K → k ∉ K → (∀ x o, M o → x ∈ vat A o → (x ∈ vat A i ↔ x ∈ vat A k)) → Red A K Done (Add M k) := by
  induction h with
  | done h =>
    intro M i k e hi hk hik ki kk _
    subst e
    exact .done (hD M i k hi hk hik ki kk h)
  | @step L r hr h2 ih =>
    intro M i k e hi hk hik ki kk hT
    subst e
    obtain ⟨hrL, hrK, j, hj, hjr, hw⟩ := hr
    by_cases hri : r = i
    · subst hri
      have hMj : M j := hj.resolve_right hjr
      refine .step (i := k) ⟨.inr rfl, kk, j, .inl hMj, fun z => hk (by rw [← z]; exact hMj), fun x ⟨h3, o, ho, hok, hx⟩ => ?_⟩ ?_
      · have hMo := ho.resolve_right hok
        exact hw x ⟨(hT x o hMo hx).mpr h3, o, .inl hMo, fun z => hi (by rw [← z]; exact hMo), hx⟩
      · rw [del_self hi] at h2
        rw [del_self hk]
        exact h2
    · have hMr : M r := hrL.resolve_right hri
      have hrk : r ≠ k := fun z => hk (by rw [← z]; exact hMr)
      have core : ∀ x, Shr A (Add M k) r x → x ∈ vat A j := fun x ⟨h3, o, ho, hor, hx⟩ => by
        rcases ho with ho | ho
        · exact hw x ⟨h3, o, .inl ho, hor, hx⟩
        · subst ho
          exact hw x ⟨h3, i, .inr rfl, Ne.symm hri, (hT x r hMr h3).mpr hx⟩
      have hrem : Rem A K (Add M k) r := by
        rcases hj with hj | hj
        · exact ⟨.inl hMr, hrK, j, .inl hj, hjr, core⟩
        · subst hj
          exact ⟨.inl hMr, hrK, k, .inr rfl, Ne.symm hrk, fun x hx => (hT x r hMr hx.1).mp (core x hx)⟩
      refine .step hrem ?_
      rw [del_add hrk]
      exact ih (Del M r) i k (del_add hri) (fun z => hi z.1) (fun z => hk z.1) hik ki kk fun x o ho => hT x o ho.1
theorem red_rem (hD : ∀ M i k, ¬ M i → ¬ M k → i ≠ k → i ∉ K → k ∉ K → Done (Add M i) → Done (Add M k)) (hN : ∀ L i, Done L → ¬ Rem A K L i) (h : Red A K Done L) : ∀ i, Rem A K L i → Red A K Done (Del L i) := by
  induction h with
  | done h => intro i hi; exact absurd hi (hN _ i h)
  | @step L k hk h2 ih =>
    intro i hi
    by_cases hik : i = k
    · subst hik; exact h2
    · obtain ⟨kL, kK, m, hm, hmk, hkw⟩ := hk
      obtain ⟨iL, iK, j, hj, hji, hiw⟩ := hi
      have up : ∀ {a b x}, Shr A (Del L a) b x → Shr A L b x := fun ⟨h3, o, ho, hob, hx⟩ => ⟨h3, o, ho.1, hob, hx⟩
      have both : Rem A K (Del L k) i → Rem A K (Del L i) k → Red A K Done (Del L i) := fun h3 h4 => .step h4 (by rw [del_del]; exact ih i h3)
      -- a witness for i once k is gone, and for k once i is gone
      have wi : ∀ m', L m' → m' ≠ k → m' ≠ i → (∀ x, Shr A L i x → x ∈ vat A k) → (∀ x, Shr A L k x → x ∈ vat A m') → Rem A K (Del L k) i := fun m' h3 h4 h5 h6 h7 =>
        ⟨⟨iL, hik⟩, iK, m', ⟨h3, h4⟩, h5, fun x hx => by
          obtain ⟨h8, o, ho, hoi, hxo⟩ := hx
          exact h7 x ⟨h6 x ⟨h8, o, ho.1, hoi, hxo⟩, o, ho.1, ho.2, hxo⟩⟩
      have wk : ∀ j', L j' → j' ≠ i → j' ≠ k → (∀ x, Shr A L k x → x ∈ vat A i) → (∀ x, Shr A L i x → x ∈ vat A j') → Rem A K (Del L i) k := fun j' h3 h4 h5 h6 h7 =>
        ⟨⟨kL, Ne.symm hik⟩, kK, j', ⟨h3, h4⟩, h5, fun x hx => by
          obtain ⟨h8, o, ho, hok, hxo⟩ := hx
          exact h7 x ⟨h6 x ⟨h8, o, ho.1, hok, hxo⟩, o, ho.1, ho.2, hxo⟩⟩
      by_cases hjk : j = k
      · subst hjk
        by_cases hmi : m = i
        · subst hmi
          -- twins
          let M : Int → Prop := fun o => L o ∧ o ≠ m ∧ o ≠ j
          have e1 : Del L j = Add M m := funext fun o => propext ⟨fun h3 => (Classical.em (o = m)).elim .inr fun z => .inl ⟨h3.1, z, h3.2⟩, fun h3 => h3.elim (fun z => ⟨z.1, z.2.2⟩) fun z => by rw [z]; exact ⟨iL, hik⟩⟩
          have e2 : Del L m = Add M j := funext fun o => propext ⟨fun h3 => (Classical.em (o = j)).elim .inr fun z => .inl ⟨h3.1, h3.2, z⟩, fun h3 => h3.elim (fun z => ⟨z.1, z.2.1⟩) fun z => by rw [z]; exact ⟨kL, Ne.symm hik⟩⟩
          rw [e2]
          refine red_swap hD h2 M m j e1 (fun z => z.2.1 rfl) (fun z => z.2.2 rfl) hik iK kK fun x o ho hx => ⟨fun h3 => hiw x ⟨h3, o, ho.1, ho.2.1, hx⟩, fun h3 => hkw x ⟨h3, o, ho.1, ho.2.2, hx⟩⟩
        · exact both (wi m hm hmk hmi hiw hkw) ⟨⟨kL, Ne.symm hik⟩, kK, m, ⟨hm, hmi⟩, hmk, fun x hx => hkw x (up hx)⟩
      · have h3 : Rem A K (Del L k) i := ⟨⟨iL, hik⟩, iK, j, ⟨hj, hjk⟩, hji, fun x hx => hiw x (up hx)⟩
        by_cases hmi : m = i
        · subst hmi
          exact both h3 (wk j hj hji hjk hkw hiw)
        · exact both h3 ⟨⟨kL, Ne.symm hik⟩, kK, m, ⟨hm, hmi⟩, hmk, fun x hx => hkw x (up hx)⟩
end
end K44
set_option Elab.async false
set_option linter.all false
set_option maxRecDepth 100000
set_option maxHeartbeats 4000000
namespace K44
open PySem PySem.Spec PyProof.Rows L2 MT
open SX (S)
local macro_rules | `(tactic| walk_at "mt") => `(tactic| simp only [L2.start, List.map_cons, List.map_nil, List.length_cons, List.length_nil, List.replicate_succ, List.replicate_zero, Nat.reduceSub, Nat.reduceAdd, Nat.sub_self, Nat.zero_add, List.cons_append, List.nil_append, List.append_nil, List.getElem?_cons_zero, List.getElem?_cons_succ, List.set_cons_zero, List.set_cons_succ, Option.some.injEq, exists_eq_left', exists_eq_left, exists_eq_right, V.bl.injEq, V.int.injEq, V.str.injEq, V.ref.injEq, reduceCtorEq, false_and, and_false, true_and, and_true, false_or, or_false, exists_false, exists_const, ↓reduceIte, Bool.false_eq_true, decide_eq_true_eq, Bool.and_eq_true, Bool.not_true, Bool.not_false, List.cons.injEq, exists_and_left, exists_and_right,
  tRet, rInM, rNeI, rSortM, rIndexM, rRepM, rSetDM, rListDM, rPopAtM, tLstRg, tRg1, tDIn, tBM, tBM0, tAndV, tOrV, tNotV, tAnd, tOr, tNot, tB, tTest, tIf, tIfS, tC, tVar, tOp, tUn, tChain, rI0, rI, rU, tFn, tCons, tNil, tCB, tTup, tLst, tAsg, gName, tNext, tDrop, tRetN, tPar, tPar3, tAug, tReplC, tRevS, rLenM2, rIsBM, tDNotIn, tDGet, rSumM, rMaxM, rMinM, gSub, rSetL, tRaiseO, tFnW, tXf, gTup, gUnl, gCons, gNil, rPopM, rAppendM, rExtendM, rTupM, rListM, ipI, tIs, tIss, rLenM, rIxM, rAddM, rEqM, rNeM, rSignIn, rInt, rAbs, rStrI, tSl, tPart, tNoPart, rSlM, tIsN, tNotN, List.any_cons, List.any_nil, Bool.or_false, tSeq, isa, D.ty, decide_true, decide_false, Bool.true_or, Bool.or_true, Bool.false_or, Bool.and_true, Bool.true_and, Bool.false_and, Bool.and_false, eq_self_iff_true, not_true_eq_false, not_false_eq_true, bne_self_eq_false])
section
variable {A : List (List Int)} {kept : List Int} {left : List Int} {Done : (Int → Prop) → Prop}
abbrev mem (l : List Int) : Int → Prop := fun o => o ∈ l
theorem shr_iff {i x : Int} : x ∈ shd A left i ↔ Shr A (mem left) i x := by
  unfold shd Shr oth
  rw [List.mem_filter, decide_eq_true_eq, List.mem_flatMap]
  constructor
  · rintro ⟨h1, o, h2, h3⟩
    have h4 := List.mem_filter.mp h2
    exact ⟨h1, o, h4.1, by simpa using h4.2, h3⟩
  · rintro ⟨h1, o, h2, h3, h4⟩
    exact ⟨h1, o, List.mem_filter.mpr ⟨h2, by simpa using h3⟩, h4⟩
theorem fits_iff {i o : Int} : fits A left kept i o = true ↔ o ≠ i ∧ i ∉ kept ∧ ∀ x, Shr A (mem left) i x → x ∈ vat A o := by
  unfold fits
  simp only [Bool.and_eq_true, Bool.not_eq_true', decide_eq_false_iff_not, List.all_eq_true, decide_eq_true_eq]
  exact ⟨fun ⟨h1, h2, h3⟩ => ⟨h1, h2, fun x hx => h3 x (shr_iff.mpr hx)⟩, fun ⟨h1, h2, h3⟩ => ⟨h1, h2, fun x hx => h3 x (shr_iff.mp hx)⟩⟩
theorem rem_of {i o : Int} (h : nextOut A left kept = some (i, o)) : Rem A kept (mem left) i := by
  obtain ⟨h1, h2, h3⟩ := nextOut_in h
  obtain ⟨h4, h5, h6⟩ := fits_iff.mp h3
  exact ⟨h1, h5, o, h2, h4, h6⟩
theorem no_rem (h : nextOut A left kept = none) (i : Int) : ¬ Rem A kept (mem left) i := by
  rintro ⟨h1, h2, o, h3, h4, h5⟩
  unfold nextOut at h
  rw [List.findSome?_eq_none_iff] at h
  have h6 := h i h1
  rw [List.findSome?_eq_none_iff] at h6
  have h7 := h6 o h3
  rw [if_pos (fits_iff.mpr ⟨h4, h2, h5⟩)] at h7
  cases h7
theorem mem_less {i : Int} : mem (less left i) = Del (mem left) i := funext fun o => propext (by
  unfold less mem Del
  rw [List.mem_filter]
  simp)
theorem strike_sub (f : Nat) : ∀ left : List Int, (strike A kept f left).2.Sublist left := by
  induction f with
  | zero => intro left; exact List.Sublist.refl _
  | succ f ih =>
    intro left
    rw [strike]
    split
    · exact List.Sublist.refl _
    · exact (ih _).trans List.filter_sublist
theorem strike_end : ∀ (f : Nat) (left : List Int), left.length ≤ f → nextOut A (strike A kept f left).2 kept = none := by
  intro f
  induction f with
  | zero =>
    intro left h
    have : left = [] := List.length_eq_zero_iff.mp (by omega)
    subst this; rfl
  | succ f ih =>
    intro left h
    cases q : nextOut A left kept with
    | none => simp only [strike, q]
    | some p =>
      obtain ⟨i, o⟩ := p
      simp only [strike, q]
      exact ih _ (by have := less_len (nextOut_in q).1; omega)
/-- a law of ends -/
structure EndL (A : List (List Int)) (K : List Int) (Done : (Int → Prop) → Prop) : Prop where
  sw : ∀ M i k, ¬ M i → ¬ M k → i ≠ k → i ∉ K → k ∉ K → Done (Add M i) → Done (Add M k)
  no : ∀ L i, Done L → ¬ Rem A K L i
theorem strike_iff (hE : EndL A kept Done) : ∀ (f : Nat) (left : List Int), left.length ≤ f → (Done (mem (strike A kept f left).2) ↔ Red A kept Done (mem left)) := by
  intro f
  induction f with
  | zero =>
    intro left h
    have : left = [] := List.length_eq_zero_iff.mp (by omega)
    subst this
    refine ⟨.done, fun h => ?_⟩
    cases h with
    | done h => exact h
    | step h _ => cases h.1
  | succ f ih =>
    intro left h
    cases q : nextOut A left kept with
    | none =>
      simp only [strike, q]
      refine ⟨.done, fun h => ?_⟩
      cases h with
      | done h => exact h
      | step h _ => exact absurd h (no_rem q _)
    | some p =>
      obtain ⟨i, o⟩ := p
      simp only [strike, q]
      have hr := rem_of q
      rw [ih _ (by have := less_len (nextOut_in q).1; omega), mem_less]
      exact ⟨fun h => .step hr h, fun h => red_rem hE.sw hE.no h i hr⟩
def One (L : Int → Prop) : Prop := ∀ a b, L a → L b → a = b
theorem end_one : EndL A kept One := by
  refine ⟨fun M i k hi hk hik _ _ h a b ha hb => ?_, fun L i h hr => ?_⟩
  · have none_ : ∀ o, ¬ M o := fun o ho => hi (by rw [← h o i (.inl ho) (.inr rfl)]; exact ho)
    rw [ha.resolve_left (none_ a), hb.resolve_left (none_ b)]
  · obtain ⟨h1, _, j, h3, h4, _⟩ := hr
    exact h4 (h j i h3 h1)
def Eqs (ns : List Int) (L : Int → Prop) : Prop := ∀ o, L o ↔ o ∈ ns
theorem end_eqs : EndL A kept (Eqs kept) := by
  refine ⟨fun M i k hi hk hik ki kk h => ?_, fun L i h hr => hr.2.1 ((h i).mp hr.1)⟩
  exact absurd ((h i).mp (.inr rfl)) ki
theorem one_iff {l : List Int} (h : l.Nodup) : One (mem l) ↔ l.length ≤ 1 := by
  match l, h with
  | [], _ => exact ⟨fun _ => Nat.zero_le _, fun _ a _ ha => by cases ha⟩
  | [x], _ => exact ⟨fun _ => Nat.le_refl _, fun _ a b ha hb => by rw [List.mem_singleton.mp ha, List.mem_singleton.mp hb]⟩
  | x :: y :: l, h =>
    refine ⟨fun h2 => ?_, fun h2 => by simp at h2⟩
    have := h2 x y List.mem_cons_self (List.mem_cons_of_mem _ List.mem_cons_self)
    subst this
    exact absurd List.mem_cons_self (List.nodup_cons.mp h).1
theorem rng_asc (n : Nat) : (rng n).Pairwise (· < ·) := by
  unfold rng
  rw [List.pairwise_map]
  exact (List.pairwise_lt_range).imp fun h => by omega
theorem asc_nodup {l : List Int} (h : l.Pairwise (· < ·)) : l.Nodup := h.imp fun h => by omega
/-- whether more than one are left does not hang on the order -/
theorem order_free {o1 o2 : List Int} (h1 : o1.Nodup) (h2 : o2.Nodup) (h : ∀ i, i ∈ o1 ↔ i ∈ o2) : (strike A kept o1.length o1).2.length ≤ 1 ↔ (strike A kept o2.length o2).2.length ≤ 1 := by
  have e : mem o1 = mem o2 := funext fun i => propext (h i)
  rw [← one_iff (h1.sublist (strike_sub _ _)), ← one_iff (h2.sublist (strike_sub _ _)), strike_iff end_one _ _ (Nat.le_refl _), strike_iff end_one _ _ (Nat.le_refl _), e]
theorem asc_eq {l m : List Int} (hl : l.Pairwise (· < ·)) (hm : m.Pairwise (· < ·)) (h : ∀ i, i ∈ l ↔ i ∈ m) : l = m :=
  perm_sorted ((List.perm_ext_iff_of_nodup (asc_nodup hl) (asc_nodup hm)).mpr h) (hl.imp fun h => by omega) (hm.imp fun h => by omega)
theorem last_none {ns : List Int} : (nextOut A ns []).isNone = decide ((strike A [] ns.length ns).2.Perm ns) := by
  cases q : nextOut A ns [] with
  | none => rw [strike_none q]; simp
  | some p =>
    obtain ⟨i, o⟩ := p
    rw [strike_some q]
    symm
    rw [Option.isNone_some, decide_eq_false_iff_not]
    intro h
    have h1 : (strike A [] (less ns i).length (less ns i)).2.length = ns.length := h.length_eq
    have h2 := (strike_sub (A := A) (kept := []) (less ns i).length (less ns i)).length_le
    have h3 := less_len (nextOut_in q).1
    omega
theorem ring_left {e : D} : ringB A e = leftB A e := by
  unfold ringB leftB
  cases itemsD e with
  | none => rfl
  | some ds =>
    have e1 : ∀ d, btw 0 ((A.length : Int) - 1) d = blwD A.length d := fun d => by
      cases d with
      | int i => simp only [btw, blwD]; congr 1; exact decide_eq_decide.mpr (by omega)
      | _ => rfl
    have e2 : ds.all (btw 0 ((A.length : Int) - 1)) = ds.all (blwD A.length) := congrArg (fun f => ds.all f) (funext e1)
    show (_ && (_ && ringN A (ds.map intD))) = (_ && (_ && leftN A (ds.map intD)))
    rw [e2]
    have e3 : ringN A (ds.map intD) = leftN A (ds.map intD) := by
      generalize ds.map intD = ns
      unfold ringN leftN
      cases hasc : ascB ns with
      | false => rfl
      | true =>
        rw [Bool.true_and, Bool.true_and, last_none]
        congr 1
        have ha := (asc_iff ns).mp hasc
        have h1 := strike_iff (A := A) (end_eqs (kept := ns)) A.length (rng A.length) (by rw [rng_len]; exact Nat.le_refl _)
        have h2 := strike_iff (A := A) (end_eqs (kept := ns)) A.length (rng A.length).reverse (by rw [List.length_reverse, rng_len]; exact Nat.le_refl _)
        have e4 : mem (rng A.length).reverse = mem (rng A.length) := funext fun i => propext List.mem_reverse
        rw [e4] at h2
        refine decide_eq_decide.mpr ⟨fun h => ?_, fun h => ?_⟩
        · have h3 : Eqs ns (mem (strike A ns A.length (rng A.length)).2) := fun o => by show o ∈ (struck A ns).2 ↔ _; rw [h]
          have h4 := h2.mpr (h1.mp h3)
          exact (List.perm_ext_iff_of_nodup (((List.reverse_perm _).symm.nodup (asc_nodup (rng_asc _))).sublist (strike_sub _ _)) (asc_nodup ha)).mpr h4
        · have h3 : Eqs ns (mem (strike A ns A.length (rng A.length).reverse).2) := fun o => h.mem_iff
          exact asc_eq ((rng_asc _).sublist (strike_sub _ _)) ha (h1.mpr (h2.mp h3))
    rw [e3]
end
end K44
set_option Elab.async false
set_option linter.all false
set_option maxRecDepth 100000
set_option maxHeartbeats 4000000
namespace K44
open PySem PySem.Spec PyProof.Rows L2 MT
open SX (S)
local macro_rules | `(tactic| walk_at "mt") => `(tactic| simp only [L2.start, List.map_cons, List.map_nil, List.length_cons, List.length_nil, List.replicate_succ, List.replicate_zero, Nat.reduceSub, Nat.reduceAdd, Nat.sub_self, Nat.zero_add, List.cons_append, List.nil_append, List.append_nil, List.getElem?_cons_zero, List.getElem?_cons_succ, List.set_cons_zero, List.set_cons_succ, Option.some.injEq, exists_eq_left', exists_eq_left, exists_eq_right, V.bl.injEq, V.int.injEq, V.str.injEq, V.ref.injEq, reduceCtorEq, false_and, and_false, true_and, and_true, false_or, or_false, exists_false, exists_const, ↓reduceIte, Bool.false_eq_true, decide_eq_true_eq, Bool.and_eq_true, Bool.not_true, Bool.not_false, List.cons.injEq, exists_and_left, exists_and_right,
  tRet, rInM, rNeI, rSortM, rIndexM, rRepM, rSetDM, rListDM, rPopAtM, tLstRg, tRg1, tDIn, tBM, tBM0, tAndV, tOrV, tNotV, tAnd, tOr, tNot, tB, tTest, tIf, tIfS, tC, tVar, tOp, tUn, tChain, rI0, rI, rU, tFn, tCons, tNil, tCB, tTup, tLst, tAsg, gName, tNext, tDrop, tRetN, tPar, tPar3, tAug, tReplC, tRevS, rLenM2, rIsBM, tDNotIn, tDGet, rSumM, rMaxM, rMinM, gSub, rSetL, tRaiseO, tFnW, tXf, gTup, gUnl, gCons, gNil, rPopM, rAppendM, rExtendM, rTupM, rListM, ipI, tIs, tIss, rLenM, rIxM, rAddM, rEqM, rNeM, rSignIn, rInt, rAbs, rStrI, tSl, tPart, tNoPart, rSlM, tIsN, tNotN, List.any_cons, List.any_nil, Bool.or_false, tSeq, isa, D.ty, decide_true, decide_false, Bool.true_or, Bool.or_true, Bool.false_or, Bool.and_true, Bool.true_and, Bool.false_and, Bool.and_false, eq_self_iff_true, not_true_eq_false, not_false_eq_true, bne_self_eq_false])
section
variable {A : List (List Int)}
theorem red_own : ∀ (f : Nat) (left : List Int), left.length ≤ f → Red A (strike A [] f left).2 (Eqs (strike A [] f left).2) (mem left) := by
  intro f
  induction f with
  | zero =>
    intro left h
    have : left = [] := List.length_eq_zero_iff.mp (by omega)
    subst this
    exact .done fun o => Iff.rfl
  | succ f ih =>
    intro left h
    cases q : nextOut A left [] with
    | none =>
      have e : strike A [] (f + 1) left = ([], left) := by simp only [strike, q]
      rw [e]
      exact .done fun o => Iff.rfl
    | some p =>
      obtain ⟨i, o⟩ := p
      have e : (strike A [] (f + 1) left).2 = (strike A [] f (less left i)).2 := by simp only [strike, q]
      rw [e]
      obtain ⟨h1, _, h3⟩ := rem_of q
      have hn : i ∉ (strike A [] f (less left i)).2 := fun z => by
        have := (strike_sub f (less left i)).subset z
        have h5 := (List.mem_filter.mp this).2
        simp at h5
      refine .step (i := i) ⟨h1, hn, h3⟩ ?_
      rw [← mem_less]
      exact ih _ (by have := less_len (nextOut_in q).1; omega)
theorem struck_asc {kept : List Int} : (struck A kept).2.Pairwise (· < ·) := (rng_asc _).sublist (strike_sub _ _)
theorem struck_in {kept : List Int} : InR A (struck A kept).2 := fun i hi => inR_rng i ((strike_sub _ _).subset hi)
theorem ring_end (h : 1 < (struck A []).2.length) : 3 ≤ (struck A []).2.length ∧ leftN A (struck A []).2 = true := by
  have hend : nextOut A (struck A []).2 [] = none := strike_end _ _ (by rw [rng_len]; exact Nat.le_refl _)
  have hasc := struck_asc (A := A) (kept := [])
  have hown := red_own (A := A) A.length (rng A.length) (by rw [rng_len]; exact Nat.le_refl _)
  refine ⟨?_, ?_⟩
  · generalize (struck A []).2 = ns at h hend hasc
    match ns, h with
    | [a, b], _ =>
      exfalso
      have hab : a < b := (List.pairwise_cons.mp hasc).1 b (by simp)
      refine no_rem hend a ⟨by simp [mem], by simp, b, by simp [mem], by omega, fun x ⟨_, o, ho, hoa, hx⟩ => ?_⟩
      rcases List.mem_cons.mp ho with z | z
      · exact absurd z hoa
      · rw [← List.mem_singleton.mp z]; exact hx
    | a :: b :: c :: ns, _ => simp
  · unfold leftN
    rw [(asc_iff _).mpr hasc, Bool.true_and, ← last_none, hend, Option.isNone_none, Bool.and_true, decide_eq_true_eq]
    have h2 := strike_iff (A := A) (end_eqs (kept := (struck A []).2)) A.length (rng A.length).reverse (by rw [List.length_reverse, rng_len]; exact Nat.le_refl _)
    have e4 : mem (rng A.length).reverse = mem (rng A.length) := funext fun i => propext List.mem_reverse
    rw [e4] at h2
    exact (List.perm_ext_iff_of_nodup (((List.reverse_perm _).symm.nodup (asc_nodup (rng_asc _))).sublist (strike_sub _ _)) (asc_nodup hasc)).mpr (h2.mpr hown)
theorem left_ok (h : 1 < (struck A []).2.length) : leftB A (.lst ((struck A []).2.map D.int)) = true := by
  obtain ⟨h3, hl⟩ := ring_end h
  have hin := struck_in (A := A) (kept := [])
  generalize (struck A []).2 = ns at *
  have e1 : (ns.map D.int).map intD = ns := by rw [List.map_map]; exact List.map_id' ns
  have e2 : (ns.map D.int).all (blwD A.length) = true := by
    rw [List.all_eq_true]
    intro d hd
    obtain ⟨i, hi, rfl⟩ := List.mem_map.mp hd
    have := hin i hi
    simp only [blwD, Bool.and_eq_true, decide_eq_true_eq]
    exact this
  simp only [leftB, itemsD, e1, e2, hl, Bool.and_true, List.length_map, decide_eq_true_eq]
  exact h3
/-! ### what the links hold together -/
def Cl (ps : List (Int × Int)) (S M : Int → Prop) : Prop := ∀ p ∈ ps, S p.1 → S p.2 → (M p.1 ↔ M p.2)
def Conn (ps : List (Int × Int)) (S : Int → Prop) : Prop := ∀ M : Int → Prop, Cl ps S M → (∃ v, S v ∧ M v) → ∀ v, S v → M v
theorem sub_len {l : List Int} : ∀ {m : List Int}, l.Nodup → (∀ x ∈ l, x ∈ m) → l.length ≤ m.length := by
  induction l with
  | nil => intro m _ _; exact Nat.zero_le _
  | cons x l ih =>
    intro m hn h
    obtain ⟨h1, h2⟩ := List.nodup_cons.mp hn
    have h3 := ih (m := m.erase x) h2 fun y hy => (List.mem_erase_of_ne (fun z => h1 (by rw [← z]; exact hy))).mpr (h y (List.mem_cons_of_mem _ hy))
    have h4 := h x List.mem_cons_self
    rw [List.length_erase_of_mem h4] at h3
    have h5 := List.length_pos_of_mem h4
    rw [List.length_cons]
    omega
structure MetI (has : List Int) (ps : List (Int × Int)) (h0 : Int) (met : List Int) : Prop where
  nd : met.Nodup
  sub : ∀ x ∈ met, x ∈ has
  eqv : ∀ M : Int → Prop, Cl ps (mem has) M → ∀ x ∈ met, (M x ↔ M h0)
theorem met_step {has met : List Int} {ps : List (Int × Int)} {h0 : Int} {p : Int × Int} (h : MetI has ps h0 met) (hp : p ∈ ps) : MetI has ps h0 (metStep has met p) := by
  unfold metStep
  split
  · rename_i hc
    simp only [Bool.and_eq_true, decide_eq_true_eq, Bool.not_eq_true', decide_eq_false_iff_not] at hc
    obtain ⟨c1, c2, c3⟩ := hc
    by_cases h1 : p.1 ∈ met
    · have h2 : p.2 ∉ met := fun z => c3 (by simp [h1, z])
      rw [if_pos (decide_eq_true h1)]
      refine ⟨List.nodup_append.mpr ⟨h.nd, by simp, fun a ha b hb => by rw [List.mem_singleton.mp hb]; exact fun z => h2 (by rw [← z]; exact ha)⟩, fun x hx => ?_, fun M hM x hx => ?_⟩
      · rcases List.mem_append.mp hx with hx | hx
        · exact h.sub x hx
        · rw [List.mem_singleton.mp hx]; exact c2
      · rcases List.mem_append.mp hx with hx | hx
        · exact h.eqv M hM x hx
        · rw [List.mem_singleton.mp hx, ← hM p hp c1 c2]; exact h.eqv M hM _ h1
    · have h2 : p.2 ∈ met := Classical.byContradiction fun z => c3 (by simp [h1, z])
      rw [if_neg (by simp [h1])]
      refine ⟨List.nodup_append.mpr ⟨h.nd, by simp, fun a ha b hb => by rw [List.mem_singleton.mp hb]; exact fun z => h1 (by rw [← z]; exact ha)⟩, fun x hx => ?_, fun M hM x hx => ?_⟩
      · rcases List.mem_append.mp hx with hx | hx
        · exact h.sub x hx
        · rw [List.mem_singleton.mp hx]; exact c1
      · rcases List.mem_append.mp hx with hx | hx
        · exact h.eqv M hM x hx
        · rw [List.mem_singleton.mp hx, hM p hp c1 c2]; exact h.eqv M hM _ h2
  · exact h
theorem met_fold {has : List Int} {qs : List (Int × Int)} {h0 : Int} : ∀ (ps : List (Int × Int)) (met : List Int), (∀ p ∈ ps, p ∈ qs) → MetI has qs h0 met → MetI has qs h0 (ps.foldl (metStep has) met)
  | [], _, _, h => h
  | p :: ps, met, hs, h => met_fold ps _ (fun q hq => hs q (List.mem_cons_of_mem _ hq)) (met_step h (hs p List.mem_cons_self))
theorem metN_inv {has : List Int} {ps : List (Int × Int)} {h0 : Int} {m0 : List Int} (h : MetI has ps h0 m0) : ∀ k, MetI has ps h0 (metN has ps k m0)
  | 0 => h
  | k + 1 => met_fold ps _ (fun _ hp => hp) (metN_inv h k)
theorem step_ge {has met : List Int} {p : Int × Int} : met.length ≤ (metStep has met p).length := by
  unfold metStep
  split
  · rw [List.length_append]; omega
  · exact Nat.le_refl _
theorem fold_ge {has : List Int} : ∀ (ps : List (Int × Int)) (met : List Int), met.length ≤ (ps.foldl (metStep has) met).length
  | [], _ => Nat.le_refl _
  | p :: ps, met => Nat.le_trans step_ge (fold_ge ps _)
/-- a round that adds nothing: nothing is left to add -/
theorem fold_fix {has : List Int} : ∀ (ps : List (Int × Int)) (met : List Int), (ps.foldl (metStep has) met).length = met.length → ps.foldl (metStep has) met = met ∧ ∀ p ∈ ps, p.1 ∈ has → p.2 ∈ has → (p.1 ∈ met ↔ p.2 ∈ met)
  | [], _, _ => ⟨rfl, by simp⟩
  | p :: ps, met, h => by
    rw [List.foldl_cons] at h ⊢
    have h1 := fold_ge (has := has) ps (metStep has met p)
    have h2 := step_ge (has := has) (met := met) (p := p)
    have e : metStep has met p = met := by
      unfold metStep at h1 h2 h ⊢
      split
      · rename_i hc
        rw [if_pos hc, List.length_append, List.length_singleton] at h1
        rw [if_pos hc] at h
        omega
      · rfl
    rw [e] at h ⊢
    obtain ⟨h3, h4⟩ := fold_fix ps met h
    refine ⟨h3, fun q hq q1 q2 => ?_⟩
    rcases List.mem_cons.mp hq with rfl | hq
    · unfold metStep at e
      split at e
      · have := congrArg List.length e
        rw [List.length_append, List.length_singleton] at this
        omega
      · rename_i hc
        simp only [Bool.and_eq_true, decide_eq_true_eq, Bool.not_eq_true', decide_eq_false_iff_not, not_and, Classical.not_not] at hc
        exact decide_eq_decide.mp (hc q1 q2)
    · exact h4 q hq q1 q2
theorem metN_fix {has : List Int} {ps : List (Int × Int)} {m0 : List Int} : ∀ k, m0.length + k ≤ (metN has ps k m0).length ∨ ps.foldl (metStep has) (metN has ps k m0) = metN has ps k m0
  | 0 => .inl (Nat.le_refl _)
  | k + 1 => by
    rcases metN_fix (has := has) (ps := ps) (m0 := m0) k with h | h
    · by_cases e : (ps.foldl (metStep has) (metN has ps k m0)).length = (metN has ps k m0).length
      · have := (fold_fix ps _ e).1
        refine .inr ?_
        rw [metN, this, this]
      · have := fold_ge (has := has) ps (metN has ps k m0)
        refine .inl ?_
        rw [metN]
        omega
    · refine .inr ?_
      rw [metN, h, h]
theorem conn_iff {has : List Int} {ps : List (Int × Int)} {n : Nat} (hn : has.Nodup) (hl : has.length ≤ n) : (metN has ps n (has.take 1)).length = has.length ↔ Conn ps (mem has) := by
  cases has with
  | nil =>
    refine ⟨fun _ M _ ⟨v, hv, _⟩ => (by cases hv), fun _ => ?_⟩
    have h0 : MetI [] ps 0 [] := ⟨List.nodup_nil, by simp, by simp⟩
    have h1 := metN_inv h0 n
    have : metN [] ps n [] = [] := List.eq_nil_iff_forall_not_mem.mpr fun x hx => by cases h1.sub x hx
    show (metN [] ps n []).length = 0
    rw [this]; rfl
  | cons h0 has =>
    have hI : MetI (h0 :: has) ps h0 [h0] := ⟨by simp, by simp, fun M _ x hx => by rw [List.mem_singleton.mp hx]⟩
    have h1 := metN_inv hI n
    have fix : ps.foldl (metStep (h0 :: has)) (metN (h0 :: has) ps n [h0]) = metN (h0 :: has) ps n [h0] := by
      rcases metN_fix (has := h0 :: has) (ps := ps) (m0 := [h0]) n with h | h
      · have := sub_len h1.nd h1.sub
        simp at h
        simp at this hl
        omega
      · exact h
    have cl := (fold_fix ps _ (by rw [fix])).2
    have h0m : h0 ∈ metN (h0 :: has) ps n [h0] := by
      have : ∀ k, h0 ∈ metN (h0 :: has) ps k [h0] := by
        have st : ∀ (qs : List (Int × Int)) (m : List Int), h0 ∈ m → h0 ∈ qs.foldl (metStep (h0 :: has)) m := by
          intro qs
          induction qs with
          | nil => intro m h; exact h
          | cons q qs ih =>
            intro m h
            refine ih _ ?_
            unfold metStep
            split
            · exact List.mem_append_left _ h
            · exact h
        intro k
        induction k with
        | zero => simp [metN]
        | succ k ih => exact st ps _ ih
      exact this n
    show (metN (h0 :: has) ps n [h0]).length = _ ↔ _
    generalize metN (h0 :: has) ps n [h0] = met at *
    refine ⟨fun he M hM ⟨v, hv, hv2⟩ w hw => ?_, fun hC => ?_⟩
    · have all : ∀ x ∈ h0 :: has, x ∈ met := fun x hx => Classical.byContradiction fun z => by
        have := sub_len (l := x :: met) (m := h0 :: has) (List.nodup_cons.mpr ⟨z, h1.nd⟩) fun y hy => (List.mem_cons.mp hy).elim (fun e => by rw [e]; exact hx) (h1.sub y)
        simp at this he
        omega
      exact (h1.eqv M hM w (all w hw)).mpr ((h1.eqv M hM v (all v hv)).mp hv2)
    · have all := hC (mem met) (fun p hp a b => cl p hp a b) ⟨h0, List.mem_cons_self, h0m⟩
      exact ((List.perm_ext_iff_of_nodup h1.nd hn).mpr fun x => ⟨h1.sub x, all x⟩).length_eq
end
end K44
set_option Elab.async false
set_option linter.all false
set_option maxRecDepth 100000
set_option maxHeartbeats 4000000
namespace K44
open PySem PySem.Spec PyProof.Rows L2 MT
open SX (S)
local macro_rules | `(tactic| walk_at "mt") => `(tactic| simp only [L2.start, List.map_cons, List.map_nil, List.length_cons, List.length_nil, List.replicate_succ, List.replicate_zero, Nat.reduceSub, Nat.reduceAdd, Nat.sub_self, Nat.zero_add, List.cons_append, List.nil_append, List.append_nil, List.getElem?_cons_zero, List.getElem?_cons_succ, List.set_cons_zero, List.set_cons_succ, Option.some.injEq, exists_eq_left', exists_eq_left, exists_eq_right, V.bl.injEq, V.int.injEq, V.str.injEq, V.ref.injEq, reduceCtorEq, false_and, and_false, true_and, and_true, false_or, or_false, exists_false, exists_const, ↓reduceIte, Bool.false_eq_true, decide_eq_true_eq, Bool.and_eq_true, Bool.not_true, Bool.not_false, List.cons.injEq, exists_and_left, exists_and_right,
  tRet, rInM, rNeI, rSortM, rIndexM, rRepM, rSetDM, rListDM, rPopAtM, tLstRg, tRg1, tDIn, tBM, tBM0, tAndV, tOrV, tNotV, tAnd, tOr, tNot, tB, tTest, tIf, tIfS, tC, tVar, tOp, tUn, tChain, rI0, rI, rU, tFn, tCons, tNil, tCB, tTup, tLst, tAsg, gName, tNext, tDrop, tRetN, tPar, tPar3, tAug, tReplC, tRevS, rLenM2, rIsBM, tDNotIn, tDGet, rSumM, rMaxM, rMinM, gSub, rSetL, tRaiseO, tFnW, tXf, gTup, gUnl, gCons, gNil, rPopM, rAppendM, rExtendM, rTupM, rListM, ipI, tIs, tIss, rLenM, rIxM, rAddM, rEqM, rNeM, rSignIn, rInt, rAbs, rStrI, tSl, tPart, tNoPart, rSlM, tIsN, tNotN, List.any_cons, List.any_nil, Bool.or_false, tSeq, isa, D.ty, decide_true, decide_false, Bool.true_or, Bool.or_true, Bool.false_or, Bool.and_true, Bool.true_and, Bool.false_and, Bool.and_false, eq_self_iff_true, not_true_eq_false, not_false_eq_true, bne_self_eq_false])
section
variable {A : List (List Int)}
theorem Conn.mono {ps qs : List (Int × Int)} {S : Int → Prop} (h : Conn ps S) (hs : ∀ p ∈ ps, p ∈ qs) : Conn qs S := fun M hM => h M fun p hp => hM p (hs p hp)
theorem Conn.congr {ps : List (Int × Int)} {S T : Int → Prop} (h : Conn ps S) (e : ∀ o, S o ↔ T o) : Conn ps T := by
  have : S = T := funext fun o => propext (e o)
  rw [← this]; exact h
theorem strike_conn (P : Int → Prop) (hP : ∀ (L : Int → Prop) i o, (∀ x, Shr A L i x → x ∈ vat A o) → P i → (∃ u, L u ∧ u ≠ i ∧ P u) → P o) : ∀ (f : Nat) (left : List Int), left.length ≤ f → left.Nodup → (strike A [] f left).2.length ≤ 1 → Conn (strike A [] f left).1 (fun o => o ∈ left ∧ P o) := by
  intro f
  have single : ∀ (ps : List (Int × Int)) (left : List Int), left.Nodup → left.length ≤ 1 → Conn ps (fun o => o ∈ left ∧ P o) := fun ps left hn h M _ ⟨v, hv, hm⟩ w hw => by
    have := (one_iff hn).mpr h w v hw.1 hv.1
    rw [this]; exact hm
  induction f with
  | zero =>
    intro left h hn hl
    exact single _ _ hn (by omega)
  | succ f ih =>
    intro left h hn hl
    cases q : nextOut A left [] with
    | none =>
      have e : strike A [] (f + 1) left = ([], left) := by simp only [strike, q]
      rw [e] at hl ⊢
      exact single _ _ hn hl
    | some p =>
      obtain ⟨i, o⟩ := p
      have e : strike A [] (f + 1) left = ((i, o) :: (strike A [] f (less left i)).1, (strike A [] f (less left i)).2) := by simp only [strike, q]
      rw [e] at hl ⊢
      obtain ⟨hi, ho, hf⟩ := nextOut_in q
      obtain ⟨hoi, _, hw⟩ := fits_iff.mp hf
      have hc := ih (less left i) (by have := less_len hi; omega) (hn.sublist List.filter_sublist) hl
      have ml : ∀ o, o ∈ less left i ↔ o ∈ left ∧ o ≠ i := fun o => by
        have := congrFun (mem_less (left := left) (i := i)) o
        exact iff_of_eq this
      intro M hM ⟨v, hv, hmv⟩
      have hM' : Cl (strike A [] f (less left i)).1 (fun o => o ∈ less left i ∧ P o) M := fun p hp h1 h2 => hM p (List.mem_cons_of_mem _ hp) ⟨((ml _).mp h1.1).1, h1.2⟩ ⟨((ml _).mp h2.1).1, h2.2⟩
      have all : (∃ u, (u ∈ less left i ∧ P u) ∧ M u) → ∀ u, u ∈ less left i ∧ P u → M u := hc M hM'
      have lk : P i → P o → (M i ↔ M o) := fun h1 h2 => hM (i, o) List.mem_cons_self ⟨hi, h1⟩ ⟨ho, h2⟩
      have ol : o ∈ less left i := (ml o).mpr ⟨ho, hoi⟩
      by_cases hu : ∃ u, u ∈ less left i ∧ P u
      · have hPo : P i → P o := fun h1 => by
          obtain ⟨u, hu1, hu2⟩ := hu
          exact hP (mem left) i o hw h1 ⟨u, ((ml u).mp hu1).1, ((ml u).mp hu1).2, hu2⟩
        have hex : ∃ u, (u ∈ less left i ∧ P u) ∧ M u := by
          by_cases hvi : v = i
          · subst hvi
            exact ⟨o, ⟨ol, hPo hv.2⟩, (lk hv.2 (hPo hv.2)).mp hmv⟩
          · exact ⟨v, ⟨(ml v).mpr ⟨hv.1, hvi⟩, hv.2⟩, hmv⟩
        have hall := all hex
        intro w hw2
        by_cases hwi : w = i
        · subst hwi
          exact (lk hw2.2 (hPo hw2.2)).mpr (hall o ⟨ol, hPo hw2.2⟩)
        · exact hall w ⟨(ml w).mpr ⟨hw2.1, hwi⟩, hw2.2⟩
      · intro w hw2
        have hwi : w = i := Classical.byContradiction fun z => hu ⟨w, (ml w).mpr ⟨hw2.1, z⟩, hw2.2⟩
        have hvi : v = i := Classical.byContradiction fun z => hu ⟨v, (ml v).mpr ⟨hv.1, z⟩, hv.2⟩
        rw [hwi, ← hvi]; exact hmv
/-- the pairs of a strike -/
theorem strike_pairs : ∀ (f : Nat) (left : List Int), left.length ≤ f → left.Nodup → (∀ p ∈ (strike A [] f left).1, p.1 ∈ left ∧ p.2 ∈ left) ∧ ((strike A [] f left).1.map Prod.fst).Nodup ∧ (strike A [] f left).1.length + (strike A [] f left).2.length = left.length ∧ (left ≠ [] → (strike A [] f left).2 ≠ []) := by
  intro f
  induction f with
  | zero =>
    intro left h hn
    have : left = [] := List.length_eq_zero_iff.mp (by omega)
    subst this
    exact ⟨fun p hp => (by cases hp), List.nodup_nil, rfl, fun h => absurd rfl h⟩
  | succ f ih =>
    intro left h hn
    cases q : nextOut A left [] with
    | none =>
      have e : strike A [] (f + 1) left = ([], left) := by simp only [strike, q]
      rw [e]
      exact ⟨fun p hp => (by cases hp), List.nodup_nil, by simp, fun h => h⟩
    | some p =>
      obtain ⟨i, o⟩ := p
      have e : strike A [] (f + 1) left = ((i, o) :: (strike A [] f (less left i)).1, (strike A [] f (less left i)).2) := by simp only [strike, q]
      rw [e]
      obtain ⟨hi, ho, hf⟩ := nextOut_in q
      obtain ⟨hoi, _, _⟩ := fits_iff.mp hf
      have ml : ∀ o, o ∈ less left i ↔ o ∈ left ∧ o ≠ i := fun o => iff_of_eq (congrFun (mem_less (left := left) (i := i)) o)
      have hnl : (less left i).Nodup := hn.sublist List.filter_sublist
      obtain ⟨h1, h2, h3, h4⟩ := ih (less left i) (by have := less_len hi; omega) hnl
      have hlen : (less left i).length + 1 = left.length := by
        have e1 := sub_len (l := left) (m := i :: less left i) hn fun x hx => by
          by_cases z : x = i
          · rw [z]; exact List.mem_cons_self
          · exact List.mem_cons_of_mem _ ((ml x).mpr ⟨hx, z⟩)
        have := less_len hi
        rw [List.length_cons] at e1
        omega
      refine ⟨fun p hp => ?_, ?_, by rw [List.length_cons]; show _ + (strike A [] f (less left i)).2.length = _; omega, fun _ => h4 fun z => by
        have := (ml o).mpr ⟨ho, hoi⟩
        rw [z] at this; cases this⟩
      · rcases List.mem_cons.mp hp with rfl | hp
        · exact ⟨hi, ho⟩
        · exact ⟨((ml _).mp (h1 p hp).1).1, ((ml _).mp (h1 p hp).2).1⟩
      · rw [List.map_cons, List.nodup_cons]
        refine ⟨fun z => ?_, h2⟩
        obtain ⟨p, hp, e2⟩ := List.mem_map.mp z
        have := (ml _).mp (h1 p hp).1
        exact this.2 e2
def pairDD (p : Int × Int) : D := .tup [.int p.1, .int p.2]
theorem rng_mem {n : Nat} {i : Int} : i ∈ rng n ↔ 0 ≤ i ∧ i < (n : Int) := by
  unfold rng
  rw [List.mem_map]
  constructor
  · rintro ⟨k, hk, rfl⟩
    have := List.mem_range.mp hk
    omega
  · rintro ⟨h1, h2⟩
    exact ⟨i.toNat, List.mem_range.mpr (by omega), by omega⟩
theorem hasO_nodup {o : Option Int} : (hasO A o).Nodup := by
  cases o with
  | none => exact asc_nodup (rng_asc _)
  | some x => exact (asc_nodup (rng_asc _)).sublist List.filter_sublist
theorem hasO_len {o : Option Int} : (hasO A o).length ≤ A.length := by
  cases o with
  | none => show (rng A.length).length ≤ _; rw [rng_len]; exact Nat.le_refl _
  | some x => exact Nat.le_trans (List.length_filter_le _ _) (by rw [rng_len]; exact Nat.le_refl _)
theorem connB_iff {ps : List (Int × Int)} {o : Option Int} : connB A ps o = true ↔ Conn ps (mem (hasO A o)) := by
  unfold connB
  rw [decide_eq_true_eq]
  exact conn_iff hasO_nodup hasO_len
theorem tree_ok {us : List (Int × Int)} (h : (struck A []).2.length ≤ 1) (hp : us.Perm (struck A []).1) (hs : us.Pairwise lexLe) : lawTreeB A (.lst (us.map pairDD)) = true := by
  obtain ⟨h1, h2, h3, h4⟩ := strike_pairs (A := A) A.length (rng A.length) (by rw [rng_len]; exact Nat.le_refl _) (asc_nodup (rng_asc _))
  have hl : us.length = (struck A []).1.length := hp.length_eq
  rw [rng_len] at h3
  have h3' : (struck A []).1.length + (struck A []).2.length = A.length := h3
  have e1 : (us.map pairDD).map pairD = us := by rw [List.map_map]; exact List.map_id' us
  have hsz : (((us.map pairDD).length : Nat) : Int) = max 0 ((A.length : Int) - 1) := by
    rw [List.length_map, hl]
    by_cases hn : A.length = 0
    · omega
    · have : (struck A []).2 ≠ [] := h4 (by
        intro z
        have := congrArg List.length z
        rw [rng_len] at this
        exact hn this)
      have := List.length_pos_iff.mpr this
      omega
  have hg : (us.map pairDD).all (goodP A.length) = true := by
    rw [List.all_eq_true]
    intro d hd
    obtain ⟨p, hp2, rfl⟩ := List.mem_map.mp hd
    have := h1 p (hp.mem_iff.mp hp2)
    have a1 := rng_mem.mp this.1
    have a2 := rng_mem.mp this.2
    simp [goodP, pairDD, tupD, subD, blwD, a1, a2]
  have hasc : ascB (us.map Prod.fst) = true := by
    rw [asc_iff]
    have nd : (us.map Prod.fst).Nodup := (hp.map Prod.fst).symm.nodup h2
    rw [List.pairwise_map]
    rw [List.nodup_iff_pairwise_ne, List.pairwise_map] at nd
    exact (hs.and nd).imp fun ⟨ha, hb⟩ => by
      rcases ha with ha | ha
      · exact ha
      · exact absurd ha.1 hb
  have hc : ∀ o, connB A us o = true := fun o => by
    rw [connB_iff]
    cases o with
    | none =>
      have := strike_conn (A := A) (fun _ => True) (fun _ _ _ _ _ _ => trivial) A.length (rng A.length) (by rw [rng_len]; exact Nat.le_refl _) (asc_nodup (rng_asc _)) h
      exact (this.mono fun p hp2 => hp.mem_iff.mpr hp2).congr fun o => ⟨fun z => z.1, fun z => ⟨z, trivial⟩⟩
    | some x =>
      have := strike_conn (A := A) (fun i => x ∈ vat A i) (fun L i o hw hi ⟨u, hu1, hu2, hu3⟩ => hw x ⟨hi, u, hu1, hu2, hu3⟩) A.length (rng A.length) (by rw [rng_len]; exact Nat.le_refl _) (asc_nodup (rng_asc _)) h
      exact (this.mono fun p hp2 => hp.mem_iff.mpr hp2).congr fun o => by
        show _ ↔ o ∈ hasX A x
        unfold hasX
        rw [List.mem_filter, decide_eq_true_eq]
  have hN : lawTreeN A us = true := by
    unfold lawTreeN
    rw [hasc, hc none, Bool.true_and, Bool.true_and, List.all_eq_true]
    exact fun x _ => hc (some x)
  simp only [lawTreeB, itemsD, e1, hg, hN, hsz, decide_true, Bool.and_true]
end
end K44
set_option Elab.async false
set_option linter.all false
set_option maxRecDepth 100000
set_option maxHeartbeats 4000000
namespace K44
open PySem PySem.Spec PyProof.Rows L2 MT
open SX (S)
local macro_rules | `(tactic| walk_at "mt") => `(tactic| simp only [L2.start, List.map_cons, List.map_nil, List.length_cons, List.length_nil, List.replicate_succ, List.replicate_zero, Nat.reduceSub, Nat.reduceAdd, Nat.sub_self, Nat.zero_add, List.cons_append, List.nil_append, List.append_nil, List.getElem?_cons_zero, List.getElem?_cons_succ, List.set_cons_zero, List.set_cons_succ, Option.some.injEq, exists_eq_left', exists_eq_left, exists_eq_right, V.bl.injEq, V.int.injEq, V.str.injEq, V.ref.injEq, reduceCtorEq, false_and, and_false, true_and, and_true, false_or, or_false, exists_false, exists_const, ↓reduceIte, Bool.false_eq_true, decide_eq_true_eq, Bool.and_eq_true, Bool.not_true, Bool.not_false, List.cons.injEq, exists_and_left, exists_and_right,
  tRet, rInM, rNeI, rSortM, rIndexM, rRepM, rSetDM, rListDM, rPopAtM, tLstRg, tRg1, tDIn, tBM, tBM0, tAndV, tOrV, tNotV, tAnd, tOr, tNot, tB, tTest, tIf, tIfS, tC, tVar, tOp, tUn, tChain, rI0, rI, rU, tFn, tCons, tNil, tCB, tTup, tLst, tAsg, gName, tNext, tDrop, tRetN, tPar, tPar3, tAug, tReplC, tRevS, rLenM2, rIsBM, tDNotIn, tDGet, rSumM, rMaxM, rMinM, gSub, rSetL, tRaiseO, tFnW, tXf, gTup, gUnl, gCons, gNil, rPopM, rAppendM, rExtendM, rTupM, rListM, ipI, tIs, tIss, rLenM, rIxM, rAddM, rEqM, rNeM, rSignIn, rInt, rAbs, rStrI, tSl, tPart, tNoPart, rSlM, tIsN, tNotN, List.any_cons, List.any_nil, Bool.or_false, tSeq, isa, D.ty, decide_true, decide_false, Bool.true_or, Bool.or_true, Bool.false_or, Bool.and_true, Bool.true_and, Bool.false_and, Bool.and_false, eq_self_iff_true, not_true_eq_false, not_false_eq_true, bne_self_eq_false])
section
variable {f : Int → Option Int} {S : Int → Prop}
/-- ended climbs do not hang on the fuel -/
theorem climb_stable : ∀ (k m : Nat) (i : Int), (climb f k i).length ≤ k → (climb f k i).length ≤ m → climb f m i = climb f k i
  | 0, m, i, h, _ => by simp [climb] at h
  | k + 1, 0, i, h, h2 => by simp [climb] at h2
  | k + 1, m + 1, i, h, h2 => by
    rw [climb, climb] at *
    cases hf : f i with
    | none => rfl
    | some j =>
      rw [hf] at h h2
      show i :: climb f m j = i :: climb f k j
      rw [climb_stable k m j (by simpa using h) (by simpa using h2)]
/-- all climbs of R end, within n -/
structure ChEnds (f : Int → Option Int) (n : Nat) (R : Int → Prop) : Prop where
  le : ∀ i, R i → (climb f n i).length ≤ n
  st : ∀ i j, R i → f i = some j → R j
variable {n : Nat} {R : Int → Prop}
theorem ch_some (E : ChEnds f n R) {i j : Int} (hi : R i) (h : f i = some j) : climb f n i = i :: climb f n j := by
  have h1 := E.le i hi
  cases n with
  | zero => simp [climb] at h1
  | succ m =>
    rw [climb, h] at h1 ⊢
    show i :: climb f m j = i :: climb f (m + 1) j
    have h2 : (climb f m j).length ≤ m := by simpa using h1
    rw [climb_stable m (m + 1) j h2 (by omega)]
theorem ch_none (E : ChEnds f n R) {i : Int} (hi : R i) (h : f i = none) : climb f n i = [i] := by
  have h1 := E.le i hi
  cases n with
  | zero => simp [climb] at h1
  | succ m => rw [climb, h]
theorem ch_self (E : ChEnds f n R) {i : Int} (hi : R i) : i ∈ climb f n i := by
  cases h : f i with
  | none => rw [ch_none E hi h]; exact List.mem_cons_self
  | some j => rw [ch_some E hi h]; exact List.mem_cons_self
theorem ch_rec (E : ChEnds f n R) (p : Int → Prop) (h0 : ∀ i, R i → f i = none → p i) (h1 : ∀ i j, R i → f i = some j → p j → p i) : ∀ (k : Nat) (i : Int), R i → (climb f n i).length ≤ k → p i := by
  intro k
  induction k with
  | zero =>
    intro i hi h
    have := List.length_pos_of_mem (ch_self E hi)
    omega
  | succ k ih =>
    intro i hi h
    cases hf : f i with
    | none => exact h0 i hi hf
    | some j =>
      rw [ch_some E hi hf, List.length_cons] at h
      exact h1 i j hi hf (ih j (E.st i j hi hf) (by omega))
theorem ch_ind (E : ChEnds f n R) {p : Int → Prop} (h0 : ∀ i, R i → f i = none → p i) (h1 : ∀ i j, R i → f i = some j → p j → p i) {i : Int} (hi : R i) : p i := ch_rec E p h0 h1 _ i hi (Nat.le_refl _)
/-- what is on the way up has a shorter way -/
theorem ch_le (E : ChEnds f n R) {i c : Int} (hi : R i) : c ∈ climb f n i → R c ∧ (c = i ∨ (climb f n c).length < (climb f n i).length) := by
  refine ch_ind E (p := fun i => c ∈ climb f n i → R c ∧ (c = i ∨ (climb f n c).length < (climb f n i).length)) (fun i hi hf hc => ?_) (fun i j hi hf ih hc => ?_) hi
  · rw [ch_none E hi hf] at hc
    have := List.mem_singleton.mp hc
    rw [this]; exact ⟨hi, .inl rfl⟩
  · rw [ch_some E hi hf] at hc
    rcases List.mem_cons.mp hc with rfl | hc
    · exact ⟨hi, .inl rfl⟩
    · obtain ⟨h1, h2⟩ := ih hc
      refine ⟨h1, .inr ?_⟩
      rw [ch_some E hi hf, List.length_cons]
      rcases h2 with h2 | h2
      · rw [h2]; omega
      · omega
theorem ch_anti (E : ChEnds f n R) {i c : Int} (hi : R i) (h1 : c ∈ climb f n i) (h2 : i ∈ climb f n c) : c = i := by
  obtain ⟨hc, h3⟩ := ch_le E hi h1
  obtain ⟨_, h4⟩ := ch_le E hc h2
  rcases h3 with h3 | h3
  · exact h3
  · rcases h4 with h4 | h4
    · exact h4.symm
    · omega
/-- a way up within S -/
inductive Up (f : Int → Option Int) (S : Int → Prop) : Int → Int → Prop
  | here {u : Int} : S u → Up f S u u
  | next {u j t : Int} : S u → f u = some j → Up f S j t → Up f S u t
theorem up_mem (E : ChEnds f n R) {u t : Int} (h : Up f S u t) : R u → t ∈ climb f n u := by
  induction h with
  | here _ => exact fun hu => ch_self E hu
  | @next u j t h1 h2 _ ih =>
    intro hu
    rw [ch_some E hu h2]
    exact List.mem_cons_of_mem _ (ih (E.st u j hu h2))
theorem up_M {ps : List (Int × Int)} {M : Int → Prop} (hf : ∀ i j, f i = some j → (i, j) ∈ ps) (hM : Cl ps S M) {u t : Int} (h : Up f S u t) : S t ∧ (M u ↔ M t) := by
  have hS : ∀ {u t}, Up f S u t → S u := fun h => by cases h <;> assumption
  induction h with
  | here h => exact ⟨h, Iff.rfl⟩
  | @next u j t h1 h2 h3 ih => exact ⟨ih.1, (hM (u, j) (hf u j h2) h1 (hS h3)).trans ih.2⟩
def TopR (f : Int → Option Int) (S : Int → Prop) (u t : Int) : Prop := Up f S u t ∧ ∀ j, f t = some j → ¬ S j
theorem top_ex (E : ChEnds f n R) {u : Int} (hu : R u) : S u → ∃ t, TopR f S u t := by
  refine ch_ind E (p := fun u => S u → ∃ t, TopR f S u t) (fun i _ hf hs => ⟨i, .here hs, fun j hj => by rw [hf] at hj; cases hj⟩) (fun i j _ hf ih hs => ?_) hu
  by_cases hj : S j
  · obtain ⟨t, h1, h2⟩ := ih hj
    exact ⟨t, .next hs hf h1, h2⟩
  · exact ⟨i, .here hs, fun j2 h2 => by rw [hf] at h2; cases h2; exact hj⟩
theorem top_link {i j t : Int} (hi : S i) (hj : S j) (hf : f i = some j) : TopR f S i t ↔ TopR f S j t := by
  constructor
  · rintro ⟨h1, h2⟩
    cases h1 with
    | here _ => exact absurd hj (h2 j hf)
    | next h3 h4 h5 =>
      rw [hf] at h4
      cases h4
      exact ⟨h5, h2⟩
  · rintro ⟨h1, h2⟩
    exact ⟨.next hi hf h1, h2⟩
/-- the first meeting: up to it all is in S, and t is above it -/
theorem up_first (E : ChEnds f n R) {G : List Int} {u t : Int} (h : Up f S u t) : R u → t ∈ G → ∀ s, (climb f n u).find? (fun i => decide (i ∈ G)) = some s → (∀ y ∈ (climb f n u).take ((climb f n u).idxOf s + 1), S y) ∧ t ∈ climb f n s := by
  induction h with
  | @here u h =>
    intro hu hG s hs
    have e : (climb f n u).find? (fun i => decide (i ∈ G)) = some u := by
      cases hf : f u with
      | none => rw [ch_none E hu hf]; simp [hG]
      | some j => rw [ch_some E hu hf]; simp [hG]
    rw [e] at hs
    cases hs
    refine ⟨fun y hy => ?_, ch_self E hu⟩
    have e2 : (climb f n u).idxOf u = 0 := by
      cases hf : f u with
      | none => rw [ch_none E hu hf]; simp
      | some j => rw [ch_some E hu hf]; simp
    rw [e2] at hy
    have e3 : (climb f n u).take (0 + 1) = [u] := by
      cases hf : f u with
      | none => rw [ch_none E hu hf]; rfl
      | some j => rw [ch_some E hu hf]; rfl
    rw [e3] at hy
    rw [List.mem_singleton.mp hy]; exact h
  | @next u j t h1 h2 h3 ih =>
    intro hu hG s hs
    have hch := ch_some E hu h2
    rw [hch] at hs ⊢
    by_cases huG : u ∈ G
    · have : s = u := by simpa [huG] using hs.symm
      subst this
      refine ⟨fun y hy => ?_, ?_⟩
      · have e2 : (s :: climb f n j).take ((s :: climb f n j).idxOf s + 1) = [s] := by simp
        rw [e2] at hy
        rw [List.mem_singleton.mp hy]; exact h1
      · rw [hch]
        exact List.mem_cons_of_mem _ (up_mem E h3 (E.st _ _ hu h2))
    · have hs2 : (climb f n j).find? (fun i => decide (i ∈ G)) = some s := by simpa [huG] using hs
      obtain ⟨k1, k2⟩ := ih (E.st _ _ hu h2) hG s hs2
      have hsG : s ∈ G := of_decide_eq_true (List.find?_some (p := fun i => decide (i ∈ G)) hs2)
      have hne : u ≠ s := fun z => huG (by rw [z]; exact hsG)
      refine ⟨fun y hy => ?_, k2⟩
      have e2 : (u :: climb f n j).idxOf s = (climb f n j).idxOf s + 1 := by simp [List.idxOf_cons, beq_eq_false_iff_ne.mpr hne]
      rw [e2, List.take_succ_cons] at hy
      rcases List.mem_cons.mp hy with rfl | hy
      · exact h1
      · exact k1 y hy
theorem up_second (E : ChEnds f n R) {u t s : Int} (h : Up f S u t) : R u → s ∈ climb f n u → t ∈ climb f n s → ∀ y ∈ (climb f n u).take ((climb f n u).idxOf s), S y := by
  induction h with
  | @here u h =>
    intro hu h1 h2 y hy
    have := ch_anti E hu h1 h2
    subst this
    have e2 : (climb f n s).idxOf s = 0 := by
      cases hf : f s with
      | none => rw [ch_none E hu hf]; simp
      | some j => rw [ch_some E hu hf]; simp
    rw [e2] at hy
    cases hy
  | @next u j t h1 h2 h3 ih =>
    intro hu h4 h5 y hy
    rw [ch_some E hu h2] at h4 hy
    by_cases hne : u = s
    · subst hne
      simp at hy
    · have h6 := (List.mem_cons.mp h4).resolve_left (Ne.symm hne)
      have e2 : (u :: climb f n j).idxOf s = (climb f n j).idxOf s + 1 := by simp [List.idxOf_cons, beq_eq_false_iff_ne.mpr hne]
      rw [e2, List.take_succ_cons] at hy
      rcases List.mem_cons.mp hy with rfl | hy
      · exact h1
      · exact ih (E.st _ _ hu h2) h6 h5 y hy
/-- back: what is in S up to s is a way -/
theorem up_of (E : ChEnds f n R) {u s : Int} (hu : R u) : s ∈ climb f n u → (∀ y ∈ (climb f n u).take ((climb f n u).idxOf s + 1), S y) → Up f S u s := by
  refine ch_ind E (p := fun u => s ∈ climb f n u → (∀ y ∈ (climb f n u).take ((climb f n u).idxOf s + 1), S y) → Up f S u s) (fun i hi hf hs hy => ?_) (fun i j hi hf ih hs hy => ?_) hu
  · rw [ch_none E hi hf] at hs hy
    have := List.mem_singleton.mp hs
    subst this
    exact .here (hy s (by simp))
  · rw [ch_some E hi hf] at hs hy
    have hSi : S i := hy i (by simp)
    by_cases hne : i = s
    · subst hne
      exact .here hSi
    · have h6 := (List.mem_cons.mp hs).resolve_left (Ne.symm hne)
      refine .next hSi hf (ih h6 fun y h7 => hy y ?_)
      have e2 : (i :: climb f n j).idxOf s = (climb f n j).idxOf s + 1 := by simp [List.idxOf_cons, beq_eq_false_iff_ne.mpr hne]
      rw [e2, List.take_succ_cons]
      exact List.mem_cons_of_mem _ h7
end
end K44
set_option Elab.async false
set_option linter.all false
set_option maxRecDepth 100000
set_option maxHeartbeats 4000000
namespace K44
open PySem PySem.Spec PyProof.Rows L2 MT
open SX (S)
local macro_rules | `(tactic| walk_at "mt") => `(tactic| simp only [L2.start, List.map_cons, List.map_nil, List.length_cons, List.length_nil, List.replicate_succ, List.replicate_zero, Nat.reduceSub, Nat.reduceAdd, Nat.sub_self, Nat.zero_add, List.cons_append, List.nil_append, List.append_nil, List.getElem?_cons_zero, List.getElem?_cons_succ, List.set_cons_zero, List.set_cons_succ, Option.some.injEq, exists_eq_left', exists_eq_left, exists_eq_right, V.bl.injEq, V.int.injEq, V.str.injEq, V.ref.injEq, reduceCtorEq, false_and, and_false, true_and, and_true, false_or, or_false, exists_false, exists_const, ↓reduceIte, Bool.false_eq_true, decide_eq_true_eq, Bool.and_eq_true, Bool.not_true, Bool.not_false, List.cons.injEq, exists_and_left, exists_and_right,
  tRet, rInM, rNeI, rSortM, rIndexM, rRepM, rSetDM, rListDM, rPopAtM, tLstRg, tRg1, tDIn, tBM, tBM0, tAndV, tOrV, tNotV, tAnd, tOr, tNot, tB, tTest, tIf, tIfS, tC, tVar, tOp, tUn, tChain, rI0, rI, rU, tFn, tCons, tNil, tCB, tTup, tLst, tAsg, gName, tNext, tDrop, tRetN, tPar, tPar3, tAug, tReplC, tRevS, rLenM2, rIsBM, tDNotIn, tDGet, rSumM, rMaxM, rMinM, gSub, rSetL, tRaiseO, tFnW, tXf, gTup, gUnl, gCons, gNil, rPopM, rAppendM, rExtendM, rTupM, rListM, ipI, tIs, tIss, rLenM, rIxM, rAddM, rEqM, rNeM, rSignIn, rInt, rAbs, rStrI, tSl, tPart, tNoPart, rSlM, tIsN, tNotN, List.any_cons, List.any_nil, Bool.or_false, tSeq, isa, D.ty, decide_true, decide_false, Bool.true_or, Bool.or_true, Bool.false_or, Bool.and_true, Bool.true_and, Bool.false_and, Bool.and_false, eq_self_iff_true, not_true_eq_false, not_false_eq_true, bne_self_eq_false])
section
variable {A : List (List Int)} {ps : List (Int × Int)}
theorem par_mem : ∀ {ps : List (Int × Int)} {i j : Int}, (ps.map Prod.fst).Nodup → (i, j) ∈ ps → par ps i = some j
  | p :: ps, i, j, hn, h => by
    rw [List.map_cons, List.nodup_cons] at hn
    by_cases e : p.1 = i
    · have : (i, j) = p := (List.mem_cons.mp h).resolve_right fun z => hn.1 (by rw [e]; exact List.mem_map.mpr ⟨_, z, rfl⟩)
      unfold par
      rw [List.find?_cons_of_pos (by simp [e]), ← this]
      rfl
    · have h2 : (i, j) ∈ ps := (List.mem_cons.mp h).resolve_left fun z => e (by rw [← z])
      have := par_mem hn.2 h2
      unfold par at this ⊢
      rw [List.find?_cons_of_neg (by simp [e])]
      exact this
theorem fin_more {f : Int → Option Int} {k m : Nat} {i : Int} (h : (climb f k i).length ≤ k) (hm : k ≤ m) : (climb f m i).length ≤ m := by
  rw [climb_stable k m i h (by omega)]
  omega
theorem fin_all {f : Int → Option Int} : ∀ l : List Int, (∀ i ∈ l, ∃ k, (climb f k i).length ≤ k) → ∃ k, ∀ i ∈ l, (climb f k i).length ≤ k
  | [], _ => ⟨0, by simp⟩
  | i :: l, h => by
    obtain ⟨k1, h1⟩ := h i List.mem_cons_self
    obtain ⟨k2, h2⟩ := fin_all l fun j hj => h j (List.mem_cons_of_mem _ hj)
    refine ⟨max k1 k2, fun j hj => ?_⟩
    rcases List.mem_cons.mp hj with rfl | hj
    · exact fin_more h1 (by omega)
    · exact fin_more (h2 j hj) (by omega)
theorem links_st (L : Links A.length ps) : ∀ i j, i ∈ rng A.length → par ps i = some j → j ∈ rng A.length := fun i j _ h => rng_mem.mpr (L.two _ (par_some h))
theorem firsts_nd (L : Links A.length ps) : (ps.map Prod.fst).Nodup := L.asc.imp fun h => by omega
theorem ends_conn (L : Links A.length ps) : (∀ i ∈ rng A.length, (climb (par ps) A.length i).length ≤ A.length) ↔ Conn ps (mem (rng A.length)) := by
  have hl := L.len
  constructor
  · intro h M hM ⟨v, hv, hmv⟩ w hw
    have E : ChEnds (par ps) A.length (mem (rng A.length)) := ⟨h, links_st L⟩
    obtain ⟨t, t1, t2⟩ := top_ex E hv hv
    obtain ⟨u, u1, u2⟩ := top_ex E hw hw
    have a1 := up_M (fun i j => par_some) hM t1
    have a2 := up_M (fun i j => par_some) hM u1
    have nt : par ps t = none := by
      cases hf : par ps t with
      | none => rfl
      | some j => exact absurd (links_st L t j a1.1 hf) (t2 j hf)
    have nu : par ps u = none := by
      cases hf : par ps u with
      | none => rfl
      | some j => exact absurd (links_st L u j a2.1 hf) (u2 j hf)
    have e := root_one L nt nu (rng_mem.mp a1.1) (rng_mem.mp a2.1)
    subst e
    exact a2.2.mpr (a1.2.mp hmv)
  · intro hC
    have hroot : ∃ r, r ∈ rng A.length ∧ par ps r = none := Classical.byContradiction fun z => by
      have h1 : ∀ i ∈ rng A.length, i ∈ ps.map Prod.fst := fun i hi => by
        cases hf : par ps i with
        | none => exact absurd ⟨i, hi, hf⟩ z
        | some j => exact List.mem_map.mpr ⟨_, par_some hf, rfl⟩
      have := sub_len (asc_nodup (rng_asc A.length)) h1
      rw [rng_len, List.length_map] at this
      omega
    obtain ⟨r, hr, hr0⟩ := hroot
    have fin : ∀ i, i ∈ rng A.length → ∃ k, (climb (par ps) k i).length ≤ k := hC (fun i => ∃ k, (climb (par ps) k i).length ≤ k) (fun p hp _ _ => by
      have hf := par_mem (firsts_nd L) (i := p.1) (j := p.2) hp
      constructor
      · rintro ⟨k, hk⟩
        cases k with
        | zero => simp [climb] at hk
        | succ k => rw [climb, hf] at hk; exact ⟨k, by simpa using hk⟩
      · rintro ⟨k, hk⟩
        exact ⟨k + 1, by rw [climb, hf]; simpa using hk⟩) ⟨r, hr, 1, by rw [climb, hr0]; simp⟩
    obtain ⟨k, hk⟩ := fin_all _ fin
    have E : ChEnds (par ps) k (mem (rng A.length)) := ⟨hk, links_st L⟩
    intro i hi
    have nd : (climb (par ps) k i).Nodup := by
      refine ch_ind E (p := fun i => (climb (par ps) k i).Nodup) (fun i hi hf => by rw [ch_none E hi hf]; simp) (fun i j hi hf ih => ?_) hi
      have e1 := ch_some E hi hf
      rw [e1]
      refine List.nodup_cons.mpr ⟨fun z => ?_, ih⟩
      have hj := links_st L i j hi hf
      obtain ⟨_, h2⟩ := ch_le E hj z
      have h3 := congrArg List.length e1
      rw [List.length_cons] at h3
      rcases h2 with h2 | h2
      · rw [← h2] at h3; omega
      · omega
    have hin : ∀ x ∈ climb (par ps) k i, x ∈ rng A.length := climb_in _ (fun x => x ∈ rng A.length) (fun a b h => rng_mem.mpr (L.two _ (par_some h))) k i hi
    have hle := sub_len nd hin
    rw [rng_len] at hle
    rw [climb_stable k A.length i (hk i hi) hle]
    exact hle
theorem hang_conn (L : Links A.length ps) (h : ∀ i ∈ rng A.length, (climb (par ps) A.length i).length ≤ A.length) (x : Int) : hangB A (par ps) ps.length x = true ↔ Conn ps (mem (hasX A x)) := by
  have hl := L.len
  have E : ChEnds (par ps) A.length (mem (rng A.length)) := ⟨h, links_st L⟩
  have sub : ∀ {u}, u ∈ hasX A x → u ∈ rng A.length := fun h => (List.mem_filter.mp h).1
  have hm : ∀ {u v}, u ∈ hasX A x → v ∈ hasX A x → ∃ s, meet (par ps) ps.length u v = some s := fun hu hv => Option.isSome_iff_exists.mp (meet_some L (by rw [hl]; exact h) (sub hu) (sub hv))
  have hu : hangB A (par ps) ps.length x = true ↔ ∀ u ∈ hasX A x, ∀ v ∈ hasX A x, ∀ i ∈ btwn (par ps) ps.length u v, i ∈ hasX A x := by
    unfold hangB
    simp only [List.all_eq_true, decide_eq_true_eq]
  rw [hu]
  have eb : ∀ {u v s}, meet (par ps) ps.length u v = some s → btwn (par ps) ps.length u v = (climb (par ps) A.length u).take ((climb (par ps) A.length u).idxOf s + 1) ++ (climb (par ps) A.length v).take ((climb (par ps) A.length v).idxOf s) := fun hs => by
    unfold btwn
    rw [hs, hl]
  constructor
  · intro hall M hM ⟨v, hv, hmv⟩ w hw
    obtain ⟨s, hs⟩ := hm hv hw
    have hb := hall v hv w hw
    rw [eb hs] at hb
    have hs' := hs
    unfold meet at hs'
    rw [hl] at hs'
    have sF : s ∈ climb (par ps) A.length v := List.mem_of_find?_eq_some hs'
    have sG : s ∈ climb (par ps) A.length w := of_decide_eq_true (List.find?_some (p := fun i => decide (i ∈ climb (par ps) A.length w)) hs')
    have u1 := up_of (S := mem (hasX A x)) E (sub hv) sF fun y hy => hb y (List.mem_append_left _ hy)
    have a1 := up_M (fun i j => par_some) hM u1
    have u2 := up_of (S := mem (hasX A x)) E (sub hw) sG fun y hy => by
      rw [List.take_succ, List.mem_append] at hy
      rcases hy with hy | hy
      · exact hb y (List.mem_append_right _ hy)
      · rw [(idx_at sG).1] at hy
        have : y = s := by simpa using hy
        rw [this]; exact a1.1
    have a2 := up_M (fun i j => par_some) hM u2
    exact a2.2.mpr (a1.2.mp hmv)
  · intro hC u hu v hv i hi
    obtain ⟨s, hs⟩ := hm hu hv
    rw [eb hs] at hi
    have hs' := hs
    unfold meet at hs'
    rw [hl] at hs'
    have sG : s ∈ climb (par ps) A.length v := of_decide_eq_true (List.find?_some (p := fun i => decide (i ∈ climb (par ps) A.length v)) hs')
    obtain ⟨t, ht⟩ := top_ex (S := mem (hasX A x)) E (sub hu) hu
    have htv : TopR (par ps) (mem (hasX A x)) v t := hC (fun w => TopR (par ps) (mem (hasX A x)) w t) (fun p hp h1 h2 => top_link h1 h2 (par_mem (firsts_nd L) hp)) ⟨u, hu, ht⟩ v hv
    obtain ⟨k1, k2⟩ := up_first E ht.1 (sub hu) (up_mem E htv.1 (sub hv)) s hs'
    rcases List.mem_append.mp hi with hi | hi
    · exact k1 i hi
    · exact up_second E htv.1 (sub hv) sG k2 i hi
theorem hasX_no {x : Int} (h : x ∉ A.flatten) : hasX A x = [] := by
  unfold hasX
  rw [List.filter_eq_nil_iff]
  intro i hi hx
  have hx := of_decide_eq_true hx
  refine h (List.mem_flatten.mpr ⟨vat A i, ?_, hx⟩)
  have := rng_mem.mp hi
  unfold vat
  rw [List.getD_eq_getElem?_getD, List.getElem?_eq_getElem (by omega)]
  exact List.getElem_mem _
theorem hang_no {f : Int → Option Int} {n : Nat} {x : Int} (h : x ∉ A.flatten) : hangB A f n x = true := by
  unfold hangB
  rw [hasX_no h]
  rfl
theorem treeN_eq (L : Links A.length ps) {many : Int} (hv : ∀ x ∈ A.flatten, 0 ≤ x ∧ x < many) : treeN A many ps = (connB A ps none && A.flatten.all fun x => connB A ps (some x)) := by
  have hl := L.len
  rw [Bool.eq_iff_iff]
  unfold treeN
  simp only [Bool.and_eq_true, List.all_eq_true, decide_eq_true_eq, connB_iff]
  rw [hl]
  have e0 : mem (hasO A none) = mem (rng A.length) := rfl
  rw [e0, ← ends_conn L]
  refine and_congr_right fun hE => ⟨fun h x hx => (hang_conn L hE x).mp (h x ?_), fun h x _ => ?_⟩
  · have := hv x hx
    refine rng_mem.mpr ⟨this.1, ?_⟩
    omega
  · by_cases hx : x ∈ A.flatten
    · exact (hang_conn L hE x).mpr (h x hx)
    · exact hang_no hx
end
end K44
set_option Elab.async false
set_option linter.all false
set_option maxRecDepth 100000
set_option maxHeartbeats 4000000
namespace K44
open PySem PySem.Spec PyProof.Rows L2 MT
open SX (S)
local macro_rules | `(tactic| walk_at "mt") => `(tactic| simp only [L2.start, List.map_cons, List.map_nil, List.length_cons, List.length_nil, List.replicate_succ, List.replicate_zero, Nat.reduceSub, Nat.reduceAdd, Nat.sub_self, Nat.zero_add, List.cons_append, List.nil_append, List.append_nil, List.getElem?_cons_zero, List.getElem?_cons_succ, List.set_cons_zero, List.set_cons_succ, Option.some.injEq, exists_eq_left', exists_eq_left, exists_eq_right, V.bl.injEq, V.int.injEq, V.str.injEq, V.ref.injEq, reduceCtorEq, false_and, and_false, true_and, and_true, false_or, or_false, exists_false, exists_const, ↓reduceIte, Bool.false_eq_true, decide_eq_true_eq, Bool.and_eq_true, Bool.not_true, Bool.not_false, List.cons.injEq, exists_and_left, exists_and_right,
  tRet, rInM, rNeI, rSortM, rIndexM, rRepM, rSetDM, rListDM, rPopAtM, tLstRg, tRg1, tDIn, tBM, tBM0, tAndV, tOrV, tNotV, tAnd, tOr, tNot, tB, tTest, tIf, tIfS, tC, tVar, tOp, tUn, tChain, rI0, rI, rU, tFn, tCons, tNil, tCB, tTup, tLst, tAsg, gName, tNext, tDrop, tRetN, tPar, tPar3, tAug, tReplC, tRevS, rLenM2, rIsBM, tDNotIn, tDGet, rSumM, rMaxM, rMinM, gSub, rSetL, tRaiseO, tFnW, tXf, gTup, gUnl, gCons, gNil, rPopM, rAppendM, rExtendM, rTupM, rListM, ipI, tIs, tIss, rLenM, rIxM, rAddM, rEqM, rNeM, rSignIn, rInt, rAbs, rStrI, tSl, tPart, tNoPart, rSlM, tIsN, tNotN, List.any_cons, List.any_nil, Bool.or_false, tSeq, isa, D.ty, decide_true, decide_false, Bool.true_or, Bool.or_true, Bool.false_or, Bool.and_true, Bool.true_and, Bool.false_and, Bool.and_false, eq_self_iff_true, not_true_eq_false, not_false_eq_true, bne_self_eq_false])
theorem blw_btw {n : Int} (d : D) : blwD n d = btw 0 (n - 1) d := by
  cases d with
  | int i => simp only [btw, blwD]; congr 1; exact decide_eq_decide.mpr (by omega)
  | _ => rfl
theorem good_eq {n : Int} {ds : List D} : ds.all (goodP n) = (ds.all (tupD 2) && (ds.flatMap subD).all (btw 0 (n - 1))) := by
  rw [List.all_flatMap, Bool.eq_iff_iff, Bool.and_eq_true, List.all_eq_true, List.all_eq_true, List.all_eq_true]
  have e : ∀ d, goodP n d = true ↔ tupD 2 d = true ∧ (subD d).all (btw 0 (n - 1)) = true := fun d => by
    unfold goodP
    rw [Bool.and_eq_true, show blwD n = btw 0 (n - 1) from funext blw_btw]
  exact ⟨fun h => ⟨fun d hd => ((e d).mp (h d hd)).1, fun d hd => ((e d).mp (h d hd)).2⟩, fun h d hd => (e d).mpr ⟨h.1 d hd, h.2 d hd⟩⟩
theorem tree_eq {A : List (List Int)} {many : Int} (hv : ∀ x ∈ A.flatten, 0 ≤ x ∧ x < many) (e : D) : treeB A many e = lawTreeB A e := by
  unfold treeB lawTreeB
  cases hi : itemsD e with
  | none => rfl
  | some ds =>
    show (linksB A.length e && (decide ((ds.length : Int) = max ((A.length : Int) - 1) 0) && treeN A many (ds.map pairD))) = (decide ((ds.length : Int) = max 0 ((A.length : Int) - 1)) && (ds.all (goodP A.length) && lawTreeN A (ds.map pairD)))
    rw [good_eq]
    have e1 : linksB A.length e = (ds.all (tupD 2) && ((ds.flatMap subD).all (btw 0 ((A.length : Int) - 1)) && ascB ((ds.map pairD).map Prod.fst))) := by simp only [linksB, hi]
    have e2 : decide ((ds.length : Int) = max ((A.length : Int) - 1) 0) = decide ((ds.length : Int) = max 0 ((A.length : Int) - 1)) := decide_eq_decide.mpr (by omega)
    rw [e1, e2]
    unfold lawTreeN
    by_cases hsz : (ds.length : Int) = max 0 ((A.length : Int) - 1)
    · cases h2 : ds.all (tupD 2) with
      | false => simp
      | true =>
        cases hb : (ds.flatMap subD).all (btw 0 ((A.length : Int) - 1)) with
        | false => simp
        | true =>
          cases ha : ascB ((ds.map pairD).map Prod.fst) with
          | false => simp
          | true =>
            have hl : linksB A.length e = true := by rw [e1, h2, hb, ha]; rfl
            have key : treeN A many (ds.map pairD) = (connB A (ds.map pairD) none && A.flatten.all fun x => connB A (ds.map pairD) (some x)) := by
              by_cases hn : 1 ≤ A.length
              · exact treeN_eq (links_of hi hl (by omega) hn) hv
              · have hA : A = [] := List.length_eq_zero_iff.mp (by omega)
                subst hA
                have hd : ds = [] := List.length_eq_zero_iff.mp (by simp at hsz; omega)
                subst hd
                have h1 : treeN [] many ([].map pairD) = true := by
                  unfold treeN
                  rw [Bool.and_eq_true]
                  refine ⟨rfl, List.all_eq_true.mpr fun x _ => hang_no (by simp)⟩
                rw [h1]
                rfl
            rw [key, decide_eq_true hsz]
            rfl
    · rw [decide_eq_false hsz]
      simp
theorem conj_vars {d : D} (h : conjD d = true) : ∀ x ∈ (varsD d).flatten, 0 ≤ x ∧ x < manyD d := by
  obtain ⟨m, x, ds, rfl, e, h0, h12, ha⟩ := conj_at h
  have ev : varsD (.tup [.int m, x]) = ds.map avars := by simp only [varsD, e, Option.getD_some]
  intro y hy
  rw [ev] at hy
  obtain ⟨xs, h1, h2⟩ := List.mem_flatten.mp hy
  obtain ⟨d, hd, rfl⟩ := List.mem_map.mp h1
  obtain ⟨nm, zs, rfl, _, hz⟩ := joinAtom_at (List.all_eq_true.mp ha d hd)
  exact all_btw hz y h2
/-- the two ways to judge a tree agree -/
theorem tree_conj {d e : D} (h : conjD d = true) : treeB (varsD d) (manyD d) e = lawTreeB (varsD d) e := tree_eq (conj_vars h) e
end K44
set_option Elab.async false
set_option linter.all false
set_option maxRecDepth 100000
set_option maxHeartbeats 4000000
namespace K44
open PySem PySem.Spec PyProof.Rows L2 MT
open SX (S)
local macro_rules | `(tactic| walk_at "mt") => `(tactic| simp only [L2.start, List.map_cons, List.map_nil, List.length_cons, List.length_nil, List.replicate_succ, List.replicate_zero, Nat.reduceSub, Nat.reduceAdd, Nat.sub_self, Nat.zero_add, List.cons_append, List.nil_append, List.append_nil, List.getElem?_cons_zero, List.getElem?_cons_succ, List.set_cons_zero, List.set_cons_succ, Option.some.injEq, exists_eq_left', exists_eq_left, exists_eq_right, V.bl.injEq, V.int.injEq, V.str.injEq, V.ref.injEq, reduceCtorEq, false_and, and_false, true_and, and_true, false_or, or_false, exists_false, exists_const, ↓reduceIte, Bool.false_eq_true, decide_eq_true_eq, Bool.and_eq_true, Bool.not_true, Bool.not_false, List.cons.injEq, exists_and_left, exists_and_right,
  tRet, rInM, rNeI, rSortM, rIndexM, rRepM, rSetDM, rListDM, rPopAtM, tLstRg, tRg1, tDIn, tBM, tBM0, tAndV, tOrV, tNotV, tAnd, tOr, tNot, tB, tTest, tIf, tIfS, tC, tVar, tOp, tUn, tChain, rI0, rI, rU, tFn, tCons, tNil, tCB, tTup, tLst, tAsg, gName, tNext, tDrop, tRetN, tPar, tPar3, tAug, tReplC, tRevS, rLenM2, rIsBM, tDNotIn, tDGet, rSumM, rMaxM, rMinM, gSub, rSetL, tRaiseO, tFnW, tXf, gTup, gUnl, gCons, gNil, rPopM, rAppendM, rExtendM, rTupM, rListM, ipI, tIs, tIss, rLenM, rIxM, rAddM, rEqM, rNeM, rSignIn, rInt, rAbs, rStrI, tSl, tPart, tNoPart, rSlM, tIsN, tNotN, List.any_cons, List.any_nil, Bool.or_false, tSeq, isa, D.ty, decide_true, decide_false, Bool.true_or, Bool.or_true, Bool.false_or, Bool.and_true, Bool.true_and, Bool.false_and, Bool.and_false, eq_self_iff_true, not_true_eq_false, not_false_eq_true, bne_self_eq_false])
abbrev wTree : List Nat := [116, 114, 101, 101]
abbrev wRing : List Nat := [114, 105, 110, 103]
abbrev wIs : List Nat := [105, 115]
abbrev wTold : List Nat := [116, 111, 108, 100]
abbrev wConj : List Nat := [99, 111, 110, 106, 117, 110, 99, 116, 105, 111, 110]
structure Exm (K : PySem.W.Frag) : Prop where
  cc : PySem.W.exmOne K (.ref (He.ga K "InvalidConjunction")) (.ref (He.ga K "InvalidConjunction")) = some true
def spAsked : Sp := fun vs H Q _ => ∃ word v x d e b, vs = [.str (S word), v, x, .bl b] ∧ Dat H v d ∧ headsOk d = true ∧ manyD d ≤ 100000 ∧ Dat H x e ∧ szD e ∧
  (conjD d = false → ∀ r H', Same H H' → H r = none → H' r = some (.lst [.str (S wConj), v]) → Q (.ref r) H') ∧
  (conjD d = true → word = wTree →
    ((struck (varsD d) []).2.length ≤ 1 → ∀ r p l ws ts H', ts.Perm (struck (varsD d) []).1 → ts.Pairwise lexLe → Same H H' → H r = none → H l = none → H' l = some (.lst ws) → PairsAt H' ws ts → H' p = some (.tup [.str (S wTree), .ref l]) → H' r = some (.lst [.str (S wTold), .ref p]) → Q (.ref r) H') ∧
    (1 < (struck (varsD d) []).2.length → ∀ r p l H', Same H H' → H r = none → H l = none → H' l = some (.lst ((struck (varsD d) []).2.map V.int)) → H' p = some (.tup [.str (S wRing), .ref l]) → H' r = some (.lst [.str (S wTold), .ref p]) → Q (.ref r) H')) ∧
  (conjD d = true → word = wIs → ∀ r H', Same H H' → H r = none → H' r = some (.lst [.str (S wTold), .bl (treeB (varsD d) (manyD d) e)]) → Q (.ref r) H') ∧
  (conjD d = true → word ≠ wTree → word ≠ wIs → ∀ r H', Same H H' → H r = none → H' r = some (.lst [.str (S wTold), .bl (ringB (varsD d) e)]) → Q (.ref r) H')
theorem pr_law_asked {K : PySem.W.Frag} (X : Exm K) (vs : List V) (H : Hp) (Q : VK) (E : XK) (h : spAsked vs H Q E) : t_law_asked K (spJoinTree K) (spIsJoinTree K) (spIsRing K) (E0N Q) (L2.start ["word", "conjunction", "value", "named", "e"] vs) H := by
  obtain ⟨word, v, x, d, e, b, rfl, hd, ho, hm, he, hz, q0, q1, q2, q3⟩ := h
  have h2 : 2 ≤ sizeLine := by decide +kernel
  unfold t_law_asked t_askedB
  generalize hW : wAsM K (fun _ _ _ _ => False) (E0N Q) [(.ref (He.ga K "InvalidConjunction"), 4, t_askedH (He.ga K "InvalidConjunction"))] = W
  have raise : conjD d = false → ∀ H' dx, Same H H' → H' dx = none → W (.ref (He.ga K "InvalidConjunction")) (some dx) [some (.str (S word)), some v, some x, some (.bl b), none] (upd H' dx (.xd [("given", v)])) := fun hc H' dx s hdx => by
    subst hW
    refine ⟨true, X.cc, fun _ a ha => ?_, fun z => by cases z⟩
    unfold t_askedH endsAs
    walk_at "mt"
    refine ⟨_, upd_same, v, rfl, h2, fun p hp2 => ?_⟩
    exact q0 hc p _ ((s.trans (same_upd hdx)).trans (same_upd hp2)) (Same.free (s.trans (same_upd hdx)) hp2) upd_same
  clear hW
  walk_at "mt"
  by_cases hw1 : word = wTree
  · rw [if_pos (by rw [hw1])]
    have key : spJoinTree K [v] H (fun x H1 => 2 ≤ sizeLine ∧ ∀ (p : Addr), H1 p = none → Q (V.ref p) (upd H1 p (HO.lst [V.str (S wTold), x]))) (fun cls d H2 => W cls d [some (.str (S word)), some v, some x, some (.bl b), none] H2) := by
      refine ⟨v, d, rfl, hd, ho, raise, fun hc => ⟨fun hl p l ws ts H' t1 t2 s hln el hps ep => ⟨h2, fun r hr => ?_⟩, fun hl p l H' s hln el ep => ⟨h2, fun r hr => ?_⟩⟩⟩
      · exact (q1 hc hw1).1 hl r p l ws ts _ t1 t2 (s.trans (same_upd hr)) (Same.free s hr) hln (same_upd hr _ _ el) (hps.mono (same_upd hr)) (same_upd hr _ _ ep) upd_same
      · exact (q1 hc hw1).2 hl r p l _ (s.trans (same_upd hr)) (Same.free s hr) hln (same_upd hr _ _ el) (same_upd hr _ _ ep) upd_same
    cases b
    · simp only [Bool.false_eq_true, ↓reduceIte]; exact key
    · simp only [↓reduceIte]; exact key
  · rw [if_neg (fun z => hw1 (SX.S_inj z))]
    by_cases hw2 : word = wIs
    · rw [if_pos (by rw [hw2])]
      have key : spIsJoinTree K [v, x] H (fun x H1 => 2 ≤ sizeLine ∧ ∀ (p : Addr), H1 p = none → Q (V.ref p) (upd H1 p (HO.lst [V.str (S wTold), x]))) (fun cls d H2 => W cls d [some (.str (S word)), some v, some x, some (.bl b), none] H2) :=
        ⟨v, x, d, e, rfl, hd, ho, hm, he, hz, raise, fun hc H' s => ⟨h2, fun r hr => q2 hc hw2 r _ (s.trans (same_upd hr)) (Same.free s hr) upd_same⟩⟩
      unfold tFnK2 tFnW2
      cases b
      · simp only [Bool.false_eq_true, ↓reduceIte]; exact ⟨_, rfl, _, rfl, key⟩
      · simp only [↓reduceIte]; exact ⟨_, rfl, _, rfl, key⟩
    · rw [if_neg (fun z => hw2 (SX.S_inj z))]
      have key : spIsRing K [v, x] H (fun x H1 => 2 ≤ sizeLine ∧ ∀ (p : Addr), H1 p = none → Q (V.ref p) (upd H1 p (HO.lst [V.str (S wTold), x]))) (fun cls d H2 => W cls d [some (.str (S word)), some v, some x, some (.bl b), none] H2) :=
        ⟨v, x, d, e, rfl, hd, ho, he, raise, fun hc H' s => ⟨h2, fun r hr => q3 hc hw1 hw2 r _ (s.trans (same_upd hr)) (Same.free s hr) upd_same⟩⟩
      unfold tFnK2 tFnW2
      cases b
      · simp only [Bool.false_eq_true, ↓reduceIte]; exact ⟨_, rfl, _, rfl, key⟩
      · simp only [↓reduceIte]; exact ⟨_, rfl, _, rfl, key⟩
end K44
set_option Elab.async false
set_option linter.all false
set_option maxRecDepth 100000
set_option maxHeartbeats 4000000
namespace K44
open PySem PySem.Spec PyProof.Rows L2 MT
open SX (S)
local macro_rules | `(tactic| walk_at "mt") => `(tactic| simp only [L2.start, List.map_cons, List.map_nil, List.length_cons, List.length_nil, List.replicate_succ, List.replicate_zero, Nat.reduceSub, Nat.reduceAdd, Nat.sub_self, Nat.zero_add, List.cons_append, List.nil_append, List.append_nil, List.getElem?_cons_zero, List.getElem?_cons_succ, List.set_cons_zero, List.set_cons_succ, Option.some.injEq, exists_eq_left', exists_eq_left, exists_eq_right, V.bl.injEq, V.int.injEq, V.str.injEq, V.ref.injEq, reduceCtorEq, false_and, and_false, true_and, and_true, false_or, or_false, exists_false, exists_const, ↓reduceIte, Bool.false_eq_true, decide_eq_true_eq, Bool.and_eq_true, Bool.not_true, Bool.not_false, List.cons.injEq, exists_and_left, exists_and_right,
  tRet, rInM, rNeI, rSortM, rIndexM, rRepM, rSetDM, rListDM, rPopAtM, tLstRg, tRg1, tDIn, tBM, tBM0, tAndV, tOrV, tNotV, tAnd, tOr, tNot, tB, tTest, tIf, tIfS, tC, tVar, tOp, tUn, tChain, rI0, rI, rU, tFn, tCons, tNil, tCB, tTup, tLst, tAsg, gName, tNext, tDrop, tRetN, tPar, tPar3, tAug, tReplC, tRevS, rLenM2, rIsBM, tDNotIn, tDGet, rSumM, rMaxM, rMinM, gSub, rSetL, tRaiseO, tFnW, tXf, gTup, gUnl, gCons, gNil, rPopM, rAppendM, rExtendM, rTupM, rListM, ipI, tIs, tIss, rLenM, rIxM, rAddM, rEqM, rNeM, rSignIn, rInt, rAbs, rStrI, tSl, tPart, tNoPart, rSlM, tIsN, tNotN, List.any_cons, List.any_nil, Bool.or_false, tSeq, isa, D.ty, decide_true, decide_false, Bool.true_or, Bool.or_true, Bool.false_or, Bool.and_true, Bool.true_and, Bool.false_and, Bool.and_false, eq_self_iff_true, not_true_eq_false, not_false_eq_true, bne_self_eq_false])
/-- the heap but for two cells -/
def Sm2 (b v : Addr) (H H' : Hp) : Prop := ∀ z o, z ≠ b → z ≠ v → H z = some o → H' z = some o
theorem Sm2.refl {b v : Addr} {H : Hp} : Sm2 b v H H := fun _ _ _ _ e => e
theorem Sm2.trans {b v : Addr} {H H' H'' : Hp} (a : Sm2 b v H H') (c : Sm2 b v H' H'') : Sm2 b v H H'' := fun z o h1 h2 e => c z o h1 h2 (a z o h1 h2 e)
theorem Sm2.b {b v : Addr} {H : Hp} {o : HO} : Sm2 b v H (upd H b o) := fun z u h1 h2 e => by rw [upd_ne h1]; exact e
theorem Sm2.v {b v : Addr} {H : Hp} {o : HO} : Sm2 b v H (upd H v o) := fun z u h1 h2 e => by rw [upd_ne h2]; exact e
theorem Sm2.smd {b v : Addr} {H H' : Hp} (s : Sm2 b v H H') (h : H v = none) : SmD b H H' := fun z o h1 e => s z o h1 (fun w => by rw [w, h] at e; cases e) e
def y_else (K : PySem.W.Frag) : TS := tIfS (tAnd (tTest (tOp rEqM (tVar 4) (tC (.int 0)))) (tTest (tOp (rI0 fun i j => .bl (decide (i < j))) (tVar 3) (tC (.int 14))))) (tSeq (tDrop (tBM K "list" rAppendM (tVar 12) (tCons (tVar 3) tNil))) (tAsg (tOp rAddM (tVar 3) (tC (.int 1))) (gName 3))) (tDrop (tBM K "list" rAppendM (tVar 12) (tCons (tFn spTake (tCons (tVar 0) (tCons (tVar 3) tNil))) tNil)))
def y_one (K : PySem.W.Frag) : TS := tIfS (tAnd (tTest (tOp rNeM (tVar 4) (tC (.int 2)))) (tAnd (tB (tEqNil true (tVar 11))) (tTest (tOp rEqM (tFn spTake (tCons (tVar 0) (tCons (tC (.int 2)) tNil))) (tC (.int 0)))))) (tDrop (tBM K "list" rAppendM (tVar 12) (tCons (tOp rIxM (tVar 11) (tFn spTake (tCons (tVar 0) (tCons (tCB rLenM (tCons (tVar 11) tNil)) tNil)))) tNil))) (y_else K)
def y_place (K : PySem.W.Frag) : TS := tFor (iRng1 (tCons (tDGet (tVar 1) (tVar 7)) tNil)) (gName 13) (y_one K)
def InM (m : Nat) (xs : List Int) : Prop := ∀ x ∈ xs, 0 ≤ x ∧ x < (m : Int)
theorem InM.mono {m n : Nat} {xs : List Int} (h : InM m xs) (hn : m ≤ n) : InM n xs := fun x hx => ⟨(h x hx).1, by have := (h x hx).2; omega⟩
section
variable {K : PySem.W.Frag} {b nd kc vc : Addr} {m2 c : Nat} {way : Int} {nm : V} {x2 x5 x6 x8 x9 x10 x13 : Option V} {H : Hp} {kn xs : List Int} {D : L2.Ends}
theorem place_else (ev : H vc = some (.lst (xs.map V.int))) (hz : xs.length ≤ 1000) (hb : Bx H b c) (hc : c ≤ 900000000) (hm : 1 ≤ m2) (hm2 : m2 ≤ 14) (nbv : vc ≠ b)
    (q : ∀ (m3 : Nat) x H', m2 ≤ m3 → m3 ≤ 14 → 0 ≤ x → x < (m3 : Int) → Sm2 b vc H H' → H' vc = some (.lst ((xs ++ [x]).map V.int)) → Bx H' b (c + 1) → D.nx [some (.ref b), some (.ref nd), x2, some (.int (m3 : Int)), some (.int way), x5, x6, some nm, x8, x9, x10, some (.ref kc), some (.ref vc), x13] H') :
    y_else K D [some (.ref b), some (.ref nd), x2, some (.int (m2 : Int)), some (.int way), x5, x6, some nm, x8, x9, x10, some (.ref kc), some (.ref vc), x13] H := by
  have hlen : (xs.map V.int).length < sizeLine := by rw [List.length_map]; exact big1 (by omega)
  have bxv : ∀ {H1 : Hp} {k : Nat} {o : HO}, Bx H1 b k → Bx (upd H1 vc o) b k := fun h => h.same (upd_ne (Ne.symm nbv))
  have draw : tDrop (tBM K "list" rAppendM (tVar 12) (tCons (tFn spTake (tCons (tVar 0) (tCons (tVar 3) tNil))) tNil)) D [some (.ref b), some (.ref nd), x2, some (.int (m2 : Int)), some (.int way), x5, x6, some nm, x8, x9, x10, some (.ref kc), some (.ref vc), x13] H := by
    walk_at "mt"
    refine ⟨tyL ev, b, m2, c, rfl, hm, by omega, hb, by omega, fun r o hr hb2 => ?_⟩
    refine ⟨xs.map V.int, by rw [upd_ne nbv]; exact ev, hlen, ?_⟩
    refine q m2 r _ (Nat.le_refl _) hm2 (by omega) (by omega) (Sm2.b.trans .v) (by rw [upd_same, List.map_append]; rfl) (bxv hb2)
  unfold y_else
  generalize hDr : (tDrop (tBM K "list" rAppendM (tVar 12) (tCons (tFn spTake _) _)) : TS) = Dr at draw ⊢
  walk_at "mt"
  by_cases h0 : way = 0
  · rw [if_pos h0]
    by_cases h1 : (m2 : Int) < 14
    · rw [if_pos h1]
      refine ⟨tyL ev, xs.map V.int, ev, hlen, ?_⟩
      rw [show (m2 : Int) + 1 = ((m2 + 1 : Nat) : Int) by omega]
      exact q (m2 + 1) m2 _ (by omega) (by omega) (by omega) (by omega) .v (by rw [upd_same, List.map_append]; rfl) (bxv (hb.mono (by omega)))
    · rw [if_neg h1]
      exact draw
  · rw [if_neg h0]
    exact draw
theorem place_one (ek : H kc = some (.lst (kn.map V.int))) (hkn : InM m2 kn) (hkl : kn.length ≤ 3) (ev : H vc = some (.lst (xs.map V.int))) (hz : xs.length ≤ 1000) (hb : Bx H b c) (hc : c ≤ 890000000) (hm : 1 ≤ m2) (hm2 : m2 ≤ 14) (nbv : vc ≠ b) (nbk : kc ≠ b) (nkv : kc ≠ vc)
    (q : ∀ (m3 : Nat) x H', m2 ≤ m3 → m3 ≤ 14 → 0 ≤ x → x < (m3 : Int) → Sm2 b vc H H' → H' vc = some (.lst ((xs ++ [x]).map V.int)) → Bx H' b (c + 3) → D.nx [some (.ref b), some (.ref nd), x2, some (.int (m3 : Int)), some (.int way), x5, x6, some nm, x8, x9, x10, some (.ref kc), some (.ref vc), x13] H') :
    y_one K D [some (.ref b), some (.ref nd), x2, some (.int (m2 : Int)), some (.int way), x5, x6, some nm, x8, x9, x10, some (.ref kc), some (.ref vc), x13] H := by
  have hlen : (xs.map V.int).length < sizeLine := by rw [List.length_map]; exact big1 (by omega)
  have bxv : ∀ {H1 : Hp} {k : Nat} {o : HO}, Bx H1 b k → Bx (upd H1 vc o) b k := fun h => h.same (upd_ne (Ne.symm nbv))
  have els : ∀ H1, Sm2 b vc H H1 → H1 vc = some (.lst (xs.map V.int)) → Bx H1 b (c + 1) → y_else K D [some (.ref b), some (.ref nd), x2, some (.int (m2 : Int)), some (.int way), x5, x6, some nm, x8, x9, x10, some (.ref kc), some (.ref vc), x13] H1 := fun H1 s1 e1 b1 =>
    place_else e1 hz b1 (by omega) hm hm2 nbv fun m3 x H' h1 h2 h3 h4 s2 e2 b2 => q m3 x H' h1 h2 h3 h4 (s1.trans s2) e2 (b2.mono (by omega))
  unfold y_one
  generalize y_else K = Els at els ⊢
  walk_at "mt"
  by_cases h2 : way = 2
  · rw [if_neg (by simp [h2])]
    exact els H .refl ev (hb.mono (by omega))
  · rw [if_pos (by simp [h2])]
    unfold tEqNil
    refine ⟨_, rfl, kc, _, rfl, ek, _, rfl, ?_⟩
    cases kn with
    | nil => exact els H .refl ev (hb.mono (by omega))
    | cons k0 kn =>
      rw [if_pos (by rfl)]
      refine ⟨b, 2, c, rfl, by decide, by decide, hb, by omega, fun r o hr hb2 => ?_⟩
      have e1 : (upd H b o) vc = some (.lst (xs.map V.int)) := by rw [upd_ne nbv]; exact ev
      have ek1 : (upd H b o) kc = some (.lst ((k0 :: kn).map V.int)) := by rw [upd_ne nbk]; exact ek
      have s1 : Sm2 b vc H (upd H b o) := .b
      generalize upd H b o = H1 at e1 ek1 s1 hb2 ⊢
      by_cases hr0 : (r : Int) = 0
      · show (if (r : Int) = 0 then _ else _)
        rw [if_pos hr0]
        refine ⟨tyL e1, (k0 :: kn).map V.int, by rw [ek1]; rfl, ?_⟩
        refine ⟨b, ((k0 :: kn).map V.int).length, c + 1, rfl, by simp, by rw [List.length_map]; omega, hb2, by omega, fun i o2 hi hb3 => ?_⟩
        have e2 : (upd H1 b o2) vc = some (.lst (xs.map V.int)) := by rw [upd_ne nbv]; exact e1
        have ek2 : (upd H1 b o2) kc = some (.lst ((k0 :: kn).map V.int)) := by rw [upd_ne nbk]; exact ek1
        rw [List.length_map] at hi
        have hin := hkn ((k0 :: kn).getD i 0) (by rw [List.getD_eq_getElem?_getD, List.getElem?_eq_getElem hi]; exact List.getElem_mem hi)
        refine ⟨_, by rw [ek2]; rfl, .int ((k0 :: kn).getD i 0), seq_at hi, xs.map V.int, e2, hlen, ?_⟩
        exact q m2 _ _ (Nat.le_refl _) hm2 hin.1 hin.2 ((s1.trans .b).trans .v) (by rw [upd_same, List.map_append]; rfl) (bxv (hb3.mono (by omega)))
      · show (if (r : Int) = 0 then _ else _)
        rw [if_neg hr0]
        exact els H1 s1 e1 hb2
end
theorem place_loop {K : PySem.W.Frag} {b nd kc vc : Addr} {w many c : Nat} {way : Int} {nm : V} {x2 x5 x6 x8 x9 x10 x13 : Option V} {H : Hp} {kn : List Int} {D : L2.Ends} (hw : w ≤ 3) (hg : DGet H nd nm (some (.int (w : Int)))) (ek : H kc = some (.lst (kn.map V.int))) (hkn : InM many kn) (hkl : kn.length ≤ 3) (ev : H vc = some (.lst [])) (hb : Bx H b c) (hc : c ≤ 800000000) (hm : 1 ≤ many) (hm2 : many ≤ 14)
    (nbv : vc ≠ b) (nbk : kc ≠ b) (nkv : kc ≠ vc)
    (q : ∀ (m2 : Nat) xs x13 H', many ≤ m2 → m2 ≤ 14 → xs.length = w → InM m2 xs → Sm2 b vc H H' → H' vc = some (.lst (xs.map V.int)) → Bx H' b (c + 9) → D.nx [some (.ref b), some (.ref nd), x2, some (.int (m2 : Int)), some (.int way), x5, x6, some nm, x8, x9, x10, some (.ref kc), some (.ref vc), x13] H') :
    y_place K D [some (.ref b), some (.ref nd), x2, some (.int (many : Int)), some (.int way), x5, x6, some nm, x8, x9, x10, some (.ref kc), some (.ref vc), x13] H := by
  unfold y_place
  refine for_rng (n := w) (by omega) (fun Q q => ⟨_, rfl, _, rfl, nd, _, rfl, hg, q⟩)
    (fun k σ' H' => ∃ m2 xs x13, σ' = [some (.ref b), some (.ref nd), x2, some (.int ((m2 : Nat) : Int)), some (.int way), x5, x6, some nm, x8, x9, x10, some (.ref kc), some (.ref vc), x13] ∧ many ≤ m2 ∧ m2 ≤ 14 ∧ xs.length = k ∧ InM m2 xs ∧ Sm2 b vc H H' ∧ H' vc = some (.lst (xs.map V.int)) ∧ Bx H' b (c + 3 * k))
    ⟨many, [], _, rfl, Nat.le_refl _, hm2, rfl, fun x hx => (by cases hx), .refl, ev, hb⟩ (fun k σ' H' hk ⟨m2, xs, y13, es, h1, h2, h3, h4, s, e, hb'⟩ => ?_) fun σ' H' ⟨m2, xs, y13, es, h1, h2, h3, h4, s, e, hb'⟩ => by
      subst es
      exact q m2 xs y13 H' h1 h2 h3 h4 s e (hb'.mono (by omega))
  subst es
  dsimp only [List.set_cons_zero, List.set_cons_succ]
  refine place_one (s _ _ nbk nkv ek) (hkn.mono h1) hkl e (by omega) hb' (by omega) (by omega) h2 nbv nbk nkv fun m3 x H2 k1 k2 k3 k4 s2 e2 b2 => ?_
  refine ⟨m3, xs ++ [x], _, rfl, by omega, k2, by rw [List.length_append, h3]; rfl, fun y hy => ?_, s.trans s2, e2, b2.mono (by omega)⟩
  rcases List.mem_append.mp hy with hy | hy
  · exact h4.mono k1 y hy
  · rw [List.mem_singleton.mp hy]; exact ⟨k3, k4⟩
end K44
set_option Elab.async false
set_option linter.all false
set_option maxRecDepth 100000
set_option maxHeartbeats 4000000
namespace K44
open PySem PySem.Spec PyProof.Rows L2 MT
open SX (S)
local macro_rules | `(tactic| walk_at "mt") => `(tactic| simp only [L2.start, List.map_cons, List.map_nil, List.length_cons, List.length_nil, List.replicate_succ, List.replicate_zero, Nat.reduceSub, Nat.reduceAdd, Nat.sub_self, Nat.zero_add, List.cons_append, List.nil_append, List.append_nil, List.getElem?_cons_zero, List.getElem?_cons_succ, List.set_cons_zero, List.set_cons_succ, Option.some.injEq, exists_eq_left', exists_eq_left, exists_eq_right, V.bl.injEq, V.int.injEq, V.str.injEq, V.ref.injEq, reduceCtorEq, false_and, and_false, true_and, and_true, false_or, or_false, exists_false, exists_const, ↓reduceIte, Bool.false_eq_true, decide_eq_true_eq, Bool.and_eq_true, Bool.not_true, Bool.not_false, List.cons.injEq, exists_and_left, exists_and_right,
  tRet, rInM, rNeI, rSortM, rIndexM, rRepM, rSetDM, rListDM, rPopAtM, tLstRg, tRg1, tDIn, tBM, tBM0, tAndV, tOrV, tNotV, tAnd, tOr, tNot, tB, tTest, tIf, tIfS, tC, tVar, tOp, tUn, tChain, rI0, rI, rU, tFn, tCons, tNil, tCB, tTup, tLst, tAsg, gName, tNext, tDrop, tRetN, tPar, tPar3, tAug, tReplC, tRevS, rLenM2, rIsBM, tDNotIn, tDGet, rSumM, rMaxM, rMinM, gSub, rSetL, tRaiseO, tFnW, tXf, gTup, gUnl, gCons, gNil, rPopM, rAppendM, rExtendM, rTupM, rListM, ipI, tIs, tIss, rLenM, rIxM, rAddM, rEqM, rNeM, rSignIn, rInt, rAbs, rStrI, tSl, tPart, tNoPart, rSlM, tIsN, tNotN, List.any_cons, List.any_nil, Bool.or_false, tSeq, isa, D.ty, decide_true, decide_false, Bool.true_or, Bool.or_true, Bool.false_or, Bool.and_true, Bool.true_and, Bool.false_and, Bool.and_false, eq_self_iff_true, not_true_eq_false, not_false_eq_true, bne_self_eq_false])
/-- an atom in the heap, its variables below many -/
def AtN (H : Hp) (many : Nat) (v : V) : Prop := ∃ t u l xs, v = .ref t ∧ H t = some (.tup [.str (S [105, 110]), .str (S l), .ref u]) ∧ H u = some (.tup (xs.map V.int)) ∧ wordD (.str l) = true ∧ 1 ≤ xs.length ∧ xs.length ≤ 3 ∧ InM many xs
theorem AtN.keep {H H' : Hp} {m n : Nat} {v : V} {b L : Addr} {xs ys : List V} (h : AtN H m v) (hn : m ≤ n) (hb : H b = some (.lst xs)) (hL : H L = some (.lst ys)) (s : Sm2 b L H H') : AtN H' n v := by
  obtain ⟨t, u, l, zs, e, h1, h2, h3, h4, h5, h6⟩ := h
  have ne : ∀ {x us}, H x = some (.tup us) → x ≠ b ∧ x ≠ L := fun e => ⟨fun z => (by rw [z, hb] at e; cases e), fun z => (by rw [z, hL] at e; cases e)⟩
  exact ⟨t, u, l, zs, e, s _ _ (ne h1).1 (ne h1).2 h1, s _ _ (ne h2).1 (ne h2).2 h2, h3, h4, h5, h6.mono hn⟩
/-- the names: a word with its width in the dict -/
def Names (H : Hp) (nd W : Addr) (ms : List Str) : Prop := H W = some (.lst (ms.map V.str)) ∧ ms.length = 4 ∧ ∀ s ∈ ms, ∃ l, ∃ w : Nat, s = S l ∧ wordD (.str l) = true ∧ 1 ≤ w ∧ w ≤ 3 ∧ ∀ H', H' nd = H nd → DGet H' nd (.str s) (some (.int (w : Int)))
theorem Bx.lst {H : Hp} {b : Addr} {c : Nat} (h : Bx H b c) : ∃ xs, H b = some (.lst xs) := by
  obtain ⟨n, g, m, k, e, _⟩ := h
  exact ⟨_, e⟩
def y_turn (K : PySem.W.Frag) : TS := tSeq (tAsg (tOp rIxM (tVar 6) (tFn spTake (tCons (tVar 0) (tCons (tCB rLenM (tCons (tVar 6) tNil)) tNil)))) (gName 7)) (tSeq (tAsg (tIf (tB (tEqNil true (tVar 5))) (tCB rListM (tCons (tOp rIxM (tOp rIxM (tVar 5) (tFn spTake (tCons (tVar 0) (tCons (tCB rLenM (tCons (tVar 5) tNil)) tNil)))) (tC (.int 2))) tNil)) (tLst tNil)) (gName 11)) (tSeq (tAsg (tLst tNil) (gName 12)) (tSeq (y_place K) (tDrop (tBM K "list" rAppendM (tVar 5) (tCons (tTup (tCons (tC (.str (S [105, 110]))) (tCons (tVar 7) (tCons (tCB rTupM (tCons (tVar 12) tNil)) tNil)))) tNil))))))
theorem turn_ok {K : PySem.W.Frag} {b nd L W : Addr} {many c : Nat} {way : Int} {x2 x7 x8 x9 x10 x11 x12 x13 : Option V} {H : Hp} {ms : List Str} {vs : List V} {D : L2.Ends} (hN : Names H nd W ms) (eL : H L = some (.lst vs)) (hvs : ∀ v ∈ vs, AtN H many v) (hvl : vs.length ≤ 20) (hb : Bx H b c) (hc : c ≤ 700000000) (hm : 1 ≤ many) (hm2 : many ≤ 14) (nbL : L ≠ b) (ndb : nd ≠ b) (ndL : nd ≠ L) (hnd : H nd ≠ none) (nWb : W ≠ b) (nWL : W ≠ L)
    (q : ∀ (m2 : Nat) v x7 x11 x12 x13 H', many ≤ m2 → m2 ≤ 14 → Sm2 b L H H' → H' L = some (.lst (vs ++ [v])) → AtN H' m2 v → Bx H' b (c + 11) → D.nx [some (.ref b), some (.ref nd), x2, some (.int (m2 : Int)), some (.int way), some (.ref L), some (.ref W), x7, x8, x9, x10, x11, x12, x13] H') :
    y_turn K D [some (.ref b), some (.ref nd), x2, some (.int (many : Int)), some (.int way), some (.ref L), some (.ref W), x7, x8, x9, x10, x11, x12, x13] H := by
  obtain ⟨eW, hml, hms⟩ := hN
  unfold y_turn
  generalize hT : (tSeq (tAsg (tLst tNil) (gName 12)) _ : TS) = T
  -- once the known variables are there
  have rest : ∀ (s : Str) (kc : Addr) (kn : List Int) (k : Nat) H1, s ∈ ms → Sm2 b L H H1 → H1 L = some (.lst vs) → H1 kc = some (.lst (kn.map V.int)) → H kc = none → InM many kn → kn.length ≤ 3 → Bx H1 b (c + 2) →
      T D [some (.ref b), some (.ref nd), x2, some (.int (many : Int)), some (.int way), some (.ref L), some (.ref W), some (.str s), x8, x9, x10, some (.ref kc), x12, x13] H1 := by
    intro s kc kn k H1 hs s1 eL1 ek hk0 hkn hkl hb1
    obtain ⟨l, w, rfl, hw0, hw1, hw3, hg⟩ := hms s hs
    subst hT
    have nkb : kc ≠ b := fun z => hb.ne (by rw [← z]; exact hk0)
    have nkL : kc ≠ L := fun z => by rw [z, eL] at hk0; cases hk0
    unfold tSeq tAsg tLst tNil
    refine ⟨Nat.zero_le _, fun vc hv => ?_⟩
    dsimp only
    have ev : (upd H1 vc (.lst [])) vc = some (.lst []) := upd_same
    have nvb : vc ≠ b := fun z => hb1.ne (by rw [← z]; exact hv)
    have nvL : vc ≠ L := fun z => by rw [z, eL1] at hv; cases hv
    have nkv : kc ≠ vc := fun z => by rw [z, hv] at ek; cases ek
    have s2 : Sm2 b L H (upd H1 vc (.lst [])) := fun z o h1 h2 e => same_upd hv _ _ (s1 z o h1 h2 e)
    have e2 : (upd H1 vc (.lst [])) nd = H nd := by
      cases z : H nd with
      | none => exact absurd z hnd
      | some o => exact s2 _ _ ndb ndL z
    have hv0 : H vc = none := Classical.byContradiction fun z => by
      cases z2 : H vc with
      | none => exact z z2
      | some o => have := s1 _ _ nvb nvL z2; rw [hv] at this; cases this
    have eL2 : (upd H1 vc (.lst [])) L = some (.lst vs) := same_upd hv _ _ eL1
    have ek2 : (upd H1 vc (.lst [])) kc = some (.lst (kn.map V.int)) := same_upd hv _ _ ek
    have hb2 := hb1.ext (same_upd (o := .lst []) hv)
    generalize upd H1 vc (.lst []) = H2 at ev s2 e2 eL2 ek2 hb2 ⊢
    refine place_loop (w := w) hw3 (hg H2 e2) ek2 hkn hkl ev hb2 (by omega) hm hm2 nvb nkb nkv fun m2 xs y13 H3 k1 k2 k3 k4 s3 e3 b3 => ?_
    have eL3 : H3 L = some (.lst vs) := s3 _ _ nbL (Ne.symm nvL) eL2
    have sH3 : Sm2 b L H H3 := fun z o h1 h2 e => s3 z o h1 (fun y => by rw [y, hv0] at e; cases e) (s2 z o h1 h2 e)
    walk_at "mt"
    refine ⟨tyL eL3, ?_⟩
    rw [e3]
    dsimp only
    intro u hu
    refine ⟨by decide +kernel, fun p hp => ⟨vs, same_upd hp _ _ (same_upd hu _ _ eL3), big1 (by omega), ?_⟩⟩
    have eu : (upd (upd H3 u (.tup (xs.map V.int))) p (.tup [.str (S [105, 110]), .str (S l), .ref u])) u = some (.tup (xs.map V.int)) := same_upd hp _ _ upd_same
    have ep : (upd (upd H3 u (.tup (xs.map V.int))) p (.tup [.str (S [105, 110]), .str (S l), .ref u])) p = some (.tup [.str (S [105, 110]), .str (S l), .ref u]) := upd_same
    have s5 : Same H3 (upd (upd H3 u (.tup (xs.map V.int))) p (.tup [.str (S [105, 110]), .str (S l), .ref u])) := (same_upd hu).trans (same_upd hp)
    have nuL : u ≠ L := fun z => by rw [z, eL3] at hu; cases hu
    have npL : p ≠ L := fun z => by rw [z, same_upd hu _ _ eL3] at hp; cases hp
    generalize upd (upd H3 u (.tup (xs.map V.int))) p (.tup [.str (S [105, 110]), .str (S l), .ref u]) = H5 at eu ep s5 ⊢
    refine q m2 (.ref p) _ _ _ _ _ k1 k2 ((sH3.trans (fun z o _ _ e => s5 z o e)).trans .v) upd_same ⟨p, u, l, xs, rfl, by rw [upd_ne npL]; exact ep, by rw [upd_ne nuL]; exact eu, hw0, by omega, by omega, k4⟩ ?_
    exact ((b3.ext s5).same (upd_ne (Ne.symm nbL))).mono (by omega)
  unfold tSeq tAsg
  generalize hK : (tIf _ _ _ : TE) = KN
  walk_at "mt"
  refine ⟨ms.map V.str, by rw [eW]; rfl, ?_⟩
  refine ⟨b, (ms.map V.str).length, c, rfl, by rw [List.length_map]; omega, by rw [List.length_map]; omega, hb, by omega, fun i o hi hb1 => ?_⟩
  rw [List.length_map] at hi
  have hs : ms[i] ∈ ms := List.getElem_mem hi
  have sb : Sm2 b L H (upd H b o) := .b
  have eL1 : (upd H b o) L = some (.lst vs) := by rw [upd_ne nbL]; exact eL
  have eW1 : (upd H b o) W = some (.lst (ms.map V.str)) := by rw [upd_ne nWb]; exact eW
  generalize upd H b o = H1 at hb1 sb eL1 eW1 ⊢
  refine ⟨ms.map V.str, by rw [eW1]; rfl, .str ms[i], ?_, ?_⟩
  · rw [atI_nn (by omega) (by rw [List.length_map]; omega)]
    have : ((i : Nat) : Int).toNat = i := by omega
    rw [this, List.getElem?_map, List.getElem?_eq_getElem hi]
    rfl
  · subst hK
    walk_at "mt"
    unfold tEqNil
    refine ⟨_, rfl, L, vs, rfl, eL1, _, rfl, ?_⟩
    cases vs with
    | nil =>
      rw [if_neg (by decide)]
      refine ⟨Nat.zero_le _, fun kc hk => ?_⟩
      have nkL : kc ≠ L := fun z => by rw [z, eL1] at hk; cases hk
      have hk0 : H kc = none := Classical.byContradiction fun z => by
        cases z2 : H kc with
        | none => exact z z2
        | some o2 => have := sb _ _ (fun y => hb1.ne (by rw [← y]; exact hk)) nkL z2; rw [hk] at this; cases this
      exact rest ms[i] kc [] 0 _ hs (sb.trans fun z o _ _ e => same_upd hk _ _ e) (same_upd hk _ _ eL1) upd_same hk0 (fun x hx => by cases hx) (Nat.zero_le _) ((hb1.ext (same_upd hk)).mono (by omega))
    | cons v0 vs =>
      rw [if_pos (by rfl)]
      refine ⟨v0 :: vs, by rw [eL1]; rfl, ?_⟩
      refine ⟨b, (v0 :: vs).length, c + 1, rfl, by simp, by omega, hb1, by omega, fun j o2 hj hb2 => ?_⟩
      have sb2 : Sm2 b L H (upd H1 b o2) := sb.trans .b
      have eL2 : (upd H1 b o2) L = some (.lst (v0 :: vs)) := by rw [upd_ne nbL]; exact eL1
      generalize upd H1 b o2 = H2 at hb2 sb2 eL2 ⊢
      obtain ⟨bx, ebx⟩ := hb.lst
      obtain ⟨t, u, l2, zs, e1, e2, e3, e4, e5, e6, e7⟩ := (hvs _ (List.getElem_mem hj)).keep (Nat.le_refl _) ebx eL sb2
      refine ⟨v0 :: vs, by rw [eL2]; rfl, .ref t, by
        rw [atI_nn (by omega) (by omega)]
        have : ((j : Nat) : Int).toNat = j := by omega
        rw [this, List.getElem?_eq_getElem hj, e1], ?_⟩
      refine ⟨_, by rw [e2]; rfl, .ref u, rfl, zs.map V.int, by rw [e3]; rfl, fun kc hk => ?_⟩
      have nkL : kc ≠ L := fun z => by rw [z, eL2] at hk; cases hk
      have hk0 : H kc = none := Classical.byContradiction fun z => by
        cases z2 : H kc with
        | none => exact z z2
        | some o2 => have := sb2 _ _ (fun y => hb2.ne (by rw [← y]; exact hk)) nkL z2; rw [hk] at this; cases this
      exact rest ms[i] kc zs 0 _ hs (sb2.trans fun z o _ _ e => same_upd hk _ _ e) (same_upd hk _ _ eL2) upd_same hk0 e7 e6 (hb2.ext (same_upd hk))
end K44
set_option Elab.async false
set_option linter.all false
set_option maxRecDepth 100000
set_option maxHeartbeats 4000000
namespace K44
open PySem PySem.Spec PyProof.Rows L2 MT
open SX (S)
local macro_rules | `(tactic| walk_at "mt") => `(tactic| simp only [L2.start, List.map_cons, List.map_nil, List.length_cons, List.length_nil, List.replicate_succ, List.replicate_zero, Nat.reduceSub, Nat.reduceAdd, Nat.sub_self, Nat.zero_add, List.cons_append, List.nil_append, List.append_nil, List.getElem?_cons_zero, List.getElem?_cons_succ, List.set_cons_zero, List.set_cons_succ, Option.some.injEq, exists_eq_left', exists_eq_left, exists_eq_right, V.bl.injEq, V.int.injEq, V.str.injEq, V.ref.injEq, reduceCtorEq, false_and, and_false, true_and, and_true, false_or, or_false, exists_false, exists_const, ↓reduceIte, Bool.false_eq_true, decide_eq_true_eq, Bool.and_eq_true, Bool.not_true, Bool.not_false, List.cons.injEq, exists_and_left, exists_and_right,
  tRet, rInM, rNeI, rSortM, rIndexM, rRepM, rSetDM, rListDM, rPopAtM, tLstRg, tRg1, tDIn, tBM, tBM0, tAndV, tOrV, tNotV, tAnd, tOr, tNot, tB, tTest, tIf, tIfS, tC, tVar, tOp, tUn, tChain, rI0, rI, rU, tFn, tCons, tNil, tCB, tTup, tLst, tAsg, gName, tNext, tDrop, tRetN, tPar, tPar3, tAug, tReplC, tRevS, rLenM2, rIsBM, tDNotIn, tDGet, rSumM, rMaxM, rMinM, gSub, rSetL, tRaiseO, tFnW, tXf, gTup, gUnl, gCons, gNil, rPopM, rAppendM, rExtendM, rTupM, rListM, ipI, tIs, tIss, rLenM, rIxM, rAddM, rEqM, rNeM, rSignIn, rInt, rAbs, rStrI, tSl, tPart, tNoPart, rSlM, tIsN, tNotN, List.any_cons, List.any_nil, Bool.or_false, tSeq, isa, D.ty, decide_true, decide_false, Bool.true_or, Bool.or_true, Bool.false_or, Bool.and_true, Bool.true_and, Bool.false_and, Bool.and_false, eq_self_iff_true, not_true_eq_false, not_false_eq_true, bne_self_eq_false])
theorem AtN.mono {H H' : Hp} {m n : Nat} {v : V} (h : AtN H m v) (hn : m ≤ n) (s : Same H H') : AtN H' n v := by
  obtain ⟨t, u, l, zs, e, h1, h2, h3, h4, h5, h6⟩ := h
  exact ⟨t, u, l, zs, e, s _ _ h1, s _ _ h2, h3, h4, h5, h6.mono hn⟩
/-- [("in", name, (k, (k + 1) % long)) for k in range(long)] -/
theorem ring_comp {σ : L2.St} {H : Hp} {Q : VK} {l : List Nat} {long m : Nat} (h7 : σ[7]? = some (some (.str (S l)))) (h8 : σ[8]? = some (some (.int (long : Int)))) (h9 : 9 < σ.length) (hw : wordD (.str l) = true) (hl1 : 1 ≤ long) (hl : long ≤ 100) (hm : long ≤ m)
    (q : ∀ D H' vs, H D = none → Same H H' → H' D = some (.lst vs) → vs.length = long → (∀ v ∈ vs, AtN H' m v) → Q (.ref D) H') :
    tLc (iRng1 (tCons (tVar 8) tNil)) (gName 9) tYes (tTup (tCons (tC (.str (S [105, 110]))) (tCons (tVar 7) (tCons (tTup (tCons (tVar 9) (tCons (tOp (rI (fun _ j => j ≠ 0) fun i j => .int (i.fmod j)) (tCB rInt (tCons (tOp rAddM (tVar 9) (tC (.int 1))) tNil)) (tVar 8)) tNil))) tNil)))) [9] σ H Q := by
  obtain ⟨J, G, a, b, c⟩ := srcRng (σ := σ) (H := H) (t := tVar 8) (n := long) (by omega) (src_var h8)
  have e0 : ((List.range long).map fun i : Nat => V.int (i : Int)).length = long := by simp
  rw [e0] at b
  have s7 : ∀ x, (σ.set 9 (some x))[7]? = some (some (.str (S l))) := fun x => by rw [List.getElem?_set_ne (by decide)]; exact h7
  have s8 : ∀ x, (σ.set 9 (some x))[8]? = some (some (.int (long : Int))) := fun x => by rw [List.getElem?_set_ne (by decide)]; exact h8
  have s9 : ∀ x, (σ.set 9 (some x))[9]? = some (some x) := fun x => List.getElem?_set_self h9
  refine tLc_R a b c (bl_sl (by unfold BL; omega)) (Same.refl H) (fun i y F => AtN F m y) (fun i v A B s h => h.mono (Nat.le_refl _) s) (fun i F1 H1 K' hi g kk => ?_) fun D F1 H1 ys hD g _ h2 h3 h4 => ?_
  · have ei : ((List.range long).map fun i : Nat => V.int (i : Int)).getD i .non = .int (i : Int) := by
      rw [List.getD_eq_getElem?_getD, List.getElem?_map, List.getElem?_range hi]
      rfl
    rw [ei]
    obtain ⟨r, hr, hr2⟩ := fmod_rng (i := (i : Int) + 1) (n := long) (by omega)
    unfold tTup tCons tNil tC tOp tCB tVar
    refine ⟨_, s7 _, _, s9 _, _, s9 _, ?_⟩
    refine ⟨_, s8 _, _, _, rfl, rfl, by omega, ?_⟩
    refine ⟨by show 2 ≤ sizeLine; decide +kernel, fun p1 hp1 => ?_⟩
    refine ⟨by show 3 ≤ sizeLine; decide +kernel, fun p2 hp2 => ?_⟩
    dsimp only at hp2 ⊢
    rw [hr] at hp2 ⊢
    refine kk _ (upd (upd F1 p1 (.tup [.int (i : Int), .int (r : Int)])) p2 (.tup [.str (S [105, 110]), .str (S l), .ref p1])) _ (((Grow.refl g.fh).new hp1).new hp2) ?_
    have np : p1 ≠ p2 := fun z => by rw [← z, upd_same] at hp2; cases hp2
    refine ⟨p2, p1, l, [(i : Int), (r : Int)], rfl, upd_same, by rw [upd_ne np]; exact upd_same, hw, by simp, by simp, fun x hx => ?_⟩
    rcases List.mem_cons.mp hx with rfl | hx
    · omega
    · rw [List.mem_singleton.mp hx]; omega
  · refine q D H1 ys hD g.h h2 h3 fun v hv => ?_
    obtain ⟨i, hi⟩ := List.mem_iff_getElem?.mp hv
    exact (h4 i v hi).mono (Nat.le_refl _) g.fh
end K44
set_option Elab.async false
set_option linter.all false
set_option maxRecDepth 100000
set_option maxHeartbeats 4000000
namespace K44
open PySem PySem.Spec PyProof.Rows L2 MT
open SX (S)
local macro_rules | `(tactic| walk_at "mt") => `(tactic| simp only [L2.start, List.map_cons, List.map_nil, List.length_cons, List.length_nil, List.replicate_succ, List.replicate_zero, Nat.reduceSub, Nat.reduceAdd, Nat.sub_self, Nat.zero_add, List.cons_append, List.nil_append, List.append_nil, List.getElem?_cons_zero, List.getElem?_cons_succ, List.set_cons_zero, List.set_cons_succ, Option.some.injEq, exists_eq_left', exists_eq_left, exists_eq_right, V.bl.injEq, V.int.injEq, V.str.injEq, V.ref.injEq, reduceCtorEq, false_and, and_false, true_and, and_true, false_or, or_false, exists_false, exists_const, ↓reduceIte, Bool.false_eq_true, decide_eq_true_eq, Bool.and_eq_true, Bool.not_true, Bool.not_false, List.cons.injEq, exists_and_left, exists_and_right,
  tRet, rInM, rNeI, rSortM, rIndexM, rRepM, rSetDM, rListDM, rPopAtM, tLstRg, tRg1, tDIn, tBM, tBM0, tAndV, tOrV, tNotV, tAnd, tOr, tNot, tB, tTest, tIf, tIfS, tC, tVar, tOp, tUn, tChain, rI0, rI, rU, tFn, tCons, tNil, tCB, tTup, tLst, tAsg, gName, tNext, tDrop, tRetN, tPar, tPar3, tAug, tReplC, tRevS, rLenM2, rIsBM, tDNotIn, tDGet, rSumM, rMaxM, rMinM, gSub, rSetL, tRaiseO, tFnW, tXf, gTup, gUnl, gCons, gNil, rPopM, rAppendM, rExtendM, rTupM, rListM, ipI, tIs, tIss, rLenM, rIxM, rAddM, rEqM, rNeM, rSignIn, rInt, rAbs, rStrI, tSl, tPart, tNoPart, rSlM, tIsN, tNotN, List.any_cons, List.any_nil, Bool.or_false, tSeq, isa, D.ty, decide_true, decide_false, Bool.true_or, Bool.or_true, Bool.false_or, Bool.and_true, Bool.true_and, Bool.false_and, Bool.and_false, eq_self_iff_true, not_true_eq_false, not_false_eq_true, bne_self_eq_false])
/-- a right conjunction, told beside the box -/
def ConjAt (b : Addr) (H H' : Hp) (p : Addr) : Prop := ∃ d F, Same F H' ∧ F b = none ∧ Rep F (.ref p) d ∧ conjD d = true ∧ headsOk d = true ∧ manyD d ≤ 14
def intsD (xs : List Int) : D := .tup (xs.map D.int)
theorem rep_ints {F : Hp} : ∀ xs : List Int, RepL F (xs.map V.int) (xs.map D.int)
  | [] => .nil
  | x :: xs => .cons (.int x) (rep_ints xs)
theorem atN_rep {F : Hp} {m : Nat} {v : V} (h : AtN F m v) : ∃ d, Rep F v d ∧ joinAtomD m d = true ∧ headOk d = true := by
  obtain ⟨t, u, l, xs, rfl, e1, e2, hw, h1, h3, hm⟩ := h
  have hl : l.length ≤ BL := by
    simp only [wordD, Bool.and_eq_true, decide_eq_true_eq] at hw
    unfold BL; omega
  have hx : (xs.map D.int).length ≤ BL := by rw [List.length_map]; unfold BL; omega
  refine ⟨.tup [.str [105, 110], .str l, .tup (xs.map D.int)], .tup e1 (.cons (.str (by unfold BL; decide)) (.cons (.str hl) (.cons (.tup e2 (rep_ints xs) hx) .nil))) (by show 3 ≤ BL; unfold BL; decide), ?_, rfl⟩
  have ha : (xs.map D.int).all (btw 0 ((m : Int) - 1)) = true := by
    rw [List.all_eq_true]
    intro d hd
    obtain ⟨x, hx2, rfl⟩ := List.mem_map.mp hd
    have := hm x hx2
    simp only [btw, Bool.and_eq_true, decide_eq_true_eq]
    omega
  simp only [joinAtomD, hw, List.length_map, h1, h3, ha, decide_true, Bool.and_true]
theorem atsN_rep {F : Hp} {m : Nat} : ∀ {vs : List V}, (∀ v ∈ vs, AtN F m v) → ∃ ds, RepL F vs ds ∧ ds.all (joinAtomD m) = true ∧ ds.all headOk = true
  | [], _ => ⟨[], .nil, rfl, rfl⟩
  | v :: vs, h => by
    obtain ⟨d, h1, h2, h3⟩ := atN_rep (h v List.mem_cons_self)
    obtain ⟨ds, k1, k2, k3⟩ := atsN_rep fun w hw => h w (List.mem_cons_of_mem _ hw)
    exact ⟨d :: ds, .cons h1 k1, by rw [List.all_cons, h2, k2]; rfl, by rw [List.all_cons, h3, k3]; rfl⟩
theorem conj_built {H0 H : Hp} {b p l : Addr} {m : Nat} {vs : List V} (hb : ∃ xs, H b = some (.lst xs)) (ep : H p = some (.tup [.int (m : Int), .ref l])) (el : H l = some (.lst vs)) (nlb : l ≠ b) (hvs : ∀ v ∈ vs, AtN H m v) (hvl : vs.length ≤ 12) (hm : m ≤ 14) : ConjAt b H0 H p := by
  obtain ⟨xs, eb⟩ := hb
  have tp : ∀ {x us}, H x = some (.tup us) → (MT.del H b) x = some (.tup us) := fun {x us} e => by
    unfold MT.del
    rw [if_neg (fun z => by rw [z, eb] at e; cases e)]
    exact e
  have hv2 : ∀ v ∈ vs, AtN (MT.del H b) m v := fun v hv => by
    obtain ⟨t, u, l, zs, e, h1, h2, h3⟩ := hvs v hv
    exact ⟨t, u, l, zs, e, tp h1, tp h2, h3⟩
  obtain ⟨ds, r, k1, k2⟩ := atsN_rep hv2
  have hl := r.length
  refine ⟨.tup [.int m, .lst ds], MT.del H b, MT.del_sub, MT.del_self, .tup (tp ep) (.cons (.int _) (.cons (.lst (by unfold MT.del; rw [if_neg nlb]; exact el) r (by unfold BL; omega)) .nil)) (by show 2 ≤ BL; unfold BL; decide), ?_, ?_, ?_⟩
  · simp only [conjD, itemsD, k1, Bool.and_true, Bool.and_eq_true, decide_eq_true_eq]
    omega
  · simpa [headsOk, itemsD] using k2
  · show (m : Int) ≤ 14; omega
def y_conjR (K : PySem.W.Frag) : TS := tSeq (tFor (iRng1 (tCons (tFn spTake (tCons (tVar 0) (tCons (tCB rMaxM (tCons (tC (.int 1)) (tCons (tOp (rI0 fun i j => .int (i - j)) (tOp rAddM (tVar 2) (tC (.int 1))) (tCB rLenM (tCons (tVar 5) tNil))) tNil))) tNil))) tNil)) (gName 10) (y_turn K)) (tRet (tTup (tCons (tVar 3) (tCons (tFn spMixed (tCons (tVar 0) (tCons (tVar 5) tNil))) tNil))))
theorem conj_end {K : PySem.W.Frag} {b nd L W : Addr} {many most c : Nat} {way : Int} {x7 x8 x9 x10 x11 x12 x13 : Option V} {H : Hp} {ms : List Str} {vs : List V} {Q : VK} (hN : Names H nd W ms) (eL : H L = some (.lst vs)) (hvs : ∀ v ∈ vs, AtN H many v) (hvl : vs.length ≤ 5) (hmost : most ≤ 12) (hb : Bx H b c) (hc : c ≤ 600000000) (hm : 1 ≤ many) (hm2 : many ≤ 14) (nbL : L ≠ b) (ndb : nd ≠ b) (ndL : nd ≠ L) (hnd : H nd ≠ none) (nWb : W ≠ b) (nWL : W ≠ L)
    (q : ∀ p H', Sm2 b L H H' → Bx H' b (c + 200) → ConjAt b H H' p → Q (.ref p) H') :
    y_conjR K (E0N Q) [some (.ref b), some (.ref nd), some (.int (most : Int)), some (.int (many : Int)), some (.int way), some (.ref L), some (.ref W), x7, x8, x9, x10, x11, x12, x13] H := by
  unfold y_conjR
  generalize hR : (tRet (tTup _) : TS) = R
  generalize hT : y_turn K = T
  have hmx : max (1 : Int) ((most : Int) + 1 - (vs.length : Nat)) = ((max 1 (most + 1 - vs.length) : Nat) : Int) := by omega
  unfold tSeq tFor iRng1
  walk_at "mt"
  refine ⟨vs, by rw [eL]; rfl, ?_⟩
  rw [hmx]
  refine ⟨b, _, c, rfl, by omega, by omega, hb, by omega, fun r o hr hb1 => ?_⟩
  have s1 : Sm2 b L H (upd H b o) := .b
  have eL1 : (upd H b o) L = some (.lst vs) := by rw [upd_ne nbL]; exact eL
  obtain ⟨bx, ebx⟩ := hb.lst
  have hvs1 : ∀ v ∈ vs, AtN (upd H b o) many v := fun v hv => (hvs v hv).keep (Nat.le_refl _) ebx eL s1
  generalize upd H b o = H1 at hb1 s1 eL1 hvs1 ⊢
  have ndOf : ∀ {H'}, Sm2 b L H H' → H' nd = H nd := fun s => by
    cases z : H nd with
    | none => exact absurd z hnd
    | some o => exact s _ _ ndb ndL z
  have nms : ∀ {H'}, Sm2 b L H H' → Names H' nd W ms := fun {H'} s => ⟨s _ _ nWb nWL hN.1, hN.2.1, fun x hx => by
    obtain ⟨l, w, h1, h2, h3, h4, h5⟩ := hN.2.2 x hx
    exact ⟨l, w, h1, h2, h3, h4, fun H'' e => h5 H'' (by rw [e, ndOf s])⟩⟩
  have z := for_rng (t := tC (.int (r : Int))) (n := r) (j := 10) (tb := T) (D := { nx := R (E0N Q), rt := Q }) (σ := [some (.ref b), some (.ref nd), some (.int (most : Int)), some (.int (many : Int)), some (.int way), some (.ref L), some (.ref W), x7, x8, x9, x10, x11, x12, x13]) (H := H1) (by omega) (fun Q q => q)
    (fun k σ' H' => ∃ m2 vs2 x7 x8 x9 x10 x11 x12 x13, σ' = [some (.ref b), some (.ref nd), some (.int (most : Int)), some (.int ((m2 : Nat) : Int)), some (.int way), some (.ref L), some (.ref W), x7, x8, x9, x10, x11, x12, x13] ∧ many ≤ m2 ∧ m2 ≤ 14 ∧ Sm2 b L H H' ∧ H' L = some (.lst vs2) ∧ vs2.length = vs.length + k ∧ (∀ v ∈ vs2, AtN H' m2 v) ∧ Bx H' b (c + 1 + 11 * k))
    ⟨many, vs, _, _, _, _, _, _, _, rfl, Nat.le_refl _, hm2, s1, eL1, rfl, hvs1, hb1⟩
    (fun k σ' H' hk ⟨m2, vs2, y7, y8, y9, y10, y11, y12, y13, es, k1, k2, s, e, el, ha, hb'⟩ => ?_)
    fun σ' H' ⟨m2, vs2, y7, y8, y9, y10, y11, y12, y13, es, k1, k2, s, e, el, ha, hb'⟩ => ?_
  · obtain ⟨j, hj, j1, j2, j3⟩ := z
    cases hj
    exact ⟨_, rfl, j1, j2, j3⟩
  · subst es; subst hT
    dsimp only [List.set_cons_zero, List.set_cons_succ]
    refine turn_ok (nms s) e ha (by omega) hb' (by omega) (by omega) k2 nbL ndb ndL (by rw [ndOf s]; exact hnd) nWb nWL fun m3 v z7 z11 z12 z13 H2 j1 j2 s2 e2 a2 b2 => ?_
    obtain ⟨bx2, ebx2⟩ := hb'.lst
    refine ⟨m3, vs2 ++ [v], _, _, _, _, _, _, _, rfl, by omega, j2, s.trans s2, e2, by rw [List.length_append, el]; simp; omega, fun w hw => ?_, b2.mono (by omega)⟩
    rcases List.mem_append.mp hw with hw | hw
    · exact (ha w hw).keep j1 ebx2 e s2
    · rw [List.mem_singleton.mp hw]; exact a2
  · subst es; subst hR
    walk_at "mt"
    have hvl2 : vs2.length ≤ 12 := by omega
    refine ⟨b, L, vs2, _, rfl, by rw [e]; rfl, by omega, hb', by omega, fun rr ys H2 hp s2 b2 hr0 er => ?_⟩
    refine ⟨by decide +kernel, fun p hp0 => ?_⟩
    have nrb : rr ≠ b := fun z => hb'.ne (by rw [← z]; exact hr0)
    have s3 : Same H2 (upd H2 p (.tup [.int (m2 : Int), .ref rr])) := same_upd hp0
    have tpl : ∀ {x us}, H' x = some (.tup us) → x ≠ b := fun e4 z => by obtain ⟨bx2, ebx2⟩ := hb'.lst; rw [z, ebx2] at e4; cases e4
    refine q p _ ?_ ((b2.ext s3).mono (by omega)) (conj_built (l := rr) (b2.ext s3).lst upd_same (s3 _ _ er) nrb (fun v hv => ?_) (by rw [hp.length_eq]; exact hvl2) k2)
    · exact s.trans fun z o h1 h2 e4 => s3 _ _ (s2 z o h1 e4)
    · obtain ⟨t, u, l, zs, h1, h2, h3, h4⟩ := ha v (hp.mem_iff.mp hv)
      exact ⟨t, u, l, zs, h1, s3 _ _ (s2 _ _ (tpl h2) h2), s3 _ _ (s2 _ _ (tpl h3) h3), h4⟩
end K44
set_option Elab.async false
set_option linter.all false
set_option maxRecDepth 100000
set_option maxHeartbeats 4000000
namespace K44
open PySem PySem.Spec PyProof.Rows L2 MT
open SX (S)
local macro_rules | `(tactic| walk_at "mt") => `(tactic| simp only [L2.start, List.map_cons, List.map_nil, List.length_cons, List.length_nil, List.replicate_succ, List.replicate_zero, Nat.reduceSub, Nat.reduceAdd, Nat.sub_self, Nat.zero_add, List.cons_append, List.nil_append, List.append_nil, List.getElem?_cons_zero, List.getElem?_cons_succ, List.set_cons_zero, List.set_cons_succ, Option.some.injEq, exists_eq_left', exists_eq_left, exists_eq_right, V.bl.injEq, V.int.injEq, V.str.injEq, V.ref.injEq, reduceCtorEq, false_and, and_false, true_and, and_true, false_or, or_false, exists_false, exists_const, ↓reduceIte, Bool.false_eq_true, decide_eq_true_eq, Bool.and_eq_true, Bool.not_true, Bool.not_false, List.cons.injEq, exists_and_left, exists_and_right,
  tRet, rInM, rNeI, rSortM, rIndexM, rRepM, rSetDM, rListDM, rPopAtM, tLstRg, tRg1, tDIn, tBM, tBM0, tAndV, tOrV, tNotV, tAnd, tOr, tNot, tB, tTest, tIf, tIfS, tC, tVar, tOp, tUn, tChain, rI0, rI, rU, tFn, tCons, tNil, tCB, tTup, tLst, tAsg, gName, tNext, tDrop, tRetN, tPar, tPar3, tAug, tReplC, tRevS, rLenM2, rIsBM, tDNotIn, tDGet, rSumM, rMaxM, rMinM, gSub, rSetL, tRaiseO, tFnW, tXf, gTup, gUnl, gCons, gNil, rPopM, rAppendM, rExtendM, rTupM, rListM, ipI, tIs, tIss, rLenM, rIxM, rAddM, rEqM, rNeM, rSignIn, rInt, rAbs, rStrI, tSl, tPart, tNoPart, rSlM, tIsN, tNotN, List.any_cons, List.any_nil, Bool.or_false, tSeq, isa, D.ty, decide_true, decide_false, Bool.true_or, Bool.or_true, Bool.false_or, Bool.and_true, Bool.true_and, Bool.false_and, Bool.and_false, eq_self_iff_true, not_true_eq_false, not_false_eq_true, bne_self_eq_false])
def names4 : List (Key × V) := [(.inr (S [101, 100, 103, 101]), .int 2), (.inr (S [111, 110, 101]), .int 1), (.inr (S [116, 104, 114, 101, 101]), .int 3), (.inr (S [112, 97, 105, 114]), .int 2)]
def words4 : List Str := [S [101, 100, 103, 101], S [111, 110, 101], S [116, 104, 114, 101, 101], S [112, 97, 105, 114]]
theorem words_get {s : Str} (h : s ∈ words4) : ∃ l, ∃ w : Nat, s = S l ∧ wordD (.str l) = true ∧ 1 ≤ w ∧ w ≤ 3 ∧ ∀ H' nd, H' nd = some (.dK names4) → DGet H' nd (.str s) (some (.int (w : Int))) := by
  have key : ∀ (l : List Nat) (w : Nat), wordD (.str l) = true → 1 ≤ w → w ≤ 3 → valV names4 (.inr (S l)) = some (.int (w : Int)) → ∃ l', ∃ w' : Nat, S l = S l' ∧ wordD (.str l') = true ∧ 1 ≤ w' ∧ w' ≤ 3 ∧ ∀ H' nd, H' nd = some (.dK names4) → DGet H' nd (.str (S l)) (some (.int (w' : Int))) :=
    fun l w h1 h2 h3 h4 => ⟨l, w, rfl, h1, h2, h3, fun H' nd e => .inl ⟨names4, .inr (S l), .inl e, rfl, h4.symm⟩⟩
  unfold words4 at h
  simp only [List.mem_cons, List.not_mem_nil, or_false] at h
  rcases h with rfl | rfl | rfl | rfl
  · exact key [101, 100, 103, 101] 2 (by decide) (by omega) (by omega) (by decide +kernel)
  · exact key [111, 110, 101] 1 (by decide) (by omega) (by omega) (by decide +kernel)
  · exact key [116, 104, 114, 101, 101] 3 (by decide) (by omega) (by omega) (by decide +kernel)
  · exact key [112, 97, 105, 114] 2 (by decide) (by omega) (by omega) (by decide +kernel)
def spConj : Sp := fun vs H Q _ => ∃ b nd c, ∃ most : Nat, vs = [.ref b, .ref nd, .int (most : Int)] ∧ H nd = some (.dK names4) ∧ most ≤ 12 ∧ Bx H b c ∧ c ≤ 500000000 ∧
  ∀ p H', SmD b H H' → Bx H' b (c + 1000) → ConjAt b H H' p → Q (.ref p) H'
def wv : V → Int
  | .str s => (match valV names4 (.inr s) with | some (.int i) => i | _ => 0)
  | _ => 0
theorem two_words {K : PySem.W.Frag} {σ : L2.St} {H : Hp} {Q : VK} {nd W : Addr} {ms : List Str} (h1 : σ[1]? = some (some (.ref nd))) (h6 : σ[6]? = some (some (.ref W))) (h7 : 7 < σ.length) (hn : H nd = some (.dK names4)) (eW : H W = some (.lst (ms.map V.str))) (hp : ms.Perm words4)
    (q : ∀ D H' xs, H D = none → Same H H' → H' D = some (.lst xs) → xs ≠ [] → (∀ x ∈ xs, ∃ l, x = .str (S l) ∧ wordD (.str l) = true) → Q (.ref D) H') :
    tLc (iSq K (tVar 6)) (gName 7) (tTest (tOp rEqM (tDGet (tVar 1) (tVar 7)) (tC (.int 2)))) (tVar 7) [7] σ H Q := by
  have s1 : ∀ x, ((wipe σ [7]).set 7 (some x))[1]? = some (some (.ref nd)) := fun x => by
    rw [List.getElem?_set_ne (by decide)]
    show ((σ.set 7 none) : L2.St)[1]? = _
    rw [List.getElem?_set_ne (by decide)]; exact h1
  have s7 : ∀ x, ((wipe σ [7]).set 7 (some x))[7]? = some (some x) := fun x => List.getElem?_set_self (by rw [wipe_length]; exact h7)
  have hl := hp.length_eq
  refine lc_v (xs := ms.map V.str) (srcSq (src_var h6) (by rw [eW]; rfl) (by rw [List.length_map, hl]; exact big1 (by decide))) (by simp) (fun v => decide (wv v = 2)) id (by rw [List.length_map, hl]; exact big1 (by decide)) (fun v H1 K' hv s kk => ?_) (fun v H1 K' hv _ s kk => ?_) fun D H1 hD s e => ?_
  · obtain ⟨x, hx, rfl⟩ := List.mem_map.mp hv
    obtain ⟨l, w, rfl, hw, _, _, hg⟩ := words_get (hp.mem_iff.mp hx)
    have g := hg H1 nd (s _ _ hn)
    have ew : wv (.str (S l)) = (w : Int) := by
      obtain ⟨kvs, k, e1, e2, e3⟩ | ⟨kvs, k, b2, e1, e2, _⟩ := hg (fun _ => some (.dK names4)) 0 rfl
      · rcases e1 with e1 | ⟨o, e1⟩
        · cases e1
          cases k with
          | inl i => cases e2
          | inr z => cases e2; simp only [wv, ← e3]
        · cases e1
      · cases e2
    have kk2 := kk H1 (.refl _)
    rw [ew] at kk2
    exact ⟨_, s1 _, _, s7 _, nd, _, rfl, g, _, rfl, kk2⟩
  · exact ⟨_, s7 _, kk H1 (.refl _)⟩
  · rw [List.map_id] at e
    refine q D H1 _ hD s e (fun z => ?_) fun x hx => ?_
    · have hm : V.str (S [101, 100, 103, 101]) ∈ (ms.map V.str).filter fun v => decide (wv v = 2) := List.mem_filter.mpr ⟨List.mem_map.mpr ⟨_, hp.mem_iff.mpr (by unfold words4; simp), rfl⟩, by decide +kernel⟩
      rw [z] at hm
      cases hm
    · obtain ⟨y, hy, rfl⟩ := List.mem_map.mp (List.mem_filter.mp hx).1
      obtain ⟨l, w, rfl, hw, _⟩ := words_get (hp.mem_iff.mp hy)
      exact ⟨l, rfl, hw⟩
theorem pr_law_conjunction {K : PySem.W.Frag} (vs : List V) (H : Hp) (Q : VK) (E : XK) (h : spConj vs H Q E) : t_law_conjunction K spTake spMixed (E0N Q) (L2.start ["box", "names", "most", "many", "way", "atoms", "words", "name", "long", "k", "turn", "known", "variables", "place"] vs) H := by
  obtain ⟨b, nd, c, most, rfl, hn, hmost, hb, hc, q⟩ := h
  have ce := @conj_end K
  unfold y_conjR y_turn y_place y_one y_else at ce
  unfold t_law_conjunction
  generalize hZ : (tSeq (tFor _ (gName 10) _) _ : TS) = Z at ce ⊢
  generalize hI : (tIfS (tAnd (tTest (tOp rEqM (tVar 4) (tC (.int 1)))) _) _ _ : TS) = I
  walk_at "mt"
  refine ⟨b, 7, c, rfl, by decide, by decide, hb, by omega, fun r1 o1 hr1 hb1 => ?_⟩
  refine ⟨b, 4, c + 1, rfl, by decide, by decide, hb1, by omega, fun r2 o2 hr2 hb2 => ?_⟩
  have ndb : nd ≠ b := fun z => by obtain ⟨bx, e⟩ := hb.lst; rw [z, e] at hn; cases hn
  have s2 : SmD b H (upd (upd H b o1) b o2) := SmD.trans .upd .upd
  generalize upd (upd H b o1) b o2 = H2 at hb2 s2 ⊢
  refine ⟨Nat.zero_le _, fun L hL => ?_⟩
  have nLb : L ≠ b := fun z => hb2.ne (by rw [← z]; exact hL)
  have nLnd : nd ≠ L := fun z => by have := s2 _ _ ndb hn; rw [z, hL] at this; cases this
  refine ⟨_, _, _, ⟨rfl, rfl, rfl⟩, names4, same_upd hL _ _ (s2 _ _ ndb hn), fun p hp => ?_⟩
  unfold rSortSM
  refine ⟨words4, upd_same, by decide, fun ms hms W hW => ?_⟩
  have nWL : W ≠ L := fun z => by rw [z, same_upd hp _ _ upd_same] at hW; cases hW
  have sB : SmD b H _ := s2.trans (.of (((same_upd (o := .lst []) hL).trans (same_upd (o := .lst (names4.map fun kv => kV kv.1)) hp)).trans (same_upd (o := .lst (ms.map V.str)) hW)))
  have hb3 := hb2.ext (((same_upd (o := .lst []) hL).trans (same_upd (o := .lst (names4.map fun kv => kV kv.1)) hp)).trans (same_upd (o := .lst (ms.map V.str)) hW))
  have eL : (upd (upd (upd H2 L (.lst [])) p (.lst (names4.map fun kv => kV kv.1))) W (.lst (ms.map V.str))) L = some (.lst []) := same_upd hW _ _ (same_upd hp _ _ upd_same)
  have eW : (upd (upd (upd H2 L (.lst [])) p (.lst (names4.map fun kv => kV kv.1))) W (.lst (ms.map V.str))) W = some (.lst (ms.map V.str)) := upd_same
  have nWb : W ≠ b := fun z => by
    have := hb2.ext ((same_upd (o := .lst []) hL).trans (same_upd (o := .lst (names4.map fun kv => kV kv.1)) hp))
    exact this.ne (by rw [← z]; exact hW)
  have hL0 : ∀ {o}, H L = some o → False := fun e => by have := s2 _ _ nLb e; rw [hL] at this; cases this
  generalize upd (upd (upd H2 L (.lst [])) p (.lst (names4.map fun kv => kV kv.1))) W (.lst (ms.map V.str)) = H3 at sB hb3 eL eW ⊢
  have hn3 : H3 nd = some (.dK names4) := sB _ _ ndb hn
  have nms : ∀ {H'}, H' nd = some (.dK names4) → H' W = some (.lst (ms.map V.str)) → Names H' nd W ms := fun {H'} e1 e2 => ⟨e2, by rw [hms.length_eq]; rfl, fun s hs => by
    obtain ⟨l, w, h1, h2, h3, h4, h5⟩ := words_get (hms.mem_iff.mp hs)
    exact ⟨l, w, h1, h2, h3, h4, fun H'' e => h5 H'' nd (by rw [e, e1])⟩⟩
  -- the end, from a list at some L'
  have fin : ∀ (many : Nat) (L' : Addr) (vs : List V) x7 x8 x9 H', 1 ≤ many → many ≤ 14 → SmD b H3 H' → H' L' = some (.lst vs) → (∀ v ∈ vs, AtN H' many v) → vs.length ≤ 5 → Bx H' b (c + 10) → (∀ o, H L' = some o → False) → L' ≠ W →
      Z (E0N Q) [some (.ref b), some (.ref nd), some (.int (most : Int)), some (.int (many : Int)), some (.int (r2 : Int)), some (.ref L'), some (.ref W), x7, x8, x9, none, none, none, none] H' := by
    intro many L' vs x7 x8 x9 H' h1 h2 s e ha hl hb' hL' nW
    have nLb' : L' ≠ b := fun z => by obtain ⟨bx, eb⟩ := hb.lst; exact hL' _ (by rw [z]; exact eb)
    have e1 := s _ _ ndb hn3
    have ndL' : nd ≠ L' := fun z => hL' _ (by rw [← z]; exact hn)
    refine ce (many := many) (nms e1 (s _ _ nWb eW)) e ha hl hmost hb' (by omega) h1 h2 nLb' ndb ndL' (by rw [e1]; intro z; cases z) nWb (Ne.symm nW) fun p2 H4 s4 b4 hc4 => ?_
    refine q p2 H4 (fun z o z1 z2 => s4 z o z1 (fun z3 => hL' o (by rw [← z3]; exact z2)) (s z o z1 (sB z o z1 z2))) (b4.mono (by omega)) hc4
  have e1r : (1 : Int) + (r1 : Int) = ((1 + r1 : Nat) : Int) := by omega
  rw [e1r]
  subst hI
  have tw := @two_words K
  have rc := @ring_comp
  generalize hTW : (tLc (iSq K (tVar 6)) (gName 7) (tTest (tOp rEqM (tDGet (tVar 1) (tVar 7)) (tC (.int 2)))) (tVar 7) [7] : TE) = TW at tw ⊢
  generalize hRC : (tLc (iRng1 (tCons (tVar 8) tNil)) (gName 9) tYes _ [9] : TE) = RC at rc ⊢
  have hLn : ∀ o, H L = some o → False := fun o e => hL0 e
  have nLW : L ≠ W := Ne.symm nWL
  walk_at "mt"
  by_cases hw : (r2 : Int) = 1
  · rw [if_pos hw]
    unfold tEqNil
    refine tw (nd := nd) (W := W) (ms := ms) rfl rfl (by show 7 < 14; decide) hn3 eW hms fun D1 H4 xs hD1 s4 e4 hx hxs => ⟨D1, xs, rfl, e4, _, rfl, ?_⟩
    have hxe : xs.isEmpty = false := by cases xs with | nil => exact absurd rfl hx | cons _ _ => rfl
    rw [if_pos rfl, hxe]
    rw [if_pos (by decide)]
    refine tw (nd := nd) (W := W) (ms := ms) rfl rfl (by show 7 < 14; decide) (s4 _ _ hn3) (s4 _ _ eW) hms fun D2 H5 ys hD2 s5 e5 hy hys => ?_
    obtain ⟨y0, ys', rfl⟩ := List.exists_cons_of_ne_nil hy
    obtain ⟨l, rfl, hwl⟩ := hys y0 List.mem_cons_self
    refine ⟨V.str (S l) :: ys', by rw [e5]; rfl, V.str (S l), by simp [atI, ixN], ?_⟩
    have b5 := (hb3.ext s4).ext s5
    refine ⟨b, 3, c + 2, rfl, by decide, by decide, b5, by omega, fun r3 o3 hr3 hb6 => ?_⟩
    have s6 : SmD b H3 (upd H5 b o3) := SmD.trans (.of (s4.trans s5)) .upd
    have hL6 : H3 L = some (.lst []) := eL
    generalize upd H5 b o3 = H6 at hb6 s6 ⊢
    refine ⟨by show 2 ≤ sizeLine; decide +kernel, fun p6 hp6 => ⟨[.str (S l), .int (3 + (r3 : Int))], .of upd_same, rfl, _, _, rfl, _, _, rfl, rfl, ?_⟩⟩
    have e8 : (3 : Int) + (r3 : Int) = ((3 + r3 : Nat) : Int) := by omega
    have e9 : max ((1 + r1 : Nat) : Int) (((3 + r3 : Nat) : Int)) = ((max (1 + r1) (3 + r3) : Nat) : Int) := by omega
    rw [e8]
    dsimp only
    rw [e9]
    have s7 : SmD b H3 (upd H6 p6 (.tup [.str (S l), .int ((3 + r3 : Nat) : Int)])) := s6.trans (.of (by rw [← e8]; exact same_upd hp6))
    have hb7 : Bx (upd H6 p6 (.tup [.str (S l), .int ((3 + r3 : Nat) : Int)])) b (c + 2 + 1) := hb6.ext (by rw [← e8]; exact same_upd hp6)
    generalize upd H6 p6 (.tup [.str (S l), .int ((3 + r3 : Nat) : Int)]) = H7 at s7 hb7 ⊢
    refine rc (long := 3 + r3) (m := max (1 + r1) (3 + r3)) rfl rfl (by show 9 < 14; decide) hwl (by omega) (by omega) (by omega) fun D3 H8 vs hD3 s8 e8 hvl hvs => ?_
    have nD3 : ∀ {x z}, x ≠ b → H3 x = some z → x ≠ D3 := fun h e z => by have := s7 _ _ h e; rw [z, hD3] at this; cases this
    exact fin (max (1 + r1) (3 + r3)) D3 vs _ _ _ H8 (by omega) (by omega) (s7.trans (.of s8)) e8 hvs (by omega) ((hb7.ext s8).mono (by omega)) (fun o e => by
      by_cases hbD : D3 = b
      · exact (hb7.ne (by rw [← hbD]; exact hD3))
      · exact nD3 hbD (sB _ _ hbD e) rfl) (fun z => nD3 nWb eW z.symm)
  · rw [if_neg hw]
    exact fin (1 + r1) L [] _ _ _ H3 (by omega) (by omega) .refl eL (fun v hv => by cases hv) (Nat.zero_le _) (hb3.mono (by omega)) hLn nLW
end K44
set_option Elab.async false
set_option linter.all false
set_option maxRecDepth 100000
set_option maxHeartbeats 4000000
namespace K44
open PySem PySem.Spec PyProof.Rows L2 MT
open SX (S)
local macro_rules | `(tactic| walk_at "mt") => `(tactic| simp only [L2.start, List.map_cons, List.map_nil, List.length_cons, List.length_nil, List.replicate_succ, List.replicate_zero, Nat.reduceSub, Nat.reduceAdd, Nat.sub_self, Nat.zero_add, List.cons_append, List.nil_append, List.append_nil, List.getElem?_cons_zero, List.getElem?_cons_succ, List.set_cons_zero, List.set_cons_succ, Option.some.injEq, exists_eq_left', exists_eq_left, exists_eq_right, V.bl.injEq, V.int.injEq, V.str.injEq, V.ref.injEq, reduceCtorEq, false_and, and_false, true_and, and_true, false_or, or_false, exists_false, exists_const, ↓reduceIte, Bool.false_eq_true, decide_eq_true_eq, Bool.and_eq_true, Bool.not_true, Bool.not_false, List.cons.injEq, exists_and_left, exists_and_right,
  tRet, rInM, rNeI, rSortM, rIndexM, rRepM, rSetDM, rListDM, rPopAtM, tLstRg, tRg1, tDIn, tBM, tBM0, tAndV, tOrV, tNotV, tAnd, tOr, tNot, tB, tTest, tIf, tIfS, tC, tVar, tOp, tUn, tChain, rI0, rI, rU, tFn, tCons, tNil, tCB, tTup, tLst, tAsg, gName, tNext, tDrop, tRetN, tPar, tPar3, tAug, tReplC, tRevS, rLenM2, rIsBM, tDNotIn, tDGet, rSumM, rMaxM, rMinM, gSub, rSetL, tRaiseO, tFnW, tXf, gTup, gUnl, gCons, gNil, rPopM, rAppendM, rExtendM, rTupM, rListM, ipI, tIs, tIss, rLenM, rIxM, rAddM, rEqM, rNeM, rSignIn, rInt, rAbs, rStrI, tSl, tPart, tNoPart, rSlM, tIsN, tNotN, List.any_cons, List.any_nil, Bool.or_false, tSeq, isa, D.ty, decide_true, decide_false, Bool.true_or, Bool.or_true, Bool.false_or, Bool.and_true, Bool.true_and, Bool.false_and, Bool.and_false, eq_self_iff_true, not_true_eq_false, not_false_eq_true, bne_self_eq_false])
abbrev wMore : List Nat := [109, 111, 114, 101]
/-- what is in a tuple grows: flat things stay, a list gets one more -/
def Gr0 (H : Hp) (v : V) (Q : Hp → Prop) : Prop := (flatV v = true ∧ Q H) ∨ ∃ a xs, v = .ref a ∧ H a = some (.lst xs) ∧ xs.length ≤ 1000 ∧ Q (upd H a (.lst (xs ++ [.str (S wMore)])))
def spGrow0 : Sp := fun vs H Q _ => ∃ v, vs = [v] ∧ Gr0 H v fun H' => Q .non H'
def spGrow : Sp := fun vs H Q _ => ∃ v, vs = [v] ∧ (Gr0 H v (fun H' => Q .non H') ∨ (∃ a, v = .ref a ∧ H a = some (.dK []) ∧ Q .non (upd H a (.dK [(.inr (S wMore), .int 1)]))) ∨
  (∃ t ws, v = .ref t ∧ H t = some (.tup ws) ∧ ws.length ≤ 1000 ∧ ws.all flatV = true ∧ Q .non H) ∨
  (∃ t a pre post xs, v = .ref t ∧ H t = some (.tup (pre ++ .ref a :: post)) ∧ pre.length + post.length ≤ 1000 ∧ pre.all flatV = true ∧ post.all flatV = true ∧ H a = some (.lst xs) ∧ xs.length ≤ 1000 ∧ Q .non (upd H a (.lst (xs ++ [.str (S wMore)])))))
theorem flat_ty {H : Hp} {v : V} (h : flatV v = true) : ∃ t, tyOf H v = some t ∧ t ≠ .lst ∧ t ≠ .dct ∧ t ≠ .tup := by
  cases v with
  | non => exact ⟨_, rfl, by decide, by decide, by decide⟩
  | bl b => exact ⟨_, rfl, by decide, by decide, by decide⟩
  | int b => exact ⟨_, rfl, by decide, by decide, by decide⟩
  | str b => exact ⟨_, rfl, by decide, by decide, by decide⟩
  | _ => cases h
theorem grow0 {K : PySem.W.Frag} {sp : Sp} {H : Hp} {Q : VK} {v : V} (h : Gr0 H v fun H' => Q .non H') : t_law_grow K sp (E0N Q) (L2.start ["value", "item"] [v]) H := by
  unfold t_law_grow
  generalize hT : (tIfS (tB (tIs .tup (tVar 0))) _ tNext : TS) = T
  rcases h with ⟨hf, q⟩ | ⟨a, xs, rfl, e, hl, q⟩
  · obtain ⟨t, ht, n1, n2, n3⟩ := flat_ty (H := H) hf
    walk_at "mt"
    simp only [ht]
    subst hT
    walk_at "mt"
    simp only [ht]
    walk_at "mt"
    cases t <;> first | exact absurd rfl n1 | exact absurd rfl n2 | exact absurd rfl n3 | (simpa using q)
  · have ht : tyOf H (.ref a) = some .lst := by show tyO (H a) = _; rw [e]; rfl
    walk_at "mt"
    simp only [ht]
    walk_at "mt"
    exact ⟨tyL e, xs, e, big1 (by omega), q⟩
theorem pr_law_grow0 {K : PySem.W.Frag} {sp : Sp} (vs : List V) (H : Hp) (Q : VK) (E : XK) (h : spGrow0 vs H Q E) : t_law_grow K sp (E0N Q) (L2.start ["value", "item"] vs) H := by
  obtain ⟨v, rfl, h⟩ := h
  exact grow0 h
theorem pr_law_grow {K : PySem.W.Frag} {sp : Sp} (hsp : ∀ vs H Q E, spGrow0 vs H Q E → sp vs H Q E) (vs : List V) (H : Hp) (Q : VK) (E : XK) (h : spGrow vs H Q E) : t_law_grow K sp (E0N Q) (L2.start ["value", "item"] vs) H := by
  obtain ⟨v, rfl, h⟩ := h
  rcases h with h | ⟨a, rfl, e, q⟩ | ⟨t, ws, rfl, e, hl, hf, q⟩ | ⟨t, a, pre, post, xs, rfl, e, hl, h1, h2, ea, hx, q⟩
  · exact grow0 h
  · unfold t_law_grow
    have ht : tyOf H (.ref a) = some .dct := by show tyO (H a) = _; rw [e]; rfl
    generalize hT : (tIfS (tB (tIs .tup (tVar 0))) _ tNext : TS) = T
    walk_at "mt"
    simp only [ht]
    walk_at "mt"
    refine ⟨[], e, .inr (S wMore), rfl, big1 (by simp), q⟩
  all_goals (
    unfold t_law_grow
    have ht : tyOf H (.ref t) = some .tup := by show tyO (H t) = _; rw [e]; rfl
    generalize hF : (tFor (iSq K (tVar 0)) (gName 1) _ : TS) = F
    walk_at "mt"
    simp only [ht]
    walk_at "mt"
    subst hF)
  · refine for_v (xs := ws) (srcSq (a := t) (src_var rfl) (by rw [e]; rfl) (big1 (by omega))) (fun k σ' H' => ∃ x1, σ' = [some (.ref t), x1] ∧ H' = H) ⟨_, rfl, rfl⟩ (fun k σ' H' ⟨_, _, z⟩ => by rw [z]; exact .refl _) (fun k σ' H' hk ⟨x1, es, eH⟩ => ?_) fun σ' H' ⟨x1, es, eH⟩ => by subst es; subst eH; exact q
    subst es; subst eH
    dsimp only [List.set_cons_zero, List.set_cons_succ]
    refine ⟨_, rfl, hsp _ _ _ _ ⟨_, rfl, .inl ⟨List.all_eq_true.mp hf _ (getD_mem hk), ⟨_, rfl, rfl⟩⟩⟩⟩
  · have nta : t ≠ a := fun z => by rw [z, ea] at e; cases e
    refine for_vD (C := a) (xs := pre ++ .ref a :: post) (srcSqD (a := t) (src_var rfl) (by rw [e]; rfl) (big1 (by rw [List.length_append, List.length_cons]; omega)) nta)
      (fun k σ' H' => ∃ x1, σ' = [some (.ref t), x1] ∧ H' = if k ≤ pre.length then H else upd H a (.lst (xs ++ [.str (S wMore)]))) ⟨_, rfl, by simp⟩ (fun k σ' H' ⟨_, _, z⟩ => by rw [z]; split; exact .refl; exact .upd) (fun k σ' H' hk ⟨x1, es, eH⟩ => ?_) fun σ' H' ⟨x1, es, eH⟩ => by
        subst es
        rw [if_neg (by rw [List.length_append, List.length_cons]; omega)] at eH
        subst eH; exact q
    subst es
    dsimp only [List.set_cons_zero, List.set_cons_succ]
    by_cases hk1 : k < pre.length
    · rw [if_pos (by omega)] at eH
      subst eH
      have eg : (pre ++ V.ref a :: post).getD k .non = pre.getD k .non := by rw [List.getD_eq_getElem?_getD, List.getD_eq_getElem?_getD, List.getElem?_append_left hk1]
      rw [eg]
      exact ⟨_, rfl, hsp _ _ _ _ ⟨_, rfl, .inl ⟨List.all_eq_true.mp h1 _ (getD_mem hk1), ⟨_, rfl, by rw [if_pos (by omega)]⟩⟩⟩⟩
    · by_cases hk2 : k = pre.length
      · rw [if_pos (by omega)] at eH
        subst eH
        have eg : (pre ++ V.ref a :: post).getD k .non = .ref a := by rw [List.getD_eq_getElem?_getD, List.getElem?_append_right (by omega), hk2, Nat.sub_self]; rfl
        rw [eg]
        exact ⟨_, rfl, hsp _ _ _ _ ⟨_, rfl, .inr ⟨a, xs, rfl, ea, hx, ⟨_, rfl, by rw [if_neg (by omega)]⟩⟩⟩⟩
      · rw [if_neg (by omega)] at eH
        subst eH
        obtain ⟨j, hj⟩ : ∃ j, k - pre.length = j + 1 := ⟨k - pre.length - 1, by omega⟩
        rw [List.length_append, List.length_cons] at hk
        have eg : (pre ++ V.ref a :: post).getD k .non = post.getD j .non := by rw [List.getD_eq_getElem?_getD, List.getD_eq_getElem?_getD, List.getElem?_append_right (by omega), hj]; rfl
        rw [eg]
        exact ⟨_, rfl, hsp _ _ _ _ ⟨_, rfl, .inl ⟨List.all_eq_true.mp h2 _ (getD_mem (by omega)), ⟨_, rfl, by rw [if_neg (by omega)]⟩⟩⟩⟩
end K44
set_option Elab.async false
set_option linter.all false
set_option maxRecDepth 100000
set_option maxHeartbeats 4000000
namespace K44
open PySem PySem.Spec PyProof.Rows L2 MT
open SX (S)
local macro_rules | `(tactic| walk_at "mt") => `(tactic| simp only [L2.start, List.map_cons, List.map_nil, List.length_cons, List.length_nil, List.replicate_succ, List.replicate_zero, Nat.reduceSub, Nat.reduceAdd, Nat.sub_self, Nat.zero_add, List.cons_append, List.nil_append, List.append_nil, List.getElem?_cons_zero, List.getElem?_cons_succ, List.set_cons_zero, List.set_cons_succ, Option.some.injEq, exists_eq_left', exists_eq_left, exists_eq_right, V.bl.injEq, V.int.injEq, V.str.injEq, V.ref.injEq, reduceCtorEq, false_and, and_false, true_and, and_true, false_or, or_false, exists_false, exists_const, ↓reduceIte, Bool.false_eq_true, decide_eq_true_eq, Bool.and_eq_true, Bool.not_true, Bool.not_false, List.cons.injEq, exists_and_left, exists_and_right,
  tRet, rInM, rNeI, rSortM, rIndexM, rRepM, rSetDM, rListDM, rPopAtM, tLstRg, tRg1, tDIn, tBM, tBM0, tAndV, tOrV, tNotV, tAnd, tOr, tNot, tB, tTest, tIf, tIfS, tC, tVar, tOp, tUn, tChain, rI0, rI, rU, tFn, tCons, tNil, tCB, tTup, tLst, tAsg, gName, tNext, tDrop, tRetN, tPar, tPar3, tAug, tReplC, tRevS, rLenM2, rIsBM, tDNotIn, tDGet, rSumM, rMaxM, rMinM, gSub, rSetL, tRaiseO, tFnW, tXf, gTup, gUnl, gCons, gNil, rPopM, rAppendM, rExtendM, rTupM, rListM, ipI, tIs, tIss, rLenM, rIxM, rAddM, rEqM, rNeM, rSignIn, rInt, rAbs, rStrI, tSl, tPart, tNoPart, rSlM, tIsN, tNotN, List.any_cons, List.any_nil, Bool.or_false, tSeq, isa, D.ty, decide_true, decide_false, Bool.true_or, Bool.or_true, Bool.false_or, Bool.and_true, Bool.true_and, Bool.false_and, Bool.and_false, eq_self_iff_true, not_true_eq_false, not_false_eq_true, bne_self_eq_false])
/-! ### data told by the heap without the box -/
def DatB (b : Addr) (H : Hp) (v : V) (d : D) : Prop := Rep (MT.del H b) v d
def DatsB (b : Addr) (H : Hp) (vs : List V) (ds : List D) : Prop := RepL (MT.del H b) vs ds
section
variable {b a t : Addr} {H H' : Hp} {v w : V} {d e : D} {vs ws : List V} {ds es : List D} {ns : List Int} {ts : List (Int × Int)}
theorem del_ne (h : a ≠ b) : MT.del H b a = H a := by unfold MT.del; rw [if_neg h]
theorem del_smd (s : SmD b H H') : Same (MT.del H b) (MT.del H' b) := fun x o e => by
  unfold MT.del at e ⊢
  split at e
  · cases e
  · rename_i h
    rw [if_neg h]; exact s x o h e
theorem DatB.mono (h : DatB b H v d) (s : SmD b H H') : DatB b H' v d := Rep.mono (del_smd s) h
theorem DatsB.mono (h : DatsB b H vs ds) (s : SmD b H H') : DatsB b H' vs ds := RepL.mono (del_smd s) h
theorem DatB.dat (h : DatB b H v d) : Dat H v d := ⟨_, MT.del_sub, h⟩
theorem DatsB.nil : DatsB b H [] [] := RepL.nil
theorem DatsB.cons (h : DatB b H v d) (r : DatsB b H vs ds) : DatsB b H (v :: vs) (d :: ds) := RepL.cons h r
theorem DatsB.append (h : DatsB b H vs ds) (r : DatsB b H ws es) : DatsB b H (vs ++ ws) (ds ++ es) := RepL.append h r
theorem DatB.lst (e : H a = some (.lst vs)) (n : a ≠ b) (r : DatsB b H vs ds) (hl : ds.length ≤ BL) : DatB b H (.ref a) (.lst ds) := Rep.lst (by rw [del_ne n]; exact e) r hl
theorem DatB.tup (e : H a = some (.tup vs)) (n : a ≠ b) (r : DatsB b H vs ds) (hl : ds.length ≤ BL) : DatB b H (.ref a) (.tup ds) := Rep.tup (by rw [del_ne n]; exact e) r hl
theorem DatB.dct (e : H a = some (.dK [])) (n : a ≠ b) : DatB b H (.ref a) (.dct []) := Rep.dct (Nat.zero_le _) (by rw [del_ne n]; exact e)
theorem DatsB.ints : ∀ ns : List Int, DatsB b H (ns.map V.int) (ns.map D.int)
  | [] => RepL.nil
  | n :: ns => RepL.cons (Rep.int n) (DatsB.ints ns)
theorem DatsB.pairs (hb : ∃ xs, H b = some (.lst xs)) : ∀ {ws : List V} {ts : List (Int × Int)}, PairsAt H ws ts → DatsB b H ws (ts.map pairDD)
  | [], [], _ => RepL.nil
  | [], _ :: _, h => by cases h.1
  | _ :: _, [], h => by cases h.1
  | w :: ws, p :: ts, h => by
    obtain ⟨t, rfl, et⟩ := h.2 0 w p rfl rfl
    obtain ⟨xs, eb⟩ := hb
    have ntb : t ≠ b := fun z => by rw [z, eb] at et; cases et
    exact RepL.cons (Rep.tup (by rw [del_ne ntb]; exact et) (RepL.cons (Rep.int _) (RepL.cons (Rep.int _) RepL.nil)) (by show 2 ≤ BL; unfold BL; decide)) (DatsB.pairs ⟨xs, eb⟩ ⟨by have := h.1; simpa using this, fun i v q h1 h2 => h.2 (i + 1) v q (by simpa using h1) (by simpa using h2)⟩)
theorem conj_datB {p : Addr} (h : ConjAt b H H' p) : ∃ d, DatB b H' (.ref p) d ∧ conjD d = true ∧ headsOk d = true ∧ manyD d ≤ 14 := by
  obtain ⟨d, F, s, n, r, h1, h2, h3⟩ := h
  refine ⟨d, Rep.mono (fun x o e => ?_) r, h1, h2, h3⟩
  unfold MT.del
  rw [if_neg (fun z => by rw [z, n] at e; cases e)]
  exact s x o e
end
/-- what law_near tells: a list of data, none too long -/
def NearAt (b : Addr) (H : Hp) (r : Addr) : Prop := ∃ vs ds, H r = some (.lst vs) ∧ DatsB b H vs ds ∧ (∀ d ∈ ds, szD d) ∧ ds.length ≤ 100
end K44
set_option Elab.async false
set_option linter.all false
set_option maxRecDepth 100000
set_option maxHeartbeats 4000000
namespace K44
open PySem PySem.Spec PyProof.Rows L2 MT
open SX (S)
local macro_rules | `(tactic| walk_at "mt") => `(tactic| simp only [L2.start, List.map_cons, List.map_nil, List.length_cons, List.length_nil, List.replicate_succ, List.replicate_zero, Nat.reduceSub, Nat.reduceAdd, Nat.sub_self, Nat.zero_add, List.cons_append, List.nil_append, List.append_nil, List.getElem?_cons_zero, List.getElem?_cons_succ, List.set_cons_zero, List.set_cons_succ, Option.some.injEq, exists_eq_left', exists_eq_left, exists_eq_right, V.bl.injEq, V.int.injEq, V.str.injEq, V.ref.injEq, reduceCtorEq, false_and, and_false, true_and, and_true, false_or, or_false, exists_false, exists_const, ↓reduceIte, Bool.false_eq_true, decide_eq_true_eq, Bool.and_eq_true, Bool.not_true, Bool.not_false, List.cons.injEq, exists_and_left, exists_and_right,
  tRet, rInM, rNeI, rSortM, rIndexM, rRepM, rSetDM, rListDM, rPopAtM, tLstRg, tRg1, tDIn, tBM, tBM0, tAndV, tOrV, tNotV, tAnd, tOr, tNot, tB, tTest, tIf, tIfS, tC, tVar, tOp, tUn, tChain, rI0, rI, rU, tFn, tCons, tNil, tCB, tTup, tLst, tAsg, gName, tNext, tDrop, tRetN, tPar, tPar3, tAug, tReplC, tRevS, rLenM2, rIsBM, tDNotIn, tDGet, rSumM, rMaxM, rMinM, gSub, rSetL, tRaiseO, tFnW, tXf, gTup, gUnl, gCons, gNil, rPopM, rAppendM, rExtendM, rTupM, rListM, ipI, tIs, tIss, rLenM, rIxM, rAddM, rEqM, rNeM, rSignIn, rInt, rAbs, rStrI, tSl, tPart, tNoPart, rSlM, tIsN, tNotN, List.any_cons, List.any_nil, Bool.or_false, tSeq, isa, D.ty, decide_true, decide_false, Bool.true_or, Bool.or_true, Bool.false_or, Bool.and_true, Bool.true_and, Bool.false_and, Bool.and_false, eq_self_iff_true, not_true_eq_false, not_false_eq_true, bne_self_eq_false])
/-! ### texts that tell data, the box drawn from -/
section
variable {b : Addr} {H0 : Hp} {σ : L2.St} {n m i k j : Nat} {te tf : TE} {ta : TA} {K : PySem.W.Frag}
/-- te tells data, after at most n draws, from any heap that has H0 but for the box -/
def Nr (b : Addr) (H0 : Hp) (n : Nat) (te : TE) (σ : L2.St) : Prop := ∀ H c (Q : VK), SmD b H0 H → Bx H b c → c + n ≤ 400000000 → (∀ v d H', SmD b H H' → Bx H' b (c + n) → DatB b H' v d → szD d → Q v H') → te σ H Q
def Nrs (b : Addr) (H0 : Hp) (n k : Nat) (ta : TA) (σ : L2.St) : Prop := ∀ H c (Q : List V → Hp → Prop), SmD b H0 H → Bx H b c → c + n ≤ 400000000 → (∀ vs ds H', SmD b H H' → Bx H' b (c + n) → DatsB b H' vs ds → (∀ d ∈ ds, szD d) → ds.length = k → Q vs H') → ta σ H Q
/-- te tells a list of at most m data -/
def NrL (b : Addr) (H0 : Hp) (n m : Nat) (te : TE) (σ : L2.St) : Prop := ∀ H c (Q : VK), SmD b H0 H → Bx H b c → c + n ≤ 400000000 → (∀ p vs ds H', SmD b H H' → Bx H' b (c + n) → p ≠ b → H' p = some (.lst vs) → DatsB b H' vs ds → ds.length ≤ m → Q (.ref p) H') → te σ H Q
theorem DatsB.length {H : Hp} {vs : List V} {ds : List D} (h : DatsB b H vs ds) : vs.length = ds.length := RepL.length h
theorem szD_lst {ds : List D} (h : ds.length ≤ 100000) : szD (.lst ds) := h
theorem szD_tup {ds : List D} (h : ds.length ≤ 100000) : szD (.tup ds) := h
theorem Nr.mono (h : Nr b H0 n te σ) (hn : n ≤ m) : Nr b H0 m te σ := fun H c Q s hb hc q => h H c Q s hb (by omega) fun v d H' s2 b2 r z => q v d H' s2 (b2.mono (by omega)) r z
theorem NrL.nr (h : NrL b H0 n m te σ) (hm : m ≤ 100000) : Nr b H0 n te σ := fun H c Q s hb hc q => h H c Q s hb hc fun p vs ds H' s2 b2 np e r hl => q _ _ H' s2 b2 (.lst e np r (by unfold BL; omega)) (szD_lst (by omega))
theorem Nrs.nil : Nrs b H0 0 0 tNil σ := fun H c Q s hb hc q => q [] [] H .refl hb DatsB.nil (by simp) rfl
theorem Nrs.cons (h : Nr b H0 n te σ) (r : Nrs b H0 m k ta σ) : Nrs b H0 (n + m) (k + 1) (tCons te ta) σ := fun H c Q s hb hc q => h H c _ s hb (by omega) fun v d H1 s1 b1 r1 z1 => r H1 (c + n) _ (s.trans s1) b1 (by omega) fun vs ds H2 s2 b2 r2 z2 hk =>
  q (v :: vs) (d :: ds) H2 (s1.trans s2) (b2.mono (by omega)) (DatsB.cons (r1.mono s2) r2) (fun x hx => (List.mem_cons.mp hx).elim (fun e => by rw [e]; exact z1) (z2 x)) (by rw [List.length_cons, hk])
theorem Nr.c_non : Nr b H0 0 (tC .non) σ := fun H c Q s hb hc q => q _ _ H .refl hb Rep.non (show (0 : Nat) ≤ 100000 by omega)
theorem Nr.c_int {k : Int} : Nr b H0 0 (tC (.int k)) σ := fun H c Q s hb hc q => q _ _ H .refl hb (Rep.int k) (show (0 : Nat) ≤ 100000 by omega)
theorem Nr.c_bl {k : Bool} : Nr b H0 0 (tC (.bl k)) σ := fun H c Q s hb hc q => q _ _ H .refl hb (Rep.bl k) (show (0 : Nat) ≤ 100000 by omega)
theorem Nr.c_str {l : List Nat} (h : l.length ≤ BL) : Nr b H0 0 (tC (.str (S l))) σ := fun H c Q s hb hc q => q _ _ H .refl hb (Rep.str h) (show (0 : Nat) ≤ 100000 by omega)
theorem Nr.dct : Nr b H0 0 tDNewK σ := fun H c Q s hb hc q p hp => q _ (.dct []) _ (.of (same_upd hp)) (hb.ext (same_upd hp)) (DatB.dct upd_same (fun z => hb.ne (by rw [← z]; exact hp))) (show (0 : Nat) ≤ 100000 by omega)
/-- a variable that holds a list of H0 -/
theorem NrL.var {p : Addr} {vs : List V} {ds : List D} (h : σ[i]? = some (some (.ref p))) (np : p ≠ b) (e : H0 p = some (.lst vs)) (r : DatsB b H0 vs ds) (hl : ds.length ≤ m) : NrL b H0 0 m (tVar i) σ := fun H c Q s hb hc q => ⟨_, h, q p vs ds H .refl hb np (s _ _ np e) (r.mono s) hl⟩
theorem new_ne {H : Hp} {c : Nat} {p : Addr} (hb : Bx H b c) (hp : H p = none) : p ≠ b := fun z => hb.ne (by rw [← z]; exact hp)
/-- [a, b, ..] -/
theorem NrL.disp (h : Nrs b H0 n k ta σ) (hm : k ≤ m) (hm2 : k ≤ 1000) : NrL b H0 n m (tLst ta) σ := fun H c Q s hb hc q => h H c _ s hb hc fun vs ds H' s2 b2 r z hk => by
  have hl := r.length
  refine ⟨Nat.le_of_lt (big1 (by omega)), fun p hp => ?_⟩
  exact q p vs ds _ (s2.trans (.of (same_upd hp))) (b2.ext (same_upd hp)) (new_ne b2 hp) upd_same (r.mono (.of (same_upd hp))) (by omega)
/-- (a, b, ..) -/
theorem Nr.disp (h : Nrs b H0 n k ta σ) (hm2 : k ≤ 1000) : Nr b H0 n (tTup ta) σ := fun H c Q s hb hc q => h H c _ s hb hc fun vs ds H' s2 b2 r z hk => by
  have hl := r.length
  refine ⟨Nat.le_of_lt (big1 (by omega)), fun p hp => ?_⟩
  exact q _ (.tup ds) _ (s2.trans (.of (same_upd hp))) (b2.ext (same_upd hp)) (.tup upd_same (new_ne b2 hp) (r.mono (.of (same_upd hp))) (by unfold BL; omega)) (szD_tup (by omega))
/-- tuple(xs), a variable that holds a list of H0 -/
theorem Nr.tupOf {p : Addr} {vs : List V} {ds : List D} (h : σ[i]? = some (some (.ref p))) (np : p ≠ b) (e : H0 p = some (.lst vs)) (r : DatsB b H0 vs ds) (hl : ds.length ≤ 1000) : Nr b H0 0 (tCB rTupM (tCons (tVar i) tNil)) σ := fun H c Q s hb hc q => by
  refine ⟨_, h, ?_⟩
  show rTupM [.ref p] H Q
  unfold rTupM
  dsimp only
  rw [s _ _ np e]
  dsimp only
  intro t ht
  exact q _ (.tup ds) _ (.of (same_upd ht)) (hb.ext (same_upd ht)) (.tup upd_same (new_ne hb ht) (r.mono (s.trans (.of (same_upd ht)))) (by unfold BL; omega)) (szD_tup (by omega))
theorem NrL.drop1 (h : NrL b H0 n m te σ) : NrL b H0 n m (tSl rSlM te (tPart (tC (.int 1))) tNoPart) σ := fun H c Q s hb hc q => by
  unfold tSl
  refine h H c _ s hb hc fun p vs ds H' s2 b2 np e r hl => ?_
  refine sl_from1 (t := fun _ H Q => Q (.ref p) H) (σ := σ) (fun Q q => q) e fun p2 hp2 => ?_
  exact q p2 _ (ds.drop 1) _ (s2.trans (.of (same_upd hp2))) (b2.ext (same_upd hp2)) (new_ne b2 hp2) upd_same (DatsB.mono (RepL.drop 1 r) (.of (same_upd hp2))) (by rw [List.length_drop]; omega)
theorem NrL.rev (h : NrL b H0 n m te σ) : NrL b H0 n m (tRevL K te) σ := fun H c Q s hb hc q => h H c _ s hb hc fun p vs ds H' s2 b2 np e r hl => ⟨p, vs, rfl, .of e, fun p2 hp2 =>
  q p2 _ ds.reverse _ (s2.trans (.of (same_upd hp2))) (b2.ext (same_upd hp2)) (new_ne b2 hp2) upd_same (DatsB.mono (by
    have rv : ∀ (ds : List D) (vs : List V), RepL (MT.del H' b) vs ds → RepL (MT.del H' b) vs.reverse ds.reverse := fun ds => by
      induction ds with
      | nil => intro vs r; cases r; exact RepL.nil
      | cons d ds ih =>
        intro vs r
        cases r with
        | cons h r => rw [List.reverse_cons, List.reverse_cons]; exact RepL.snoc (ih _ r) h
    exact rv _ _ r) (.of (same_upd hp2))) (by rw [List.length_reverse]; exact hl)⟩
end
end K44
set_option Elab.async false
set_option linter.all false
set_option maxRecDepth 100000
set_option maxHeartbeats 4000000
namespace K44
open PySem PySem.Spec PyProof.Rows L2 MT
open SX (S)
local macro_rules | `(tactic| walk_at "mt") => `(tactic| simp only [L2.start, List.map_cons, List.map_nil, List.length_cons, List.length_nil, List.replicate_succ, List.replicate_zero, Nat.reduceSub, Nat.reduceAdd, Nat.sub_self, Nat.zero_add, List.cons_append, List.nil_append, List.append_nil, List.getElem?_cons_zero, List.getElem?_cons_succ, List.set_cons_zero, List.set_cons_succ, Option.some.injEq, exists_eq_left', exists_eq_left, exists_eq_right, V.bl.injEq, V.int.injEq, V.str.injEq, V.ref.injEq, reduceCtorEq, false_and, and_false, true_and, and_true, false_or, or_false, exists_false, exists_const, ↓reduceIte, Bool.false_eq_true, decide_eq_true_eq, Bool.and_eq_true, Bool.not_true, Bool.not_false, List.cons.injEq, exists_and_left, exists_and_right,
  tRet, rInM, rNeI, rSortM, rIndexM, rRepM, rSetDM, rListDM, rPopAtM, tLstRg, tRg1, tDIn, tBM, tBM0, tAndV, tOrV, tNotV, tAnd, tOr, tNot, tB, tTest, tIf, tIfS, tC, tVar, tOp, tUn, tChain, rI0, rI, rU, tFn, tCons, tNil, tCB, tTup, tLst, tAsg, gName, tNext, tDrop, tRetN, tPar, tPar3, tAug, tReplC, tRevS, rLenM2, rIsBM, tDNotIn, tDGet, rSumM, rMaxM, rMinM, gSub, rSetL, tRaiseO, tFnW, tXf, gTup, gUnl, gCons, gNil, rPopM, rAppendM, rExtendM, rTupM, rListM, ipI, tIs, tIss, rLenM, rIxM, rAddM, rEqM, rNeM, rSignIn, rInt, rAbs, rStrI, tSl, tPart, tNoPart, rSlM, tIsN, tNotN, List.any_cons, List.any_nil, Bool.or_false, tSeq, isa, D.ty, decide_true, decide_false, Bool.true_or, Bool.or_true, Bool.false_or, Bool.and_true, Bool.true_and, Bool.false_and, Bool.and_false, eq_self_iff_true, not_true_eq_false, not_false_eq_true, bne_self_eq_false])
section
variable {b : Addr} {H0 : Hp} {σ : L2.St} {n m n2 m2 i j : Nat} {te tf tk : TE} {K : PySem.W.Frag}
/-- xs + ys -/
theorem NrL.add (h1 : NrL b H0 n m te σ) (h2 : NrL b H0 n2 m2 tf σ) (hz : m + m2 ≤ 1000) : NrL b H0 (n + n2) (m + m2) (tOp rAddM te tf) σ := fun H c Q s hb hc q => by
  unfold tOp
  refine h1 H c _ s hb (by omega) fun p vs ds H1 s1 b1 np e r hl => ?_
  refine h2 H1 (c + n) _ (s.trans s1) b1 (by omega) fun p2 ws es H2 s2 b2 np2 e2 r2 hl2 => ?_
  have e1 : H2 p = some (.lst vs) := s2 _ _ np e
  have l1 := r.length
  have l2 := r2.length
  unfold rAddM
  dsimp only
  rw [e1, e2]
  dsimp only
  refine ⟨Nat.le_of_lt (big1 (by omega)), fun p3 hp3 => ?_⟩
  exact q p3 _ (ds ++ es) _ ((s1.trans s2).trans (.of (same_upd hp3))) ((b2.ext (same_upd hp3)).mono (by omega)) (new_ne b2 hp3) upd_same (DatsB.append (r.mono (s2.trans (.of (same_upd hp3)))) (r2.mono (.of (same_upd hp3)))) (by rw [List.length_append]; omega)
/-- xs[:k] -/
theorem NrL.take (h : NrL b H0 n m te σ) {k : Nat} (hk : ∀ H (Q : Option Int → Hp → Prop), Q (some (k : Int)) H → tPart tk σ H Q) : NrL b H0 n m (tSl rSlM te tNoPart (tPart tk)) σ := fun H c Q s hb hc q => by
  unfold tSl
  refine h H c _ s hb hc fun p vs ds H' s2 b2 np e r hl => ?_
  unfold tNoPart
  refine hk _ _ ?_
  unfold rSlM
  dsimp only
  rw [e]
  dsimp only
  intro p2 hp2
  have hc2 : cutV vs none (some (k : Int)) = vs.take k := by
    unfold cutV
    rw [HT.sIx_nat, HT.sIx_none, List.drop_zero, Nat.sub_zero]
    rcases Nat.le_total k vs.length with z | z
    · rw [Nat.min_eq_left z]
    · rw [Nat.min_eq_right z, List.take_length, List.take_of_length_le z]
  rw [hc2]
  exact q p2 _ (ds.take k) _ (s2.trans (.of (same_upd hp2))) (b2.ext (same_upd hp2)) (new_ne b2 hp2) upd_same (DatsB.mono (RepL.take k r) (.of (same_upd hp2))) (by rw [List.length_take]; omega)
/-- xs[k:] -/
theorem NrL.drop (h : NrL b H0 n m te σ) {k : Nat} (hk : ∀ H (Q : Option Int → Hp → Prop), Q (some (k : Int)) H → tPart tk σ H Q) : NrL b H0 n m (tSl rSlM te (tPart tk) tNoPart) σ := fun H c Q s hb hc q => by
  unfold tSl
  refine h H c _ s hb hc fun p vs ds H' s2 b2 np e r hl => ?_
  refine hk _ _ ?_
  unfold tNoPart rSlM
  dsimp only
  rw [e]
  dsimp only
  intro p2 hp2
  have hc2 : cutV vs (some (k : Int)) none = vs.drop k := by
    unfold cutV
    rw [HT.sIx_nat, HT.sIx_none]
    rcases Nat.le_total k vs.length with z | z
    · rw [Nat.min_eq_left z, List.take_of_length_le (by rw [List.length_drop]; omega)]
    · rw [Nat.min_eq_right z, Nat.sub_self, List.take_zero, List.drop_of_length_le z]
  rw [hc2]
  exact q p2 _ (ds.drop k) _ (s2.trans (.of (same_upd hp2))) (b2.ext (same_upd hp2)) (new_ne b2 hp2) upd_same (DatsB.mono (RepL.drop k r) (.of (same_upd hp2))) (by rw [List.length_drop]; omega)
theorem part_int {k : Nat} : ∀ H (Q : Option Int → Hp → Prop), Q (some (k : Int)) H → tPart (tC (.int (k : Int))) σ H Q := fun H Q q => ⟨(k : Int), rfl, q⟩
theorem part_var {k : Nat} (h : σ[i]? = some (some (.int (k : Int)))) : ∀ H (Q : Option Int → Hp → Prop), Q (some (k : Int)) H → tPart (tVar i) σ H Q := fun H Q q => ⟨_, h, (k : Int), rfl, q⟩
end
end K44
set_option Elab.async false
set_option linter.all false
set_option maxRecDepth 100000
set_option maxHeartbeats 4000000
namespace K44
open PySem PySem.Spec PyProof.Rows L2 MT
open SX (S)
local macro_rules | `(tactic| walk_at "mt") => `(tactic| simp only [L2.start, List.map_cons, List.map_nil, List.length_cons, List.length_nil, List.replicate_succ, List.replicate_zero, Nat.reduceSub, Nat.reduceAdd, Nat.sub_self, Nat.zero_add, List.cons_append, List.nil_append, List.append_nil, List.getElem?_cons_zero, List.getElem?_cons_succ, List.set_cons_zero, List.set_cons_succ, Option.some.injEq, exists_eq_left', exists_eq_left, exists_eq_right, V.bl.injEq, V.int.injEq, V.str.injEq, V.ref.injEq, reduceCtorEq, false_and, and_false, true_and, and_true, false_or, or_false, exists_false, exists_const, ↓reduceIte, Bool.false_eq_true, decide_eq_true_eq, Bool.and_eq_true, Bool.not_true, Bool.not_false, List.cons.injEq, exists_and_left, exists_and_right,
  tRet, rInM, rNeI, rSortM, rIndexM, rRepM, rSetDM, rListDM, rPopAtM, tLstRg, tRg1, tDIn, tBM, tBM0, tAndV, tOrV, tNotV, tAnd, tOr, tNot, tB, tTest, tIf, tIfS, tC, tVar, tOp, tUn, tChain, rI0, rI, rU, tFn, tCons, tNil, tCB, tTup, tLst, tAsg, gName, tNext, tDrop, tRetN, tPar, tPar3, tAug, tReplC, tRevS, rLenM2, rIsBM, tDNotIn, tDGet, rSumM, rMaxM, rMinM, gSub, rSetL, tRaiseO, tFnW, tXf, gTup, gUnl, gCons, gNil, rPopM, rAppendM, rExtendM, rTupM, rListM, ipI, tIs, tIss, rLenM, rIxM, rAddM, rEqM, rNeM, rSignIn, rInt, rAbs, rStrI, tSl, tPart, tNoPart, rSlM, tIsN, tNotN, List.any_cons, List.any_nil, Bool.or_false, tSeq, isa, D.ty, decide_true, decide_false, Bool.true_or, Bool.or_true, Bool.false_or, Bool.and_true, Bool.true_and, Bool.false_and, Bool.and_false, eq_self_iff_true, not_true_eq_false, not_false_eq_true, bne_self_eq_false])
section
variable {b : Addr} {H0 : Hp} {σ : L2.St} {n m i j : Nat} {te : TE} {wi : TI} {K : PySem.W.Frag}
theorem grow_del {F H F1 H1 : Hp} {c : Nat} (hb : Bx H b c) (g : Grow F H F1 H1) (hF : F b = none) : Same F1 (MT.del H1 b) := fun x o e => by
  have hn := g.nw b hb.ne hF
  unfold MT.del
  rw [if_neg (fun z => by rw [z, hn] at e; cases e)]
  exact g.fh x o e
/-- [te for x in xs]: new data each, no draws -/
theorem NrL.lc {xs : List V} (hsrc : ∀ H, SmD b H0 H → Src wi σ H xs) (hz : xs.length ≤ 1000) (hm : xs.length ≤ m)
    (he : ∀ x ∈ xs, ∀ F1 H1 (K' : VK), SmD b H0 H1 → Same F1 H1 → Same (MT.del H0 b) F1 → (∀ y F2 H2, Grow F1 H1 F2 H2 → (∃ d, Rep F2 y d) → K' y H2) → te (σ.set j (some x)) H1 K') :
    NrL b H0 0 m (tLc wi (gName j) tYes te [j]) σ := fun H c Q s hb hc q => by
  obtain ⟨J, G, a, w, g0⟩ := hsrc H s
  refine tLc_R a w g0 (big1 (by omega)) (F0 := MT.del H b) MT.del_sub (fun i y F => ∃ d, Rep F y d) (fun i v A B s1 ⟨d, r⟩ => ⟨d, r.mono s1⟩) (fun i F1 H1 K' hi g kk => ?_) fun D F1 H1 ys hD g hF1 h2 h3 h4 => ?_
  · exact he _ (getD_mem hi) F1 H1 K' (s.trans (.of g.h)) g.fh ((del_smd s).trans g.f) fun y F2 H2 g2 r => kk y F2 H2 g2 r
  · have sd := grow_del hb g MT.del_self
    have hds : ∃ ds, DatsB b H1 ys ds := by
      have : ∀ ys : List V, (∀ y ∈ ys, ∃ d, Rep F1 y d) → ∃ ds, RepL F1 ys ds := by
        intro ys
        induction ys with
        | nil => intro _; exact ⟨[], RepL.nil⟩
        | cons y ys ih =>
          intro h
          obtain ⟨d, hd⟩ := h y List.mem_cons_self
          obtain ⟨ds, r⟩ := ih fun z hz => h z (List.mem_cons_of_mem _ hz)
          exact ⟨d :: ds, RepL.cons hd r⟩
      obtain ⟨ds, r⟩ := this ys fun y hy => by
        obtain ⟨i, hi⟩ := List.mem_iff_getElem?.mp hy
        exact h4 i y hi
      exact ⟨ds, r.mono sd⟩
    obtain ⟨ds, r⟩ := hds
    have hl := r.length
    exact q D ys ds H1 (.of g.h) (hb.ext g.h) (new_ne hb hD) h2 r (by omega)
/-- list(x), x a pair of H0 -/
theorem el_list {x : V} {d : D} {K' : VK} {F1 H1 : Hp} (hj : j < σ.length) (hx : DatB b H0 x d) (hd : itemsD d ≠ none) (s : SmD b H0 H1) (f : Same F1 H1) (fd : Same (MT.del H0 b) F1) (kk : ∀ y F2 H2, Grow F1 H1 F2 H2 → (∃ d, Rep F2 y d) → K' y H2) :
    tCB rListM (tCons (tVar j) tNil) (σ.set j (some x)) H1 K' := by
  refine ⟨_, List.getElem?_set_self hj, ?_⟩
  show rListM [x] H1 K'
  have mk : ∀ {a : Addr} {vs : List V} {ds : List D}, seqO (H1 a) = some vs → RepL (MT.del H0 b) vs ds → ds.length ≤ BL → rListM [.ref a] H1 K' := fun {a vs ds} e r hl => by
    refine ⟨vs, e, fun p hp => ?_⟩
    exact kk _ (upd F1 p (.lst vs)) _ ((Grow.refl f).new hp) ⟨.lst ds, .lst upd_same (RepL.mono (fd.trans (same_upd (Same.free f hp))) r) hl⟩
  have r := hx
  unfold DatB at r
  cases r with
  | lst h r hl => exact mk (by rw [f _ _ (fd _ _ h)]; rfl) r hl
  | tup h r hl => exact mk (by rw [f _ _ (fd _ _ h)]; rfl) r hl
  | _ => exact absurd rfl hd
end
end K44
set_option Elab.async false
set_option linter.all false
set_option maxRecDepth 100000
set_option maxHeartbeats 4000000
namespace K44
open PySem PySem.Spec PyProof.Rows L2 MT
open SX (S)
local macro_rules | `(tactic| walk_at "mt") => `(tactic| simp only [L2.start, List.map_cons, List.map_nil, List.length_cons, List.length_nil, List.replicate_succ, List.replicate_zero, Nat.reduceSub, Nat.reduceAdd, Nat.sub_self, Nat.zero_add, List.cons_append, List.nil_append, List.append_nil, List.getElem?_cons_zero, List.getElem?_cons_succ, List.set_cons_zero, List.set_cons_succ, Option.some.injEq, exists_eq_left', exists_eq_left, exists_eq_right, V.bl.injEq, V.int.injEq, V.str.injEq, V.ref.injEq, reduceCtorEq, false_and, and_false, true_and, and_true, false_or, or_false, exists_false, exists_const, ↓reduceIte, Bool.false_eq_true, decide_eq_true_eq, Bool.and_eq_true, Bool.not_true, Bool.not_false, List.cons.injEq, exists_and_left, exists_and_right,
  tRet, rInM, rNeI, rSortM, rIndexM, rRepM, rSetDM, rListDM, rPopAtM, tLstRg, tRg1, tDIn, tBM, tBM0, tAndV, tOrV, tNotV, tAnd, tOr, tNot, tB, tTest, tIf, tIfS, tC, tVar, tOp, tUn, tChain, rI0, rI, rU, tFn, tCons, tNil, tCB, tTup, tLst, tAsg, gName, tNext, tDrop, tRetN, tPar, tPar3, tAug, tReplC, tRevS, rLenM2, rIsBM, tDNotIn, tDGet, rSumM, rMaxM, rMinM, gSub, rSetL, tRaiseO, tFnW, tXf, gTup, gUnl, gCons, gNil, rPopM, rAppendM, rExtendM, rTupM, rListM, ipI, tIs, tIss, rLenM, rIxM, rAddM, rEqM, rNeM, rSignIn, rInt, rAbs, rStrI, tSl, tPart, tNoPart, rSlM, tIsN, tNotN, List.any_cons, List.any_nil, Bool.or_false, tSeq, isa, D.ty, decide_true, decide_false, Bool.true_or, Bool.or_true, Bool.false_or, Bool.and_true, Bool.true_and, Bool.false_and, Bool.and_false, eq_self_iff_true, not_true_eq_false, not_false_eq_true, bne_self_eq_false])
section
variable {b : Addr} {H0 : Hp} {σ : L2.St} {n m i j : Nat} {te tf : TE} {K : PySem.W.Frag}
/-- (k, k + 1), (k, 0) -/
theorem el_pair {k y : Int} {K' : VK} {F1 H1 : Hp} (hj : j < σ.length) (ht : ∀ Q : VK, Q (.int y) H1 → tf (σ.set j (some (.int k))) H1 Q) (f : Same F1 H1) (kk : ∀ y F2 H2, Grow F1 H1 F2 H2 → (∃ d, Rep F2 y d) → K' y H2) :
    tTup (tCons (tVar j) (tCons tf tNil)) (σ.set j (some (.int k))) H1 K' := by
  refine ⟨_, List.getElem?_set_self hj, ht _ ⟨by show 2 ≤ sizeLine; decide +kernel, fun p hp => ?_⟩⟩
  exact kk _ (upd F1 p (.tup [.int k, .int y])) _ ((Grow.refl f).new hp) ⟨.tup [.int k, .int y], .tup upd_same (RepL.cons (Rep.int _) (RepL.cons (Rep.int _) RepL.nil)) (by show 2 ≤ BL; unfold BL; decide)⟩
/-- str(k) -/
theorem el_str {k : Int} {K' : VK} {F1 H1 : Hp} (hj : j < σ.length) (h0 : 0 ≤ k) (h1 : k < 20) (f : Same F1 H1) (kk : ∀ y F2 H2, Grow F1 H1 F2 H2 → (∃ d, Rep F2 y d) → K' y H2) :
    tCB rStrI (tCons (tVar j) tNil) (σ.set j (some (.int k))) H1 K' := by
  refine ⟨_, List.getElem?_set_self hj, ?_⟩
  show rStrI [.int k] H1 K'
  obtain ⟨m, rfl⟩ : ∃ m : Fin 20, k = (m.val : Int) := ⟨⟨k.toNat, by omega⟩, by show k = (k.toNat : Int); omega⟩
  have hb : ((m.val : Int)).natAbs.log2 < 1920 := by revert m; decide +kernel
  have hl : ∀ m : Fin 20, ((toString (m.val : Int) : Str)).cps.toList.length ≤ 100 := by decide +kernel
  refine ⟨hb, kk _ F1 H1 (Grow.refl f) ?_⟩
  refine ⟨.str ((toString (m.val : Int) : Str)).cps.toList, ?_⟩
  have e := SX.S_tl (toString (m.val : Int) : Str)
  have h2 := hl m
  generalize (toString (m.val : Int) : Str) = z at e h2 ⊢
  rw [← e]
  have e2 : (S z.cps.toList).cps.toList = z.cps.toList := by rw [e]
  rw [e2]
  exact Rep.str (by unfold BL; omega)
/-- sorted(xs), ints -/
theorem NrL.sort {ns : List Int} {p : Addr} {H : Hp} {c : Nat} {Q : VK} (hb : Bx H b c) (np : p ≠ b) (e : H p = some (.lst (ns.map V.int))) (hl : ns.length ≤ m) (q : ∀ p' vs ds H', SmD b H H' → Bx H' b c → p' ≠ b → H' p' = some (.lst vs) → DatsB b H' vs ds → ds.length ≤ m → Q (.ref p') H') : rSortM [.ref p] H Q := by
  refine ⟨ns, e, fun ms hp _ p' hp' => ?_⟩
  exact q p' _ (ms.map D.int) _ (.of (same_upd hp')) (hb.ext (same_upd hp')) (new_ne hb hp') upd_same (DatsB.ints ms) (by rw [List.length_map, hp.length_eq]; exact hl)
end
end K44
set_option Elab.async false
set_option linter.all false
set_option maxRecDepth 100000
set_option maxHeartbeats 4000000
namespace K44
open PySem PySem.Spec PyProof.Rows L2 MT
open SX (S)
local macro_rules | `(tactic| walk_at "mt") => `(tactic| simp only [L2.start, List.map_cons, List.map_nil, List.length_cons, List.length_nil, List.replicate_succ, List.replicate_zero, Nat.reduceSub, Nat.reduceAdd, Nat.sub_self, Nat.zero_add, List.cons_append, List.nil_append, List.append_nil, List.getElem?_cons_zero, List.getElem?_cons_succ, List.set_cons_zero, List.set_cons_succ, Option.some.injEq, exists_eq_left', exists_eq_left, exists_eq_right, V.bl.injEq, V.int.injEq, V.str.injEq, V.ref.injEq, reduceCtorEq, false_and, and_false, true_and, and_true, false_or, or_false, exists_false, exists_const, ↓reduceIte, Bool.false_eq_true, decide_eq_true_eq, Bool.and_eq_true, Bool.not_true, Bool.not_false, List.cons.injEq, exists_and_left, exists_and_right,
  tRet, rInM, rNeI, rSortM, rIndexM, rRepM, rSetDM, rListDM, rPopAtM, tLstRg, tRg1, tDIn, tBM, tBM0, tAndV, tOrV, tNotV, tAnd, tOr, tNot, tB, tTest, tIf, tIfS, tC, tVar, tOp, tUn, tChain, rI0, rI, rU, tFn, tCons, tNil, tCB, tTup, tLst, tAsg, gName, tNext, tDrop, tRetN, tPar, tPar3, tAug, tReplC, tRevS, rLenM2, rIsBM, tDNotIn, tDGet, rSumM, rMaxM, rMinM, gSub, rSetL, tRaiseO, tFnW, tXf, gTup, gUnl, gCons, gNil, rPopM, rAppendM, rExtendM, rTupM, rListM, ipI, tIs, tIss, rLenM, rIxM, rAddM, rEqM, rNeM, rSignIn, rInt, rAbs, rStrI, tSl, tPart, tNoPart, rSlM, tIsN, tNotN, List.any_cons, List.any_nil, Bool.or_false, tSeq, isa, D.ty, decide_true, decide_false, Bool.true_or, Bool.or_true, Bool.false_or, Bool.and_true, Bool.true_and, Bool.false_and, Bool.and_false, eq_self_iff_true, not_true_eq_false, not_false_eq_true, bne_self_eq_false])
/-! ### law_near: the loop that puts a changed link -/
def D2 (b p : Addr) (H : Hp) : Hp := MT.del (MT.del H b) p
section
variable {b p x : Addr} {H H' H'' : Hp}
theorem Sm2.of (s : SmD b H H') : Sm2 b p H H' := fun x o n1 _ e => s x o n1 e
theorem Sm2.upd {o : HO} : Sm2 b p H (upd H p o) := fun x u _ n e => by rw [upd_ne n]; exact e
theorem D2_ne (n1 : x ≠ b) (n2 : x ≠ p) : D2 b p H x = H x := by unfold D2; rw [del_ne n2, del_ne n1]
theorem D2_same (s : Sm2 b p H H') : Same (D2 b p H) (D2 b p H') := fun x o e => by
  unfold D2 MT.del at e ⊢
  split at e
  · cases e
  · rename_i h1
    split at e
    · cases e
    · rename_i h2
      rw [if_neg h1, if_neg h2]; exact s x o h2 h1 e
theorem D2_sub : Same (D2 b p H) (MT.del H b) := MT.del_sub
theorem sl_fr {σ : L2.St} {Q : VK} {a : Addr} {xs : List V} {k : Nat} {t tk : TE} (h : ∀ Q : VK, Q (.ref a) H → t σ H Q) (hk : ∀ Q : VK, Q (.int (k : Int)) H → tk σ H Q) (e : H a = some (.lst xs)) (q : ∀ p, H p = none → Q (.ref p) (upd H p (.lst (xs.drop k)))) : tSl rSlM t (tPart tk) tNoPart σ H Q := by
  unfold tSl tPart tNoPart
  refine h _ (hk _ ⟨k, rfl, ?_⟩)
  unfold rSlM
  dsimp only
  rw [e]
  dsimp only
  intro p hp
  have hc2 : cutV xs (some (k : Int)) none = xs.drop k := by
    unfold cutV
    rw [HT.sIx_nat, HT.sIx_none]
    rcases Nat.le_total k xs.length with z | z
    · rw [Nat.min_eq_left z, List.take_of_length_le (by rw [List.length_drop]; omega)]
    · rw [Nat.min_eq_right z, Nat.sub_self, List.take_zero, List.drop_of_length_le z]
  rw [hc2]
  exact q p hp
/-- links[:at] + [pair] + links[at + 1:] -/
theorem near_turn {σ : L2.St} {Q : VK} {lk : Addr} {ws : List V} {i : Nat} {y : V} (h2 : σ[2]? = some (some (.ref lk))) (h8 : σ[8]? = some (some (.int (i : Int)))) (h7 : σ[7]? = some (some y)) (e : H lk = some (.lst ws)) (hi : i < ws.length) (hl : ws.length ≤ 1000)
    (q : ∀ r H', Same H H' → H r = none → H' r = some (.lst (ws.take i ++ [y] ++ ws.drop (i + 1))) → Q (.ref r) H') :
    (tOp rAddM (tOp rAddM (tSl rSlM (tVar 2) tNoPart (tPart (tVar 8))) (tLst (tCons (tVar 7) tNil))) (tSl rSlM (tVar 2) (tPart (tOp rAddM (tVar 8) (tC (.int 1)))) tNoPart)) σ H Q := by
  unfold tOp
  refine sl_to (k := i) (src_var h2) (fun Q q => ⟨_, h8, q⟩) e (by omega) fun p1 hp1 => ?_
  have e1 : (upd H p1 (.lst (ws.take i))) lk = some (.lst ws) := same_upd hp1 _ _ e
  refine ⟨_, h7, by show 1 ≤ sizeLine; decide +kernel, fun p2 hp2 => ?_⟩
  have n12 : p1 ≠ p2 := fun z => by rw [← z, upd_same] at hp2; cases hp2
  have s2 : Same H (upd (upd H p1 (.lst (ws.take i))) p2 (.lst [y])) := (same_upd hp1).trans (same_upd hp2)
  have e2 : (upd (upd H p1 (.lst (ws.take i))) p2 (.lst [y])) p1 = some (.lst (ws.take i)) := by rw [upd_ne n12, upd_same]
  have e3 : (upd (upd H p1 (.lst (ws.take i))) p2 (.lst [y])) p2 = some (.lst [y]) := upd_same
  generalize upd (upd H p1 (.lst (ws.take i))) p2 (.lst [y]) = H2 at s2 e2 e3 ⊢
  show rAddM (.ref p1) (.ref p2) H2 _
  unfold rAddM
  dsimp only
  rw [e2, e3]
  dsimp only
  refine ⟨Nat.le_of_lt (big1 (by rw [List.length_take, List.length_singleton]; omega)), fun p3 hp3 => ?_⟩
  have s3 : Same H _ := s2.trans (same_upd (o := .lst (ws.take i ++ [y])) hp3)
  have e4 : (upd H2 p3 (.lst (ws.take i ++ [y]))) p3 = some (.lst (ws.take i ++ [y])) := upd_same
  generalize upd H2 p3 (.lst (ws.take i ++ [y])) = H3 at s3 e4 ⊢
  refine sl_fr (k := i + 1) (src_var h2) (fun Q q => ⟨_, h8, q⟩) (s3 _ _ e) fun p4 hp4 => ?_
  have s4 : Same H _ := s3.trans (same_upd (o := .lst (ws.drop (i + 1))) hp4)
  have e5 : (upd H3 p4 (.lst (ws.drop (i + 1)))) p3 = some (.lst (ws.take i ++ [y])) := same_upd hp4 _ _ e4
  have e6 : (upd H3 p4 (.lst (ws.drop (i + 1)))) p4 = some (.lst (ws.drop (i + 1))) := upd_same
  generalize upd H3 p4 (.lst (ws.drop (i + 1))) = H4 at s4 e5 e6 ⊢
  dsimp only
  rw [e5, e6]
  dsimp only
  refine ⟨Nat.le_of_lt (big1 (by rw [List.length_append, List.length_take, List.length_drop, List.length_singleton]; omega)), fun p5 hp5 => ?_⟩
  exact q p5 _ (s4.trans (same_upd hp5)) (Same.free s4 hp5) upd_same
end
abbrev tNearSrc : TE := (tIf (tB (tEqNil true (tVar 2))) (tLst (tCons (tTup (tCons (tOp rIxM (tOp rIxM (tVar 2) (tVar 8)) (tC (.int 1))) (tCons (tOp rIxM (tOp rIxM (tVar 2) (tVar 8)) (tC (.int 0))) tNil))) (tCons (tTup (tCons (tOp rIxM (tOp rIxM (tVar 2) (tVar 8)) (tC (.int 0))) (tCons (tFn spTake (tCons (tVar 0) (tCons (tVar 4) tNil))) tNil))) (tCons (tTup (tCons (tOp rIxM (tOp rIxM (tVar 2) (tVar 8)) (tC (.int 0))) (tCons (tC (.bl true)) tNil))) (tCons (tOp rAddM (tOp rIxM (tVar 2) (tVar 8)) (tTup (tCons (tC (.int 0)) tNil))) tNil))))) (tLst tNil))
theorem near_ix {σ : L2.St} {H : Hp} {lk t : Addr} {ws : List V} {i : Nat} {u : Int × Int} (h2 : σ[2]? = some (some (.ref lk))) (h8 : σ[8]? = some (some (.int (i : Int)))) (e : H lk = some (.lst ws)) (hw : ws[i]? = some (.ref t)) (et : H t = some (.tup [.int u.1, .int u.2])) (Q : VK) :
    (Q (.int u.1) H → (tOp rIxM (tOp rIxM (tVar 2) (tVar 8)) (tC (.int 0)) : TE) σ H Q) ∧ (Q (.int u.2) H → (tOp rIxM (tOp rIxM (tVar 2) (tVar 8)) (tC (.int 1)) : TE) σ H Q) ∧ (Q (.ref t) H → (tOp rIxM (tVar 2) (tVar 8) : TE) σ H Q) :=
  ⟨fun q => ⟨_, h2, _, h8, ws, .ref t, by rw [e]; rfl, atI_nat hw, _, _, by rw [et]; rfl, rfl, q⟩, fun q => ⟨_, h2, _, h8, ws, .ref t, by rw [e]; rfl, atI_nat hw, _, _, by rw [et]; rfl, rfl, q⟩, fun q => ⟨_, h2, _, h8, ws, .ref t, by rw [e]; rfl, atI_nat hw, q⟩⟩
theorem near_src {H : Hp} {Q : VK} {b a lk lf ev p : Addr} {x7 x9 x10 : Option V} {many i c : Nat} {ws : List V} {ts : List (Int × Int)} (e : H lk = some (.lst ws)) (hp : PairsAt H ws ts) (hi : i < max 1 ws.length) (hm : ws ≠ [] → 1 ≤ many ∧ many ≤ 1000) (hb : Bx H b c) (hc : c ≤ 400000000) (npb : p ≠ b) (nlb : lk ≠ b) (ep : H p ≠ none)
    (q : ∀ r H' xs ds, SmD b H H' → Bx H' b (c + 1) → H r = none → H' r = some (.lst xs) → RepL (D2 b p H') xs ds → xs.length ≤ 4 → (ws = [] → xs = []) → Q (.ref r) H') :
    tNearSrc [some (.ref b), some (.ref a), some (.ref lk), some (.ref lf), some (.int (many : Int)), some (.ref ev), some (.ref p), x7, some (.int (i : Int)), x9, x10] H Q := by
  unfold tNearSrc
  refine ⟨_, rfl, lk, ws, rfl, e, !ws.isEmpty, rfl, ?_⟩
  cases hw : ws with
  | nil =>
    subst hw
    rw [if_neg (by decide)]
    refine ⟨Nat.zero_le _, fun r hr => ?_⟩
    exact q r _ [] [] (.of (same_upd hr)) ((hb.ext (same_upd hr)).mono (by omega)) hr upd_same RepL.nil (by decide) fun _ => rfl
  | cons w0 ws0 =>
    have hlen : 0 < ws.length := by rw [hw]; exact Nat.succ_pos _
    have hm2 := hm (by rw [hw]; exact fun z => by cases z)
    rw [if_pos (by rfl)]
    have hi2 : i < ws.length := by omega
    obtain ⟨u, hu⟩ : ∃ u, ts[i]? = some u := ⟨_, List.getElem?_eq_getElem (by rw [← hp.1]; exact hi2)⟩
    have hwi : ws[i]? = some ws[i] := List.getElem?_eq_getElem hi2
    obtain ⟨t, ht, et⟩ := hp.2 i _ u hwi hu
    rw [ht] at hwi
    have sz2 : 2 ≤ sizeLine := by decide +kernel
    have ntb : t ≠ b := fun z => by
      obtain ⟨n, g, m, k, eb, _⟩ := hb
      rw [z, eb] at et; cases et
    obtain ⟨op, ep'⟩ : ∃ o, H p = some o := by
      cases h : H p with
      | none => exact absurd h ep
      | some o => exact ⟨o, rfl⟩
    have newp : ∀ H' n, SmD b H H' → H' n = none → n ≠ p := fun H' n s h z => by rw [z, s _ _ npb ep'] at h; cases h
    refine (near_ix rfl rfl e hwi et _).2.1 ((near_ix rfl rfl e hwi et _).1 ⟨sz2, fun p1 hp1 => ?_⟩)
    have n1b := new_ne hb hp1
    have n1p := newp _ _ .refl hp1
    have b1 := hb.ext (same_upd (o := .tup [.int u.2, .int u.1]) hp1)
    have s1 := same_upd (o := .tup [.int u.2, .int u.1]) hp1
    have e1 : (upd H p1 (.tup [.int u.2, .int u.1])) p1 = some (.tup [.int u.2, .int u.1]) := upd_same
    generalize upd H p1 (.tup [.int u.2, .int u.1]) = H1 at b1 s1 e1 ⊢
    refine (near_ix rfl rfl (s1 _ _ e) hwi (s1 _ _ et) _).1 ⟨_, rfl, _, rfl, b, many, c, rfl, hm2.1, by omega, b1, by omega, fun k o hk b2 => ⟨sz2, fun p2 hp2 => ?_⟩⟩
    have n2b := new_ne b2 hp2
    have n2p := newp _ _ ((SmD.of s1).trans .upd) hp2
    have s2 : SmD b H (upd (upd H1 b o) p2 (.tup [.int u.1, .int k])) := (SmD.of s1).trans (SmD.upd.trans (.of (same_upd hp2)))
    have e1' : (upd (upd H1 b o) p2 (.tup [.int u.1, .int k])) p1 = some (.tup [.int u.2, .int u.1]) := same_upd hp2 _ _ (by rw [upd_ne n1b]; exact e1)
    have e2 : (upd (upd H1 b o) p2 (.tup [.int u.1, .int k])) p2 = some (.tup [.int u.1, .int k]) := upd_same
    have b3 := b2.ext (same_upd (o := .tup [.int u.1, .int k]) hp2)
    generalize upd (upd H1 b o) p2 (.tup [.int u.1, .int k]) = H2 at s2 e1' e2 b3 ⊢
    refine (near_ix rfl rfl (s2 _ _ nlb e) hwi (s2 _ _ ntb et) _).1 ⟨sz2, fun p3 hp3 => ?_⟩
    have n3b := new_ne b3 hp3
    have n3p := newp _ _ s2 hp3
    have s3' := same_upd (o := .tup [.int u.1, .bl true]) hp3
    have e3 : (upd H2 p3 (.tup [.int u.1, .bl true])) p3 = some (.tup [.int u.1, .bl true]) := upd_same
    have s3 : SmD b H (upd H2 p3 (.tup [.int u.1, .bl true])) := s2.trans (.of s3')
    have b4 := b3.ext s3'
    have e1' := s3' _ _ e1'
    have e2 := s3' _ _ e2
    generalize upd H2 p3 (.tup [.int u.1, .bl true]) = H3 at s3 e1' e2 e3 b4 ⊢
    unfold tOp
    refine ⟨_, rfl, _, rfl, ws, .ref t, by rw [s3 _ _ nlb e]; rfl, atI_nat hwi, ⟨by show 1 ≤ sizeLine; decide +kernel, fun p4 hp4 => ?_⟩⟩
    have s4' := same_upd (o := .tup [.int 0]) hp4
    have e4 : (upd H3 p4 (.tup [.int 0])) p4 = some (.tup [.int 0]) := upd_same
    have s4 : SmD b H (upd H3 p4 (.tup [.int 0])) := s3.trans (.of s4')
    have b5 := b4.ext s4'
    have e1' := s4' _ _ e1'
    have e2 := s4' _ _ e2
    have e3 := s4' _ _ e3
    generalize upd H3 p4 (.tup [.int 0]) = H4 at s4 e1' e2 e3 e4 b5 ⊢
    have et4 := s4 _ _ ntb et
    show rAddM (.ref t) (.ref p4) H4 _
    unfold rAddM
    dsimp only
    rw [et4, e4]
    dsimp only
    refine ⟨by show 3 ≤ sizeLine; decide +kernel, fun p5 hp5 => ?_⟩
    have n5b := new_ne b5 hp5
    have n5p := newp _ _ s4 hp5
    have s5' := same_upd (o := .tup ([.int u.1, .int u.2] ++ [.int 0])) hp5
    have e5 : (upd H4 p5 (.tup ([.int u.1, .int u.2] ++ [.int 0]))) p5 = some (.tup [.int u.1, .int u.2, .int 0]) := upd_same
    have s5 : SmD b H (upd H4 p5 (.tup ([.int u.1, .int u.2] ++ [.int 0]))) := s4.trans (.of s5')
    have b6 := b5.ext s5'
    have e1' := s5' _ _ e1'
    have e2 := s5' _ _ e2
    have e3 := s5' _ _ e3
    generalize upd H4 p5 (.tup ([.int u.1, .int u.2] ++ [.int 0])) = H5 at s5 e1' e2 e3 e5 b6 ⊢
    refine ⟨by show 4 ≤ sizeLine; decide +kernel, fun p6 hp6 => ?_⟩
    have s6' := same_upd (o := .lst [.ref p1, .ref p2, .ref p3, .ref p5]) hp6
    have bl2 : 3 ≤ BL := by unfold BL; decide
    have tl : ∀ {x : Addr} {us : List V} {es : List D}, H5 x = some (.tup us) → x ≠ b → x ≠ p → RepL (D2 b p (upd H5 p6 (.lst [.ref p1, .ref p2, .ref p3, .ref p5]))) us es → es.length ≤ 3 → Rep (D2 b p (upd H5 p6 (.lst [.ref p1, .ref p2, .ref p3, .ref p5]))) (.ref x) (.tup es) := fun ex n1 n2 r hl => Rep.tup (by rw [D2_ne n1 n2]; exact s6' _ _ ex) r (by omega)
    have hr6 : H p6 = none := by
      cases h : H p6 with
      | none => rfl
      | some o2 => exact absurd (s5 _ _ (new_ne b6 hp6) h) (by rw [hp6]; exact fun z => by cases z)
    refine q p6 _ _ [.tup [.int u.2, .int u.1], .tup [.int u.1, .int k], .tup [.int u.1, .bl true], .tup [.int u.1, .int u.2, .int 0]] (s5.trans (.of s6')) (b6.ext s6') hr6 upd_same ?_ (by simp) (fun z => absurd z (by rw [hw]; exact fun z => by cases z))
    exact RepL.cons (tl e1' n1b n1p (RepL.cons (Rep.int _) (RepL.cons (Rep.int _) RepL.nil)) (by simp)) (RepL.cons (tl e2 n2b n2p (RepL.cons (Rep.int _) (RepL.cons (Rep.int _) RepL.nil)) (by simp)) (RepL.cons (tl e3 n3b n3p (RepL.cons (Rep.int _) (RepL.cons (Rep.bl _) RepL.nil)) (by simp)) (RepL.cons (tl e5 n5b n5p (RepL.cons (Rep.int _) (RepL.cons (Rep.int _) (RepL.cons (Rep.int _) RepL.nil))) (by simp)) RepL.nil)))
end K44
set_option Elab.async false
set_option linter.all false
set_option maxRecDepth 100000
set_option maxHeartbeats 4000000
namespace K44
open PySem PySem.Spec PyProof.Rows L2 MT
open SX (S)
local macro_rules | `(tactic| walk_at "mt") => `(tactic| simp only [L2.start, List.map_cons, List.map_nil, List.length_cons, List.length_nil, List.replicate_succ, List.replicate_zero, Nat.reduceSub, Nat.reduceAdd, Nat.sub_self, Nat.zero_add, List.cons_append, List.nil_append, List.append_nil, List.getElem?_cons_zero, List.getElem?_cons_succ, List.set_cons_zero, List.set_cons_succ, Option.some.injEq, exists_eq_left', exists_eq_left, exists_eq_right, V.bl.injEq, V.int.injEq, V.str.injEq, V.ref.injEq, reduceCtorEq, false_and, and_false, true_and, and_true, false_or, or_false, exists_false, exists_const, ↓reduceIte, Bool.false_eq_true, decide_eq_true_eq, Bool.and_eq_true, Bool.not_true, Bool.not_false, List.cons.injEq, exists_and_left, exists_and_right,
  tRet, rInM, rNeI, rSortM, rIndexM, rRepM, rSetDM, rListDM, rPopAtM, tLstRg, tRg1, tDIn, tBM, tBM0, tAndV, tOrV, tNotV, tAnd, tOr, tNot, tB, tTest, tIf, tIfS, tC, tVar, tOp, tUn, tChain, rI0, rI, rU, tFn, tCons, tNil, tCB, tTup, tLst, tAsg, gName, tNext, tDrop, tRetN, tPar, tPar3, tAug, tReplC, tRevS, rLenM2, rIsBM, tDNotIn, tDGet, rSumM, rMaxM, rMinM, gSub, rSetL, tRaiseO, tFnW, tXf, gTup, gUnl, gCons, gNil, rPopM, rAppendM, rExtendM, rTupM, rListM, ipI, tIs, tIss, rLenM, rIxM, rAddM, rEqM, rNeM, rSignIn, rInt, rAbs, rStrI, tSl, tPart, tNoPart, rSlM, tIsN, tNotN, List.any_cons, List.any_nil, Bool.or_false, tSeq, isa, D.ty, decide_true, decide_false, Bool.true_or, Bool.or_true, Bool.false_or, Bool.and_true, Bool.true_and, Bool.false_and, Bool.and_false, eq_self_iff_true, not_true_eq_false, not_false_eq_true, bne_self_eq_false])
section
variable {b : Addr} {H0 : Hp} {σ : L2.St} {n m i j : Nat} {te tf : TE} {K : PySem.W.Frag}
/-- sorted(left + [take(box, max(1, many))]) -/
theorem nr_sortadd {lf : Addr} {ls : List Int} {many : Nat} (h0 : σ[0]? = some (some (.ref b))) (h3 : σ[3]? = some (some (.ref lf))) (h4 : σ[4]? = some (some (.int (many : Int)))) (nl : lf ≠ b) (e : H0 lf = some (.lst (ls.map V.int))) (hl : ls.length ≤ 100) (hm : many ≤ 1000) :
    Nr b H0 1 (tCB rSortM (tCons (tOp rAddM (tVar 3) (tLst (tCons (tFn spTake (tCons (tVar 0) (tCons (tCB rMaxM (tCons (tC (.int 1)) (tCons (tVar 4) tNil))) tNil))) tNil))) tNil)) σ := fun H c Q s hb hc q => by
  refine ⟨_, h3, _, h0, _, h4, ?_⟩
  refine ⟨b, max 1 many, c, show [V.ref b, V.int (max 1 (many : Int))] = [V.ref b, V.int ((max 1 many : Nat) : Int)] by congr 3; omega, by omega, by omega, hb, by omega, fun r o hr hb2 => ⟨by show 1 ≤ sizeLine; decide +kernel, fun p1 hp1 => ?_⟩⟩
  have nb1 : p1 ≠ b := new_ne hb2 hp1
  have e1 : (upd (upd H b o) p1 (.lst [.int (r : Int)])) lf = some (.lst (ls.map V.int)) := same_upd hp1 _ _ (by rw [upd_ne nl]; exact s _ _ nl e)
  have e2 : (upd (upd H b o) p1 (.lst [.int (r : Int)])) p1 = some (.lst [.int (r : Int)]) := upd_same
  have hb3 := hb2.ext (same_upd (o := .lst [.int (r : Int)]) hp1)
  have s3 : SmD b H (upd (upd H b o) p1 (.lst [.int (r : Int)])) := SmD.upd.trans (.of (same_upd hp1))
  generalize upd (upd H b o) p1 (.lst [.int (r : Int)]) = H2 at e1 e2 hb3 s3 ⊢
  show rAddM (.ref lf) (.ref p1) H2 _
  unfold rAddM
  dsimp only
  rw [e1, e2]
  dsimp only
  refine ⟨Nat.le_of_lt (big1 (by rw [List.length_map, List.length_singleton]; omega)), fun p2 hp2 => ?_⟩
  have nb2 : p2 ≠ b := new_ne hb3 hp2
  refine NrL.sort (m := 101) (ns := ls ++ [(r : Int)]) (hb3.ext (same_upd hp2)) nb2 (by rw [upd_same, List.map_append]; rfl) (by rw [List.length_append, List.length_singleton]; omega) fun p' vs ds H' s' b' np e' r' hl' => ?_
  exact q _ _ H' ((s3.trans (.of (same_upd hp2))).trans s') b' (.lst e' np r' (by unfold BL; omega)) (szD_lst (by omega))
/-- [True] * 3 -/
theorem nr_rep3 : Nr b H0 0 (tOp rRepM (tLst (tCons (tC (.bl true)) tNil)) (tC (.int 3))) σ := fun H c Q s hb hc q => by
  refine ⟨by show 1 ≤ sizeLine; decide +kernel, fun p1 hp1 => ?_⟩
  refine ⟨[.bl true], upd_same, by decide, by decide, by decide, fun p2 hp2 => ?_⟩
  have s1 := (same_upd (o := .lst [.bl true]) hp1).trans (same_upd (o := .lst (List.replicate 3 [V.bl true]).flatten) hp2)
  have hb1 := hb.ext (same_upd (o := .lst [.bl true]) hp1)
  exact q _ (.lst [.bl true, .bl true, .bl true]) _ (.of s1) (hb1.ext (same_upd hp2)) (.lst (vs := [.bl true, .bl true, .bl true]) upd_same (new_ne hb1 hp2) (RepL.cons (Rep.bl _) (RepL.cons (Rep.bl _) (RepL.cons (Rep.bl _) RepL.nil))) (by show 3 ≤ BL; unfold BL; decide)) (szD_lst (by decide))
/-- sorted(mixed(box, every)[:3 + take(box, 3)]) -/
theorem nr_sortmix {ev : Addr} {es : List Int} (h0 : σ[0]? = some (some (.ref b))) (h5 : σ[5]? = some (some (.ref ev))) (nl : ev ≠ b) (e : H0 ev = some (.lst (es.map V.int))) (hl : es.length ≤ 100) :
    Nr b H0 101 (tCB rSortM (tCons (tSl rSlM (tFn spMixed (tCons (tVar 0) (tCons (tVar 5) tNil))) tNoPart (tPart (tOp rAddM (tC (.int 3)) (tFn spTake (tCons (tVar 0) (tCons (tC (.int 3)) tNil)))))) tNil)) σ := fun H c Q s hb hc q => by
  refine ⟨_, h0, _, h5, ?_⟩
  refine ⟨b, ev, es.map V.int, c, rfl, by rw [s _ _ nl e]; rfl, by rw [List.length_map]; omega, hb, by omega, fun r ys H1 hp s1 hb1 hr er => ?_⟩
  rw [List.length_map] at hb1
  refine ⟨_, h0, ?_⟩
  refine ⟨b, 3, _, rfl, by omega, by omega, hb1, by omega, fun k o hk hb2 => ?_⟩
  have nrb : r ≠ b := new_ne hb hr
  have er2 : (upd H1 b o) r = some (.lst ys) := by rw [upd_ne nrb]; exact er
  have s2 : SmD b H (upd H1 b o) := s1.trans .upd
  generalize upd H1 b o = H2 at er2 s2 hb2 ⊢
  obtain ⟨ms, rfl⟩ : ∃ ms : List Int, ys = ms.map V.int := by
    have : ∀ (ys : List V), (∀ y ∈ ys, ∃ k, y = V.int k) → ∃ ms : List Int, ys = ms.map V.int := by
      intro ys
      induction ys with
      | nil => intro _; exact ⟨[], rfl⟩
      | cons y ys ih =>
        intro h
        obtain ⟨k, rfl⟩ := h y List.mem_cons_self
        obtain ⟨ms, rfl⟩ := ih fun z hz => h z (List.mem_cons_of_mem _ hz)
        exact ⟨k :: ms, rfl⟩
    exact this ys fun y hy => by
      obtain ⟨k, _, rfl⟩ := List.mem_map.mp (hp.mem_iff.mp hy)
      exact ⟨k, rfl⟩
  have hlm : ms.length = es.length := by have := hp.length_eq; rwa [List.length_map, List.length_map] at this
  refine ⟨_, rfl, ?_⟩
  show rSlM (.ref r) none (some ((3 : Int) + (k : Int))) H2 _
  unfold rSlM
  dsimp only
  rw [er2]
  dsimp only
  intro p2 hp2
  have hc2 : cutV (ms.map V.int) none (some ((3 : Int) + (k : Int))) = (ms.take (3 + k)).map V.int := by
    rw [show (3 : Int) + (k : Int) = ((3 + k : Nat) : Int) by omega]
    unfold cutV
    rw [HT.sIx_nat, HT.sIx_none, List.drop_zero, Nat.sub_zero, List.map_take]
    rcases Nat.le_total (3 + k) (ms.map V.int).length with z | z
    · rw [Nat.min_eq_left z]
    · rw [Nat.min_eq_right z, List.take_length, List.take_of_length_le z]
  rw [hc2]
  refine NrL.sort (m := 101) (ns := ms.take (3 + k)) (hb2.ext (same_upd hp2)) (new_ne hb2 hp2) upd_same (by rw [List.length_take]; omega) fun p' vs ds H' s' b' np e' r' hl' => ?_
  exact q _ _ H' ((s2.trans (.of (same_upd hp2))).trans s') (b'.mono (by omega)) (.lst e' np r' (by unfold BL; omega)) (szD_lst (by omega))
end
end K44
set_option Elab.async false
set_option linter.all false
set_option maxRecDepth 100000
set_option maxHeartbeats 4000000
namespace K44
open PySem PySem.Spec PyProof.Rows L2 MT
open SX (S)
local macro_rules | `(tactic| walk_at "mt") => `(tactic| simp only [L2.start, List.map_cons, List.map_nil, List.length_cons, List.length_nil, List.replicate_succ, List.replicate_zero, Nat.reduceSub, Nat.reduceAdd, Nat.sub_self, Nat.zero_add, List.cons_append, List.nil_append, List.append_nil, List.getElem?_cons_zero, List.getElem?_cons_succ, List.set_cons_zero, List.set_cons_succ, Option.some.injEq, exists_eq_left', exists_eq_left, exists_eq_right, V.bl.injEq, V.int.injEq, V.str.injEq, V.ref.injEq, reduceCtorEq, false_and, and_false, true_and, and_true, false_or, or_false, exists_false, exists_const, ↓reduceIte, Bool.false_eq_true, decide_eq_true_eq, Bool.and_eq_true, Bool.not_true, Bool.not_false, List.cons.injEq, exists_and_left, exists_and_right,
  tRet, rInM, rNeI, rSortM, rIndexM, rRepM, rSetDM, rListDM, rPopAtM, tLstRg, tRg1, tDIn, tBM, tBM0, tAndV, tOrV, tNotV, tAnd, tOr, tNot, tB, tTest, tIf, tIfS, tC, tVar, tOp, tUn, tChain, rI0, rI, rU, tFn, tCons, tNil, tCB, tTup, tLst, tAsg, gName, tNext, tDrop, tRetN, tPar, tPar3, tAug, tReplC, tRevS, rLenM2, rIsBM, tDNotIn, tDGet, rSumM, rMaxM, rMinM, gSub, rSetL, tRaiseO, tFnW, tXf, gTup, gUnl, gCons, gNil, rPopM, rAppendM, rExtendM, rTupM, rListM, ipI, tIs, tIss, rLenM, rIxM, rAddM, rEqM, rNeM, rSignIn, rInt, rAbs, rStrI, tSl, tPart, tNoPart, rSlM, tIsN, tNotN, List.any_cons, List.any_nil, Bool.or_false, tSeq, isa, D.ty, decide_true, decide_false, Bool.true_or, Bool.or_true, Bool.false_or, Bool.and_true, Bool.true_and, Bool.false_and, Bool.and_false, eq_self_iff_true, not_true_eq_false, not_false_eq_true, bne_self_eq_false])
section
variable {b p : Addr} {H H' H0 : Hp} {σ : L2.St} {n m i j : Nat} {te tf t : TE} {K : PySem.W.Frag}
theorem d2_pairs (hb : ∃ xs, H b = some (.lst xs)) (hp : ∃ xs, H p = some (.lst xs)) : ∀ {ws : List V} {ts : List (Int × Int)}, PairsAt H ws ts → RepL (D2 b p H) ws (ts.map pairDD)
  | [], [], _ => RepL.nil
  | [], _ :: _, h => by cases h.1
  | _ :: _, [], h => by cases h.1
  | w :: ws, q :: ts, h => by
    obtain ⟨t, rfl, et⟩ := h.2 0 w q rfl rfl
    obtain ⟨xs, eb⟩ := hb
    obtain ⟨ys, ep⟩ := hp
    have ntb : t ≠ b := fun z => by rw [z, eb] at et; cases et
    have ntp : t ≠ p := fun z => by rw [z, ep] at et; cases et
    exact RepL.cons (Rep.tup (by rw [D2_ne ntb ntp]; exact et) (RepL.cons (Rep.int _) (RepL.cons (Rep.int _) RepL.nil)) (by show 2 ≤ BL; unfold BL; decide)) (d2_pairs ⟨xs, eb⟩ ⟨ys, ep⟩ ⟨by have := h.1; simpa using this, fun i v q h1 h2 => h.2 (i + 1) v q (by simpa using h1) (by simpa using h2)⟩)
theorem Sm2.of2 (s : SmD p H H') : Sm2 b p H H' := fun x o _ n e => s x o n e
/-- [te for x in a new list] -/
theorem NrL.lcS {xs : List V} (ht : ∀ H (Q : VK), SmD b H0 H → (∀ p, H p = none → Q (.ref p) (upd H p (.lst xs))) → t σ H Q) (hz : xs.length ≤ 1000) (hm : xs.length ≤ m)
    (he : ∀ x ∈ xs, ∀ F1 H1 (K' : VK), Same F1 H1 → (∀ y F2 H2, Grow F1 H1 F2 H2 → (∃ d, Rep F2 y d) → K' y H2) → te (σ.set j (some x)) H1 K') :
    NrL b H0 0 m (tLc (iSq K t) (gName j) tYes te [j]) σ := fun H c Q s hb hc q => by
  refine ht H _ s fun p hp => ⟨p, rfl, .inl ⟨xs, .of upd_same, ?_⟩⟩
  have np := new_ne hb hp
  have z := NrL.lc (b := b) (H0 := upd H p (.lst xs)) (σ := σ) (m := m) (j := j) (te := te) (wi := fun _ H R => R (Itl K p) H) (xs := xs) (fun H2 s2 => ⟨Itl K p, _, fun R r => r, walk_fnL (K := K), fun H' s' => .of (s' _ _ (s2 _ _ np upd_same))⟩) hz hm (fun x hx F1 H1 K' _ f _ kk => he x hx F1 H1 K' f kk)
  exact z _ c Q .refl (hb.ext (same_upd hp)) hc fun p2 vs ds H2 s2 b2 np2 e2 r2 hl2 => q p2 vs ds H2 ((SmD.of (same_upd hp)).trans s2) b2 np2 e2 r2 hl2
end
abbrev tNearL1 (K : PySem.W.Frag) : TA := (tCons (tVar 2) (tCons (tCB rTupM (tCons (tVar 2) tNil)) (tCons (tRevL K (tVar 2)) (tCons (tSl rSlM (tVar 2) (tPart (tC (.int 1))) tNoPart) (tCons (tOp rAddM (tVar 2) (tSl rSlM (tVar 2) tNoPart (tPart (tC (.int 1))))) (tCons (tLc (iSq K (tVar 2)) (gName 7) tYes (tCB rListM (tCons (tVar 7) tNil)) [7]) (tCons (tC .non) (tCons (tC (.int 7)) (tCons (tC (.str (S [116, 114, 101, 101]))) (tCons tDNewK (tCons (tLst (tCons (tC .non) tNil)) (tCons (tLst (tCons (tTup tNil) tNil)) tNil))))))))))))
abbrev tNearL3 (K : PySem.W.Frag) : TA := (tCons (tVar 3) (tCons (tCB rTupM (tCons (tVar 3) tNil)) (tCons (tRevL K (tVar 3)) (tCons (tSl rSlM (tVar 3) (tPart (tC (.int 1))) tNoPart) (tCons (tCB rSortM (tCons (tOp rAddM (tVar 3) (tLst (tCons (tFn spTake (tCons (tVar 0) (tCons (tCB rMaxM (tCons (tC (.int 1)) (tCons (tVar 4) tNil))) tNil))) tNil))) tNil)) (tCons (tVar 5) (tCons (tSl rSlM (tVar 5) tNoPart (tPart (tC (.int 3)))) (tCons (tSl rSlM (tVar 5) (tPart (tC (.int 1))) tNoPart) (tCons (tLc (iSq K (tVar 3)) (gName 9) tYes (tCB rStrI (tCons (tVar 9) tNil)) [9]) (tCons (tOp rRepM (tLst (tCons (tC (.bl true)) tNil)) (tC (.int 3))) tNil))))))))))
abbrev tNearL4 (K : PySem.W.Frag) : TA := (tCons (tCB rSortM (tCons (tSl rSlM (tFn spMixed (tCons (tVar 0) (tCons (tVar 5) tNil))) tNoPart (tPart (tOp rAddM (tC (.int 3)) (tFn spTake (tCons (tVar 0) (tCons (tC (.int 3)) tNil)))))) tNil)) (tCons (tLc (iSq K (tSl rSlM (tVar 5) tNoPart (tPart (tUn (rU fun i => .int (-i)) (tC (.int 1)))))) (gName 10) tYes (tTup (tCons (tVar 10) (tCons (tOp rAddM (tVar 10) (tC (.int 1))) tNil))) [10]) (tCons (tLc (iSq K (tSl rSlM (tVar 5) (tPart (tC (.int 1))) tNoPart)) (gName 10) tYes (tTup (tCons (tVar 10) (tCons (tC (.int 0)) tNil))) [10]) tNil)))
section
variable {b p lk lf ev : Addr} {H H' H0 : Hp} {σ : L2.St} {n m i j many : Nat} {te tf t : TE} {K : PySem.W.Frag} {ws : List V} {ts : List (Int × Int)} {ls es : List Int}
theorem near_l1 (h2 : σ[2]? = some (some (.ref lk))) (n2 : lk ≠ b) (e2 : H0 lk = some (.lst ws)) (hp : PairsAt H0 ws ts) (hl : ts.length ≤ 12) (hb0 : ∃ xs, H0 b = some (.lst xs)) (h7 : 7 < σ.length) : Nrs b H0 0 12 (tNearL1 K) σ := by
  have r := DatsB.pairs hb0 hp
  have hw : ws.length = ts.length := hp.1
  have v2 : NrL b H0 0 12 (tVar 2) σ := NrL.var h2 n2 e2 r (by rw [List.length_map]; exact hl)
  have lc : NrL b H0 0 12 (tLc (iSq K (tVar 2)) (gName 7) tYes (tCB rListM (tCons (tVar 7) tNil)) [7]) σ := NrL.lc (xs := ws) (fun H s => srcSq (src_var h2) (by rw [s _ _ n2 e2]; rfl) (big1 (by omega))) (by omega) (by omega) fun x hx F1 H1 K' s f fd kk => by
    obtain ⟨k, hk⟩ := List.mem_iff_getElem?.mp hx
    obtain ⟨d, hd, rv⟩ := RepL.get r hk
    refine el_list h7 rv ?_ s f fd kk
    obtain ⟨q, _, rfl⟩ := List.mem_map.mp (List.mem_of_getElem? hd)
    intro z; cases z
  have z := Nrs.cons (v2.nr (by decide)) (Nrs.cons (Nr.tupOf h2 n2 e2 r (by rw [List.length_map]; omega)) (Nrs.cons ((NrL.rev (K := K) v2).nr (by decide)) (Nrs.cons (v2.drop1.nr (by decide)) (Nrs.cons ((NrL.add v2 (NrL.take v2 (k := 1) part_int) (by decide)).nr (by decide)) (Nrs.cons (lc.nr (by decide)) (Nrs.cons Nr.c_non (Nrs.cons (Nr.c_int (k := 7)) (Nrs.cons (Nr.c_str (l := [116, 114, 101, 101]) (by unfold BL; decide)) (Nrs.cons Nr.dct
    (Nrs.cons ((NrL.disp (m := 1) (Nrs.cons Nr.c_non Nrs.nil) (by decide) (by decide)).nr (by decide)) (Nrs.cons ((NrL.disp (m := 1) (Nrs.cons (Nr.disp Nrs.nil (by decide)) Nrs.nil) (by decide) (by decide)).nr (by decide)) Nrs.nil)))))))))))
  exact z
theorem near_l3 (h0 : σ[0]? = some (some (.ref b))) (h3 : σ[3]? = some (some (.ref lf))) (h4 : σ[4]? = some (some (.int (many : Int)))) (h5 : σ[5]? = some (some (.ref ev))) (n3 : lf ≠ b) (n5 : ev ≠ b) (e3 : H0 lf = some (.lst (ls.map V.int))) (e5 : H0 ev = some (.lst (es.map V.int)))
    (hl : ls.length ≤ 12) (he : es.length ≤ 12) (hm : many ≤ 1000) (hr : ∀ x ∈ ls, 0 ≤ x ∧ x < 20) (h9 : 9 < σ.length) : Nrs b H0 1 10 (tNearL3 K) σ := by
  have v3 : NrL b H0 0 12 (tVar 3) σ := NrL.var h3 n3 e3 (DatsB.ints ls) (by rw [List.length_map]; exact hl)
  have v5 : NrL b H0 0 12 (tVar 5) σ := NrL.var h5 n5 e5 (DatsB.ints es) (by rw [List.length_map]; exact he)
  have lc : NrL b H0 0 12 (tLc (iSq K (tVar 3)) (gName 9) tYes (tCB rStrI (tCons (tVar 9) tNil)) [9]) σ := NrL.lc (xs := ls.map V.int) (fun H s => srcSq (src_var h3) (by rw [s _ _ n3 e3]; rfl) (big1 (by rw [List.length_map]; omega))) (by rw [List.length_map]; omega) (by rw [List.length_map]; omega) fun x hx F1 H1 K' s f fd kk => by
    obtain ⟨k, hk, rfl⟩ := List.mem_map.mp hx
    exact el_str h9 (hr k hk).1 (hr k hk).2 f kk
  have z := Nrs.cons (v3.nr (by decide)) (Nrs.cons (Nr.tupOf h3 n3 e3 (DatsB.ints ls) (by rw [List.length_map]; omega)) (Nrs.cons ((NrL.rev (K := K) v3).nr (by decide)) (Nrs.cons (v3.drop1.nr (by decide)) (Nrs.cons (nr_sortadd h0 h3 h4 n3 e3 (by omega) hm) (Nrs.cons (v5.nr (by decide)) (Nrs.cons ((NrL.take v5 (k := 3) part_int).nr (by decide)) (Nrs.cons (v5.drop1.nr (by decide)) (Nrs.cons (lc.nr (by decide)) (Nrs.cons nr_rep3 Nrs.nil)))))))))
  exact z
theorem near_l4 (h0 : σ[0]? = some (some (.ref b))) (h5 : σ[5]? = some (some (.ref ev))) (n5 : ev ≠ b) (e5 : H0 ev = some (.lst (es.map V.int))) (he : es.length ≤ 12) (h10 : 10 < σ.length) : Nrs b H0 101 3 (tNearL4 K) σ := by
  have lc1 : NrL b H0 0 12 (tLc (iSq K (tSl rSlM (tVar 5) tNoPart (tPart (tUn (rU fun i => .int (-i)) (tC (.int 1)))))) (gName 10) tYes (tTup (tCons (tVar 10) (tCons (tOp rAddM (tVar 10) (tC (.int 1))) tNil))) [10]) σ := by
    have hlen : (cutV' es none (some (-1))).length ≤ 12 := by unfold cutV'; rw [List.length_take, List.length_drop]; omega
    refine NrL.lcS (xs := (cutV' es none (some (-1))).map V.int) (fun H Q s q => ?_) (by rw [List.length_map]; omega) (by rw [List.length_map]; omega) fun x hx F1 H1 K' f kk => ?_
    · refine ⟨_, h5, ⟨1, rfl, -1, rfl, ?_⟩⟩
      show rSlM (.ref ev) none (some (-1)) H Q
      unfold rSlM
      dsimp only
      rw [s _ _ n5 e5]
      dsimp only
      intro p hp
      have ec : cutV (es.map V.int) none (some (-1)) = (cutV' es none (some (-1))).map V.int := by unfold cutV cutV'; rw [List.length_map, List.map_take, List.map_drop]
      rw [ec]
      exact q p hp
    · obtain ⟨k, hk, rfl⟩ := List.mem_map.mp hx
      exact el_pair h10 (y := k + 1) (fun Q q => ⟨_, List.getElem?_set_self h10, q⟩) f kk
  have lc2 : NrL b H0 0 12 (tLc (iSq K (tSl rSlM (tVar 5) (tPart (tC (.int 1))) tNoPart)) (gName 10) tYes (tTup (tCons (tVar 10) (tCons (tC (.int 0)) tNil))) [10]) σ := by
    refine NrL.lcS (xs := (es.drop 1).map V.int) (fun H Q s q => sl_from1 (src_var h5) (s _ _ n5 e5) fun p hp => by rw [← List.map_drop]; exact q p hp) (by rw [List.length_map, List.length_drop]; omega) (by rw [List.length_map, List.length_drop]; omega) fun x hx F1 H1 K' f kk => ?_
    obtain ⟨k, hk, rfl⟩ := List.mem_map.mp hx
    exact el_pair h10 (y := 0) (fun Q q => q) f kk
  have z := Nrs.cons (nr_sortmix h0 h5 n5 e5 (by omega)) (Nrs.cons (lc1.nr (by decide)) (Nrs.cons (lc2.nr (by decide)) Nrs.nil))
  exact z
end
end K44
set_option Elab.async false
set_option linter.all false
set_option maxRecDepth 100000
set_option maxHeartbeats 4000000
namespace K44
open PySem PySem.Spec PyProof.Rows L2 MT
open SX (S)
local macro_rules | `(tactic| walk_at "mt") => `(tactic| simp only [L2.start, List.map_cons, List.map_nil, List.length_cons, List.length_nil, List.replicate_succ, List.replicate_zero, Nat.reduceSub, Nat.reduceAdd, Nat.sub_self, Nat.zero_add, List.cons_append, List.nil_append, List.append_nil, List.getElem?_cons_zero, List.getElem?_cons_succ, List.set_cons_zero, List.set_cons_succ, Option.some.injEq, exists_eq_left', exists_eq_left, exists_eq_right, V.bl.injEq, V.int.injEq, V.str.injEq, V.ref.injEq, reduceCtorEq, false_and, and_false, true_and, and_true, false_or, or_false, exists_false, exists_const, ↓reduceIte, Bool.false_eq_true, decide_eq_true_eq, Bool.and_eq_true, Bool.not_true, Bool.not_false, List.cons.injEq, exists_and_left, exists_and_right,
  tRet, rInM, rNeI, rSortM, rIndexM, rRepM, rSetDM, rListDM, rPopAtM, tLstRg, tRg1, tDIn, tBM, tBM0, tAndV, tOrV, tNotV, tAnd, tOr, tNot, tB, tTest, tIf, tIfS, tC, tVar, tOp, tUn, tChain, rI0, rI, rU, tFn, tCons, tNil, tCB, tTup, tLst, tAsg, gName, tNext, tDrop, tRetN, tPar, tPar3, tAug, tReplC, tRevS, rLenM2, rIsBM, tDNotIn, tDGet, rSumM, rMaxM, rMinM, gSub, rSetL, tRaiseO, tFnW, tXf, gTup, gUnl, gCons, gNil, rPopM, rAppendM, rExtendM, rTupM, rListM, ipI, tIs, tIss, rLenM, rIxM, rAddM, rEqM, rNeM, rSignIn, rInt, rAbs, rStrI, tSl, tPart, tNoPart, rSlM, tIsN, tNotN, List.any_cons, List.any_nil, Bool.or_false, tSeq, isa, D.ty, decide_true, decide_false, Bool.true_or, Bool.or_true, Bool.false_or, Bool.and_true, Bool.true_and, Bool.false_and, Bool.and_false, eq_self_iff_true, not_true_eq_false, not_false_eq_true, bne_self_eq_false])
abbrev tNearBody (K : PySem.W.Frag) : TS := (tDrop (tBM K "list" rAppendM (tVar 6) (tCons (tOp rAddM (tOp rAddM (tSl rSlM (tVar 2) tNoPart (tPart (tVar 8))) (tLst (tCons (tVar 7) tNil))) (tSl rSlM (tVar 2) (tPart (tOp rAddM (tVar 8) (tC (.int 1)))) tNoPart)) tNil)))
theorem near_loop {K : PySem.W.Frag} {H : Hp} {b a lk lf ev p : Addr} {x7 x9 x10 : Option V} {many i c : Nat} {ws vs : List V} {ts : List (Int × Int)} {ds : List D} {D : Ends} (e : H lk = some (.lst ws)) (hp : PairsAt H ws ts) (hl : ts.length ≤ 12) (hi : i < max 1 ws.length) (hm : ws ≠ [] → 1 ≤ many ∧ many ≤ 1000) (hb : Bx H b c) (hc : c ≤ 400000000)
    (hbl : ∃ xs, H b = some (.lst xs)) (npb : p ≠ b) (nlp : lk ≠ p) (nlb : lk ≠ b) (ep : H p = some (.lst vs)) (r : RepL (D2 b p H) vs ds) (hz : ∀ d ∈ ds, szD d) (hd : ds.length ≤ 12)
    (q : ∀ x7 H' vs' ds', Sm2 b p H H' → Bx H' b (c + 1) → H' p = some (.lst vs') → RepL (D2 b p H') vs' ds' → (∀ d ∈ ds', szD d) → ds'.length ≤ 16 → D.nx [some (.ref b), some (.ref a), some (.ref lk), some (.ref lf), some (.int (many : Int)), some (.ref ev), some (.ref p), x7, some (.int (i : Int)), x9, x10] H') :
    tFor (iSq K tNearSrc) (gName 7) (tNearBody K) D [some (.ref b), some (.ref a), some (.ref lk), some (.ref lf), some (.int (many : Int)), some (.ref ev), some (.ref p), x7, some (.int (i : Int)), x9, x10] H := by
  have hw : ws.length = ts.length := hp.1
  have rw0 : RepL (D2 b p H) ws (ts.map pairDD) := d2_pairs hbl ⟨_, ep⟩ hp
  refine near_src e hp hi hm hb hc npb nlb (by rw [ep]; exact fun z => by cases z) (fun rr H1 xs xds s1 hb1 hrr er rx hxl hn => ⟨rr, rfl, .inl ⟨xs, .of er, ?_⟩⟩)
  have nrp : rr ≠ p := fun z => by rw [z, ep] at hrr; cases hrr
  have z := for_vD (C := p) (wi := fun _ H R => R (Itl K rr) H) (xs := xs) (j := 7) (tb := tNearBody K) (D := D) (σ := [some (.ref b), some (.ref a), some (.ref lk), some (.ref lf), some (.int (many : Int)), some (.ref ev), some (.ref p), x7, some (.int (i : Int)), x9, x10]) (H := H1)
    ⟨Itl K rr, _, fun R r => r, walk_fnL (K := K), fun H' s' => .of (s' _ _ nrp er)⟩
    (fun k σ' H' => ∃ x7 vs' ds', σ' = [some (.ref b), some (.ref a), some (.ref lk), some (.ref lf), some (.int (many : Int)), some (.ref ev), some (.ref p), x7, some (.int (i : Int)), x9, x10] ∧ SmD p H1 H' ∧ H' p = some (.lst vs') ∧ RepL (D2 b p H') vs' ds' ∧ (∀ d ∈ ds', szD d) ∧ ds'.length = ds.length + k)
    ⟨_, vs, ds, rfl, .refl, s1 _ _ npb ep, RepL.mono (D2_same (.of s1)) r, hz, rfl⟩ (fun k σ' H' ⟨_, _, _, _, s, _⟩ => s) (fun k σ' H' hk ⟨x7, vs', ds', es, s, ep', r', hz', hd'⟩ => ?_) fun σ' H' ⟨x7, vs', ds', es, s, ep', r', hz', hd'⟩ => ?_
  · exact z
  · subst es
    dsimp only [List.set_cons_zero, List.set_cons_succ]
    have e1 : H' lk = some (.lst ws) := s _ _ nlp (s1 _ _ nlb e)
    have hne : ws ≠ [] := fun z => by rw [hn z] at hk; cases hk
    have hpos : 0 < ws.length := List.length_pos_iff.mpr hne
    have lr := r'.length
    obtain ⟨dx, hdx, rvx⟩ := RepL.get rx (List.getElem?_eq_getElem hk)
    have hg : xs.getD k .non = xs[k] := by rw [List.getD_eq_getElem?_getD, List.getElem?_eq_getElem hk]; rfl
    rw [hg]
    have hbH : Bx H' b (c + 1) := hb1.same (by
      obtain ⟨n, g, m, k, eb, _⟩ := hb1
      rw [eb, s _ _ (Ne.symm npb) eb])
    refine ⟨_, rfl, tyL ep', near_turn rfl rfl rfl e1 (by omega) (by omega) fun r2 H2 s2 hr2 er2 => ⟨vs', s2 _ _ ep', big1 (by omega), ?_⟩⟩
    have nr2p : r2 ≠ p := fun z => by rw [z, ep'] at hr2; cases hr2
    have nr2b : r2 ≠ b := new_ne hbH hr2
    have sAll : Sm2 b p H' (upd H2 p (.lst (vs' ++ [.ref r2]))) := Sm2.trans (.of (.of s2)) .upd
    have items : RepL (D2 b p (upd H2 p (.lst (vs' ++ [.ref r2])))) (ws.take i ++ [xs[k]] ++ ws.drop (i + 1)) ((ts.map pairDD).take i ++ [dx] ++ (ts.map pairDD).drop (i + 1)) := by
      have w1 := RepL.mono (D2_same (((Sm2.of s1).trans (.of2 s)).trans sAll)) rw0
      have x1 := Rep.mono (D2_same ((Sm2.of2 s).trans sAll)) rvx
      exact RepL.append (RepL.append (RepL.take i w1) (RepL.cons x1 RepL.nil)) (RepL.drop (i + 1) w1)
    have hlen : ((ts.map pairDD).take i ++ [dx] ++ (ts.map pairDD).drop (i + 1)).length ≤ 100 := by
      rw [List.length_append, List.length_append, List.length_take, List.length_drop, List.length_map, List.length_singleton]; omega
    refine ⟨_, vs' ++ [.ref r2], ds' ++ [.lst ((ts.map pairDD).take i ++ [dx] ++ (ts.map pairDD).drop (i + 1))], rfl, ?_, upd_same, ?_, ?_, ?_⟩
    · exact (s.trans (.of s2)).trans .upd
    · exact RepL.append (RepL.mono (D2_same sAll) r') (RepL.cons (Rep.lst (by rw [D2_ne nr2b nr2p, upd_ne nr2p]; exact er2) items (by unfold BL; omega)) RepL.nil)
    · intro d hd
      rcases List.mem_append.mp hd with h | h
      · exact hz' d h
      · rw [List.mem_singleton.mp h]; exact szD_lst (by omega)
    · rw [List.length_append, hd', List.length_singleton, Nat.add_assoc]
  · subst es
    refine q x7 H' vs' ds' ((Sm2.of s1).trans (.of2 s)) ?_ ep' r' hz' (by omega)
    exact hb1.same (by
      obtain ⟨n, g, m, k, eb, _⟩ := hb1
      rw [eb, s _ _ (Ne.symm npb) eb])
theorem add_rows {b p : Addr} {H0 : Hp} {σ : L2.St} {vs : List V} {ds : List D} {ta : TA} {n k m : Nat} (h6 : σ[6]? = some (some (.ref p))) (np : p ≠ b) (e : H0 p = some (.lst vs)) (r : DatsB b H0 vs ds) (hz : ∀ d ∈ ds, szD d) (hd : ds.length ≤ m) (h : Nrs b H0 n k ta σ) (hm : m + k ≤ 1000) (H : Hp) (c : Nat) (Q : VK) (s : SmD b H0 H) (hb : Bx H b c) (hc : c + n ≤ 400000000)
    (q : ∀ p' vs' ds' H', SmD b H H' → Bx H' b (c + n) → p' ≠ b → H' p' = some (.lst vs') → DatsB b H' vs' ds' → (∀ d ∈ ds', szD d) → ds'.length ≤ m + k → Q (.ref p') H') : tOp rAddM (tVar 6) (tLst ta) σ H Q := by
  unfold tOp
  refine ⟨_, h6, h H c _ s hb hc fun ws es H' s2 hb2 r2 z2 hk => ⟨Nat.le_of_lt (big1 (by have := r2.length; omega)), fun p1 hp1 => ?_⟩⟩
  have e2 : (upd H' p1 (.lst ws)) p = some (.lst vs) := same_upd hp1 _ _ (s2 _ _ np (s _ _ np e))
  have s3 := same_upd (o := .lst ws) hp1
  have e3 : (upd H' p1 (.lst ws)) p1 = some (.lst ws) := upd_same
  have hb3 := hb2.ext s3
  generalize upd H' p1 (.lst ws) = H1 at e2 s3 e3 hb3 ⊢
  show rAddM (.ref p) (.ref p1) H1 Q
  unfold rAddM
  dsimp only
  rw [e2, e3]
  dsimp only
  have l1 := r.length
  have l2 := r2.length
  refine ⟨Nat.le_of_lt (big1 (by omega)), fun p2 hp2 => ?_⟩
  have s4 := same_upd (o := .lst (vs ++ ws)) hp2
  refine q p2 _ (ds ++ es) _ (s2.trans (.of (s3.trans s4))) (hb3.ext s4) (new_ne hb3 hp2) upd_same (DatsB.append (((r.mono s).mono s2).mono (.of (s3.trans s4))) (r2.mono (.of (s3.trans s4)))) (fun d hd => ?_) (by rw [List.length_append]; omega)
  rcases List.mem_append.mp hd with h | h
  · exact hz d h
  · exact z2 d h
def spNear : Sp := fun vs H Q _ => ∃ b a lk lf, ∃ (A : List (List Int)) (ws : List V) (ts : List (Int × Int)) (ls : List Int) (c : Nat), vs = [.ref b, .ref a, .ref lk, .ref lf] ∧ Ats H a A ∧ A.length ≤ 12 ∧ H lk = some (.lst ws) ∧ PairsAt H ws ts ∧ ts.length ≤ 12 ∧ (ws ≠ [] → 1 ≤ A.length) ∧ lk ≠ b ∧ lf ≠ b ∧ H lf = some (.lst (ls.map V.int)) ∧ ls.length ≤ 12 ∧ (∀ x ∈ ls, 0 ≤ x ∧ x < 20) ∧ Bx H b c ∧ c ≤ 300000000 ∧
  ∀ r H', SmD b H H' → Bx H' b (c + 110) → NearAt b H' r → r ≠ b → Q (.ref r) H'
theorem pr_law_near {K : PySem.W.Frag} (vs : List V) (H : Hp) (Q : VK) (E : XK) (h : spNear vs H Q E) : t_law_near K spTake spMixed (E0N Q) (L2.start ["box", "atoms", "links", "left", "many", "every", "found", "pair", "at", "one", "k"] vs) H := by
  obtain ⟨b, a, lk, lf, A, ws, ts, ls, c, rfl, hA, hAl, elk, hps, htl, hne, nlk, nlf, elf, hll, hlr, hb, hc, q⟩ := h
  have hw : ws.length = ts.length := hps.1
  unfold t_law_near
  generalize h1 : (tLst (tCons (tVar 2) _) : TE) = L1
  generalize h2 : (tFor _ _ _ : TS) = L2
  generalize h3 : (tOp rAddM (tVar 6) (tLst (tCons (tVar 3) _)) : TE) = L3
  generalize h4 : (tOp rAddM (tVar 6) (tLst (tCons (tCB rSortM _) _)) : TE) = L4
  walk_at "mt"
  obtain ⟨us, hus, hul, _⟩ := hA.ex
  have hbl : ∃ xs, H b = some (.lst xs) := by obtain ⟨n, g, m, k, eb, _⟩ := hb; exact ⟨_, eb⟩
  refine ⟨us, hus, us, hus, RgOk.of_le (by omega) (by omega) (by omega) (by omega), fun ev hev => ⟨_, _, ⟨rfl, rfl⟩, ?_⟩⟩
  rw [hul, rgV_rng]
  have hrl : (rng A.length).length = A.length := by unfold rng; rw [List.length_map, List.length_range]
  have neb := new_ne hb hev
  have eev : (upd H ev (.lst ((rng A.length).map V.int))) ev = some (.lst ((rng A.length).map V.int)) := upd_same
  have s1 := same_upd (o := .lst ((rng A.length).map V.int)) hev
  have hb1 := hb.ext s1
  generalize upd H ev (.lst ((rng A.length).map V.int)) = H1 at eev s1 hb1 ⊢
  subst h1
  refine near_l1 (K := K) (b := b) (H0 := H1) (lk := lk) (ws := ws) (ts := ts) rfl nlk (s1 _ _ elk) (hps.mono s1) htl (by obtain ⟨xs, z⟩ := hbl; exact ⟨xs, s1 _ _ z⟩) (by simp) H1 c _ .refl hb1 (by omega) fun vs ds H2 s2 hb2 r2 z2 hk2 => ⟨Nat.le_of_lt (big1 (by have := r2.length; omega)), fun p hp => ?_⟩
  have npb := new_ne hb2 hp
  have s3 := same_upd (o := .lst vs) hp
  have ep : (upd H2 p (.lst vs)) p = some (.lst vs) := upd_same
  have hb3 := hb2.ext s3
  have rp : RepL (D2 b p (upd H2 p (.lst vs))) vs ds := RepL.mono (fun x o e => by
    have nx : x ≠ p := fun z => by rw [z, del_ne npb, hp] at e; cases e
    unfold D2
    rw [del_ne nx]
    exact del_smd (.of s3) x o e) r2
  have nlp : lk ≠ p := fun z => by rw [← z, s2 _ _ nlk (s1 _ _ elk)] at hp; cases hp
  have nfp : lf ≠ p := fun z => by rw [← z, s2 _ _ nlf (s1 _ _ elf)] at hp; cases hp
  have nep : ev ≠ p := fun z => by rw [← z, s2 _ _ neb eev] at hp; cases hp
  have s13 : SmD b H (upd H2 p (.lst vs)) := (SmD.of s1).trans (s2.trans (.of s3))
  have eev3 : (upd H2 p (.lst vs)) ev = some (.lst ((rng A.length).map V.int)) := s3 _ _ (s2 _ _ neb eev)
  generalize upd H2 p (.lst vs) = H3 at s3 ep hb3 rp s13 eev3 ⊢
  have elk3 := s13 _ _ nlk elk
  refine ⟨ws, by rw [elk3]; rfl, b, max 1 ws.length, c, show [V.ref b, V.int (max 1 (ws.length : Int))] = [V.ref b, V.int ((max 1 ws.length : Nat) : Int)] by congr 3; omega, by omega, by omega, hb3, by omega, fun i o hi hb4 => ?_⟩
  have s14 : SmD b H (upd H3 b o) := s13.trans .upd
  have elk4 : (upd H3 b o) lk = some (.lst ws) := s14 _ _ nlk elk
  have ep4 : (upd H3 b o) p = some (.lst vs) := by rw [upd_ne npb]; exact ep
  have eev4 : (upd H3 b o) ev = some (.lst ((rng A.length).map V.int)) := by rw [upd_ne neb]; exact eev3
  have rp4 : RepL (D2 b p (upd H3 b o)) vs ds := RepL.mono (D2_same (.of .upd)) rp
  have hbl4 : ∃ xs, (upd H3 b o) b = some (.lst xs) := by obtain ⟨n, g, m, k, eb, _⟩ := hb4; exact ⟨_, eb⟩
  have hps4 : PairsAt (upd H3 b o) ws ts := by
    obtain ⟨xs, eb⟩ := hbl
    exact hps.monoD eb s14
  generalize upd H3 b o = H4 at s14 elk4 ep4 eev4 rp4 hbl4 hps4 hb4 ⊢
  subst h2
  refine near_loop (c := c + 1) elk4 hps4 htl hi (fun z => ⟨hne z, by omega⟩) hb4 (by omega) hbl4 npb nlp nlk ep4 rp4 z2 (by omega) fun x7 H5 vs' ds' s5 hb5 ep5 rp5 z5 hl5 => ?_
  subst h3 h4
  have elf5 : H5 lf = some (.lst (ls.map V.int)) := s5 _ _ nlf nfp (s14 _ _ nlf elf)
  have eev5 : H5 ev = some (.lst ((rng A.length).map V.int)) := s5 _ _ neb nep eev4
  unfold tSeq tAsg
  refine add_rows (b := b) (p := p) (H0 := H5) (m := 16) (n := 1) (k := 10) rfl npb ep5 (RepL.mono D2_sub rp5) z5 hl5 (near_l3 (K := K) (many := A.length) (ev := ev) (es := rng A.length) rfl rfl rfl rfl nlf neb elf5 eev5 hll (by omega) (by omega) hlr (by simp)) (by decide) H5 (c + 1 + 1) _ .refl hb5 (by omega) fun p3 vs3 ds3 H6 s6 hb6 np3 ep6 r6 z6 hl6 => ?_
  have eev6 : H6 ev = some (.lst ((rng A.length).map V.int)) := s6 _ _ neb eev5
  refine add_rows (b := b) (p := p3) (H0 := H6) (m := 26) (n := 101) (k := 3) rfl np3 ep6 r6 z6 hl6 (near_l4 (K := K) (ev := ev) (es := rng A.length) rfl rfl neb eev6 (by omega) (by simp)) (by decide) H6 _ _ .refl hb6 (by omega) fun p4 vs4 ds4 H7 s7 hb7 np4 ep7 r7 z7 hl7 => ?_
  refine q p4 H7 (fun x o nx ex => ?_) (hb7.mono (by omega)) ⟨vs4, ds4, ep7, r7, z7, by omega⟩ np4
  have nxp : x ≠ p := fun z => by
    have h3 := s13 _ _ nx ex
    rw [z] at ex
    have h4 := s2 _ _ npb (s1 _ _ ex)
    rw [hp] at h4; cases h4
  exact s7 _ _ nx (s6 _ _ nx (s5 _ _ nx nxp (s14 _ _ nx ex)))
end K44
set_option Elab.async false
set_option linter.all false
set_option maxRecDepth 100000
set_option maxHeartbeats 4000000
namespace K44
open PySem PySem.Spec PyProof.Rows L2 MT
open SX (S)
local macro_rules | `(tactic| walk_at "mt") => `(tactic| simp only [L2.start, List.map_cons, List.map_nil, List.length_cons, List.length_nil, List.replicate_succ, List.replicate_zero, Nat.reduceSub, Nat.reduceAdd, Nat.sub_self, Nat.zero_add, List.cons_append, List.nil_append, List.append_nil, List.getElem?_cons_zero, List.getElem?_cons_succ, List.set_cons_zero, List.set_cons_succ, Option.some.injEq, exists_eq_left', exists_eq_left, exists_eq_right, V.bl.injEq, V.int.injEq, V.str.injEq, V.ref.injEq, reduceCtorEq, false_and, and_false, true_and, and_true, false_or, or_false, exists_false, exists_const, ↓reduceIte, Bool.false_eq_true, decide_eq_true_eq, Bool.and_eq_true, Bool.not_true, Bool.not_false, List.cons.injEq, exists_and_left, exists_and_right,
  tRet, rInM, rNeI, rSortM, rIndexM, rRepM, rSetDM, rListDM, rPopAtM, tLstRg, tRg1, tDIn, tBM, tBM0, tAndV, tOrV, tNotV, tAnd, tOr, tNot, tB, tTest, tIf, tIfS, tC, tVar, tOp, tUn, tChain, rI0, rI, rU, tFn, tCons, tNil, tCB, tTup, tLst, tAsg, gName, tNext, tDrop, tRetN, tPar, tPar3, tAug, tReplC, tRevS, rLenM2, rIsBM, tDNotIn, tDGet, rSumM, rMaxM, rMinM, gSub, rSetL, tRaiseO, tFnW, tXf, gTup, gUnl, gCons, gNil, rPopM, rAppendM, rExtendM, rTupM, rListM, ipI, tIs, tIss, rLenM, rIxM, rAddM, rEqM, rNeM, rSignIn, rInt, rAbs, rStrI, tSl, tPart, tNoPart, rSlM, tIsN, tNotN, List.any_cons, List.any_nil, Bool.or_false, tSeq, isa, D.ty, decide_true, decide_false, Bool.true_or, Bool.or_true, Bool.false_or, Bool.and_true, Bool.true_and, Bool.false_and, Bool.and_false, eq_self_iff_true, not_true_eq_false, not_false_eq_true, bne_self_eq_false])
/-! ### law_conjunction_right -/
def givD (m : Int) (ats : List D) (t : Bool) : D := .tup [.int m, if t = true then .tup ats else .lst ats]
theorem conj_giv {d : D} (k : conjD d = true) : ∃ m ats x, d = .tup [.int m, x] ∧ itemsD x = some ats ∧ ats.length ≤ 12 ∧ ∀ t, conjD (givD m ats t) = conjD d ∧ headsOk (givD m ats t) = headsOk d ∧ manyD (givD m ats t) = manyD d ∧ varsD (givD m ats t) = varsD d := by
  obtain ⟨m, x, ds, rfl, e, h0, h12, ha⟩ := conj_at k
  refine ⟨m, ds, x, rfl, e, h12, fun t => ?_⟩
  have e2 : itemsD (if t = true then .tup ds else .lst ds) = some ds := by cases t <;> rfl
  unfold givD conjD headsOk manyD varsD
  dsimp only
  rw [e2, e]
  exact ⟨rfl, rfl, rfl, rfl⟩
theorem datB_conj {b : Addr} {H : Hp} {v : V} {m : Int} {x : D} {ats : List D} (h : DatB b H v (.tup [.int m, x])) (e : itemsD x = some ats) : ∃ p q vs, v = .ref p ∧ H p = some (.tup [.int m, .ref q]) ∧ (H q = some (.lst vs) ∨ H q = some (.tup vs)) ∧ p ≠ b ∧ q ≠ b ∧ DatsB b H vs ats := by
  have nb : ∀ {a : Addr} {o : HO}, MT.del H b a = some o → a ≠ b := fun h z => by rw [z, MT.del_self] at h; cases h
  unfold DatB at h
  cases h with
  | tup h r hl =>
    rename_i p ws
    cases r with
    | cons r1 r2 => cases r2 with
      | cons r2 r3 =>
        cases r3
        cases r1
        cases x with
        | lst ds =>
          cases e
          cases r2 with
          | lst h2 r2 hl2 => exact ⟨p, _, _, rfl, MT.del_sub _ _ h, .inl (MT.del_sub _ _ h2), nb h, nb h2, r2⟩
        | tup ds =>
          cases e
          cases r2 with
          | tup h2 r2 hl2 => exact ⟨p, _, _, rfl, MT.del_sub _ _ h, .inr (MT.del_sub _ _ h2), nb h, nb h2, r2⟩
        | _ => cases e
def vi : V → Int
  | .int i => i
  | _ => 0
theorem perm_ints {ys : List V} {es : List Int} (h : ys.Perm (es.map V.int)) : ∃ ms : List Int, ys = ms.map V.int ∧ ms.Perm es := by
  refine ⟨ys.map vi, ?_, ?_⟩
  · rw [List.map_map]
    have : ∀ l : List V, (∀ y ∈ l, ∃ k, y = V.int k) → l = l.map (V.int ∘ vi) := fun l => by
      induction l with
      | nil => intro _; rfl
      | cons y l ih =>
        intro h
        obtain ⟨k, rfl⟩ := h y List.mem_cons_self
        rw [List.map_cons, ← ih fun z hz => h z (List.mem_cons_of_mem _ hz)]
        rfl
    exact this ys fun y hy => by
      obtain ⟨k, _, rfl⟩ := List.mem_map.mp (h.mem_iff.mp hy)
      exact ⟨k, rfl⟩
  · have z := h.map vi
    rw [List.map_map] at z
    have e : es.map (vi ∘ V.int) = es := by
      have : (vi ∘ V.int) = id := funext fun _ => rfl
      rw [this, List.map_id]
    rw [e] at z
    exact z
structure WayAt (b : Addr) (A : List (List Int)) (H : Hp) (w : Addr) : Prop where
  ex : ∃ p1 p2 t1 l1 t2 l2 ws ts, ∃ ms ms2 : List Int, H w = some (.lst [.ref p1, .ref p2]) ∧ H p1 = some (.tup [.ref t1, .ref l1]) ∧ H p2 = some (.tup [.ref t2, .ref l2]) ∧ H t1 = some (.lst ws) ∧ PairsAt H ws ts ∧ H l1 = some (.lst (ms.map V.int)) ∧ H l2 = some (.lst (ms2.map V.int)) ∧
    t1 ≠ b ∧ l1 ≠ b ∧ ts.length ≤ 12 ∧ (ws ≠ [] → 1 ≤ A.length) ∧ ms.length ≤ 12 ∧ (∀ x ∈ ms, 0 ≤ x ∧ x < 20) ∧ (ms.length ≤ 1 ↔ (struck A []).2.length ≤ 1) ∧ (ms2.length ≤ 1 ↔ (struck A []).2.length ≤ 1)
theorem WayAt.mono {b : Addr} {A : List (List Int)} {H H' : Hp} {w : Addr} (h : WayAt b A H w) (s : Same H H') : WayAt b A H' w := by
  obtain ⟨p1, p2, t1, l1, t2, l2, ws, ts, ms, ms2, e0, e1, e2, e3, e4, e5, e6, r⟩ := h.ex
  exact ⟨p1, p2, t1, l1, t2, l2, ws, ts, ms, ms2, s _ _ e0, s _ _ e1, s _ _ e2, s _ _ e3, e4.mono s, s _ _ e5, s _ _ e6, r⟩
abbrev tWays : TE := (tLst (tCons (tFn spLeftOut (tCons (tVar 4) (tCons (tFn spMixed (tCons (tVar 0) (tCons (tVar 5) tNil))) (tCons (tLst tNil) tNil)))) (tCons (tFn spLeftOut (tCons (tVar 4) (tCons (tVar 5) (tCons (tLst tNil) tNil)))) tNil)))
theorem strike_facts {A : List (List Int)} {o ms : List Int} {ts : List (Int × Int)} (hA : A.length ≤ 12) (ho : o.Perm (rng A.length)) (h1 : ts.Perm (strike A [] o.length o).1) (h2 : ms.Perm (strike A [] o.length o).2) : ts.length ≤ 12 ∧ (ts ≠ [] → 1 ≤ A.length) ∧ ms.length ≤ 12 ∧ (∀ x ∈ ms, 0 ≤ x ∧ x < 20) ∧ (ms.length ≤ 1 ↔ (struck A []).2.length ≤ 1) := by
  have hrl : (rng A.length).length = A.length := by unfold rng; rw [List.length_map, List.length_range]
  have nd : (rng A.length).Nodup := asc_nodup (rng_asc _)
  have ndo : o.Nodup := ho.nodup_iff.mpr nd
  have hol : o.length = A.length := by rw [ho.length_eq, hrl]
  have hp := strike_pairs (A := A) o.length o (Nat.le_refl _) ndo
  have l1 := h1.length_eq
  have l2 := h2.length_eq
  have l3 := hp.2.2.1
  refine ⟨by omega, fun h => ?_, by omega, fun x hx => ?_, ?_⟩
  · have := List.length_pos_iff.mpr h; omega
  · have := (rng_mem (n := A.length)).mp (ho.mem_iff.mp ((strike_sub _ _).subset (h2.mem_iff.mp hx)))
    omega
  · rw [l2]
    have z := order_free (A := A) (kept := []) (o1 := o) (o2 := rng A.length) ndo nd fun i => ho.mem_iff
    rw [hrl] at z
    exact z
end K44
set_option Elab.async false
set_option linter.all false
set_option maxRecDepth 100000
set_option maxHeartbeats 4000000
namespace K44
open PySem PySem.Spec PyProof.Rows L2 MT
open SX (S)
local macro_rules | `(tactic| walk_at "mt") => `(tactic| simp only [L2.start, List.map_cons, List.map_nil, List.length_cons, List.length_nil, List.replicate_succ, List.replicate_zero, Nat.reduceSub, Nat.reduceAdd, Nat.sub_self, Nat.zero_add, List.cons_append, List.nil_append, List.append_nil, List.getElem?_cons_zero, List.getElem?_cons_succ, List.set_cons_zero, List.set_cons_succ, Option.some.injEq, exists_eq_left', exists_eq_left, exists_eq_right, V.bl.injEq, V.int.injEq, V.str.injEq, V.ref.injEq, reduceCtorEq, false_and, and_false, true_and, and_true, false_or, or_false, exists_false, exists_const, ↓reduceIte, Bool.false_eq_true, decide_eq_true_eq, Bool.and_eq_true, Bool.not_true, Bool.not_false, List.cons.injEq, exists_and_left, exists_and_right,
  tRet, rInM, rNeI, rSortM, rIndexM, rRepM, rSetDM, rListDM, rPopAtM, tLstRg, tRg1, tDIn, tBM, tBM0, tAndV, tOrV, tNotV, tAnd, tOr, tNot, tB, tTest, tIf, tIfS, tC, tVar, tOp, tUn, tChain, rI0, rI, rU, tFn, tCons, tNil, tCB, tTup, tLst, tAsg, gName, tNext, tDrop, tRetN, tPar, tPar3, tAug, tReplC, tRevS, rLenM2, rIsBM, tDNotIn, tDGet, rSumM, rMaxM, rMinM, gSub, rSetL, tRaiseO, tFnW, tXf, gTup, gUnl, gCons, gNil, rPopM, rAppendM, rExtendM, rTupM, rListM, ipI, tIs, tIss, rLenM, rIxM, rAddM, rEqM, rNeM, rSignIn, rInt, rAbs, rStrI, tSl, tPart, tNoPart, rSlM, tIsN, tNotN, List.any_cons, List.any_nil, Bool.or_false, tSeq, isa, D.ty, decide_true, decide_false, Bool.true_or, Bool.or_true, Bool.false_or, Bool.and_true, Bool.true_and, Bool.false_and, Bool.and_false, eq_self_iff_true, not_true_eq_false, not_false_eq_true, bne_self_eq_false])
theorem ats_smd {b a : Addr} {H H' : Hp} {A : List (List Int)} {c : Nat} (h : Ats H a A) (n : a ≠ b) (hb : Bx H b c) (s : SmD b H H') : Ats H' a A := by
  obtain ⟨⟨vs, h1, h2, h3⟩, h4, h5⟩ := h
  obtain ⟨n0, g, m, k, eb, _⟩ := hb
  refine ⟨⟨vs, ?_, h2, fun i xs e => ?_⟩, h4, h5⟩
  · cases e : H a with
    | none => rw [e] at h1; cases h1
    | some o => rw [s _ _ n e, ← e]; exact h1
  · obtain ⟨v, e1, t, u, nm, rfl, et, eu⟩ := h3 i xs e
    exact ⟨_, e1, t, u, nm, rfl, s _ _ (fun z => by rw [z, eb] at et; cases et) et, s _ _ (fun z => by rw [z, eb] at eu; cases eu) eu⟩
theorem way_ok {b w p1 p2 t1 l1 t2 l2 : Addr} {A : List (List Int)} {H : Hp} {ws : List V} {ts ts2 : List (Int × Int)} {o ms ms2 : List Int} (hA : A.length ≤ 12) (ho : o.Perm (rng A.length)) (a1 : ts.Perm (strike A [] o.length o).1) (a2 : ms.Perm (strike A [] o.length o).2) (a4 : ms2.Perm (strike A [] (rng A.length).length (rng A.length)).2) (a3 : ts2.Perm (strike A [] (rng A.length).length (rng A.length)).1)
    (e0 : H w = some (.lst [.ref p1, .ref p2])) (e1 : H p1 = some (.tup [.ref t1, .ref l1])) (e2 : H p2 = some (.tup [.ref t2, .ref l2])) (e3 : H t1 = some (.lst ws)) (e4 : PairsAt H ws ts) (e5 : H l1 = some (.lst (ms.map V.int))) (e6 : H l2 = some (.lst (ms2.map V.int))) (n1 : t1 ≠ b) (n2 : l1 ≠ b) : WayAt b A H w := by
  obtain ⟨f1, f2, f3, f4, f5⟩ := strike_facts hA ho a1 a2
  obtain ⟨_, _, _, _, g5⟩ := strike_facts hA (.refl _) a3 a4
  refine ⟨p1, p2, t1, l1, t2, l2, ws, ts, ms, ms2, e0, e1, e2, e3, e4, e5, e6, n1, n2, f1, fun z => f2 fun y => z ?_, f3, f4, f5, g5⟩
  have := e4.1
  rw [y] at this
  exact List.length_eq_zero_iff.mp this
theorem ways_of {b q ev : Addr} {A : List (List Int)} {σ : L2.St} {H : Hp} {Q : VK} {c : Nat} (h0 : σ[0]? = some (some (.ref b))) (h4 : σ[4]? = some (some (.ref q))) (h5 : σ[5]? = some (some (.ref ev))) (hA : Ats H q A) (eev : H ev = some (.lst ((rng A.length).map V.int))) (neb : ev ≠ b) (nqb : q ≠ b) (hb : Bx H b c) (hc : c ≤ 400000000)
    (k : ∀ w H', SmD b H H' → Bx H' b (c + 12) → H w = none → Ats H' q A → WayAt b A H' w → Q (.ref w) H') : tWays σ H Q := by
  have hA12 := hA.sz
  have hrl : (rng A.length).length = A.length := by unfold rng; rw [List.length_map, List.length_range]
  refine ⟨_, h4, _, h0, _, h5, ⟨b, ev, (rng A.length).map V.int, c, rfl, by rw [eev]; rfl, by rw [List.length_map]; omega, hb, by omega, fun r ys H1 hpm s1 hb1 hr er => ⟨Nat.zero_le _, fun k1 hk1 => ?_⟩⟩⟩
  rw [List.length_map, hrl] at hb1
  obtain ⟨o, rfl, ho⟩ := perm_ints hpm
  have hA1 : Ats H1 q A := ats_smd hA nqb hb s1
  have s2 := same_upd (o := .lst []) hk1
  have er2 := s2 _ _ er
  have ek : (upd H1 k1 (.lst [])) k1 = some (.lst []) := upd_same
  have hb2 := hb1.ext s2
  have hA2 := hA1.mono s2
  have eev2 := s2 _ _ (s1 _ _ neb eev)
  have sd : SmD b H (upd H1 k1 (.lst [])) := s1.trans (.of s2)
  generalize upd H1 k1 (.lst []) = H2 at er2 ek hb2 hA2 eev2 sd ⊢
  have hol : o.length = A.length := by rw [ho.length_eq, hrl]
  refine ⟨q, .ref r, .ref k1, A, o, [], rfl, hA2, ⟨r, rfl, by rw [er2]; rfl⟩, fun i hi => inR_rng i (ho.mem_iff.mp hi), by omega, ⟨k1, rfl, by rw [ek]; rfl⟩, fun p1 t1 l1 ws ts ms H3 a1 a2 a3 a4 s3 ht1 hl1 ep1 et1 hps el1 => ?_⟩
  have n1 := new_ne hb2 ht1
  have n2 := new_ne hb2 hl1
  have hb3 := hb2.ext s3
  refine ⟨_, h4, _, h5, ⟨Nat.zero_le _, fun k2 hk2 => ?_⟩⟩
  have s4 := s3.trans (same_upd (o := .lst []) hk2)
  have s4' := same_upd (o := .lst []) hk2
  have ek2 : (upd H3 k2 (.lst [])) k2 = some (.lst []) := upd_same
  refine ⟨q, .ref ev, .ref k2, A, rng A.length, [], rfl, hA2.mono s4, ⟨ev, rfl, by rw [s4 _ _ eev2]; rfl⟩, inR_rng, by omega, ⟨k2, rfl, by rw [ek2]; rfl⟩, fun p2 t2 l2 ws2 ts2 ms2 H4 c1 c2 c3 c4 s5 ht2 hl2 ep2 et2 hps2 el2 => ⟨by show 2 ≤ sizeLine; decide +kernel, fun w hw => ?_⟩⟩
  have s6 := same_upd (o := .lst [.ref p1, .ref p2]) hw
  have s36 := (s4'.trans s5).trans s6
  have hw0 : H w = none := by
    cases h : H w with
    | none => rfl
    | some ob =>
      have := s5 _ _ (s4 _ _ (sd _ _ (new_ne (hb3.ext (s4'.trans s5)) hw) h))
      rw [hw] at this; cases this
  exact k w _ (sd.trans (.of (s3.trans s36))) ((hb3.ext s36).mono (by omega)) hw0 (hA2.mono (s3.trans s36)) (way_ok hA12 ho a1 a3 c3 c1 upd_same (s36 _ _ ep1) (s6 _ _ ep2) (s36 _ _ et1) (hps.mono s36) (s36 _ _ el1) (s6 _ _ el2) n1 n2)

abbrev tGt (i : Int) : TE := (tOp (rI0 fun i j => .bl (decide (j < i))) (tCB rLenM (tCons (tOp rIxM (tOp rIxM (tVar 6) (tC (.int i))) (tC (.int 1))) tNil)) (tC (.int 1)))
theorem way_gt {b w : Addr} {A : List (List Int)} {σ : L2.St} {H : Hp} {Q : VK} (h : WayAt b A H w) (h6 : σ[6]? = some (some (.ref w))) {i : Int} (hi : i = 0 ∨ i = 1) (q : Q (.bl (decide (1 < (struck A []).2.length))) H) : tGt i σ H Q := by
  obtain ⟨p1, p2, t1, l1, t2, l2, ws, ts, ms, ms2, e0, e1, e2, e3, e4, e5, e6, _, _, _, _, _, _, f1, f2⟩ := h.ex
  have key : ∀ n : Nat, (n ≤ 1 ↔ (struck A []).2.length ≤ 1) → decide ((1 : Int) < (n : Int)) = decide (1 < (struck A []).2.length) := fun n hn => decide_eq_decide.mpr (by omega)
  rcases hi with rfl | rfl
  · refine ⟨_, h6, [.ref p1, .ref p2], .ref p1, by rw [e0]; rfl, rfl, [.ref t1, .ref l1], .ref l1, by rw [e1]; rfl, rfl, ms.map V.int, by rw [e5]; rfl, ?_⟩
    refine ⟨_, _, rfl, rfl, ?_⟩
    rw [List.length_map]; dsimp only; rw [key _ f1]; exact q
  · refine ⟨_, h6, [.ref p1, .ref p2], .ref p2, by rw [e0]; rfl, rfl, [.ref t2, .ref l2], .ref l2, by rw [e2]; rfl, rfl, ms2.map V.int, by rw [e6]; rfl, ?_⟩
    refine ⟨_, _, rfl, rfl, ?_⟩
    rw [List.length_map]; dsimp only; rw [key _ f2]; exact q
abbrev tGiven : TE := (tLst (tCons (tTup (tCons (tVar 3) (tCons (tCB rListM (tCons (tVar 4) tNil)) tNil))) (tCons (tTup (tCons (tVar 3) (tCons (tCB rTupM (tCons (tVar 4) tNil)) tNil))) tNil)))
theorem given_of {b q : Addr} {σ : L2.St} {H : Hp} {Q : VK} {m : Int} {vs : List V} {ats : List D} {c : Nat} (h3 : σ[3]? = some (some (.int m))) (h4 : σ[4]? = some (some (.ref q))) (hq : H q = some (.lst vs) ∨ H q = some (.tup vs)) (nqb : q ≠ b) (hb : Bx H b c) (r : DatsB b H vs ats) (hl : ats.length ≤ 12)
    (k : ∀ g g1 g2 H', Same H H' → H g = none → H' g = some (.lst [.ref g1, .ref g2]) → DatB b H' (.ref g1) (givD m ats false) → DatB b H' (.ref g2) (givD m ats true) → Q (.ref g) H') : tGiven σ H Q := by
  have sz2 : 2 ≤ sizeLine := by decide +kernel
  have b2 : 2 ≤ BL := by unfold BL; decide
  have b12 : ats.length ≤ BL := by unfold BL; omega
  refine ⟨_, h3, _, h4, vs, by rcases hq with z | z <;> rw [z] <;> rfl, fun q1 hq1 => ⟨sz2, fun g1 hg1 => ?_⟩⟩
  have s1 := same_upd (o := .lst vs) hq1
  have nq1 := new_ne hb hq1
  have eq1 : (upd H q1 (.lst vs)) q1 = some (.lst vs) := upd_same
  have hb1 := hb.ext s1
  generalize upd H q1 (.lst vs) = H1 at s1 eq1 hb1 hg1 ⊢
  have s2' := same_upd (o := .tup [.int m, .ref q1]) hg1
  have s2 := s1.trans s2'
  have ng1 := new_ne hb1 hg1
  have d1 : DatB b (upd H1 g1 (.tup [.int m, .ref q1])) (.ref g1) (givD m ats false) := .tup upd_same ng1 (.cons (Rep.int m) (.cons (.lst (s2' _ _ eq1) nq1 (r.mono (.of s2)) b12) .nil)) b2
  have hb2 := hb1.ext s2'
  generalize upd H1 g1 (.tup [.int m, .ref q1]) = H2 at s2 d1 hb2 ⊢
  refine ⟨_, h3, _, h4, ?_⟩
  have fin : ∀ q2 H3, Same H2 H3 → H3 q2 = some (.tup vs) → q2 ≠ b → ∀ g2, H3 g2 = none → ∀ g, (upd H3 g2 (.tup [.int m, .ref q2])) g = none → Q (.ref g) (upd (upd H3 g2 (.tup [.int m, .ref q2])) g (.lst [.ref g1, .ref g2])) := fun q2 H3 s3 eq2 nq2 g2 hg2 g hg => by
    have hb3 := hb2.ext s3
    have s4 := same_upd (o := .tup [.int m, .ref q2]) hg2
    have s5 := same_upd (o := .lst [.ref g1, .ref g2]) hg
    have d2 : DatB b (upd H3 g2 (.tup [.int m, .ref q2])) (.ref g2) (givD m ats true) := .tup upd_same (new_ne hb3 hg2) (.cons (Rep.int m) (.cons (.tup (s4 _ _ eq2) nq2 (r.mono (.of (s2.trans (s3.trans s4)))) b12) .nil)) b2
    exact k g g1 g2 _ (s2.trans (s3.trans (s4.trans s5))) (Same.free (s2.trans (s3.trans s4)) hg) upd_same (d1.mono (.of (s3.trans (s4.trans s5)))) (d2.mono (.of s5))
  unfold tNil rTupM
  dsimp only
  rcases hq with z | z
  · rw [s2 _ _ z]
    dsimp only
    intro q2 hq2
    exact ⟨sz2, fun g2 hg2 => ⟨sz2, fun g hg => fin q2 _ (same_upd hq2) upd_same (new_ne hb2 hq2) g2 hg2 g hg⟩⟩
  · rw [s2 _ _ z]
    dsimp only
    exact ⟨sz2, fun g2 hg2 => ⟨sz2, fun g hg => fin q H2 (.refl _) (s2 _ _ z) nqb g2 hg2 g hg⟩⟩
end K44
set_option Elab.async false
set_option linter.all false
set_option maxRecDepth 100000
set_option maxHeartbeats 4000000
namespace K44
open PySem PySem.Spec PyProof.Rows L2 MT
open SX (S)
local macro_rules | `(tactic| walk_at "mt") => `(tactic| simp only [L2.start, List.map_cons, List.map_nil, List.length_cons, List.length_nil, List.replicate_succ, List.replicate_zero, Nat.reduceSub, Nat.reduceAdd, Nat.sub_self, Nat.zero_add, List.cons_append, List.nil_append, List.append_nil, List.getElem?_cons_zero, List.getElem?_cons_succ, List.set_cons_zero, List.set_cons_succ, Option.some.injEq, exists_eq_left', exists_eq_left, exists_eq_right, V.bl.injEq, V.int.injEq, V.str.injEq, V.ref.injEq, reduceCtorEq, false_and, and_false, true_and, and_true, false_or, or_false, exists_false, exists_const, ↓reduceIte, Bool.false_eq_true, decide_eq_true_eq, Bool.and_eq_true, Bool.not_true, Bool.not_false, List.cons.injEq, exists_and_left, exists_and_right,
  tRet, rInM, rNeI, rSortM, rIndexM, rRepM, rSetDM, rListDM, rPopAtM, tLstRg, tRg1, tDIn, tBM, tBM0, tAndV, tOrV, tNotV, tAnd, tOr, tNot, tB, tTest, tIf, tIfS, tC, tVar, tOp, tUn, tChain, rI0, rI, rU, tFn, tCons, tNil, tCB, tTup, tLst, tAsg, gName, tNext, tDrop, tRetN, tPar, tPar3, tAug, tReplC, tRevS, rLenM2, rIsBM, tDNotIn, tDGet, rSumM, rMaxM, rMinM, gSub, rSetL, tRaiseO, tFnW, tXf, gTup, gUnl, gCons, gNil, rPopM, rAppendM, rExtendM, rTupM, rListM, ipI, tIs, tIss, rLenM, rIxM, rAddM, rEqM, rNeM, rSignIn, rInt, rAbs, rStrI, tSl, tPart, tNoPart, rSlM, tIsN, tNotN, List.any_cons, List.any_nil, Bool.or_false, tSeq, isa, D.ty, decide_true, decide_false, Bool.true_or, Bool.or_true, Bool.false_or, Bool.and_true, Bool.true_and, Bool.false_and, Bool.and_false, eq_self_iff_true, not_true_eq_false, not_false_eq_true, bne_self_eq_false])
/-- what join_tree told: a word and a list -/
def TO (A : List (List Int)) (H : Hp) (word : List Nat) (vs : List V) (ds : List D) : Prop :=
  ((struck A []).2.length ≤ 1 ∧ word = wTree ∧ ∃ ts : List (Int × Int), ts.Perm (struck A []).1 ∧ ts.Pairwise lexLe ∧ PairsAt H vs ts ∧ ds = ts.map pairDD) ∨
  (1 < (struck A []).2.length ∧ word = wRing ∧ vs = (struck A []).2.map V.int ∧ ds = (struck A []).2.map D.int)
theorem lex_eq : ∀ {ts us : List (Int × Int)}, ts.Perm us → ts.Pairwise lexLe → us.Pairwise lexLe → ts = us := by
  intro ts us h h1 h2
  refine h.eq_of_pairwise (fun a b _ _ x y => ?_) h1 h2
  obtain ⟨a1, a2⟩ := a
  obtain ⟨b1, b2⟩ := b
  unfold lexLe at x y
  dsimp only at x y
  have e1 : a1 = b1 := by omega
  have e2 : a2 = b2 := by omega
  rw [e1, e2]
theorem TO.mono {A : List (List Int)} {H H' : Hp} {word : List Nat} {vs : List V} {ds : List D} (h : TO A H word vs ds) (s : Same H H') : TO A H' word vs ds := by
  rcases h with ⟨h0, h1, ts, h2, h3, h4, h5⟩ | h
  · exact .inl ⟨h0, h1, ts, h2, h3, h4.mono s, h5⟩
  · exact .inr h
theorem TO.monoD {A : List (List Int)} {H H' : Hp} {l : Addr} {xs : List V} {word : List Nat} {vs : List V} {ds : List D} (h : TO A H word vs ds) (hl : H l = some (.lst xs)) (s : SmD l H H') : TO A H' word vs ds := by
  rcases h with ⟨h0, h1, ts, h2, h3, h4, h5⟩ | h
  · exact .inl ⟨h0, h1, ts, h2, h3, h4.monoD hl s, h5⟩
  · exact .inr h
theorem TO.det {A : List (List Int)} {H H' : Hp} {word word' : List Nat} {vs vs' : List V} {ds ds' : List D} (h : TO A H word vs ds) (h' : TO A H' word' vs' ds') : word = word' ∧ ds = ds' := by
  rcases h with ⟨h0, h1, ts, h2, h3, h4, h5⟩ | ⟨h0, h1, h2, h3⟩ <;> rcases h' with ⟨k0, k1, us, k2, k3, k4, k5⟩ | ⟨k0, k1, k2, k3⟩
  · refine ⟨by rw [h1, k1], ?_⟩
    rw [h5, k5, lex_eq (h2.trans k2.symm) h3 k3]
  · omega
  · omega
  · exact ⟨by rw [h1, k1], by rw [h3, k3]⟩
theorem TO.rep {A : List (List Int)} {H : Hp} {b : Addr} {xs : List V} {word : List Nat} {vs : List V} {ds : List D} (h : TO A H word vs ds) (hb : H b = some (.lst xs)) : DatsB b H vs ds := by
  rcases h with ⟨h0, h1, ts, h2, h3, h4, h5⟩ | ⟨h0, h1, h2, h3⟩
  · rw [h5]; exact DatsB.pairs ⟨xs, hb⟩ h4
  · rw [h2, h3]; exact DatsB.ints _
theorem TO.len {A : List (List Int)} {H : Hp} {word : List Nat} {vs : List V} {ds : List D} (hA : A.length ≤ 12) (h : TO A H word vs ds) : ds.length ≤ 12 := by
  have z := strike_facts (A := A) hA (.refl _) (.refl _) (.refl _)
  have hrl : (rng A.length).length = A.length := by unfold rng; rw [List.length_map, List.length_range]
  rw [hrl] at z
  rcases h with ⟨h0, h1, ts, h2, h3, h4, h5⟩ | ⟨h0, h1, h2, h3⟩
  · rw [h5, List.length_map, h2.length_eq]; exact z.1
  · rw [h3, List.length_map]; exact z.2.2.1
theorem TO.word {A : List (List Int)} {H : Hp} {word : List Nat} {vs : List V} {ds : List D} (h : TO A H word vs ds) : word.length ≤ BL ∧ (1 < (struck A []).2.length → word = wRing ∧ leftB A (.lst ds) = true) ∧ (¬ 1 < (struck A []).2.length → word = wTree ∧ lawTreeB A (.lst ds) = true) := by
  rcases h with ⟨h0, h1, ts, h2, h3, h4, h5⟩ | ⟨h0, h1, h2, h3⟩
  · exact ⟨by rw [h1]; unfold BL; decide, fun z => by omega, fun _ => ⟨h1, by rw [h5]; exact tree_ok h0 h2 h3⟩⟩
  · exact ⟨by rw [h1]; unfold BL; decide, fun _ => ⟨h1, by rw [h3]; exact left_ok h0⟩, fun z => absurd h0 z⟩
/-- a right conjunction -/
structure Cj (A : List (List Int)) (d : D) : Prop where
  c : conjD d = true
  h : headsOk d = true
  m : manyD d ≤ 14
  v : varsD d = A
structure ToldAt (A : List (List Int)) (H0 H : Hp) (r : Addr) (pp ll : Addr) (word : List Nat) (vs : List V) (ds : List D) : Prop where
  n : H0 ll = none
  r : H r = some (.lst [.str (S wTold), .ref pp])
  p : H pp = some (.tup [.str (S word), .ref ll])
  l : H ll = some (.lst vs)
  t : TO A H word vs ds
theorem ToldAt.mono {A : List (List Int)} {H0 H H' : Hp} {r pp ll : Addr} {word : List Nat} {vs : List V} {ds : List D} (h : ToldAt A H0 H r pp ll word vs ds) (s : Same H H') : ToldAt A H0 H' r pp ll word vs ds := ⟨h.n, s _ _ h.r, s _ _ h.p, s _ _ h.l, h.t.mono s⟩
theorem asked_tree {H : Hp} {v x : V} {d e : D} {nb : Bool} {A : List (List Int)} {Q : VK} {E : XK} (h : Dat H v d) (k : Cj A d) (hx : Dat H x e) (hz : szD e)
    (q : ∀ r pp ll word vs ds H', Same H H' → H r = none → ToldAt A H H' r pp ll word vs ds → Q (.ref r) H') : spAsked [.str (S wTree), v, x, .bl nb] H Q E := by
  refine ⟨wTree, v, x, d, e, nb, rfl, h, k.h, by have := k.m; omega, hx, hz, fun z => (by rw [k.c] at z; cases z), fun _ _ => ?_, fun _ z => (by cases z), fun _ z => absurd rfl z⟩
  rw [k.v]
  refine ⟨fun hl r p l ws ts H' h1 h2 s hr hn el hp ep er => ?_, fun hl r p l H' s hr hn el ep er => ?_⟩
  · exact q r p l wTree ws (ts.map pairDD) H' s hr ⟨hn, er, ep, el, .inl ⟨hl, rfl, ts, h1, h2, hp, rfl⟩⟩
  · exact q r p l wRing _ _ H' s hr ⟨hn, er, ep, el, .inr ⟨hl, rfl, rfl, rfl⟩⟩
theorem asked_is {H : Hp} {v x : V} {d e : D} {nb : Bool} {A : List (List Int)} {Q : VK} {E : XK} (h : Dat H v d) (k : Cj A d) (hx : Dat H x e) (hz : szD e)
    (q : ∀ r H', Same H H' → H r = none → H' r = some (.lst [.str (S wTold), .bl (lawTreeB A e)]) → Q (.ref r) H') : spAsked [.str (S wIs), v, x, .bl nb] H Q E := by
  refine ⟨wIs, v, x, d, e, nb, rfl, h, k.h, by have := k.m; omega, hx, hz, fun z => (by rw [k.c] at z; cases z), fun _ z => (by cases z), fun _ _ r H' s hr er => ?_, fun _ _ z => absurd rfl z⟩
  rw [tree_conj k.c, k.v] at er
  exact q r H' s hr er
theorem asked_ring {H : Hp} {v x : V} {d e : D} {nb : Bool} {A : List (List Int)} {Q : VK} {E : XK} (h : Dat H v d) (k : Cj A d) (hx : Dat H x e) (hz : szD e)
    (q : ∀ r H', Same H H' → H r = none → H' r = some (.lst [.str (S wTold), .bl (leftB A e)]) → Q (.ref r) H') : spAsked [.str (S wRing), v, x, .bl nb] H Q E := by
  refine ⟨wRing, v, x, d, e, nb, rfl, h, k.h, by have := k.m; omega, hx, hz, fun z => (by rw [k.c] at z; cases z), fun _ z => (by cases z), fun _ z => (by cases z), fun _ _ _ r H' s hr er => ?_⟩
  rw [ring_left, k.v] at er
  exact q r H' s hr er
end K44
set_option Elab.async false
set_option linter.all false
set_option maxRecDepth 100000
set_option maxHeartbeats 4000000
namespace K44
open PySem PySem.Spec PyProof.Rows L2 MT
open SX (S)
local macro_rules | `(tactic| walk_at "mt") => `(tactic| simp only [L2.start, List.map_cons, List.map_nil, List.length_cons, List.length_nil, List.replicate_succ, List.replicate_zero, Nat.reduceSub, Nat.reduceAdd, Nat.sub_self, Nat.zero_add, List.cons_append, List.nil_append, List.append_nil, List.getElem?_cons_zero, List.getElem?_cons_succ, List.set_cons_zero, List.set_cons_succ, Option.some.injEq, exists_eq_left', exists_eq_left, exists_eq_right, V.bl.injEq, V.int.injEq, V.str.injEq, V.ref.injEq, reduceCtorEq, false_and, and_false, true_and, and_true, false_or, or_false, exists_false, exists_const, ↓reduceIte, Bool.false_eq_true, decide_eq_true_eq, Bool.and_eq_true, Bool.not_true, Bool.not_false, List.cons.injEq, exists_and_left, exists_and_right,
  tRet, rInM, rNeI, rSortM, rIndexM, rRepM, rSetDM, rListDM, rPopAtM, tLstRg, tRg1, tDIn, tBM, tBM0, tAndV, tOrV, tNotV, tAnd, tOr, tNot, tB, tTest, tIf, tIfS, tC, tVar, tOp, tUn, tChain, rI0, rI, rU, tFn, tCons, tNil, tCB, tTup, tLst, tAsg, gName, tNext, tDrop, tRetN, tPar, tPar3, tAug, tReplC, tRevS, rLenM2, rIsBM, tDNotIn, tDGet, rSumM, rMaxM, rMinM, gSub, rSetL, tRaiseO, tFnW, tXf, gTup, gUnl, gCons, gNil, rPopM, rAppendM, rExtendM, rTupM, rListM, ipI, tIs, tIss, rLenM, rIxM, rAddM, rEqM, rNeM, rSignIn, rInt, rAbs, rStrI, tSl, tPart, tNoPart, rSlM, tIsN, tNotN, List.any_cons, List.any_nil, Bool.or_false, tSeq, isa, D.ty, decide_true, decide_false, Bool.true_or, Bool.or_true, Bool.false_or, Bool.and_true, Bool.true_and, Bool.false_and, Bool.and_false, eq_self_iff_true, not_true_eq_false, not_false_eq_true, bne_self_eq_false])
abbrev tTreeBody (K : PySem.W.Frag) : TS := (tSeq (tAsg (tFn spAsked (tCons (tC (.str (S [116, 114, 101, 101]))) (tCons (tVar 8) (tCons (tC .non) (tCons (tVar 2) tNil))))) (gName 9)) (tSeq (tIfS (tOr (tTest (tOp rNeM (tOp rIxM (tVar 9) (tC (.int 0))) (tC (.str (S [116, 111, 108, 100]))))) (tOr (tNot (tB (tIs .tup (tOp rIxM (tVar 9) (tC (.int 1)))))) (tOr (tTest (tOp rNeM (tCB rLenM (tCons (tOp rIxM (tVar 9) (tC (.int 1))) tNil)) (tC (.int 2)))) (tNot (tB (tIs .lst (tOp rIxM (tOp rIxM (tVar 9) (tC (.int 1))) (tC (.int 1))))))))) (tRet (tC (.bl false))) tNext) (tIfS (tTest (tGt 0)) (tIfS (tOr (tNot (tB (tFn (spSame 8) (tCons (tOp rIxM (tOp rIxM (tVar 9) (tC (.int 1))) (tC (.int 0))) (tCons (tC (.str (S [114, 105, 110, 103]))) tNil))))) (tNot (tB (tFn spLawLeft (tCons (tVar 4) (tCons (tOp rIxM (tOp rIxM (tVar 9) (tC (.int 1))) (tC (.int 1))) tNil)))))) (tRet (tC (.bl false))) tNext) (tIfS (tOr (tNot (tB (tFn (spSame 8) (tCons (tOp rIxM (tOp rIxM (tVar 9) (tC (.int 1))) (tC (.int 0))) (tCons (tC (.str (S [116, 114, 101, 101]))) tNil))))) (tNot (tB (tFn spLawTree (tCons (tVar 4) (tCons (tOp rIxM (tOp rIxM (tVar 9) (tC (.int 1))) (tC (.int 1))) tNil)))))) (tRet (tC (.bl false))) tNext))))
theorem same_str {l : List Nat} {H : Hp} {Q : VK} {E : XK} (h : l.length ≤ BL) (q : Q (.bl true) H) : spSame 8 [.str (S l), .str (S l)] H Q E := ⟨_, _, .str l, rfl, ⟨noH, no_same, Rep.str h⟩, ⟨noH, no_same, Rep.str h⟩, .inl (by show 0 + 1 < 8; omega), q⟩
theorem szD_non : szD .non := show (0 : Nat) ≤ 100000 by omega
theorem tree_turn {K : PySem.W.Frag} {Z : Ends} {H : Hp} {b q w : Addr} {A : List (List Int)} {s0 s1 s2 s3 s5 s7 s8 s10 s11 s12 : Option V} {s9 : Option V} {v : V} {d : D} {nb : Bool} (hA : Ats H q A) (hw : WayAt b A H w) (hv : Dat H v d) (k : Cj A d) (hs8 : s8 = some v) (hs2 : s2 = some (.bl nb))
    (post : ∀ r pp ll word vs ds H', Same H H' → ToldAt A H H' r pp ll word vs ds → Z.nx [s0, s1, s2, s3, some (.ref q), s5, some (.ref w), s7, s8, some (.ref r), s10, s11, s12] H') : tTreeBody K Z [s0, s1, s2, s3, some (.ref q), s5, some (.ref w), s7, s8, s9, s10, s11, s12] H := by
  subst hs8 hs2
  unfold tTreeBody
  generalize hT : (tIfS (tTest (tGt 0)) _ _ : TS) = T
  generalize hO : (tIfS (tOr _ _) _ _ : TS) = O
  walk_at "mt"
  refine asked_tree hv k (e := .non) ⟨noH, no_same, Rep.non⟩ (szD_non) fun r pp ll word vs ds H' s hr t => ?_
  subst hO
  have t1 : tyOf H' (.ref pp) = some .tup := by show tyO (H' pp) = _; rw [t.p]; rfl
  have t2 : tyOf H' (.ref ll) = some .lst := by show tyO (H' ll) = _; rw [t.l]; rfl
  have q0 : seqO (H' r) = some [.str (S wTold), .ref pp] := by rw [t.r]; rfl
  have q1 : seqO (H' pp) = some [.str (S word), .ref ll] := by rw [t.p]; rfl
  walk_at "mt"
  refine ⟨_, q0, .str (S wTold), rfl, ?_⟩
  walk_at "mt"
  refine ⟨_, q0, .ref pp, rfl, .tup, t1, ?_⟩
  walk_at "mt"
  refine ⟨_, q0, .ref pp, rfl, ?_⟩
  walk_at "mt"
  refine ⟨_, q1, ?_⟩
  walk_at "mt"
  rw [if_neg (by decide)]
  refine ⟨_, q0, .ref pp, rfl, ?_⟩
  walk_at "mt"
  refine ⟨_, q1, .ref ll, rfl, .lst, t2, ?_⟩
  walk_at "mt"
  subst hT
  generalize hO1 : (tIfS (tOr (tNot (tB (tFn (spSame 8) _))) (tNot (tB (tFn spLawLeft _)))) _ _ : TS) = O1
  generalize hO2 : (tIfS (tOr (tNot (tB (tFn (spSame 8) _))) (tNot (tB (tFn spLawTree _)))) _ _ : TS) = O2
  have hp := fun H2 (s2 : Same H' H2) => post r pp ll word vs ds H2 (s.trans s2) (t.mono s2)
  obtain ⟨xb, hb⟩ : ∃ xs, H' ll = some (.lst xs) := ⟨_, t.l⟩
  have hd : Dat H' (.ref ll) (.lst ds) := ⟨H', .refl _, .lst t.l (RepL.mono MT.del_sub (t.t.rep t.l)) (by have := t.t.len hA.sz; unfold BL; omega)⟩
  have hA' := hA.mono s
  refine way_gt (hw.mono s) rfl (.inl rfl) ⟨_, rfl, ?_⟩
  obtain ⟨w0, w1, w2⟩ := t.t.word
  by_cases hring : 1 < (struck A []).2.length
  · obtain ⟨rfl, hl⟩ := w1 hring
    rw [if_pos (by rw [decide_eq_true_eq]; exact hring)]
    subst hO1
    walk_at "mt"
    refine ⟨_, q0, .ref pp, rfl, ?_⟩
    walk_at "mt"
    refine ⟨_, q1, .str (S wRing), rfl, ?_⟩
    refine same_str w0 ?_
    walk_at "mt"
    refine ⟨_, q0, .ref pp, rfl, ?_⟩
    walk_at "mt"
    refine ⟨_, q1, .ref ll, rfl, ⟨q, .ref ll, A, .lst ds, rfl, hA', hd, fun H2 s2 => ⟨_, rfl, ?_⟩⟩⟩
    rw [hl, if_neg (by decide)]
    exact hp H2 s2
  · obtain ⟨rfl, hl⟩ := w2 hring
    rw [if_neg (by rw [decide_eq_true_eq]; exact hring)]
    subst hO2
    walk_at "mt"
    refine ⟨_, q0, .ref pp, rfl, ?_⟩
    walk_at "mt"
    refine ⟨_, q1, .str (S wTree), rfl, ?_⟩
    refine same_str w0 ?_
    walk_at "mt"
    refine ⟨_, q0, .ref pp, rfl, ?_⟩
    walk_at "mt"
    refine ⟨_, q1, .ref ll, rfl, ⟨q, .ref ll, A, .lst ds, rfl, hA', hd, fun H2 s2 => ⟨_, rfl, ?_⟩⟩⟩
    rw [hl, if_neg (by decide)]
    exact hp H2 s2
theorem tree_loop {K : PySem.W.Frag} {Z : Ends} {H0 : Hp} {b q w g g1 g2 : Addr} {A : List (List Int)} {s0 s1 s3 s5 s8 s9 s10 s11 s12 : Option V} {m : Int} {ats : List D} {nb : Bool} (hA : Ats H0 q A) (hw : WayAt b A H0 w) (eg : H0 g = some (.lst [.ref g1, .ref g2])) (d1 : DatB b H0 (.ref g1) (givD m ats false)) (d2 : DatB b H0 (.ref g2) (givD m ats true)) (k : ∀ t, Cj A (givD m ats t))
    (post : ∀ s8 r pp ll word vs ds H', Same H0 H' → ToldAt A H0 H' r pp ll word vs ds → Z.nx [s0, s1, some (.bl nb), s3, some (.ref q), s5, some (.ref w), some (.ref g), s8, some (.ref r), s10, s11, s12] H') :
    tFor (iSq K (tRevL K (tVar 7))) (gName 8) (tTreeBody K) Z [s0, s1, some (.bl nb), s3, some (.ref q), s5, some (.ref w), some (.ref g), s8, s9, s10, s11, s12] H0 := by
  refine ⟨_, rfl, g, [.ref g1, .ref g2], rfl, .of eg, fun rr hrr => ⟨rr, rfl, .inl ⟨[.ref g2, .ref g1], .of upd_same, ?_⟩⟩⟩
  have s1' := same_upd (o := .lst [.ref g1, .ref g2].reverse) hrr
  have er : (upd H0 rr (.lst [.ref g1, .ref g2].reverse)) rr = some (.lst [.ref g2, .ref g1]) := upd_same
  generalize upd H0 rr (.lst [.ref g1, .ref g2].reverse) = H1 at s1' er ⊢
  have z := for_v (wi := fun _ H R => R (Itl K rr) H) (xs := [.ref g2, .ref g1]) (j := 8) (tb := tTreeBody K) (D := Z) (σ := [s0, s1, some (.bl nb), s3, some (.ref q), s5, some (.ref w), some (.ref g), s8, s9, s10, s11, s12]) (H := H1)
    ⟨Itl K rr, _, fun R r => r, walk_fnL (K := K), fun H' s' => .of (s' _ _ er)⟩
    (fun k σ' H' => ∃ s8 s9, σ' = [s0, s1, some (.bl nb), s3, some (.ref q), s5, some (.ref w), some (.ref g), s8, s9, s10, s11, s12] ∧ Same H1 H' ∧ (0 < k → ∃ r pp ll word vs ds, s9 = some (.ref r) ∧ ToldAt A H0 H' r pp ll word vs ds))
    ⟨_, _, rfl, .refl _, fun z => absurd z (by decide)⟩ (fun k σ' H' ⟨_, _, _, s, _⟩ => s) (fun i σ' H' hi ⟨x8, x9, es, s, _⟩ => ?_) fun σ' H' ⟨x8, x9, es, s, h⟩ => ?_
  · exact z
  · subst es
    dsimp only [List.set_cons_zero, List.set_cons_succ]
    have s0' := s1'.trans s
    have hx : ∃ t, DatB b H0 (([.ref g2, .ref g1] : List V).getD i .non) (givD m ats t) := by
      have := getD_mem hi
      rcases List.mem_cons.mp this with h | h
      · rw [h]; exact ⟨_, d2⟩
      · rw [List.mem_singleton.mp h]; exact ⟨_, d1⟩
    obtain ⟨t, hx⟩ := hx
    refine tree_turn (hA.mono s0') (hw.mono s0') ((hx.mono (.of s0')).dat) (k t) rfl rfl fun r pp ll word vs ds H2 s2 t2 => ⟨_, _, rfl, s.trans s2, fun _ => ⟨r, pp, ll, word, vs, ds, rfl, ⟨Same.free s0' t2.n, t2.r, t2.p, t2.l, t2.t⟩⟩⟩
  · subst es
    obtain ⟨r, pp, ll, word, vs, ds, rfl, t⟩ := h (by simp)
    exact post x8 r pp ll word vs ds H' (s1'.trans s) t
end K44
set_option Elab.async false
set_option linter.all false
set_option maxRecDepth 100000
set_option maxHeartbeats 4000000
namespace K44
open PySem PySem.Spec PyProof.Rows L2 MT
open SX (S)
local macro_rules | `(tactic| walk_at "mt") => `(tactic| simp only [L2.start, List.map_cons, List.map_nil, List.length_cons, List.length_nil, List.replicate_succ, List.replicate_zero, Nat.reduceSub, Nat.reduceAdd, Nat.sub_self, Nat.zero_add, List.cons_append, List.nil_append, List.append_nil, List.getElem?_cons_zero, List.getElem?_cons_succ, List.set_cons_zero, List.set_cons_succ, Option.some.injEq, exists_eq_left', exists_eq_left, exists_eq_right, V.bl.injEq, V.int.injEq, V.str.injEq, V.ref.injEq, reduceCtorEq, false_and, and_false, true_and, and_true, false_or, or_false, exists_false, exists_const, ↓reduceIte, Bool.false_eq_true, decide_eq_true_eq, Bool.and_eq_true, Bool.not_true, Bool.not_false, List.cons.injEq, exists_and_left, exists_and_right,
  tRet, rInM, rNeI, rSortM, rIndexM, rRepM, rSetDM, rListDM, rPopAtM, tLstRg, tRg1, tDIn, tBM, tBM0, tAndV, tOrV, tNotV, tAnd, tOr, tNot, tB, tTest, tIf, tIfS, tC, tVar, tOp, tUn, tChain, rI0, rI, rU, tFn, tCons, tNil, tCB, tTup, tLst, tAsg, gName, tNext, tDrop, tRetN, tPar, tPar3, tAug, tReplC, tRevS, rLenM2, rIsBM, tDNotIn, tDGet, rSumM, rMaxM, rMinM, gSub, rSetL, tRaiseO, tFnW, tXf, gTup, gUnl, gCons, gNil, rPopM, rAppendM, rExtendM, rTupM, rListM, ipI, tIs, tIss, rLenM, rIxM, rAddM, rEqM, rNeM, rSignIn, rInt, rAbs, rStrI, tSl, tPart, tNoPart, rSlM, tIsN, tNotN, List.any_cons, List.any_nil, Bool.or_false, tSeq, isa, D.ty, decide_true, decide_false, Bool.true_or, Bool.or_true, Bool.false_or, Bool.and_true, Bool.true_and, Bool.false_and, Bool.and_false, eq_self_iff_true, not_true_eq_false, not_false_eq_true, bne_self_eq_false])
theorem deep_pairs : ∀ ts : List (Int × Int), depths (ts.map pairDD) ≤ 1
  | [] => Nat.zero_le _
  | p :: ts => by
    have ih := deep_pairs ts
    have e : depth (pairDD p) = 1 := by unfold pairDD; simp [depth, depths]
    rw [List.map_cons]
    unfold depths
    omega
theorem deep_ints : ∀ ts : List Int, depths (ts.map D.int) ≤ 1
  | [] => Nat.zero_le _
  | p :: ts => by
    have ih := deep_ints ts
    have e : depth (.int p) = 0 := by simp [depth]
    rw [List.map_cons]
    unfold depths
    omega
theorem TO.deep {A : List (List Int)} {H : Hp} {word : List Nat} {vs : List V} {ds : List D} (h : TO A H word vs ds) : depths ds ≤ 1 := by
  rcases h with ⟨_, _, ts, _, _, _, h5⟩ | ⟨_, _, _, h3⟩
  · rw [h5]; exact deep_pairs ts
  · rw [h3]; exact deep_ints _
theorem rep_told {H : Hp} {r pp ll : Addr} {word : List Nat} {vs : List V} {ds : List D} (er : H r = some (.lst [.str (S wTold), .ref pp])) (ep : H pp = some (.tup [.str (S word), .ref ll])) (el : H ll = some (.lst vs)) (hw : word.length ≤ BL) (hl : ds.length ≤ 12) (h : RepL H vs ds) : Dat H (.ref r) (.lst [.str wTold, .tup [.str word, .lst ds]]) :=
  ⟨H, .refl _, .lst er (.cons (Rep.str (by unfold BL; decide)) (.cons (.tup ep (.cons (Rep.str hw) (.cons (.lst el h (by unfold BL; omega)) .nil)) (by unfold BL; simp)) .nil)) (by unfold BL; simp)⟩
theorem TO.no_str {A : List (List Int)} {H : Hp} {word : List Nat} {x : Str} {vs : List V} {ds : List D} (h : TO A H word (.str x :: vs) ds) : False := by
  rcases h with ⟨_, _, ts, _, _, h4, _⟩ | ⟨_, _, h2, _⟩
  · have hl := h4.1
    cases ts with
    | nil => cases hl
    | cons p ts =>
      obtain ⟨t, e, _⟩ := h4.2 0 _ p rfl rfl
      cases e
  · revert h2
    generalize (struck A []).2 = l
    intro h2
    cases l <;> cases h2
abbrev t11 : TE := (tOp rIxM (tOp rIxM (tVar 9) (tC (.int 1))) (tC (.int 1)))
abbrev tKeepBody (K : PySem.W.Frag) (R : TS) : TS := (tSeq (tAsg (tCB rListM (tCons t11 tNil)) (gName 10)) (tSeq (tDrop (tBM K "list" rAppendM t11 (tCons (tC (.str (S [109, 111, 114, 101]))) tNil))) (tSeq (tIfS (tNot (tB (tFn (spSame 8) (tCons (tFn spAsked (tCons (tC (.str (S [116, 114, 101, 101]))) (tCons (tOp rIxM (tVar 7) (tC (.int 0))) (tCons (tC .non) (tCons (tNotV (tVar 2)) tNil))))) (tCons (tLst (tCons (tC (.str (S [116, 111, 108, 100]))) (tCons (tTup (tCons (tOp rIxM (tOp rIxM (tVar 9) (tC (.int 1))) (tC (.int 0))) (tCons (tVar 10) tNil))) tNil))) tNil))))) (tRet (tC (.bl false))) tNext) R)))
theorem keep_part {K : PySem.W.Frag} {R : TS} {Z : Ends} {H0 H : Hp} {b q g g1 g2 r pp ll : Addr} {A : List (List Int)} {word : List Nat} {vs : List V} {ds : List D} {s0 s1 s3 s4 s5 s6 s8 s10 s11 s12 : Option V} {m : Int} {ats : List D} {nb : Bool} {bs : List V} (eb : H0 b = some (.lst bs)) (hA : A.length ≤ 12) (s : Same H0 H) (t : ToldAt A H0 H r pp ll word vs ds)
    (eg : H0 g = some (.lst [.ref g1, .ref g2])) (d1 : DatB b H0 (.ref g1) (givD m ats false)) (k : Cj A (givD m ats false))
    (post : ∀ kk H', Same H0 H' → H' kk = some (.lst vs) → kk ≠ b → DatsB b H' vs ds → R Z [s0, s1, some (.bl nb), s3, s4, s5, s6, some (.ref g), s8, some (.ref r), some (.ref kk), s11, s12] H') :
    tKeepBody K R Z [s0, s1, some (.bl nb), s3, s4, s5, s6, some (.ref g), s8, some (.ref r), s10, s11, s12] H := by
  have nlb : ll ≠ b := fun z => by have := t.n; rw [z, eb] at this; cases this
  have q0 : seqO (H r) = some [.str (S wTold), .ref pp] := by rw [t.r]; rfl
  have q1 : seqO (H pp) = some [.str (S word), .ref ll] := by rw [t.p]; rfl
  unfold tKeepBody
  generalize hO : (tIfS _ _ _ : TS) = O
  walk_at "mt"
  refine ⟨_, q0, .ref pp, rfl, ?_⟩
  walk_at "mt"
  refine ⟨_, q1, .ref ll, rfl, ?_⟩
  walk_at "mt"
  have rl := t.t.rep t.l
  have hvl : vs.length ≤ 12 := by have := t.t.len hA; have := rl.length; omega
  refine ⟨vs, by rw [t.l]; rfl, fun kk hkk => ?_⟩
  have sk := same_upd (o := .lst vs) hkk
  have nkl : kk ≠ ll := fun z => by rw [z, t.l] at hkk; cases hkk
  have ek : (upd H kk (.lst vs)) kk = some (.lst vs) := upd_same
  have nkb : kk ≠ b := fun z => by rw [z, s _ _ eb] at hkk; cases hkk
  have t1 := t.mono sk
  have s1 := s.trans sk
  generalize upd H kk (.lst vs) = H1 at sk ek t1 s1 ⊢
  refine ⟨_, by rw [t1.r]; rfl, .ref pp, rfl, ?_⟩
  walk_at "mt"
  refine ⟨_, by rw [t1.p]; rfl, .ref ll, rfl, tyL t1.l, ?_⟩
  walk_at "mt"
  refine ⟨vs, t1.l, big1 (by omega), ?_⟩
  have sm : SmD ll H1 (upd H1 ll (.lst (vs ++ [.str (S wMore)]))) := .upd
  have s2 : Same H0 (upd H1 ll (.lst (vs ++ [.str (S wMore)]))) := ((SmD.of s1).trans sm).same t.n
  have npl : pp ≠ ll := fun z => by have := t1.p; rw [z, t1.l] at this; cases this
  have nrl : r ≠ ll := by
    intro z
    have h1 := t1.r
    rw [z, t1.l] at h1
    injection h1 with h1
    injection h1 with h1
    rw [h1] at t1
    exact t1.t.no_str
  have er := sm _ _ nrl t1.r
  have ep := sm _ _ npl t1.p
  have ek := sm _ _ nkl ek
  have to2 := t1.t.monoD t1.l sm
  show O _ _ (upd H1 ll (.lst (vs ++ [.str (S wMore)])))
  generalize upd H1 ll (.lst (vs ++ [.str (S wMore)])) = H2 at s2 er ep ek to2 ⊢
  subst hO
  generalize hX : (tLst (tCons (tC (.str (S [116, 111, 108, 100]))) _) : TE) = X
  walk_at "mt"
  refine ⟨_, by rw [s2 _ _ eg]; rfl, .ref g1, rfl, ?_⟩
  refine asked_tree ((d1.mono (.of s2)).dat) k (e := .non) ⟨noH, no_same, Rep.non⟩ szD_non fun r2 pp2 ll2 word2 vs2 ds2 H3 s3 hr2 t2 => ?_
  obtain ⟨rfl, rfl⟩ := to2.det t2.t
  have er := s3 _ _ er
  have ep := s3 _ _ ep
  have ek := s3 _ _ ek
  have to3 := to2.mono s3
  have s03 := s2.trans s3
  subst hX
  walk_at "mt"
  refine ⟨_, by rw [er]; rfl, .ref pp, rfl, ?_⟩
  walk_at "mt"
  refine ⟨_, by rw [ep]; rfl, .str (S word), rfl, by decide +kernel, fun tt htt => ⟨by decide +kernel, fun l3 hl3 => ?_⟩⟩
  have s35 := (same_upd (o := .tup [.str (S word), .ref kk]) htt).trans (same_upd (o := .lst [.str (S wTold), .ref tt]) hl3)
  have ett : (upd (upd H3 tt (.tup [.str (S word), .ref kk])) l3 (.lst [.str (S wTold), .ref tt])) tt = some (.tup [.str (S word), .ref kk]) := same_upd hl3 _ _ upd_same
  have el3 : (upd (upd H3 tt (.tup [.str (S word), .ref kk])) l3 (.lst [.str (S wTold), .ref tt])) l3 = some (.lst [.str (S wTold), .ref tt]) := upd_same
  show spSame 8 [.ref r2, .ref l3] (upd (upd H3 tt (.tup [.str (S word), .ref kk])) l3 (.lst [.str (S wTold), .ref tt])) _ _
  generalize upd (upd H3 tt (.tup [.str (S word), .ref kk])) l3 (.lst [.str (S wTold), .ref tt]) = H5 at s35 ett el3 ⊢
  have ek5 := s35 _ _ ek
  have t5 := t2.mono s35
  have to5 := to3.mono s35
  have hdl := to5.len hA
  refine ⟨_, _, _, rfl, rep_told t5.r t5.p t5.l to5.word.1 hdl (RepL.mono MT.del_sub (t5.t.rep t5.l)), rep_told el3 ett ek5 to5.word.1 hdl (RepL.mono MT.del_sub (to5.rep ek5)), .inl ?_, ⟨_, rfl, ?_⟩⟩
  · have := to5.deep
    simp only [depth, depths]
    omega
  · rw [if_neg (by decide)]
    have s05 := s03.trans s35
    exact post kk H5 s05 ek5 nkb (to5.rep (s05 _ _ eb))
end K44
set_option Elab.async false
set_option linter.all false
set_option maxRecDepth 100000
set_option maxHeartbeats 4000000
namespace K44
open PySem PySem.Spec PyProof.Rows L2 MT
open SX (S)
local macro_rules | `(tactic| walk_at "mt") => `(tactic| simp only [L2.start, List.map_cons, List.map_nil, List.length_cons, List.length_nil, List.replicate_succ, List.replicate_zero, Nat.reduceSub, Nat.reduceAdd, Nat.sub_self, Nat.zero_add, List.cons_append, List.nil_append, List.append_nil, List.getElem?_cons_zero, List.getElem?_cons_succ, List.set_cons_zero, List.set_cons_succ, Option.some.injEq, exists_eq_left', exists_eq_left, exists_eq_right, V.bl.injEq, V.int.injEq, V.str.injEq, V.ref.injEq, reduceCtorEq, false_and, and_false, true_and, and_true, false_or, or_false, exists_false, exists_const, ↓reduceIte, Bool.false_eq_true, decide_eq_true_eq, Bool.and_eq_true, Bool.not_true, Bool.not_false, List.cons.injEq, exists_and_left, exists_and_right,
  tRet, rInM, rNeI, rSortM, rIndexM, rRepM, rSetDM, rListDM, rPopAtM, tLstRg, tRg1, tDIn, tBM, tBM0, tAndV, tOrV, tNotV, tAnd, tOr, tNot, tB, tTest, tIf, tIfS, tC, tVar, tOp, tUn, tChain, rI0, rI, rU, tFn, tCons, tNil, tCB, tTup, tLst, tAsg, gName, tNext, tDrop, tRetN, tPar, tPar3, tAug, tReplC, tRevS, rLenM2, rIsBM, tDNotIn, tDGet, rSumM, rMaxM, rMinM, gSub, rSetL, tRaiseO, tFnW, tXf, gTup, gUnl, gCons, gNil, rPopM, rAppendM, rExtendM, rTupM, rListM, ipI, tIs, tIss, rLenM, rIxM, rAddM, rEqM, rNeM, rSignIn, rInt, rAbs, rStrI, tSl, tPart, tNoPart, rSlM, tIsN, tNotN, List.any_cons, List.any_nil, Bool.or_false, tSeq, isa, D.ty, decide_true, decide_false, Bool.true_or, Bool.or_true, Bool.false_or, Bool.and_true, Bool.true_and, Bool.false_and, Bool.and_false, eq_self_iff_true, not_true_eq_false, not_false_eq_true, bne_self_eq_false])
abbrev tNearTurn (K : PySem.W.Frag) : TS := (tSeq (tAsg (tLst (tCons (tFn spLawTree (tCons (tVar 4) (tCons (tVar 11) tNil))) (tCons (tFn spLawLeft (tCons (tVar 4) (tCons (tVar 11) tNil))) tNil))) (gName 12)) (tSeq (tIfS (tNot (tB (tFn (spSame 8) (tCons (tLst (tCons (tFn spAsked (tCons (tC (.str (S [105, 115]))) (tCons (tOp rIxM (tVar 7) (tC (.int 0))) (tCons (tVar 11) (tCons (tVar 2) tNil))))) (tCons (tFn spAsked (tCons (tC (.str (S [114, 105, 110, 103]))) (tCons (tOp rIxM (tVar 7) (tC (.int 1))) (tCons (tVar 11) (tCons (tNotV (tVar 2)) tNil))))) tNil))) (tCons (tLst (tCons (tLst (tCons (tC (.str (S [116, 111, 108, 100]))) (tCons (tOp rIxM (tVar 12) (tC (.int 0))) tNil))) (tCons (tLst (tCons (tC (.str (S [116, 111, 108, 100]))) (tCons (tOp rIxM (tVar 12) (tC (.int 1))) tNil))) tNil))) tNil))))) (tRet (tC (.bl false))) tNext) (tAsg (tNotV (tVar 2)) (gName 2))))
theorem rep_tb {H : Hp} {r : Addr} {c : Bool} (er : H r = some (.lst [.str (S wTold), .bl c])) : Rep H (.ref r) (.lst [.str wTold, .bl c]) := .lst er (.cons (Rep.str (by unfold BL; decide)) (.cons (Rep.bl c) .nil)) (by unfold BL; simp)
theorem near_turn2 {K : PySem.W.Frag} {Z : Ends} {H : Hp} {q g g1 g2 : Addr} {A : List (List Int)} {s0 s1 s3 s5 s6 s8 s9 s10 s12 : Option V} {v : V} {e d1 d2 : D} {nb : Bool} (hA : Ats H q A) (eg : H g = some (.lst [.ref g1, .ref g2])) (h1 : Dat H (.ref g1) d1) (h2 : Dat H (.ref g2) d2) (k1 : Cj A d1) (k2 : Cj A d2) (hv : Dat H v e) (hz : szD e)
    (post : ∀ s12 H', Same H H' → Z.nx [s0, s1, some (.bl (!nb)), s3, some (.ref q), s5, s6, some (.ref g), s8, s9, s10, some v, s12] H') :
    tNearTurn K Z [s0, s1, some (.bl nb), s3, some (.ref q), s5, s6, some (.ref g), s8, s9, s10, some v, s12] H := by
  have sz2 : 2 ≤ sizeLine := by decide +kernel
  unfold tNearTurn
  generalize hO : (tIfS _ _ _ : TS) = O
  walk_at "mt"
  refine ⟨q, v, A, e, rfl, hA, hv, fun H1 s1 => ?_⟩
  walk_at "mt"
  refine ⟨q, v, A, e, rfl, hA.mono s1, hv.mono s1, fun H2 s2' => ⟨sz2, fun du hdu => ?_⟩⟩
  have s3 := (s1.trans s2').trans (same_upd (o := .lst [.bl (lawTreeB A e), .bl (leftB A e)]) hdu)
  have edu : (upd H2 du (.lst [.bl (lawTreeB A e), .bl (leftB A e)])) du = some (.lst [.bl (lawTreeB A e), .bl (leftB A e)]) := upd_same
  show O _ _ (upd H2 du (.lst [.bl (lawTreeB A e), .bl (leftB A e)]))
  generalize upd H2 du (.lst [.bl (lawTreeB A e), .bl (leftB A e)]) = H3 at s3 edu ⊢
  subst hO
  generalize hX : (tLst (tCons (tLst (tCons (tC (.str (S [116, 111, 108, 100]))) _)) _) : TE) = X
  walk_at "mt"
  refine ⟨_, by rw [s3 _ _ eg]; rfl, .ref g1, rfl, ?_⟩
  refine asked_is (h1.mono s3) k1 (hv.mono s3) hz fun r1 H4 s4 hr1 er1 => ?_
  refine ⟨_, by rw [s4 _ _ (s3 _ _ eg)]; rfl, .ref g2, rfl, ?_⟩
  refine asked_ring (h2.mono (s3.trans s4)) k2 (hv.mono (s3.trans s4)) hz fun r2 H5 s5' hr2 er2 => ?_
  refine ⟨sz2, fun l1 hl1 => ?_⟩
  have s6 := s5'.trans (same_upd (o := .lst [.ref r1, .ref r2]) hl1)
  have el1 : (upd H5 l1 (.lst [.ref r1, .ref r2])) l1 = some (.lst [.ref r1, .ref r2]) := upd_same
  have er1 := s6 _ _ er1
  have er2 := same_upd (o := .lst [.ref r1, .ref r2]) hl1 _ _ er2
  have s06 := (s3.trans s4).trans s6
  have edu := (s4.trans s6) _ _ edu
  show X _ (upd H5 l1 (.lst [.ref r1, .ref r2])) _
  generalize upd H5 l1 (.lst [.ref r1, .ref r2]) = H6 at s06 el1 er1 er2 edu ⊢
  subst hX
  walk_at "mt"
  refine ⟨_, by rw [edu]; rfl, .bl (lawTreeB A e), rfl, sz2, fun p1 hp1 => ?_⟩
  have z1 := same_upd (o := .lst [.str (S wTold), .bl (lawTreeB A e)]) hp1
  refine ⟨_, by rw [z1 _ _ edu]; rfl, .bl (leftB A e), rfl, sz2, fun p2 hp2 => ⟨sz2, fun p3 hp3 => ?_⟩⟩
  have z2 := same_upd (o := .lst [.str (S wTold), .bl (leftB A e)]) hp2
  have z3 := same_upd (o := .lst [.ref p1, .ref p2]) hp3
  have a1 : (upd (upd (upd H6 p1 (.lst [.str (S wTold), .bl (lawTreeB A e)])) p2 (.lst [.str (S wTold), .bl (leftB A e)])) p3 (.lst [.ref p1, .ref p2])) p1 = some (.lst [.str (S wTold), .bl (lawTreeB A e)]) := z3 _ _ (z2 _ _ upd_same)
  have a2 : (upd (upd (upd H6 p1 (.lst [.str (S wTold), .bl (lawTreeB A e)])) p2 (.lst [.str (S wTold), .bl (leftB A e)])) p3 (.lst [.ref p1, .ref p2])) p2 = some (.lst [.str (S wTold), .bl (leftB A e)]) := z3 _ _ upd_same
  have a3 : (upd (upd (upd H6 p1 (.lst [.str (S wTold), .bl (lawTreeB A e)])) p2 (.lst [.str (S wTold), .bl (leftB A e)])) p3 (.lst [.ref p1, .ref p2])) p3 = some (.lst [.ref p1, .ref p2]) := upd_same
  have z := (z1.trans z2).trans z3
  show spSame 8 [.ref l1, .ref p3] (upd (upd (upd H6 p1 (.lst [.str (S wTold), .bl (lawTreeB A e)])) p2 (.lst [.str (S wTold), .bl (leftB A e)])) p3 (.lst [.ref p1, .ref p2])) _ _
  generalize upd (upd (upd H6 p1 (.lst [.str (S wTold), .bl (lawTreeB A e)])) p2 (.lst [.str (S wTold), .bl (leftB A e)])) p3 (.lst [.ref p1, .ref p2]) = H7 at a1 a2 a3 z ⊢
  have bl2 : 2 ≤ BL := by unfold BL; decide
  refine ⟨_, _, .lst [.lst [.str wTold, .bl (lawTreeB A e)], .lst [.str wTold, .bl (leftB A e)]], rfl, ⟨H7, .refl _, .lst (z _ _ el1) (.cons (rep_tb (z _ _ er1)) (.cons (rep_tb (z _ _ er2)) .nil)) bl2⟩, ⟨H7, .refl _, .lst a3 (.cons (rep_tb a1) (.cons (rep_tb a2) .nil)) bl2⟩, .inl (by simp [depth, depths]), ⟨_, rfl, ?_⟩⟩
  rw [if_neg (by decide)]
  exact post _ H7 (s06.trans z)
abbrev t60 (j : Int) : TE := (tOp rIxM (tOp rIxM (tVar 6) (tC (.int 0))) (tC (.int j)))
theorem near_all {K : PySem.W.Frag} {Z : Ends} {H : Hp} {b q w g g1 g2 kk : Addr} {A : List (List Int)} {s1 s3 s5 s8 s9 s11 s12 : Option V} {d1 d2 : D} {nb : Bool} {vs : List V} {ds : List D} {c : Nat} (hb : Bx H b c) (hc : c ≤ 300000000) (hA : Ats H q A) (nqb : q ≠ b) (hw : WayAt b A H w) (eg : H g = some (.lst [.ref g1, .ref g2])) (ngb : g ≠ b) (h1 : DatB b H (.ref g1) d1) (h2 : DatB b H (.ref g2) d2) (k1 : Cj A d1) (k2 : Cj A d2)
    (ek : H kk = some (.lst vs)) (nkb : kk ≠ b) (rk : DatsB b H vs ds) (hk : ds.length ≤ 12)
    (post : ∀ nb s11 s12 H', SmD b H H' → Bx H' b (c + 110) → Z.nx [some (.ref b), s1, some (.bl nb), s3, some (.ref q), s5, some (.ref w), some (.ref g), s8, s9, some (.ref kk), s11, s12] H') :
    tFor (iSq K (tOp rAddM (tFn spNear (tCons (tVar 0) (tCons (tVar 4) (tCons (t60 0) (tCons (t60 1) tNil))))) (tLst (tCons (tVar 10) tNil)))) (gName 11) (tNearTurn K) Z [some (.ref b), s1, some (.bl nb), s3, some (.ref q), s5, some (.ref w), some (.ref g), s8, s9, some (.ref kk), s11, s12] H := by
  obtain ⟨p1, p2, t1, l1, t2, l2, ws, ts, ms, ms2, e0, e1, e2, e3, e4, e5, e6, n1, n2, f1, f2, f3, f4, f5, f6⟩ := hw.ex
  refine ⟨_, rfl, _, rfl, _, rfl, [.ref p1, .ref p2], .ref p1, by rw [e0]; rfl, rfl, [.ref t1, .ref l1], .ref t1, by rw [e1]; rfl, rfl, _, rfl, [.ref p1, .ref p2], .ref p1, by rw [e0]; rfl, rfl, [.ref t1, .ref l1], .ref l1, by rw [e1]; rfl, rfl,
    ⟨b, q, t1, l1, A, ws, ts, ms, c, rfl, hA, hA.sz, e3, e4, f1, f2, n1, n2, e5, f3, f4, hb, hc, fun r H1 s1' hb1 hn nrb => ⟨_, rfl, by show 1 ≤ sizeLine; decide +kernel, fun p hp => ?_⟩⟩⟩
  obtain ⟨xs, es, er, rx, zx, lx⟩ := hn
  have lx2 := rx.length
  have z1 := same_upd (o := .lst [.ref kk]) hp
  have ep : (upd H1 p (.lst [.ref kk])) p = some (.lst [.ref kk]) := upd_same
  have er2 := z1 _ _ er
  have hb2 := hb1.ext z1
  generalize upd H1 p (.lst [.ref kk]) = H2 at z1 ep er2 hb2 ⊢
  show rAddM (.ref r) (.ref p) H2 _
  unfold rAddM
  dsimp only
  rw [er2, ep]
  dsimp only
  refine ⟨Nat.le_of_lt (big1 (by rw [List.length_singleton]; omega)), fun p3 hp3 => ⟨p3, rfl, .inl ⟨xs ++ [.ref kk], .of upd_same, ?_⟩⟩⟩
  have z2 := same_upd (o := .lst (xs ++ [.ref kk])) hp3
  have e3' : (upd H2 p3 (.lst (xs ++ [.ref kk]))) p3 = some (.lst (xs ++ [.ref kk])) := upd_same
  have sAll : SmD b H (upd H2 p3 (.lst (xs ++ [.ref kk]))) := s1'.trans (.of (z1.trans z2))
  have hb3 := hb2.ext z2
  have rx3 := rx.mono (.of (z1.trans z2))
  generalize upd H2 p3 (.lst (xs ++ [.ref kk])) = H3 at e3' sAll hb3 rx3 ⊢
  have hx : ∀ x ∈ xs ++ [V.ref kk], ∃ e, DatB b H3 x e ∧ szD e := fun x hx => by
    rcases List.mem_append.mp hx with h | h
    · obtain ⟨i, hi⟩ := List.mem_iff_getElem?.mp h
      obtain ⟨d, hd, rv⟩ := RepL.get rx3 hi
      exact ⟨d, rv, zx d (List.mem_of_getElem? hd)⟩
    · rw [List.mem_singleton.mp h]
      exact ⟨.lst ds, .lst (sAll _ _ nkb ek) nkb (rk.mono sAll) (by unfold BL; omega), szD_lst (by omega)⟩
  have z := for_v (wi := fun _ H R => R (Itl K p3) H) (xs := xs ++ [.ref kk]) (j := 11) (tb := tNearTurn K) (D := Z) (σ := [some (.ref b), s1, some (.bl nb), s3, some (.ref q), s5, some (.ref w), some (.ref g), s8, s9, some (.ref kk), s11, s12]) (H := H3)
    ⟨Itl K p3, _, fun R r => r, walk_fnL (K := K), fun H' s' => .of (s' _ _ e3')⟩
    (fun k σ' H' => ∃ nb s11 s12, σ' = [some (.ref b), s1, some (.bl nb), s3, some (.ref q), s5, some (.ref w), some (.ref g), s8, s9, some (.ref kk), s11, s12] ∧ Same H3 H')
    ⟨_, _, _, rfl, .refl _⟩ (fun k σ' H' ⟨_, _, _, _, s⟩ => s) (fun i σ' H' hi ⟨nb', x11, x12, es, s⟩ => ?_) fun σ' H' ⟨nb', x11, x12, es, s⟩ => ?_
  · exact z
  · subst es
    dsimp only [List.set_cons_zero, List.set_cons_succ]
    have s0' := sAll.trans (.of s)
    obtain ⟨e, he, hz⟩ := hx _ (getD_mem hi)
    refine near_turn2 (ats_smd hA nqb hb s0') (s0' _ _ ngb eg) ((h1.mono s0').dat) ((h2.mono s0').dat) k1 k2 ((he.mono (.of s)).dat) hz fun s12 H4 s4 => ⟨_, _, _, rfl, s.trans s4⟩
  · subst es
    exact post nb' x11 x12 H' (sAll.trans (.of s)) (hb3.ext s)
end K44
set_option Elab.async false
set_option linter.all false
set_option maxRecDepth 100000
set_option maxHeartbeats 4000000
namespace K44
open PySem PySem.Spec PyProof.Rows L2 MT
open SX (S)
local macro_rules | `(tactic| walk_at "mt") => `(tactic| simp only [L2.start, List.map_cons, List.map_nil, List.length_cons, List.length_nil, List.replicate_succ, List.replicate_zero, Nat.reduceSub, Nat.reduceAdd, Nat.sub_self, Nat.zero_add, List.cons_append, List.nil_append, List.append_nil, List.getElem?_cons_zero, List.getElem?_cons_succ, List.set_cons_zero, List.set_cons_succ, Option.some.injEq, exists_eq_left', exists_eq_left, exists_eq_right, V.bl.injEq, V.int.injEq, V.str.injEq, V.ref.injEq, reduceCtorEq, false_and, and_false, true_and, and_true, false_or, or_false, exists_false, exists_const, ↓reduceIte, Bool.false_eq_true, decide_eq_true_eq, Bool.and_eq_true, Bool.not_true, Bool.not_false, List.cons.injEq, exists_and_left, exists_and_right,
  tRet, rInM, rNeI, rSortM, rIndexM, rRepM, rSetDM, rListDM, rPopAtM, tLstRg, tRg1, tDIn, tBM, tBM0, tAndV, tOrV, tNotV, tAnd, tOr, tNot, tB, tTest, tIf, tIfS, tC, tVar, tOp, tUn, tChain, rI0, rI, rU, tFn, tCons, tNil, tCB, tTup, tLst, tAsg, gName, tNext, tDrop, tRetN, tPar, tPar3, tAug, tReplC, tRevS, rLenM2, rIsBM, tDNotIn, tDGet, rSumM, rMaxM, rMinM, gSub, rSetL, tRaiseO, tFnW, tXf, gTup, gUnl, gCons, gNil, rPopM, rAppendM, rExtendM, rTupM, rListM, ipI, tIs, tIss, rLenM, rIxM, rAddM, rEqM, rNeM, rSignIn, rInt, rAbs, rStrI, tSl, tPart, tNoPart, rSlM, tIsN, tNotN, List.any_cons, List.any_nil, Bool.or_false, tSeq, isa, D.ty, decide_true, decide_false, Bool.true_or, Bool.or_true, Bool.false_or, Bool.and_true, Bool.true_and, Bool.false_and, Bool.and_false, eq_self_iff_true, not_true_eq_false, not_false_eq_true, bne_self_eq_false])
def spRight : Sp := fun vs H Q _ => ∃ b p d nb c, vs = [.ref b, .ref p, .bl nb] ∧ DatB b H (.ref p) d ∧ conjD d = true ∧ headsOk d = true ∧ manyD d ≤ 14 ∧ Bx H b c ∧ c ≤ 200000000 ∧ ∀ H', SmD b H H' → Bx H' b (c + 122) → Q (.bl true) H'
theorem pr_law_conjunction_right {K : PySem.W.Frag} (vs : List V) (H : Hp) (Q : VK) (E : XK) (h : spRight vs H Q E) : t_law_conjunction_right K spLeftOut spMixed spAsked (spSame 8) spLawLeft spLawTree spNear (E0N Q) (L2.start ["box", "conjunction", "named", "many", "atoms", "every", "ways", "given", "some", "told", "kept", "value", "due"] vs) H := by
  obtain ⟨b, p, d, nb, c, rfl, hd, hc1, hc2, hc3, hb, hc, post⟩ := h
  obtain ⟨m, ats, x, rfl, hx, hal, hg⟩ := conj_giv hc1
  obtain ⟨m', a', hp', ep', _, hA⟩ := conj_ats hd.dat hc1
  obtain ⟨p', q, us, hpp, ep, hq, npb, nqb, hu⟩ := datB_conj hd hx
  cases hpp
  cases hp'
  rw [ep] at ep'
  injection ep' with ep'
  injection ep' with ep'
  injection ep' with _ ep'
  injection ep' with ep' _
  injection ep' with ep'
  subst ep'
  have kk : ∀ t, Cj (varsD (.tup [.int m, x])) (givD m ats t) := fun t => by
    obtain ⟨z1, z2, z3, z4⟩ := hg t
    exact ⟨by rw [z1]; exact hc1, by rw [z2]; exact hc2, by rw [z3]; exact hc3, z4⟩
  generalize varsD (.tup [.int m, x]) = A at hA kk
  unfold t_law_conjunction_right
  generalize hW : (tLst (tCons (tFn spLeftOut _) _) : TE) = W
  generalize hG : (tLst (tCons (tTup (tCons (tVar 3) _)) _) : TE) = G
  generalize hT : (tIfS (tTest (tOp rNeM (tOp (rI0 _) _ _) _)) _ _ : TS) = T
  generalize hB : (tFor (iSq K (tRevL K (tVar 7))) _ _ : TS) = B
  generalize hC : (tSeq (tAsg (tCB rListM (tCons (tOp rIxM (tOp rIxM (tVar 9) _) _) tNil)) (gName 10)) _ : TS) = C
  walk_at "mt"
  refine ⟨[.int m, .ref q], .of ep, rfl, .int m, [.ref q], rfl, .ref q, [], rfl, rfl, ?_⟩
  walk_at "mt"
  obtain ⟨us', hus, hul, _⟩ := hA.ex
  have hA12 := hA.sz
  refine ⟨us', hus, RgOk.of_le (by omega) (by omega) (by omega) (by omega), fun ev hev => ?_⟩
  rw [hul, rgV_rng]
  obtain ⟨bs, eb⟩ : ∃ xs, H b = some (.lst xs) := by obtain ⟨n, g, m, k, eb, _⟩ := hb; exact ⟨_, eb⟩
  have neb := new_ne hb hev
  have s1 := same_upd (o := .lst ((rng A.length).map V.int)) hev
  have eev : (upd H ev (.lst ((rng A.length).map V.int))) ev = some (.lst ((rng A.length).map V.int)) := upd_same
  have hb1 := hb.ext s1
  generalize upd H ev (.lst ((rng A.length).map V.int)) = H1 at s1 eev hb1 ⊢
  subst hW
  refine ways_of (b := b) (q := q) (ev := ev) (A := A) rfl rfl rfl (hA.mono s1) eev neb nqb hb1 (by omega) fun w H2 s2 hb2 hw0 hA2 hw => ?_
  subst hT
  have s02 : SmD b H H2 := (SmD.of s1).trans s2
  refine way_gt hw rfl (.inl rfl) ?_
  refine way_gt hw rfl (.inr rfl) ⟨_, rfl, ?_⟩
  rw [decide_eq_true rfl]
  dsimp only
  rw [if_neg (by decide)]
  subst hG
  unfold tNext
  dsimp only
  unfold tSeq tAsg
  have hq2 : H2 q = some (.lst us) ∨ H2 q = some (.tup us) := hq.imp (fun z => s02 _ _ nqb z) fun z => s02 _ _ nqb z
  refine given_of (b := b) (q := q) rfl rfl hq2 nqb hb2 (hu.mono s02) hal fun g g1 g2 H3 s3 hg0 eg d1 d2 => ?_
  have hb3 := hb2.ext s3
  have ngb := new_ne hb2 hg0
  obtain ⟨bs3, eb3⟩ : ∃ xs, H3 b = some (.lst xs) := by obtain ⟨n, g, m, k, eb, _⟩ := hb3; exact ⟨_, eb⟩
  have hA3 := hA2.mono s3
  have hw3 := hw.mono s3
  subst hB
  refine tree_loop hA3 hw3 eg d1 d2 kk fun s8 r pp ll word vs ds H4 s4 t => ?_
  subst hC
  refine keep_part (q := q) eb3 hA12 s4 t eg d1 (kk false) fun k H5 s5 ek nkb rk => ?_
  refine near_all (hb3.ext s5) (by omega) (hA3.mono s5) nqb (hw3.mono s5) (s5 _ _ eg) ngb (d1.mono (.of s5)) (d2.mono (.of s5)) (kk false) (kk true) ek nkb rk (t.t.len hA12) fun nb' s11 s12 H6 s6 hb6 => ?_
  exact post H6 (s02.trans ((SmD.of (s3.trans s5)).trans s6)) (hb6.mono (by omega))
end K44
set_option Elab.async false
set_option linter.all false
set_option maxRecDepth 100000
set_option maxHeartbeats 4000000
namespace K44
open PySem PySem.Spec PyProof.Rows L2 MT
open SX (S)
local macro_rules | `(tactic| walk_at "mt") => `(tactic| simp only [L2.start, List.map_cons, List.map_nil, List.length_cons, List.length_nil, List.replicate_succ, List.replicate_zero, Nat.reduceSub, Nat.reduceAdd, Nat.sub_self, Nat.zero_add, List.cons_append, List.nil_append, List.append_nil, List.getElem?_cons_zero, List.getElem?_cons_succ, List.set_cons_zero, List.set_cons_succ, Option.some.injEq, exists_eq_left', exists_eq_left, exists_eq_right, V.bl.injEq, V.int.injEq, V.str.injEq, V.ref.injEq, reduceCtorEq, false_and, and_false, true_and, and_true, false_or, or_false, exists_false, exists_const, ↓reduceIte, Bool.false_eq_true, decide_eq_true_eq, Bool.and_eq_true, Bool.not_true, Bool.not_false, List.cons.injEq, exists_and_left, exists_and_right,
  tRet, rInM, rNeI, rSortM, rIndexM, rRepM, rSetDM, rListDM, rPopAtM, tLstRg, tRg1, tDIn, tBM, tBM0, tAndV, tOrV, tNotV, tAnd, tOr, tNot, tB, tTest, tIf, tIfS, tC, tVar, tOp, tUn, tChain, rI0, rI, rU, tFn, tCons, tNil, tCB, tTup, tLst, tAsg, gName, tNext, tDrop, tRetN, tPar, tPar3, tAug, tReplC, tRevS, rLenM2, rIsBM, tDNotIn, tDGet, rSumM, rMaxM, rMinM, gSub, rSetL, tRaiseO, tFnW, tXf, gTup, gUnl, gCons, gNil, rPopM, rAppendM, rExtendM, rTupM, rListM, ipI, tIs, tIss, rLenM, rIxM, rAddM, rEqM, rNeM, rSignIn, rInt, rAbs, rStrI, tSl, tPart, tNoPart, rSlM, tIsN, tNotN, List.any_cons, List.any_nil, Bool.or_false, tSeq, isa, D.ty, decide_true, decide_false, Bool.true_or, Bool.or_true, Bool.false_or, Bool.and_true, Bool.true_and, Bool.false_and, Bool.and_false, eq_self_iff_true, not_true_eq_false, not_false_eq_true, bne_self_eq_false])
/-! ### law_refused: the values that are none -/
/-- what growing changes, at an address of N -/
def GrowAt (N : Addr → Prop) (b : Addr) (H : Hp) (v : V) : Prop :=
  flatV v = true ∨ (∃ a, v = .ref a ∧ H a = some (.dK []) ∧ a ≠ b ∧ N a) ∨
  (∃ a xs ds, v = .ref a ∧ H a = some (.lst xs) ∧ a ≠ b ∧ N a ∧ RepL (D2 b a H) xs ds ∧ ds.length ≤ 100 ∧ depths ds ≤ 4) ∨
  (∃ t ws, v = .ref t ∧ H t = some (.tup ws) ∧ t ≠ b ∧ ws.length ≤ 100 ∧ ws.all flatV = true) ∨
  (∃ t a pre post xs ds p1 p2, v = .ref t ∧ H t = some (.tup (pre ++ .ref a :: post)) ∧ t ≠ b ∧ pre.length + post.length ≤ 100 ∧ pre.all flatV = true ∧ post.all flatV = true ∧ H a = some (.lst xs) ∧ a ≠ b ∧ N a ∧ RepL (D2 b a H) xs ds ∧ ds.length ≤ 100 ∧ depths ds ≤ 4 ∧ RepL noH pre p1 ∧ RepL noH post p2 ∧ depths p1 ≤ 4 ∧ depths p2 ≤ 4)
def BadAt (N : Addr → Prop) (b : Addr) (H : Hp) (v : V) : Prop := ∃ d, DatB b H v d ∧ conjD d = false ∧ headsOk d = true ∧ manyD d ≤ 100000 ∧ depth d ≤ 5 ∧ GrowAt N b H v
theorem GrowAt.mono {N : Addr → Prop} {b : Addr} {H H' : Hp} {v : V} (h : GrowAt N b H v) (s : SmD b H H') : GrowAt N b H' v := by
  rcases h with h | ⟨a, e, h1, h2, h3⟩ | ⟨a, xs, ds, e, h1, h2, h3, r, h4⟩ | ⟨t, ws, e, h1, h2, h3⟩ | ⟨t, a, pre, post, xs, ds, p1, p2, e, h1, h2, h3, h4, h5, h6, h7, h8, r, h9⟩
  · exact .inl h
  · exact .inr (.inl ⟨a, e, s _ _ h2 h1, h2, h3⟩)
  · exact .inr (.inr (.inl ⟨a, xs, ds, e, s _ _ h2 h1, h2, h3, RepL.mono (D2_same (.of s)) r, h4⟩))
  · exact .inr (.inr (.inr (.inl ⟨t, ws, e, s _ _ h2 h1, h2, h3⟩)))
  · exact .inr (.inr (.inr (.inr ⟨t, a, pre, post, xs, ds, p1, p2, e, s _ _ h2 h1, h2, h3, h4, h5, s _ _ h7 h6, h7, h8, RepL.mono (D2_same (.of s)) r, h9⟩)))
theorem GrowAt.chg {N M : Addr → Prop} {b : Addr} {H : Hp} {v : V} (h : GrowAt N b H v) (n : ∀ a, N a → H a ≠ none → M a) : GrowAt M b H v := by
  have ny : ∀ {a : Addr} {o : HO}, H a = some o → N a → M a := fun e k => n _ k fun z => by rw [z] at e; cases e
  rcases h with h | ⟨a, e, h1, h2, h3⟩ | ⟨a, xs, ds, e, h1, h2, h3, r, h4⟩ | ⟨t, ws, e, h1, h2, h3⟩ | ⟨t, a, pre, post, xs, ds, p1, p2, e, h1, h2, h3, h4, h5, h6, h7, h8, r, h9⟩
  · exact .inl h
  · exact .inr (.inl ⟨a, e, h1, h2, ny h1 h3⟩)
  · exact .inr (.inr (.inl ⟨a, xs, ds, e, h1, h2, ny h1 h3, r, h4⟩))
  · exact .inr (.inr (.inr (.inl ⟨t, ws, e, h1, h2, h3⟩)))
  · exact .inr (.inr (.inr (.inr ⟨t, a, pre, post, xs, ds, p1, p2, e, h1, h2, h3, h4, h5, h6, h7, ny h6 h8, r, h9⟩)))
theorem BadAt.mono {N : Addr → Prop} {b : Addr} {H H' : Hp} {v : V} (h : BadAt N b H v) (s : SmD b H H') : BadAt N b H' v := by
  obtain ⟨d, h1, h2, h3, h4, h5, h6⟩ := h
  exact ⟨d, h1.mono s, h2, h3, h4, h5, h6.mono s⟩
theorem BadAt.chg {N M : Addr → Prop} {b : Addr} {H : Hp} {v : V} (h : BadAt N b H v) (n : ∀ a, N a → H a ≠ none → M a) : BadAt M b H v := by
  obtain ⟨d, h1, h2, h3, h4, h5, h6⟩ := h
  exact ⟨d, h1, h2, h3, h4, h5, h6.chg n⟩
theorem free_smd {b a : Addr} {H H' : Hp} (s : SmD b H H') (n : a ≠ b) (h : H' a = none) : H a = none := by
  cases e : H a with
  | none => rfl
  | some o => rw [s _ _ n e] at h; cases h
theorem depths_app : ∀ {ds es : List D} {n : Nat}, depths ds ≤ n → depths es ≤ n → depths (ds ++ es) ≤ n
  | [], _, _, _, h => h
  | d :: ds, es, n, h, k => by
    unfold depths at h
    rw [List.cons_append]
    unfold depths
    have := depths_app (ds := ds) (es := es) (n := n) (by omega) k
    omega
section
variable {b : Addr} {H0 : Hp} {σ : L2.St} {te tx tl : TE} {ta : TA} {x : V} {d dx : D} {ds es : List D} {i k n : Nat}
/-- te tells the data d, no draws -/
def Nd (b : Addr) (H0 : Hp) (te : TE) (σ : L2.St) (d : D) : Prop := ∀ H c (Q : VK), SmD b H0 H → Bx H b c → (∀ v H', Same H H' → DatB b H' v d → Q v H') → te σ H Q
def Nds (b : Addr) (H0 : Hp) (ta : TA) (σ : L2.St) (ds : List D) : Prop := ∀ H c (Q : List V → Hp → Prop), SmD b H0 H → Bx H b c → (∀ vs H', Same H H' → DatsB b H' vs ds → Q vs H') → ta σ H Q
/-- te makes a list of the data ds -/
def Ndl (b : Addr) (H0 : Hp) (te : TE) (σ : L2.St) (ds : List D) : Prop := ∀ H c (Q : VK), SmD b H0 H → Bx H b c → (∀ a xs H', Same H H' → a ≠ b → H a = none → H' a = some (.lst xs) → RepL (D2 b a H') xs ds → Q (.ref a) H') → te σ H Q
/-- te tells the flat value x -/
structure Nf (te : TE) (σ : L2.St) (x : V) (d : D) : Prop where
  q : ∀ H (Q : VK), Q x H → te σ H Q
  r : Rep noH x d
  f : flatV x = true
  d0 : depth d = 0
theorem Nd.bxk {H H' : Hp} {c : Nat} (hb : Bx H b c) (s : Same H H') : Bx H' b c := hb.ext s
theorem Nds.nil : Nds b H0 tNil σ [] := fun H c Q s hb q => q [] H (.refl _) DatsB.nil
theorem Nds.cons (h : Nd b H0 te σ d) (r : Nds b H0 ta σ ds) : Nds b H0 (tCons te ta) σ (d :: ds) := fun H c Q s hb q => h H c _ s hb fun v H1 s1 r1 => r H1 c _ (s.trans (.of s1)) (hb.ext s1) fun vs H2 s2 r2 => q (v :: vs) H2 (s1.trans s2) (DatsB.cons (r1.mono (.of s2)) r2)
theorem Nf.nd (h : Nf te σ x d) : Nd b H0 te σ d := fun H c Q s hb q => h.q H _ (q x H (.refl _) (Rep.mono no_same h.r))
theorem Nf.int {k : Int} : Nf (tC (.int k)) σ (.int k) (.int k) := ⟨fun _ _ q => q, Rep.int k, rfl, by simp [depth]⟩
theorem Nf.non : Nf (tC .non) σ .non .non := ⟨fun _ _ q => q, Rep.non, rfl, by simp [depth]⟩
theorem Nf.bl {k : Bool} : Nf (tC (.bl k)) σ (.bl k) (.bl k) := ⟨fun _ _ q => q, Rep.bl k, rfl, by simp [depth]⟩
theorem Nf.str {l : List Nat} (h : l.length ≤ BL) : Nf (tC (.str (S l))) σ (.str (S l)) (.str l) := ⟨fun _ _ q => q, Rep.str h, rfl, by simp [depth]⟩
theorem Nf.neg {k : Int} : Nf (tUn (rU fun i => .int (-i)) (tC (.int k))) σ (.int (-k)) (.int (-k)) := ⟨fun _ _ q => ⟨k, rfl, q⟩, Rep.int _, rfl, by simp [depth]⟩
theorem Nf.var {k : Int} (h : σ[i]? = some (some (.int k))) : Nf (tVar i) σ (.int k) (.int k) := ⟨fun _ _ q => ⟨_, h, q⟩, Rep.int k, rfl, by simp [depth]⟩
theorem Nd.tup (h : Nds b H0 ta σ ds) (hl : ds.length ≤ 100) : Nd b H0 (tTup ta) σ (.tup ds) := fun H c Q s hb q => h H c _ s hb fun vs H1 s1 r1 => ⟨Nat.le_of_lt (big1 (by have := r1.length; omega)), fun p hp =>
  q _ _ (s1.trans (same_upd hp)) (.tup upd_same (new_ne (hb.ext s1) hp) (r1.mono (.of (same_upd hp))) (by unfold BL; omega))⟩
theorem Ndl.disp (h : Nds b H0 ta σ ds) (hl : ds.length ≤ 100) : Ndl b H0 (tLst ta) σ ds := fun H c Q s hb q => h H c _ s hb fun vs H1 s1 r1 => ⟨Nat.le_of_lt (big1 (by have := r1.length; omega)), fun p hp => by
  have np := new_ne (hb.ext s1) hp
  refine q p vs _ (s1.trans (same_upd hp)) np (Same.free s1 hp) upd_same (RepL.mono (fun x o e => ?_) r1)
  have nx : x ≠ p := fun z => by rw [z, del_ne np, hp] at e; cases e
  unfold D2
  rw [del_ne nx]
  exact del_smd (.of (same_upd hp)) x o e⟩
theorem Ndl.nd (h : Ndl b H0 te σ ds) (hl : ds.length ≤ 100) : Nd b H0 te σ (.lst ds) := fun H c Q s hb q => h H c _ s hb fun a xs H' s1 n _ e r => q _ H' s1 (.lst e n (RepL.mono D2_sub r) (by unfold BL; omega))
end
end K44
set_option Elab.async false
set_option linter.all false
set_option maxRecDepth 100000
set_option maxHeartbeats 4000000
namespace K44
open PySem PySem.Spec PyProof.Rows L2 MT
open SX (S)
local macro_rules | `(tactic| walk_at "mt") => `(tactic| simp only [L2.start, List.map_cons, List.map_nil, List.length_cons, List.length_nil, List.replicate_succ, List.replicate_zero, Nat.reduceSub, Nat.reduceAdd, Nat.sub_self, Nat.zero_add, List.cons_append, List.nil_append, List.append_nil, List.getElem?_cons_zero, List.getElem?_cons_succ, List.set_cons_zero, List.set_cons_succ, Option.some.injEq, exists_eq_left', exists_eq_left, exists_eq_right, V.bl.injEq, V.int.injEq, V.str.injEq, V.ref.injEq, reduceCtorEq, false_and, and_false, true_and, and_true, false_or, or_false, exists_false, exists_const, ↓reduceIte, Bool.false_eq_true, decide_eq_true_eq, Bool.and_eq_true, Bool.not_true, Bool.not_false, List.cons.injEq, exists_and_left, exists_and_right,
  tRet, rInM, rNeI, rSortM, rIndexM, rRepM, rSetDM, rListDM, rPopAtM, tLstRg, tRg1, tDIn, tBM, tBM0, tAndV, tOrV, tNotV, tAnd, tOr, tNot, tB, tTest, tIf, tIfS, tC, tVar, tOp, tUn, tChain, rI0, rI, rU, tFn, tCons, tNil, tCB, tTup, tLst, tAsg, gName, tNext, tDrop, tRetN, tPar, tPar3, tAug, tReplC, tRevS, rLenM2, rIsBM, tDNotIn, tDGet, rSumM, rMaxM, rMinM, gSub, rSetL, tRaiseO, tFnW, tXf, gTup, gUnl, gCons, gNil, rPopM, rAppendM, rExtendM, rTupM, rListM, ipI, tIs, tIss, rLenM, rIxM, rAddM, rEqM, rNeM, rSignIn, rInt, rAbs, rStrI, tSl, tPart, tNoPart, rSlM, tIsN, tNotN, List.any_cons, List.any_nil, Bool.or_false, tSeq, isa, D.ty, decide_true, decide_false, Bool.true_or, Bool.or_true, Bool.false_or, Bool.and_true, Bool.true_and, Bool.false_and, Bool.and_false, eq_self_iff_true, not_true_eq_false, not_false_eq_true, bne_self_eq_false])
theorem conj_1 (d : D) : conjD (.tup [d]) = false ∧ headsOk (.tup [d]) = true ∧ manyD (.tup [d]) ≤ 100000 := by cases d <;> exact ⟨rfl, rfl, by show (0 : Int) ≤ 100000; omega⟩
theorem conj_3 (d e f : D) : conjD (.tup [d, e, f]) = false ∧ headsOk (.tup [d, e, f]) = true ∧ manyD (.tup [d, e, f]) ≤ 100000 := by cases d <;> exact ⟨rfl, rfl, by show (0 : Int) ≤ 100000; omega⟩
section
variable {b : Addr} {H0 : Hp} {σ : L2.St} {te tx ty tl : TE} {ta : TA} {x y : V} {d dx dy : D} {ds es : List D} {i k n : Nat}
/-- te tells a value that is none -/
def NB (b : Addr) (H0 : Hp) (te : TE) (σ : L2.St) : Prop := ∀ H c (Q : VK), SmD b H0 H → Bx H b c → (∀ v H', Same H H' → BadAt (fun a => H0 a = none) b H' v → Q v H') → te σ H Q
def NBs (b : Addr) (H0 : Hp) (k : Nat) (ta : TA) (σ : L2.St) : Prop := ∀ H c (Q : List V → Hp → Prop), SmD b H0 H → Bx H b c → (∀ vs H', Same H H' → (∀ v ∈ vs, BadAt (fun a => H0 a = none) b H' v) → vs.length = k → Q vs H') → ta σ H Q
theorem NBs.nil : NBs b H0 0 tNil σ := fun H c Q s hb q => q [] H (.refl _) (by simp) rfl
theorem NBs.cons (h : NB b H0 te σ) (r : NBs b H0 k ta σ) : NBs b H0 (k + 1) (tCons te ta) σ := fun H c Q s hb q => h H c _ s hb fun v H1 s1 r1 => r H1 c _ (s.trans (.of s1)) (hb.ext s1) fun vs H2 s2 r2 hk => q (v :: vs) H2 (s1.trans s2) (fun w hw => (List.mem_cons.mp hw).elim (fun e => by rw [e]; exact r1.mono (.of s2)) (r2 w)) (by rw [List.length_cons, hk])
theorem NB.flat (h : Nf te σ x d) (h1 : conjD d = false) (h2 : headsOk d = true) (h3 : manyD d ≤ 100000) : NB b H0 te σ := fun H c Q s hb q => h.q H _ (q x H (.refl _) ⟨d, Rep.mono no_same h.r, h1, h2, h3, by rw [h.d0]; omega, .inl h.f⟩)
theorem NB.dct : NB b H0 tDNewK σ := fun H c Q s hb q p hp => by
  have np := new_ne hb hp
  exact q _ _ (same_upd hp) ⟨.dct [], .dct upd_same np, rfl, rfl, by decide, by simp [depth], .inr (.inl ⟨p, rfl, upd_same, np, free_smd s np hp⟩)⟩
theorem NB.lst (h : Ndl b H0 te σ ds) (hl : ds.length ≤ 100) (hd : depths ds ≤ 4) : NB b H0 te σ := fun H c Q s hb q => h H c _ s hb fun a xs H' s1 n hn0 e r => q _ H' s1 ⟨.lst ds, .lst e n (RepL.mono D2_sub r) (by unfold BL; omega), rfl, rfl, by show (0 : Int) ≤ 100000; omega, by simp only [depth]; omega, .inr (.inr (.inl ⟨a, xs, ds, rfl, e, n, free_smd s n hn0, r, hl, hd⟩))⟩
theorem NB.nilT : NB b H0 (tTup tNil) σ := fun H c Q s hb q => ⟨Nat.zero_le _, fun p hp => by
  have np := new_ne hb hp
  exact q _ _ (same_upd hp) ⟨.tup [], .tup upd_same np DatsB.nil (by unfold BL; simp), rfl, rfl, by decide, by simp [depth, depths], .inr (.inr (.inr (.inl ⟨p, [], rfl, upd_same, np, by simp, rfl⟩)))⟩⟩
theorem NB.tup1 (h : Nf tx σ x dx) : NB b H0 (tTup (tCons tx tNil)) σ := fun H c Q s hb q => h.q H _ ⟨by show 1 ≤ sizeLine; decide +kernel, fun p hp => by
  have np := new_ne hb hp
  refine q _ _ (same_upd hp) ⟨.tup [dx], .tup upd_same np (.cons (Rep.mono no_same h.r) .nil) (by unfold BL; simp), (conj_1 _).1, (conj_1 _).2.1, (conj_1 _).2.2, by simp [depth, depths, h.d0], .inr (.inr (.inr (.inl ⟨p, [x], rfl, upd_same, np, by simp, by simp [h.f]⟩)))⟩⟩
theorem NB.tup2f (h : Nf tx σ x dx) (h' : Nf ty σ y dy) (h1 : conjD (.tup [dx, dy]) = false) (h2 : headsOk (.tup [dx, dy]) = true) (h3 : manyD (.tup [dx, dy]) ≤ 100000) : NB b H0 (tTup (tCons tx (tCons ty tNil))) σ := fun H c Q s hb q => h.q H _ (h'.q H _ ⟨by show 2 ≤ sizeLine; decide +kernel, fun p hp => by
  have np := new_ne hb hp
  refine q _ _ (same_upd hp) ⟨.tup [dx, dy], .tup upd_same np (.cons (Rep.mono no_same h.r) (.cons (Rep.mono no_same h'.r) .nil)) (by unfold BL; simp), h1, h2, h3, by simp [depth, depths, h.d0, h'.d0], .inr (.inr (.inr (.inl ⟨p, [x, y], rfl, upd_same, np, by simp, by simp [h.f, h'.f]⟩)))⟩⟩)
theorem d2_new {a p : Addr} {H : Hp} {o : HO} {xs : List V} (hp : H p = none) (r : RepL (D2 b a H) xs ds) : RepL (D2 b a (upd H p o)) xs ds := RepL.mono (D2_same (.of (.of (same_upd hp)))) r
theorem NB.tup2 (h : Nf tx σ x dx) (hl : Ndl b H0 tl σ ds) (hn : ds.length ≤ 100) (hd : depths ds ≤ 3) (h1 : conjD (.tup [dx, .lst ds]) = false) (h2 : headsOk (.tup [dx, .lst ds]) = true) (h3 : manyD (.tup [dx, .lst ds]) ≤ 100000) : NB b H0 (tTup (tCons tx (tCons tl tNil))) σ := fun H c Q s hb q => h.q H _ (hl H c _ s hb fun a xs H1 s1 n hn0 e r => ⟨by show 2 ≤ sizeLine; decide +kernel, fun p hp => by
  have np := new_ne (hb.ext s1) hp
  have r2 := d2_new (o := .tup [x, .ref a]) hp r
  have e2 := same_upd (o := .tup [x, .ref a]) hp _ _ e
  refine q _ _ (s1.trans (same_upd hp)) ⟨.tup [dx, .lst ds], .tup upd_same np (.cons (Rep.mono no_same h.r) (.cons (.lst e2 n (RepL.mono D2_sub r2) (by unfold BL; omega)) .nil)) (by unfold BL; simp), h1, h2, h3, by simp [depth, depths, h.d0]; omega, .inr (.inr (.inr (.inr ⟨p, a, [x], [], xs, ds, [dx], [], rfl, upd_same, np, by simp, by simp [h.f], rfl, e2, n, free_smd s n hn0, r2, hn, by omega, RepL.cons h.r RepL.nil, RepL.nil, by simp [depths, h.d0], by simp [depths]⟩)))⟩⟩)
theorem NB.tup3 (h : Nf tx σ x dx) (hl : Ndl b H0 tl σ ds) (h' : Nf ty σ y dy) (hn : ds.length ≤ 100) (hd : depths ds ≤ 3) : NB b H0 (tTup (tCons tx (tCons tl (tCons ty tNil)))) σ := fun H c Q s hb q => h.q H _ (hl H c _ s hb fun a xs H1 s1 n hn0 e r => h'.q H1 _ ⟨by show 3 ≤ sizeLine; decide +kernel, fun p hp => by
  have np := new_ne (hb.ext s1) hp
  have r2 := d2_new (o := .tup [x, .ref a, y]) hp r
  have e2 := same_upd (o := .tup [x, .ref a, y]) hp _ _ e
  refine q _ _ (s1.trans (same_upd hp)) ⟨.tup [dx, .lst ds, dy], .tup upd_same np (.cons (Rep.mono no_same h.r) (.cons (.lst e2 n (RepL.mono D2_sub r2) (by unfold BL; omega)) (.cons (Rep.mono no_same h'.r) .nil))) (by unfold BL; simp), (conj_3 _ _ _).1, (conj_3 _ _ _).2.1, (conj_3 _ _ _).2.2, by simp [depth, depths, h.d0, h'.d0]; omega, .inr (.inr (.inr (.inr ⟨p, a, [x], [y], xs, ds, [dx], [dy], rfl, upd_same, np, by simp, by simp [h.f], by simp [h'.f], e2, n, free_smd s n hn0, r2, hn, by omega, RepL.cons h.r RepL.nil, RepL.cons h'.r RepL.nil, by simp [depths, h.d0], by simp [depths, h'.d0]⟩)))⟩⟩)
theorem Nd.var {v : V} (h : σ[i]? = some (some v)) (r : DatB b H0 v d) : Nd b H0 (tVar i) σ d := fun H c Q s hb q => ⟨_, h, q v H (.refl _) (r.mono s)⟩
theorem Ndl.list {q : Addr} {us : List V} (h : σ[i]? = some (some (.ref q))) (nq : q ≠ b) (e : seqO (H0 q) = some us) (r : DatsB b H0 us ds) : Ndl b H0 (tCB rListM (tCons (tVar i) tNil)) σ ds := fun H c Q s hb k => by
  have e2 : seqO (H q) = some us := by
    cases z : H0 q with
    | none => rw [z] at e; cases e
    | some o => rw [s _ _ nq z, ← z]; exact e
  refine ⟨_, h, us, e2, fun p hp => ?_⟩
  have np := new_ne hb hp
  refine k p us _ (same_upd hp) np hp upd_same (RepL.mono (fun x o e => ?_) (r.mono s))
  have nx : x ≠ p := fun z => by rw [z, del_ne np, hp] at e; cases e
  unfold D2
  rw [del_ne nx]
  exact del_smd (.of (same_upd hp)) x o e
theorem Ndl.rep13 {v : V} (h : σ[i]? = some (some v)) (r : DatB b H0 v d) : Ndl b H0 (tOp rRepM (tLst (tCons (tVar i) tNil)) (tC (.int 13))) σ (List.replicate 13 d) := fun H c Q s hb k => by
  refine ⟨_, h, by show 1 ≤ sizeLine; decide +kernel, fun p1 hp1 => ?_⟩
  refine ⟨[v], upd_same, by decide, by decide, by simp, fun p hp => ?_⟩
  have s1 := same_upd (o := .lst [v]) hp1
  have np := new_ne (hb.ext s1) hp
  have r1 := (r.mono s).mono (.of s1)
  have rr : ∀ n, DatsB b (upd H p1 (.lst [v])) (List.replicate n [v]).flatten (List.replicate n d) := fun n => by
    induction n with
    | zero => exact DatsB.nil
    | succ n ih => exact DatsB.cons r1 ih
  refine k p _ _ (s1.trans (same_upd hp)) np (Same.free s1 hp) upd_same (RepL.mono (fun x o e => ?_) (rr 13))
  have nx : x ≠ p := fun z => by rw [z, del_ne np, hp] at e; cases e
  unfold D2
  rw [del_ne nx]
  exact del_smd (.of (same_upd hp)) x o e
end
end K44
set_option Elab.async false
set_option linter.all false
set_option maxRecDepth 100000
set_option maxHeartbeats 4000000
namespace K44
open PySem PySem.Spec PyProof.Rows L2 MT
open SX (S)
local macro_rules | `(tactic| walk_at "mt") => `(tactic| simp only [L2.start, List.map_cons, List.map_nil, List.length_cons, List.length_nil, List.replicate_succ, List.replicate_zero, Nat.reduceSub, Nat.reduceAdd, Nat.sub_self, Nat.zero_add, List.cons_append, List.nil_append, List.append_nil, List.getElem?_cons_zero, List.getElem?_cons_succ, List.set_cons_zero, List.set_cons_succ, Option.some.injEq, exists_eq_left', exists_eq_left, exists_eq_right, V.bl.injEq, V.int.injEq, V.str.injEq, V.ref.injEq, reduceCtorEq, false_and, and_false, true_and, and_true, false_or, or_false, exists_false, exists_const, ↓reduceIte, Bool.false_eq_true, decide_eq_true_eq, Bool.and_eq_true, Bool.not_true, Bool.not_false, List.cons.injEq, exists_and_left, exists_and_right,
  tRet, rInM, rNeI, rSortM, rIndexM, rRepM, rSetDM, rListDM, rPopAtM, tLstRg, tRg1, tDIn, tBM, tBM0, tAndV, tOrV, tNotV, tAnd, tOr, tNot, tB, tTest, tIf, tIfS, tC, tVar, tOp, tUn, tChain, rI0, rI, rU, tFn, tCons, tNil, tCB, tTup, tLst, tAsg, gName, tNext, tDrop, tRetN, tPar, tPar3, tAug, tReplC, tRevS, rLenM2, rIsBM, tDNotIn, tDGet, rSumM, rMaxM, rMinM, gSub, rSetL, tRaiseO, tFnW, tXf, gTup, gUnl, gCons, gNil, rPopM, rAppendM, rExtendM, rTupM, rListM, ipI, tIs, tIss, rLenM, rIxM, rAddM, rEqM, rNeM, rSignIn, rInt, rAbs, rStrI, tSl, tPart, tNoPart, rSlM, tIsN, tNotN, List.any_cons, List.any_nil, Bool.or_false, tSeq, isa, D.ty, decide_true, decide_false, Bool.true_or, Bool.or_true, Bool.false_or, Bool.and_true, Bool.true_and, Bool.false_and, Bool.and_false, eq_self_iff_true, not_true_eq_false, not_false_eq_true, bne_self_eq_false])
abbrev tBad1 : TA := (tCons (tC .non) (tCons (tC (.int 7)) (tCons (tC (.str (S [97, 116, 111, 109, 115]))) (tCons tDNewK (tCons (tTup tNil) (tCons (tLst (tCons (tVar 3) (tCons (tCB rListM (tCons (tVar 4) tNil)) tNil))) (tCons (tTup (tCons (tVar 3) tNil)) (tCons (tTup (tCons (tVar 3) (tCons (tCB rListM (tCons (tVar 4) tNil)) (tCons (tC (.int 1)) tNil)))) (tCons (tTup (tCons (tUn (rU fun i => .int (-i)) (tC (.int 1))) (tCons (tLst tNil) tNil))) (tCons (tTup (tCons (tC (.bl true)) (tCons (tLst tNil) tNil))) (tCons (tTup (tCons (tC (.str (S [49]))) (tCons (tLst tNil) tNil))) (tCons (tTup (tCons (tVar 3) (tCons (tC .non) tNil))) (tCons (tTup (tCons (tVar 3) (tCons (tC (.str (S [101, 100, 103, 101]))) tNil))) (tCons (tTup (tCons (tC (.int 1)) (tCons (tOp rRepM (tLst (tCons (tVar 5) tNil)) (tC (.int 13))) tNil))) tNil))))))))))))))
abbrev tBad2 : TA := (tCons (tTup (tCons (tC (.int 1)) (tCons (tLst (tCons (tTup (tCons (tC (.str (S [111, 117, 116]))) (tCons (tC (.str (S [101, 100, 103, 101]))) (tCons (tTup (tCons (tC (.int 0)) (tCons (tC (.int 0)) tNil))) tNil)))) tNil)) tNil))) (tCons (tTup (tCons (tC (.int 1)) (tCons (tLst (tCons (tTup (tCons (tC (.str (S [115, 97, 109, 101]))) (tCons (tC (.int 0)) (tCons (tC (.int 0)) tNil)))) tNil)) tNil))) (tCons (tTup (tCons (tC (.int 1)) (tCons (tLst (tCons (tTup (tCons (tC (.str (S [105, 110]))) (tCons (tC (.str (S [69, 100, 103, 101]))) (tCons (tTup (tCons (tC (.int 0)) (tCons (tC (.int 0)) tNil))) tNil)))) tNil)) tNil))) (tCons (tTup (tCons (tC (.int 1)) (tCons (tLst (tCons (tTup (tCons (tC (.str (S [105, 110]))) (tCons (tC (.str (S [101, 100, 103, 101]))) (tCons (tLst (tCons (tC (.int 0)) (tCons (tC (.int 0)) tNil))) tNil)))) tNil)) tNil))) (tCons (tTup (tCons (tC (.int 1)) (tCons (tLst (tCons (tTup (tCons (tC (.str (S [105, 110]))) (tCons (tC (.str (S [101, 100, 103, 101]))) (tCons (tTup tNil) tNil)))) tNil)) tNil))) (tCons (tTup (tCons (tC (.int 1)) (tCons (tLst (tCons (tTup (tCons (tC (.str (S [105, 110]))) (tCons (tC (.str (S [101, 100, 103, 101]))) (tCons (tTup (tCons (tC (.int 0)) (tCons (tC (.int 0)) (tCons (tC (.int 0)) (tCons (tC (.int 0)) tNil))))) tNil)))) tNil)) tNil))) tNil))))))
abbrev tBad3 : TA := (tCons (tTup (tCons (tC (.int 1)) (tCons (tLst (tCons (tTup (tCons (tC (.str (S [105, 110]))) (tCons (tC (.str (S [101, 100, 103, 101]))) (tCons (tTup (tCons (tC (.int 0)) (tCons (tC (.int 1)) tNil))) tNil)))) tNil)) tNil))) (tCons (tTup (tCons (tC (.int 1)) (tCons (tLst (tCons (tTup (tCons (tC (.str (S [105, 110]))) (tCons (tC (.str (S [101, 100, 103, 101]))) (tCons (tTup (tCons (tC (.int 0)) (tCons (tC (.bl true)) tNil))) tNil)))) tNil)) tNil))) (tCons (tTup (tCons (tC (.int 1)) (tCons (tLst (tCons (tCB rListM (tCons (tVar 5) tNil)) tNil)) tNil))) (tCons (tTup (tCons (tC (.int 1)) (tCons (tLst (tCons (tTup (tCons (tC (.str (S [105, 110]))) (tCons (tC (.str (S []))) (tCons (tTup (tCons (tC (.int 0)) tNil)) tNil)))) tNil)) tNil))) (tCons (tTup (tCons (tC (.int 1)) (tCons (tLst (tCons (tTup (tCons (tC (.str (S [105, 110]))) (tCons (tC (.str (S [97, 98, 99, 100, 101, 102, 103, 104, 105, 106, 107, 108, 109]))) (tCons (tTup (tCons (tC (.int 0)) tNil)) tNil)))) tNil)) tNil))) (tCons (tTup (tCons (tC (.int 1)) (tCons (tLst (tCons (tTup (tCons (tC (.str (S [105, 110]))) (tCons (tC (.int 5)) (tCons (tTup (tCons (tC (.int 0)) tNil)) tNil)))) tNil)) tNil))) (tCons (tTup (tCons (tC (.int 1)) (tCons (tLst (tCons (tC .non) tNil)) tNil))) tNil)))))))
abbrev dTwo : D := .tup [.str [105, 110], .str [101, 100, 103, 101], .tup [.int 0, .int 0]]
theorem conj_no (m : Int) (x : D) (h : itemsD x = none) : conjD (.tup [.int m, x]) = false ∧ headsOk (.tup [.int m, x]) = true := by
  unfold conjD headsOk
  dsimp only
  rw [h]
  exact ⟨Bool.and_false _, rfl⟩
section
variable {b q tw : Addr} {H0 : Hp} {σ : L2.St} {m : Int} {us ws : List V} {ats : List D}
theorem bad1 (h3 : σ[3]? = some (some (.int m))) (h4 : σ[4]? = some (some (.ref q))) (h5 : σ[5]? = some (some (.ref tw))) (nqb : q ≠ b) (eq : seqO (H0 q) = some us) (rq : DatsB b H0 us ats) (hal : ats.length ≤ 12) (had : depths ats ≤ 2) (hm : m ≤ 14) (dtw : DatB b H0 (.ref tw) dTwo) : NBs b H0 14 tBad1 σ :=
  (NBs.cons (NB.flat Nf.non rfl rfl (by decide))
    (NBs.cons (NB.flat (Nf.int (k := 7)) rfl rfl (by decide))
    (NBs.cons (NB.flat (Nf.str (l := [97, 116, 111, 109, 115]) (by unfold BL; decide)) rfl rfl (by decide))
    (NBs.cons (NB.dct)
    (NBs.cons (NB.nilT)
    (NBs.cons (NB.lst (Ndl.disp (Nds.cons (Nf.var h3).nd (Nds.cons (Ndl.nd (Ndl.list h4 nqb eq rq) (by omega)) Nds.nil)) (by simp)) (by simp) (by simp [depths, depth]; omega))
    (NBs.cons (NB.tup1 (Nf.var h3))
    (NBs.cons (NB.tup3 (Nf.var h3) (Ndl.list h4 nqb eq rq) (Nf.int (k := 1)) (by omega) (by omega))
    (NBs.cons (NB.tup2 (Nf.neg (k := 1)) (Ndl.disp Nds.nil (by simp)) (by simp) (by simp [depths]) (by decide +kernel) (by decide +kernel) (by decide +kernel))
    (NBs.cons (NB.tup2 (Nf.bl (k := true)) (Ndl.disp Nds.nil (by simp)) (by simp) (by simp [depths]) (by decide +kernel) (by decide +kernel) (by decide +kernel))
    (NBs.cons (NB.tup2 (Nf.str (l := [49]) (by unfold BL; decide)) (Ndl.disp Nds.nil (by simp)) (by simp) (by simp [depths]) (by decide +kernel) (by decide +kernel) (by decide +kernel))
    (NBs.cons (NB.tup2f (Nf.var h3) Nf.non (conj_no _ _ rfl).1 (conj_no _ _ rfl).2 (by show m ≤ 100000; omega))
    (NBs.cons (NB.tup2f (Nf.var h3) (Nf.str (l := [101, 100, 103, 101]) (by unfold BL; decide)) (conj_no _ _ rfl).1 (conj_no _ _ rfl).2 (by show m ≤ 100000; omega))
    (NBs.cons (NB.tup2 (Nf.int (k := 1)) (Ndl.rep13 h5 dtw) (by simp) (by simp [List.replicate, depths, depth, dTwo]) (by decide +kernel) (by decide +kernel) (by decide +kernel))
    NBs.nil))))))))))))))
theorem bad2 : NBs b H0 6 tBad2 σ :=
  (NBs.cons (NB.tup2 (Nf.int (k := 1)) (Ndl.disp (Nds.cons (Nd.tup (Nds.cons (Nf.str (l := [111, 117, 116]) (by unfold BL; decide)).nd (Nds.cons (Nf.str (l := [101, 100, 103, 101]) (by unfold BL; decide)).nd (Nds.cons (Nd.tup (Nds.cons (Nf.int (k := 0)).nd (Nds.cons (Nf.int (k := 0)).nd Nds.nil)) (by simp)) Nds.nil))) (by simp)) Nds.nil) (by simp)) (by simp) (by simp [depths, depth]) (by decide +kernel) (by decide +kernel) (by decide +kernel))
    (NBs.cons (NB.tup2 (Nf.int (k := 1)) (Ndl.disp (Nds.cons (Nd.tup (Nds.cons (Nf.str (l := [115, 97, 109, 101]) (by unfold BL; decide)).nd (Nds.cons (Nf.int (k := 0)).nd (Nds.cons (Nf.int (k := 0)).nd Nds.nil))) (by simp)) Nds.nil) (by simp)) (by simp) (by simp [depths, depth]) (by decide +kernel) (by decide +kernel) (by decide +kernel))
    (NBs.cons (NB.tup2 (Nf.int (k := 1)) (Ndl.disp (Nds.cons (Nd.tup (Nds.cons (Nf.str (l := [105, 110]) (by unfold BL; decide)).nd (Nds.cons (Nf.str (l := [69, 100, 103, 101]) (by unfold BL; decide)).nd (Nds.cons (Nd.tup (Nds.cons (Nf.int (k := 0)).nd (Nds.cons (Nf.int (k := 0)).nd Nds.nil)) (by simp)) Nds.nil))) (by simp)) Nds.nil) (by simp)) (by simp) (by simp [depths, depth]) (by decide +kernel) (by decide +kernel) (by decide +kernel))
    (NBs.cons (NB.tup2 (Nf.int (k := 1)) (Ndl.disp (Nds.cons (Nd.tup (Nds.cons (Nf.str (l := [105, 110]) (by unfold BL; decide)).nd (Nds.cons (Nf.str (l := [101, 100, 103, 101]) (by unfold BL; decide)).nd (Nds.cons (Ndl.nd (Ndl.disp (Nds.cons (Nf.int (k := 0)).nd (Nds.cons (Nf.int (k := 0)).nd Nds.nil)) (by simp)) (by simp)) Nds.nil))) (by simp)) Nds.nil) (by simp)) (by simp) (by simp [depths, depth]) (by decide +kernel) (by decide +kernel) (by decide +kernel))
    (NBs.cons (NB.tup2 (Nf.int (k := 1)) (Ndl.disp (Nds.cons (Nd.tup (Nds.cons (Nf.str (l := [105, 110]) (by unfold BL; decide)).nd (Nds.cons (Nf.str (l := [101, 100, 103, 101]) (by unfold BL; decide)).nd (Nds.cons (Nd.tup Nds.nil (by simp)) Nds.nil))) (by simp)) Nds.nil) (by simp)) (by simp) (by simp [depths, depth]) (by decide +kernel) (by decide +kernel) (by decide +kernel))
    (NBs.cons (NB.tup2 (Nf.int (k := 1)) (Ndl.disp (Nds.cons (Nd.tup (Nds.cons (Nf.str (l := [105, 110]) (by unfold BL; decide)).nd (Nds.cons (Nf.str (l := [101, 100, 103, 101]) (by unfold BL; decide)).nd (Nds.cons (Nd.tup (Nds.cons (Nf.int (k := 0)).nd (Nds.cons (Nf.int (k := 0)).nd (Nds.cons (Nf.int (k := 0)).nd (Nds.cons (Nf.int (k := 0)).nd Nds.nil)))) (by simp)) Nds.nil))) (by simp)) Nds.nil) (by simp)) (by simp) (by simp [depths, depth]) (by decide +kernel) (by decide +kernel) (by decide +kernel))
    NBs.nil))))))
theorem bad3 (h5 : σ[5]? = some (some (.ref tw))) (ntb : tw ≠ b) (etw : seqO (H0 tw) = some ws) (rtw : DatsB b H0 ws [.str [105, 110], .str [101, 100, 103, 101], .tup [.int 0, .int 0]]) : NBs b H0 7 tBad3 σ :=
  (NBs.cons (NB.tup2 (Nf.int (k := 1)) (Ndl.disp (Nds.cons (Nd.tup (Nds.cons (Nf.str (l := [105, 110]) (by unfold BL; decide)).nd (Nds.cons (Nf.str (l := [101, 100, 103, 101]) (by unfold BL; decide)).nd (Nds.cons (Nd.tup (Nds.cons (Nf.int (k := 0)).nd (Nds.cons (Nf.int (k := 1)).nd Nds.nil)) (by simp)) Nds.nil))) (by simp)) Nds.nil) (by simp)) (by simp) (by simp [depths, depth]) (by decide +kernel) (by decide +kernel) (by decide +kernel))
    (NBs.cons (NB.tup2 (Nf.int (k := 1)) (Ndl.disp (Nds.cons (Nd.tup (Nds.cons (Nf.str (l := [105, 110]) (by unfold BL; decide)).nd (Nds.cons (Nf.str (l := [101, 100, 103, 101]) (by unfold BL; decide)).nd (Nds.cons (Nd.tup (Nds.cons (Nf.int (k := 0)).nd (Nds.cons (Nf.bl (k := true)).nd Nds.nil)) (by simp)) Nds.nil))) (by simp)) Nds.nil) (by simp)) (by simp) (by simp [depths, depth]) (by decide +kernel) (by decide +kernel) (by decide +kernel))
    (NBs.cons (NB.tup2 (Nf.int (k := 1)) (Ndl.disp (Nds.cons (Ndl.nd (Ndl.list h5 ntb etw rtw) (by simp)) Nds.nil) (by simp)) (by simp) (by simp [depths, depth]) (by decide +kernel) (by decide +kernel) (by decide +kernel))
    (NBs.cons (NB.tup2 (Nf.int (k := 1)) (Ndl.disp (Nds.cons (Nd.tup (Nds.cons (Nf.str (l := [105, 110]) (by unfold BL; decide)).nd (Nds.cons (Nf.str (l := []) (by unfold BL; decide)).nd (Nds.cons (Nd.tup (Nds.cons (Nf.int (k := 0)).nd Nds.nil) (by simp)) Nds.nil))) (by simp)) Nds.nil) (by simp)) (by simp) (by simp [depths, depth]) (by decide +kernel) (by decide +kernel) (by decide +kernel))
    (NBs.cons (NB.tup2 (Nf.int (k := 1)) (Ndl.disp (Nds.cons (Nd.tup (Nds.cons (Nf.str (l := [105, 110]) (by unfold BL; decide)).nd (Nds.cons (Nf.str (l := [97, 98, 99, 100, 101, 102, 103, 104, 105, 106, 107, 108, 109]) (by unfold BL; decide)).nd (Nds.cons (Nd.tup (Nds.cons (Nf.int (k := 0)).nd Nds.nil) (by simp)) Nds.nil))) (by simp)) Nds.nil) (by simp)) (by simp) (by simp [depths, depth]) (by decide +kernel) (by decide +kernel) (by decide +kernel))
    (NBs.cons (NB.tup2 (Nf.int (k := 1)) (Ndl.disp (Nds.cons (Nd.tup (Nds.cons (Nf.str (l := [105, 110]) (by unfold BL; decide)).nd (Nds.cons (Nf.int (k := 5)).nd (Nds.cons (Nd.tup (Nds.cons (Nf.int (k := 0)).nd Nds.nil) (by simp)) Nds.nil))) (by simp)) Nds.nil) (by simp)) (by simp) (by simp [depths, depth]) (by decide +kernel) (by decide +kernel) (by decide +kernel))
    (NBs.cons (NB.tup2 (Nf.int (k := 1)) (Ndl.disp (Nds.cons Nf.non.nd Nds.nil) (by simp)) (by simp) (by simp [depths, depth]) (by decide +kernel) (by decide +kernel) (by decide +kernel))
    NBs.nil)))))))
end
end K44
set_option Elab.async false
set_option linter.all false
set_option maxRecDepth 100000
set_option maxHeartbeats 4000000
namespace K44
open PySem PySem.Spec PyProof.Rows L2 MT
open SX (S)
local macro_rules | `(tactic| walk_at "mt") => `(tactic| simp only [L2.start, List.map_cons, List.map_nil, List.length_cons, List.length_nil, List.replicate_succ, List.replicate_zero, Nat.reduceSub, Nat.reduceAdd, Nat.sub_self, Nat.zero_add, List.cons_append, List.nil_append, List.append_nil, List.getElem?_cons_zero, List.getElem?_cons_succ, List.set_cons_zero, List.set_cons_succ, Option.some.injEq, exists_eq_left', exists_eq_left, exists_eq_right, V.bl.injEq, V.int.injEq, V.str.injEq, V.ref.injEq, reduceCtorEq, false_and, and_false, true_and, and_true, false_or, or_false, exists_false, exists_const, ↓reduceIte, Bool.false_eq_true, decide_eq_true_eq, Bool.and_eq_true, Bool.not_true, Bool.not_false, List.cons.injEq, exists_and_left, exists_and_right,
  tRet, rInM, rNeI, rSortM, rIndexM, rRepM, rSetDM, rListDM, rPopAtM, tLstRg, tRg1, tDIn, tBM, tBM0, tAndV, tOrV, tNotV, tAnd, tOr, tNot, tB, tTest, tIf, tIfS, tC, tVar, tOp, tUn, tChain, rI0, rI, rU, tFn, tCons, tNil, tCB, tTup, tLst, tAsg, gName, tNext, tDrop, tRetN, tPar, tPar3, tAug, tReplC, tRevS, rLenM2, rIsBM, tDNotIn, tDGet, rSumM, rMaxM, rMinM, gSub, rSetL, tRaiseO, tFnW, tXf, gTup, gUnl, gCons, gNil, rPopM, rAppendM, rExtendM, rTupM, rListM, ipI, tIs, tIss, rLenM, rIxM, rAddM, rEqM, rNeM, rSignIn, rInt, rAbs, rStrI, tSl, tPart, tNoPart, rSlM, tIsN, tNotN, List.any_cons, List.any_nil, Bool.or_false, tSeq, isa, D.ty, decide_true, decide_false, Bool.true_or, Bool.or_true, Bool.false_or, Bool.and_true, Bool.true_and, Bool.false_and, Bool.and_false, eq_self_iff_true, not_true_eq_false, not_false_eq_true, bne_self_eq_false])
theorem grow_ok {N : Addr → Prop} {b : Addr} {H0 H : Hp} {v : V} {Q : VK} {E : XK} (h : BadAt N b H0 v) (s : Same H0 H)
    (q : ∀ H' e, (∀ x o, (¬ N x ∨ x = b ∨ H0 x = none) → H x = some o → H' x = some o) → (∀ x, H x ≠ none → H' x ≠ none) → Dat H' v e → depth e ≤ 6 → Q .non H') : spGrow [v] H Q E := by
  obtain ⟨d, hd, h1, h2, h3, h4, h5⟩ := h
  have key : ∀ (a : Addr) (ob : HO), N a → a ≠ b → H0 a ≠ none → (∀ x o, (¬ N x ∨ x = b ∨ H0 x = none) → H x = some o → (upd H a ob) x = some o) ∧ (∀ x, H x ≠ none → (upd H a ob) x ≠ none) := fun a ob n1 n2 n3 => by
    refine ⟨fun x o hx e => ?_, fun x hx => ?_⟩
    · have nx : x ≠ a := fun z => by
        rcases hx with k | k | k
        · exact k (by rw [z]; exact n1)
        · exact n2 (by rw [← z]; exact k)
        · exact n3 (by rw [← z]; exact k)
      rw [upd_ne nx]; exact e
    · by_cases z : x = a
      · rw [z, upd_same]; intro z; cases z
      · rw [upd_ne z]; exact hx
  have dm : Dat H v d := ⟨_, MT.del_sub, (hd.mono (.of s))⟩
  refine ⟨v, rfl, ?_⟩
  rcases h5 with h | ⟨a, rfl, h1, h2, h3⟩ | ⟨a, xs, ds, rfl, h1, h2, h3, r, hl, hd⟩ | ⟨t, ws, rfl, h1, h2, h3, h4⟩ | ⟨t, a, pre, post, xs, ds, p1, p2, rfl, h1, h2, h3, h4, h5, h6, h7, h8, r, hl, hd, r1, r2, k1, k2⟩
  · exact .inl (.inl ⟨h, q H d (fun x o _ e => e) (fun x e => e) dm (by omega)⟩)
  · obtain ⟨k1, k2⟩ := key a (.dK [(.inr (S wMore), .int 1)]) h3 h2 (by rw [h1]; intro z; cases z)
    exact .inr (.inl ⟨a, rfl, s _ _ h1, q _ (.dct [(wMore, 1)]) k1 k2 ⟨_, .refl _, .dct (by simp) upd_same⟩ (by simp [depth])⟩)
  · obtain ⟨k1, k2⟩ := key a (.lst (xs ++ [.str (S wMore)])) h3 h2 (by rw [h1]; intro z; cases z)
    have hx := r.length
    refine .inl (.inr ⟨a, xs, rfl, s _ _ h1, by omega, q _ (.lst (ds ++ [.str wMore])) k1 k2 ⟨_, .refl _, .lst upd_same (RepL.append (RepL.mono (fun x o e => ?_) r) (.cons (Rep.str (by unfold BL; decide)) .nil)) (by rw [List.length_append, List.length_singleton]; unfold BL; omega)⟩ ?_⟩)
    · have : Same (D2 b a H0) (D2 b a (upd H a (.lst (xs ++ [.str (S wMore)])))) := D2_same ((Sm2.of (.of s)).trans .upd)
      exact MT.del_sub _ _ (MT.del_sub _ _ (this x o e))
    · have := depths_app (n := 4) hd (es := [.str wMore]) (by simp [depths, depth])
      simp only [depth]; omega
  · exact .inr (.inr (.inl ⟨t, ws, rfl, s _ _ h1, by omega, h4, q H d (fun x o _ e => e) (fun x e => e) dm (by omega)⟩))
  · obtain ⟨q1, q2⟩ := key a (.lst (xs ++ [.str (S wMore)])) h8 h7 (by rw [h6]; intro z; cases z)
    have hx := r.length
    have hp1 := r1.length
    have hp2 := r2.length
    have nta : t ≠ a := fun z => by rw [z, h6] at h1; cases h1
    refine .inr (.inr (.inr ⟨t, a, pre, post, xs, rfl, s _ _ h1, by omega, h4, h5, s _ _ h6, by omega, q _ (.tup (p1 ++ .lst (ds ++ [.str wMore]) :: p2)) q1 q2 ⟨_, .refl _, .tup (by rw [upd_ne nta]; exact s _ _ h1) (RepL.append (RepL.mono no_same r1) (.cons (.lst upd_same (RepL.append (RepL.mono (fun x o e => ?_) r) (.cons (Rep.str (by unfold BL; decide)) .nil)) (by rw [List.length_append, List.length_singleton]; unfold BL; omega)) (RepL.mono no_same r2))) (by rw [List.length_append, List.length_cons]; unfold BL; omega)⟩ ?_⟩))
    · have : Same (D2 b a H0) (D2 b a (upd H a (.lst (xs ++ [.str (S wMore)])))) := D2_same ((Sm2.of (.of s)).trans .upd)
      exact MT.del_sub _ _ (MT.del_sub _ _ (this x o e))
    · have z1 := depths_app (n := 4) hd (es := [.str wMore]) (by simp [depths, depth])
      have z2 : depth (.lst (ds ++ [.str wMore])) ≤ 5 := by simp only [depth]; omega
      have z3 : depths (.lst (ds ++ [.str wMore]) :: p2) ≤ 5 := by simp only [depths]; omega
      have z4 := depths_app (n := 5) (ds := p1) (by omega) z3
      simp only [depth]; omega
theorem deep_ats {m : Int} : ∀ {ats : List D}, ats.all (joinAtomD m) = true → depths ats ≤ 2
  | [], _ => Nat.zero_le _
  | d :: ds, h => by
    rw [List.all_cons, Bool.and_eq_true] at h
    have ih := deep_ats (ats := ds) h.2
    have hints : ∀ {xs : List D}, xs.all (btw 0 (m - 1)) = true → depths xs ≤ 0 := by
      intro xs
      induction xs with
      | nil => intro _; exact Nat.zero_le _
      | cons x xs ih =>
        intro h
        rw [List.all_cons, Bool.and_eq_true] at h
        have := ih h.2
        cases x with
        | int i => simp only [depths, depth]; omega
        | _ => cases h.1
    have hd : depth d ≤ 2 := by
      have h1 := h.1
      unfold joinAtomD at h1
      split at h1
      · rename_i w nm xs
        simp only [Bool.and_eq_true, decide_eq_true_eq] at h1
        obtain ⟨⟨⟨_, h2⟩, _⟩, h5⟩ := h1
        have := hints h5
        have hn : depth nm = 0 := by
          cases nm with
          | str l => simp [depth]
          | _ => cases h2
        simp only [depth, depths]; omega
      · cases h1
    simp only [depths]; omega
abbrev tOutT : TE := (tTup (tCons (tC (.int 1)) (tCons (tLst (tCons (tTup (tCons (tC (.str (S [111, 117, 116]))) (tCons (tC (.str (S [101, 100, 103, 101]))) (tCons (tTup (tCons (tC (.int 0)) (tCons (tC (.int 0)) tNil))) tNil)))) tNil)) tNil)))
theorem bad_out {b : Addr} {H0 : Hp} {σ : L2.St} : NB b H0 tOutT σ := NB.tup2 (Nf.int (k := 1)) (Ndl.disp (Nds.cons (Nd.tup (Nds.cons (Nf.str (l := [111, 117, 116]) (by unfold BL; decide)).nd (Nds.cons (Nf.str (l := [101, 100, 103, 101]) (by unfold BL; decide)).nd (Nds.cons (Nd.tup (Nds.cons (Nf.int (k := 0)).nd (Nds.cons (Nf.int (k := 0)).nd Nds.nil)) (by simp)) Nds.nil))) (by simp)) Nds.nil) (by simp)) (by simp) (by simp [depths, depth]) (by decide +kernel) (by decide +kernel) (by decide +kernel)
abbrev tRefTurn (K : PySem.W.Frag) : TS := (tSeq (tAsg (tFn spAsked (tCons (tVar 8) (tCons (tVar 7) (tCons (tLst tNil) (tCons (tVar 2) tNil))))) (gName 9)) (tSeq (tIfS (tOr (tTest (tOp rNeM (tOp rIxM (tVar 9) (tC (.int 0))) (tC (.str (S [99, 111, 110, 106, 117, 110, 99, 116, 105, 111, 110]))))) (tNot (tB (tFn (spSame 8) (tCons (tOp rIxM (tVar 9) (tC (.int 1))) (tCons (tVar 7) tNil)))))) (tRet (tC (.bl false))) tNext) (tSeq (tDrop (tFn spGrow (tCons (tVar 7) tNil))) (tSeq (tIfS (tNot (tB (tFn (spSame 8) (tCons (tOp rIxM (tVar 9) (tC (.int 1))) (tCons (tVar 7) tNil))))) (tRet (tC (.bl false))) tNext) (tSeq (tAsg (tOp rIxM (tLst (tCons (tC .non) (tCons tOutT tNil))) (tFn spTake (tCons (tVar 0) (tCons (tC (.int 2)) tNil)))) (gName 7)) (tAsg (tNotV (tVar 2)) (gName 2)))))))
theorem Nd.first {b : Addr} {H0 H : Hp} {σ : L2.St} {te tk : TE} {c : Nat} {Q : VK} (h : NB b H0 te σ) (s : SmD b H0 H) (hb : Bx H b c)
    (q : ∀ v H', Same H H' → BadAt (fun a => H0 a = none) b H' v → 2 ≤ sizeLine ∧ ∀ p, H' p = none → tk σ (upd H' p (.lst [.non, v])) fun k H2 => rIxM (.ref p) k H2 Q) :
    tOp rIxM (tLst (tCons (tC .non) (tCons te tNil))) tk σ H Q := h H c _ s hb fun v H' s' bd => q v H' s' bd
theorem ref_turn {K : PySem.W.Frag} {Z : Ends} {N : Addr → Prop} {H : Hp} {b : Addr} {s1 s3 s4 s5 s6 s9 : Option V} {v : V} {nb : Bool} {word : List Nat} {c : Nat} (hb : Bx H b c) (hc : c ≤ 400000000) (h : BadAt N b H v) (hN : ∀ a, H a = none → N a)
    (post : ∀ nb v' s9 H', (∀ x o, ¬ N x → x ≠ b → H x = some o → H' x = some o) → (∀ x, H x ≠ none → H' x ≠ none) → Bx H' b (c + 1) → BadAt N b H' v' → Z.nx [some (.ref b), s1, some (.bl nb), s3, s4, s5, s6, some v', some (.str (S word)), s9] H') :
    tRefTurn K Z [some (.ref b), s1, some (.bl nb), s3, s4, s5, s6, some v, some (.str (S word)), s9] H := by
  have sz2 : 2 ≤ sizeLine := by decide +kernel
  unfold tRefTurn
  generalize hO : (tSeq (tIfS _ _ _) (tSeq (tDrop _) _) : TS) = O
  walk_at "mt"
  refine ⟨Nat.zero_le _, fun l0 hl0 => ?_⟩
  have s0 := same_upd (o := .lst []) hl0
  have el0 : (upd H l0 (.lst [])) l0 = some (.lst []) := upd_same
  have hb0 := hb.ext s0
  generalize upd H l0 (.lst []) = H1 at s0 el0 hb0 ⊢
  obtain ⟨d, hd, k1, k2, k3, k4, k5⟩ := h.mono (.of s0)
  refine ⟨word, v, .ref l0, d, .lst [], nb, rfl, hd.dat, k2, k3, ⟨H1, .refl _, .lst el0 .nil (by unfold BL; simp)⟩, szD_lst (by simp), fun _ r H2 s2 hr er => ?_, fun z => (by rw [k1] at z; cases z), fun z => (by rw [k1] at z; cases z), fun z => (by rw [k1] at z; cases z)⟩
  subst hO
  generalize hO : (tSeq (tDrop _) _ : TS) = O
  walk_at "mt"
  have q0 : seqO (H2 r) = some [.str (S wConj), v] := by rw [er]; rfl
  have hd2 : Dat H2 v d := (hd.mono (.of s2)).dat
  refine ⟨_, q0, .str (S wConj), rfl, ?_⟩
  walk_at "mt"
  refine ⟨_, q0, v, rfl, ⟨v, v, d, rfl, hd2, hd2, .inl (by omega), ⟨_, rfl, ?_⟩⟩⟩
  rw [if_neg (by decide)]
  subst hO
  generalize hP : (tSeq (tIfS (tNot _) _ _) _ : TS) = P
  walk_at "mt"
  refine grow_ok (h.mono (.of s0)) s2 fun H3 e kp dm he hde => ?_
  subst hP
  have q3 : seqO (H3 r) = some [.str (S wConj), v] := by rw [kp _ _ (.inr (.inr hr)) er]; rfl
  have hb3 : Bx H3 b c := by
    have hb2 := hb0.ext s2
    have hb2' := hb2
    obtain ⟨n, g, m, k, eb, _⟩ := hb2'
    exact hb2.same (by rw [eb]; exact kp _ _ (.inr (.inl rfl)) eb)
  have dom : ∀ x, H x ≠ none → H3 x ≠ none := fun x hx => dm x fun z => hx (Same.free (s0.trans s2) z)
  have kp3 : ∀ x o, ¬ N x → H x = some o → H3 x = some o := fun x o n e => kp x o (.inl n) (s2 _ _ (s0 _ _ e))
  generalize hP : (tSeq (tAsg (tOp rIxM _ _) (gName 7)) _ : TS) = P
  walk_at "mt"
  refine ⟨_, q3, v, rfl, ⟨v, v, e, rfl, he, he, .inl (by omega), ⟨_, rfl, ?_⟩⟩⟩
  rw [if_neg (by decide)]
  subst hP
  unfold tSeq tAsg
  have hbad : ∀ σ, NB b H3 tOutT σ := fun σ => bad_out
  generalize tOutT = T at hbad ⊢
  refine Nd.first (hbad _) .refl hb3 fun v2 H4 z4 bad2 => ⟨sz2, fun p hp => ?_⟩
  have z5 := same_upd (o := .lst [.non, v2]) hp
  have ep : (upd H4 p (.lst [.non, v2])) p = some (.lst [.non, v2]) := upd_same
  have hb5 := (hb3.ext z4).ext z5
  have npb := new_ne (hb3.ext z4) hp
  generalize upd H4 p (.lst [.non, v2]) = H5 at z5 ep hb5 ⊢
  refine ⟨_, rfl, b, 2, c, rfl, by omega, by omega, hb5, by omega, fun k o hk hb6 => ?_⟩
  have fin : ∀ v', BadAt N b (upd H5 b o) v' → Z.nx [some (.ref b), s1, some (.bl (!nb)), s3, s4, s5, s6, some v', some (.str (S word)), some (.ref r)] (upd H5 b o) := fun v' hv' => by
    refine post _ v' _ _ (fun x o' n nx e => ?_) (fun x hx => ?_) hb6 hv'
    · rw [upd_ne nx]
      exact z5 _ _ (z4 _ _ (kp3 x o' n e))
    · by_cases z : x = b
      · rw [z, upd_same]; intro z; cases z
      · rw [upd_ne z]
        intro z2
        exact dom x hx (Same.free (z4.trans z5) z2)
  have ep6 : seqO ((upd H5 b o) p) = some [.non, v2] := by rw [upd_ne npb, ep]; rfl
  have hk2 : k = 0 ∨ k = 1 := by omega
  rcases hk2 with rfl | rfl
  · refine ⟨_, .non, ep6, rfl, ?_⟩
    exact ⟨_, rfl, _, rfl, fin .non ⟨.non, Rep.non, rfl, rfl, by decide, by simp [depth], .inl rfl⟩⟩
  · refine ⟨_, v2, ep6, rfl, ?_⟩
    refine ⟨_, rfl, _, rfl, fin v2 ((bad2.mono ((SmD.of z5).trans .upd)).chg fun a ha _ => hN a ?_)⟩
    by_cases z : H a = none
    · exact z
    · exact absurd ha (dom a z)
end K44
set_option Elab.async false
set_option linter.all false
set_option maxRecDepth 100000
set_option maxHeartbeats 4000000
namespace K44
open PySem PySem.Spec PyProof.Rows L2 MT
open SX (S)
local macro_rules | `(tactic| walk_at "mt") => `(tactic| simp only [L2.start, List.map_cons, List.map_nil, List.length_cons, List.length_nil, List.replicate_succ, List.replicate_zero, Nat.reduceSub, Nat.reduceAdd, Nat.sub_self, Nat.zero_add, List.cons_append, List.nil_append, List.append_nil, List.getElem?_cons_zero, List.getElem?_cons_succ, List.set_cons_zero, List.set_cons_succ, Option.some.injEq, exists_eq_left', exists_eq_left, exists_eq_right, V.bl.injEq, V.int.injEq, V.str.injEq, V.ref.injEq, reduceCtorEq, false_and, and_false, true_and, and_true, false_or, or_false, exists_false, exists_const, ↓reduceIte, Bool.false_eq_true, decide_eq_true_eq, Bool.and_eq_true, Bool.not_true, Bool.not_false, List.cons.injEq, exists_and_left, exists_and_right,
  tRet, rInM, rNeI, rSortM, rIndexM, rRepM, rSetDM, rListDM, rPopAtM, tLstRg, tRg1, tDIn, tBM, tBM0, tAndV, tOrV, tNotV, tAnd, tOr, tNot, tB, tTest, tIf, tIfS, tC, tVar, tOp, tUn, tChain, rI0, rI, rU, tFn, tCons, tNil, tCB, tTup, tLst, tAsg, gName, tNext, tDrop, tRetN, tPar, tPar3, tAug, tReplC, tRevS, rLenM2, rIsBM, tDNotIn, tDGet, rSumM, rMaxM, rMinM, gSub, rSetL, tRaiseO, tFnW, tXf, gTup, gUnl, gCons, gNil, rPopM, rAppendM, rExtendM, rTupM, rListM, ipI, tIs, tIss, rLenM, rIxM, rAddM, rEqM, rNeM, rSignIn, rInt, rAbs, rStrI, tSl, tPart, tNoPart, rSlM, tIsN, tNotN, List.any_cons, List.any_nil, Bool.or_false, tSeq, isa, D.ty, decide_true, decide_false, Bool.true_or, Bool.or_true, Bool.false_or, Bool.and_true, Bool.true_and, Bool.false_and, Bool.and_false, eq_self_iff_true, not_true_eq_false, not_false_eq_true, bne_self_eq_false])
theorem bad_add {b p : Addr} {H0 H : Hp} {σ : L2.St} {ta : TA} {vs : List V} {k c : Nat} {Q : VK} (h6 : σ[6]? = some (some (.ref p))) (np : p ≠ b) (e : H p = some (.lst vs)) (hv : ∀ v ∈ vs, BadAt (fun a => H0 a = none) b H v) (h : NBs b H0 k ta σ) (hl : vs.length ≤ 100) (hk : k ≤ 100) (s : SmD b H0 H) (hb : Bx H b c)
    (q : ∀ p' vs' H', Same H H' → p' ≠ b → H' p' = some (.lst vs') → (∀ v ∈ vs', BadAt (fun a => H0 a = none) b H' v) → vs'.length = vs.length + k → Q (.ref p') H') : tOp rAddM (tVar 6) (tLst ta) σ H Q := by
  unfold tOp
  refine ⟨_, h6, h H c _ s hb fun ws H1 s1 hw hwl => ⟨Nat.le_of_lt (big1 (by omega)), fun p1 hp1 => ?_⟩⟩
  have s2 := same_upd (o := .lst ws) hp1
  have e1 : (upd H1 p1 (.lst ws)) p1 = some (.lst ws) := upd_same
  have e2 := s2 _ _ (s1 _ _ e)
  have hb2 := (hb.ext s1).ext s2
  generalize upd H1 p1 (.lst ws) = H2 at s2 e1 e2 hb2 ⊢
  show rAddM (.ref p) (.ref p1) H2 Q
  unfold rAddM
  dsimp only
  rw [e2, e1]
  dsimp only
  refine ⟨Nat.le_of_lt (big1 (by omega)), fun p2 hp2 => ?_⟩
  have s3 := same_upd (o := .lst (vs ++ ws)) hp2
  refine q p2 _ _ (s1.trans (s2.trans s3)) (new_ne hb2 hp2) upd_same (fun v hv' => ?_) (by rw [List.length_append, hwl])
  rcases List.mem_append.mp hv' with z | z
  · exact (hv v z).mono (.of (s1.trans (s2.trans s3)))
  · exact (hw v z).mono (.of (s2.trans s3))
theorem datB_tup {b : Addr} {H : Hp} {v : V} {ds : List D} (h : DatB b H v (.tup ds)) : ∃ t ws, v = .ref t ∧ H t = some (.tup ws) ∧ t ≠ b ∧ DatsB b H ws ds := by
  have nb : ∀ {a : Addr} {o : HO}, MT.del H b a = some o → a ≠ b := fun h z => by rw [z, MT.del_self] at h; cases h
  unfold DatB at h
  cases h with
  | tup h r hl => exact ⟨_, _, rfl, MT.del_sub _ _ h, nb h, r⟩
def spRefused : Sp := fun vs H Q _ => ∃ b p d nb c, vs = [.ref b, .ref p, .bl nb] ∧ DatB b H (.ref p) d ∧ conjD d = true ∧ headsOk d = true ∧ manyD d ≤ 14 ∧ Bx H b c ∧ c ≤ 300000000 ∧ ∀ H', SmD b H H' → Bx H' b (c + 4) → Q (.bl true) H'
theorem bad_first {b : Addr} {H0 H : Hp} {σ : L2.St} {ta : TA} {k c : Nat} {Q : VK} (h : NBs b H0 k ta σ) (hk : k ≤ 100) (s : SmD b H0 H) (hb : Bx H b c)
    (q : ∀ p' vs' H', Same H H' → p' ≠ b → H' p' = some (.lst vs') → (∀ v ∈ vs', BadAt (fun a => H0 a = none) b H' v) → vs'.length = k → Q (.ref p') H') : tLst ta σ H Q := h H c _ s hb fun vs H1 s1 bd hl => ⟨Nat.le_of_lt (big1 (by omega)), fun p hp => by
  have s2 := same_upd (o := .lst vs) hp
  exact q p vs _ (s1.trans s2) (new_ne (hb.ext s1) hp) upd_same (fun v hv => (bd v hv).mono (.of s2)) hl⟩
/-- the row of values and the drawn one -/
theorem ref_core {K : PySem.W.Frag} {Z : Ends} {H : Hp} {b p q : Addr} {nb : Bool} {m : Int} {c : Nat} {T1 : TE} {ta1 ta2 ta3 : TA} {F : TS} {us : List V} {ats : List D} (ep : H p = some (.tup [.int m, .ref q])) (hb : Bx H b c) (hc : c ≤ 300000000) (hq : seqO (H q) = some us) (nqb : q ≠ b) (hu : DatsB b H us ats)
    (hT : ∀ σ, Nd b H T1 σ dTwo)
    (h1 : ∀ (σ : L2.St) H0 tw ws, σ[3]? = some (some (.int m)) → σ[4]? = some (some (.ref q)) → σ[5]? = some (some (.ref tw)) → seqO (H0 q) = some us → DatsB b H0 us ats → DatB b H0 (.ref tw) dTwo → seqO (H0 tw) = some ws → tw ≠ b → DatsB b H0 ws [.str [105, 110], .str [101, 100, 103, 101], .tup [.int 0, .int 0]] → NBs b H0 14 ta1 σ ∧ NBs b H0 6 ta2 σ ∧ NBs b H0 7 ta3 σ)
    (post : ∀ tw p3 v H', SmD b H H' → Bx H' b (c + 1) → BadAt (fun a => H a = none) b H' v → F Z [some (.ref b), some (.ref p), some (.bl nb), some (.int m), some (.ref q), some (.ref tw), some (.ref p3), some v, none, none] H') :
    (tSeq (tAsg (tVar 1) (gTup K 2 (gCons (gName 3) (gCons (gName 4) gNil)))) (tSeq (tAsg T1 (gName 5)) (tSeq (tAsg (tLst ta1) (gName 6)) (tSeq (tAsg (tOp rAddM (tVar 6) (tLst ta2)) (gName 6)) (tSeq (tAsg (tOp rAddM (tVar 6) (tLst ta3)) (gName 6)) (tSeq (tAsg (tOp rIxM (tVar 6) (tFn spTake (tCons (tVar 0) (tCons (tCB rLenM (tCons (tVar 6) tNil)) tNil)))) (gName 7)) F)))))) Z [some (.ref b), some (.ref p), some (.bl nb), none, none, none, none, none, none, none] H := by
  generalize hL1 : (tLst ta1 : TE) = L1
  generalize hL2 : (tOp rAddM (tVar 6) (tLst ta2) : TE) = L2
  generalize hL3 : (tOp rAddM (tVar 6) (tLst ta3) : TE) = L3
  walk_at "mt"
  refine ⟨[.int m, .ref q], .of ep, rfl, .int m, [.ref q], rfl, .ref q, [], rfl, rfl, ?_⟩
  refine hT _ H c _ .refl hb fun v H1 s1 dtw => ?_
  obtain ⟨tw, ws, rfl, etw, ntb, rtw⟩ := datB_tup dtw
  have hb1 := hb.ext s1
  have eq1 : seqO (H1 q) = some us := seq_mono hq s1
  have hu1 := hu.mono (.of s1)
  subst hL1
  refine bad_first (b := b) (H0 := H1) (k := 14) (h1 _ H1 tw ws rfl rfl rfl eq1 hu1 dtw (by rw [etw]; rfl) ntb rtw).1 (by omega) .refl hb1 fun p1 v1 H3 s13 np1 ep1 bd1 hl1 => ?_
  subst hL2
  refine bad_add (b := b) (p := p1) (H0 := H1) (c := c) rfl np1 ep1 bd1 (h1 _ H1 tw ws rfl rfl rfl eq1 hu1 dtw (by rw [etw]; rfl) ntb rtw).2.1 (by omega) (by omega) (.of s13) (hb1.ext s13) fun p2 v2 H4 s4 np2 ep2 bd2 hl2 => ?_
  have s14 := s13.trans s4
  subst hL3
  refine bad_add (b := b) (p := p2) (H0 := H1) (c := c) rfl np2 ep2 bd2 (h1 _ H1 tw ws rfl rfl rfl eq1 hu1 dtw (by rw [etw]; rfl) ntb rtw).2.2 (by omega) (by omega) (.of s14) (hb1.ext s14) fun p3 v3 H5 s5 np3 ep3 bd3 hl3 => ?_
  have s15 := s14.trans s5
  have hb5 := hb1.ext s15
  refine ⟨v3, by rw [ep3]; rfl, ?_⟩
  refine ⟨b, v3.length, c, rfl, by omega, by omega, hb5, by omega, fun i o hi hb6 => ?_⟩
  refine ⟨v3, by rw [upd_ne np3, ep3]; rfl, v3[i], atI_nat (List.getElem?_eq_getElem hi), ?_⟩
  exact post tw p3 v3[i] _ ((SmD.of (s1.trans s15)).trans .upd) hb6 (((bd3 _ (List.getElem_mem hi)).mono .upd).chg fun a ha _ => Same.free s1 ha)
end K44
set_option Elab.async false
set_option linter.all false
set_option maxRecDepth 100000
set_option maxHeartbeats 4000000
namespace K44
open PySem PySem.Spec PyProof.Rows L2 MT
open SX (S)
local macro_rules | `(tactic| walk_at "mt") => `(tactic| simp only [L2.start, List.map_cons, List.map_nil, List.length_cons, List.length_nil, List.replicate_succ, List.replicate_zero, Nat.reduceSub, Nat.reduceAdd, Nat.sub_self, Nat.zero_add, List.cons_append, List.nil_append, List.append_nil, List.getElem?_cons_zero, List.getElem?_cons_succ, List.set_cons_zero, List.set_cons_succ, Option.some.injEq, exists_eq_left', exists_eq_left, exists_eq_right, V.bl.injEq, V.int.injEq, V.str.injEq, V.ref.injEq, reduceCtorEq, false_and, and_false, true_and, and_true, false_or, or_false, exists_false, exists_const, ↓reduceIte, Bool.false_eq_true, decide_eq_true_eq, Bool.and_eq_true, Bool.not_true, Bool.not_false, List.cons.injEq, exists_and_left, exists_and_right,
  tRet, rInM, rNeI, rSortM, rIndexM, rRepM, rSetDM, rListDM, rPopAtM, tLstRg, tRg1, tDIn, tBM, tBM0, tAndV, tOrV, tNotV, tAnd, tOr, tNot, tB, tTest, tIf, tIfS, tC, tVar, tOp, tUn, tChain, rI0, rI, rU, tFn, tCons, tNil, tCB, tTup, tLst, tAsg, gName, tNext, tDrop, tRetN, tPar, tPar3, tAug, tReplC, tRevS, rLenM2, rIsBM, tDNotIn, tDGet, rSumM, rMaxM, rMinM, gSub, rSetL, tRaiseO, tFnW, tXf, gTup, gUnl, gCons, gNil, rPopM, rAppendM, rExtendM, rTupM, rListM, ipI, tIs, tIss, rLenM, rIxM, rAddM, rEqM, rNeM, rSignIn, rInt, rAbs, rStrI, tSl, tPart, tNoPart, rSlM, tIsN, tNotN, List.any_cons, List.any_nil, Bool.or_false, tSeq, isa, D.ty, decide_true, decide_false, Bool.true_or, Bool.or_true, Bool.false_or, Bool.and_true, Bool.true_and, Bool.false_and, Bool.and_false, eq_self_iff_true, not_true_eq_false, not_false_eq_true, bne_self_eq_false])
abbrev tRefLoop (K : PySem.W.Frag) : TS := (tFor (iSq K (tLst (tCons (tC (.str (S [116, 114, 101, 101]))) (tCons (tC (.str (S [105, 115]))) (tCons (tC (.str (S [114, 105, 110, 103]))) tNil))))) (gName 8) (tRefTurn K))
theorem ref_loop {K : PySem.W.Frag} {Z : Ends} {N : Addr → Prop} {H : Hp} {b : Addr} {s1 s3 s4 s5 s6 s8 s9 : Option V} {v : V} {nb : Bool} {c : Nat} (hb : Bx H b c) (hc : c ≤ 300000100) (h : BadAt N b H v) (hN : ∀ a, H a = none → N a)
    (post : ∀ σ' H', (∀ x o, ¬ N x → x ≠ b → H x = some o → H' x = some o) → Bx H' b (c + 3) → Z.nx σ' H') :
    tRefLoop K Z [some (.ref b), s1, some (.bl nb), s3, s4, s5, s6, some v, s8, s9] H := by
  have sz3 : 3 ≤ sizeLine := by decide +kernel
  refine ⟨sz3, fun wl hwl => ⟨wl, rfl, .inl ⟨[.str (S wTree), .str (S wIs), .str (S wRing)], .of upd_same, ?_⟩⟩⟩
  have s0 := same_upd (o := .lst [.str (S wTree), .str (S wIs), .str (S wRing)]) hwl
  have ew : (upd H wl (.lst [.str (S wTree), .str (S wIs), .str (S wRing)])) wl = some (.lst [.str (S wTree), .str (S wIs), .str (S wRing)]) := upd_same
  have nwb := new_ne hb hwl
  have hb1 := hb.ext s0
  have bd1 : BadAt (fun a => N a ∧ a ≠ wl) b (upd H wl (.lst [.str (S wTree), .str (S wIs), .str (S wRing)])) v := ((h.chg (M := fun a => N a ∧ a ≠ wl) fun a n e => ⟨n, fun z => e (by rw [z]; exact hwl)⟩)).mono (.of s0)
  have hN1 : ∀ a, (upd H wl (.lst [.str (S wTree), .str (S wIs), .str (S wRing)])) a = none → N a ∧ a ≠ wl := fun a ha => ⟨hN a (Same.free s0 ha), fun z => by rw [z, ew] at ha; cases ha⟩
  show _
  generalize upd H wl (.lst [.str (S wTree), .str (S wIs), .str (S wRing)]) = H1 at s0 ew hb1 bd1 hN1 ⊢
  refine for_it (walk_fnL (K := K)) (fun i σ' H' => ∃ nb v s8 s9, σ' = [some (.ref b), s1, some (.bl nb), s3, s4, s5, s6, some v, s8, s9] ∧ Bx H' b (c + i) ∧ BadAt (fun a => N a ∧ a ≠ wl) b H' v ∧ (∀ x o, ¬ (N x ∧ x ≠ wl) → x ≠ b → H1 x = some o → H' x = some o) ∧ (∀ x, H1 x ≠ none → H' x ≠ none))
    ⟨_, _, _, _, rfl, hb1, bd1, fun x o _ _ e => e, fun x e => e⟩ (fun i σ' H' _ ⟨_, _, _, _, _, _, _, kp, _⟩ => .of (kp wl _ (fun z => z.2 rfl) nwb ew)) (fun i x σ' H2 H' hi ⟨nb', v', s8', s9', es, hb2, bd2, kp, dm⟩ y => ?_) fun σ' H' ⟨nb', v', s8', s9', es, hb2, bd2, kp, dm⟩ => ?_
  · obtain ⟨rfl, rfl⟩ := y
    subst es
    have hw : ∃ word, ([.str (S wTree), .str (S wIs), .str (S wRing)] : List V).getD i .non = .str (S word) := by
      have := getD_mem hi
      simp only [List.mem_cons, List.not_mem_nil, or_false] at this
      rcases this with h | h | h <;> exact ⟨_, h⟩
    obtain ⟨word, hw⟩ := hw
    dsimp only
    rw [hw]
    refine ref_turn (K := K) (N := fun a => N a ∧ a ≠ wl) hb2 (by have := hi; simp at this; omega) bd2 (fun a ha => hN1 a ?_) fun nb3 v3 s93 H3 kp3 dm3 hb3 bd3 => ⟨nb3, v3, _, s93, rfl, hb3, bd3, fun x o n nx e => kp3 x o n nx (kp x o n nx e), fun x hx => dm3 x (dm x hx)⟩
    by_cases z : H1 a = none
    · exact z
    · exact absurd ha (dm a z)
  · exact post σ' H' (fun x o n nx e => kp x o (fun z => n z.1) nx (s0 _ _ e)) hb2
theorem pr_law_refused {K : PySem.W.Frag} (vs : List V) (H : Hp) (Q : VK) (E : XK) (h : spRefused vs H Q E) : t_law_refused K spTake spAsked (spSame 8) spGrow (E0N Q) (L2.start ["box", "conjunction", "named", "many", "atoms", "two", "bad", "value", "word", "told"] vs) H := by
  obtain ⟨b, p, d, nb, c, rfl, hd, hc1, hc2, hc3, hb, hc, post⟩ := h
  obtain ⟨m, x, ats, rfl, hx, h0, hal, haj⟩ := conj_at hc1
  obtain ⟨p', q, us, hpp, ep, hq, npb, nqb, hu⟩ := datB_conj hd hx
  cases hpp
  have hm : m ≤ 14 := hc3
  have had := deep_ats haj
  have eq : seqO (H q) = some us := by rcases hq with z | z <;> rw [z] <;> rfl
  refine ref_core (K := K) (Z := E0N Q) (F := tSeq (tRefLoop K) (tRet (tC (.bl true)))) ep hb hc eq nqb hu (fun σ => Nd.tup (Nds.cons (Nf.str (l := [105, 110]) (by unfold BL; decide)).nd (Nds.cons (Nf.str (l := [101, 100, 103, 101]) (by unfold BL; decide)).nd (Nds.cons (Nd.tup (Nds.cons (Nf.int (k := 0)).nd (Nds.cons (Nf.int (k := 0)).nd Nds.nil)) (by simp)) Nds.nil))) (by simp))
    (fun σ H0 tw ws h3 h4 h5 e1 e2 e3 e4 e5 e6 => ⟨bad1 h3 h4 h5 nqb e1 e2 hal had hm e3, bad2, bad3 h5 e5 e4 e6⟩) fun tw p3 v H' s hb' bd => ?_
  refine ref_loop hb' (by omega) bd (fun a ha => ?_) fun σ' H2 kp hb2 => ?_
  · have nab : a ≠ b := fun z => by rw [z] at ha; exact hb'.ne ha
    exact free_smd s nab ha
  · exact post H2 (fun x o nx e => kp x o (fun z => by rw [e] at z; cases z) nx (s x o nx e)) hb2
end K44
set_option Elab.async false
set_option linter.all false
set_option maxRecDepth 100000
set_option maxHeartbeats 4000000
namespace K44
open PySem PySem.Spec PyProof.Rows L2 MT
open SX (S)
local macro_rules | `(tactic| walk_at "mt") => `(tactic| simp only [L2.start, List.map_cons, List.map_nil, List.length_cons, List.length_nil, List.replicate_succ, List.replicate_zero, Nat.reduceSub, Nat.reduceAdd, Nat.sub_self, Nat.zero_add, List.cons_append, List.nil_append, List.append_nil, List.getElem?_cons_zero, List.getElem?_cons_succ, List.set_cons_zero, List.set_cons_succ, Option.some.injEq, exists_eq_left', exists_eq_left, exists_eq_right, V.bl.injEq, V.int.injEq, V.str.injEq, V.ref.injEq, reduceCtorEq, false_and, and_false, true_and, and_true, false_or, or_false, exists_false, exists_const, ↓reduceIte, Bool.false_eq_true, decide_eq_true_eq, Bool.and_eq_true, Bool.not_true, Bool.not_false, List.cons.injEq, exists_and_left, exists_and_right,
  tRet, rInM, rNeI, rSortM, rIndexM, rRepM, rSetDM, rListDM, rPopAtM, tLstRg, tRg1, tDIn, tBM, tBM0, tAndV, tOrV, tNotV, tAnd, tOr, tNot, tB, tTest, tIf, tIfS, tC, tVar, tOp, tUn, tChain, rI0, rI, rU, tFn, tCons, tNil, tCB, tTup, tLst, tAsg, gName, tNext, tDrop, tRetN, tPar, tPar3, tAug, tReplC, tRevS, rLenM2, rIsBM, tDNotIn, tDGet, rSumM, rMaxM, rMinM, gSub, rSetL, tRaiseO, tFnW, tXf, gTup, gUnl, gCons, gNil, rPopM, rAppendM, rExtendM, rTupM, rListM, ipI, tIs, tIss, rLenM, rIxM, rAddM, rEqM, rNeM, rSignIn, rInt, rAbs, rStrI, tSl, tPart, tNoPart, rSlM, tIsN, tNotN, List.any_cons, List.any_nil, Bool.or_false, tSeq, isa, D.ty, decide_true, decide_false, Bool.true_or, Bool.or_true, Bool.false_or, Bool.and_true, Bool.true_and, Bool.false_and, Bool.and_false, eq_self_iff_true, not_true_eq_false, not_false_eq_true, bne_self_eq_false])
abbrev tNames : TE := (tDisp [((tC (.str (S [101, 100, 103, 101]))), (tC (.int 2))), ((tC (.str (S [111, 110, 101]))), (tC (.int 1))), ((tC (.str (S [116, 104, 114, 101, 101]))), (tC (.int 3))), ((tC (.str (S [112, 97, 105, 114]))), (tC (.int 2)))])
theorem names_ok {σ : L2.St} {H : Hp} {Q : VK} (q : ∀ p H', Same H H' → H p = none → H' p = some (.dK names4) → Q (.ref p) H') : tNames σ H Q := fun p hp => by
  have hm : mergeK [] names4 = names4 := by decide +kernel
  refine ⟨upd_same, names4, rfl, by decide, ?_⟩
  rw [hm]
  refine q p _ (fun x o e => ?_) hp upd_same
  have nx : x ≠ p := fun z => by rw [z, hp] at e; cases e
  rw [upd_ne nx, upd_ne nx]; exact e
abbrev tLawTurn (K : PySem.W.Frag) : TS := (tSeq (tIfS (tNot (tB (tFn spRight (tCons (tVar 4) (tCons (tFn spConj (tCons (tVar 4) (tCons (tVar 1) (tCons (tIf (tAnd (tB (tVar 2)) (tTest (tOp rEqM (tVar 3) (tC (.int 0))))) (tC (.int 12)) (tC (.int 8))) tNil)))) (tCons (tVar 5) tNil)))))) (tRet (tC (.bl false))) tNext) (tAsg (tNotV (tVar 5)) (gName 5)))
theorem most_ok {σ : L2.St} {H : Hp} {Q : VK} {g : Bool} {k : Nat} (h2 : σ[2]? = some (some (.bl g))) (h3 : σ[3]? = some (some (.int (k : Int)))) (q : ∀ most : Nat, most ≤ 12 → Q (.int (most : Int)) H) : (tIf (tAnd (tB (tVar 2)) (tTest (tOp rEqM (tVar 3) (tC (.int 0))))) (tC (.int 12)) (tC (.int 8))) σ H Q := by
  refine ⟨_, h2, g, rfl, ?_⟩
  dsimp only
  cases g with
  | false => exact q 8 (by omega)
  | true =>
    refine ⟨_, h3, decide ((k : Int) = 0), rfl, ?_⟩
    dsimp only
    split
    · exact q 12 (by omega)
    · exact q 8 (by omega)
theorem law_turn {K : PySem.W.Frag} {Z : Ends} {H : Hp} {b nd : Addr} {s0 s6 : Option V} {g nb : Bool} {k c : Nat} (hb : Bx H b c) (hc : c ≤ 100000) (hn : H nd = some (.dK names4))
    (post : ∀ H', SmD b H H' → Bx H' b (c + 1200) → Z.nx [s0, some (.ref nd), some (.bl g), some (.int (k : Int)), some (.ref b), some (.bl (!nb)), s6] H') :
    tLawTurn K Z [s0, some (.ref nd), some (.bl g), some (.int (k : Int)), some (.ref b), some (.bl nb), s6] H := by
  unfold tLawTurn
  have mo := fun {H : Hp} {Q : VK} => most_ok (σ := [s0, some (.ref nd), some (.bl g), some (.int (k : Int)), some (.ref b), some (.bl nb), s6]) (H := H) (Q := Q) rfl rfl
  revert mo
  generalize (tIf (tAnd _ _) _ _ : TE) = M
  intro mo
  walk_at "mt"
  refine mo fun most hm => ?_
  refine ⟨b, nd, c, most, rfl, hn, hm, hb, by omega, fun p H1 s1 hb1 hcj => ?_⟩
  obtain ⟨d, hd, k1, k2, k3⟩ := conj_datB hcj
  refine ⟨b, p, d, nb, c + 1000, rfl, hd, k1, k2, k3, hb1, by omega, fun H2 s2 hb2 => ?_⟩
  refine ⟨_, rfl, ?_⟩
  exact post H2 (s1.trans s2) (hb2.mono (by omega))
end K44
set_option Elab.async false
set_option linter.all false
set_option maxRecDepth 100000
set_option maxHeartbeats 4000000
namespace K44
open PySem PySem.Spec PyProof.Rows L2 MT
open SX (S)
local macro_rules | `(tactic| walk_at "mt") => `(tactic| simp only [L2.start, List.map_cons, List.map_nil, List.length_cons, List.length_nil, List.replicate_succ, List.replicate_zero, Nat.reduceSub, Nat.reduceAdd, Nat.sub_self, Nat.zero_add, List.cons_append, List.nil_append, List.append_nil, List.getElem?_cons_zero, List.getElem?_cons_succ, List.set_cons_zero, List.set_cons_succ, Option.some.injEq, exists_eq_left', exists_eq_left, exists_eq_right, V.bl.injEq, V.int.injEq, V.str.injEq, V.ref.injEq, reduceCtorEq, false_and, and_false, true_and, and_true, false_or, or_false, exists_false, exists_const, ↓reduceIte, Bool.false_eq_true, decide_eq_true_eq, Bool.and_eq_true, Bool.not_true, Bool.not_false, List.cons.injEq, exists_and_left, exists_and_right,
  tRet, rInM, rNeI, rSortM, rIndexM, rRepM, rSetDM, rListDM, rPopAtM, tLstRg, tRg1, tDIn, tBM, tBM0, tAndV, tOrV, tNotV, tAnd, tOr, tNot, tB, tTest, tIf, tIfS, tC, tVar, tOp, tUn, tChain, rI0, rI, rU, tFn, tCons, tNil, tCB, tTup, tLst, tAsg, gName, tNext, tDrop, tRetN, tPar, tPar3, tAug, tReplC, tRevS, rLenM2, rIsBM, tDNotIn, tDGet, rSumM, rMaxM, rMinM, gSub, rSetL, tRaiseO, tFnW, tXf, gTup, gUnl, gCons, gNil, rPopM, rAppendM, rExtendM, rTupM, rListM, ipI, tIs, tIss, rLenM, rIxM, rAddM, rEqM, rNeM, rSignIn, rInt, rAbs, rStrI, tSl, tPart, tNoPart, rSlM, tIsN, tNotN, List.any_cons, List.any_nil, Bool.or_false, tSeq, isa, D.ty, decide_true, decide_false, Bool.true_or, Bool.or_true, Bool.false_or, Bool.and_true, Bool.true_and, Bool.false_and, Bool.and_false, eq_self_iff_true, not_true_eq_false, not_false_eq_true, bne_self_eq_false])
abbrev tLawBody (K : PySem.W.Frag) : TS := (tSeq (tAsg (tFn spBox (tCons (tFn spCell (tCons (tVar 0) (tCons (tVar 3) tNil))) tNil)) (gName 4)) (tSeq (tAsg (tOp rEqM (tFn spTake (tCons (tVar 4) (tCons (tC (.int 2)) tNil))) (tC (.int 0))) (gName 5)) (tSeq (tFor (iRng1 (tCons (tC (.int 2)) tNil)) (gName 6) (tLawTurn K)) (tIfS (tNot (tB (tFn spRefused (tCons (tVar 4) (tCons (tFn spConj (tCons (tVar 4) (tCons (tVar 1) (tCons (tC (.int 4)) tNil)))) (tCons (tVar 5) tNil)))))) (tRet (tC (.bl false))) tNext))))
theorem law_body {K : PySem.W.Frag} {Z : Ends} {H : Hp} {s nd : Addr} {x4 x5 x6 : Option V} {g : Bool} {k : Nat} {ns : List Int} {o : Obj} (hs : H s = some (.frz o (.lst (ns.map V.int)))) (hn : H nd = some (.dK names4)) (hk : k ≤ 1000)
    (post : ∀ x4 x5 x6 H', Same H H' → Z.nx [some (.ref s), some (.ref nd), some (.bl g), some (.int (k : Int)), x4, x5, x6] H') :
    tLawBody K Z [some (.ref s), some (.ref nd), some (.bl g), some (.int (k : Int)), x4, x5, x6] H := by
  unfold tLawBody
  have lt := fun {Z : Ends} {H : Hp} {b : Addr} {s6 : Option V} {nb : Bool} {c : Nat} => law_turn (K := K) (Z := Z) (H := H) (b := b) (nd := nd) (s0 := some (.ref s)) (s6 := s6) (g := g) (nb := nb) (k := k) (c := c)
  revert lt
  generalize tLawTurn K = B
  intro lt
  generalize hR : (tIfS _ _ _ : TS) = R
  generalize hF : (tFor _ _ _ : TS) = F
  walk_at "mt"
  refine ⟨s, ns, o, k, rfl, hs, hk, fun i H1 s1 => ⟨i, rfl, fun b ob hb0 hb => ?_⟩⟩
  have s2 := same_upd (o := ob) hb0
  have hbH : H b = none := Same.free s1 hb0
  have s02 : Same H (upd H1 b ob) := s1.trans s2
  generalize upd H1 b ob = H2 at s2 hb s02 ⊢
  refine ⟨b, 2, 0, rfl, by omega, by omega, hb, by omega, fun r o2 hr hb3 => ?_⟩
  have s3 : SmD b H (upd H2 b o2) := (SmD.of s02).trans .upd
  generalize upd H2 b o2 = H3 at s3 hb3 ⊢
  have ndb : nd ≠ b := fun z => by rw [z, hbH] at hn; cases hn
  walk_at "mt"
  subst hF
  refine for_rng (n := 2) (by omega) (fun Q q => q) (fun i σ' H' => ∃ nb x6, σ' = [some (.ref s), some (.ref nd), some (.bl g), some (.int (k : Int)), some (.ref b), some (.bl nb), x6] ∧ SmD b H H' ∧ Bx H' b (0 + 1 + 1200 * i)) ⟨_, _, rfl, s3, hb3⟩ (fun i σ' H' hi ⟨nb, x6, es, sm, hb'⟩ => ?_) fun σ' H' ⟨nb, x6, es, sm, hb'⟩ => ?_
  · subst es
    dsimp only [List.set_cons_zero, List.set_cons_succ]
    refine lt hb' (by omega) (sm _ _ ndb hn) fun H4 s4 hb4 => ⟨_, _, rfl, sm.trans s4, hb4.mono (by omega)⟩
  · subst es
    subst hR
    walk_at "mt"
    refine ⟨b, nd, 0 + 1 + 1200 * 2, 4, rfl, sm _ _ ndb hn, by omega, hb', by omega, fun p H4 s4 hb4 hcj => ?_⟩
    obtain ⟨d, hd, k1, k2, k3⟩ := conj_datB hcj
    refine ⟨b, p, d, nb, _, rfl, hd, k1, k2, k3, hb4, by omega, fun H5 s5 hb5 => ?_⟩
    refine ⟨_, rfl, ?_⟩
    exact post _ _ _ H5 ((sm.trans (s4.trans s5)).same hbH)
def spLaw : Sp := fun vs H Q _ => ∃ (s : Addr) (ns : List Int) (o : Obj), vs = [.ref s] ∧ H s = some (.frz o (.lst (ns.map V.int))) ∧ ns.length ≤ 1000 ∧ ∀ H', Same H H' → Q (.bl true) H'
theorem pr_law {K : PySem.W.Frag} (vs : List V) (H : Hp) (Q : VK) (E : XK) (h : spLaw vs H Q E) : t_law K spBox spCell spTake spRight spConj spRefused (E0N Q) (L2.start ["script", "names", "great", "k", "box", "named", "turn"] vs) H := by
  obtain ⟨s, ns, o, rfl, hs, hl, q⟩ := h
  unfold t_law
  generalize hF : (tFor _ _ _ : TS) = F
  walk_at "mt"
  refine names_ok fun nd H1 s1 hnd en => ?_
  have hs1 := s1 _ _ hs
  rw [hs1]
  dsimp only
  intro p hp
  have s2 := s1.trans (same_upd (o := .lst (cutV (ns.map V.int) none (some 1))) hp)
  have en2 := same_upd (o := .lst (cutV (ns.map V.int) none (some 1))) hp _ _ en
  refine ⟨cutV' ns none (some 1), by rw [upd_same, cutV_map], by decide, _, _, ⟨rfl, rfl⟩, ?_⟩
  generalize decide (_ = (3 : Int)) = g
  generalize upd H1 p (.lst (cutV (ns.map V.int) none (some 1))) = H2 at s2 en2 ⊢
  subst hF
  have hs2 := s2 _ _ hs
  refine for_rng (n := max 2 (min 4 ns.length)) (by omega) (fun Q q => ?_) (fun i σ' H' => ∃ x3 x4 x5 x6, σ' = [some (.ref s), some (.ref nd), some (.bl g), x3, x4, x5, x6] ∧ Same H2 H') ⟨_, _, _, _, rfl, .refl _⟩ (fun i σ' H' hi ⟨x3, x4, x5, x6, es, sm⟩ => ?_) fun σ' H' ⟨x3, x4, x5, x6, es, sm⟩ => ?_
  · refine ⟨_, rfl, ns.map V.int, by rw [hs2]; rfl, ?_⟩
    rw [List.length_map]
    have e : (V.int (max 2 (min 4 (ns.length : Int)))) = V.int ((max 2 (min 4 ns.length) : Nat) : Int) := by congr 1; omega
    show Q (V.int (max 2 (min 4 (ns.length : Int)))) H2
    rw [e]; exact q
  · subst es
    dsimp only [List.set_cons_zero, List.set_cons_succ]
    exact law_body (K := K) (sm _ _ hs2) (sm _ _ en2) (by omega) fun x4 x5 x6 H5 s5 => ⟨_, _, _, _, rfl, sm.trans s5⟩
  · subst es
    exact q H' (s2.trans sm)
end K44
set_option Elab.async false
set_option linter.all false
set_option maxRecDepth 100000
set_option maxHeartbeats 4000000
namespace K44
open PySem PySem.Spec PyProof.Rows L2 MT
open SX (S)
def ex2 (K : PySem.W.Frag) : Bool := ex K && decide (PySem.W.exmOne K (.ref (He.ga K "InvalidConjunction")) (.ref (He.ga K "InvalidConjunction")) = some true)
theorem lookup_mem {K : PySem.W.Frag} {a : Addr} {o : Obj} (h : K.lookup a = some o) : (a, o) ∈ K := by
  induction K with
  | nil => cases h
  | cons q K ih =>
    obtain ⟨b, u⟩ := q
    by_cases hb : a = b
    · subst hb
      rw [List.lookup_cons_self] at h
      cases h
      exact List.mem_cons_self
    · have e : (a == b) = false := by simpa using hb
      rw [List.lookup, e] at h
      exact List.mem_cons_of_mem _ (ih h)
theorem no_list {K : PySem.W.Frag} (h : K.all noL = true) {a : Addr} {o : Obj} (e : K.lookup a = some o) : o.cls ≠ .type "list" := fun z => by
  have h1 := List.all_eq_true.mp h _ (lookup_mem e)
  unfold noL at h1
  dsimp only at h1
  rw [z] at h1
  simp at h1
section
variable {P : Program} {w : World} {K : PySem.W.Frag} {mg : Str → Option Value} {base : Heap} {x p : Str} {st : Stmt} {N : List Str} {k : Nat} {sp : Sp}
def PlainK (x : Str) (st : Stmt) (p : Str) : Prop := ∀ (kV doc pm : Value) (an : Option Addr) (cdv ct : Value) (u : Value), bindArgs (PySem.W.fnOf x x (defArgs st) (defBody st) (defScope st) .none kV doc pm an cdv ct) ⟨[], [(p, u)]⟩ = pure [(p, u)]
/-- a def that may raise, called by name too -/
theorem mkFnK (d : Def K mg x st) (S : FnScope N [p] (defScope st)) (b : Plain x st [p]) (bk : PlainK x st p) (len : ∀ vs H Q E, sp vs H Q E → vs.length = 1)
    {t : XK → TS} (hb : ∀ (f : Addr) (cdv : Value) (A : Around) (outer : List Env) (s : Shared) (H : Hp) (E : XK), Room k (A.deeper (envOfC x (defScope st) s.heap.objs.size f cdv)) → PSs (cxOf (L2.CX P w) P w K mg base N x (defScope st) f cdv A outer s H E) (defBody st) (t E))
    (ht : ∀ (vs : List V) (H : Hp) (Q : VK) (E : XK), sp vs H Q E → t E { nx := fun _ H' => Q .non H', rt := Q } (start N vs) H) : CalK P w K mg base (k + 1) x p sp := by
  obtain ⟨fd, F⟩ := d.ex
  refine ⟨_, fd, F.ok S len fun cdv A outer s H vs Q E hr hs => ⟨t E, hb _ cdv A outer s H E hr, ht vs H Q E hs⟩, d.gm, F.kp, F.bindsN b, fun s u => ?_⟩
  obtain ⟨oc, od, dV, kV, doc, pm, an, cdv, ct, osl, rfl, lk, hcd, hD, hK⟩ := F.ex
  rcases hD with ⟨_, rfl⟩ | ⟨e, _⟩
  · exact .of_eq (bk kV doc pm an cdv ct u)
  · exact absurd rfl e
/-- a def of no promise -/
theorem mkNo {ps : List Str} (d : Def K mg x st) (S : FnScope N ps (defScope st)) (b : Plain x st ps) : Cal P w K mg base 1 x ps (fun _ _ _ _ => False) := by
  obtain ⟨fd, F⟩ := d.ex
  exact ⟨_, fd, F.ok S (fun _ _ _ _ h => h.elim) fun cdv A outer s H vs Q E hr hs => hs.elim, d.gm, F.kp, F.bindsN b⟩
end
section
variable {P : Program} {w : World} {K : PySem.W.Frag} {mg : Str → Option Value} {base : Heap} {x p q : Str} {st : Stmt} {N : List Str} {k : Nat} {sp : Sp}
def PlainK2 (x : Str) (st : Stmt) (p q : Str) : Prop := ∀ (kV doc pm : Value) (an : Option Addr) (cdv ct : Value) (u v : Value), bindArgs (PySem.W.fnOf x x (defArgs st) (defBody st) (defScope st) .none kV doc pm an cdv ct) ⟨[], [(q, v), (p, u)]⟩ = pure [(p, u), (q, v)]
/-- a def that may raise, called with two names too -/
theorem mkFnK2 (d : Def K mg x st) (S : FnScope N [p, q] (defScope st)) (b : Plain x st [p, q]) (bk : PlainK2 x st p q) (len : ∀ vs H Q E, sp vs H Q E → vs.length = 2)
    {t : XK → TS} (hb : ∀ (f : Addr) (cdv : Value) (A : Around) (outer : List Env) (s : Shared) (H : Hp) (E : XK), Room k (A.deeper (envOfC x (defScope st) s.heap.objs.size f cdv)) → PSs (cxOf (L2.CX P w) P w K mg base N x (defScope st) f cdv A outer s H E) (defBody st) (t E))
    (ht : ∀ (vs : List V) (H : Hp) (Q : VK) (E : XK), sp vs H Q E → t E { nx := fun _ H' => Q .non H', rt := Q } (start N vs) H) : CalK2 P w K mg base (k + 1) x p q sp := by
  obtain ⟨fd, F⟩ := d.ex
  refine ⟨_, fd, F.ok S len fun cdv A outer s H vs Q E hr hs => ⟨t E, hb _ cdv A outer s H E hr, ht vs H Q E hs⟩, d.gm, F.kp, F.bindsN b, fun s u v => ?_⟩
  obtain ⟨oc, od, dV, kV, doc, pm, an, cdv, ct, osl, rfl, lk, hcd, hD, hK⟩ := F.ex
  rcases hD with ⟨_, rfl⟩ | ⟨e, _⟩
  · exact .of_eq (bk kV doc pm an cdv ct u v)
  · exact absurd rfl e
end
/-! ### the own exception -/
theorem oex_of {K : PySem.W.Frag} {x f : Str} (h : oexB K x f = true) : OexC K (He.ga K x) ∧ PySem.W.findIn K (.ref (He.ga K x)) f = some none ∧
    PySem.W.findIn K (.ref (He.ga K x)) "__init__" = some (some (.ref (He.ma K (He.ga K x) "__init__"))) ∧ PySem.W.typeIn K (.ref (He.ma K (He.ga K x) "__init__")) = some (.type "function") ∧ XfC K (He.ga K x) := by
  unfold oexB at h
  simp only [Bool.and_eq_true, decide_eq_true_eq] at h
  obtain ⟨h1, h2, h3, h4, h5, h6, h7, h8, h9⟩ := h
  refine ⟨⟨?_, He.eqO_ok h2, h3, h4, h5⟩, He.eqO_ok h6, He.eqO_ok h7, h8, xfB_ok h9⟩
  split at h1
  · rename_i dd cd sl e
    split at h1
    · rename_i C' bm k0 k1 k2 k3 n k5 e1 e2
      simp only [Bool.and_eq_true, beq_iff_eq, Bool.not_eq_true'] at h1
      obtain ⟨rfl, rfl, z1, z2, z3⟩ := h1
      obtain ⟨nm, bs, mro, ns, qn, hd, sn, sb, ab, col, del⟩ := cd
      dsimp only at e1 z1 z2
      subst e1 z1 z2
      have e3 : sl = #[k0, k1, k2, k3, some (.builtin "ValueError.__new__"), k5] := by
        rw [← e2]
      exact ⟨nm, qn, ns, bs, bm, sn, sb, ab, col, dd, k0, k1, k2, k3, k5, by rw [e, e3], z3⟩
    · cases h1
  · cases h1
abbrev s_init (i : Nat) : Stmt := inClass (top i) 0
theorem sc_init2 : FnScope ["self", "given"] ["self", "given"] (defScope (s_init 2)) := ⟨rfl, rfl, rfl, by decide +kernel, rfl, by decide +kernel, by decide +kernel⟩
theorem pr_init {K : PySem.W.Frag} {C : Addr} (o : OexC K C) (no : PySem.W.findIn K (.ref C) "given" = some none) (vs : List V) (H : Hp) (Q : VK) (h : spInit C "given" vs H Q (fun _ _ _ => False)) : tOst K "given" (tVar 0) (tVar 1) { nx := fun _ H' => Q .non H', rt := Q } (start ["self", "given"] vs) H := by
  obtain ⟨a, v, rfl, h1, h2⟩ := h
  exact ⟨v, rfl, .ref a, rfl, a, C, rfl, o, no, .inl ⟨h1, h2⟩⟩
theorem exo_init {P : Program} {w : World} {K : PySem.W.Frag} {mg : Str → Option Value} {base : Heap} {x q : Str} {i : Nat} {fd : FuncData} (hx : oexB K x "given" = true) (gm : mg x = some (.ref (He.ga K x)))
    (F : FunD K "__init__" q (defArgs (s_init i)) (defBody (s_init i)) (defScope (s_init i)) [] [] (He.ma K (He.ga K x) "__init__") fd) (S : FnScope ["self", "given"] ["self", "given"] (defScope (s_init i)))
    (b : ∀ (kV doc pm : Value) (an : Option Addr) (cdv ct : Value) (us : List Value), us.length = 2 → bindArgs (PySem.W.fnOf "__init__" q (defArgs (s_init i)) (defBody (s_init i)) (defScope (s_init i)) .none kV doc pm an cdv ct) ⟨us, []⟩ = pure ((["self", "given"] : List PySem.Str).zip us))
    (hb : ∀ {f : Addr} {cdv : Value} {A : Around} {outer : List Env} {s : Shared} {H : Hp} {E : XK}, PSs (cxOf (L2.CX P w) P w K mg base ["self", "given"] q (defScope (s_init i)) f cdv A outer s H E).nox (defBody (s_init i)) (tOst K "given" (tVar 0) (tVar 1))) : ExcO P w K mg base 1 x "given" (He.ga K x) := by
  obtain ⟨o, no, h1, h2, xf⟩ := oex_of hx
  refine ⟨o, no, xf, gm, _, fd, h1, h2, F.ok S (fun vs H Q E h => ?_) fun cdv A outer s H vs Q E hr hs => ⟨_, PSs.nox hb, pr_init o no vs H Q (by
    obtain ⟨a, v, e, h⟩ := hs
    exact ⟨a, v, e, h⟩)⟩, F.bindsN b⟩
  obtain ⟨a, v, rfl, _⟩ := h
  rfl
/-! ### what the top says -/
structure Sy (w : World) (K : PySem.W.Frag) (mg : Str → Option Value) : Prop where
  h : ∃ h : Heap, K.In h ∧ h.Ns mainGlobals mg
  t : He.SaysT fa fn ts w K
  e : ex2 K = true
section
variable {w : World} {K : PySem.W.Frag} {mg : Str → Option Value}
theorem Sy.def_ (c : Sy w K mg) (i j : Nat) (x : Str) (hf : fn[i]? = some (mkD j x) := by rfl) (ha : fa[i]? = some (.glo x) := by rfl) : Def K mg x (top j) := by
  obtain ⟨h, X, G⟩ := c.h
  obtain ⟨fd, F⟩ := c.t.d.def_ i hf
  exact ⟨⟨fd, F⟩, He.glo_ok X G (c.t.d.fact i ha)⟩
theorem Sy.free (c : Sy w K mg) (i : Nat) (x : Str) (ha : fa[i]? = some (.free x) := by rfl) : mg x = none := by
  obtain ⟨h, X, G⟩ := c.h
  exact He.free_ok X G (c.t.d.fact i ha)
theorem Sy.glo (c : Sy w K mg) (i : Nat) (x : Str) (ha : fa[i]? = some (.glo x) := by rfl) : mg x = some (.ref (He.ga K x)) := by
  obtain ⟨h, X, G⟩ := c.h
  exact He.glo_ok X G (c.t.d.fact i ha)
theorem Sy.str (c : Sy w K mg) (i : Nat) (x z : Str) {y : Str} (hy : z = y) (ha : fa[i]? = some (.str x z) := by rfl) : ∃ t, mg x = some (.str y t) := by
  obtain ⟨h, X, G⟩ := c.h
  subst hy
  exact He.str_ok X G (c.t.d.fact i ha)
theorem Sy.int (c : Sy w K mg) (i : Nat) (x : Str) (z : Int) (ha : fa[i]? = some (.int x z) := by rfl) : ∃ t, mg x = some (.int z t) := by
  obtain ⟨h, X, G⟩ := c.h
  exact He.int_ok X G (c.t.d.fact i ha)
theorem Sy.x (c : Sy w K mg) : oexB K "InvalidConjunction" "given" = true ∧ Exm K ∧ K.all noL = true := by
  have h := c.e
  unfold ex2 ex at h
  simp only [Bool.and_eq_true, decide_eq_true_eq] at h
  exact ⟨h.1.1, ⟨h.2⟩, h.1.2⟩
theorem Sy.top (c : Sy w K mg) : Top K w mg :=
  { f_abs := c.free 38 "abs", f_all := c.free 39 "all", f_bool := c.free 40 "bool", f_dict := c.free 41 "dict", f_int := c.free 42 "int", f_len := c.free 43 "len", f_list := c.free 44 "list", f_max := c.free 45 "max", f_min := c.free 46 "min", f_range := c.free 47 "range", f_set := c.free 48 "set", f_sorted := c.free 49 "sorted", f_str := c.free 50 "str", f_sum := c.free 51 "sum", f_tuple := c.free 52 "tuple", f_zip := c.free 53 "zip", f_isinstance := c.free 54 "isinstance", g_LETTERS := c.str 55 "LETTERS" "abcdefghijklmnopqrstuvwxyz" (by decide +kernel), g_MOST_LETTERS := c.int 56 "MOST_LETTERS" 12, g_MOST_ATOMS := c.int 57 "MOST_ATOMS" 12 }
end
end K44
set_option Elab.async false
set_option linter.all false
set_option maxRecDepth 100000
set_option maxHeartbeats 4000000
namespace K44
open PySem PySem.Spec PyProof.Rows L2 MT
open SX (S)
section
variable {P : Program} {w : World} {K : PySem.W.Frag} {mg : Str → Option Value} {base : Heap}
theorem ca_InvalidConjunction (c : Sy w K mg) : ExcO P w K mg base 1 "InvalidConjunction" "given" (He.ga K "InvalidConjunction") := by
  obtain ⟨fd, F⟩ := c.t.d.def_ 37 (d := mkI 2 "InvalidConjunction" "InvalidConjunction.__init__") rfl
  exact exo_init (i := 2) c.x.1 (c.glo 37 "InvalidConjunction") F sc_init2 (fun _ _ _ _ _ _ us hl => match us, hl with | [_, _], _ => rfl) (fun {f cdv A outer s H E} => pss_one (ps_ost (pv 0) (pv 1)))
theorem ca_is_integer (c : Sy w K mg) : Cal P w K mg base 1 "is_integer" ["value"] spIsInteger :=
  mkFn (k := 0) (c.def_ 0 6 "is_integer") sc_is_integer b_is_integer (fun vs H Q E h => by obtain ⟨_, _, rfl, _⟩ := h; rfl) (fun _ _ _ _ _ _ _ hr => d_is_integer c.top hr) pr_is_integer
theorem ca_is_between (c : Sy w K mg) : Cal P w K mg base 2 "is_between" ["value", "least", "most"] spBetween :=
  mkFn (k := 1) (c.def_ 1 7 "is_between") sc_is_between b_is_between (fun vs H Q E h => by obtain ⟨_, _, _, _, rfl, _⟩ := h; rfl) (fun _ _ _ _ _ _ _ hr => d_is_between c.top (ca_is_integer c) (by decide) hr) pr_is_between
theorem ca_is_count (c : Sy w K mg) : Cal P w K mg base 2 "is_count" ["value"] spIsCount :=
  mkFn (k := 1) (c.def_ 2 8 "is_count") sc_is_count b_is_count (fun vs H Q E h => by obtain ⟨_, _, rfl, _⟩ := h; rfl) (fun _ _ _ _ _ _ _ hr => d_is_count c.top (ca_is_integer c) (by decide) hr) pr_is_count
theorem ca_is_list (c : Sy w K mg) : Cal P w K mg base 1 "is_list" ["value"] spIsList :=
  mkFn (k := 0) (c.def_ 3 9 "is_list") sc_is_list b_is_list (fun vs H Q E h => by obtain ⟨_, _, rfl, _⟩ := h; rfl) (fun _ _ _ _ _ _ _ hr => d_is_list c.top hr) pr_is_list
theorem ca_is_tuple_of (c : Sy w K mg) : Cal P w K mg base 1 "is_tuple_of" ["value", "many"] spTupleOf :=
  mkFn (k := 0) (c.def_ 4 10 "is_tuple_of") sc_is_tuple_of b_is_tuple_of (fun vs H Q E h => by obtain ⟨_, _, _, rfl, _⟩ := h; rfl) (fun _ _ _ _ _ _ _ hr => d_is_tuple_of c.top hr) pr_is_tuple_of
theorem ca_ascends (c : Sy w K mg) : Cal P w K mg base 1 "ascends" ["items"] spAscends :=
  mkFn (k := 0) (c.def_ 5 11 "ascends") sc_ascends b_ascends (fun vs H Q E h => by obtain ⟨_, _, rfl, _⟩ := h; rfl) (fun _ _ _ _ _ _ _ hr => d_ascends c.top hr) pr_ascends
theorem ca_is_word (c : Sy w K mg) : Cal P w K mg base 1 "is_word" ["value"] spIsWord :=
  mkFn (k := 0) (c.def_ 6 12 "is_word") sc_is_word b_is_word (fun vs H Q E h => by obtain ⟨_, _, rfl, _⟩ := h; rfl) (fun _ _ _ _ _ _ _ hr => d_is_word c.top hr) pr_is_word
theorem ca_is_join_atom (c : Sy w K mg) : Cal P w K mg base 3 "is_join_atom" ["many", "value"] spJoinAtom :=
  mkFn (k := 2) (c.def_ 7 15 "is_join_atom") sc_is_join_atom b_is_join_atom (fun vs H Q E h => by obtain ⟨_, _, _, rfl, _⟩ := h; rfl) (fun _ _ _ _ _ _ _ hr => d_is_join_atom c.top (ca_is_tuple_of c) (by decide) (ca_is_word c) (by decide) (ca_is_between c) (by decide) hr) pr_is_join_atom
theorem ca_is_join_conjunction (c : Sy w K mg) : Cal P w K mg base 4 "is_join_conjunction" ["value"] spJoinConj :=
  mkFn (k := 3) (c.def_ 8 16 "is_join_conjunction") sc_is_join_conjunction b_is_join_conjunction (fun vs H Q E h => by obtain ⟨_, _, rfl, _⟩ := h; rfl) (fun _ _ _ _ _ _ _ hr => d_is_join_conjunction c.top (ca_is_tuple_of c) (by decide) (ca_is_count c) (by decide) (ca_is_list c) (by decide) (ca_is_join_atom c) (by decide) hr) pr_is_join_conjunction
theorem ca_check_conjunction (c : Sy w K mg) : Cal P w K mg base 5 "check_conjunction" ["conjunction"] (spCheck K) :=
  mkFnX (k := 4) (c.def_ 9 17 "check_conjunction") sc_check_conjunction b_check_conjunction (fun vs H Q E h => by obtain ⟨_, _, rfl, _⟩ := h; rfl) (t := t_check_conjunction K spJoinConj) (fun _ _ _ _ _ _ _ hr => d_check_conjunction c.top (ca_is_join_conjunction c) (by decide) (ca_InvalidConjunction c) (by decide) hr) pr_check_conjunction
theorem ca_variables_left (c : Sy w K mg) : Cal P w K mg base 1 "variables_left" ["atoms", "left"] spVarsLeft :=
  mkFn (k := 0) (c.def_ 10 18 "variables_left") sc_variables_left b_variables_left (fun vs H Q E h => by obtain ⟨_, _, _, _, rfl, _⟩ := h; rfl) (fun _ _ _ _ _ _ _ hr => d_variables_left c.top hr) pr_variables_left
theorem ca_next_out (c : Sy w K mg) : Cal P w K mg base 2 "next_out" ["atoms", "left", "kept"] spNextOut :=
  mkFn (k := 1) (c.def_ 11 19 "next_out") sc_next_out b_next_out (fun vs H Q E h => by obtain ⟨_, _, _, _, _, _, rfl, _⟩ := h; rfl) (fun _ _ _ _ _ _ _ hr => d_next_out c.top (ca_variables_left c) (by decide) hr) pr_next_out
theorem ca_struck_out (c : Sy w K mg) : Cal P w K mg base 3 "struck_out" ["atoms", "kept"] spStruckOut :=
  mkFn (k := 2) (c.def_ 12 20 "struck_out") sc_struck_out b_struck_out (fun vs H Q E h => by obtain ⟨_, _, _, _, rfl, _⟩ := h; rfl) (fun _ _ _ _ _ _ _ hr => d_struck_out c.top (ca_next_out c) (by decide) hr) pr_struck_out
theorem ca_join_tree (c : Sy w K mg) : CalK P w K mg base 6 "join_tree" "conjunction" (spJoinTree K) :=
  mkFnK (k := 5) (c.def_ 13 21 "join_tree") sc_join_tree b_join_tree (fun _ _ _ _ _ _ _ => rfl) (fun vs H Q E h => by obtain ⟨_, _, rfl, _⟩ := h; rfl) (t := t_join_tree K (spCheck K) spStruckOut) (fun _ _ _ _ _ _ _ hr => d_join_tree c.top (ca_check_conjunction c) (by decide) (ca_struck_out c) (by decide) hr) pr_join_tree
theorem ca_is_ring (c : Sy w K mg) : CalK2 P w K mg base 6 "is_ring" "conjunction" "value" (spIsRing K) :=
  mkFnK2 (k := 5) (c.def_ 14 22 "is_ring") sc_is_ring b_is_ring (fun _ _ _ _ _ _ _ _ => rfl) (fun vs H Q E h => by obtain ⟨_, _, _, _, rfl, _⟩ := h; rfl) (t := t_is_ring K (spCheck K) spIsList spBetween spAscends spStruckOut spNextOut) (fun _ _ _ _ _ _ _ hr => d_is_ring c.top (ca_check_conjunction c) (by decide) (ca_is_list c) (by decide) (ca_is_between c) (by decide) (ca_ascends c) (by decide) (ca_struck_out c) (by decide) (ca_next_out c) (by decide) hr) pr_is_ring
theorem ca_are_links (c : Sy w K mg) : Cal P w K mg base 3 "are_links" ["many", "value"] spAreLinks :=
  mkFn (k := 2) (c.def_ 15 23 "are_links") sc_are_links b_are_links (fun vs H Q E h => by obtain ⟨_, _, _, rfl, _⟩ := h; rfl) (fun _ _ _ _ _ _ _ hr => d_are_links c.top (ca_is_list c) (by decide) (ca_is_tuple_of c) (by decide) (ca_is_between c) (by decide) (ca_ascends c) (by decide) hr) pr_are_links
theorem ca_way_up (c : Sy w K mg) : Cal P w K mg base 1 "way_up" ["parents", "index"] spWayUp :=
  mkFn (k := 0) (c.def_ 16 24 "way_up") sc_way_up b_way_up (fun vs H Q E h => by obtain ⟨_, _, _, _, rfl, _⟩ := h; rfl) (fun _ _ _ _ _ _ _ hr => d_way_up c.top hr) pr_way_up
theorem ca_between (c : Sy w K mg) : Cal P w K mg base 2 "between" ["parents", "one", "other"] spBetw :=
  mkFn (k := 1) (c.def_ 17 25 "between") sc_between b_between (fun vs H Q E h => by obtain ⟨_, _, _, _, _, rfl, _⟩ := h; rfl) (fun _ _ _ _ _ _ _ hr => d_between c.top (ca_way_up c) (by decide) hr) pr_between
theorem ca_hangs_together (c : Sy w K mg) : Cal P w K mg base 3 "hangs_together" ["atoms", "parents", "x"] spHangs :=
  mkFn (k := 2) (c.def_ 18 26 "hangs_together") sc_hangs_together b_hangs_together (fun vs H Q E h => by obtain ⟨_, _, _, _, _, _, rfl, _⟩ := h; rfl) (fun _ _ _ _ _ _ _ hr => d_hangs_together c.top (ca_between c) (by decide) hr) pr_hangs_together
theorem ca_is_tree_of (c : Sy w K mg) : Cal P w K mg base 4 "is_tree_of" ["conjunction", "value"] spIsTreeOf :=
  mkFn (k := 3) (c.def_ 19 27 "is_tree_of") sc_is_tree_of b_is_tree_of (fun vs H Q E h => by obtain ⟨_, _, _, _, rfl, _⟩ := h; rfl) (fun _ _ _ _ _ _ _ hr => d_is_tree_of c.top (ca_are_links c) (by decide) (ca_way_up c) (by decide) (ca_hangs_together c) (by decide) hr) pr_is_tree_of
theorem ca_is_join_tree (c : Sy w K mg) : CalK2 P w K mg base 6 "is_join_tree" "conjunction" "value" (spIsJoinTree K) :=
  mkFnK2 (k := 5) (c.def_ 20 28 "is_join_tree") sc_is_join_tree b_is_join_tree (fun _ _ _ _ _ _ _ _ => rfl) (fun vs H Q E h => by obtain ⟨_, _, _, _, rfl, _⟩ := h; rfl) (t := t_is_join_tree K (spCheck K) spIsTreeOf) (fun _ _ _ _ _ _ _ hr => d_is_join_tree c.top (ca_check_conjunction c) (by decide) (ca_is_tree_of c) (by decide) hr) pr_is_join_tree
theorem ca_law_cell (c : Sy w K mg) : Cal P w K mg base 1 "_law_cell" ["script", "k"] spCell :=
  mkFn (k := 0) (c.def_ 21 30 "_law_cell") sc_law_cell b_law_cell (fun vs H Q E h => by obtain ⟨_, _, _, _, rfl, _⟩ := h; rfl) (fun _ _ _ _ _ _ _ hr => d_law_cell c.top hr) pr_law_cell
theorem ca_law_box (c : Sy w K mg) : Cal P w K mg base 1 "_law_box" ["great"] spBox :=
  mkFn (k := 0) (c.def_ 22 31 "_law_box") sc_law_box b_law_box (fun vs H Q E h => by obtain ⟨_, rfl, _⟩ := h; rfl) (fun _ _ _ _ _ _ _ hr => d_law_box c.top hr) pr_law_box
theorem ca_law_take (c : Sy w K mg) : Cal P w K mg base 1 "_law_take" ["box", "many"] spTake :=
  mkFn (k := 0) (c.def_ 23 32 "_law_take") sc_law_take b_law_take (fun vs H Q E h => by obtain ⟨_, _, _, rfl, _⟩ := h; rfl) (fun _ _ _ _ _ _ _ hr => d_law_take c.top hr) pr_law_take
theorem ca_law_mixed (c : Sy w K mg) : Cal P w K mg base 2 "_law_mixed" ["box", "items"] spMixed :=
  mkFn (k := 1) (c.def_ 24 33 "_law_mixed") sc_law_mixed b_law_mixed (fun vs H Q E h => by obtain ⟨_, _, _, _, rfl, _⟩ := h; rfl) (fun _ _ _ _ _ _ _ hr => d_law_mixed c.top (ca_law_take c) (by decide) hr) pr_law_mixed
theorem ca_law_same (c : Sy w K mg) : ∀ n : Nat, Cal P w K mg base (n + 2) "_law_same" ["told", "due"] (spSame n)
  | 0 => mkFn (k := 1) (c.def_ 25 34 "_law_same") sc_law_same b_law_same (fun vs H Q E h => by obtain ⟨_, _, _, rfl, _⟩ := h; rfl) (fun _ _ _ _ _ _ _ hr => d_law_same c.top (mkNo (c.def_ 25 34 "_law_same") sc_law_same b_law_same) (by omega) hr) (pr_law_same (n := 0) (fun m e => by cases e))
  | n + 1 => by
    have ih := ca_law_same c n
    have r := mkFn (P := P) (base := base) (k := n + 2) (c.def_ 25 34 "_law_same") sc_law_same b_law_same (fun vs H Q E h => by obtain ⟨_, _, _, rfl, _⟩ := h; rfl) (fun _ _ _ _ _ _ _ hr => d_law_same c.top ih (by omega) hr) (pr_law_same (n := n + 1) (fun m e vs H Q E h => by cases e; exact h))
    exact r.mono (by omega)
theorem ca_law_grow0 (c : Sy w K mg) : Cal P w K mg base 2 "_law_grow" ["value"] spGrow0 :=
  mkFn (k := 1) (c.def_ 26 35 "_law_grow") sc_law_grow b_law_grow (fun vs H Q E h => by obtain ⟨_, rfl, _⟩ := h; rfl) (fun _ _ _ _ _ _ _ hr => d_law_grow c.top (mkNo (c.def_ 26 35 "_law_grow") sc_law_grow b_law_grow) (by decide) hr) pr_law_grow0
theorem ca_law_grow (c : Sy w K mg) : Cal P w K mg base 3 "_law_grow" ["value"] spGrow :=
  mkFn (k := 2) (c.def_ 26 35 "_law_grow") sc_law_grow b_law_grow (fun vs H Q E h => by obtain ⟨_, rfl, _⟩ := h; rfl) (fun _ _ _ _ _ _ _ hr => d_law_grow c.top (ca_law_grow0 c) (by decide) hr) (pr_law_grow fun _ _ _ _ h => h)
theorem ca_law_is_below (c : Sy w K mg) : Cal P w K mg base 1 "_law_is_below" ["value", "many"] spBelow :=
  mkFn (k := 0) (c.def_ 27 36 "_law_is_below") sc_law_is_below b_law_is_below (fun vs H Q E h => by obtain ⟨_, _, _, rfl, _⟩ := h; rfl) (fun _ _ _ _ _ _ _ hr => d_law_is_below c.top hr) pr_law_is_below
theorem ca_law_left_out (c : Sy w K mg) : Cal P w K mg base 1 "_law_left_out" ["atoms", "order", "kept"] spLeftOut :=
  mkFn (k := 0) (c.def_ 28 37 "_law_left_out") sc_law_left_out b_law_left_out (fun vs H Q E h => by obtain ⟨_, _, _, _, _, _, rfl, _⟩ := h; rfl) (fun _ _ _ _ _ _ _ hr => d_law_left_out c.top hr) pr_law_left_out
theorem ca_law_is_tree (c : Sy w K mg) : Cal P w K mg base 2 "_law_is_tree" ["atoms", "value"] spLawTree :=
  mkFn (k := 1) (c.def_ 29 38 "_law_is_tree") sc_law_is_tree b_law_is_tree (fun vs H Q E h => by obtain ⟨_, _, _, _, rfl, _⟩ := h; rfl) (fun _ _ _ _ _ _ _ hr => d_law_is_tree c.top (ca_law_is_below c) (by decide) hr) pr_law_is_tree
theorem ca_law_is_left (c : Sy w K mg) : Cal P w K mg base 2 "_law_is_left" ["atoms", "value"] spLawLeft :=
  mkFn (k := 1) (c.def_ 30 39 "_law_is_left") sc_law_is_left b_law_is_left (fun vs H Q E h => by obtain ⟨_, _, _, _, rfl, _⟩ := h; rfl) (fun _ _ _ _ _ _ _ hr => d_law_is_left c.top (ca_law_is_below c) (by decide) (ca_law_left_out c) (by decide) hr) pr_law_is_left
theorem ca_law_conjunction (c : Sy w K mg) : Cal P w K mg base 3 "_law_conjunction" ["box", "names", "most"] spConj :=
  mkFn (k := 2) (c.def_ 31 40 "_law_conjunction") sc_law_conjunction b_law_conjunction (fun vs H Q E h => by obtain ⟨_, _, _, _, rfl, _⟩ := h; rfl) (fun _ _ _ _ _ _ _ hr => d_law_conjunction c.top (ca_law_take c) (by decide) (ca_law_mixed c) (by decide) hr) pr_law_conjunction
theorem ca_law_asked (c : Sy w K mg) : Cal P w K mg base 7 "_law_asked" ["word", "conjunction", "value", "named"] spAsked :=
  mkFn (k := 6) (c.def_ 32 41 "_law_asked") sc_law_asked b_law_asked (fun vs H Q E h => by obtain ⟨_, _, _, _, _, _, rfl, _⟩ := h; rfl) (fun _ _ _ _ _ _ _ hr => d_law_asked c.top (ca_join_tree c) (by decide) (ca_is_join_tree c) (by decide) (ca_is_ring c) (by decide) (ca_InvalidConjunction c) hr) (pr_law_asked c.x.2.1)
theorem ca_law_near (c : Sy w K mg) : Cal P w K mg base 3 "_law_near" ["box", "atoms", "links", "left"] spNear :=
  mkFn (k := 2) (c.def_ 33 42 "_law_near") sc_law_near b_law_near (fun vs H Q E h => by obtain ⟨_, _, _, _, _, _, _, _, _, rfl, _⟩ := h; rfl) (fun _ _ _ _ _ _ _ hr => d_law_near c.top (ca_law_take c) (by decide) (ca_law_mixed c) (by decide) hr) pr_law_near
theorem ca_law_conjunction_right (c : Sy w K mg) : Cal P w K mg base 11 "_law_conjunction_right" ["box", "conjunction", "named"] spRight :=
  mkFn (k := 10) (c.def_ 34 43 "_law_conjunction_right") sc_law_conjunction_right b_law_conjunction_right (fun vs H Q E h => by obtain ⟨_, _, _, _, _, rfl, _⟩ := h; rfl) (fun _ _ _ _ _ _ _ hr => d_law_conjunction_right c.top (ca_law_left_out c) (by decide) (ca_law_mixed c) (by decide) (ca_law_asked c) (by decide) (ca_law_same c 8) (by decide) (ca_law_is_left c) (by decide) (ca_law_is_tree c) (by decide) (ca_law_near c) (by decide) hr) pr_law_conjunction_right
theorem ca_law_refused (c : Sy w K mg) : Cal P w K mg base 11 "_law_refused" ["box", "conjunction", "named"] spRefused :=
  mkFn (k := 10) (c.def_ 35 44 "_law_refused") sc_law_refused b_law_refused (fun vs H Q E h => by obtain ⟨_, _, _, _, _, rfl, _⟩ := h; rfl) (fun _ _ _ _ _ _ _ hr => d_law_refused c.top (ca_law_take c) (by decide) (ca_law_asked c) (by decide) (ca_law_same c 8) (by decide) (ca_law_grow c) (by decide) hr) pr_law_refused
theorem ca_law (c : Sy w K mg) : Cal P w K mg base 12 "law" ["script"] spLaw :=
  mkFn (k := 11) (c.def_ 36 45 "law") sc_law b_law (fun vs H Q E h => by obtain ⟨_, _, _, rfl, _⟩ := h; rfl) (fun _ _ _ _ _ _ _ hr => d_law c.top (ca_law_box c) (by decide) (ca_law_cell c) (by decide) (ca_law_take c) (by decide) (ca_law_conjunction_right c) (by decide) (ca_law_conjunction c) (by decide) (ca_law_refused c) (by decide) hr) pr_law
end
end K44
set_option Elab.async false
set_option linter.all false
set_option maxRecDepth 100000
set_option maxHeartbeats 0
namespace K44
open PySem PySem.Spec PyProof.Rows L2 MT
abbrev hk2 : PySem.W.Hook := He.hookX 6 fa fn ts [] ex2
def ob2 (s : PySem.W.SharedT) : He.AlX := He.obsX 6 fa fn ts [] ex2 (HandSHeadRun.getT s)
theorem ob2_eq (s : PySem.W.SharedT) : ob2 s = hk2.obs s.abs := He.obsX_eq (HandSHeadRun.getT_eq s)
theorem run2_f (w : World) : HandSHeadRun.RunEq R (PySem.W.view R.prog [45]) hk2 ob2 6000 loose (w.withFollow "special-get-raises" false) := by
  intro os
  kernel_rfl
theorem run2_t (w : World) : HandSHeadRun.RunEq R (PySem.W.view R.prog [45]) hk2 ob2 6000 loose (w.withFollow "special-get-raises" true) := by
  intro os
  kernel_rfl
theorem run2 (w : World) : HandSHeadRun.RunEq R (PySem.W.view R.prog [45]) hk2 ob2 6000 loose w := PySem.W.byRow2 "special-get-raises" (P := fun w => HandSHeadRun.RunEq R (PySem.W.view R.prog [45]) hk2 ob2 6000 loose w) run2_f run2_t w
theorem facts {P : Program} {w : World} {K : PySem.W.Frag} {h : Heap} {mg : Str → Option Value} {f : Addr} (X : K.In h) (G : h.Ns mainGlobals mg) (hfa : mg ("law" : Str) = some (.ref f)) (c0 : He.SaysX fa fn ts [] ex2 w h K) :
    ∃ fd : FuncData, (∀ (s : Shared) (v : Value), BindsTo s fd ⟨[v], []⟩ [("script", v)]) ∧ K.all noL = true ∧ ∀ base : Heap, K.In base → base.Ns mainGlobals mg → FnOk P w K mg base (L2.CX P w) 12 f fd ["script"] spLaw := by
  have c : Sy w K mg := ⟨⟨h, X, G⟩, c0.t, c0.more⟩
  obtain ⟨fd, F⟩ := c0.t.d.def_ 36 (d := mkD 45 "law") rfl
  have e := hfa.symm.trans (c.glo 36 "law")
  cases e
  have b := FunD.bindsA (ps := ["script"]) F fun _ _ _ _ _ _ us hl => match us, hl with | [_], _ => rfl
  refine ⟨fd, fun s v => b s [v] rfl, c.x.2.2, fun base _ _ => ?_⟩
  exact F.ok sc_law (fun vs H Q E h => by obtain ⟨_, _, _, rfl, _⟩ := h; rfl) fun cdv A outer s H vs Q E hr hs => ⟨_, PSs.nox (d_law c.top (ca_law_box c) (by decide) (ca_law_cell c) (by decide) (ca_law_take c) (by decide) (ca_law_conjunction_right c) (by decide) (ca_law_conjunction c) (by decide) (ca_law_refused c) (by decide) hr), pr_law vs H Q E hs⟩
theorem script_at {K : PySem.W.Frag} (hK : K.all noL = true) {H : Hp} {a : Addr} {xs : List V} (hO : Only H) (hS : SqL K H a xs) : ∃ o, H a = some (.frz o (.lst xs)) := by
  rcases hS with (h | ⟨o, h⟩) | ⟨o, its, n, h, hc, _⟩
  · rcases hO a with z | ⟨o, ys, z⟩
    · rw [h] at z; cases z
    · rw [h] at z; cases z
  · exact ⟨o, h⟩
  · exact absurd hc (no_list hK h)
end K44
open PySem PySem.W PySem.Calls PyProof.Rows
theorem PySem.Challenge.cw_madetables_k44_whole_join_trees_holds : PySem.Challenge.rw_madetables_k44_whole_join_trees.Holds := by
  w_on; o_law
  refine HandSHeadRun.head_any (r := OpenLaw.row PySem.Challenge.rw_madetables_k44_whole_join_trees) (q := view (OpenLaw.row PySem.Challenge.rw_madetables_k44_whole_join_trees).prog [45]) (H := K44.hk2) (ob := K44.ob2) (M := 6000) (loose := K44.loose) (d := HandSHeadRun.topDef (OpenLaw.row PySem.Challenge.rw_madetables_k44_whole_join_trees).prog 45) (kwd := []) K44.ob2_eq
    (by kernel_rfl) (fun s => by kernel_rfl) K44.run2 (by kernel_rfl) (by kernel_rfl) (by kernel_rfl) (by rfl) (by first | assumption | decide +kernel) (by decide +kernel) ⟨rfl, rfl, rfl, rfl, rfl, by decide +kernel⟩ ?hw ?hc
  case hw => w_witness2
  case hc =>
    refine Att.attach_call (l := PySem.Challenge.rw_madetables_k44_whole_join_trees) (n := 63) rfl (by kernel_rfl) fun w s₀ s₁ mg mb fa o pm cd doc a vs ns G Y ho hd hcd hmg0 hobj hints hlen hg => ?_
    obtain ⟨K, KX, c⟩ := Y
    have hmg : mg ("law" : PySem.Str) = some (.ref fa) := by
      have e : (HandSHeadRun.topDef (OpenLaw.row PySem.Challenge.rw_madetables_k44_whole_join_trees).prog 45).name = ("law" : PySem.Str) := by kernel_rfl
      rw [← e]
      exact hmg0
    obtain ⟨fd, hb, hK, hF⟩ := K44.facts (P := (PySem.Challenge.rw_madetables_k44_whole_join_trees).prog) (w := w) KX G.T.g hmg c
    refine L2.law_call (x := "script") KX G.T.g G.T.b G.T.builtins G.T.nolimit hg hobj hints (Nat.le_trans hlen (by decide)) (k := 12) ⟨rfl, by decide, by decide⟩ hF hb (fun H hO hS => ?_) fun H e s' z => by obtain ⟨_, _, _, _, _, _, _, _, _, _, _, _, z⟩ := z; exact z
    obtain ⟨o, e⟩ := K44.script_at hK hO hS
    exact ⟨a, ns, o, rfl, e, by omega, fun _ _ => rfl⟩
